import PyProof.Rows.All
import Wide.All
import OpenK.AllK
import Wide.FinOn
import KE.KStateDown
import HandS.ForMost
import HandS.Head0
import HandS.Head1
import HandS.Head2
import HandS.HeadHook1
import HandS.FStr
import HandS.Text
import HandS.ForExc
import HandS.CallSlots
import HandS.IsInst
import HandS.DictComp
import HandS.Deep
import HandS.Conv
import HandS.Style
import HandS.TryMany
import HandS.ExcInit
import HandS.TupAny
import HandS.Strs
import HandS.ExcField
import KE.KExcIs
import HandS.ClsMeth
import HandS.ExcSuper
import KE.KSuper
import KE.KExcSuper
import HandS.TryOnly
import PyProof.Rows.MatchSeqLen
import HandS.HeadEnd
import PySem.Challenge.RW_kindsteps_k91_errors
set_option Elab.async false
set_option linter.all false
set_option maxRecDepth 100000
set_option maxHeartbeats 2000000
/-! MVG: the module's head, looked at: a part of the heap, facts on it, the Hook. -/
namespace MS
open PySem PySem.Spec PyProof.Rows L2
/-! ### a part of the heap, forced -/
def frH (g : Addr → Option Obj) : List Addr → PySem.W.Frag → PySem.W.Frag
  | [], K => K
  | a :: r, K => match g a with
    | some o => frH g r ((a, o) :: K)
    | none => frH g r K
def wiH {α : Type} (g : Addr → Option Obj) : List Addr → PySem.W.Frag → (PySem.W.Frag → α) → α
  | [], K, k => k K
  | a :: r, K, k => match g a with
    | some ⟨c, d, dt, sl⟩ => HandSHeadRun.frNat a fun a => wiH g r ((a, ⟨c, d, dt, sl⟩) :: K) k
    | none => wiH g r K k
theorem wiH_eq {α : Type} {g : Addr → Option Obj} {k : PySem.W.Frag → α} : ∀ (as : List Addr) (K : PySem.W.Frag), wiH g as K k = k (frH g as K)
  | [], K => rfl
  | a :: r, K => by
    unfold wiH frH
    cases e : g a with
    | none => exact wiH_eq r K
    | some o =>
      obtain ⟨c, d, dt, sl⟩ := o
      show HandSHeadRun.frNat a (fun a => wiH g r ((a, ⟨c, d, dt, sl⟩) :: K) k) = _
      rw [HandSHeadRun.frNat_eq]
      exact wiH_eq r _
def foL {α : Type} : List Addr → (List Addr → α) → α
  | [], k => k []
  | a :: r, k => HandSHeadRun.frNat a fun a => foL r fun r => k (a :: r)
theorem foL_eq {α : Type} : ∀ (as : List Addr) (k : List Addr → α), foL as k = k as
  | [], k => rfl
  | a :: r, k => by
    show HandSHeadRun.frNat a (fun a => foL r fun r => k (a :: r)) = _
    rw [HandSHeadRun.frNat_eq, foL_eq r]
theorem frH_all {g : Addr → Option Obj} : ∀ (as : List Addr) (K : PySem.W.Frag), (∀ p ∈ K, g p.1 = some p.2) → ∀ p ∈ frH g as K, g p.1 = some p.2
  | [], K, h => h
  | a :: r, K, h => by
    unfold frH
    cases e : g a with
    | none => exact frH_all r K h
    | some o =>
      refine frH_all r _ ?_
      intro p hp
      rcases List.mem_cons.mp hp with q | q
      · rw [q]; exact e
      · exact h p q
theorem look_mem {a : Addr} {o : Obj} : ∀ K : PySem.W.Frag, K.lookup a = some o → (a, o) ∈ K
  | [], h => nomatch h
  | (b, p) :: r, h => by
    have h1 : (match a == b with | true => some p | false => List.lookup a r) = some o := h
    cases q : (a == b) with
    | true =>
      rw [q] at h1
      rw [beq_iff_eq.mp q, ← Option.some.inj h1]
      exact .head _
    | false =>
      rw [q] at h1
      exact .tail _ (look_mem r h1)
theorem inH_of {K : PySem.W.Frag} {h : Heap} (q : ∀ p ∈ K, h.get? p.1 = some p.2) : K.In h := fun _ _ e => q _ (look_mem K e)
def refH (o : Obj) : List Addr := match o.data with
  | .dict es _ => es.toList.flatMap fun e => He.refV e.val
  | .func fd => He.refV fd.code ++ fd.closure.map fun p => p.2
  | .cls cd => cd.ns :: cd.mro.flatMap He.refV
  | _ => []
def grH (g : Addr → Option Obj) (as : List Addr) : List Addr := (as ++ as.flatMap fun a => match g a with
  | some o => refH o
  | none => []).eraseDups
/-! ### what is looked at -/
abbrev FnH : Type := Option (Str × Str × Arguments × FuncBody × Scope × Addr × List Str × Value × Addr)
def fnOb (K : PySem.W.Frag) (f : Addr) : FnH := match K.lookup f with
  | some ⟨_, _, .func fd, _⟩ => some (fd.name, fd.qualname, fd.params, fd.body, fd.scope, fd.globals, fd.closure.map (fun p => p.1), fd.defaults, fd.builtins)
  | _ => none
def fnVa (n q : Str) (st : Stmt) (cl : List Str) : FnH := some (n, q, defArgs st, .stmts (defBody st), defScope st, mainGlobals, cl, .none, builtinsNs)
def codB (K : PySem.W.Frag) (f : Addr) (q : Str) : Bool := match K.lookup f with
  | some ⟨_, _, .func fd, _⟩ => PySem.W.codeIn K fd.code q
  | _ => false
def cloB (K : PySem.W.Frag) (pf : Str) (f C : Addr) (q : Str) : Bool := match K.lookup f with
  | some ⟨_, _, .func fd, _⟩ => (match fd.code, fd.closure with
    | .ref cda, [(_, cc)] => (match K.lookup cda, K.lookup cc with
      | some ⟨_, _, .fields vs, _⟩, some ⟨_, _, .cell (some (Value.ref D)), _⟩ => (match vs[2]? with
        | some (Value.str file _) => PySem.W.codeIn K (.ref cda) q && ((pf == file) && (decide (D = C) && (PySem.W.clsIn K C).isSome))
        | _ => false)
      | _, _ => false)
    | _, _ => false)
  | _ => false
/-- bases of one's own ahead of these -/
def tlH (tl : List Value) : List Value → Bool
  | .ref _ :: r => tlH tl r
  | l => l == tl
def excB (K : PySem.W.Frag) (tl : List Value) (X : Addr) (newId : String) : Bool := match K.lookup X with
  | some ⟨.type t, _, .cls cd, sl⟩ => decide (t = "type") && (match cd.mro, sl.toList with
    | .ref C :: bm, [_, _, _, _, some (.builtin n), _] => decide (C = X) && (decide (n = newId) && (cd.hasDict && (!cd.hasDel && tlH tl bm)))
    | _, _ => false)
  | _ => false
def intB (K : PySem.W.Frag) (x : Str) (i : Int) : Bool := match PySem.W.nsIn K mainGlobals x with
  | some (some (.int j _)) => decide (j = i)
  | _ => false
def strB (K : PySem.W.Frag) (x z : Str) : Bool := match PySem.W.nsIn K mainGlobals x with
  | some (some (.str j _)) => decide (j = z)
  | _ => false
/-! ### the Hook -/
abbrev AlH : Type := Bool × List FnH
def obH (ns : List Str) (fb : PySem.W.Frag → Bool) (fo : PySem.W.Frag → List FnH) (g : Addr → Option Obj) : AlH :=
  wiH g [mainGlobals] [] fun K0 => foL (ns.map fun x => He.ga K0 x) fun a1 => foL (grH g a1) fun a2 => foL (grH g a2) fun a3 => foL (grH g a3) fun a4 =>
    wiH g a4 [] fun K4 => wiH g [PySem.cStatics, mainGlobals] K4 fun K => (fb K, fo K)
theorem obH_eq (ns : List Str) (fb : PySem.W.Frag → Bool) (fo : PySem.W.Frag → List FnH) (h : Heap) : ∃ K : PySem.W.Frag, K.In h ∧ obH ns fb fo h.get? = (fb K, fo K) := by
  unfold obH
  simp only [wiH_eq, foL_eq]
  exact ⟨_, inH_of (frH_all _ _ (frH_all _ [] fun p hp => absurd hp List.not_mem_nil)), rfl⟩
def hkH (ns : List Str) (fb : PySem.W.Frag → Bool) (fo : PySem.W.Frag → List FnH) (fv : List FnH) : PySem.W.Hook where
  α := AlH
  obs := fun s => obH ns fb fo s.heap.get?
  val := fun _ => (true, fv)
  says := fun _ h => ∃ K : PySem.W.Frag, K.In h ∧ fb K = true ∧ fo K = fv
  of := fun _ s e => by
    obtain ⟨K, hK, q⟩ := obH_eq ns fb fo s.heap
    have e := q.symm.trans e
    exact ⟨K, hK, congrArg (fun z : AlH => z.1) e, congrArg (fun z : AlH => z.2) e⟩
  keeps := fun _ _ _ ⟨K, hK, c⟩ k => ⟨K, PySem.W.Frag.In.keeps hK k, c⟩
theorem obH_get {ns : List Str} {fb : PySem.W.Frag → Bool} {fo : PySem.W.Frag → List FnH} {fv : List FnH} (s : PySem.W.SharedT) :
    obH ns fb fo (HandSHeadRun.getT s) = (hkH ns fb fo fv).obs s.abs := by
  have e : HandSHeadRun.getT s = s.abs.heap.get? := funext (HandSHeadRun.getT_eq s)
  rw [e] <;> rfl
end MS

set_option Elab.async false
set_option linter.all false
set_option maxRecDepth 100000
/-! MSA: trees, the abstract heap, the small interpreter. -/
namespace MS
open PySem

/-- a value as a tree; what is in it never changes -/
inductive T where
  | non | bl (b : Bool) | int (i : Int) | str (s : Str)
  | tup (xs : List T) | lst (xs : List T)
  | dct (kvs : List (T × T))
  | ins (c : Nat) (fs : List (Nat × T))
  | scr (ns : List Int)
  | xo (c : Nat) (a : Option Str)
  deriving Inhabited
/-- a tree, or a thing that may still change -/
inductive Val where
  | t (x : T) | ref (n : Nat)
  deriving Inhabited
inductive Ob where
  | lst (vs : List Val) | dct (kvs : List (T × Val)) | ins (c : Nat) (fs : List (Nat × Val)) | frz (x : T)
  deriving Inhabited
structure Ex where
  c : Nat
  a : Option T
inductive RH (α : Type) where
  | ok (a : α) (h : List Ob) | exc (e : Ex) (h : List Ob) | bad
def MH (α : Type) := List Ob → RH α
namespace MH
def pure {α : Type} (a : α) : MH α := fun h => .ok a h
def bind {α β : Type} (m : MH α) (f : α → MH β) : MH β := fun h => match m h with
  | .ok a h' => f a h'
  | .exc e h' => .exc e h'
  | .bad => .bad
end MH
instance : Monad MH where
  pure := MH.pure
  bind := MH.bind
def bad {α : Type} : MH α := fun _ => .bad
def rai {α : Type} (e : Ex) : MH α := fun h => .exc e h
def chk (b : Bool) : MH Unit := if b then pure () else bad
def noexc {α : Type} (m : MH α) : MH α := fun h => match m h with
  | .exc _ _ => .bad
  | r => r
abbrev Loc := List (Option Val)

/-- the line of sizes -/
abbrev SL : Nat := sizeLine

/-! ### cells -/
def nrm (v : Val) (h : List Ob) : Val := match v with
  | .ref n => match h[n]? with
    | some (.frz x) => .t x
    | _ => v
  | v => v
def new (o : Ob) : MH Val := fun h => .ok (.ref h.length) (h ++ [o])
def put (n : Nat) (o : Ob) : MH Unit := fun h => .ok () (h.set n o)

def mp {α β : Type} (f : α → MH β) : List α → MH (List β)
  | [] => pure []
  | x :: xs => do
    let y ← f x
    let ys ← mp f xs
    pure (y :: ys)

/-- freeze: what it is from now on -/
def fzw (n : Nat) (x : T) : MH T := fun h => .ok x (h.set n (.frz x))
def fzn : Nat → Val → MH T
  | _, .t x => pure x
  | 0, .ref _ => bad
  | k + 1, .ref n => fun h => match h[n]? with
    | some (.frz x) => .ok x h
    | some (.lst vs) => MH.bind (mp (fzn k) vs) (fun ts => fzw n (.lst ts)) h
    | some (.dct kvs) => MH.bind (mp (fzn k) (kvs.map (·.2))) (fun ts => fzw n (.dct ((kvs.map (·.1)).zip ts))) h
    | some (.ins c fs) => MH.bind (mp (fzn k) (fs.map (·.2))) (fun ts => fzw n (.ins c ((fs.map (·.1)).zip ts))) h
    | none => .bad
def pur (v : Val) : MH T := fzn 8 v

/-- read only: what it is now -/
def snapL {α : Type} (f : α → List Ob → Option T) : List α → List Ob → Option (List T)
  | [], _ => some []
  | x :: xs, h => match f x h, snapL f xs h with
    | some y, some ys => some (y :: ys)
    | _, _ => none
def snap : Nat → Val → List Ob → Option T
  | _, .t x, _ => some x
  | 0, .ref _, _ => none
  | k + 1, .ref n, h => match h[n]? with
    | some (.frz x) => some x
    | some (.lst vs) => (snapL (snap k) vs h).map .lst
    | _ => none

/-- the items of a list or a tuple -/
def seqV (v : Val) : MH (List Val) := fun h => match v with
  | .t (.tup xs) => .ok (xs.map .t) h
  | .t (.lst xs) => .ok (xs.map .t) h
  | .t (.scr ns) => .ok (ns.map fun i => .t (.int i)) h
  | .t _ => .bad
  | .ref n => match h[n]? with
    | some (.lst vs) => .ok vs h
    | some (.frz (.lst xs)) => .ok (xs.map .t) h
    | _ => .bad
/-- .. of a list that may change -/
def cellV (v : Val) : MH (Nat × List Val) := fun h => match v with
  | .t _ => .bad
  | .ref n => match h[n]? with
    | some (.lst vs) => .ok (n, vs) h
    | _ => .bad

/-! ### data -/
mutual
def T.toD : T → Option PyData
  | .non => some .none
  | .bl b => some (.bool b)
  | .int i => some (.int i)
  | .str s => some (.str s)
  | .tup xs => (T.toDs xs).map .tuple
  | .lst xs => (T.toDs xs).map .list
  | _ => none
termination_by structural x => x
def T.toDs : List T → Option (List PyData)
  | [] => some []
  | x :: xs => match x.toD, T.toDs xs with
    | some d, some ds => some (d :: ds)
    | _, _ => none
termination_by structural x => x
end
def T.data (x : T) : Option PyData := match x.toD with
  | some d => if SeqAt.shaped d then some d else none
  | none => none
def dataOf (v : Val) : MH PyData := fun h => match (snap 8 v h).bind T.data with
  | some d => .ok d h
  | none => .bad
/-- keys of dicts -/
def keyOf : T → Option L2.Key
  | .int i => some (.inl i)
  | .str s => some (.inr s)
  | _ => none
def keyT : L2.Key → T
  | .inl i => .int i
  | .inr s => .str s

/-! ### the text -/
inductive Op where
  | add | sub | mul | fdv | mod | pow | neg
  | lt | le | gt | ge
  | isN | isnN | isB (b : Bool) | isnB (b : Bool)
  | idx | idxd | slc (lo hi : Bool) | fld (f : Nat)
  | len | abs | int1 | str1 | list (m : Bool) | tuple | max2 | min2 | any | all | sum | max1 | xnm
  | append | pop | clear | count | index | lrng (m : Bool) | splt (b : Str)
  deriving DecidableEq
def Op.cmp : Op → Bool
  | .lt => true | .le => true | .gt => true | .ge => true | .isN => true | .isnN => true | .isB _ => true | .isnB _ => true
  | _ => false
inductive Sp where
  | cls (c : Nat) | str | list | tuple | int | dict | xc (d : Nat)
  deriving DecidableEq
inductive Ty where
  | non | bl | int | str | tup | lst | dct | ins (c : Nat) | xo (c : Nat)
def tyIs (isa : Nat → Nat → Bool) : Ty → Sp → Bool
  | .ins c, .cls d => isa c d
  | .xo c, .xc d => isa (1000 + c) (1000 + d)
  | .bl, .int => true
  | .int, .int => true
  | .str, .str => true
  | .tup, .tuple => true
  | .lst, .list => true
  | .dct, .dict => true
  | _, _ => false
inductive Tg where
  | v (i : Nat) | tp (ts : List Tg)
mutual
inductive E where
  | var (i : Nat) | int (i : Int) | str (s : Str) | bl (b : Bool) | non | gl (g : Nat)
  | op (o : Op) (es : List E)
  | lm (o : Op) (l : E) (es : List E)
  | eqq (neg : Bool) (a b : E) | inn (neg : Bool) (a b : E)
  | ch (o1 o2 : Op) (a b c : E)
  | and (es : List E) | or (es : List E) | nott (a : E) | ifx (c a b : E)
  | tup (es : List E) | lst (m : Bool) (es : List E)
  | dsp (m : Bool) (kvs : List E)
  | call (raw : Bool) (f : Nat) (es : List E)
  | new (c : Nat) (nk : Nat) (es : List E)
  | meth (raw : Bool) (o : E) (m : Nat) (es : List E)
  | sup (d f : Nat) (es : List E)
  | isi (a : E) (sp : List Sp)
  | lc (m : Bool) (own : List Nat) (tg : Tg) (it : It) (ifs : List E) (e : E)
  | lc2 (m : Bool) (own : List Nat) (tg : Tg) (it : It) (ifs : List E) (tg1 : Tg) (it1 : It) (ifs1 : List E) (e : E)
  | dc (own : List Nat) (tg : Tg) (it : It) (k v : E)
  | lcx (m : Bool) (own : List Nat) (tg : Tg) (it : It) (ifs : List E) (e : E)
  | fst (ps : List Fp)
  | frz (e : E)
  | xn (c : Nat) (es : List E)
  | dct0
inductive It where
  | seq (e : E) | liv (e : E) | rng1 (e : E) | rng2 (a b : E) | enum (e : E) | zip (a b : E)
inductive Fp where
  | lit (s : Str) | val (e : E) | rep (e : E)
end
instance : Inhabited E := ⟨.non⟩
inductive Hd where
  | set (i : Nat) (x : T) | setn (i k : Nat) (pre : Str) | sub (i : Nat) (k : Int) (x : T) | subn (i : Nat) (k : Int) (pre : Str)
/-- what an item of a tuple must be: one of some texts, or anything, kept -/
inductive PtI where
  | str (ss : List Str) | cap (i : Nat)
inductive S where
  | set (i : Nat) (e : E) | des (ts : List Tg) (e : E)
  | sub (a i e : E) | subd (a i e : E) | fset (a : E) (f : Nat) (e : E)
  | ex (e : E) | ret (m : Bool) (e : E) | retn
  | iff (c : E) (a b : List S)
  | fr (tg : Tg) (it : It) (b : List S)
  | whl (c : E) (b : List S)
  | rai (c : Nat) (e : Option E)
  | tryx (b : List S) (hs : List (Nat × Hd))
  | mc (i : Nat) (ps : Option (List PtI)) (g : Option E) (b el : List S)
  | pass | brk | cnt | no
instance : Inhabited S := ⟨.pass⟩

/-! ### what is called -/
structure Cl where
  fn : Nat → List Val → MH Val
  nw : Nat → List Val → MH Val
  mth : Nat → Nat → Option Nat
  ini : Nat → Option Nat
  isa : Nat → Nat → Bool
  gl : Nat → Option T
  wf : Nat
  xi : Nat → Nat → Bool

/-! ### values -/
def intV : Val → MH Int
  | .t (.int i) => pure i
  | _ => bad
def blV : Val → MH Bool
  | .t (.bl b) => pure b
  | _ => bad
def strV : Val → MH Str
  | .t (.str s) => pure s
  | _ => bad
def lift {α : Type} : Option α → MH α
  | some a => pure a
  | none => bad
/-- a list, frozen from now on -/
def lstP (v : Val) : MH (List T) := do
  match ← pur v with
  | .lst xs => pure xs
  | _ => bad
def obT : Ob → Option T
  | .frz x => some x
  | _ => none
def tru (v : Val) : MH Bool := fun h => match v with
  | .t .non => .ok false h
  | .t (.bl b) => .ok b h
  | .t (.int i) => .ok (i != 0) h
  | .t (.str s) => if s.length ≤ SL then .ok (s.length != 0) h else .bad
  | .t (.tup xs) => .ok (!xs.isEmpty) h
  | .t (.lst xs) => .ok (!xs.isEmpty) h
  | .t _ => .bad
  | .ref n => match h[n]? with
    | some (.lst vs) => .ok (!vs.isEmpty) h
    | some (.frz (.lst xs)) => .ok (!xs.isEmpty) h
    | _ => .bad
/-- a dict's entries -/
def dctV (v : Val) : MH (List (T × Val)) := fun h => match v with
  | .t (.dct kvs) => .ok (kvs.map fun p => (p.1, .t p.2)) h
  | .t _ => .bad
  | .ref n => match h[n]? with
    | some (.dct kvs) => .ok kvs h
    | some (.frz (.dct kvs)) => .ok (kvs.map fun p => (p.1, .t p.2)) h
    | _ => .bad
def keyEq (a b : T) : Bool := decide (keyOf a = keyOf b)
def dget (kvs : List (T × Val)) (k : T) : Option Val := (kvs.find? fun p => keyEq p.1 k).map (·.2)
def dput (kvs : List (T × Val)) (k : T) (v : Val) : List (T × Val) :=
  if kvs.any (fun p => keyEq p.1 k) then kvs.map fun p => if keyEq p.1 k then (p.1, v) else p else kvs ++ [(k, v)]
def keyV (v : Val) : MH T := match v with
  | .t (.int i) => pure (.int i)
  | .t (.str s) => pure (.str s)
  | _ => bad
def fldV (f : Nat) (v : Val) : MH Val := fun h => match v with
  | .t (.ins _ fs) => match fs.lookup f with
    | some x => .ok (.t x) h
    | none => .bad
  | .t _ => .bad
  | .ref n => match h[n]? with
    | some (.ins _ fs) => match fs.lookup f with
      | some x => .ok (nrm x h) h
      | none => .bad
    | some (.frz (.ins _ fs)) => match fs.lookup f with
      | some x => .ok (.t x) h
      | none => .bad
    | _ => .bad
def clsV (v : Val) : MH Nat := fun h => match v with
  | .t (.ins c _) => .ok c h
  | .t _ => .bad
  | .ref n => match h[n]? with
    | some (.ins c _) => .ok c h
    | some (.frz (.ins c _)) => .ok c h
    | _ => .bad
def isIns (v : Val) (h : List Ob) : Bool := match v with
  | .t (.ins _ _) => true
  | .t _ => false
  | .ref n => match h[n]? with
    | some (.ins _ _) => true
    | some (.frz (.ins _ _)) => true
    | _ => false
def scalT : T → Bool
  | .non => true | .bl _ => true | .int _ => true | .str _ => true | _ => false
def cutL {α : Type} (xs : List α) (lo hi : Option Int) : List α :=
  (xs.drop (HT.sIx xs.length 0 lo)).take (HT.sIx xs.length xs.length hi - HT.sIx xs.length 0 lo)
def bl (b : Bool) : MH Val := pure (.t (.bl b))
def int (i : Int) : MH Val := pure (.t (.int i))
def str (s : Str) : MH Val := pure (.t (.str s))
def two (vs : List Val) : MH (Val × Val) := match vs with
  | [a, b] => pure (a, b)
  | _ => bad
def one (vs : List Val) : MH Val := match vs with
  | [a] => pure a
  | _ => bad

instance (i j : Int) : Decidable (L2.CMul i j) := by unfold L2.CMul; infer_instance
instance (i j : Int) : Decidable (L2.CDivN i j) := by unfold L2.CDivN; infer_instance
instance (i j : Int) : Decidable (L2.CPow i j) := by unfold L2.CPow; infer_instance
def addM (a b : Val) : MH Val := match a, b with
  | .t (.int i), .t (.int j) => int (i + j)
  | .t (.str s), .t (.str u) => if s.length + u.length ≤ SL then str (s ++ u) else bad
  | .t (.tup xs), .t (.tup ys) => if xs.length + ys.length ≤ SL then pure (.t (.tup (xs ++ ys))) else bad
  | a, b => do
    let xs ← lstP a
    let ys ← lstP b
    if xs.length + ys.length ≤ SL then pure (.t (.lst (xs ++ ys))) else bad
/-- a text, so many times -/
def strRep (s : Str) (k : Int) : Str := ⟨(List.replicate k.toNat s.cps).foldl (· ++ ·) #[]⟩
def mulM (a b : Val) : MH Val := match a, b with
  | .t (.int i), .t (.int j) => if decide (L2.CMul i j) then int (i * j) else bad
  | .t (.str s), .t (.int k) => if decide (1 < k) && decide (k ≤ 1000) && decide (0 < s.length) && decide (s.length ≤ 1000) then str (strRep s k) else bad
  | a, .t (.int k) => do
    let xs ← lstP a
    if decide (-(2 ^ 63) ≤ k) && decide (k < 2 ^ 63) && decide (xs.length * k.toNat ≤ SL) then pure (.t (.lst (List.replicate k.toNat xs).flatten)) else bad
  | _, _ => bad
def iop (ok : Int → Int → Bool) (f : Int → Int → Int) (a b : Val) : MH Val := match a, b with
  | .t (.int i), .t (.int j) => if ok i j then int (f i j) else bad
  | _, _ => bad
def cop (f : Int → Int → Bool) (a b : Val) : MH Val := match a, b with
  | .t (.int i), .t (.int j) => bl (f i j)
  | _, _ => bad
def idxM (a b : Val) : MH Val := match a, b with
  | .t (.str s), .t (.int i) => if s.length ≤ SL then (match L2.atI s.cps.toList i with
    | some c => str ⟨#[c]⟩
    | none => bad) else bad
  | a, .t (.int i) => do
    let xs ← seqV a
    match L2.atI xs i with
    | some v => fun h => .ok (nrm v h) h
    | none => bad
  | _, _ => bad
def idxdM (a b : Val) : MH Val := do
  let k ← keyV b
  let kvs ← dctV a
  match dget kvs k with
  | some v => fun h => .ok (nrm v h) h
  | none => bad
def slcM (a : Val) (lo hi : Option Int) : MH Val := match a with
  | .t (.str s) => if s.length ≤ SL then str (L2.cutS s lo hi) else bad
  | .t (.tup xs) => pure (.t (.tup (cutL xs lo hi)))
  | a => do
    let xs ← lstP a
    pure (.t (.lst (cutL xs lo hi)))
def slcA (lo hi : Bool) (vs : List Val) : MH Val := match lo, hi, vs with
  | false, false, [a] => slcM a none none
  | true, false, [a, i] => do let i ← intV i; slcM a (some i) none
  | false, true, [a, j] => do let j ← intV j; slcM a none (some j)
  | true, true, [a, i, j] => do let i ← intV i; let j ← intV j; slcM a (some i) (some j)
  | _, _, _ => bad
def lenM (a : Val) : MH Val := match a with
  | .t (.str s) => if s.length ≤ SL then int s.length else bad
  | a => do let xs ← seqV a; int xs.length
def blsV : List Val → MH (List Bool)
  | [] => pure []
  | v :: vs => do let b ← blV v; let bs ← blsV vs; pure (b :: bs)
def intsV : List Val → MH (List Int)
  | [] => pure []
  | v :: vs => do let b ← intV v; let bs ← intsV vs; pure (b :: bs)
def keep (m : Bool) (vs : List Val) : MH Val := if m then new (.lst vs) else do
  let ts ← mp pur vs
  pure (.t (.lst ts))
/-- the items as data, frozen -/
def seqD (l : Val) (f : List PyData → MH Val) : MH Val := match l with
  | .t (.tup xs) => (match (T.tup xs).data with
    | some (.tuple ds) => f ds
    | _ => bad)
  | l => MH.bind (lstP l) fun xs => match (T.lst xs).data with
    | some (.list ds) => f ds
    | _ => bad
/-- a list, or (tp) a tuple -/
def isSeq (tp : Bool) (v : Val) : MH Unit := fun h => match v with
  | .t (.lst _) => .ok () h
  | .t (.tup _) => if tp then .ok () h else .bad
  | .t _ => .bad
  | .ref n => match h[n]? with
    | some (.lst _) => .ok () h
    | some (.frz (.lst _)) => .ok () h
    | _ => .bad
def Op.tp : Op → Bool
  | .count => true
  | .index => true
  | _ => false
def opM (o : Op) (vs : List Val) : MH Val := match o, vs with
  | .add, [a, b] => addM a b
  | .sub, [a, b] => iop (fun _ _ => true) (fun i j => i - j) a b
  | .mul, [a, b] => mulM a b
  | .fdv, [a, b] => iop (fun i j => decide (L2.CDivN i j)) (fun i j => i.fdiv j) a b
  | .mod, [a, b] => iop (fun _ j => decide (j ≠ 0)) (fun i j => i.fmod j) a b
  | .pow, [a, b] => iop (fun i j => decide (L2.CPow i j)) (fun i j => i ^ j.toNat) a b
  | .neg, [a] => do let i ← intV a; int (-i)
  | .lt, [a, b] => cop (fun i j => decide (i < j)) a b
  | .le, [a, b] => cop (fun i j => decide (i ≤ j)) a b
  | .gt, [a, b] => cop (fun i j => decide (j < i)) a b
  | .ge, [a, b] => cop (fun i j => decide (j ≤ i)) a b
  | .isN, [a] => match a with | .t .non => bl true | _ => bl false
  | .isnN, [a] => match a with | .t .non => bl false | _ => bl true
  | .isB c, [a] => do let b ← blV a; bl (decide (b = c))
  | .isnB c, [a] => do let b ← blV a; bl (!decide (b = c))
  | .idx, [a, b] => idxM a b
  | .idxd, [a, b] => idxdM a b
  | .slc lo hi, vs => slcA lo hi vs
  | .fld f, [a] => fldV f a
  | .len, [a] => lenM a
  | .xnm, [a] => match a with
    | .t (.xo _ (some s)) => str s
    | _ => bad
  | .abs, [a] => do let i ← intV a; int (if i < 0 then -i else i)
  | .int1, [a] => match a with
    | .t (.int i) => int i
    | .t (.bl b) => int (if b then 1 else 0)
    | _ => bad
  | .str1, [a] => do let i ← intV a; if i.natAbs.log2 < 1920 then str (Str.ofString (toString i)) else bad
  | .list m, [a] => do let xs ← seqV a; keep m xs
  | .lrng m, [a] => do let i ← intV a; if decide (-(2 ^ 62) ≤ i) && decide (i < 16777216) then keep m ((List.range i.toNat).map fun k => .t (.int (k : Nat))) else bad
  | .tuple, [a] => match a with
    | .t (.tup xs) => pure (.t (.tup xs))
    | a => do let xs ← lstP a; pure (.t (.tup xs))
  | .max2, [a, b] => do let i ← intV a; let j ← intV b; int (if j > i then j else i)
  | .min2, [a, b] => do let i ← intV a; let j ← intV b; int (if j < i then j else i)
  | .any, [a] => do let xs ← lstP a; let bs ← blsV (xs.map .t); bl (bs.any id)
  | .all, [a] => do let xs ← lstP a; let bs ← blsV (xs.map .t); bl (bs.all id)
  | .sum, [a] => do let xs ← lstP a; let is ← intsV (xs.map .t); int is.sum
  | .append, [l, v] => do
    let (n, xs) ← cellV l
    if xs.length < SL then (do put n (.lst (xs ++ [v])); pure (.t .non)) else bad
  | .pop, [l] => do
    let (n, xs) ← cellV l
    match xs[xs.length - 1]? with
    | some y => do put n (.lst xs.dropLast); (fun h => .ok (nrm y h) h)
    | none => bad
  | .clear, [l] => do
    let (n, _) ← cellV l
    put n (.lst [])
    pure (.t .non)
  | .count, [l, v] => seqD l fun ds => MH.bind (pur v) fun x => match x.data with
    | some d => int (ds.filter fun z => PyData.eqv z d).length
    | none => bad
  | .index, [l, v] => seqD l fun ds => MH.bind (pur v) fun x => match x.data with
    | some d => (match ds.findIdx? fun z => PyData.eqv z d with
      | some j => int (j : Nat)
      | none => bad)
    | none => bad
  | .splt y, [a] => do
    let x ← strV a
    if (y.length == 0) = false ∧ x.length + 2 ≤ SL then keep false ((Txt.split x y).map fun z => .t (.str z)) else bad
  | _, _ => bad

end MS

set_option Elab.async false
set_option linter.all false
set_option maxRecDepth 100000
/-! MSB: the small interpreter. -/
namespace MS
open PySem

mutual
def asg : Tg → Val → Loc → Option Loc
  | .v i, v, loc => some (loc.set i (some v))
  | .tp ts, v, loc => match v with
    | .t (.tup xs) => asgs ts xs loc
    | _ => none
termination_by structural x => x
def asgs : List Tg → List T → Loc → Option Loc
  | [], xs, loc => match xs with
    | [] => some loc
    | _ => none
  | t :: ts, xs, loc => match xs with
    | x :: xs => match asg t (.t x) loc with
      | some l => asgs ts xs l
      | none => none
    | [] => none
termination_by structural x => x
end
mutual
def Tg.ix : Tg → List Nat
  | .v i => [i]
  | .tp ts => Tg.ixs ts
termination_by structural x => x
def Tg.ixs : List Tg → List Nat
  | [] => []
  | t :: ts => t.ix ++ Tg.ixs ts
termination_by structural x => x
end
def wipeL (loc : Loc) : List Nat → Loc
  | [] => loc
  | v :: vs => (wipeL loc vs).set v none

def lcM (asgn : Val → Loc → Option Loc) (loc : Loc) (tst : Loc → MH Bool) (elt : Loc → MH Val) : List Val → MH (List Val)
  | [] => pure []
  | x :: xs => match asgn x loc with
    | none => bad
    | some l => do
      let b ← tst l
      if b then do
        let v ← elt l
        let vs ← lcM asgn loc tst elt xs
        pure (v :: vs)
      else lcM asgn loc tst elt xs
def lcM2 (asgn : Val → Loc → Option Loc) (loc : Loc) (tst : Loc → MH Bool) (inner : Loc → MH (List Val)) : List Val → MH (List Val)
  | [] => pure []
  | x :: xs => match asgn x loc with
    | none => bad
    | some l => do
      let b ← tst l
      if b then do
        let v ← inner l
        let vs ← lcM2 asgn loc tst inner xs
        pure (v ++ vs)
      else lcM2 asgn loc tst inner xs
def dcM (asgn : Val → Loc → Option Loc) (loc : Loc) (ke ve : Loc → MH Val) : List Val → List (T × Val) → MH (List (T × Val))
  | [], acc => pure acc
  | x :: xs, acc => match asgn x loc with
    | none => bad
    | some l => do
      let k ← ke l
      let k ← keyV k
      let v ← ve l
      dcM asgn loc ke ve xs (dput acc k v)

/-- no cell of it is told of in what stands below n -/
def Val.below (n : Nat) : Val → Bool
  | .t _ => true
  | .ref m => decide (m < n)
def Ob.below (n : Nat) : Ob → Bool
  | .lst vs => vs.all (Val.below n)
  | .dct kvs => kvs.all fun p => p.2.below n
  | .ins _ fs => fs.all fun p => p.2.below n
  | .frz _ => true
def trunc (n : Nat) (h : List Ob) : List Ob := if (h.take n).all (Ob.below n) then h.take n else h
def Val.isT : Val → Bool
  | .t _ => true
  | .ref _ => false

/-- a call that is handed trees and hands back a tree -/
def apart (m : MH Val) : MH Val := fun h => match m [] with
  | .ok (.t x) _ => .ok (.t x) h
  | .ok (.ref _) _ => .bad
  | .exc e _ => .exc e h
  | .bad => .bad
def callM (C : Cl) (raw : Bool) (f : Nat) (vs : List Val) : MH Val :=
  if raw then C.fn f vs else if vs.all Val.isT then apart (C.fn f vs) else bad
def newM (C : Cl) (raw : Bool) (c : Nat) (vs : List Val) : MH Val := match C.ini c with
  | none => bad
  | some f => if raw then (fun h => match C.nw f (.ref h.length :: vs) (h ++ [.ins c []]) with
      | .ok (.t .non) h' => .ok (.ref h.length) h'
      | .ok _ _ => .bad
      | .exc e h' => .exc e h'
      | .bad => .bad)
    else if vs.all Val.isT then apart (fun h => match C.nw f (.ref h.length :: vs) (h ++ [.ins c []]) with
      | .ok (.t .non) h' => MH.bind (pur (.ref h.length)) (fun x => pure (.t x)) h'
      | .ok _ _ => .bad
      | .exc e h' => .exc e h'
      | .bad => .bad) else bad
/-- the names of special methods, by number -/
abbrev mEq : Nat := 0
abbrev mIn : Nat := 1
abbrev mLen : Nat := 2
def scal2 (v w : Val) : Option Bool := match v, w with
  | .t x, .t y => if scalT x && scalT y then (match x, y with
    | .non, .non => some true
    | .non, _ => some false
    | _, .non => some false
    | .bl a, .bl b => some (decide (a = b))
    | .int a, .int b => some (decide (a = b))
    | .str a, .str b => some (decide (a = b))
    | .int _, .str _ => some false
    | .str _, .int _ => some false
    | .bl _, .str _ => some false
    | .str _, .bl _ => some false
    | _, _ => none) else none
  | _, _ => none
def Cl.low (C : Cl) : Cl := { C with fn := C.nw }
/-- two rows of texts, as far as the shorter one goes -/
def tupS : List T → List T → Option Bool
  | [], [] => some true
  | [], _ :: _ => some false
  | _ :: _, [] => some false
  | .str a :: xs, .str b :: ys => (tupS xs ys).map fun r => decide (a = b) && r
  | _, _ => none
def tupV (neg : Bool) (v w : Val) : Option Bool := match neg, v, w with
  | false, .t (.tup xs), .t (.tup ys) => tupS xs ys
  | _, _, _ => none
def eqM (C : Cl) (neg : Bool) (v w : Val) : MH Val := fun h =>
  match scal2 v w with
  | some b => .ok (.t (.bl (b ^^ neg))) h
  | none => if isIns v h then MH.bind (clsV v) (fun c => MH.bind (clsV w) fun d => match C.mth c mEq with
      | some f => if d == c || !C.isa d c then MH.bind (callM (if neg then C.low else C) false f [v, w]) (fun r => MH.bind (blV r) fun b => bl (b ^^ neg)) else bad
      | none => bad) h
    else match tupV neg v w with
      | some b => .ok (.t (.bl b)) h
      | none => MH.bind (dataOf v) (fun d => MH.bind (dataOf w) fun e => bl (PyData.eqv d e ^^ neg)) h
def isDct (v : Val) (h : List Ob) : Bool := match v with
  | .t (.dct _) => true
  | .t _ => false
  | .ref n => match h[n]? with
    | some (.dct _) => true
    | some (.frz (.dct _)) => true
    | _ => false
def innM (C : Cl) (neg : Bool) (v w : Val) : MH Val := fun h => match w with
  | .t (.str z) => MH.bind (strV v) (fun c => if c.length = 1 then bl (decide (c.cps.getD 0 0 ∈ z.cps.toList) ^^ neg) else bad) h
  | _ => if isDct w h then MH.bind (keyV v) (fun k => MH.bind (dctV w) fun kvs => bl ((dget kvs k).isSome ^^ neg)) h
    else if isIns w h then MH.bind (clsV w) (fun c => match C.mth c mIn with
      | some f => MH.bind (callM C false f [w, v]) (fun r => MH.bind (blV r) fun b => bl (b ^^ neg))
      | none => bad) h
    else MH.bind (dataOf v) (fun d => MH.bind (dataOf w) fun e => match e with
      | .list es => bl (es.any (fun x => PyData.eqv x d) ^^ neg)
      | .tuple es => bl (es.any (fun x => PyData.eqv x d) ^^ neg)
      | _ => bad) h
/-- the type of a value -/
def tyM (v : Val) (h : List Ob) : Option Ty := match v with
  | .t .non => some .non
  | .t (.bl _) => some .bl
  | .t (.int _) => some .int
  | .t (.str _) => some .str
  | .t (.tup _) => some .tup
  | .t (.lst _) => some .lst
  | .t (.dct _) => some .dct
  | .t (.ins c _) => some (.ins c)
  | .t (.xo c _) => some (.xo c)
  | .t _ => none
  | .ref n => match h[n]? with
    | some (.lst _) => some .lst
    | some (.dct _) => some .dct
    | some (.ins c _) => some (.ins c)
    | some (.frz (.lst _)) => some .lst
    | some (.frz (.dct _)) => some .dct
    | some (.frz (.ins c _)) => some (.ins c)
    | _ => none
def isiM (C : Cl) (v : Val) (sp : List Sp) : MH Val := fun h => match tyM v h with
  | some t => .ok (.t (.bl (sp.any fun s => tyIs C.isa t s))) h
  | none => .bad
def fmtV (v : Val) : MH Str := match v with
  | .t (.str s) => if s.length ≤ SL then pure s else bad
  | .t (.int i) => if i.natAbs.log2 < 1920 then pure (Str.ofString (toString i)) else bad
  | _ => bad
def repV (v : Val) : MH Str := match v with
  | .t (.str s) => if (reprText s).length ≤ SL then pure (reprText s) else bad
  | .t (.int i) => if i.natAbs.log2 < 1920 then pure (Str.ofString (toString i)) else bad
  | _ => bad
def zipT : List T → List T → List T
  | x :: xs, y :: ys => .tup [x, y] :: zipT xs ys
  | _, _ => []
def enumT (i : Nat) : List T → List T
  | [] => []
  | x :: xs => .tup [.int i, x] :: enumT (i + 1) xs
/-- what a loop walks, of a value -/
def walkV (v : Val) : MH (List Val) := match v with
  | .t (.str s) => if s.length ≤ SL then pure (s.cps.toList.map fun c => .t (.str ⟨#[c]⟩)) else bad
  | .t (.tup xs) => pure (xs.map .t)
  | .t (.scr ns) => pure (ns.map fun i => .t (.int i))
  | v => do let xs ← lstP v; pure (xs.map .t)
def rngM (lo hi : Int) : MH (List Val) :=
  if decide (-(2 ^ 62) ≤ lo) && decide (lo < 2 ^ 62) && decide (-(2 ^ 62) ≤ hi) && decide (hi < 2 ^ 62) then
    pure ((List.range (hi - lo).toNat).map fun i => .t (.int (lo + (i : Nat)))) else bad

def newN (o : Ob) : MH Nat := fun h => .ok h.length (h ++ [o])
/-- the empty dict at n, filled -/
def fillD (n : Nat) (kvs : List (T × Val)) : MH Unit := fun h => match h[n]? with
  | some (.dct []) => .ok () (h.set n (.dct kvs))
  | _ => .bad

/-- an exception made -/
def xnM (c : Nat) (vs : List Val) : MH Val := match vs with
  | [] => pure (.t (.xo c none))
  | [.t (.str s)] => if s.length ≤ 100000 ∧ (reprText s).length ≤ 1000000 then pure (.t (.xo c (some s))) else bad
  | _ => bad
mutual
def evE (C : Cl) : E → Loc → MH Val
  | .var i, loc => fun h => match loc[i]? with
    | some (some v) => .ok (nrm v h) h
    | _ => .bad
  | .int i, _ => int i
  | .str s, _ => str s
  | .bl b, _ => bl b
  | .non, _ => pure (.t .non)
  | .gl g, _ => match C.gl g with
    | some x => pure (.t x)
    | none => bad
  | .op o es, loc => MH.bind (evEs C es loc) fun vs => opM o vs
  | .lm o l es, loc => MH.bind (evE C l loc) fun a => MH.bind (isSeq o.tp a) fun _ => MH.bind (evEs C es loc) fun vs => opM o (a :: vs)
  | .eqq neg a b, loc => MH.bind (evE C a loc) fun v => MH.bind (evE C b loc) fun w => eqM C neg v w
  | .inn neg a b, loc => MH.bind (evE C a loc) fun v => MH.bind (evE C b loc) fun w => innM C neg v w
  | .ch o1 o2 a b c, loc => MH.bind (evE C a loc) fun x => MH.bind (evE C b loc) fun y => MH.bind (opM o1 [x, y]) fun r => MH.bind (blV r) fun k =>
    if k then MH.bind (evE C c loc) fun z => opM o2 [y, z] else bl false
  | .and es, loc => evAnd C es loc
  | .or es, loc => evOr C es loc
  | .nott a, loc => MH.bind (evE C a loc) fun v => MH.bind (blV v) fun b => bl (!b)
  | .ifx c a b, loc => MH.bind (evT C c loc) fun k => if k then evE C a loc else evE C b loc
  | .tup es, loc => MH.bind (evEs C es loc) fun vs => MH.bind (mp pur vs) fun ts => pure (.t (.tup ts))
  | .lst m es, loc => MH.bind (evEs C es loc) fun vs => keep m vs
  | .dsp m kvs, loc => MH.bind (newN (.dct [])) fun n => MH.bind (evPs C kvs loc []) fun acc => MH.bind (fillD n acc) fun _ => if m then pure (.ref n) else MH.bind (pur (.ref n)) fun x => pure (.t x)
  | .call raw f es, loc => MH.bind (evEs C es loc) fun vs => callM C raw f vs
  | .new c _ es, loc => MH.bind (evEs C es loc) fun vs => newM C false c vs
  | .meth raw o m es, loc => MH.bind (evE C o loc) fun v => MH.bind (clsV v) fun c => match C.mth c m with
    | some f => MH.bind (evEs C es loc) fun vs => callM C raw f (v :: vs)
    | none => bad
  | .sup d f es, loc => match loc[0]? with
    | some (some v) => MH.bind (clsV v) fun c => if C.isa c d then MH.bind (evEs C es loc) fun vs => C.fn f (v :: vs) else bad
    | _ => bad
  | .isi a sp, loc => MH.bind (evE C a loc) fun v => isiM C v sp
  | .lc m own tg it ifs e, loc => MH.bind (evIt C it loc) fun xs => if xs.length ≤ SL then noexc (MH.bind (lcM (asg tg) (wipeL loc own) (evTs C ifs) (evE C e) xs) fun vs => keep m vs) else bad
  | .lcx m own tg it ifs e, loc => MH.bind (evIt C it loc) fun xs => if xs.length ≤ SL then MH.bind (lcM (asg tg) (wipeL loc own) (evTs C ifs) (evE C e) xs) fun vs => keep m vs else bad
  | .lc2 m own tg it ifs tg1 it1 ifs1 e, loc => MH.bind (evIt C it loc) fun xs => if xs.length ≤ 1000 then noexc (MH.bind (lcM2 (asg tg) (wipeL loc own) (evTs C ifs) (fun l =>
      MH.bind (evIt C it1 l) fun ys => if ys.length ≤ 1000 then lcM (asg tg1) (wipeL l tg1.ix) (evTs C ifs1) (evE C e) ys else bad) xs) fun vs => keep m vs) else bad
  | .dc own tg it k v, loc => MH.bind (evIt C it loc) fun xs => if xs.length ≤ SL then noexc (MH.bind (dcM (asg tg) (wipeL loc own) (evE C k) (evE C v) xs []) fun kvs =>
      MH.bind (mp pur (kvs.map (·.2))) fun ts => pure (.t (.dct ((kvs.map (·.1)).zip ts)))) else bad
  | .fst ps, loc => MH.bind (evFs C ps loc Str.empty) fun s => str s
  | .frz e, loc => MH.bind (evE C e loc) fun v => MH.bind (pur v) fun x => pure (.t x)
  | .dct0, _ => pure (.t (.dct []))
  | .xn c es, loc => MH.bind (evEs C es loc) fun vs => xnM c vs
termination_by structural x => x
def evEs (C : Cl) : List E → Loc → MH (List Val)
  | [], _ => pure []
  | e :: es, loc => MH.bind (evE C e loc) fun v => MH.bind (evEs C es loc) fun vs => pure (v :: vs)
termination_by structural x => x
def evAnd (C : Cl) : List E → Loc → MH Val
  | [], _ => bad
  | e :: es, loc => match es with
    | [] => evE C e loc
    | _ => MH.bind (evE C e loc) fun v => MH.bind (blV v) fun b => if b then evAnd C es loc else bl false
termination_by structural x => x
def evOr (C : Cl) : List E → Loc → MH Val
  | [], _ => bad
  | e :: es, loc => match es with
    | [] => evE C e loc
    | _ => MH.bind (evE C e loc) fun v => MH.bind (blV v) fun b => if b then bl true else evOr C es loc
termination_by structural x => x
/-- a test -/
def evT (C : Cl) : E → Loc → MH Bool
  | .and es, loc => evTand C es loc
  | .or es, loc => evTor C es loc
  | .nott a, loc => MH.bind (evT C a loc) fun b => pure (!b)
  | .ifx c a b, loc => MH.bind (evT C c loc) fun k => if k then MH.bind (evE C a loc) tru else MH.bind (evE C b loc) tru
  | .var i, loc => fun h => match loc[i]? with
    | some (some v) => tru (nrm v h) h
    | _ => .bad
  | .int i, _ => pure (i != 0)
  | .str s, _ => tru (.t (.str s))
  | .bl b, _ => pure b
  | .non, _ => pure false
  | .gl g, _ => match C.gl g with
    | some x => tru (.t x)
    | none => bad
  | .op o es, loc => MH.bind (evEs C es loc) fun vs => MH.bind (opM o vs) (if o.cmp then blV else tru)
  | .lm o l es, loc => MH.bind (evE C l loc) fun a => MH.bind (isSeq o.tp a) fun _ => MH.bind (evEs C es loc) fun vs => MH.bind (opM o (a :: vs)) tru
  | .eqq neg a b, loc => MH.bind (evE C a loc) fun v => MH.bind (evE C b loc) fun w => MH.bind (eqM C neg v w) blV
  | .inn neg a b, loc => MH.bind (evE C a loc) fun v => MH.bind (evE C b loc) fun w => MH.bind (innM C neg v w) blV
  | .ch o1 o2 a b c, loc => MH.bind (evE C a loc) fun x => MH.bind (evE C b loc) fun y => MH.bind (opM o1 [x, y]) fun r => MH.bind (blV r) fun k =>
    if k then MH.bind (evE C c loc) fun z => MH.bind (opM o2 [y, z]) blV else pure false
  | .call raw f es, loc => MH.bind (evEs C es loc) fun vs => MH.bind (callM C raw f vs) tru
  | .meth raw o m es, loc => MH.bind (evE C o loc) fun v => MH.bind (clsV v) fun c => match C.mth c m with
    | some f => MH.bind (evEs C es loc) fun vs => MH.bind (callM C raw f (v :: vs)) tru
    | none => bad
  | .isi a sp, loc => MH.bind (evE C a loc) fun v => MH.bind (isiM C v sp) tru
  | .sup _ _ _, _ => bad
  | .new _ _ _, _ => bad
  | .tup _, _ => bad
  | .lst _ _, _ => bad
  | .dsp _ _, _ => bad
  | .lc _ _ _ _ _ _, _ => bad
  | .lc2 _ _ _ _ _ _ _ _ _, _ => bad
  | .dc _ _ _ _ _, _ => bad
  | .lcx _ _ _ _ _ _, _ => bad
  | .fst _, _ => bad
  | .frz _, _ => bad
  | .dct0, _ => bad
  | .xn _ _, _ => bad
termination_by structural x => x
def evTand (C : Cl) : List E → Loc → MH Bool
  | [], _ => pure true
  | e :: es, loc => MH.bind (evT C e loc) fun b => if b then evTand C es loc else pure false
termination_by structural x => x
def evTor (C : Cl) : List E → Loc → MH Bool
  | [], _ => pure false
  | e :: es, loc => MH.bind (evT C e loc) fun b => if b then pure true else evTor C es loc
termination_by structural x => x
def evTs (C : Cl) : List E → Loc → MH Bool
  | [], _ => pure true
  | e :: es, loc => match es with
    | [] => evT C e loc
    | _ => bad
termination_by structural x => x
def evPs (C : Cl) : List E → Loc → List (T × Val) → MH (List (T × Val))
  | [], _, acc => pure acc
  | [_], _, _ => bad
  | k :: v :: r, loc, acc => MH.bind (evE C k loc) fun k => MH.bind (keyV k) fun k => MH.bind (evE C v loc) fun v => evPs C r loc (dput acc k v)
termination_by structural x => x
def evIt (C : Cl) : It → Loc → MH (List Val)
  | .seq e, loc => MH.bind (evE C e loc) walkV
  | .liv e, loc => MH.bind (evE C e loc) seqV
  | .rng1 e, loc => MH.bind (evE C e loc) fun v => MH.bind (intV v) fun i => rngM 0 i
  | .rng2 a b, loc => MH.bind (evE C a loc) fun v => MH.bind (evE C b loc) fun w => MH.bind (intV v) fun i => MH.bind (intV w) fun j => rngM i j
  | .enum e, loc => MH.bind (evE C e loc) fun v => MH.bind (lstP v) fun xs => pure ((enumT 0 xs).map .t)
  | .zip a b, loc => MH.bind (evE C a loc) fun v => MH.bind (evE C b loc) fun w => MH.bind (lstP v) fun xs => MH.bind (lstP w) fun ys => pure ((zipT xs ys).map .t)
termination_by structural x => x
def evFs (C : Cl) : List Fp → Loc → Str → MH Str
  | [], _, acc => pure acc
  | p :: ps, loc, acc => MH.bind (evFp C p loc) fun s => if (acc ++ s).length ≤ SL then evFs C ps loc (acc ++ s) else bad
termination_by structural x => x
def evFp (C : Cl) : Fp → Loc → MH Str
  | .lit s, _ => pure s
  | .val e, loc => MH.bind (evE C e loc) fmtV
  | .rep e, loc => MH.bind (evE C e loc) repV
termination_by structural x => x
end

/-! ### statements -/
inductive Fl where
  | nx (loc : Loc) | ret (v : Val) | bk (loc : Loc) | ct (loc : Loc)
inductive RS where
  | ok (f : Fl) (h : List Ob) | exc (e : Ex) (loc : Loc) (h : List Ob) | bad
/-- a tuple's items against what they must be: bad, no, or what is kept -/
def ptI : List PtI → List T → Option (Option (List (Nat × T)))
  | [], [] => some (some [])
  | .str ss :: ps, x :: xs => match x with
    | .str s => if ss.any (fun z => decide (s = z)) then ptI ps xs else some none
    | _ => none
  | .cap i :: ps, x :: xs => match ptI ps xs with
    | some (some bs) => some (some ((i, x) :: bs))
    | r => r
  | _, _ => none
def ptM (ps : Option (List PtI)) (x : T) : Option (Option (List (Nat × T))) := match ps with
  | none => some (some [])
  | some ps => match x with
    | .tup xs => if xs.length = ps.length then ptI ps xs else some none
    | _ => none
def bindT (loc : Loc) : List (Nat × T) → Loc
  | [] => loc
  | p :: bs => bindT (loc.set p.1 (some (.t p.2))) bs
/-- one case of a match -/
def mcM (ps : Option (List PtI)) (loc : Loc) (i : Nat) (hit : Loc → List Ob → RS) (miss : List Ob → RS) (h : List Ob) : RS := match loc[i]? with
  | some (some (.t x)) => (match ptM ps x with
    | none => .bad
    | some none => miss h
    | some (some bs) => hit (bindT loc bs) h)
  | _ => .bad
/-- behind an expression -/
def thenE {α : Type} (m : MH α) (loc : Loc) (k : α → List Ob → RS) (h : List Ob) : RS := match m h with
  | .ok a h' => k a h'
  | .exc e h' => .exc e loc h'
  | .bad => .bad
def thenS (r : RS) (k : Loc → List Ob → RS) : RS := match r with
  | .ok (.nx loc) h => k loc h
  | r => r
def forM (tg : Tg) (body : Loc → List Ob → RS) : List Val → Loc → List Ob → RS
  | [], loc, h => .ok (.nx loc) h
  | x :: xs, loc, h => match asg tg (nrm x h) loc with
    | none => .bad
    | some l => match body l h with
      | .ok (.nx l') h' => forM tg body xs l' h'
      | .ok (.ct l') h' => forM tg body xs l' h'
      | .ok (.bk l') h' => .ok (.nx l') h'
      | r => r
/-- a list that may change is walked by its places -/
def livM (tg : Tg) (n : Nat) (body : Loc → List Ob → RS) : Nat → Nat → Loc → List Ob → RS
  | 0, _, _, _ => .bad
  | k + 1, i, loc, h => match h[n]? with
    | some (.lst vs) => match vs[i]? with
      | none => .ok (.nx loc) h
      | some x => match asg tg (nrm x h) loc with
        | none => .bad
        | some l => match body l h with
          | .ok (.nx l') h' => livM tg n body k (i + 1) l' h'
          | .ok (.ct l') h' => livM tg n body k (i + 1) l' h'
          | .ok (.bk l') h' => .ok (.nx l') h'
          | r => r
    | _ => .bad
def whileM (c : Loc → MH Bool) (body : Loc → List Ob → RS) : Nat → Loc → List Ob → RS
  | 0, _, _ => .bad
  | k + 1, loc, h => match c loc h with
    | .ok true h' => match body loc h' with
      | .ok (.nx l') h'' => whileM c body k l' h''
      | .ok (.ct l') h'' => whileM c body k l' h''
      | .ok (.bk l') h'' => .ok (.nx l') h''
      | r => r
    | .ok false h' => .ok (.nx loc) h'
    | .exc e h' => .exc e loc h'
    | .bad => .bad
def setItM (a i v : Val) : MH Unit := do
  let (n, xs) ← cellV a
  let k ← intV i
  match L2.ixN xs.length k with
  | some j => put n (.lst (xs.set j v))
  | none => bad
def setDM (a k v : Val) : MH Unit := fun h => match a with
  | .t _ => .bad
  | .ref n => match h[n]? with
    | some (.dct kvs) => MH.bind (keyV k) (fun k => if kvs.length < SL then put n (.dct (dput kvs k v)) else bad) h
    | _ => .bad
def putF (f : Nat) (v : Val) : List (Nat × Val) → List (Nat × Val)
  | [] => [(f, v)]
  | (g, w) :: r => if g = f then (f, v) :: r else (g, w) :: putF f v r
def setFM (f : Nat) (a v : Val) : MH Unit := fun h => match a with
  | .t _ => .bad
  | .ref n => match h[n]? with
    | some (.ins c fs) => if fs.length < 100 then put n (.ins c (putF f v fs)) h else .bad
    | _ => .bad
def cat (p : Str) (a : Option T) : Option T := match a with
  | some (.str s) => if p.length + s.length ≤ SL then some (.str (p ++ s)) else none
  | _ => none
def hdM (d : Hd) (e : Ex) (loc : Loc) (h : List Ob) : RS := match d with
  | .set i x => .ok (.nx (loc.set i (some (.t x)))) h
  | .setn i k p => match cat p e.a, loc[k]? with
    | some x, some none => .ok (.nx (loc.set i (some (.t x)))) h
    | _, _ => .bad
  | .sub i k x => match loc[i]? with
    | some (some v) => thenE (setItM v (.t (.int k)) (.t x)) loc (fun _ h => .ok (.nx loc) h) h
    | _ => .bad
  | .subn i k p => match cat p e.a, loc[i]? with
    | some x, some (some v) => thenE (setItM v (.t (.int k)) (.t x)) loc (fun _ h => .ok (.nx loc) h) h
    | _, _ => .bad
def hdsM (isa : Nat → Nat → Bool) (hs : List (Nat × Hd)) (e : Ex) (loc : Loc) (h : List Ob) : RS := match hs.find? fun p => isa e.c p.1 with
  | some (_, d) => hdM d e loc h
  | none => .exc e loc h
mutual
def exS (C : Cl) : S → Loc → List Ob → RS
  | .set i e, loc => thenE (evE C e loc) loc fun v h => .ok (.nx (loc.set i (some v))) h
  | .des ts e, loc => thenE (evE C e loc) loc fun v h => match asg (.tp ts) v loc with
    | some l => .ok (.nx l) h
    | none => .bad
  | .sub a i e, loc => thenE (MH.bind (evE C e loc) fun v => MH.bind (evE C a loc) fun a => MH.bind (evE C i loc) fun i => setItM a i v) loc fun _ h => .ok (.nx loc) h
  | .subd a i e, loc => thenE (MH.bind (evE C e loc) fun v => MH.bind (evE C a loc) fun a => MH.bind (evE C i loc) fun i => setDM a i v) loc fun _ h => .ok (.nx loc) h
  | .fset a f e, loc => thenE (MH.bind (evE C e loc) fun v => MH.bind (evE C a loc) fun a => setFM f a v) loc fun _ h => .ok (.nx loc) h
  | .ex e, loc => thenE (evE C e loc) loc fun _ h => .ok (.nx loc) h
  | .ret m e, loc => thenE (if m then evE C e loc else MH.bind (evE C e loc) fun v => MH.bind (pur v) fun x => pure (.t x)) loc fun v h => .ok (.ret v) h
  | .retn, _ => fun h => .ok (.ret (.t .non)) h
  | .iff c a b, loc => thenE (evT C c loc) loc fun k => if k then exSs C a loc else exSs C b loc
  | .fr tg it b, loc => match it with
    | .liv e => thenE (MH.bind (evE C e loc) cellV) loc fun p => livM tg p.1 (exSs C b) C.wf 0 loc
    | it => thenE (evIt C it loc) loc fun xs => forM tg (exSs C b) xs loc
  | .whl c b, loc => whileM (evT C c) (exSs C b) C.wf loc
  | .rai c e, loc => match e with
    | none => fun h => .exc ⟨c, none⟩ loc h
    | some e => thenE (evE C e loc) loc fun v h => match v with
      | .t (.str s) => if s.length ≤ 100000 ∧ (reprText s).length ≤ 1000000 then .exc ⟨c, some (.str s)⟩ loc h else .bad
      | _ => .bad
  | .tryx b hs, loc => fun h => match exSs C b loc h with
    | .exc e l h' => hdsM C.xi hs e l h'
    | r => r
  | .pass, loc => fun h => .ok (.nx loc) h
  | .brk, loc => fun h => .ok (.bk loc) h
  | .cnt, loc => fun h => .ok (.ct loc) h
  | .mc i ps g b el, loc => mcM ps loc i (fun l => match g with
    | none => exSs C b l
    | some c => thenE (evT C c l) l fun k => if k then exSs C b l else exSs C el l) (exSs C el loc)
  | .no, _ => fun _ => .bad
termination_by structural x => x
def exSs (C : Cl) : List S → Loc → List Ob → RS
  | [], loc => fun h => .ok (.nx loc) h
  | s :: ss, loc => fun h => thenS (exS C s loc h) (exSs C ss)
termination_by structural x => x
end

/-! ### defs -/
structure FnD where
  np : Nat
  ns : Nat
  body : List S
  deriving Inhabited
def startL (d : FnD) (vs : List Val) : Loc := vs.map some ++ List.replicate (d.ns - vs.length) none
def run (C : Cl) (d : FnD) (vs : List Val) : MH Val := fun h =>
  if vs.length = d.np then (match exSs C d.body (startL d vs) h with
    | .ok (.ret (.t x)) h' => .ok (.t x) (trunc h.length h')
    | .ok (.ret (.ref n)) h' => .ok (.ref n) h'
    | .ok (.nx _) h' => .ok (.t .non) (trunc h.length h')
    | .ok _ _ => .bad
    | .exc e _ h' => .exc e (trunc h.length h')
    | .bad => .bad) else .bad
/-- the program: defs, methods, inits, classes, constants -/
structure Tab where
  fn : Nat → Option FnD
  mth : Nat → Nat → Option Nat
  ini : Nat → Option Nat
  isa : Nat → Nat → Bool
  gl : Nat → Option T
  xi : Nat → Nat → Bool
def Tab.cl (G : Tab) (a b : Nat → List Val → MH Val) : Cl := ⟨a, b, G.mth, G.ini, G.isa, G.gl, 1000000, G.xi⟩
def Tab.ff (G : Tab) : Nat → (Nat → List Val → MH Val) × (Nat → List Val → MH Val)
  | 0 => (fun _ _ => bad, fun _ _ => bad)
  | n + 1 => (fun f vs => match G.fn f with
    | some d => run (G.cl (G.ff n).1 (G.ff n).2) d vs
    | none => bad, (G.ff n).1)
/-- a call at the level n -/
def Tab.call (G : Tab) (n : Nat) : Nat → List Val → MH Val := (G.ff n).1
end MS

set_option Elab.async false
set_option linter.all false
set_option maxRecDepth 100000
/-! MSC: what the trees stand for; the judgements. -/
namespace MS
open PySem L2

/-- the names behind the numbers -/
def fldNames : List Str := ["name", "names", "places", "sums", "zero", "whole", "left", "right", "kind", "steps", "rows", "past", "source", "target", "goals", "system", "least", "into", "rounds", "known"]
def fldN (f : Nat) : Str := fldNames.getD f "?"

/-- one run: the module, where its classes stand -/
structure Run where
  P : Program
  w : World
  K : PySem.W.Frag
  mg : Str → Option Value
  base : Heap
  cA : Nat → Addr
  xA : Nat → Addr
  pl : Nat → Bool
  xv : Bool
variable (Γ : Run)

/-- a tuple: its object is known, without a dict -/
def TupF (K : PySem.W.Frag) (F : Hp) (p : Addr) (vs : List V) : Prop := (∃ o : Obj, F p = some (.frz o (.tup vs)) ∧ o.dict = none) ∨
  (∃ (o : Obj) (its : Array Value) (n : Nat), K.lookup p = some o ∧ o.cls = .type "tuple" ∧ o.dict = none ∧ o.data = .seq its n ∧ its.size ≤ sizeLine ∧ Vals vs its.toList)
theorem TupF.sqT {K : PySem.W.Frag} {F : Hp} {p : Addr} {vs : List V} (h : TupF K F p vs) : SqT K F p vs := by
  rcases h with ⟨o, h, _⟩ | ⟨o, its, n, h1, h2, _, h3, h4, h5⟩
  · exact .inl (.inr ⟨o, h⟩)
  · exact .inr ⟨o, its, n, h1, h2, h3, h4, h5⟩
mutual
def RT (F : Hp) : T → V → Prop
  | .non, v => v = .non
  | .bl b, v => v = .bl b
  | .int i, v => v = .int i
  | .str s, v => v = .str s
  | .tup xs, v => ∃ p vs, v = .ref p ∧ TupF Γ.K F p vs ∧ RTs F xs vs
  | .lst xs, v => ∃ p vs, v = .ref p ∧ F p = some (.lst vs) ∧ RTs F xs vs
  | .dct kvs, v => ∃ p ks, v = .ref p ∧ F p = some (.dK ks) ∧ RTd F kvs ks
  | .ins c fs, v => ∃ p dx ns, v = .ref p ∧ F p = some (.ins (Γ.cA c) dx ns) ∧ Γ.pl c = true ∧ RTf F fs ns
  | .scr ns, v => ∃ p, v = .ref p ∧ SqL Γ.K F p (ns.map V.int)
  | .xo c none, v => ∃ p, v = .ref p ∧ F p = some (exo p (Γ.xA c) none) ∧ Γ.xv = true
  | .xo c (some z), v => ∃ p d, v = .ref p ∧ F d = some (exd d [("name", .str z)]) ∧ F p = some (exo p (Γ.xA c) (some d)) ∧ Γ.xv = true
termination_by structural x => x
def RTs (F : Hp) : List T → List V → Prop
  | [], vs => vs = []
  | x :: xs, vs => ∃ v r, vs = v :: r ∧ RT F x v ∧ RTs F xs r
termination_by structural x => x
def RTd (F : Hp) : List (T × T) → List (Key × V) → Prop
  | [], vs => vs = []
  | (k, x) :: xs, vs => ∃ k' v r, vs = (k', v) :: r ∧ k = keyT k' ∧ RT F x v ∧ RTd F xs r
termination_by structural x => x
def RTf (F : Hp) : List (Nat × T) → List (Str × V) → Prop
  | [], vs => vs = []
  | (n, x) :: xs, vs => ∃ v r, vs = (fldN n, v) :: r ∧ RT F x v ∧ RTf F xs r
termination_by structural x => x
end

/-- what is tracked stays -/
def Le (F F' : Hp) : Prop := ∀ p o, F p = some o → F' p = some o
theorem Le.refl (F : Hp) : Le F F := fun _ _ h => h
theorem Le.trans {F G H : Hp} (a : Le F G) (b : Le G H) : Le F H := fun p o h => b p o (a p o h)
theorem Le.sqT {K : PySem.W.Frag} {F H : Hp} {a : Addr} {xs : List V} (e : Le F H) (h : SqT K F a xs) : SqT K H a xs := by
  rcases h with (h | ⟨o, h⟩) | h
  · exact .inl (.inl (e _ _ h))
  · exact .inl (.inr ⟨o, e _ _ h⟩)
  · exact .inr h
theorem Le.sqL {K : PySem.W.Frag} {F H : Hp} {a : Addr} {xs : List V} (e : Le F H) (h : SqL K F a xs) : SqL K H a xs := by
  rcases h with (h | ⟨o, h⟩) | h
  · exact .inl (.inl (e _ _ h))
  · exact .inl (.inr ⟨o, e _ _ h⟩)
  · exact .inr h
theorem Le.tupF {K : PySem.W.Frag} {F H : Hp} {a : Addr} {xs : List V} (e : Le F H) (h : TupF K F a xs) : TupF K H a xs := by
  rcases h with ⟨o, h, d⟩ | h
  · exact .inl ⟨o, e _ _ h, d⟩
  · exact .inr h
theorem Le.upd {H : Hp} {p : Addr} {o : HO} (h : H p = none) : Le H (upd H p o) := fun a u e => by rw [upd_ne (ne_of_none e h)]; exact e

section
variable {Γ : Run}
mutual
theorem RT.mono {F F' : Hp} (le : Le F F') : ∀ (x : T) (v : V), RT Γ F x v → RT Γ F' x v
  | .non, v, h => by simp only [RT] at h ⊢; exact h
  | .bl b, v, h => by simp only [RT] at h ⊢; exact h
  | .int i, v, h => by simp only [RT] at h ⊢; exact h
  | .str s, v, h => by simp only [RT] at h ⊢; exact h
  | .tup xs, v, h => by
    simp only [RT] at h ⊢
    obtain ⟨p, vs, e, q, r⟩ := h
    exact ⟨p, vs, e, le.tupF q, RTs.mono le xs vs r⟩
  | .lst xs, v, h => by
    simp only [RT] at h ⊢
    obtain ⟨p, vs, e, q, r⟩ := h
    exact ⟨p, vs, e, le _ _ q, RTs.mono le xs vs r⟩
  | .dct xs, v, h => by
    simp only [RT] at h ⊢
    obtain ⟨p, vs, e, q, r⟩ := h
    exact ⟨p, vs, e, le _ _ q, RTd.mono le xs vs r⟩
  | .ins c xs, v, h => by
    simp only [RT] at h ⊢
    obtain ⟨p, dx, vs, e, q, pc, r⟩ := h
    exact ⟨p, dx, vs, e, le _ _ q, pc, RTf.mono le xs vs r⟩
  | .scr ns, v, h => by
    simp only [RT] at h ⊢
    obtain ⟨p, e, q⟩ := h
    exact ⟨p, e, le.sqL q⟩
  | .xo c none, v, h => by
    simp only [RT] at h ⊢
    obtain ⟨p, e, q, hv⟩ := h
    exact ⟨p, e, le _ _ q, hv⟩
  | .xo c (some z), v, h => by
    simp only [RT] at h ⊢
    obtain ⟨p, d, e, q, r, hv⟩ := h
    exact ⟨p, d, e, le _ _ q, le _ _ r, hv⟩
theorem RTs.mono {F F' : Hp} (le : Le F F') : ∀ (xs : List T) (vs : List V), RTs Γ F xs vs → RTs Γ F' xs vs
  | [], vs, h => by simp only [RTs] at h ⊢; exact h
  | x :: xs, vs, h => by
    simp only [RTs] at h ⊢
    obtain ⟨v, r, e, a, b⟩ := h
    exact ⟨v, r, e, RT.mono le x v a, RTs.mono le xs r b⟩
theorem RTd.mono {F F' : Hp} (le : Le F F') : ∀ (xs : List (T × T)) (vs : List (Key × V)), RTd Γ F xs vs → RTd Γ F' xs vs
  | [], vs, h => by simp only [RTd] at h ⊢; exact h
  | (k, x) :: xs, vs, h => by
    simp only [RTd] at h ⊢
    obtain ⟨k', v, r, e, ek, a, b⟩ := h
    exact ⟨k', v, r, e, ek, RT.mono le x v a, RTd.mono le xs r b⟩
theorem RTf.mono {F F' : Hp} (le : Le F F') : ∀ (xs : List (Nat × T)) (vs : List (Str × V)), RTf Γ F xs vs → RTf Γ F' xs vs
  | [], vs, h => by simp only [RTf] at h ⊢; exact h
  | (k, x) :: xs, vs, h => by
    simp only [RTf] at h ⊢
    obtain ⟨v, r, e, a, b⟩ := h
    exact ⟨v, r, e, RT.mono le x v a, RTf.mono le xs r b⟩
end
theorem RTs.length {F : Hp} : ∀ {xs : List T} {vs : List V}, RTs Γ F xs vs → xs.length = vs.length
  | [], vs, h => by simp only [RTs] at h; rw [h]; rfl
  | x :: xs, vs, h => by
    simp only [RTs] at h
    obtain ⟨v, r, e, _, b⟩ := h
    rw [e, List.length_cons, List.length_cons, RTs.length b]
theorem RTs.get {F : Hp} : ∀ {xs : List T} {vs : List V} {i : Nat} {x : T}, RTs Γ F xs vs → xs[i]? = some x → ∃ v, vs[i]? = some v ∧ RT Γ F x v
  | [], _, _, _, _, e => by simp at e
  | y :: xs, vs, 0, x, h, e => by
    simp only [RTs] at h
    obtain ⟨v, r, e', a, _⟩ := h
    simp at e
    subst e e'
    exact ⟨v, rfl, a⟩
  | y :: xs, vs, i + 1, x, h, e => by
    simp only [RTs] at h
    obtain ⟨v, r, e', _, b⟩ := h
    subst e'
    obtain ⟨u, h1, h2⟩ := RTs.get (i := i) b (by simpa using e)
    exact ⟨u, by simpa using h1, h2⟩
theorem RTs.app {F : Hp} : ∀ {xs ys : List T} {vs us : List V}, RTs Γ F xs vs → RTs Γ F ys us → RTs Γ F (xs ++ ys) (vs ++ us)
  | [], ys, vs, us, h, k => by simp only [RTs] at h; rw [h]; exact k
  | x :: xs, ys, vs, us, h, k => by
    simp only [RTs] at h
    obtain ⟨v, r, e, a, b⟩ := h
    rw [e]
    show RTs Γ F (x :: (xs ++ ys)) (v :: (r ++ us))
    simp only [RTs]
    exact ⟨v, _, rfl, a, RTs.app b k⟩
end

/-- the ghost state: the cells, the frozen part, what the callers hold, where the cells stand -/
structure AS where
  hp : List Ob
  F : Hp
  Fr : Hp
  ρ : List Addr
def RV (F : Hp) (ρ : List Addr) : Val → V → Prop
  | .t x, v => RT Γ F x v
  | .ref n, v => ∃ a, ρ[n]? = some a ∧ v = .ref a
def RVs (F : Hp) (ρ : List Addr) : List Val → List V → Prop := Paired (RV Γ F ρ)
def RVd (F : Hp) (ρ : List Addr) : List (T × Val) → List (Key × V) → Prop := Paired fun p q => p.1 = keyT q.1 ∧ RV Γ F ρ p.2 q.2
def RVf (F : Hp) (ρ : List Addr) : List (Nat × Val) → List (Str × V) → Prop := Paired fun p q => q.1 = fldN p.1 ∧ RV Γ F ρ p.2 q.2
def Cell (F Fr : Hp) (ρ : List Addr) (H : Hp) (a : Addr) : Ob → Prop
  | .lst vs => F a = none ∧ Fr a = none ∧ ∃ us, H a = some (.lst us) ∧ RVs Γ F ρ vs us
  | .dct kvs => F a = none ∧ Fr a = none ∧ ∃ us, H a = some (.dK us) ∧ RVd Γ F ρ kvs us
  | .ins c fs => F a = none ∧ Fr a = none ∧ ∃ dx us, H a = some (.ins (Γ.cA c) dx us) ∧ Γ.pl c = true ∧ RVf Γ F ρ fs us
  | .frz x => RT Γ F x (.ref a)
structure Rel (s : AS) (H : Hp) : Prop where
  fz : Le s.F H
  fr : Le s.Fr H
  dj : ∀ p o, s.Fr p = some o → s.F p = none
  len : s.ρ.length = s.hp.length
  inj : ∀ (m n : Nat) (a : Addr), s.ρ[m]? = some a → s.ρ[n]? = some a → m = n
  th : ∀ (n : Nat) (a : Addr), s.ρ[n]? = some a → H a ≠ none
  nf : ∀ (n : Nat) (a : Addr), s.ρ[n]? = some a → s.Fr a = none
  cell : ∀ (n : Nat) (ob : Ob), s.hp[n]? = some ob → ∃ a, s.ρ[n]? = some a ∧ Cell Γ s.F s.Fr s.ρ H a ob
structure Ext (s s' : AS) : Prop where
  F : Le s.F s'.F
  Fr : s'.Fr = s.Fr
  ρ : s.ρ <+: s'.ρ
theorem Ext.refl (s : AS) : Ext s s := ⟨Le.refl _, rfl, List.prefix_refl _⟩
theorem Ext.trans {a b c : AS} (x : Ext a b) (y : Ext b c) : Ext a c := ⟨x.F.trans y.F, y.Fr.trans x.Fr, x.ρ.trans y.ρ⟩

section
variable {Γ : Run}
theorem pre_get {α : Type} {a b : List α} {n : Nat} {x : α} (p : a <+: b) (h : a[n]? = some x) : b[n]? = some x := by
  obtain ⟨c, rfl⟩ := p
  obtain ⟨hl, e⟩ := List.getElem?_eq_some_iff.mp h
  rw [List.getElem?_append_left hl, h]
theorem RV.mono {F F' : Hp} {ρ ρ' : List Addr} (le : Le F F') (p : ρ <+: ρ') : ∀ {v : Val} {u : V}, RV Γ F ρ v u → RV Γ F' ρ' v u
  | .t x, u, h => RT.mono le x u h
  | .ref n, u, h => by
    obtain ⟨a, e, r⟩ := h
    exact ⟨a, pre_get p e, r⟩
theorem RV.ext {s s' : AS} (e : Ext s s') {v : Val} {u : V} (h : RV Γ s.F s.ρ v u) : RV Γ s'.F s'.ρ v u := RV.mono e.F e.ρ h
theorem Paired.imp {α β : Type} {R R' : α → β → Prop} (h : ∀ a b, R a b → R' a b) : ∀ {xs : List α} {ys : List β}, Paired R xs ys → Paired R' xs ys
  | _, _, .nil => .nil
  | _, _, .cons r t => .cons (h _ _ r) (Paired.imp h t)
theorem RVs.mono {F F' : Hp} {ρ ρ' : List Addr} (le : Le F F') (p : ρ <+: ρ') {vs : List Val} {us : List V} (h : RVs Γ F ρ vs us) : RVs Γ F' ρ' vs us := Paired.imp (fun _ _ => RV.mono le p) h
theorem RVs.ext {s s' : AS} (e : Ext s s') {vs : List Val} {us : List V} (h : RVs Γ s.F s.ρ vs us) : RVs Γ s'.F s'.ρ vs us := RVs.mono e.F e.ρ h
theorem RVd.mono {F F' : Hp} {ρ ρ' : List Addr} (le : Le F F') (p : ρ <+: ρ') {vs : List (T × Val)} {us : List (Key × V)} (h : RVd Γ F ρ vs us) : RVd Γ F' ρ' vs us := Paired.imp (fun _ _ q => ⟨q.1, RV.mono le p q.2⟩) h
theorem RVf.mono {F F' : Hp} {ρ ρ' : List Addr} (le : Le F F') (p : ρ <+: ρ') {vs : List (Nat × Val)} {us : List (Str × V)} (h : RVf Γ F ρ vs us) : RVf Γ F' ρ' vs us := Paired.imp (fun _ _ q => ⟨q.1, RV.mono le p q.2⟩) h
theorem RVs.of_ts {F : Hp} {ρ : List Addr} : ∀ {xs : List T} {vs : List V}, RTs Γ F xs vs → RVs Γ F ρ (xs.map .t) vs
  | [], vs, h => by simp only [RTs] at h; rw [h]; exact .nil
  | x :: xs, vs, h => by
    simp only [RTs] at h
    obtain ⟨v, r, e, a, b⟩ := h
    rw [e]
    exact .cons a (RVs.of_ts b)
theorem Paired.len {α β : Type} {R : α → β → Prop} : ∀ {xs : List α} {ys : List β}, Paired R xs ys → xs.length = ys.length
  | _, _, .nil => rfl
  | _, _, .cons _ t => by rw [List.length_cons, List.length_cons, Paired.len t]
theorem Paired.get1 {α β : Type} {R : α → β → Prop} : ∀ {xs : List α} {ys : List β} {i : Nat} {x : α}, Paired R xs ys → xs[i]? = some x → ∃ y, ys[i]? = some y ∧ R x y
  | _, _, _, _, .nil, e => by simp at e
  | _, _, 0, _, .cons r _, e => by simp at e; subst e; exact ⟨_, rfl, r⟩
  | _, _, i + 1, x, .cons _ t, e => by
    obtain ⟨u, h1, h2⟩ := Paired.get1 (i := i) t (by simpa using e)
    exact ⟨u, by simpa using h1, h2⟩
theorem Paired.app {α β : Type} {R : α → β → Prop} : ∀ {xs xs' : List α} {ys ys' : List β}, Paired R xs ys → Paired R xs' ys' → Paired R (xs ++ xs') (ys ++ ys')
  | _, _, _, _, .nil, s => s
  | _, _, _, _, .cons r t, s => .cons r (Paired.app t s)
end

/-- the slots -/
structure Locs (s : AS) (loc : Loc) (σ : L2.St) : Prop where
  len : loc.length = σ.length
  at_ : ∀ (i : Nat) (v : Val), loc[i]? = some (some v) → ∃ u, σ[i]? = some (some u) ∧ RV Γ s.F s.ρ v u
theorem Locs.ext {Γ : Run} {s s' : AS} {loc : Loc} {σ : L2.St} (L : Locs Γ s loc σ) (e : Ext s s') : Locs Γ s' loc σ :=
  ⟨L.len, fun i v h => by obtain ⟨u, h1, h2⟩ := L.at_ i v h; exact ⟨u, h1, h2.ext e⟩⟩
theorem Locs.set {Γ : Run} {s : AS} {loc : Loc} {σ : L2.St} (L : Locs Γ s loc σ) (i : Nat) {v : Val} {u : V} (r : RV Γ s.F s.ρ v u) : Locs Γ s (loc.set i (some v)) (σ.set i (some u)) := by
  refine ⟨by simp [L.len], fun j w h => ?_⟩
  by_cases hj : i = j
  · subst hj
    have hl : i < loc.length := by
      by_cases hl : i < loc.length
      · exact hl
      · rw [List.getElem?_eq_none (by simpa using hl)] at h; cases h
    rw [List.getElem?_set_self hl] at h
    cases h
    exact ⟨u, by rw [List.getElem?_set_self (by rw [← L.len]; exact hl)], r⟩
  · rw [List.getElem?_set_ne hj] at h
    obtain ⟨x, h1, h2⟩ := L.at_ j w h
    exact ⟨x, by rw [List.getElem?_set_ne hj]; exact h1, h2⟩

/-- behind a computation -/
def After {α : Type} (s : AS) (r : RH α) (Q : α → AS → Hp → Prop) (E : Ex → AS → Hp → Prop) : Prop := match r with
  | .ok a hp => ∀ s' H', s'.hp = hp → Ext s s' → Rel Γ s' H' → Q a s' H'
  | .exc e hp => ∀ s' H', s'.hp = hp → Ext s s' → Rel Γ s' H' → E e s' H'
  | .bad => False
section
variable {Γ : Run} {α β : Type} {s s' : AS} {r : RH α} {Q Q' : α → AS → Hp → Prop} {E E' : Ex → AS → Hp → Prop}
theorem After.from (e : Ext s s') (h : After Γ s r Q E) : After Γ s' r Q E := by
  cases r with
  | ok a hp => exact fun t H' e1 e2 R => h t H' e1 (e.trans e2) R
  | exc x hp => exact fun t H' e1 e2 R => h t H' e1 (e.trans e2) R
  | bad => exact h
theorem After.imp (h : After Γ s r Q E) (hQ : ∀ a s' H', Ext s s' → Rel Γ s' H' → Q a s' H' → Q' a s' H') (hE : ∀ x s' H', Ext s s' → Rel Γ s' H' → E x s' H' → E' x s' H') : After Γ s r Q' E' := by
  cases r with
  | ok a hp => exact fun t H' e1 e2 R => hQ a t H' e2 R (h t H' e1 e2 R)
  | exc x hp => exact fun t H' e1 e2 R => hE x t H' e2 R (h t H' e1 e2 R)
  | bad => exact h
theorem After.bind {m : MH α} {f : α → MH β} {Q : β → AS → Hp → Prop} (h : After Γ s (MH.bind m f s.hp) Q E) : After Γ s (m s.hp) (fun a s' H' => After Γ s' (f a s'.hp) Q E) E := by
  unfold MH.bind at h
  cases e : m s.hp with
  | ok a hp =>
    rw [e] at h
    intro t H' e1 e2 R
    rw [e1]
    exact h.from e2
  | exc x hp => rw [e] at h; exact h
  | bad => rw [e] at h; exact h
end

/-- the error as it flies -/
def ExR (xA : Nat → Addr) (e : Ex) (cls : Value) (d : Option Addr) (H : Hp) : Prop :=
  cls = .ref (xA e.c) ∧ match e.a with
    | none => True
    | some x => ∃ dd z, x = .str z ∧ d = some dd ∧ H dd = some (.xd [("name", .str z)])

/-! ### the judgements -/
/-- what is wished of an exception at the slots σ -/
def XW (W : WX) (σ : L2.St) (e : Ex) (_ : AS) (H : Hp) : Prop := ∀ cls d, ExR Γ.xA e cls d H → W cls d σ H
def tE (m : Loc → MH Val) (W : WX) : TE := fun σ H Q => ∃ loc s, Rel Γ s H ∧ Locs Γ s loc σ ∧ After Γ s (m loc s.hp) (fun v s' H' => ∀ u, RV Γ s'.F s'.ρ v u → Q u H') (XW Γ W σ)
def tT (m : Loc → MH Bool) (W : WX) : TT := fun σ H Q => ∃ loc s, Rel Γ s H ∧ Locs Γ s loc σ ∧ After Γ s (m loc s.hp) (fun v s' H' => Q v H') (XW Γ W σ)
def tA (m : Loc → MH (List Val)) (W : WX) : TA := fun σ H Q => ∃ loc s, Rel Γ s H ∧ Locs Γ s loc σ ∧ After Γ s (m loc s.hp) (fun v s' H' => ∀ u, RVs Γ s'.F s'.ρ v u → Q u H') (XW Γ W σ)
def SE (X : Cx) (e : Expr) (m : Loc → MH Val) : Prop := ∀ W, Takes X W → PE X e (tE Γ m W)
def ST (X : Cx) (e : Expr) (m : Loc → MH Bool) : Prop := ∀ W, Takes X W → PT X e (tT Γ m W)
def SW (X : Cx) (e : Expr) (m : Loc → MH Bool) : Prop := ∀ W, Takes X W → PW X e (tT Γ m W)
def SA (X : Cx) (es : List Expr) (m : Loc → MH (List Val)) : Prop := ∀ W, Takes X W → PA X es (tA Γ m W)
def AfterS (s : AS) (r : RS) (W : WX) (D : Ends) : Prop := match r with
  | .ok f hp => ∀ s' H', s'.hp = hp → Ext s s' → Rel Γ s' H' → (match f with
    | .nx loc => ∀ σ, Locs Γ s' loc σ → D.nx σ H'
    | .ret v => ∀ u, RV Γ s'.F s'.ρ v u → D.rt u H'
    | .bk loc => ∀ σ, Locs Γ s' loc σ → D.bk σ H'
    | .ct loc => ∀ σ, Locs Γ s' loc σ → D.ct σ H')
  | .exc e loc hp => ∀ s' H', s'.hp = hp → Ext s s' → Rel Γ s' H' → ∀ σ, Locs Γ s' loc σ → XW Γ W σ e s' H'
  | .bad => False
def tS (m : Loc → List Ob → RS) (W : WX) : TS := fun D σ H => ∃ loc s, Rel Γ s H ∧ Locs Γ s loc σ ∧ AfterS Γ s (m loc s.hp) W D
def SS (X : Cx) (st : Stmt) (m : Loc → List Ob → RS) : Prop := ∀ W, Takes X W → PS X st (tS Γ m W)
def SSs (X : Cx) (st : List Stmt) (m : Loc → List Ob → RS) : Prop := ∀ W, Takes X W → PSs X st (tS Γ m W)
end MS

set_option Elab.async false
set_option linter.all false
set_option maxRecDepth 100000
/-! MSD: steps of the ghost state. -/
namespace MS
open PySem L2
section
variable {Γ : Run} {α β : Type} {s : AS} {H : Hp}

/-! ### the monad -/
theorem bind_eq {α β : Type} (x : MH α) (f : α → MH β) : (x >>= f) = MH.bind x f := rfl
theorem pure_eq {α : Type} (a : α) : (pure a : MH α) = MH.pure a := rfl
theorem MH.pure_bind {α β : Type} (a : α) (f : α → MH β) : MH.bind (MH.pure a) f = f a := rfl
theorem MH.bind_assoc {α β γ : Type} (m : MH α) (f : α → MH β) (g : β → MH γ) : MH.bind (MH.bind m f) g = MH.bind m fun a => MH.bind (f a) g := by
  funext h
  unfold MH.bind
  cases m h <;> rfl
theorem bind_ok {α β : Type} {m : MH α} {f : α → MH β} {h h' : List Ob} {a : α} (e : m h = .ok a h') : MH.bind m f h = f a h' := by unfold MH.bind; rw [e]
theorem bind_no {α β : Type} {m : MH α} {f : α → MH β} {h : List Ob} (e : m h = .bad) : MH.bind m f h = .bad := by unfold MH.bind; rw [e]
theorem MH.bind_bad {α β : Type} (f : α → MH β) : MH.bind bad f = bad := rfl

theorem After.ok {a : α} {Q : α → AS → Hp → Prop} {E : Ex → AS → Hp → Prop} (R : Rel Γ s H) (h : After Γ s (MH.pure a s.hp) Q E) : Q a s H := h s H rfl (Ext.refl s) R
theorem After.okAt {a : α} {Q : α → AS → Hp → Prop} {E : Ex → AS → Hp → Prop} {s' : AS} {H' : Hp} (R : Rel Γ s' H') (e : Ext s s') (h : After Γ s (.ok a s'.hp) Q E) : Q a s' H' := h s' H' rfl e R

/-! ### views -/
theorem nrm_ok (R : Rel Γ s H) {v : Val} {u : V} (r : RV Γ s.F s.ρ v u) : RV Γ s.F s.ρ (nrm v s.hp) u := by
  cases v with
  | t x => exact r
  | ref n =>
    obtain ⟨a, ea, rfl⟩ := r
    have keep : RV Γ s.F s.ρ (.ref n) (.ref a) := ⟨a, ea, rfl⟩
    unfold nrm
    dsimp only
    split
    · rename_i x e
      obtain ⟨b, eb, c⟩ := R.cell n _ e
      rw [ea] at eb
      cases eb
      exact c
    · exact keep

/-- the cell at n, frozen as x -/
def AS.fz (s : AS) (n : Nat) (x : T) (a : Addr) (o : HO) : AS := ⟨s.hp.set n (.frz x), upd s.F a o, s.Fr, s.ρ⟩
theorem Cell.mono {F F' Fr : Hp} {ρ ρ' : List Addr} {H : Hp} {a : Addr} {ob : Ob} (le : Le F F') (p : ρ <+: ρ') (hn : F' a = F a ∨ F a ≠ none) (c : Cell Γ F Fr ρ H a ob) : Cell Γ F' Fr ρ' H a ob := by
  cases ob with
  | lst vs =>
    obtain ⟨c1, c2, us, c3, c4⟩ := c
    refine ⟨?_, c2, us, c3, c4.mono le p⟩
    rcases hn with hn | hn
    · rw [hn]; exact c1
    · exact absurd c1 hn
  | dct vs =>
    obtain ⟨c1, c2, us, c3, c4⟩ := c
    refine ⟨?_, c2, us, c3, c4.mono le p⟩
    rcases hn with hn | hn
    · rw [hn]; exact c1
    · exact absurd c1 hn
  | ins k vs =>
    obtain ⟨c1, c2, dx, us, c3, pc, c4⟩ := c
    refine ⟨?_, c2, dx, us, c3, pc, c4.mono le p⟩
    rcases hn with hn | hn
    · rw [hn]; exact c1
    · exact absurd c1 hn
  | frz x => exact RT.mono le x _ c
theorem get_lt {α : Type} {l : List α} {n : Nat} {x : α} (h : l[n]? = some x) : n < l.length := (List.getElem?_eq_some_iff.mp h).1
theorem fz_ok (R : Rel Γ s H) {n : Nat} {a : Addr} {x : T} {o : HO} (ea : s.ρ[n]? = some a) (hn : n < s.hp.length) (hH : H a = some o) (hFr : s.Fr a = none) (rx : RT Γ (upd s.F a o) x (.ref a)) :
    Rel Γ (s.fz n x a o) H ∧ Ext s (s.fz n x a o) := by
  have le : Le s.F (upd s.F a o) := fun p u e => by
    by_cases hp : p = a
    · subst hp
      have := R.fz _ _ e
      rw [hH] at this
      cases this
      exact upd_same
    · rw [upd_ne hp]; exact e
  refine ⟨⟨fun p u e => ?_, R.fr, fun p u e => ?_, by simp [AS.fz, R.len], R.inj, R.th, R.nf, fun m ob e => ?_⟩, ⟨le, rfl, List.prefix_refl _⟩⟩
  · have e : upd s.F a o p = some u := e
    by_cases hp : p = a
    · subst hp; rw [upd_same] at e; cases e; exact hH
    · rw [upd_ne hp] at e; exact R.fz p u e
  · show upd s.F a o p = none
    have hp : p ≠ a := fun z => by subst z; have e : s.Fr p = some u := e; rw [hFr] at e; cases e
    rw [upd_ne hp]
    exact R.dj p u e
  · have e : (s.hp.set n (.frz x))[m]? = some ob := e
    by_cases hm : n = m
    · subst hm
      rw [List.getElem?_set_self hn] at e
      cases e
      exact ⟨a, ea, rx⟩
    · rw [List.getElem?_set_ne hm] at e
      obtain ⟨b, eb, c⟩ := R.cell m ob e
      refine ⟨b, eb, c.mono le (List.prefix_refl _) ?_⟩
      have hb : b ≠ a := fun z => by subst z; exact hm (R.inj n m b ea eb)
      exact .inl (upd_ne hb)

/-- frozen, or refused: what freezing comes to -/
def Fzd (Γ : Run) (s : AS) (H : Hp) (u : V) (r : RH T) : Prop := r = .bad ∨ ∃ x s', r = .ok x s'.hp ∧ Ext s s' ∧ Rel Γ s' H ∧ RT Γ s'.F x u
def FzdL (Γ : Run) (s : AS) (H : Hp) (us : List V) (r : RH (List T)) : Prop := r = .bad ∨ ∃ x s', r = .ok x s'.hp ∧ Ext s s' ∧ Rel Γ s' H ∧ RTs Γ s'.F x us
theorem mp_fz {f : Val → MH T} (hf : ∀ (s : AS) v u, Rel Γ s H → RV Γ s.F s.ρ v u → Fzd Γ s H u (f v s.hp)) : ∀ (vs : List Val) (us : List V) (s : AS), Rel Γ s H → RVs Γ s.F s.ρ vs us → FzdL Γ s H us (mp f vs s.hp)
  | [], us, s, R, r => by
    cases r
    exact .inr ⟨[], s, rfl, Ext.refl s, R, by simp only [RTs]⟩
  | v :: vs, us, s, R, r => by
    cases r with
    | cons r t =>
      rename_i u us
      show FzdL Γ s H (u :: us) (MH.bind (f v) (fun y => MH.bind (mp f vs) fun ys => MH.pure (y :: ys)) s.hp)
      rcases hf s v u R r with e | ⟨x, s1, e, x1, R1, rx⟩
      · rw [bind_no e]; exact .inl rfl
      · rw [bind_ok e]
        rcases mp_fz hf vs us s1 R1 (RVs.ext x1 t) with e | ⟨xs, s2, e, x2, R2, rxs⟩
        · rw [bind_no e]; exact .inl rfl
        · rw [bind_ok e]
          refine .inr ⟨x :: xs, s2, rfl, x1.trans x2, R2, ?_⟩
          simp only [RTs]
          exact ⟨u, us, rfl, RT.mono x2.F x u rx, rxs⟩
theorem RTd.of_zip {F : Hp} {ρ : List Addr} : ∀ {kvs : List (T × Val)} {us : List (Key × V)} {ts : List T}, RVd Γ F ρ kvs us → ∀ {F' : Hp}, RTs Γ F' ts (us.map (·.2)) → RTd Γ F' ((kvs.map (·.1)).zip ts) us
  | _, _, ts, .nil, F', h => by
    rw [List.map_nil] at h
    have : ts = [] := by
      cases ts with
      | nil => rfl
      | cons t ts => simp only [RTs] at h; obtain ⟨_, _, e, _⟩ := h; cases e
    subst this
    simp [RTd]
  | _, _, ts, .cons (a := p) (b := q) r t, F', h => by
    rw [List.map_cons] at h
    cases ts with
    | nil => simp only [RTs] at h; cases h
    | cons y ys =>
      simp only [RTs] at h
      obtain ⟨v, rr, e, a, b⟩ := h
      cases e
      rw [List.map_cons, List.zip_cons_cons]
      simp only [RTd]
      exact ⟨q.1, q.2, _, rfl, r.1, a, RTd.of_zip t b⟩
theorem RTf.of_zip {F : Hp} {ρ : List Addr} : ∀ {kvs : List (Nat × Val)} {us : List (Str × V)} {ts : List T}, RVf Γ F ρ kvs us → ∀ {F' : Hp}, RTs Γ F' ts (us.map (·.2)) → RTf Γ F' ((kvs.map (·.1)).zip ts) us
  | _, _, ts, .nil, F', h => by
    rw [List.map_nil] at h
    have : ts = [] := by
      cases ts with
      | nil => rfl
      | cons t ts => simp only [RTs] at h; obtain ⟨_, _, e, _⟩ := h; cases e
    subst this
    simp [RTf]
  | _, _, ts, .cons (a := p) (b := q) r t, F', h => by
    rw [List.map_cons] at h
    cases ts with
    | nil => simp only [RTs] at h; cases h
    | cons y ys =>
      simp only [RTs] at h
      obtain ⟨v, rr, e, a, b⟩ := h
      cases e
      rw [List.map_cons, List.zip_cons_cons]
      obtain ⟨q1, q2⟩ := q
      obtain ⟨r1, r2⟩ := r
      have r1 : q1 = fldN p.1 := r1
      subst r1
      simp only [RTf]
      exact ⟨q2, _, rfl, a, RTf.of_zip t b⟩
theorem RVd.vals {F : Hp} {ρ : List Addr} : ∀ {kvs : List (T × Val)} {us : List (Key × V)}, RVd Γ F ρ kvs us → RVs Γ F ρ (kvs.map (·.2)) (us.map (·.2))
  | _, _, .nil => .nil
  | _, _, .cons r t => .cons r.2 (RVd.vals t)
theorem RVf.vals {F : Hp} {ρ : List Addr} : ∀ {kvs : List (Nat × Val)} {us : List (Str × V)}, RVf Γ F ρ kvs us → RVs Γ F ρ (kvs.map (·.2)) (us.map (·.2))
  | _, _, .nil => .nil
  | _, _, .cons r t => .cons r.2 (RVf.vals t)

theorem fzn_ok : ∀ (k : Nat) (s : AS) (v : Val) (u : V), Rel Γ s H → RV Γ s.F s.ρ v u → Fzd Γ s H u (fzn k v s.hp)
  | 0, s, .t x, u, R, r => .inr ⟨x, s, rfl, Ext.refl s, R, r⟩
  | k + 1, s, .t x, u, R, r => .inr ⟨x, s, rfl, Ext.refl s, R, r⟩
  | 0, s, .ref n, u, R, r => .inl rfl
  | k + 1, s, .ref n, u, R, r => by
    obtain ⟨a, ea, rfl⟩ := r
    unfold fzn
    cases e : s.hp[n]? with
    | none => exact .inl rfl
    | some ob =>
      have hn := get_lt e
      obtain ⟨b, eb, c⟩ := R.cell n _ e
      rw [ea] at eb
      cases eb
      cases ob with
      | frz x => exact .inr ⟨x, s, rfl, Ext.refl s, R, c⟩
      | lst vs =>
        obtain ⟨c1, c2, us, c3, c4⟩ := c
        show Fzd Γ s H (.ref a) (MH.bind (mp (fzn k) vs) (fun ts => fzw n (.lst ts)) s.hp)
        rcases mp_fz (fun s v u R r => fzn_ok k s v u R r) vs us s R c4 with e1 | ⟨ts, s1, e1, x1, R1, rts⟩
        · rw [bind_no e1]; exact .inl rfl
        · rw [bind_ok e1]
          have hl : s1.ρ[n]? = some a := pre_get x1.ρ ea
          have hn1 : n < s1.hp.length := by rw [← R1.len]; exact get_lt hl
          have le : Le s1.F (upd s1.F a (.lst us)) := fun p o q => by
            by_cases hp : p = a
            · subst hp; have := R1.fz _ _ q; rw [c3] at this; cases this; exact upd_same
            · rw [upd_ne hp]; exact q
          obtain ⟨R2, x2⟩ := fz_ok (x := .lst ts) R1 hl hn1 c3 (by rw [x1.Fr]; exact c2) (by simp only [RT]; exact ⟨a, us, rfl, upd_same, RTs.mono le ts us rts⟩)
          exact .inr ⟨.lst ts, _, rfl, x1.trans x2, R2, by simp only [RT]; exact ⟨a, us, rfl, upd_same, RTs.mono le ts us rts⟩⟩
      | dct kvs =>
        obtain ⟨c1, c2, us, c3, c4⟩ := c
        show Fzd Γ s H (.ref a) (MH.bind (mp (fzn k) (kvs.map (·.2))) (fun ts => fzw n (.dct ((kvs.map (·.1)).zip ts))) s.hp)
        rcases mp_fz (fun s v u R r => fzn_ok k s v u R r) _ _ s R c4.vals with e1 | ⟨ts, s1, e1, x1, R1, rts⟩
        · rw [bind_no e1]; exact .inl rfl
        · rw [bind_ok e1]
          have hl : s1.ρ[n]? = some a := pre_get x1.ρ ea
          have hn1 : n < s1.hp.length := by rw [← R1.len]; exact get_lt hl
          have le : Le s1.F (upd s1.F a (.dK us)) := fun p o q => by
            by_cases hp : p = a
            · subst hp; have := R1.fz _ _ q; rw [c3] at this; cases this; exact upd_same
            · rw [upd_ne hp]; exact q
          have rd := RTd.mono le _ _ (RTd.of_zip c4 rts)
          obtain ⟨R2, x2⟩ := fz_ok (x := .dct ((kvs.map (·.1)).zip ts)) R1 hl hn1 c3 (by rw [x1.Fr]; exact c2) (by simp only [RT]; exact ⟨a, us, rfl, upd_same, rd⟩)
          exact .inr ⟨_, _, rfl, x1.trans x2, R2, by simp only [RT]; exact ⟨a, us, rfl, upd_same, rd⟩⟩
      | ins c fs =>
        obtain ⟨c1, c2, dx, us, c3, pc, c4⟩ := c
        show Fzd Γ s H (.ref a) (MH.bind (mp (fzn k) (fs.map (·.2))) (fun ts => fzw n (.ins c ((fs.map (·.1)).zip ts))) s.hp)
        rcases mp_fz (fun s v u R r => fzn_ok k s v u R r) _ _ s R c4.vals with e1 | ⟨ts, s1, e1, x1, R1, rts⟩
        · rw [bind_no e1]; exact .inl rfl
        · rw [bind_ok e1]
          have hl : s1.ρ[n]? = some a := pre_get x1.ρ ea
          have hn1 : n < s1.hp.length := by rw [← R1.len]; exact get_lt hl
          have le : Le s1.F (upd s1.F a (.ins (Γ.cA c) dx us)) := fun p o q => by
            by_cases hp : p = a
            · subst hp; have := R1.fz _ _ q; rw [c3] at this; cases this; exact upd_same
            · rw [upd_ne hp]; exact q
          have rd := RTf.mono le _ _ (RTf.of_zip c4 rts)
          obtain ⟨R2, x2⟩ := fz_ok (x := .ins c ((fs.map (·.1)).zip ts)) R1 hl hn1 c3 (by rw [x1.Fr]; exact c2) (by simp only [RT]; exact ⟨a, dx, us, rfl, upd_same, pc, rd⟩)
          exact .inr ⟨_, _, rfl, x1.trans x2, R2, by simp only [RT]; exact ⟨a, dx, us, rfl, upd_same, pc, rd⟩⟩
/-- freezing, then the rest -/
theorem After.pur {v : Val} {u : V} {f : T → MH β} {Q : β → AS → Hp → Prop} {E : Ex → AS → Hp → Prop} (R : Rel Γ s H) (r : RV Γ s.F s.ρ v u) (h : After Γ s (MH.bind (MS.pur v) f s.hp) Q E) :
    ∃ x s', Ext s s' ∧ Rel Γ s' H ∧ RT Γ s'.F x u ∧ After Γ s' (f x s'.hp) Q E := by
  unfold MH.bind MS.pur at h
  rcases fzn_ok 8 s v u R r with e | ⟨x, s', e, x1, R1, rx⟩
  · rw [e] at h; exact h.elim
  · rw [e] at h; exact ⟨x, s', x1, R1, rx, h.from x1⟩
theorem After.purs {vs : List Val} {us : List V} {f : List T → MH β} {Q : β → AS → Hp → Prop} {E : Ex → AS → Hp → Prop} (R : Rel Γ s H) (r : RVs Γ s.F s.ρ vs us) (h : After Γ s (MH.bind (mp MS.pur vs) f s.hp) Q E) :
    ∃ x s', Ext s s' ∧ Rel Γ s' H ∧ RTs Γ s'.F x us ∧ After Γ s' (f x s'.hp) Q E := by
  unfold MH.bind at h
  rcases mp_fz (f := MS.pur) (fun s v u R r => fzn_ok 8 s v u R r) vs us s R r with e | ⟨x, s', e, x1, R1, rx⟩
  · rw [e] at h; exact h.elim
  · rw [e] at h; exact ⟨x, s', x1, R1, rx, h.from x1⟩

/-! ### new things -/
theorem Rel.free (R : Rel Γ s H) {p : Addr} (hp : H p = none) : s.F p = none ∧ s.Fr p = none := by
  constructor
  · cases e : s.F p with
    | none => rfl
    | some o => have := R.fz _ _ e; rw [hp] at this; cases this
  · cases e : s.Fr p with
    | none => rfl
    | some o => have := R.fr _ _ e; rw [hp] at this; cases this
theorem Cell.other {F Fr : Hp} {ρ : List Addr} {a p : Addr} {o : HO} {ob : Ob} (hne : ∀ x, ob ≠ .frz x → a ≠ p) (c : Cell Γ F Fr ρ H a ob) : Cell Γ F Fr ρ (upd H p o) a ob := by
  cases ob with
  | lst vs => obtain ⟨c1, c2, us, c3, c4⟩ := c; exact ⟨c1, c2, us, by rw [upd_ne (hne .non (by simp))]; exact c3, c4⟩
  | dct vs => obtain ⟨c1, c2, us, c3, c4⟩ := c; exact ⟨c1, c2, us, by rw [upd_ne (hne .non (by simp))]; exact c3, c4⟩
  | ins k vs => obtain ⟨c1, c2, dx, us, c3, c4⟩ := c; exact ⟨c1, c2, dx, us, by rw [upd_ne (hne .non (by simp))]; exact c3, c4⟩
  | frz x => exact c
theorem Cell.some_ {F Fr : Hp} {ρ : List Addr} {a : Addr} {ob : Ob} (c : Cell Γ F Fr ρ H a ob) (hk : ∀ x, ob ≠ .frz x) : F a = none ∧ Fr a = none ∧ ∃ o, H a = some o := by
  cases ob with
  | lst vs => obtain ⟨c1, c2, us, c3, c4⟩ := c; exact ⟨c1, c2, _, c3⟩
  | dct vs => obtain ⟨c1, c2, us, c3, c4⟩ := c; exact ⟨c1, c2, _, c3⟩
  | ins k vs => obtain ⟨c1, c2, dx, us, c3, c4⟩ := c; exact ⟨c1, c2, _, c3⟩
  | frz x => exact absurd rfl (hk x)
theorem upd_some {a p : Addr} {o : HO} (h : H a ≠ none) : upd H p o a ≠ none := by
  by_cases e : a = p
  · subst e; rw [upd_same]; simp
  · rw [upd_ne e]; exact h
/-- a new frozen thing -/
def AS.withF (s : AS) (p : Addr) (o : HO) : AS := ⟨s.hp, upd s.F p o, s.Fr, s.ρ⟩
theorem new_frz (R : Rel Γ s H) {p : Addr} (hp : H p = none) (o : HO) : Rel Γ (s.withF p o) (upd H p o) ∧ Ext s (s.withF p o) := by
  obtain ⟨f1, f2⟩ := R.free hp
  have le : Le s.F (upd s.F p o) := Le.upd f1
  refine ⟨⟨fun q u e => ?_, fun q u e => ?_, fun q u e => ?_, R.len, R.inj, fun n a e => upd_some (R.th n a e), R.nf, fun n ob e => ?_⟩, ⟨le, rfl, List.prefix_refl _⟩⟩
  · have e : upd s.F p o q = some u := e
    by_cases hq : q = p
    · subst hq; rw [upd_same] at e ⊢; exact e
    · rw [upd_ne hq] at e ⊢; exact R.fz q u e
  · have hq : q ≠ p := fun z => by subst z; have e : s.Fr q = some u := e; rw [f2] at e; cases e
    rw [upd_ne hq]; exact R.fr q u e
  · have hq : q ≠ p := fun z => by subst z; have e : s.Fr q = some u := e; rw [f2] at e; cases e
    show upd s.F p o q = none
    rw [upd_ne hq]; exact R.dj q u e
  · obtain ⟨a, ea, c⟩ := R.cell n ob e
    refine ⟨a, ea, ?_⟩
    have hne : (∀ x, ob ≠ .frz x) → a ≠ p := fun hk z => by
      obtain ⟨_, _, w, hw⟩ := c.some_ hk
      rw [z, hp] at hw; cases hw
    by_cases hk : ∀ x, ob ≠ .frz x
    · exact (c.mono le (List.prefix_refl _) (.inl (upd_ne (hne hk)))).other fun _ _ => hne hk
    · have : ∃ x, ob = .frz x := by
        cases ob with
        | frz x => exact ⟨x, rfl⟩
        | lst _ => exact absurd (fun x => by simp) hk
        | dct _ => exact absurd (fun x => by simp) hk
        | ins _ _ => exact absurd (fun x => by simp) hk
      obtain ⟨x, rfl⟩ := this
      exact RT.mono le x _ c
/-- a new cell -/
def AS.push (s : AS) (p : Addr) (ob : Ob) : AS := ⟨s.hp ++ [ob], s.F, s.Fr, s.ρ ++ [p]⟩
theorem frz_or (ob : Ob) : (∀ x, ob ≠ .frz x) ∨ ∃ x, ob = .frz x := by
  cases ob with
  | frz x => exact .inr ⟨x, rfl⟩
  | lst _ => exact .inl fun x => by simp
  | dct _ => exact .inl fun x => by simp
  | ins _ _ => exact .inl fun x => by simp
theorem new_cell (R : Rel Γ s H) {p : Addr} (hp : H p = none) {o : HO} {ob : Ob} (hc : Cell Γ s.F s.Fr (s.ρ ++ [p]) (upd H p o) p ob) : Rel Γ (s.push p ob) (upd H p o) ∧ Ext s (s.push p ob) := by
  obtain ⟨f1, f2⟩ := R.free hp
  have pre : s.ρ <+: s.ρ ++ [p] := List.prefix_append _ _
  have key : ∀ {n : Nat} {a : Addr}, (s.ρ ++ [p])[n]? = some a → s.ρ[n]? = some a ∨ (n = s.ρ.length ∧ a = p) := fun {n a} e => by
    by_cases hn : n < s.ρ.length
    · rw [List.getElem?_append_left hn] at e; exact .inl e
    · rw [List.getElem?_append_right (by omega)] at e
      have h0 : n - s.ρ.length = 0 := by
        by_cases h0 : n - s.ρ.length = 0
        · exact h0
        · rw [List.getElem?_eq_none (by simp; omega)] at e; cases e
      rw [h0] at e
      cases e
      exact .inr ⟨by omega, rfl⟩
  have nop : ∀ {n : Nat} {b : Addr}, s.ρ[n]? = some b → b ≠ p := fun {n b} e z => R.th n b e (by rw [z]; exact hp)
  refine ⟨⟨fun q u e => ?_, fun q u e => ?_, R.dj, by simp [AS.push, R.len], fun m n a e1 e2 => ?_, fun n a e => ?_, fun n a e => ?_, fun n ob' e => ?_⟩, ⟨Le.refl _, rfl, pre⟩⟩
  · rw [upd_ne (ne_of_none e f1)]; exact R.fz q u e
  · rw [upd_ne (ne_of_none e f2)]; exact R.fr q u e
  · rcases key e1 with q1 | ⟨h1, q1⟩ <;> rcases key e2 with q2 | ⟨h2, q2⟩
    · exact R.inj m n a q1 q2
    · exact absurd q2 (nop q1)
    · exact absurd q1 (nop q2)
    · omega
  · rcases key e with q | ⟨h, q⟩
    · exact upd_some (R.th n a q)
    · rw [q, upd_same]; simp
  · show s.Fr a = none
    rcases key e with q | ⟨h, q⟩
    · exact R.nf n a q
    · rw [q]; exact f2
  · have e : (s.hp ++ [ob])[n]? = some ob' := e
    by_cases hn : n < s.hp.length
    · rw [List.getElem?_append_left hn] at e
      obtain ⟨a, ea, c⟩ := R.cell n ob' e
      exact ⟨a, pre_get pre ea, (c.mono (Le.refl _) pre (.inl rfl)).other fun _ _ => nop ea⟩
    · rw [List.getElem?_append_right (by omega)] at e
      have h0 : n - s.hp.length = 0 := by
        by_cases h0 : n - s.hp.length = 0
        · exact h0
        · rw [List.getElem?_eq_none (by simp; omega)] at e; cases e
      rw [h0] at e
      cases e
      refine ⟨p, ?_, hc⟩
      have hn' : n = s.ρ.length := by rw [R.len]; omega
      show (s.ρ ++ [p])[n]? = some p
      rw [hn', List.getElem?_append_right (Nat.le_refl _), Nat.sub_self]
      rfl
/-- a cell written -/
def AS.wr (s : AS) (n : Nat) (ob : Ob) : AS := ⟨s.hp.set n ob, s.F, s.Fr, s.ρ⟩
theorem wr_cell (R : Rel Γ s H) {n : Nat} {a : Addr} (ea : s.ρ[n]? = some a) (f1 : s.F a = none) (f2 : s.Fr a = none) {o : HO} {ob : Ob} (hc : Cell Γ s.F s.Fr s.ρ (upd H a o) a ob) : Rel Γ (s.wr n ob) (upd H a o) ∧ Ext s (s.wr n ob) := by
  have hn : n < s.hp.length := by rw [← R.len]; exact get_lt ea
  refine ⟨⟨fun q u e => ?_, fun q u e => ?_, R.dj, by simp [AS.wr, R.len], R.inj, fun m b e => upd_some (R.th m b e), R.nf, fun m ob' e => ?_⟩, Ext.refl s |> fun x => ⟨x.F, x.Fr, x.ρ⟩⟩
  · rw [upd_ne (ne_of_none e f1)]; exact R.fz q u e
  · rw [upd_ne (ne_of_none e f2)]; exact R.fr q u e
  · have e : (s.hp.set n ob)[m]? = some ob' := e
    by_cases hm : n = m
    · subst hm
      rw [List.getElem?_set_self hn] at e
      cases e
      exact ⟨a, ea, hc⟩
    · rw [List.getElem?_set_ne hm] at e
      obtain ⟨b, eb, c⟩ := R.cell m ob' e
      exact ⟨b, eb, c.other fun _ _ z => hm (R.inj n m b (by rw [z]; exact ea) eb)⟩
end
end MS

set_option Elab.async false
set_option linter.all false
set_option maxRecDepth 100000
/-! MSE: the judgements' rules: names, constants, operators. -/
namespace MS
open PySem L2
theorem PE.imp {X : Cx} {e : Expr} {t t' : TE} (h : PE X e t) (i : ∀ σ H Q, t' σ H Q → t σ H Q) : PE X e t' := ⟨fun pins s σ H Q I q => h.run pins s σ H Q I (i σ H Q q)⟩
theorem PT.imp {X : Cx} {e : Expr} {t t' : TT} (h : PT X e t) (i : ∀ σ H Q, t' σ H Q → t σ H Q) : PT X e t' := ⟨fun pins s σ H Q I q => h.run pins s σ H Q I (i σ H Q q)⟩
theorem PW.imp {X : Cx} {e : Expr} {t t' : TT} (h : PW X e t) (i : ∀ σ H Q, t' σ H Q → t σ H Q) : PW X e t' := ⟨fun wh pins s σ H Q I q => h.run wh pins s σ H Q I (i σ H Q q)⟩
theorem PA.imp {X : Cx} {es : List Expr} {t t' : TA} (h : PA X es t) (i : ∀ σ H Q, t' σ H Q → t σ H Q) : PA X es t' := ⟨fun pos pins s σ H Q I q => h.run pos pins s σ H Q I (i σ H Q q)⟩
theorem PS.imp {X : Cx} {st : Stmt} {t t' : TS} (h : PS X st t) (i : ∀ D σ H, t' D σ H → t D σ H) : PS X st t' := ⟨fun pins s σ H D I q => h.run pins s σ H D I (i D σ H q)⟩
theorem PSs.imp {X : Cx} {st : List Stmt} {t t' : TS} (h : PSs X st t) (i : ∀ D σ H, t' D σ H → t D σ H) : PSs X st t' := ⟨fun pins s σ H D I q => h.run pins s σ H D I (i D σ H q)⟩

/-! ### the forms of the text -/
def stB : Expr → Bool
  | .Starred .. => true
  | _ => false
def slB : Expr → Bool
  | .Slice .. => true
  | _ => false
def seB : Expr → Bool
  | .Set .. => true
  | _ => false
def abB : Expr → Bool
  | .Call (.Name _ _) [] [] _ => true
  | _ => false
def cmB : Expr → Bool
  | .ListComp .. => true | .SetComp .. => true | .DictComp .. => true
  | _ => false
def tuB : Expr → Bool
  | .Tuple .. => true | .List .. => true
  | _ => false
def tsB : Expr → Bool
  | .UnaryOp .Not _ _ => true | .BoolOp .. => true | .IfExp .. => true | .Compare .. => true
  | _ => false
theorem star_cons {e : Expr} {es : List Expr} {env : Env} (h : stB e = false) : starEach (e :: es) env = (false, eval e env) :: starEach es env := by
  cases e <;> first | rfl | cases h
theorem plain_ix {b : Expr} (h : slB b = false) : PlainIx b := by
  intro o i
  cases b <;> first | rfl | cases h
theorem mark_no {b : Expr} {op : CmpOp} (h : seB b = false) : behindInMarks op b = false := by
  cases b <;> first | rfl | cases h
theorem base_no {o : Expr} {n : Str} {env : Env} {whole : Sem Value} (h : abB o = false) : attributeBase o n env whole = whole := by
  unfold attributeBase
  split
  · cases h
  · rfl
theorem swap_no {e : Expr} {t : Option Expr} {l : Nat} {env : Env} (h : cmB e = false) : swapsWith e t l env = pure false := by
  cases e <;> first | rfl | cases h
theorem swap1_no {e tg : Expr} {l : Nat} {env : Env} (h : cmB e = false) : swapsWithSole [tg] e l env = pure false := swap_no h
theorem stores_no {e tg : Expr} {env : Env} (h : tuB e = false) : swappedStores [tg] e env = pure none := by
  unfold swappedStores
  cases e <;> first | (cases tg <;> rfl) | cases h
theorem test_plain {e : Expr} {env : Env} {whole : Sem Value} (h : tsB e = false) : isTrue e env whole = (do let v ← whole; standAt e.pos; holding [v] (truthy v)) := by
  cases e <;> first | rfl | cases h | skip
  rename_i op a pos
  cases op <;> first | rfl | cases h
theorem spl_plain : ∀ {es : List Expr} {env : Env} {pos : Pos}, es.any stB = false → (backTo pos (starEach es env)).any (·.1) = false
  | [], _, _, _ => rfl
  | e :: es, env, pos, h => by
    rw [List.any_cons, Bool.or_eq_false_iff] at h
    rw [star_cons h.1]
    show (false || (backTo pos (starEach es env)).any (·.1)) = false
    rw [spl_plain h.2]
    rfl

section
variable {Γ : Run} {X : Cx} {C : Cl} {pos : Pos}

/-! ### names, constants -/
theorem se_var {i : Nat} {x : Str} (hN : X.N[i]? = some x) (hv : Vis X.env.scope x) (hd : (x == ("__debug__" : Str)) = false) (hcd : (x == ("__classdict__" : Str)) = false) : SE Γ X (.Name x pos) (evE C (.var i)) := by
  intro W tk
  refine PE.imp (pe_var hN hv hd hcd) ?_
  rintro σ H Q ⟨loc, s, R, L, A⟩
  simp only [evE] at A
  split at A
  · rename_i v e
    obtain ⟨u, eu, r⟩ := L.at_ i v e
    exact ⟨u, eu, A s H rfl (Ext.refl s) R u (nrm_ok R r)⟩
  · exact A.elim
theorem se_con {e : Expr} {v : V} {x : T} {m : Loc → MH Val} (h : PE X e (tC v)) (hm : ∀ loc, m loc = MH.pure (.t x)) (hx : ∀ F : Hp, RT Γ F x v) : SE Γ X e m := by
  intro W tk
  refine PE.imp h ?_
  rintro σ H Q ⟨loc, s, R, L, A⟩
  rw [hm] at A
  exact After.ok R A v (hx _)
theorem se_int {i : Int} {j : Nat} : SE Γ X (.Constant (.int i) j pos) (evE C (.int i)) := se_con pe_int (fun _ => by simp only [evE]; rfl) fun F => by simp only [RT]
theorem se_bl {b : Bool} {j : Nat} : SE Γ X (.Constant (.bool b) j pos) (evE C (.bl b)) := se_con pe_bl (fun _ => by simp only [evE]; rfl) fun F => by simp only [RT]
theorem se_non {j : Nat} : SE Γ X (.Constant .none j pos) (evE C .non) := se_con pe_non (fun _ => by simp only [evE]; rfl) fun F => by simp only [RT]
theorem se_str {x : Str} {j : Nat} : SE Γ X (.Constant (.str x) j pos) (evE C (.str x)) := se_con pe_str (fun _ => by simp only [evE]; rfl) fun F => by simp only [RT]

/-! ### an argument list -/
theorem sa_nil : SA Γ X [] (evEs C []) := by
  intro W tk
  refine PA.imp pa_nil ?_
  rintro σ H Q ⟨loc, s, R, L, A⟩
  simp only [evEs] at A
  exact After.ok R A [] .nil
theorem sa_cons {e : Expr} {es : List Expr} {m : E} {ms : List E} (ha : SE Γ X e (evE C m)) (hr : SA Γ X es (evEs C ms)) (hs : stB e = false) : SA Γ X (e :: es) (evEs C (m :: ms)) := by
  intro W tk
  refine PA.imp (pa_cons (ha W tk) (hr W tk) (star_cons hs)) ?_
  rintro σ H Q ⟨loc, s, R, L, A⟩
  simp only [evEs] at A
  refine ⟨loc, s, R, L, A.bind.imp (fun v s1 H1 x1 R1 A1 u r => ?_) (fun _ _ _ _ _ q => q)⟩
  refine ⟨loc, s1, R1, L.ext x1, A1.bind.imp (fun vs s2 H2 x2 R2 A2 us rs => ?_) (fun _ _ _ _ _ q => q)⟩
  exact After.ok R2 A2 (u :: us) (.cons (r.ext x2) rs)

/-! ### operators by values -/
/-- what a rule asks is what the interpreter finds -/
def OpLk (Γ : Run) (o : Op) (r : R2) : Prop := ∀ (s : AS) (H : Hp) (v w : Val) (u u' : V) (Q : VK) (E : Ex → AS → Hp → Prop), Rel Γ s H → RV Γ s.F s.ρ v u → RV Γ s.F s.ρ w u' →
  After Γ s (opM o [v, w] s.hp) (fun x s' H' => ∀ z, RV Γ s'.F s'.ρ x z → Q z H') E → r u u' H Q
def UnLk (Γ : Run) (o : Op) (r : V → Hp → VK → Prop) : Prop := ∀ (s : AS) (H : Hp) (v : Val) (u : V) (Q : VK) (E : Ex → AS → Hp → Prop), Rel Γ s H → RV Γ s.F s.ρ v u →
  After Γ s (opM o [v] s.hp) (fun x s' H' => ∀ z, RV Γ s'.F s'.ρ x z → Q z H') E → r u H Q
theorem evE_op2 {o : Op} {a b : E} {loc : Loc} : evE C (.op o [a, b]) loc = MH.bind (evE C a loc) fun v => MH.bind (evE C b loc) fun w => opM o [v, w] := by
  simp only [evE, evEs, pure_eq, MH.bind_assoc, MH.pure_bind]
theorem evE_op1 {o : Op} {a : E} {loc : Loc} : evE C (.op o [a]) loc = MH.bind (evE C a loc) fun v => opM o [v] := by
  simp only [evE, evEs, pure_eq, MH.bind_assoc, MH.pure_bind]
theorem te_op {o : Op} {r : R2} {a b : E} {W : WX} (lk : OpLk Γ o r) {σ : L2.St} {H : Hp} {Q : VK} (h : tE Γ (evE C (.op o [a, b])) W σ H Q) : tOp r (tE Γ (evE C a) W) (tE Γ (evE C b) W) σ H Q := by
  obtain ⟨loc, s, R, L, A⟩ := h
  rw [evE_op2] at A
  refine ⟨loc, s, R, L, A.bind.imp (fun v s1 H1 x1 R1 A1 u r => ?_) (fun _ _ _ _ _ q => q)⟩
  refine ⟨loc, s1, R1, L.ext x1, A1.bind.imp (fun w s2 H2 x2 R2 A2 u' r' => ?_) (fun _ _ _ _ _ q => q)⟩
  exact lk s2 H2 v w u u' Q _ R2 (r.ext x2) r' A2
theorem se_bin {o : Op} {op : Operator} {r : R2} {ea eb : Expr} {a b : E} (ho : OpR X (binaryOp op) r) (lk : OpLk Γ o r) (ha : SE Γ X ea (evE C a)) (hb : SE Γ X eb (evE C b)) : SE Γ X (.BinOp ea op eb pos) (evE C (.op o [a, b])) :=
  fun W tk => PE.imp (pe_op ho (ha W tk) (hb W tk)) fun _ _ _ h => te_op lk h
/-- a two-place operation, the slots known -/
def OpS (X : Cx) (f : Value → Value → Sem Value) (r : L2.St → R2) : Prop :=
  ∀ (pins : List (Addr × Obj)) (s : Shared) (σ : L2.St) (H : Hp) (x y : V) (v u : Value) (Q : VK), Inv X pins σ H s → RelV x v → RelV y u → r σ x y H Q → wpAny (model X.prog X.w) X.A (f v u) (EP X pins σ Q) X.xe s
def tOpS (r : L2.St → R2) (ta tb : TE) : TE := fun σ H Q => ta σ H fun x H1 => tb σ H1 fun y H2 => r σ x y H2 Q
theorem pe_cmpS {op : CmpOp} {r : L2.St → R2} {a b : Expr} {ta tb : TE} (ho : OpS X (compareOp op) r) (ha : PE X a ta) (hb : PE X b tb) (hm : behindInMarks op b = false) : PE X (.Compare a [op] [b] pos) (tOpS r ta tb) := by
  refine ⟨fun pins s σ H Q I h => ?_⟩
  exact wpAny_Compare1 (binT ha hb I h fun v u s2 x y H2 I2 rx ry q => ho pins s2 σ H2 x y v u Q I2 rx ry q) hm
theorem pt_cmpS {op : CmpOp} {r : L2.St → R2} {a b : Expr} {ta tb : TE} (ho : OpS X (compareOp op) r) (ha : PE X a ta) (hb : PE X b tb) (hm : behindInMarks op b = false) : PT X (.Compare a [op] [b] pos) (tTest (tOpS r ta tb)) := by
  refine ⟨fun pins s σ H Q I h => ?_⟩
  refine wpAny_isTrue_Compare1 (thn (ha.run pins s σ H _ I h) fun v s1 ⟨x, H1, I1, r1, q1⟩ => thn (hb.run pins s1 σ H1 _ I1 q1) fun u s2 ⟨y, H2, I2, r2, q2⟩ =>
    thn (ho pins s2 σ H2 x y v u _ I2 r1 r2 q2) fun c s3 ⟨z, H3, I3, r3, k, e, q3⟩ => ?_) hm
  subst e
  cases r3
  exact PySem.wpAny_truthy_bool ⟨H3, I3, q3⟩
/-- a comparison -/
def SC (Γ : Run) (X : Cx) (e : Expr) (m : Loc → MH Val) : Prop := ∀ W, Takes X W → ∃ (op : CmpOp) (a b : Expr) (r : L2.St → R2) (ta tb : TE) (pos : Pos), e = .Compare a [op] [b] pos ∧ OpS X (compareOp op) r ∧ PE X a ta ∧ PE X b tb ∧ behindInMarks op b = false ∧
  ∀ σ H Q, tE Γ m W σ H Q → tOpS r ta tb σ H Q
theorem SC.se {Γ : Run} {X : Cx} {e : Expr} {m : Loc → MH Val} (h : SC Γ X e m) : SE Γ X e m := by
  intro W tk
  obtain ⟨op, a, b, r, ta, tb, pos, rfl, ho, ha, hb, hm, k⟩ := h W tk
  exact PE.imp (pe_cmpS ho ha hb hm) k
theorem OpR.s {f : Value → Value → Sem Value} {r : R2} (h : OpR X f r) : OpS X f (fun _ => r) := fun pins s σ H x y v u Q I rx ry q => h pins s σ H x y v u Q I rx ry q
theorem sc_cmp {o : Op} {op : CmpOp} {r : R2} {ea eb : Expr} {a b : E} (ho : OpR X (compareOp op) r) (lk : OpLk Γ o r) (ha : SE Γ X ea (evE C a)) (hb : SE Γ X eb (evE C b)) (hm : seB eb = false) : SC Γ X (.Compare ea [op] [eb] pos) (evE C (.op o [a, b])) :=
  fun W tk => ⟨op, ea, eb, fun _ => r, _, _, pos, rfl, OpR.s ho, ha W tk, hb W tk, mark_no hm, fun _ _ _ h => te_op lk h⟩
theorem se_un {o : Op} {op : UnaryOp} {r : V → Hp → VK → Prop} {ea : Expr} {a : E} (ho : UnR X (unaryOp op) r) (lk : UnLk Γ o r) (ha : SE Γ X ea (evE C a)) : SE Γ X (.UnaryOp op ea pos) (evE C (.op o [a])) := by
  intro W tk
  refine PE.imp (pe_un ho (ha W tk)) ?_
  rintro σ H Q ⟨loc, s, R, L, A⟩
  rw [evE_op1] at A
  refine ⟨loc, s, R, L, A.bind.imp (fun v s1 H1 x1 R1 A1 u r => ?_) (fun _ _ _ _ _ q => q)⟩
  exact lk s1 H1 v u Q _ R1 r A1
theorem se_ix {o : Op} {r : R2} {ea eb : Expr} {a b : E} (ho : IxR X r) (lk : OpLk Γ o r) (ha : SE Γ X ea (evE C a)) (hb : SE Γ X eb (evE C b)) (hm : slB eb = false) : SE Γ X (.Subscript ea eb pos) (evE C (.op o [a, b])) :=
  fun W tk => PE.imp (pe_ix ho (ha W tk) (hb W tk) (plain_ix hm)) fun _ _ _ h => te_op lk h

/-! ### what values are -/
theorem rt_int {F : Hp} {i : Int} {u : V} : RT Γ F (.int i) u ↔ u = .int i := by simp only [RT]
theorem rt_bl {F : Hp} {i : Bool} {u : V} : RT Γ F (.bl i) u ↔ u = .bl i := by simp only [RT]
theorem rt_str {F : Hp} {i : Str} {u : V} : RT Γ F (.str i) u ↔ u = .str i := by simp only [RT]
theorem rt_non {F : Hp} {u : V} : RT Γ F .non u ↔ u = .non := by simp only [RT]
theorem rt_tup {F : Hp} {xs : List T} {u : V} : RT Γ F (.tup xs) u ↔ ∃ p vs, u = .ref p ∧ TupF Γ.K F p vs ∧ RTs Γ F xs vs := by simp only [RT]
theorem rt_lst {F : Hp} {xs : List T} {u : V} : RT Γ F (.lst xs) u ↔ ∃ p vs, u = .ref p ∧ F p = some (.lst vs) ∧ RTs Γ F xs vs := by simp only [RT]
theorem rv_int {F : Hp} {ρ : List Addr} {i : Int} {u : V} : RV Γ F ρ (.t (.int i)) u ↔ u = .int i := rt_int (Γ := Γ) (F := F)
theorem rv_bl {F : Hp} {ρ : List Addr} {i : Bool} {u : V} : RV Γ F ρ (.t (.bl i)) u ↔ u = .bl i := rt_bl (Γ := Γ) (F := F)
theorem rv_str {F : Hp} {ρ : List Addr} {i : Str} {u : V} : RV Γ F ρ (.t (.str i)) u ↔ u = .str i := rt_str (Γ := Γ) (F := F)
theorem rv_non {F : Hp} {ρ : List Addr} {u : V} : RV Γ F ρ (.t .non) u ↔ u = .non := rt_non (Γ := Γ) (F := F)

variable {β : Type} {s : AS} {H : Hp} {Q : β → AS → Hp → Prop} {E' : Ex → AS → Hp → Prop}
theorem After.intV {v : Val} {u : V} {f : Int → MH β} (r : RV Γ s.F s.ρ v u) (h : After Γ s (MH.bind (MS.intV v) f s.hp) Q E') : ∃ i, v = .t (.int i) ∧ u = .int i ∧ After Γ s (f i s.hp) Q E' := by
  unfold MS.intV at h
  split at h
  · rename_i i
    exact ⟨i, rfl, rv_int.mp r, h⟩
  · exact h.elim
theorem After.blV {v : Val} {u : V} {f : Bool → MH β} (r : RV Γ s.F s.ρ v u) (h : After Γ s (MH.bind (MS.blV v) f s.hp) Q E') : ∃ i, v = .t (.bl i) ∧ u = .bl i ∧ After Γ s (f i s.hp) Q E' := by
  unfold MS.blV at h
  split at h
  · rename_i i
    exact ⟨i, rfl, rv_bl.mp r, h⟩
  · exact h.elim
theorem After.strV {v : Val} {u : V} {f : Str → MH β} (r : RV Γ s.F s.ρ v u) (h : After Γ s (MH.bind (MS.strV v) f s.hp) Q E') : ∃ i, v = .t (.str i) ∧ u = .str i ∧ After Γ s (f i s.hp) Q E' := by
  unfold MS.strV at h
  split at h
  · rename_i i
    exact ⟨i, rfl, rv_str.mp r, h⟩
  · exact h.elim
/-- a list, frozen -/
theorem After.lstP {v : Val} {u : V} {f : List T → MH β} (R : Rel Γ s H) (r : RV Γ s.F s.ρ v u) (h : After Γ s (MH.bind (MS.lstP v) f s.hp) Q E') :
    ∃ xs s' p us, Ext s s' ∧ Rel Γ s' H ∧ u = .ref p ∧ s'.F p = some (.lst us) ∧ RTs Γ s'.F xs us ∧ After Γ s' (f xs s'.hp) Q E' := by
  unfold MS.lstP at h
  rw [bind_eq, MH.bind_assoc] at h
  obtain ⟨x, s', x1, R1, rx, A⟩ := After.pur R r h
  split at A
  · rename_i xs
    obtain ⟨p, us, e, hF, rs⟩ := rt_lst.mp rx
    exact ⟨xs, s', p, us, x1, R1, e, hF, rs, A⟩
  · exact A.elim
theorem RTs.map_vals {F : Hp} {ρ : List Addr} {xs : List T} {us : List V} (h : RTs Γ F xs us) : RVs Γ F ρ (xs.map .t) us := RVs.of_ts h
theorem rvs_ints {F : Hp} {ρ : List Addr} : ∀ ns : List Int, RVs Γ F ρ (ns.map fun i => .t (.int i)) (ns.map V.int)
  | [] => .nil
  | n :: ns => .cons (rv_int.mpr rfl) (rvs_ints ns)
/-- the items -/
theorem After.seqV {v : Val} {u : V} {f : List Val → MH β} (R : Rel Γ s H) (r : RV Γ s.F s.ρ v u) (h : After Γ s (MH.bind (MS.seqV v) f s.hp) Q E') :
    ∃ vs p us, u = .ref p ∧ (SqL Γ.K H p us ∨ SqT Γ.K H p us) ∧ RVs Γ s.F s.ρ vs us ∧ After Γ s (f vs s.hp) Q E' := by
  unfold MS.seqV at h
  cases v with
  | t x =>
    cases x with
    | tup xs =>
      obtain ⟨p, us, e, q, rs⟩ := rt_tup.mp r
      exact ⟨_, p, us, e, .inr (R.fz.tupF q).sqT, RVs.of_ts rs, h⟩
    | lst xs =>
      obtain ⟨p, us, e, q, rs⟩ := rt_lst.mp r
      exact ⟨_, p, us, e, .inl (SqL.of (R.fz _ _ q)), RVs.of_ts rs, h⟩
    | scr ns =>
      have r : RT Γ s.F (.scr ns) u := r
      simp only [RT] at r
      obtain ⟨p, e, q⟩ := r
      exact ⟨_, p, _, e, .inl (R.fz.sqL q), rvs_ints ns, h⟩
    | _ => exact h.elim
  | ref n =>
    obtain ⟨a, ea, rfl⟩ := r
    dsimp only [MH.bind] at h
    split at h
    · rename_i vs' h' e
      split at e
      · rename_i vs ec
        cases e
        obtain ⟨b, eb, c1, c2, us, c3, c4⟩ := R.cell n _ ec
        rw [ea] at eb; cases eb
        exact ⟨_, a, us, rfl, .inl (SqL.of c3), c4, h⟩
      · rename_i xs ec
        cases e
        obtain ⟨b, eb, c⟩ := R.cell n _ ec
        rw [ea] at eb; cases eb
        obtain ⟨p, us, e, q, rs⟩ := rt_lst.mp c
        cases e
        exact ⟨_, a, us, rfl, .inl (SqL.of (R.fz _ _ q)), RVs.of_ts rs, h⟩
      · cases e
    · rename_i e
      split at e <;> cases e
    · exact h.elim
/-- a list that may change -/
theorem After.cellV {v : Val} {u : V} {f : Nat × List Val → MH β} (R : Rel Γ s H) (r : RV Γ s.F s.ρ v u) (h : After Γ s (MH.bind (MS.cellV v) f s.hp) Q E') :
    ∃ n vs p us, v = .ref n ∧ u = .ref p ∧ s.ρ[n]? = some p ∧ s.hp[n]? = some (.lst vs) ∧ s.F p = none ∧ s.Fr p = none ∧ H p = some (.lst us) ∧ RVs Γ s.F s.ρ vs us ∧ After Γ s (f (n, vs) s.hp) Q E' := by
  unfold MS.cellV at h
  cases v with
  | t x => exact h.elim
  | ref n =>
    obtain ⟨a, ea, rfl⟩ := r
    dsimp only [MH.bind] at h
    split at h
    · rename_i p' h' e
      split at e
      · rename_i vs ec
        cases e
        obtain ⟨b, eb, c1, c2, us, c3, c4⟩ := R.cell n _ ec
        rw [ea] at eb; cases eb
        exact ⟨n, vs, a, us, rfl, rfl, ea, ec, c1, c2, c3, c4, h⟩
      · cases e
    · rename_i e
      split at e <;> cases e
    · exact h.elim
end
end MS

set_option Elab.async false
set_option linter.all false
set_option maxRecDepth 100000
/-! MSF: the operators' links. -/
namespace MS
open PySem PySem.Spec PyProof.Rows L2
section
variable {Γ : Run} {X : Cx} {C : Cl} {pos : Pos}
theorem PE.or {X : Cx} {e : Expr} {t t' : TE} (h : PE X e t) (h' : PE X e t') : PE X e (fun σ H Q => t σ H Q ∨ t' σ H Q) :=
  ⟨fun pins s σ H Q I q => q.elim (h.run pins s σ H Q I) (h'.run pins s σ H Q I)⟩
theorem after_bad {α : Type} {s : AS} {Q : α → AS → Hp → Prop} {E : Ex → AS → Hp → Prop} {p : Prop} (h : After Γ s (bad s.hp) Q E) : p := h.elim

/-! ### ints -/
theorem lk_iop {o : Op} {ok : Int → Int → Bool} {f : Int → Int → Int} {P : Int → Int → Prop} (ho : ∀ v w, opM o [v, w] = iop ok f v w) (hP : ∀ i j, ok i j = true → P i j) : OpLk Γ o (rI P fun i j => .int (f i j)) := by
  intro s H v w u u' Q E R r r' A
  rw [ho] at A
  unfold iop at A
  split at A
  · rename_i i j
    split at A
    · rename_i h
      exact ⟨i, j, rv_int.mp r, rv_int.mp r', hP i j h, After.ok R A _ (rv_int.mpr rfl)⟩
    · exact after_bad A
  · exact after_bad A
theorem lk_cop {o : Op} {f : Int → Int → Bool} (ho : ∀ v w, opM o [v, w] = cop f v w) : OpLk Γ o (rI0 fun i j => .bl (f i j)) := by
  intro s H v w u u' Q E R r r' A
  rw [ho] at A
  unfold cop at A
  split at A
  · rename_i i j
    exact ⟨i, j, rv_int.mp r, rv_int.mp r', After.ok R A _ (rv_bl.mpr rfl)⟩
  · exact after_bad A
theorem rI0_of {g : Int → Int → V} {x y : V} {H : Hp} {Q : VK} (h : rI (fun _ _ => True) g x y H Q) : rI0 g x y H Q := by
  obtain ⟨i, j, a, b, _, q⟩ := h
  exact ⟨i, j, a, b, q⟩
theorem lk_sub : OpLk Γ .sub (rI0 fun i j => .int (i - j)) := fun s H v w u u' Q E R r r' A => rI0_of (lk_iop (o := .sub) (P := fun _ _ => True) (fun _ _ => rfl) (fun _ _ _ => trivial) s H v w u u' Q E R r r' A)
theorem lk_fdv : OpLk Γ .fdv (rI CDivN fun i j => .int (i.fdiv j)) := lk_iop (fun _ _ => rfl) fun i j h => of_decide_eq_true h
theorem lk_mod : OpLk Γ .mod (rI (fun _ j => j ≠ 0) fun i j => .int (i.fmod j)) := lk_iop (fun _ _ => rfl) fun i j h => of_decide_eq_true h
theorem lk_pow : OpLk Γ .pow (rI CPow fun i j => .int (i ^ j.toNat)) := lk_iop (fun _ _ => rfl) fun i j h => of_decide_eq_true h
theorem lk_lt : OpLk Γ .lt (rI0 fun i j => .bl (decide (i < j))) := lk_cop fun _ _ => rfl
theorem lk_le : OpLk Γ .le (rI0 fun i j => .bl (decide (i ≤ j))) := lk_cop fun _ _ => rfl
theorem lk_gt : OpLk Γ .gt (rI0 fun i j => .bl (decide (j < i))) := lk_cop fun _ _ => rfl
theorem lk_ge : OpLk Γ .ge (rI0 fun i j => .bl (decide (j ≤ i))) := lk_cop fun _ _ => rfl
theorem lk_neg : UnLk Γ .neg (rU fun i => .int (-i)) := by
  intro s H v u Q E R r A
  have A : After Γ s (MH.bind (intV v) (fun i => int (-i)) s.hp) _ _ := A
  obtain ⟨i, _, e, A⟩ := A.intV r
  exact ⟨i, e, After.ok R A _ (rv_int.mpr rfl)⟩

/-! ### new lists, tuples -/
/-- a new list of frozen items -/
theorem After.newL {s : AS} {H : Hp} {xs : List T} {us : List V} {Q : VK} {E : Ex → AS → Hp → Prop} (R : Rel Γ s H) (rs : RTs Γ s.F xs us)
    (A : After Γ s (MH.pure (.t (.lst xs)) s.hp) (fun x s' H' => ∀ z, RV Γ s'.F s'.ρ x z → Q z H') E) (p : Addr) (hp : H p = none) : Q (.ref p) (upd H p (.lst us)) := by
  obtain ⟨R1, x1⟩ := new_frz R hp (.lst us)
  exact A (s.withF p (.lst us)) _ rfl x1 R1 _ (rt_lst.mpr ⟨p, us, rfl, upd_same, rs.mono x1.F xs us⟩)
theorem After.newT {s : AS} {H : Hp} {xs : List T} {us : List V} {Q : VK} {E : Ex → AS → Hp → Prop} {o : Obj} (R : Rel Γ s H) (rs : RTs Γ s.F xs us) (ho : o.dict = none)
    (A : After Γ s (MH.pure (.t (.tup xs)) s.hp) (fun x s' H' => ∀ z, RV Γ s'.F s'.ρ x z → Q z H') E) (p : Addr) (hp : H p = none) : Q (.ref p) (upd H p (.frz o (.tup us))) := by
  obtain ⟨R1, x1⟩ := new_frz R hp (.frz o (.tup us))
  exact A (s.withF p _) _ rfl x1 R1 _ (rt_tup.mpr ⟨p, us, rfl, .inl ⟨o, upd_same, ho⟩, rs.mono x1.F xs us⟩)
/-- a new list, frozen or not -/
theorem After.keep {s : AS} {H : Hp} {m : Bool} {vs : List Val} {us : List V} {Q : VK} {E : Ex → AS → Hp → Prop} (R : Rel Γ s H) (rs : RVs Γ s.F s.ρ vs us)
    (A : After Γ s (MS.keep m vs s.hp) (fun x s' H' => ∀ z, RV Γ s'.F s'.ρ x z → Q z H') E) (p : Addr) (hp : H p = none) : Q (.ref p) (upd H p (.lst us)) := by
  unfold MS.keep at A
  cases m with
  | true =>
    obtain ⟨f1, f2⟩ := R.free hp
    obtain ⟨R1, x1⟩ := new_cell (ob := .lst vs) (o := .lst us) R hp ⟨f1, f2, us, upd_same, rs.mono (Le.refl _) (List.prefix_append _ _)⟩
    refine A (s.push p (.lst vs)) _ rfl x1 R1 _ ⟨p, ?_, rfl⟩
    show (s.ρ ++ [p])[s.hp.length]? = some p
    rw [← R.len, List.getElem?_append_right (Nat.le_refl _), Nat.sub_self]
    rfl
  | false =>
    have A : After Γ s (MH.bind (mp MS.pur vs) (fun ts => MH.pure (Val.t (T.lst ts))) s.hp) _ _ := A
    obtain ⟨ts, s1, x1, R1, rts, A⟩ := A.purs R rs
    exact A.newL R1 rts p hp

/-! ### + -/
/-- t + u, the new tuple's object known -/
def rCatF (K : PySem.W.Frag) : R2 := fun x y H Q => ∃ a b xs ys, x = .ref a ∧ y = .ref b ∧ SqT K H a xs ∧ SqT K H b ys ∧ xs.length + ys.length ≤ sizeLine ∧
  (xs = [] → Q (.ref b) H) ∧ (xs ≠ [] → ys = [] → Q (.ref a) H) ∧ (xs ≠ [] → ys ≠ [] → ∀ (p : Addr) (o : Obj), H p = none → o.dict = none → Q (.ref p) (upd H p (.frz o (.tup (xs ++ ys)))))
theorem laid_tup {pins : List (Addr × Obj)} {σ : L2.St} {H : Hp} {s : Shared} {Q : VK} {xs : List V} {us : List Value} (I : Inv X pins σ H s) (r : Vals xs us) (hz : xs.length ≤ sizeLine)
    (q : ∀ (p : Addr) (o : Obj), H p = none → o.dict = none → Q (.ref p) (upd H p (.frz o (.tup xs)))) :
    EP X pins σ Q (.ref s.heap.objs.size) { s with heap := s.heap.push { cls := .type "tuple", data := .seq us.toArray } } := by
  refine ⟨.ref s.heap.objs.size, _, I.laid (t' := s.toks) (o := .frz { cls := .type "tuple", data := .seq us.toArray } (.tup xs)) (fun b ob q => Heap.get?_push_of_some _ q) (Nat.le_refl _) ?_, rfl, q _ _ (I.hok.fresh (Nat.le_refl _)) rfl⟩
  exact ⟨Heap.get?_push_size _ rfl, hz, _, r, IsTup.new _ _⟩
theorem op_catF : OpR X (binaryOp .Add) (rCatF X.K) := by
  intro pins s σ H x y v u Q I rx ry h
  obtain ⟨a, b, xs, ys, rfl, rfl, ha, hb, hz, q0, q1, q2⟩ := h
  cases rx
  cases ry
  obtain ⟨its, r1, p1, _⟩ := I.tuple ha
  obtain ⟨its2, r2, p2, _⟩ := I.tuple hb
  by_cases hx : xs = []
  · subst hx
    cases r1
    exact L2.cat_tup0 p1 p2 ⟨.ref b, H, I, rfl, q0 rfl⟩
  · refine HT.cat_tup p1 p2 (fun z => hx (r1.nil_iff.mp z)) (fun z => ⟨.ref a, H, I, rfl, q1 hx (r2.nil_iff.mp z)⟩) (fun z => ?_) (by rw [← r1.length, ← r2.length]; exact hz)
    exact laid_tup I (r1.append r2) (by rw [List.length_append]; exact hz) (q2 hx fun w => z (r2.nil_iff.mpr w))
theorem op_addAll : OpR X (binaryOp .Add) (fun x y H Q => rI0 (fun i j => .int (i + j)) x y H Q ∨ (∃ i j, x = .str i ∧ y = .str j ∧ i.length + j.length ≤ sizeLine ∧ Q (.str (i ++ j)) H) ∨ rCatF X.K x y H Q ∨ rCat x y H Q) :=
  op_add.or (op_add_str.or (op_catF.or op_cat))
theorem lk_add : OpLk Γ .add (fun x y H Q => rI0 (fun i j => .int (i + j)) x y H Q ∨ (∃ i j, x = .str i ∧ y = .str j ∧ i.length + j.length ≤ sizeLine ∧ Q (.str (i ++ j)) H) ∨ rCatF Γ.K x y H Q ∨ rCat x y H Q) := by
  intro s H v w u u' Q E R r r' A
  change After Γ s (addM v w s.hp) _ _ at A
  unfold addM at A
  split at A
  · exact .inl ⟨_, _, rv_int.mp r, rv_int.mp r', After.ok R A _ (rv_int.mpr rfl)⟩
  · split at A
    · rename_i h
      exact .inr (.inl ⟨_, _, rv_str.mp r, rv_str.mp r', h, After.ok R A _ (rv_str.mpr rfl)⟩)
    · exact after_bad A
  · rename_i xs ys
    split at A
    · rename_i h
      obtain ⟨a, us, e1, t1, rs1⟩ := rt_tup.mp r
      obtain ⟨b, ws, e2, t2, rs2⟩ := rt_tup.mp r'
      have l1 := RTs.length rs1
      have l2 := RTs.length rs2
      refine .inr (.inr (.inl ⟨a, b, us, ws, e1, e2, (R.fz.tupF t1).sqT, (R.fz.tupF t2).sqT, by rw [← l1, ← l2]; exact h, fun z => ?_, fun _ z => ?_, fun _ _ p o hp ho => ?_⟩))
      · subst z
        have : xs = [] := List.eq_nil_of_length_eq_zero l1
        subst this
        exact After.ok R A _ (rt_tup.mpr ⟨b, ws, rfl, t2, rs2⟩)
      · subst z
        have : ys = [] := List.eq_nil_of_length_eq_zero l2
        subst this
        rw [List.append_nil] at A
        exact After.ok R A _ (rt_tup.mpr ⟨a, us, rfl, t1, rs1⟩)
      · exact After.newT R (rs1.app rs2) ho A p hp
    · exact after_bad A
  · obtain ⟨xs, s1, p, us, x1, R1, e1, hF, rs, A⟩ := A.lstP R r
    obtain ⟨ys, s2, q, ws, x2, R2, e2, hF2, rs2, A⟩ := A.lstP R1 (r'.ext x1)
    split at A
    · rename_i h
      have hl := RTs.length rs
      have hl2 := RTs.length rs2
      exact .inr (.inr (.inr ⟨p, q, us, ws, e1, e2, R1.fz _ _ hF, R2.fz _ _ hF2, by rw [← hl, ← hl2]; exact h, fun a ha => A.newL R2 ((rs.mono x2.F xs us).app rs2) a ha⟩))
    · exact after_bad A
/-! ### * -/
theorem rep_size (c : Array Nat) : ∀ (n : Nat) (acc : Array Nat), ((List.replicate n c).foldl (· ++ ·) acc).size = acc.size + c.size * n
  | 0, acc => by simp
  | n + 1, acc => by
    rw [List.replicate_succ, List.foldl_cons, rep_size c n, Array.size_append, Nat.mul_succ]
    omega
def rMulS : R2 := fun x y H Q => ∃ (s : Str) (k : Int), x = .str s ∧ y = .int k ∧ 1 < k ∧ k ≤ 1000 ∧ 0 < s.length ∧ s.length ≤ 1000 ∧ Q (.str (strRep s k)) H
theorem op_mulS : OpR X (binaryOp .Mult) rMulS := by
  intro pins s σ H x y v u Q I rx ry h
  obtain ⟨z, k, rfl, rfl, h1, h2, h3, h4, q⟩ := h
  obtain ⟨t, rfl⟩ := rx
  obtain ⟨t', rfl⟩ := ry
  have hk : ¬ k < 1 := by omega
  have hq : (k == 1 || z.length == 0) = false := by
    rw [Bool.or_eq_false_iff]
    exact ⟨beq_false_of_ne (by omega), beq_false_of_ne (by omega)⟩
  have hsz : z.length * k.toNat ≤ 1000000 := by
    have e : k.toNat ≤ 1000 := by omega
    exact Nat.mul_le_mul h4 e
  refine PySem.P.mul_str (by rw [Bool.or_eq_false_iff]; exact ⟨decide_eq_false (by omega), decide_eq_false (by omega)⟩) (fun _ _ => ?_) (fun _ _ => ?_) ?_
  · have : (z.length : Int) ≤ 1000 := by omega
    have e2 : (1000 : Int) ≤ (2 ^ 63 - 1) / k := by
      rw [Int.le_ediv_iff_mul_le (by omega)]
      omega
    omega
  · show decide (z.length * k.toNat > sizeLine) = false
    refine decide_eq_false ?_
    have : (1000000 : Nat) ≤ sizeLine := by rw [sizeLine_eq]; decide
    omega
  · rw [if_neg hk, hq, if_neg Bool.false_ne_true]
    refine ⟨?_, ⟨.str (strRep z k), H, I.tok _, ⟨_, rfl⟩, q⟩⟩
    show ((List.replicate k.toNat z.cps).foldl (· ++ ·) #[]).size ≤ sizeLine
    rw [rep_size]
    have : (1000000 : Nat) ≤ sizeLine := by rw [sizeLine_eq]; decide
    have e0 : z.cps.size * k.toNat ≤ 1000000 := hsz
    simp only [Array.size_empty]
    omega
theorem op_mulAll : OpR X (binaryOp .Mult) (fun x y H Q => (rI CMul (fun i j => .int (i * j)) x y H Q ∨ rRep x y H Q) ∨ rMulS x y H Q) := (op_mul.or op_rep).or op_mulS
theorem RTs.rep {F : Hp} {xs : List T} {us : List V} (h : RTs Γ F xs us) : ∀ n : Nat, RTs Γ F (List.replicate n xs).flatten (List.replicate n us).flatten
  | 0 => by simp [RTs]
  | n + 1 => by
    rw [List.replicate_succ, List.replicate_succ, List.flatten_cons, List.flatten_cons]
    exact h.app (RTs.rep h n)
theorem lk_mul : OpLk Γ .mul (fun x y H Q => (rI CMul (fun i j => .int (i * j)) x y H Q ∨ rRep x y H Q) ∨ rMulS x y H Q) := by
  intro s H v w u u' Q E R r r' A
  change After Γ s (mulM v w s.hp) _ _ at A
  unfold mulM at A
  split at A
  · split at A
    · rename_i h
      exact .inl (.inl ⟨_, _, rv_int.mp r, rv_int.mp r', of_decide_eq_true h, After.ok R A _ (rv_int.mpr rfl)⟩)
    · exact after_bad A
  · split at A
    · rename_i h
      simp only [Bool.and_eq_true, decide_eq_true_eq] at h
      exact .inr ⟨_, _, rv_str.mp r, rv_int.mp r', h.1.1.1, h.1.1.2, h.1.2, h.2, After.ok R A _ (rv_str.mpr rfl)⟩
    · exact after_bad A
  · rename_i k _ _
    obtain ⟨xs, s1, p, us, x1, R1, e1, hF, rs, A⟩ := A.lstP R r
    split at A
    · rename_i h
      simp only [Bool.and_eq_true, decide_eq_true_eq] at h
      have hl := RTs.length rs
      exact .inl (.inr ⟨p, k, us, e1, rv_int.mp r', R1.fz _ _ hF, h.1.1, h.1.2, by rw [← hl]; exact h.2, fun a ha => A.newL R1 (rs.rep _) a ha⟩)
    · exact after_bad A
  · exact after_bad A

/-! ### is None, is True -/
theorem rt_not_non {F : Hp} {x : T} (h : RT Γ F x .non) : x = .non := by
  cases x with
  | non => rfl
  | bl b => rw [rt_bl] at h; cases h
  | int b => rw [rt_int] at h; cases h
  | str b => rw [rt_str] at h; cases h
  | tup b => obtain ⟨_, _, e, _⟩ := rt_tup.mp h; cases e
  | lst b => obtain ⟨_, _, e, _⟩ := rt_lst.mp h; cases e
  | dct b => simp only [RT] at h; obtain ⟨_, _, e, _⟩ := h; cases e
  | ins c b => simp only [RT] at h; obtain ⟨_, _, _, e, _⟩ := h; cases e
  | scr b => simp only [RT] at h; obtain ⟨_, e, _⟩ := h; cases e
  | xo c b => cases b with
    | none => simp only [RT] at h; obtain ⟨_, e, _⟩ := h; cases e
    | some z => simp only [RT] at h; obtain ⟨_, _, e, _⟩ := h; cases e

theorem sc_isN {x0 : Expr} {j : Nat} {p' : Pos} {a : E} (ha : SE Γ X x0 (evE C a)) : SC Γ X (.Compare x0 [.Is] [.Constant .none j p'] pos) (evE C (.op .isN [a])) := by
  intro W tk
  refine ⟨_, _, _, _, _, _, pos, rfl, OpR.s op_isN, ha W tk, pe_non, nomark _, ?_⟩
  rintro σ H Q ⟨loc, s, R, L, A⟩
  rw [evE_op1] at A
  refine ⟨loc, s, R, L, A.bind.imp (fun v s1 H1 x1 R1 A1 u r => ?_) (fun _ _ _ _ _ q => q)⟩
  refine ⟨rfl, ?_⟩
  have A1 : After Γ s1 ((match v with | .t .non => bl true | _ => bl false) s1.hp) _ _ := A1
  split at A1
  · rw [rv_non.mp r]
    exact After.ok R1 A1 _ (rv_bl.mpr rfl)
  · rename_i hv
    have hu : u ≠ .non := by
      rintro rfl
      cases v with
      | ref n => obtain ⟨_, _, e⟩ := r; cases e
      | t x =>
        have e := rt_not_non r
        subst e
        exact hv rfl
    rw [decide_eq_false hu]
    exact After.ok R1 A1 _ (rv_bl.mpr rfl)
theorem sc_isnN {x0 : Expr} {j : Nat} {p' : Pos} {a : E} (ha : SE Γ X x0 (evE C a)) : SC Γ X (.Compare x0 [.IsNot] [.Constant .none j p'] pos) (evE C (.op .isnN [a])) := by
  intro W tk
  refine ⟨_, _, _, _, _, _, pos, rfl, OpR.s op_notN, ha W tk, pe_non, nomark _, ?_⟩
  rintro σ H Q ⟨loc, s, R, L, A⟩
  rw [evE_op1] at A
  refine ⟨loc, s, R, L, A.bind.imp (fun v s1 H1 x1 R1 A1 u r => ?_) (fun _ _ _ _ _ q => q)⟩
  refine ⟨rfl, ?_⟩
  have A1 : After Γ s1 ((match v with | .t .non => bl false | _ => bl true) s1.hp) _ _ := A1
  split at A1
  · rw [rv_non.mp r]
    exact After.ok R1 A1 _ (rv_bl.mpr rfl)
  · rename_i hv
    have hu : u ≠ .non := by
      rintro rfl
      cases v with
      | ref n => obtain ⟨_, _, e⟩ := r; cases e
      | t x =>
        have e := rt_not_non r
        subst e
        exact hv rfl
    rw [decide_eq_false hu]
    exact After.ok R1 A1 _ (rv_bl.mpr rfl)
theorem sc_isB {c : Bool} {x0 : Expr} {j : Nat} {p' : Pos} {a : E} (ha : SE Γ X x0 (evE C a)) : SC Γ X (.Compare x0 [.Is] [.Constant (.bool c) j p'] pos) (evE C (.op (.isB c) [a])) := by
  intro W tk
  refine ⟨_, _, _, _, _, _, pos, rfl, OpR.s op_isBl, ha W tk, pe_bl, nomark _, ?_⟩
  rintro σ H Q ⟨loc, s, R, L, A⟩
  rw [evE_op1] at A
  refine ⟨loc, s, R, L, A.bind.imp (fun v s1 H1 x1 R1 A1 u r => ?_) (fun _ _ _ _ _ q => q)⟩
  have A1 : After Γ s1 (MH.bind (blV v) (fun b => bl (decide (b = c))) s1.hp) _ _ := A1
  obtain ⟨b, _, e, A1⟩ := A1.blV r
  exact ⟨b, c, e, rfl, After.ok R1 A1 _ (rv_bl.mpr rfl)⟩
theorem sc_isnB {c : Bool} {x0 : Expr} {j : Nat} {p' : Pos} {a : E} (ha : SE Γ X x0 (evE C a)) : SC Γ X (.Compare x0 [.IsNot] [.Constant (.bool c) j p'] pos) (evE C (.op (.isnB c) [a])) := by
  intro W tk
  refine ⟨_, _, _, _, _, _, pos, rfl, OpR.s op_notBl, ha W tk, pe_bl, nomark _, ?_⟩
  rintro σ H Q ⟨loc, s, R, L, A⟩
  rw [evE_op1] at A
  refine ⟨loc, s, R, L, A.bind.imp (fun v s1 H1 x1 R1 A1 u r => ?_) (fun _ _ _ _ _ q => q)⟩
  have A1 : After Γ s1 (MH.bind (blV v) (fun b => bl (!decide (b = c))) s1.hp) _ _ := A1
  obtain ⟨b, _, e, A1⟩ := A1.blV r
  exact ⟨b, c, e, rfl, After.ok R1 A1 _ (rv_bl.mpr rfl)⟩

/-! ### o[i] -/
theorem atI_map {α β : Type} {R : α → β → Prop} {xs : List α} {ys : List β} (h : Paired R xs ys) {i : Int} {x : α} (e : atI xs i = some x) : ∃ y, atI ys i = some y ∧ R x y := by
  unfold atI at e ⊢
  rw [← Paired.len h]
  cases k : ixN xs.length i with
  | none => rw [k] at e; cases e
  | some j =>
    rw [k] at e
    exact Paired.get1 h e
theorem lk_idx : OpLk Γ .idx (rIx Γ.K) := by
  intro s H v w u u' Q E R r r' A
  change After Γ s (idxM v w s.hp) _ _ at A
  unfold idxM at A
  split at A
  · rename_i z i
    split at A
    · rename_i hz
      cases hc : atI z.cps.toList i with
      | none => rw [hc] at A; exact after_bad A
      | some c =>
        rw [hc] at A
        exact .inr (.inr ⟨z, i, c, rv_str.mp r, rv_int.mp r', hz, hc, After.ok R A _ (rv_str.mpr rfl)⟩)
    · exact after_bad A
  · rename_i i _
    obtain ⟨vs, p, us, e, q, rs, A⟩ := A.seqV R r
    cases hx : atI vs i with
    | none => rw [hx] at A; exact after_bad A
    | some x =>
      rw [hx] at A
      obtain ⟨y, hy, ry⟩ := atI_map rs hx
      have fin : Q y H := A s H rfl (Ext.refl s) R y (nrm_ok R ry)
      rcases q with q | q
      · exact .inl ⟨p, us, i, y, e, rv_int.mp r', q, hy, fin⟩
      · exact .inr (.inl ⟨p, us, i, y, e, rv_int.mp r', q, hy, fin⟩)
  · exact after_bad A
end
end MS

set_option Elab.async false
set_option linter.all false
set_option maxRecDepth 100000
/-! MSG: calls of built-ins, dicts. -/
namespace MS
open PySem PySem.Spec PyProof.Rows L2
section
variable {Γ : Run} {X : Cx} {C : Cl} {pos p : Pos}
def CaLk (Γ : Run) (o : Op) (r : List V → Hp → VK → Prop) : Prop := ∀ (s : AS) (H : Hp) (vs : List Val) (us : List V) (Q : VK) (E : Ex → AS → Hp → Prop), Rel Γ s H → RVs Γ s.F s.ρ vs us →
  After Γ s (opM o vs s.hp) (fun x s' H' => ∀ z, RV Γ s'.F s'.ρ x z → Q z H') E → r us H Q
theorem te_call {o : Op} {r : List V → Hp → VK → Prop} {ms : List E} {W : WX} (lk : CaLk Γ o r) {σ : L2.St} {H : Hp} {Q : VK} (h : tE Γ (evE C (.op o ms)) W σ H Q) : tCB r (tA Γ (evEs C ms) W) σ H Q := by
  obtain ⟨loc, s, R, L, A⟩ := h
  simp only [evE] at A
  exact ⟨loc, s, R, L, A.bind.imp (fun v s1 H1 x1 R1 A1 u r => lk s1 H1 v u Q _ R1 r A1) (fun _ _ _ _ _ q => q)⟩
theorem se_callB {o : Op} {x : Str} {id : String} {r : List V → Hp → VK → Prop} {e : Expr} {es : List Expr} {ms : List E} (hc : CallR X (.builtin id) r) (lk : CaLk Γ o r) (hg : Gl X x) (hm : X.mg x = none) (hv : bootBuiltins x = some (.builtin id))
    (ha : SA Γ X (e :: es) (evEs C ms)) (hst : (e :: es).any stB = false) (hn : x ≠ "__name__" := by decide) (hd : (x == ("__debug__" : Str)) = false := by decide) : SE Γ X (.Call (.Name x p) (e :: es) [] pos) (evE C (.op o ms)) := by
  rw [List.any_cons, Bool.or_eq_false_iff] at hst
  exact fun W tk => PE.imp (pe_callB hc hg hm hv (ha W tk) hn hd (star_cons hst.1) (spl_plain hst.2)) fun _ _ _ h => te_call lk h
theorem se_callTy {o : Op} {x : Str} {id : String} {r : List V → Hp → VK → Prop} {e : Expr} {es : List Expr} {ms : List E} (hc : CallR X (.type id) r) (lk : CaLk Γ o r) (hg : Gl X x) (hm : X.mg x = none) (hv : bootBuiltins x = some (.type id))
    (ha : SA Γ X (e :: es) (evEs C ms)) (hst : (e :: es).any stB = false) (hn : x ≠ "__name__" := by decide) (hd : (x == ("__debug__" : Str)) = false := by decide) : SE Γ X (.Call (.Name x p) (e :: es) [] pos) (evE C (.op o ms)) := by
  rw [List.any_cons, Bool.or_eq_false_iff] at hst
  exact fun W tk => PE.imp (pe_callTy hc hg hm hv (ha W tk) hn hd (star_cons hst.1) (spl_plain hst.2)) fun _ _ _ h => te_call lk h

/-- one argument -/
theorem lk_one {o : Op} {r : List V → Hp → VK → Prop} (hno : ∀ vs h, (∀ a, vs ≠ [a]) → opM o vs h = .bad)
    (h1 : ∀ (s : AS) (H : Hp) (a : Val) (u : V) (Q : VK) (E : Ex → AS → Hp → Prop), Rel Γ s H → RV Γ s.F s.ρ a u → After Γ s (opM o [a] s.hp) (fun x s' H' => ∀ z, RV Γ s'.F s'.ρ x z → Q z H') E → r [u] H Q) : CaLk Γ o r := by
  intro s H vs us Q E R rs A
  cases rs with
  | nil => rw [hno _ _ (by simp)] at A; exact A.elim
  | cons r1 t =>
    cases t with
    | nil => exact h1 s H _ _ Q E R r1 A
    | cons r2 t => rw [hno _ _ (by simp)] at A; exact A.elim
theorem lk_two {o : Op} {r : List V → Hp → VK → Prop} (hno : ∀ vs h, (∀ a b, vs ≠ [a, b]) → opM o vs h = .bad)
    (h1 : ∀ (s : AS) (H : Hp) (a b : Val) (u w : V) (Q : VK) (E : Ex → AS → Hp → Prop), Rel Γ s H → RV Γ s.F s.ρ a u → RV Γ s.F s.ρ b w → After Γ s (opM o [a, b] s.hp) (fun x s' H' => ∀ z, RV Γ s'.F s'.ρ x z → Q z H') E → r [u, w] H Q) : CaLk Γ o r := by
  intro s H vs us Q E R rs A
  cases rs with
  | nil => rw [hno _ _ (by simp)] at A; exact A.elim
  | cons r1 t =>
    cases t with
    | nil => rw [hno _ _ (by simp)] at A; exact A.elim
    | cons r2 t =>
      cases t with
      | nil => exact h1 s H _ _ _ _ Q E R r1 r2 A
      | cons r3 t => rw [hno _ _ (by simp)] at A; exact A.elim
theorem no_one {o : Op} (h0 : opM o [] = bad) (h2 : ∀ a b vs, opM o (a :: b :: vs) = bad) : ∀ vs h, (∀ a, vs ≠ [a]) → opM o vs h = .bad := by
  intro vs h hv
  match vs with
  | [] => rw [h0]; rfl
  | [a] => exact absurd rfl (hv a)
  | a :: b :: vs => rw [h2]; rfl
theorem no_two {o : Op} (h0 : opM o [] = bad) (h1 : ∀ a, opM o [a] = bad) (h2 : ∀ a b c vs, opM o (a :: b :: c :: vs) = bad) : ∀ vs h, (∀ a b, vs ≠ [a, b]) → opM o vs h = .bad := by
  intro vs h hv
  match vs with
  | [] => rw [h0]; rfl
  | [a] => rw [h1]; rfl
  | [a, b] => exact absurd rfl (hv a b)
  | a :: b :: c :: vs => rw [h2]; rfl

theorem lk_len : CaLk Γ .len (fun xs H Q => ∃ x n, xs = [x] ∧ LenV Γ.K x H n ∧ Q (.int n) H) := by
  refine lk_one (no_one rfl fun _ _ _ => rfl) fun s H a u Q E R r A => ?_
  change After Γ s (lenM a s.hp) _ _ at A
  unfold lenM at A
  split at A
  · split at A
    · rename_i h
      have e := rv_str.mp r
      subst e
      exact ⟨_, _, rfl, ⟨h, rfl⟩, After.ok R A _ (rv_int.mpr rfl)⟩
    · exact after_bad A
  · obtain ⟨vs, p, us, e, q, rs, A⟩ := A.seqV R r
    subst e
    have hl := Paired.len rs
    refine ⟨_, us.length, rfl, ?_, by rw [← hl]; exact After.ok R A _ (rv_int.mpr rfl)⟩
    rcases q with q | q
    · exact .inl ⟨us, q, rfl⟩
    · exact .inr ⟨us, q, rfl⟩
theorem lk_abs : CaLk Γ .abs (fun xs H Q => ∃ i, xs = [.int i] ∧ Q (.int (if i < 0 then -i else i)) H) := by
  refine lk_one (no_one rfl fun _ _ _ => rfl) fun s H a u Q E R r A => ?_
  have A : After Γ s (MH.bind (intV a) (fun i => int (if i < 0 then -i else i)) s.hp) _ _ := A
  obtain ⟨i, _, e, A⟩ := A.intV r
  subst e
  exact ⟨i, rfl, After.ok R A _ (rv_int.mpr rfl)⟩
theorem lk_int1 : CaLk Γ .int1 (fun xs H Q => (∃ i, xs = [.int i] ∧ Q (.int i) H) ∨ ∃ k, xs = [.bl k] ∧ Q (.int (if k then 1 else 0)) H) := by
  refine lk_one (no_one rfl fun _ _ _ => rfl) fun s H a u Q E R r A => ?_
  change After Γ s ((match a with | .t (.int i) => int i | .t (.bl b) => int (if b then 1 else 0) | _ => bad) s.hp) _ _ at A
  split at A
  · exact .inl ⟨_, by rw [rv_int.mp r], After.ok R A _ (rv_int.mpr rfl)⟩
  · exact .inr ⟨_, by rw [rv_bl.mp r], After.ok R A _ (rv_int.mpr rfl)⟩
  · exact after_bad A
theorem lk_str1 : CaLk Γ .str1 (fun xs H Q => ∃ i : Int, xs = [.int i] ∧ i.natAbs.log2 < 1920 ∧ Q (.str (Str.ofString (toString i))) H) := by
  refine lk_one (no_one rfl fun _ _ _ => rfl) fun s H a u Q E R r A => ?_
  have A : After Γ s (MH.bind (intV a) (fun i => if i.natAbs.log2 < 1920 then str (Str.ofString (toString i)) else bad) s.hp) _ _ := A
  obtain ⟨i, _, e, A⟩ := A.intV r
  subst e
  split at A
  · rename_i h
    exact ⟨i, rfl, h, After.ok R A _ (rv_str.mpr rfl)⟩
  · exact after_bad A
theorem lk_list {m : Bool} : CaLk Γ (.list m) (fun xs H Q => ∃ p ys, xs = [.ref p] ∧ (SqL Γ.K H p ys ∨ SqT Γ.K H p ys) ∧ ∀ l, H l = none → Q (.ref l) (upd H l (.lst ys))) := by
  refine lk_one (no_one rfl fun _ _ _ => rfl) fun s H a u Q E R r A => ?_
  have A : After Γ s (MH.bind (seqV a) (fun xs => keep m xs) s.hp) _ _ := A
  obtain ⟨vs, p, us, e, q, rs, A⟩ := A.seqV R r
  subst e
  exact ⟨p, us, rfl, q, fun l hl => A.keep R rs l hl⟩
/-- tuple(x), the new tuple's object known -/
def rTupF (K : PySem.W.Frag) : List V → Hp → VK → Prop := fun xs H Q => ∃ p ys, xs = [.ref p] ∧ ((SqL K H p ys ∧ ∀ (l : Addr) (o : Obj), H l = none → o.dict = none → Q (.ref l) (upd H l (.frz o (.tup ys)))) ∨ (SqT K H p ys ∧ Q (.ref p) H))
theorem call_tupleF : CallR X (.type "tuple") (rTupF X.K) := by
  intro pins s σ H xs us Q I r h
  obtain ⟨p, ys, rfl, h⟩ := h
  obtain ⟨u, rfl, rx⟩ := vals1 r
  cases rx
  rcases h with ⟨hq, q⟩ | ⟨hq, q⟩
  · obtain ⟨its, r', pl, hz⟩ := I.list hq
    have hlen := r'.length
    refine call_tuple_list pl.isList (fun h' kp => ?_) (by simp only [List.size_toArray] <;> omega)
    have I1 : Inv X pins σ H { s with heap := h' } := I.kept (t' := s.toks) kp
    exact laid_tup I1 r' hz q
  · obtain ⟨its, r', pl, hz⟩ := I.tuple hq
    exact call_tuple_same pl ⟨.ref p, H, I, rfl, q⟩
theorem lk_tuple : CaLk Γ .tuple (rTupF Γ.K) := by
  refine lk_one (no_one rfl fun _ _ _ => rfl) fun s H a u Q E R r A => ?_
  change After Γ s ((match a with | .t (.tup xs) => MH.pure (Val.t (T.tup xs)) | a => MH.bind (lstP a) fun xs => MH.pure (Val.t (T.tup xs))) s.hp) _ _ at A
  split at A
  · obtain ⟨a, us, e1, t1, rs1⟩ := rt_tup.mp r
    subst e1
    exact ⟨a, us, rfl, .inr ⟨(R.fz.tupF t1).sqT, After.ok R A _ r⟩⟩
  · obtain ⟨xs, s1, p, us, x1, R1, e1, hF, rs, A⟩ := A.lstP R r
    subst e1
    exact ⟨p, us, rfl, .inl ⟨SqL.of (R1.fz _ _ hF), fun l o hl ho => After.newT R1 rs ho A l hl⟩⟩
theorem lk_max2 : CaLk Γ .max2 (fun xs H Q => ∃ i j, xs = [.int i, .int j] ∧ Q (.int (if j > i then j else i)) H) := by
  refine lk_two (no_two rfl (fun _ => rfl) fun _ _ _ _ => rfl) fun s H a b u w Q E R r r' A => ?_
  have A : After Γ s (MH.bind (intV a) (fun i => MH.bind (intV b) fun j => int (if j > i then j else i)) s.hp) _ _ := A
  obtain ⟨i, _, e, A⟩ := A.intV r
  obtain ⟨j, _, e', A⟩ := A.intV r'
  subst e e'
  exact ⟨i, j, rfl, After.ok R A _ (rv_int.mpr rfl)⟩
theorem lk_min2 : CaLk Γ .min2 (fun xs H Q => ∃ i j, xs = [.int i, .int j] ∧ Q (.int (if j < i then j else i)) H) := by
  refine lk_two (no_two rfl (fun _ => rfl) fun _ _ _ _ => rfl) fun s H a b u w Q E R r r' A => ?_
  have A : After Γ s (MH.bind (intV a) (fun i => MH.bind (intV b) fun j => int (if j < i then j else i)) s.hp) _ _ := A
  obtain ⟨i, _, e, A⟩ := A.intV r
  obtain ⟨j, _, e', A⟩ := A.intV r'
  subst e e'
  exact ⟨i, j, rfl, After.ok R A _ (rv_int.mpr rfl)⟩
theorem After.blsV {β : Type} {s : AS} {Q : β → AS → Hp → Prop} {E' : Ex → AS → Hp → Prop} : ∀ {xs : List T} {us : List V} {f : List Bool → MH β}, RTs Γ s.F xs us → After Γ s (MH.bind (MS.blsV (xs.map .t)) f s.hp) Q E' → ∃ bs, us = bs.map V.bl ∧ After Γ s (f bs s.hp) Q E'
  | [], us, f, rs, A => by
    simp only [RTs] at rs
    exact ⟨[], rs, A⟩
  | x :: xs, us, f, rs, A => by
    simp only [RTs] at rs
    obtain ⟨v, r, e, rv, rt⟩ := rs
    have A : After Γ s (MH.bind (MH.bind (MS.blV (.t x)) fun b => MH.bind (MS.blsV (xs.map .t)) fun bs => MH.pure (b :: bs)) f s.hp) Q E' := A
    rw [MH.bind_assoc] at A
    obtain ⟨b, _, e1, A⟩ := A.blV (u := v) (show RV Γ s.F s.ρ (.t x) v from rv)
    rw [MH.bind_assoc] at A
    obtain ⟨bs, e2, A⟩ := After.blsV rt A
    exact ⟨b :: bs, by rw [e, e1, e2]; rfl, A⟩
theorem After.intsV {β : Type} {s : AS} {Q : β → AS → Hp → Prop} {E' : Ex → AS → Hp → Prop} : ∀ {xs : List T} {us : List V} {f : List Int → MH β}, RTs Γ s.F xs us → After Γ s (MH.bind (MS.intsV (xs.map .t)) f s.hp) Q E' → ∃ bs, us = bs.map V.int ∧ After Γ s (f bs s.hp) Q E'
  | [], us, f, rs, A => by
    simp only [RTs] at rs
    exact ⟨[], rs, A⟩
  | x :: xs, us, f, rs, A => by
    simp only [RTs] at rs
    obtain ⟨v, r, e, rv, rt⟩ := rs
    have A : After Γ s (MH.bind (MH.bind (MS.intV (.t x)) fun b => MH.bind (MS.intsV (xs.map .t)) fun bs => MH.pure (b :: bs)) f s.hp) Q E' := A
    rw [MH.bind_assoc] at A
    obtain ⟨b, _, e1, A⟩ := A.intV (u := v) (show RV Γ s.F s.ρ (.t x) v from rv)
    rw [MH.bind_assoc] at A
    obtain ⟨bs, e2, A⟩ := After.intsV rt A
    exact ⟨b :: bs, by rw [e, e1, e2]; rfl, A⟩
theorem lk_any : CaLk Γ .any (rAny Γ.K) := by
  refine lk_one (no_one rfl fun _ _ _ => rfl) fun s H a u Q E R r A => ?_
  have A : After Γ s (MH.bind (lstP a) (fun xs => MH.bind (blsV (xs.map .t)) fun bs => bl (bs.any id)) s.hp) _ _ := A
  obtain ⟨xs, s1, p, us, x1, R1, e1, hF, rs, A⟩ := A.lstP R r
  obtain ⟨bs, e2, A⟩ := After.blsV rs A
  subst e1 e2
  exact ⟨p, bs, rfl, SqL.of (R1.fz _ _ hF), After.ok R1 A _ (rv_bl.mpr rfl)⟩
theorem lk_all : CaLk Γ .all (rAll Γ.K) := by
  refine lk_one (no_one rfl fun _ _ _ => rfl) fun s H a u Q E R r A => ?_
  have A : After Γ s (MH.bind (lstP a) (fun xs => MH.bind (blsV (xs.map .t)) fun bs => bl (bs.all id)) s.hp) _ _ := A
  obtain ⟨xs, s1, p, us, x1, R1, e1, hF, rs, A⟩ := A.lstP R r
  obtain ⟨bs, e2, A⟩ := After.blsV rs A
  subst e1 e2
  exact ⟨p, bs, rfl, SqL.of (R1.fz _ _ hF), After.ok R1 A _ (rv_bl.mpr rfl)⟩
theorem lk_sum : CaLk Γ .sum (rSum Γ.K) := by
  refine lk_one (no_one rfl fun _ _ _ => rfl) fun s H a u Q E R r A => ?_
  have A : After Γ s (MH.bind (lstP a) (fun xs => MH.bind (intsV (xs.map .t)) fun bs => int bs.sum) s.hp) _ _ := A
  obtain ⟨xs, s1, p, us, x1, R1, e1, hF, rs, A⟩ := A.lstP R r
  obtain ⟨bs, e2, A⟩ := After.intsV rs A
  subst e1 e2
  exact ⟨p, bs, rfl, SqL.of (R1.fz _ _ hF), After.ok R1 A _ (rv_int.mpr rfl)⟩
end
end MS

set_option Elab.async false
set_option linter.all false
set_option maxRecDepth 100000
/-! MSH: data; methods of lists and tuples. -/
namespace MS
open PySem PySem.Spec PyProof.Rows L2
section
variable {Γ : Run} {X : Cx} {C : Cl} {pos p : Pos}
/-! ### data -/
mutual
theorem dp_of {F H : Hp} (le : Le F H) : ∀ (x : T) (u : V) (d : PyData), RT Γ F x u → x.toD = some d → Dp Γ.K H u d
  | .non, u, d, r, e => by rw [rt_non] at r; subst r; simp only [T.toD] at e; cases e; exact .non
  | .bl b, u, d, r, e => by rw [rt_bl] at r; subst r; simp only [T.toD] at e; cases e; exact .bl b
  | .int b, u, d, r, e => by rw [rt_int] at r; subst r; simp only [T.toD] at e; cases e; exact .int b
  | .str b, u, d, r, e => by rw [rt_str] at r; subst r; simp only [T.toD] at e; cases e; exact .str b
  | .tup xs, u, d, r, e => by
    obtain ⟨a, us, rfl, t, rs⟩ := rt_tup.mp r
    simp only [T.toD] at e
    obtain ⟨ds, e1, rfl⟩ := Option.map_eq_some_iff.mp e
    exact .tup (le.tupF t).sqT (dps_of le xs us ds rs e1)
  | .lst xs, u, d, r, e => by
    obtain ⟨a, us, rfl, t, rs⟩ := rt_lst.mp r
    simp only [T.toD] at e
    obtain ⟨ds, e1, rfl⟩ := Option.map_eq_some_iff.mp e
    exact .lst (SqL.of (le _ _ t)) (dps_of le xs us ds rs e1)
  | .dct _, u, d, r, e => by simp only [T.toD] at e; cases e
  | .ins _ _, u, d, r, e => by simp only [T.toD] at e; cases e
  | .scr _, u, d, r, e => by simp only [T.toD] at e; cases e
  | .xo _ _, u, d, r, e => by simp only [T.toD] at e; cases e
theorem dps_of {F H : Hp} (le : Le F H) : ∀ (xs : List T) (us : List V) (ds : List PyData), RTs Γ F xs us → T.toDs xs = some ds → DpAll Γ.K H us ds
  | [], us, ds, r, e => by simp only [RTs] at r; simp only [T.toDs] at e; cases e; subst r; exact .nil
  | x :: xs, us, ds, r, e => by
    simp only [RTs] at r
    obtain ⟨v, r', rfl, a, b⟩ := r
    simp only [T.toDs] at e
    split at e
    · rename_i d ds' e1 e2
      cases e
      exact .cons (dp_of le x v d a e1) (dps_of le xs r' ds' b e2)
    · cases e
end
theorem data_of {F H : Hp} (le : Le F H) {x : T} {u : V} {d : PyData} (r : RT Γ F x u) (e : x.data = some d) : Dp Γ.K H u d ∧ SeqAt.shaped d = true := by
  unfold T.data at e
  split at e
  · rename_i d' h
    split at e
    · rename_i hs
      cases e
      exact ⟨dp_of le x u _ r h, hs⟩
    · cases e
  · cases e
theorem snapL_dp {s : AS} {H : Hp} {f : Val → List Ob → Option T} (hf : ∀ v u x d, RV Γ s.F s.ρ v u → f v s.hp = some x → x.toD = some d → Dp Γ.K H u d) : ∀ (vs : List Val) (us : List V) (xs : List T) (ds : List PyData), RVs Γ s.F s.ρ vs us → snapL f vs s.hp = some xs → T.toDs xs = some ds → DpAll Γ.K H us ds
  | [], us, xs, ds, r, e, q => by
    cases r
    simp only [snapL] at e
    cases e
    simp only [T.toDs] at q
    cases q
    exact .nil
  | v :: vs, us, xs, ds, r, e, q => by
    cases r with
    | cons r t =>
      simp only [snapL] at e
      split at e
      · rename_i y ys e1 e2
        cases e
        simp only [T.toDs] at q
        split at q
        · rename_i d ds' q1 q2
          cases q
          exact .cons (hf _ _ _ _ r e1 q1) (snapL_dp hf vs _ ys ds' t e2 q2)
        · cases q
      · cases e
theorem snap_dp {s : AS} {H : Hp} (R : Rel Γ s H) : ∀ (k : Nat) (v : Val) (u : V) (x : T) (d : PyData), RV Γ s.F s.ρ v u → snap k v s.hp = some x → x.toD = some d → Dp Γ.K H u d
  | 0, .t y, u, x, d, r, e, q => by simp only [snap] at e; cases e; exact dp_of R.fz _ u d r q
  | k + 1, .t y, u, x, d, r, e, q => by simp only [snap] at e; cases e; exact dp_of R.fz _ u d r q
  | 0, .ref n, u, x, d, r, e, q => by simp only [snap] at e; cases e
  | k + 1, .ref n, u, x, d, r, e, q => by
    obtain ⟨a, ea, rfl⟩ := r
    simp only [snap] at e
    split at e
    · rename_i y ec
      cases e
      obtain ⟨b, eb, c⟩ := R.cell n _ ec
      rw [ea] at eb; cases eb
      exact dp_of R.fz _ _ d c q
    · rename_i vs ec
      obtain ⟨ts, e1, rfl⟩ := Option.map_eq_some_iff.mp e
      obtain ⟨b, eb, c1, c2, us, c3, c4⟩ := R.cell n _ ec
      rw [ea] at eb; cases eb
      simp only [T.toD] at q
      obtain ⟨ds, q1, rfl⟩ := Option.map_eq_some_iff.mp q
      exact .lst (SqL.of c3) (snapL_dp (fun v u x d r e q => snap_dp R k v u x d r e q) vs us ts ds c4 e1 q1)
    · cases e
theorem After.dataOf {β : Type} {s : AS} {H : Hp} {Q : β → AS → Hp → Prop} {E' : Ex → AS → Hp → Prop} {v : Val} {u : V} {f : PyData → MH β} (R : Rel Γ s H) (r : RV Γ s.F s.ρ v u) (h : After Γ s (MH.bind (MS.dataOf v) f s.hp) Q E') :
    ∃ d, Dp Γ.K H u d ∧ SeqAt.shaped d = true ∧ After Γ s (f d s.hp) Q E' := by
  unfold MH.bind MS.dataOf at h
  cases e : (snap 8 v s.hp).bind T.data with
  | none => rw [e] at h; exact h.elim
  | some d =>
    rw [e] at h
    obtain ⟨x, e1, e2⟩ := Option.bind_eq_some_iff.mp e
    unfold T.data at e2
    split at e2
    · rename_i d' h1
      split at e2
      · rename_i hs
        cases e2
        exact ⟨_, snap_dp R 8 v u x _ r e1 h1, hs, h⟩
      · cases e2
    · cases e2

/-! ### count, index -/
def rCountD (K : PySem.W.Frag) : V → List V → Hp → VK → Prop := fun x xs H Q => ∃ (a : Addr) (y : V) (d : PyData) (ds : List PyData), x = V.ref a ∧ xs = [y] ∧ Dp K H (V.ref a) (.list ds) ∧ Dp K H y d ∧
  SeqAt.shaped (.list ds) = true ∧ SeqAt.shaped d = true ∧ Q (.int ((ds.filter fun z => PyData.eqv z d).length : Nat)) H
theorem mt_countD (hu : X.A.units + 65 < cLine) : MtR X "list.count" (rCountD X.K) := by
  intro pins s σ H x xs v us Q I rx rxs h
  obtain ⟨a, y, d, ds, rfl, rfl, hl, hy, sl, sd, q⟩ := h
  cases rx
  cases rxs with
  | cons ry rt =>
    rename_i uy ut
    cases rt
    obtain ⟨bs, r1⟩ := Dp.reads I d y uy hy ry
    have hxs : PyData.canLayAll0 ds = true := SeqAt.canLay_of_shaped sl
    have hroom : X.A.units + 1 + min (PyData.depthAll ds) d.depth < cLine := room_in_shaped sd hu
    cases hl with
    | lst hs ha =>
      obtain ⟨its, rv, ⟨⟨cls, dd, data, sls⟩, n, ho, hc, hdn, hdt⟩, hlen⟩ := I.list hs
      simp only at hc hdt
      subst hc hdt
      obtain ⟨as, h4⟩ := Dp.readsAll I ds _ its ha rv
      have hmap : its.map (SeqAt.readOf s.heap) = ds := SeqAt.readsAll_map ds its as hxs h4
      refine call_meets PySem.F.slot_list_count ⟨_, ho, rfl⟩ PySem.F.entry_list_count (PySem.F.args_list_count_2 _ _)
        (SeqAt.list_countAt a its.toArray n dd sls uy (fun u => PyData.eqv (SeqAt.readOf s.heap u) d)) ⟨ho, SeqAt.items_eqAt (vs := its.toArray) (show ReadsAll s.heap its.toArray.toList ds as from h4) r1 hxs (SeqAt.canLay_of_shaped sd) hroom, ?_⟩
      have e : (its.toArray.toList.countP fun u => PyData.eqv (SeqAt.readOf s.heap u) d) = (ds.filter fun z => PyData.eqv z d).length := by
        rw [← hmap, ← List.countP_eq_length_filter, List.countP_map]
        rfl
      rw [e]
      exact ⟨.int _, H, I.tok _, ⟨_, rfl⟩, q⟩
def rCountT (K : PySem.W.Frag) : V → List V → Hp → VK → Prop := fun x xs H Q => ∃ (a : Addr) (y : V) (d : PyData) (ds : List PyData), x = V.ref a ∧ xs = [y] ∧ Dp K H (V.ref a) (.tuple ds) ∧ Dp K H y d ∧
  SeqAt.shaped (.tuple ds) = true ∧ SeqAt.shaped d = true ∧ Q (.int ((ds.filter fun z => PyData.eqv z d).length : Nat)) H
theorem mt_countT (hu : X.A.units + 65 < cLine) : MtR X "tuple.count" (rCountT X.K) := by
  intro pins s σ H x xs v us Q I rx rxs h
  obtain ⟨a, y, d, ds, rfl, rfl, hl, hy, sl, sd, q⟩ := h
  cases rx
  cases rxs with
  | cons ry rt =>
    rename_i uy ut
    cases rt
    obtain ⟨bs, r1⟩ := Dp.reads I d y uy hy ry
    have hxs : PyData.canLayAll0 ds = true := SeqAt.canLay_of_shaped sl
    have hroom : X.A.units + 1 + min (PyData.depthAll ds) d.depth < cLine := room_in_shaped (xs := ds) sd hu
    cases hl with
    | tup hs ha =>
      obtain ⟨its, rv, ⟨⟨cls, dd, data, sls⟩, ho, hc, n, hdt⟩, hlen⟩ := I.tuple hs
      simp only at hc hdt
      subst hc hdt
      obtain ⟨as, h4⟩ := Dp.readsAll I ds _ its ha rv
      have hmap : its.map (SeqAt.readOf s.heap) = ds := SeqAt.readsAll_map ds its as hxs h4
      refine call_meets PySem.F.slot_tuple_count ⟨_, ho, rfl⟩ PySem.F.entry_tuple_count (PySem.F.args_tuple_count_2 _ _)
        (SeqAt.tuple_countAt a its.toArray n dd sls uy (fun u => PyData.eqv (SeqAt.readOf s.heap u) d)) ⟨ho, SeqAt.items_eqAt (vs := its.toArray) (show ReadsAll s.heap its.toArray.toList ds as from h4) r1 hxs (SeqAt.canLay_of_shaped sd) hroom, ?_⟩
      have e : (its.toArray.toList.countP fun u => PyData.eqv (SeqAt.readOf s.heap u) d) = (ds.filter fun z => PyData.eqv z d).length := by
        rw [← hmap, ← List.countP_eq_length_filter, List.countP_map]
        rfl
      rw [e]
      exact ⟨.int _, H, I.tok _, ⟨_, rfl⟩, q⟩
def rIndexT (K : PySem.W.Frag) : V → List V → Hp → VK → Prop := fun x xs H Q => ∃ (a : Addr) (y : V) (d : PyData) (ds : List PyData) (j : Nat) (z : PyData), x = V.ref a ∧ xs = [y] ∧ Dp K H (V.ref a) (.tuple ds) ∧ Dp K H y d ∧
  SeqAt.shaped (.tuple ds) = true ∧ SeqAt.shaped d = true ∧ ds[j]? = some z ∧ PyData.eqv z d = true ∧ (∀ (m : Nat) (z' : PyData), m < j → ds[m]? = some z' → PyData.eqv z' d = false) ∧ Q (.int (j : Nat)) H
theorem mt_indexT (hu : X.A.units + 65 < cLine) : MtR X "tuple.index" (rIndexT X.K) := by
  intro pins s σ H x xs v us Q I rx rxs h
  obtain ⟨a, y, d, ds, j, z, rfl, rfl, hl, hy, sl, sd, hz, hzj, hno, q⟩ := h
  cases rx
  cases rxs with
  | cons ry rt =>
    rename_i uy ut
    cases rt
    obtain ⟨bs, r1⟩ := Dp.reads I d y uy hy ry
    have hxs : PyData.canLayAll0 ds = true := SeqAt.canLay_of_shaped sl
    have hroom : X.A.units + 1 + min (PyData.depthAll ds) d.depth < cLine := room_in_shaped (xs := ds) sd hu
    cases hl with
    | tup hs ha =>
      obtain ⟨its, rv, ⟨⟨cls, dd, data, sls⟩, ho, hc, n, hdt⟩, hlen⟩ := I.tuple hs
      simp only at hc hdt
      subst hc hdt
      obtain ⟨as, h4⟩ := Dp.readsAll I ds _ its ha rv
      have hn : its.length = ds.length := SeqAt.ReadsAll.length ds its as h4
      have hmap : its.map (SeqAt.readOf s.heap) = ds := SeqAt.readsAll_map ds its as hxs h4
      obtain ⟨hjd, _⟩ := List.getElem?_eq_some_iff.mp hz
      have hjl : j < its.length := by omega
      have hj : j < its.toArray.size := by simpa using hjl
      have at_ : ∀ (m : Nat) (hm : m < its.toArray.size) (z' : PyData), ds[m]? = some z' → SeqAt.readOf s.heap its.toArray[m] = z' := by
        intro m hm z' hz'
        have hml : m < its.length := by simpa using hm
        rw [← hmap, List.getElem?_map, List.getElem?_eq_getElem hml] at hz'
        have e1 : SeqAt.readOf s.heap its[m] = z' := Option.some.inj (show some (SeqAt.readOf s.heap its[m]) = some z' from hz')
        simpa using e1
      refine call_meets PySem.F.slot_tuple_index ⟨_, ho, rfl⟩ PySem.F.entry_tuple_index (PySem.F.args_tuple_index_2 _ _)
        (TI.tuple_indexAt a its.toArray n dd sls uy (fun u => PyData.eqv (SeqAt.readOf s.heap u) d) j hj ?_ ?_) ⟨ho, SeqAt.items_eqAt (vs := its.toArray) (show ReadsAll s.heap its.toArray.toList ds as from h4) r1 hxs (SeqAt.canLay_of_shaped sd) hroom, ?_⟩
      · show PyData.eqv (SeqAt.readOf s.heap its.toArray[j]) d = true
        rw [at_ j hj z hz]
        exact hzj
      · intro m hm hmj
        have hmd : m < ds.length := by
          have : its.toArray.size = its.length := List.size_toArray
          omega
        have hz' : ds[m]? = some ds[m] := List.getElem?_eq_getElem hmd
        show PyData.eqv (SeqAt.readOf s.heap its.toArray[m]) d = false
        rw [at_ m hm _ hz']
        exact hno m _ hmj hz'
      · exact ⟨.int (j : Nat), H, I.tok _, ⟨_, rfl⟩, q⟩
/-- o.m(..) of a tuple -/
def tBMt (K : PySem.W.Frag) (r : V → List V → Hp → VK → Prop) (to : TE) (t : TA) : TE := fun σ H Q => to σ H fun x H1 => (∃ p vs, x = .ref p ∧ TupF K H1 p vs) ∧ t σ H1 fun xs H2 => r x xs H2 Q
theorem pe_bmT {name : Str} {id : String} {r : V → List V → Hp → VK → Prop} {o e : Expr} {es : List Expr} {to : TE} {t : TA} {apos cpos : Pos} (slot : Slot "tuple" name id) (hty : typeOf (.builtin id) = pure (.type "method_descriptor")) (hm : MtR X id r) (ho : PE X o to) (ha : PA X (e :: es) t)
    (hbase : attributeBase o name X.env (eval o X.env) = eval o X.env)
    (hfew : ((backTo cpos (starEach (e :: es) X.env)).all (fun x => !x.1) && (backToKw cpos (keywordEach [] X.env)).all (fun x => x.1.isSome)
      && decide ((e :: es).length + ([] : List Keyword).length + (if ([] : List Keyword).isEmpty then 0 else 1) < 30)) = true)
    (hline : (apos.endLine == cpos.line) = true) (hs : starEach (e :: es) X.env = (false, eval e X.env) :: starEach es X.env) (hplain : (backTo cpos (starEach es X.env)).any (·.1) = false) :
    PE X (.Call (.Attribute o name apos) (e :: es) [] cpos) (tBMt X.K r to t) := by
  refine ⟨fun pins s σ H Q I h => ?_⟩
  refine wpAny_Call_method_late hbase hfew hline rfl (thn (ho.run pins s σ H _ I h) fun v s1 ⟨x, H1, I1, r1, ⟨p, vs, ex, ty⟩, q1⟩ => ?_)
  subst ex
  cases r1
  have key : ∃ ob, s1.heap.get? p = some ob ∧ ob.cls = .type "tuple" ∧ ob.dict = none := by
    rcases ty with ⟨ob, hF, hd⟩ | ⟨ob, its, n, hk, hc, hd, _⟩
    · obtain ⟨e1, _, its, _, o', e2, c2, _⟩ := I1.hok _ _ hF
      rw [e1] at e2; cases e2
      exact ⟨ob, e1, c2, hd⟩
    · exact ⟨ob, I1.kIn p ob hk, hc, hd⟩
  obtain ⟨ob, e1, c1, d1⟩ := key
  refine ⟨"tuple", id, PySem.F.plainAttrs_tuple, slot, hty, ⟨ob, e1, c1⟩, fun a ea => ?_, ?_⟩
  · cases ea; exact ⟨ob, e1, d1⟩
  · have hA := ha.run cpos pins s1 σ H1 _ I1 q1
    rw [hs] at hA ⊢
    refine Calls.callWith_builtin (by show (false || (backTo cpos (starEach es X.env)).any (·.1)) = false; rw [hplain] <;> rfl) (Calls.evalArgs_plain ?_)
    exact thn hA fun us s2 ⟨vs, H2, I2, r2, q2⟩ => hm pins s2 σ H2 (.ref p) vs _ us Q I2 rfl r2 q2
end
end MS

set_option Elab.async false
set_option linter.all false
set_option maxRecDepth 100000
/-! MSI: methods, fields, displays, and, or, f-strings. -/
namespace MS
open PySem PySem.Spec PyProof.Rows L2
section
variable {Γ : Run} {X : Cx} {C : Cl} {pos p apos cpos : Pos}
theorem all_plain : ∀ {es : List Expr} {env : Env} {pos : Pos}, es.any stB = false → (backTo pos (starEach es env)).all (fun x => !x.1) = true
  | [], _, _, _ => rfl
  | e :: es, env, pos, h => by
    rw [List.any_cons, Bool.or_eq_false_iff] at h
    rw [star_cons h.1]
    show (!false && (backTo pos (starEach es env)).all (fun x => !x.1)) = true
    rw [all_plain h.2]
    rfl
theorem few_plain {es : List Expr} {env : Env} (h : es.any stB = false) (hl : es.length < 20) : ((backTo cpos (starEach es env)).all (fun x => !x.1) && (backToKw cpos (keywordEach [] env)).all (fun x => x.1.isSome)
      && decide (es.length + ([] : List Keyword).length + (if ([] : List Keyword).isEmpty then 0 else 1) < 30)) = true := by
  rw [all_plain h]
  have : (backToKw cpos (keywordEach [] env)).all (fun x => x.1.isSome) = true := rfl
  rw [this]
  simp
  omega
/-- a method of a list or a tuple: the rule's reading by values -/
def LmLk (Γ : Run) (o : Op) (r : V → List V → Hp → VK → Prop) : Prop := ∀ (s : AS) (H : Hp) (a : Val) (vs : List Val) (u : V) (us : List V) (Q : VK) (E : Ex → AS → Hp → Prop), Rel Γ s H → RV Γ s.F s.ρ a u → RVs Γ s.F s.ρ vs us →
  After Γ s (opM o (a :: vs) s.hp) (fun x s' H' => ∀ z, RV Γ s'.F s'.ρ x z → Q z H') E → r u us H Q
theorem ty_list {s : AS} {H : Hp} {tp : Bool} {a : Val} {u : V} {β : Type} {f : Unit → MH β} {Q : β → AS → Hp → Prop} {E : Ex → AS → Hp → Prop} (R : Rel Γ s H) (r : RV Γ s.F s.ρ a u) (h : After Γ s (MH.bind (isSeq tp a) f s.hp) Q E) :
    (tyV Γ.K "list" u H ∨ (tp = true ∧ ∃ xs, a = .t (.tup xs))) ∧ After Γ s (f () s.hp) Q E := by
  cases a with
  | t x =>
    cases x with
    | lst xs =>
      obtain ⟨q, us, rfl, hF, _⟩ := rt_lst.mp r
      exact ⟨.inl (.inl ⟨rfl, us, SqL.of (R.fz _ _ hF)⟩), h⟩
    | tup xs =>
      cases tp with
      | true => exact ⟨.inr ⟨rfl, xs, rfl⟩, h⟩
      | false => exact h.elim
    | _ => exact h.elim
  | ref n =>
    obtain ⟨b, eb, rfl⟩ := r
    unfold isSeq MH.bind at h
    dsimp only at h
    cases e : s.hp[n]? with
    | none => rw [e] at h; exact h.elim
    | some ob =>
      rw [e] at h
      obtain ⟨b', eb', c⟩ := R.cell n _ e
      rw [eb] at eb'; cases eb'
      cases ob with
      | lst vs =>
        obtain ⟨_, _, us, c3, _⟩ := c
        exact ⟨.inl (.inl ⟨rfl, us, SqL.of c3⟩), h⟩
      | frz x =>
        cases x with
        | lst xs =>
          obtain ⟨q, us, e1, hF, _⟩ := rt_lst.mp c
          cases e1
          exact ⟨.inl (.inl ⟨rfl, us, SqL.of (R.fz _ _ hF)⟩), h⟩
        | _ => exact h.elim
      | _ => exact h.elim
theorem evE_lm {o : Op} {l : E} {ms : List E} {loc : Loc} : evE C (.lm o l ms) loc = MH.bind (evE C l loc) fun a => MH.bind (isSeq o.tp a) fun _ => MH.bind (evEs C ms loc) fun vs => opM o (a :: vs) := by simp only [evE]
/-- of lists alone -/
theorem se_lmL {o : Op} {name : Str} {id : String} {r : V → List V → Hp → VK → Prop} {eo e : Expr} {es : List Expr} {l : E} {ms : List E} (ht : o.tp = false) (slot : Slot "list" name id) (hty : typeOf (.builtin id) = pure (.type "method_descriptor")) (hm : MtR X id r) (lk : LmLk Γ o r) (hK : X.K = Γ.K)
    (hl : SE Γ X eo (evE C l)) (ha : SA Γ X (e :: es) (evEs C ms)) (hb : abB eo = false) (hst : (e :: es).any stB = false) (hlen : (e :: es).length < 20) (hline : (apos.endLine == cpos.line) = true) : SE Γ X (.Call (.Attribute eo name apos) (e :: es) [] cpos) (evE C (.lm o l ms)) := by
  have h1 : stB e = false ∧ es.any stB = false := by rw [List.any_cons, Bool.or_eq_false_iff] at hst; exact hst
  intro W tk
  refine PE.imp (pe_bm PySem.F.plainAttrs_list slot hty hm (hl W tk) (ha W tk) (base_no hb) (few_plain hst hlen) hline (star_cons h1.1) (spl_plain h1.2)) ?_
  rintro σ H Q ⟨loc, s, R, L, A⟩
  rw [evE_lm] at A
  refine ⟨loc, s, R, L, A.bind.imp (fun a s1 H1 x1 R1 A1 u r => ?_) (fun _ _ _ _ _ q => q)⟩
  obtain ⟨ty, A2⟩ := ty_list R1 r A1
  rcases ty with ty | ⟨z, _⟩
  · refine ⟨by rw [hK]; exact ty, loc, s1, R1, L.ext x1, A2.bind.imp (fun vs s2 H2 x2 R2 A3 us rs => ?_) (fun _ _ _ _ _ q => q)⟩
    exact lk s2 H2 a vs u us Q _ R2 (r.ext x2) rs A3
  · rw [ht] at z; cases z
theorem se_lmL0 {o : Op} {name : Str} {id : String} {r : V → List V → Hp → VK → Prop} {eo : Expr} {l : E} (ht : o.tp = false) (slot : Slot "list" name id) (hty : typeOf (.builtin id) = pure (.type "method_descriptor")) (hm : MtR X id r) (lk : LmLk Γ o r) (hK : X.K = Γ.K)
    (hl : SE Γ X eo (evE C l)) (hb : abB eo = false) (hline : (apos.endLine == cpos.line) = true) : SE Γ X (.Call (.Attribute eo name apos) [] [] cpos) (evE C (.lm o l [])) := by
  intro W tk
  refine PE.imp (pe_bm0 PySem.F.plainAttrs_list slot hty hm (hl W tk) (base_no hb) hline) ?_
  rintro σ H Q ⟨loc, s, R, L, A⟩
  rw [evE_lm] at A
  refine ⟨loc, s, R, L, A.bind.imp (fun a s1 H1 x1 R1 A1 u r => ?_) (fun _ _ _ _ _ q => q)⟩
  obtain ⟨ty, A2⟩ := ty_list R1 r A1
  rcases ty with ty | ⟨z, _⟩
  · refine ⟨by rw [hK]; exact ty, ?_⟩
    simp only [evEs, pure_eq, MH.pure_bind] at A2
    exact lk s1 H1 a [] u [] Q _ R1 r .nil A2
  · rw [ht] at z; cases z
/-- of lists and tuples -/
theorem se_lmT {o : Op} {name : Str} {id id' : String} {r r' : V → List V → Hp → VK → Prop} {eo e : Expr} {es : List Expr} {l : E} {ms : List E} (slot : Slot "list" name id) (hty : typeOf (.builtin id) = pure (.type "method_descriptor")) (hm : MtR X id r)
    (slot' : Slot "tuple" name id') (hty' : typeOf (.builtin id') = pure (.type "method_descriptor")) (hm' : MtR X id' r') (hK : X.K = Γ.K)
    (lk : ∀ (s : AS) (H : Hp) (a : Val) (vs : List Val) (u : V) (us : List V) (Q : VK) (E : Ex → AS → Hp → Prop), Rel Γ s H → RV Γ s.F s.ρ a u → RVs Γ s.F s.ρ vs us → (∀ xs, a ≠ .t (.tup xs)) → After Γ s (opM o (a :: vs) s.hp) (fun x s' H' => ∀ z, RV Γ s'.F s'.ρ x z → Q z H') E → r u us H Q)
    (lk' : ∀ (s : AS) (H : Hp) (xs : List T) (vs : List Val) (u : V) (us : List V) (Q : VK) (E : Ex → AS → Hp → Prop), Rel Γ s H → RT Γ s.F (.tup xs) u → RVs Γ s.F s.ρ vs us → After Γ s (opM o (.t (.tup xs) :: vs) s.hp) (fun x s' H' => ∀ z, RV Γ s'.F s'.ρ x z → Q z H') E → r' u us H Q)
    (hl : SE Γ X eo (evE C l)) (ha : SA Γ X (e :: es) (evEs C ms)) (hb : abB eo = false) (hst : (e :: es).any stB = false) (hlen : (e :: es).length < 20) (hline : (apos.endLine == cpos.line) = true) : SE Γ X (.Call (.Attribute eo name apos) (e :: es) [] cpos) (evE C (.lm o l ms)) := by
  have h1 : stB e = false ∧ es.any stB = false := by rw [List.any_cons, Bool.or_eq_false_iff] at hst; exact hst
  intro W tk
  refine PE.imp (PE.or (pe_bm PySem.F.plainAttrs_list slot hty hm (hl W tk) (ha W tk) (base_no hb) (few_plain hst hlen) hline (star_cons h1.1) (spl_plain h1.2))
    (pe_bmT slot' hty' hm' (hl W tk) (ha W tk) (base_no hb) (few_plain hst hlen) hline (star_cons h1.1) (spl_plain h1.2))) ?_
  rintro σ H Q ⟨loc, s, R, L, A⟩
  rw [evE_lm] at A
  have A0 := A.bind
  by_cases ht : ∃ xs h1, evE C l loc s.hp = .ok (.t (.tup xs)) h1
  · obtain ⟨xs, h1, e1⟩ := ht
    refine .inr ⟨loc, s, R, L, ?_⟩
    rw [e1] at A0 ⊢
    intro s1 H1 eh x1 R1 u r
    have A1 := A0 s1 H1 eh x1 R1
    obtain ⟨ty, A2⟩ := ty_list (a := .t (.tup xs)) R1 r A1
    obtain ⟨q, us0, e2, t, rs0⟩ := rt_tup.mp r
    refine ⟨⟨q, us0, e2, by rw [hK]; exact R1.fz.tupF t⟩, loc, s1, R1, L.ext x1, A2.bind.imp (fun vs s2 H2 x2 R2 A3 us rs => ?_) (fun _ _ _ _ _ q => q)⟩
    exact lk' s2 H2 xs vs u us Q _ R2 (RT.mono x2.F _ _ r) rs A3
  · refine .inl ⟨loc, s, R, L, ?_⟩
    cases e1 : evE C l loc s.hp with
    | bad => rw [e1] at A0; exact A0
    | exc x h1 => rw [e1] at A0; exact A0
    | ok a h1 =>
      have nt : ∀ xs, a ≠ .t (.tup xs) := fun xs z => ht ⟨xs, h1, by rw [e1, z]⟩
      rw [e1] at A0
      intro s1 H1 eh x1 R1 u r
      have A1 := A0 s1 H1 eh x1 R1
      obtain ⟨ty, A2⟩ := ty_list R1 r A1
      rcases ty with ty | ⟨_, xs, z⟩
      · refine ⟨by rw [hK]; exact ty, loc, s1, R1, L.ext x1, A2.bind.imp (fun vs s2 H2 x2 R2 A3 us rs => ?_) (fun _ _ _ _ _ q => q)⟩
        exact lk s2 H2 a vs u us Q _ R2 (r.ext x2) rs nt A3
      · exact absurd z (nt xs)
/-! the methods -/
theorem lk_append : LmLk Γ .append rAppend := by
  intro s H a vs u us Q E R r rs A
  match vs, rs with
  | [v], .cons rv .nil =>
    rename_i w
    have A : After Γ s (MH.bind (cellV a) (fun q => if q.2.length < SL then MH.bind (put q.1 (.lst (q.2 ++ [v]))) (fun _ => MH.pure (Val.t T.non)) else bad) s.hp) _ _ := A
    obtain ⟨n, xs, q, ys, e1, e2, hρ, hc, f1, f2, hH, rx, A⟩ := A.cellV R r
    dsimp only at A
    split at A
    · rename_i hl
      obtain ⟨R1, x1⟩ := wr_cell (ob := .lst (xs ++ [v])) (o := .lst (ys ++ [w])) R hρ f1 f2 ⟨f1, f2, _, upd_same, Paired.app rx (.cons rv .nil)⟩
      refine ⟨q, ys, w, e2, rfl, hH, by rw [← Paired.len rx]; exact hl, ?_⟩
      exact A (s.wr n _) _ rfl x1 R1 _ (rv_non.mpr rfl)
    · exact after_bad A
  | [], _ => exact A.elim
  | _ :: _ :: _, _ => exact A.elim
theorem Paired.dropLast {α β : Type} {R : α → β → Prop} : ∀ {xs : List α} {ys : List β}, Paired R xs ys → Paired R xs.dropLast ys.dropLast
  | _, _, .nil => .nil
  | _, _, .cons _ .nil => .nil
  | _, _, .cons r (.cons r' t) => .cons r (Paired.dropLast (.cons r' t))
theorem lk_pop : LmLk Γ .pop rPop := by
  intro s H a vs u us Q E R r rs A
  match vs, rs with
  | [], .nil =>
    have A : After Γ s (MH.bind (cellV a) (fun q => match q.2[q.2.length - 1]? with | some y => MH.bind (put q.1 (.lst q.2.dropLast)) (fun _ => fun h => .ok (nrm y h) h) | none => bad) s.hp) _ _ := A
    obtain ⟨n, xs, q, ys, e1, e2, hρ, hc, f1, f2, hH, rx, A⟩ := A.cellV R r
    dsimp only at A
    cases hy : xs[xs.length - 1]? with
    | none => rw [hy] at A; exact A.elim
    | some y =>
      rw [hy] at A
      obtain ⟨w, hw, rw'⟩ := Paired.get1 rx hy
      obtain ⟨R1, x1⟩ := wr_cell (ob := .lst xs.dropLast) (o := .lst ys.dropLast) R hρ f1 f2 ⟨f1, f2, _, upd_same, Paired.dropLast rx⟩
      refine ⟨q, ys, w, e2, rfl, hH, by rw [← Paired.len rx]; exact hw, ?_⟩
      exact A (s.wr n _) _ rfl x1 R1 _ (nrm_ok R1 (rw'.ext x1))
  | _ :: _, _ => exact A.elim
theorem lk_clear : LmLk Γ .clear rClear := by
  intro s H a vs u us Q E R r rs A
  match vs, rs with
  | [], .nil =>
    have A : After Γ s (MH.bind (cellV a) (fun q => MH.bind (put q.1 (.lst [])) (fun _ => MH.pure (Val.t T.non))) s.hp) _ _ := A
    obtain ⟨n, xs, q, ys, e1, e2, hρ, hc, f1, f2, hH, rx, A⟩ := A.cellV R r
    obtain ⟨R1, x1⟩ := wr_cell (ob := .lst []) (o := .lst []) R hρ f1 f2 ⟨f1, f2, _, upd_same, .nil⟩
    exact ⟨q, ys, e2, rfl, hH, A (s.wr n _) _ rfl x1 R1 _ (rv_non.mpr rfl)⟩
  | _ :: _, _ => exact A.elim
/-- frozen data, then the rest -/
theorem After.seqDL {s : AS} {H : Hp} {a : Val} {u : V} {f : List PyData → MH Val} {Q : Val → AS → Hp → Prop} {E' : Ex → AS → Hp → Prop} (R : Rel Γ s H) (r : RV Γ s.F s.ρ a u) (nt : ∀ xs, a ≠ .t (.tup xs)) (h : After Γ s (MS.seqD a f s.hp) Q E') :
    ∃ ds s', Ext s s' ∧ Rel Γ s' H ∧ (∃ q, u = .ref q) ∧ Dp Γ.K H u (.list ds) ∧ SeqAt.shaped (.list ds) = true ∧ After Γ s' (f ds s'.hp) Q E' := by
  unfold MS.seqD at h
  split at h
  · exact absurd rfl (nt _)
  · obtain ⟨xs, s', p, us, x1, R1, e, hF, rs, A⟩ := h.lstP R r
    cases hd : (T.lst xs).data with
    | none => rw [hd] at A; exact A.elim
    | some d =>
      rw [hd] at A
      have dd := data_of (x := .lst xs) R1.fz (rt_lst.mpr ⟨p, us, e, hF, rs⟩) hd
      cases d with
      | list ds => exact ⟨ds, s', x1, R1, ⟨p, e⟩, dd.1, dd.2, A⟩
      | _ => exact A.elim
theorem After.seqDT {s : AS} {H : Hp} {xs : List T} {u : V} {f : List PyData → MH Val} {Q : Val → AS → Hp → Prop} {E' : Ex → AS → Hp → Prop} (R : Rel Γ s H) (r : RT Γ s.F (.tup xs) u) (h : After Γ s (MS.seqD (.t (.tup xs)) f s.hp) Q E') :
    ∃ ds, (∃ q, u = .ref q) ∧ Dp Γ.K H u (.tuple ds) ∧ SeqAt.shaped (.tuple ds) = true ∧ After Γ s (f ds s.hp) Q E' := by
  have h : After Γ s ((match (T.tup xs).data with | some (.tuple ds) => f ds | _ => bad) s.hp) Q E' := h
  cases hd : (T.tup xs).data with
  | none => rw [hd] at h; exact h.elim
  | some d =>
    rw [hd] at h
    have dd := data_of R.fz r hd
    obtain ⟨q, us, e, _⟩ := rt_tup.mp r
    cases d with
    | tuple ds => exact ⟨ds, ⟨q, e⟩, dd.1, dd.2, h⟩
    | _ => exact h.elim
theorem After.datP {s : AS} {H : Hp} {v : Val} {u : V} {f : PyData → MH Val} {Q : Val → AS → Hp → Prop} {E' : Ex → AS → Hp → Prop} (R : Rel Γ s H) (r : RV Γ s.F s.ρ v u) (h : After Γ s (MH.bind (MS.pur v) (fun x => match x.data with | some d => f d | none => bad) s.hp) Q E') :
    ∃ d s', Ext s s' ∧ Rel Γ s' H ∧ Dp Γ.K H u d ∧ SeqAt.shaped d = true ∧ After Γ s' (f d s'.hp) Q E' := by
  obtain ⟨x, s', x1, R1, rx, A⟩ := After.pur R r h
  cases hd : x.data with
  | none => rw [hd] at A; exact A.elim
  | some d =>
    rw [hd] at A
    have dd := data_of R1.fz rx hd
    exact ⟨d, s', x1, R1, dd.1, dd.2, A⟩
theorem lk_countL (s : AS) (H : Hp) (a : Val) (vs : List Val) (u : V) (us : List V) (Q : VK) (E : Ex → AS → Hp → Prop) (R : Rel Γ s H) (r : RV Γ s.F s.ρ a u) (rs : RVs Γ s.F s.ρ vs us) (nt : ∀ xs, a ≠ .t (.tup xs)) (A : After Γ s (opM .count (a :: vs) s.hp) (fun x s' H' => ∀ z, RV Γ s'.F s'.ρ x z → Q z H') E) : rCountD Γ.K u us H Q := by
  match vs, rs with
  | [v], .cons rv .nil =>
    rename_i w
    change After Γ s (seqD a (fun ds => MH.bind (MS.pur v) fun x => match x.data with | some d => int (ds.filter fun z => PyData.eqv z d).length | none => bad) s.hp) _ _ at A
    obtain ⟨ds, s1, x1, R1, ⟨q, e⟩, d1, h1, A⟩ := A.seqDL R r nt
    obtain ⟨d, s2, x2, R2, d2, h2, A⟩ := A.datP R1 (rv.ext x1)
    subst e
    exact ⟨q, w, d, ds, rfl, rfl, d1, d2, h1, h2, After.ok R2 A _ (rv_int.mpr rfl)⟩
  | [], _ => exact A.elim
  | _ :: _ :: _, _ => exact A.elim
theorem lk_countT (s : AS) (H : Hp) (xs : List T) (vs : List Val) (u : V) (us : List V) (Q : VK) (E : Ex → AS → Hp → Prop) (R : Rel Γ s H) (r : RT Γ s.F (.tup xs) u) (rs : RVs Γ s.F s.ρ vs us) (A : After Γ s (opM .count (.t (.tup xs) :: vs) s.hp) (fun x s' H' => ∀ z, RV Γ s'.F s'.ρ x z → Q z H') E) : rCountT Γ.K u us H Q := by
  match vs, rs with
  | [v], .cons rv .nil =>
    rename_i w
    change After Γ s (seqD (.t (.tup xs)) (fun ds => MH.bind (MS.pur v) fun x => match x.data with | some d => int (ds.filter fun z => PyData.eqv z d).length | none => bad) s.hp) _ _ at A
    obtain ⟨ds, ⟨q, e⟩, d1, h1, A⟩ := A.seqDT R r
    obtain ⟨d, s2, x2, R2, d2, h2, A⟩ := A.datP R rv
    subst e
    exact ⟨q, w, d, ds, rfl, rfl, d1, d2, h1, h2, After.ok R2 A _ (rv_int.mpr rfl)⟩
  | [], _ => exact A.elim
  | _ :: _ :: _, _ => exact A.elim
theorem find_facts {ds : List PyData} {d : PyData} {j : Nat} (h : (ds.findIdx? fun z => PyData.eqv z d) = some j) : ∃ z, ds[j]? = some z ∧ PyData.eqv z d = true ∧ (∀ (m : Nat) (z' : PyData), m < j → ds[m]? = some z' → PyData.eqv z' d = false) := by
  rw [List.findIdx?_eq_some_iff_getElem] at h
  obtain ⟨hj, h1, h2⟩ := h
  refine ⟨ds[j], List.getElem?_eq_getElem hj, h1, fun m z' hm e => ?_⟩
  have hml : m < ds.length := by omega
  rw [List.getElem?_eq_getElem hml] at e
  cases e
  have := h2 m hm
  simpa using this
theorem lk_indexT (s : AS) (H : Hp) (xs : List T) (vs : List Val) (u : V) (us : List V) (Q : VK) (E : Ex → AS → Hp → Prop) (R : Rel Γ s H) (r : RT Γ s.F (.tup xs) u) (rs : RVs Γ s.F s.ρ vs us) (A : After Γ s (opM .index (.t (.tup xs) :: vs) s.hp) (fun x s' H' => ∀ z, RV Γ s'.F s'.ρ x z → Q z H') E) : rIndexT Γ.K u us H Q := by
  match vs, rs with
  | [v], .cons rv .nil =>
    rename_i w
    change After Γ s (seqD (.t (.tup xs)) (fun ds => MH.bind (MS.pur v) fun x => match x.data with | some d => (match ds.findIdx? fun z => PyData.eqv z d with | some j => int (j : Nat) | none => bad) | none => bad) s.hp) _ _ at A
    obtain ⟨ds, ⟨q, e⟩, d1, h1, A⟩ := A.seqDT R r
    obtain ⟨d, s2, x2, R2, d2, h2, A⟩ := A.datP R rv
    subst e
    cases hj : ds.findIdx? fun z => PyData.eqv z d with
    | none => rw [hj] at A; exact A.elim
    | some j =>
      rw [hj] at A
      obtain ⟨z, hz, hz1, hz2⟩ := find_facts hj
      exact ⟨q, w, d, ds, j, z, rfl, rfl, d1, d2, h1, h2, hz, hz1, hz2, After.ok R2 A _ (rv_int.mpr rfl)⟩
  | [], _ => exact A.elim
  | _ :: _ :: _, _ => exact A.elim
end
end MS

set_option Elab.async false
set_option linter.all false
set_option maxRecDepth 100000
/-! MSJ: fields, dicts, slices, displays. -/
namespace MS
open PySem PySem.Spec PyProof.Rows L2
section
variable {Γ : Run} {X : Cx} {C : Cl} {pos p apos cpos : Pos}
theorem rt_dct {F : Hp} {xs : List (T × T)} {u : V} : RT Γ F (.dct xs) u ↔ ∃ p vs, u = .ref p ∧ F p = some (.dK vs) ∧ RTd Γ F xs vs := by simp only [RT]
theorem rt_ins {F : Hp} {c : Nat} {xs : List (Nat × T)} {u : V} : RT Γ F (.ins c xs) u ↔ ∃ p dx vs, u = .ref p ∧ F p = some (.ins (Γ.cA c) dx vs) ∧ Γ.pl c = true ∧ RTf Γ F xs vs := by simp only [RT]
theorem RVd.of_ts {F : Hp} {ρ : List Addr} : ∀ {xs : List (T × T)} {vs : List (Key × V)}, RTd Γ F xs vs → RVd Γ F ρ (xs.map fun q => (q.1, .t q.2)) vs
  | [], vs, h => by simp only [RTd] at h; rw [h]; exact .nil
  | (k, x) :: xs, vs, h => by
    simp only [RTd] at h
    obtain ⟨k', v, r, e, ek, a, b⟩ := h
    rw [e]
    exact .cons ⟨ek, a⟩ (RVd.of_ts b)
theorem RVf.of_ts {F : Hp} {ρ : List Addr} : ∀ {xs : List (Nat × T)} {vs : List (Str × V)}, RTf Γ F xs vs → RVf Γ F ρ (xs.map fun q => (q.1, .t q.2)) vs
  | [], vs, h => by simp only [RTf] at h; rw [h]; exact .nil
  | (k, x) :: xs, vs, h => by
    simp only [RTf] at h
    obtain ⟨v, r, e, a, b⟩ := h
    rw [e]
    exact .cons ⟨rfl, a⟩ (RVf.of_ts b)
/-! ### keys -/
theorem keyOf_keyT (k : Key) : keyOf (keyT k) = some k := by cases k <;> rfl
theorem keyEq_keyT (a b : Key) : keyEq (keyT a) (keyT b) = decide (a = b) := by
  unfold keyEq
  rw [keyOf_keyT, keyOf_keyT]
  simp
theorem dget_val {F : Hp} {ρ : List Addr} {k : Key} : ∀ {kvs : List (T × Val)} {us : List (Key × V)}, RVd Γ F ρ kvs us → match dget kvs (keyT k) with
    | some v => ∃ u, valV us k = some u ∧ RV Γ F ρ v u
    | none => valV us k = none
  | _, _, .nil => rfl
  | _, _, .cons (a := p) (b := q) r t => by
    obtain ⟨k0, v⟩ := p
    obtain ⟨j, u⟩ := q
    obtain ⟨r1, r2⟩ := r
    have r1 : k0 = keyT j := r1
    subst r1
    by_cases h : j = k
    · subst h
      have e : ∀ l, dget ((keyT j, v) :: l) (keyT j) = some v := fun l => by
        unfold dget
        rw [List.find?_cons]
        simp [keyEq_keyT]
      rw [e]
      exact ⟨u, valV_pos rfl, r2⟩
    · have e : ∀ l, dget ((keyT j, v) :: l) (keyT k) = dget l (keyT k) := fun l => by
        unfold dget
        rw [List.find?_cons]
        simp [keyEq_keyT, h]
      rw [e, valV_neg (p := (j, u)) h]
      exact dget_val t
theorem dput_any {F : Hp} {ρ : List Addr} {k : Key} : ∀ {kvs : List (T × Val)} {us : List (Key × V)}, RVd Γ F ρ kvs us → (kvs.any fun p => keyEq p.1 (keyT k)) = us.any fun q => decide (q.1 = k)
  | _, _, .nil => rfl
  | _, _, .cons (a := p) (b := q) r t => by
    rw [List.any_cons, List.any_cons, dput_any t, r.1, keyEq_keyT]
theorem dput_map {F : Hp} {ρ : List Addr} {k : Key} {v : Val} {u : V} (rv : RV Γ F ρ v u) : ∀ {kvs : List (T × Val)} {us : List (Key × V)}, RVd Γ F ρ kvs us → RVd Γ F ρ (kvs.map fun p => if keyEq p.1 (keyT k) then (p.1, v) else p) (us.map fun q => if q.1 = k then (q.1, u) else q)
  | _, _, .nil => .nil
  | _, _, .cons (a := p) (b := q) r t => by
    rw [List.map_cons, List.map_cons]
    refine .cons ?_ (dput_map rv t)
    rw [r.1, keyEq_keyT]
    by_cases h : q.1 = k
    · rw [if_pos (decide_eq_true h), if_pos h]
      exact ⟨rfl, rv⟩
    · rw [if_neg (by rw [decide_eq_false h]; decide), if_neg h]
      exact r
theorem dput_put {F : Hp} {ρ : List Addr} {k : Key} {v : Val} {u : V} (rv : RV Γ F ρ v u) {kvs : List (T × Val)} {us : List (Key × V)} (r : RVd Γ F ρ kvs us) : RVd Γ F ρ (dput kvs (keyT k) v) (putK us k u) := by
  unfold dput putK
  rw [dput_any r]
  split
  · exact dput_map rv r
  · exact Paired.app r (.cons ⟨rfl, rv⟩ .nil)
theorem After.keyV {β : Type} {s : AS} {Q : β → AS → Hp → Prop} {E' : Ex → AS → Hp → Prop} {v : Val} {u : V} {f : T → MH β} (r : RV Γ s.F s.ρ v u) (h : After Γ s (MH.bind (MS.keyV v) f s.hp) Q E') : ∃ k, u = kV k ∧ After Γ s (f (keyT k) s.hp) Q E' := by
  unfold MS.keyV at h
  split at h
  · rename_i i; exact ⟨.inl i, rv_int.mp r, h⟩
  · rename_i i; exact ⟨.inr i, rv_str.mp r, h⟩
  · exact h.elim
theorem After.dctV {β : Type} {s : AS} {H : Hp} {Q : β → AS → Hp → Prop} {E' : Ex → AS → Hp → Prop} {v : Val} {u : V} {f : List (T × Val) → MH β} (R : Rel Γ s H) (r : RV Γ s.F s.ρ v u) (h : After Γ s (MH.bind (MS.dctV v) f s.hp) Q E') :
    ∃ kvs p us, u = .ref p ∧ H p = some (.dK us) ∧ RVd Γ s.F s.ρ kvs us ∧ After Γ s (f kvs s.hp) Q E' := by
  unfold MS.dctV at h
  cases v with
  | t x =>
    cases x with
    | dct xs =>
      obtain ⟨p, us, e, hF, rs⟩ := rt_dct.mp r
      exact ⟨_, p, us, e, R.fz _ _ hF, RVd.of_ts rs, h⟩
    | _ => exact h.elim
  | ref n =>
    obtain ⟨a, ea, rfl⟩ := r
    dsimp only [MH.bind] at h
    cases ec : s.hp[n]? with
    | none => rw [ec] at h; exact h.elim
    | some ob =>
      rw [ec] at h
      obtain ⟨b, eb, c⟩ := R.cell n _ ec
      rw [ea] at eb; cases eb
      cases ob with
      | dct kvs =>
        obtain ⟨c1, c2, us, c3, c4⟩ := c
        exact ⟨kvs, a, us, rfl, c3, c4, h⟩
      | frz x =>
        cases x with
        | dct xs =>
          obtain ⟨p, us, e, hF, rs⟩ := rt_dct.mp c
          cases e
          exact ⟨_, a, us, rfl, R.fz _ _ hF, RVd.of_ts rs, h⟩
        | _ => exact h.elim
      | _ => exact h.elim
/-- d[k] -/
theorem se_dget {ed ek : Expr} {d k : E} (hu : X.A.units + 1 < cLine) (hd : SE Γ X ed (evE C d)) (hk : SE Γ X ek (evE C k)) (hs : NoSl ek) : SE Γ X (.Subscript ed ek pos) (evE C (.op .idxd [d, k])) := by
  intro W tk
  refine PE.imp (pe_dget hu (hd W tk) (hk W tk) hs) ?_
  rintro σ H Q ⟨loc, s, R, L, A⟩
  rw [evE_op2] at A
  refine ⟨loc, s, R, L, A.bind.imp (fun v s1 H1 x1 R1 A1 u r => ?_) (fun _ _ _ _ _ q => q)⟩
  refine ⟨loc, s1, R1, L.ext x1, A1.bind.imp (fun w s2 H2 x2 R2 A2 u' r' => ?_) (fun _ _ _ _ _ q => q)⟩
  change After Γ s2 (MH.bind (keyV w) (fun k => MH.bind (dctV v) fun kvs => match dget kvs k with | some v => fun h => .ok (nrm v h) h | none => bad) s2.hp) _ _ at A2
  obtain ⟨kk, ek, A2⟩ := A2.keyV r'
  obtain ⟨kvs, p, us, eu, hp, rs, A2⟩ := A2.dctV R2 (r.ext x2)
  have hg := dget_val (k := kk) rs
  cases e : dget kvs (keyT kk) with
  | none => rw [e] at A2; exact A2.elim
  | some x =>
    rw [e] at A2 hg
    obtain ⟨z, hz, rz⟩ := hg
    refine ⟨p, z, eu, ?_, A2 s2 H2 rfl (Ext.refl s2) R2 z (nrm_ok R2 rz)⟩
    rw [ek, ← hz]
    exact DGet.k hp

/-! ### fields -/
theorem fldN_inj0 : ∀ f, f < 20 → ∀ g, g < 20 → fldN g = fldN f → g = f := by decide
theorem fldN_q : ∀ f, f < 20 → ("?" : Str) ≠ fldN f := by decide
theorem fldN_inj {f g : Nat} (hf : f < 20) (e : fldN g = fldN f) : g = f := by
  by_cases hg : g < 20
  · exact fldN_inj0 f hf g hg e
  · exfalso
    have : fldN g = "?" := by
      unfold fldN
      rw [List.getD_eq_getElem?_getD, List.getElem?_eq_none (by show 20 ≤ g; omega)]
      rfl
    rw [this] at e
    exact fldN_q f hf e
theorem look_val {F : Hp} {ρ : List Addr} {f : Nat} (hf : f < 20) : ∀ {fs : List (Nat × Val)} {ns : List (Str × V)}, RVf Γ F ρ fs ns → match fs.lookup f with
    | some v => ∃ u, ns.lookup (fldN f) = some u ∧ RV Γ F ρ v u
    | none => ns.lookup (fldN f) = none
  | _, _, .nil => rfl
  | _, _, .cons (a := p) (b := q) r t => by
    obtain ⟨g, v⟩ := p
    obtain ⟨j, u⟩ := q
    obtain ⟨r1, r2⟩ := r
    have r1 : j = fldN g := r1
    subst r1
    by_cases h : g = f
    · subst h
      rw [List.lookup_cons_self, List.lookup_cons_self]
      exact ⟨u, rfl, r2⟩
    · have h' : ¬ fldN g = fldN f := fun z => h (fldN_inj hf z)
      have e1 : ∀ l, List.lookup f ((g, v) :: l) = List.lookup f l := fun l => by
        rw [List.lookup_cons]
        have : (f == g) = false := by simpa using fun z => h z.symm
        rw [this]
      have e2 : ∀ l, List.lookup (fldN f) ((fldN g, u) :: l) = List.lookup (fldN f) l := fun l => by
        rw [List.lookup_cons]
        have : (fldN f == fldN g) = false := by simpa using fun z => h' z.symm
        rw [this]
      rw [e1, e2]
      exact look_val hf t
theorem lookup_map_t {f : Nat} : ∀ fs : List (Nat × T), (fs.map fun q => (q.1, Val.t q.2)).lookup f = (fs.lookup f).map .t
  | [] => rfl
  | (g, x) :: fs => by
    rw [List.map_cons, List.lookup_cons, List.lookup_cons, lookup_map_t fs]
    cases f == g <;> rfl
/-- an attribute of an instance -/
theorem After.fldV {s : AS} {H : Hp} {Q : Val → AS → Hp → Prop} {E' : Ex → AS → Hp → Prop} {f : Nat} (hf : f < 20) {v : Val} {u : V} (R : Rel Γ s H) (r : RV Γ s.F s.ρ v u) (h : After Γ s (MS.fldV f v s.hp) Q E') :
    ∃ a c dx ns z x, u = .ref a ∧ Γ.pl c = true ∧ H a = some (.ins (Γ.cA c) dx ns) ∧ ns.lookup (fldN f) = some z ∧ RV Γ s.F s.ρ x z ∧ Q x s H := by
  unfold MS.fldV at h
  cases v with
  | t x =>
    cases x with
    | ins c fs =>
      obtain ⟨a, dx, ns, e, hF, pc, rs⟩ := rt_ins.mp r
      have hv := look_val hf (RVf.of_ts (ρ := s.ρ) rs)
      rw [lookup_map_t] at hv
      dsimp only at h
      cases el : fs.lookup f with
      | none => rw [el] at h; exact h.elim
      | some x =>
        rw [el] at h hv
        obtain ⟨z, hz, rz⟩ := hv
        exact ⟨a, c, dx, ns, z, .t x, e, pc, R.fz _ _ hF, hz, rz, h s H rfl (Ext.refl s) R⟩
    | _ => exact h.elim
  | ref n =>
    obtain ⟨a, ea, rfl⟩ := r
    dsimp only at h
    cases ec : s.hp[n]? with
    | none => rw [ec] at h; exact h.elim
    | some ob =>
      rw [ec] at h
      obtain ⟨b, eb, cc⟩ := R.cell n _ ec
      rw [ea] at eb; cases eb
      cases ob with
      | ins c fs =>
        obtain ⟨c1, c2, dx, ns, c3, pc, c4⟩ := cc
        have hv := look_val hf c4
        dsimp only at h
        cases el : fs.lookup f with
        | none => rw [el] at h; exact h.elim
        | some x =>
          rw [el] at h hv
          obtain ⟨z, hz, rz⟩ := hv
          exact ⟨a, c, dx, ns, z, nrm x s.hp, rfl, pc, c3, hz, nrm_ok R rz, h s H rfl (Ext.refl s) R⟩
      | frz x =>
        cases x with
        | ins c fs =>
          obtain ⟨p, dx, ns, e, hF, pc, rs⟩ := rt_ins.mp cc
          cases e
          have hv := look_val hf (RVf.of_ts (ρ := s.ρ) rs)
          rw [lookup_map_t] at hv
          dsimp only at h
          cases el : fs.lookup f with
          | none => rw [el] at h; exact h.elim
          | some x =>
            rw [el] at h hv
            obtain ⟨z, hz, rz⟩ := hv
            exact ⟨a, c, dx, ns, z, .t x, rfl, pc, R.fz _ _ hF, hz, rz, h s H rfl (Ext.refl s) R⟩
        | _ => exact h.elim
      | _ => exact h.elim
theorem se_fld {eo : Expr} {nm : Str} {f : Nat} {o : E} (hn : nm = fldN f) (hf : f < 20) (hK : X.K = Γ.K) (hC : ∀ c, Γ.pl c = true → Cls Γ.K (Γ.cA c)) (hA : ∀ c, Γ.pl c = true → NoAttr Γ.K (Γ.cA c) (fldN f)) (ho : SE Γ X eo (evE C o)) (hb : abB eo = false) : SE Γ X (.Attribute eo nm pos) (evE C (.op (.fld f) [o])) := by
  subst hn
  intro W tk
  refine PE.imp (pe_fld (ho W tk) (base_no hb)) ?_
  rintro σ H Q ⟨loc, s, R, L, A⟩
  rw [evE_op1] at A
  refine ⟨loc, s, R, L, A.bind.imp (fun v s1 H1 x1 R1 A1 u r => ?_) (fun _ _ _ _ _ q => q)⟩
  change After Γ s1 (fldV f v s1.hp) _ _ at A1
  obtain ⟨a, c, dx, ns, z, x, e, pc, hH, hl, rz, q⟩ := A1.fldV hf R1 r
  exact ⟨a, Γ.cA c, dx, ns, z, e, hH, by rw [hK]; exact hC c pc, by rw [hK]; exact hA c pc, hl, q z rz⟩

/-! ### slices -/
theorem RTs.drop {F : Hp} : ∀ {xs : List T} {us : List V} (n : Nat), RTs Γ F xs us → RTs Γ F (xs.drop n) (us.drop n)
  | xs, us, 0, h => h
  | [], us, n + 1, h => by simp only [RTs] at h; rw [h]; simp [RTs]
  | x :: xs, us, n + 1, h => by
    simp only [RTs] at h
    obtain ⟨v, r, e, _, b⟩ := h
    rw [e]
    exact RTs.drop n b
theorem RTs.take {F : Hp} : ∀ {xs : List T} {us : List V} (n : Nat), RTs Γ F xs us → RTs Γ F (xs.take n) (us.take n)
  | xs, us, 0, h => by simp [RTs]
  | [], us, n + 1, h => by simp only [RTs] at h; rw [h]; simp [RTs]
  | x :: xs, us, n + 1, h => by
    simp only [RTs] at h
    obtain ⟨v, r, e, a, b⟩ := h
    rw [e, List.take_succ_cons, List.take_succ_cons]
    simp only [RTs]
    exact ⟨v, _, rfl, a, RTs.take n b⟩
theorem RTs.cut {F : Hp} {xs : List T} {us : List V} {lo hi : Option Int} (h : RTs Γ F xs us) : RTs Γ F (cutL xs lo hi) (cutV us lo hi) := by
  unfold cutL cutV
  rw [RTs.length h]
  exact (h.drop _).take _
def rSlF (K : PySem.W.Frag) : V → Option Int → Option Int → Hp → VK → Prop := fun x lo hi H Q => ∃ a xs, x = .ref a ∧ SqT K H a xs ∧
  (HT.sIx xs.length 0 lo = 0 ∧ HT.sIx xs.length xs.length hi = xs.length → Q (.ref a) H) ∧ (¬ (HT.sIx xs.length 0 lo = 0 ∧ HT.sIx xs.length xs.length hi = xs.length) → ∀ (p : Addr) (o : Obj), H p = none → o.dict = none → Q (.ref p) (upd H p (.frz o (.tup (cutV xs lo hi)))))
theorem sl_tupF : SlR X (rSlF X.K) := by
  intro pins s σ H x v vl vu lo hi sl Q I rx hs pl pu h
  obtain ⟨a, xs, rfl, hx, q1, q2⟩ := h
  cases rx
  obtain ⟨its, r, ht, hz⟩ := I.tuple hx
  have hlen : its.toArray.size = xs.length := by rw [List.size_toArray]; exact r.length.symm
  by_cases hw : HT.sIx xs.length 0 lo = 0 ∧ HT.sIx xs.length xs.length hi = xs.length
  · refine ⟨"tuple", _, PyProof.Rows.slot_tuple_getitem.lookup, ht.typeIs, ?_⟩
    exact getItem_tuple_whole ht hs pl pu (by rw [hlen]; exact hw) ⟨.ref a, H, I, rfl, q1 hw⟩
  · refine ⟨"tuple", _, PyProof.Rows.slot_tuple_getitem.lookup, ht.typeIs, ?_⟩
    refine HT.getItem_tuple_cut ht hs pl pu (by rw [hlen]; exact hw) ?_ (by rw [hlen]; exact hz)
    rw [hlen]
    exact laid_tup I ((r.drop (HT.sIx xs.length 0 lo)).take (HT.sIx xs.length xs.length hi - HT.sIx xs.length 0 lo)) (Nat.le_trans (cutV_length xs lo hi) hz) (q2 hw)
def rSlAll (K : PySem.W.Frag) : V → Option Int → Option Int → Hp → VK → Prop := fun x lo hi H Q => rSlS x lo hi H Q ∨ rSlF K x lo hi H Q ∨ rSlL K x lo hi H Q
theorem sl_all : SlR X (rSlAll X.K) := sl_str.or (sl_tupF.or sl_list)
theorem sIx_full {n : Nat} {lo hi : Option Int} {xs : List T} (hn : xs.length = n) (h : HT.sIx n 0 lo = 0 ∧ HT.sIx n n hi = n) : cutL xs lo hi = xs := by
  unfold cutL
  rw [hn, h.1, h.2, List.drop_zero, Nat.sub_zero, ← hn, List.take_length]
theorem lk_slc (hK : X.K = Γ.K) {s : AS} {H : Hp} {a : Val} {u : V} {lo hi : Option Int} {Q : VK} {E' : Ex → AS → Hp → Prop} (R : Rel Γ s H) (r : RV Γ s.F s.ρ a u) (A : After Γ s (slcM a lo hi s.hp) (fun x s' H' => ∀ z, RV Γ s'.F s'.ρ x z → Q z H') E') : rSlAll X.K u lo hi H Q := by
  rw [hK]
  unfold slcM at A
  split at A
  · split at A
    · rename_i hz
      exact .inl ⟨_, rv_str.mp r, hz, After.ok R A _ (rv_str.mpr rfl)⟩
    · exact A.elim
  · rename_i xs
    obtain ⟨p, us, e, t, rs⟩ := rt_tup.mp r
    refine .inr (.inl ⟨p, us, e, (R.fz.tupF t).sqT, fun h => ?_, fun _ q o hq ho => ?_⟩)
    · rw [sIx_full (RTs.length rs) h] at A
      exact After.ok R A _ (rt_tup.mpr ⟨p, us, rfl, t, rs⟩)
    · exact After.newT R rs.cut ho A q hq
  · obtain ⟨xs, s1, p, us, x1, R1, e, hF, rs, A⟩ := A.lstP R r
    exact .inr (.inr ⟨p, us, e, SqL.of (R1.fz _ _ hF), fun q hq => After.newL R1 rs.cut A q hq⟩)
theorem se_slc00 {ea : Expr} {a : E} (hK : X.K = Γ.K) (ha : SE Γ X ea (evE C a)) : SE Γ X (.Subscript ea (.Slice none none none p) pos) (evE C (.op (.slc false false) [a])) := by
  intro W tk
  refine PE.imp (pe_slice sl_all (ha W tk) po_none po_none) ?_
  rintro σ H Q ⟨loc, s, R, L, A⟩
  rw [evE_op1] at A
  exact ⟨loc, s, R, L, A.bind.imp (fun v s1 H1 x1 R1 A1 u r => lk_slc hK R1 r A1) (fun _ _ _ _ _ q => q)⟩
theorem se_slc10 {ea el : Expr} {a l : E} (hK : X.K = Γ.K) (ha : SE Γ X ea (evE C a)) (hl : SE Γ X el (evE C l)) : SE Γ X (.Subscript ea (.Slice (some el) none none p) pos) (evE C (.op (.slc true false) [a, l])) := by
  intro W tk
  refine PE.imp (pe_slice sl_all (ha W tk) (po_some (hl W tk)) po_none) ?_
  rintro σ H Q ⟨loc, s, R, L, A⟩
  rw [evE_op2] at A
  refine ⟨loc, s, R, L, A.bind.imp (fun v s1 H1 x1 R1 A1 u r => ?_) (fun _ _ _ _ _ q => q)⟩
  refine ⟨loc, s1, R1, L.ext x1, A1.bind.imp (fun w s2 H2 x2 R2 A2 u' r' => ?_) (fun _ _ _ _ _ q => q)⟩
  change After Γ s2 (MH.bind (intV w) (fun i => slcM v (some i) none) s2.hp) _ _ at A2
  obtain ⟨i, _, e, A2⟩ := A2.intV r'
  exact ⟨i, e, lk_slc hK R2 (r.ext x2) A2⟩
theorem se_slc01 {ea el : Expr} {a l : E} (hK : X.K = Γ.K) (ha : SE Γ X ea (evE C a)) (hl : SE Γ X el (evE C l)) : SE Γ X (.Subscript ea (.Slice none (some el) none p) pos) (evE C (.op (.slc false true) [a, l])) := by
  intro W tk
  refine PE.imp (pe_slice sl_all (ha W tk) po_none (po_some (hl W tk))) ?_
  rintro σ H Q ⟨loc, s, R, L, A⟩
  rw [evE_op2] at A
  refine ⟨loc, s, R, L, A.bind.imp (fun v s1 H1 x1 R1 A1 u r => ?_) (fun _ _ _ _ _ q => q)⟩
  refine ⟨loc, s1, R1, L.ext x1, A1.bind.imp (fun w s2 H2 x2 R2 A2 u' r' => ?_) (fun _ _ _ _ _ q => q)⟩
  change After Γ s2 (MH.bind (intV w) (fun i => slcM v none (some i)) s2.hp) _ _ at A2
  obtain ⟨i, _, e, A2⟩ := A2.intV r'
  exact ⟨i, e, lk_slc hK R2 (r.ext x2) A2⟩
theorem se_slc11 {ea el : Expr} {a l : E} {i : Int} {j : Nat} {q : Pos} (hK : X.K = Γ.K) (ha : SE Γ X ea (evE C a)) (hl : SE Γ X el (evE C l)) : SE Γ X (.Subscript ea (.Slice (some el) (some (.Constant (.int i) j q)) none p) pos) (evE C (.op (.slc true true) [a, l, .int i])) := by
  intro W tk
  refine PE.imp (pe_slice sl_all (ha W tk) (po_some (hl W tk)) (po_some pe_int)) ?_
  rintro σ H Q ⟨loc, s, R, L, A⟩
  simp only [evE, evEs, MH.bind_assoc] at A
  refine ⟨loc, s, R, L, A.bind.imp (fun v s1 H1 x1 R1 A1 u r => ?_) (fun _ _ _ _ _ q => q)⟩
  refine ⟨loc, s1, R1, L.ext x1, A1.bind.imp (fun w s2 H2 x2 R2 A2 u' r' => ?_) (fun _ _ _ _ _ q => q)⟩
  change After Γ s2 (MH.bind (intV w) (fun k => slcM v (some k) (some i)) s2.hp) _ _ at A2
  obtain ⟨k, _, e, A2⟩ := A2.intV r'
  exact ⟨k, e, i, rfl, lk_slc hK R2 (r.ext x2) A2⟩
end
end MS

set_option Elab.async false
set_option linter.all false
set_option maxRecDepth 100000
/-! MSK: displays, and, or, not, tests. -/
namespace MS
open PySem PySem.Spec PyProof.Rows L2
section
variable {Γ : Run} {X : Cx} {C : Cl} {pos p apos cpos : Pos}
/-! ### displays -/
def tTupF (t : TA) : TE := fun σ H Q => t σ H fun xs H1 => xs.length ≤ sizeLine ∧ ∀ (p : Addr) (o : Obj), H1 p = none → o.dict = none → Q (.ref p) (upd H1 p (.frz o (.tup xs)))
theorem pe_tupF {x1} {es : List Expr} {t : TA} (h : PA X es t) : PE X (.Tuple es x1 pos) (tTupF t) := by
  refine ⟨fun pins s σ H Q I hq => ?_⟩
  refine wpAny_Tuple_spliced (thn (h.run pos pins s σ H _ I hq) fun us s1 ⟨xs, H1, I1, r, z, q⟩ => ⟨by rw [← r.length]; exact z, ?_⟩)
  exact laid_tup I1 r z q
theorem len_evEs {loc : Loc} : ∀ {ms : List E} {h h' : List Ob} {vs : List Val}, evEs C ms loc h = .ok vs h' → vs.length = ms.length
  | [], h, h', vs, e => by simp only [evEs, pure_eq] at e; unfold MH.pure at e; cases e; rfl
  | m :: ms, h, h', vs, e => by
    simp only [evEs] at e
    unfold MH.bind at e
    cases e1 : evE C m loc h with
    | bad => rw [e1] at e; cases e
    | exc _ _ => rw [e1] at e; cases e
    | ok v h1 =>
      rw [e1] at e
      dsimp only at e
      cases e2 : evEs C ms loc h1 with
      | bad => rw [e2] at e; cases e
      | exc _ _ => rw [e2] at e; cases e
      | ok ws h2 =>
        rw [e2] at e
        cases e
        rw [List.length_cons, List.length_cons, len_evEs e2]
/-- .. with what its items are -/
theorem After.evEs {s : AS} {loc : Loc} {ms : List E} {Q : List Val → AS → Hp → Prop} {E' : Ex → AS → Hp → Prop} (h : After Γ s (MS.evEs C ms loc s.hp) Q E') : After Γ s (MS.evEs C ms loc s.hp) (fun vs s' H' => vs.length = ms.length ∧ Q vs s' H') E' := by
  cases e : MS.evEs C ms loc s.hp with
  | bad => rw [e] at h; exact h
  | exc _ _ => rw [e] at h; exact h
  | ok vs h1 => rw [e] at h; exact fun s' H' a b c => ⟨len_evEs e, h s' H' a b c⟩
theorem se_tup {x1} {es : List Expr} {ms : List E} (ha : SA Γ X es (evEs C ms)) (hl : ms.length ≤ 1000) : SE Γ X (.Tuple es x1 pos) (evE C (.tup ms)) := by
  intro W tk
  refine PE.imp (pe_tupF (ha W tk)) ?_
  rintro σ H Q ⟨loc, s, R, L, A⟩
  simp only [evE] at A
  refine ⟨loc, s, R, L, A.bind.evEs.imp (fun vs s1 H1 x1 R1 A1 us rs => ?_) (fun _ _ _ _ _ q => q)⟩
  obtain ⟨l1, A1⟩ := A1
  obtain ⟨ts, s2, x2, R2, rts, A2⟩ := A1.purs R1 rs
  refine ⟨by rw [← Paired.len rs, l1, sizeLine_eq]; omega, fun q o hq ho => After.newT R2 rts ho A2 q hq⟩
theorem se_lst {es : List Expr} {m : Bool} {ms : List E} (ha : SA Γ X es (evEs C ms)) (hl : ms.length ≤ 1000) : SE Γ X (.List es pos) (evE C (.lst m ms)) := by
  intro W tk
  refine PE.imp (pe_lst (ha W tk)) ?_
  rintro σ H Q ⟨loc, s, R, L, A⟩
  simp only [evE] at A
  refine ⟨loc, s, R, L, A.bind.evEs.imp (fun vs s1 H1 x1 R1 A1 us rs => ?_) (fun _ _ _ _ _ q => q)⟩
  obtain ⟨l1, A1⟩ := A1
  exact ⟨by rw [← Paired.len rs, l1, sizeLine_eq]; omega, fun q hq => After.keep R1 rs A1 q hq⟩

/-! ### and, or, not -/
theorem evAnd_one {e : E} {loc : Loc} : evAnd C [e] loc = evE C e loc := by simp only [evAnd]
theorem evAnd_cons {e e' : E} {es : List E} {loc : Loc} : evAnd C (e :: e' :: es) loc = MH.bind (evE C e loc) fun v => MH.bind (blV v) fun b => if b then evAnd C (e' :: es) loc else bl false := by
  rw [evAnd]
  simp
theorem evOr_one {e : E} {loc : Loc} : evOr C [e] loc = evE C e loc := by simp only [evOr]
theorem evOr_cons {e e' : E} {es : List E} {loc : Loc} : evOr C (e :: e' :: es) loc = MH.bind (evE C e loc) fun v => MH.bind (blV v) fun b => if b then bl true else evOr C (e' :: es) loc := by
  rw [evOr]
  simp
theorem se_one {op} {e : Expr} {m : Loc → MH Val} (h : SE Γ X e m) : SE Γ X (.BoolOp op [e] pos) m := fun W tk => pe_one (h W tk)
theorem se_and_of {e e' : Expr} {es : List Expr} {m m' : Loc → MH Val} (h : SE Γ X e m) (h' : SE Γ X (.BoolOp .And (e' :: es) pos) m') : SE Γ X (.BoolOp .And (e :: e' :: es) pos) (fun loc => MH.bind (m loc) fun v => MH.bind (blV v) fun b => if b then m' loc else bl false) := by
  intro W tk
  refine PE.imp (pe_and (h W tk) (h' W tk)) ?_
  rintro σ H Q ⟨loc, s, R, L, A⟩
  refine ⟨loc, s, R, L, A.bind.imp (fun v s1 H1 x1 R1 A1 u r => ?_) (fun _ _ _ _ _ q => q)⟩
  obtain ⟨b, _, e, A1⟩ := A1.blV r
  refine ⟨b, e, ?_⟩
  cases b with
  | true => exact ⟨loc, s1, R1, L.ext x1, A1⟩
  | false => exact After.ok R1 A1 _ (rv_bl.mpr rfl)
theorem se_or_of {e e' : Expr} {es : List Expr} {m m' : Loc → MH Val} (h : SE Γ X e m) (h' : SE Γ X (.BoolOp .Or (e' :: es) pos) m') : SE Γ X (.BoolOp .Or (e :: e' :: es) pos) (fun loc => MH.bind (m loc) fun v => MH.bind (blV v) fun b => if b then bl true else m' loc) := by
  intro W tk
  refine PE.imp (pe_or (h W tk) (h' W tk)) ?_
  rintro σ H Q ⟨loc, s, R, L, A⟩
  refine ⟨loc, s, R, L, A.bind.imp (fun v s1 H1 x1 R1 A1 u r => ?_) (fun _ _ _ _ _ q => q)⟩
  obtain ⟨b, _, e, A1⟩ := A1.blV r
  refine ⟨b, e, ?_⟩
  cases b with
  | false => exact ⟨loc, s1, R1, L.ext x1, A1⟩
  | true => exact After.ok R1 A1 _ (rv_bl.mpr rfl)
/-- a list of expressions and what they are -/
inductive SEs (Γ : Run) (X : Cx) (C : Cl) : List Expr → List E → Prop where
  | nil : SEs Γ X C [] []
  | cons {e : Expr} {m : E} {es : List Expr} {ms : List E} (h : SE Γ X e (evE C m)) (hs : stB e = false) (t : SEs Γ X C es ms) : SEs Γ X C (e :: es) (m :: ms)
theorem SEs.sa {es : List Expr} {ms : List E} (h : SEs Γ X C es ms) : SA Γ X es (evEs C ms) := by
  induction h with
  | nil => exact sa_nil
  | cons h hs t ih => exact sa_cons h ih hs
theorem se_congr {e : Expr} {m m' : Loc → MH Val} (h : SE Γ X e m) (he : ∀ loc, m' loc = m loc) : SE Γ X e m' := by
  have : m' = m := funext he
  rw [this]; exact h
theorem se_and {es : List Expr} {ms : List E} (h : SEs Γ X C es ms) (h0 : es ≠ []) : SE Γ X (.BoolOp .And es pos) (evE C (.and ms)) := by
  refine se_congr (m := evAnd C ms) ?_ (fun loc => by simp only [evE])
  induction h with
  | nil => exact absurd rfl h0
  | @cons e m es ms h hs t ih =>
    cases t with
    | nil => exact se_congr (se_one h) fun loc => evAnd_one
    | cons h' hs' t' => exact se_congr (se_and_of h (ih (by simp))) fun loc => evAnd_cons
theorem se_or {es : List Expr} {ms : List E} (h : SEs Γ X C es ms) (h0 : es ≠ []) : SE Γ X (.BoolOp .Or es pos) (evE C (.or ms)) := by
  refine se_congr (m := evOr C ms) ?_ (fun loc => by simp only [evE])
  induction h with
  | nil => exact absurd rfl h0
  | @cons e m es ms h hs t ih =>
    cases t with
    | nil => exact se_congr (se_one h) fun loc => evOr_one
    | cons h' hs' t' => exact se_congr (se_or_of h (ih (by simp))) fun loc => evOr_cons
theorem se_not {e : Expr} {m : E} (h : SE Γ X e (evE C m)) : SE Γ X (.UnaryOp .Not e pos) (evE C (.nott m)) := by
  intro W tk
  refine PE.imp (pe_not (h W tk)) ?_
  rintro σ H Q ⟨loc, s, R, L, A⟩
  simp only [evE] at A
  refine ⟨loc, s, R, L, A.bind.imp (fun v s1 H1 x1 R1 A1 u r => ?_) (fun _ _ _ _ _ q => q)⟩
  obtain ⟨b, _, e, A1⟩ := A1.blV r
  exact ⟨b, e, After.ok R1 A1 _ (rv_bl.mpr rfl)⟩
theorem se_ifx {c a b : Expr} {k m n : E} (hc : ST Γ X c (evT C k)) (ha : SE Γ X a (evE C m)) (hb : SE Γ X b (evE C n)) : SE Γ X (.IfExp c a b pos) (evE C (.ifx k m n)) := by
  intro W tk
  refine PE.imp (pe_ifExp (hc W tk) (ha W tk) (hb W tk)) ?_
  rintro σ H Q ⟨loc, s, R, L, A⟩
  simp only [evE] at A
  refine ⟨loc, s, R, L, A.bind.imp (fun d s1 H1 x1 R1 A1 => ?_) (fun _ _ _ _ _ q => q)⟩
  cases d with
  | true => exact ⟨loc, s1, R1, L.ext x1, A1⟩
  | false => exact ⟨loc, s1, R1, L.ext x1, A1⟩
/-! ### chains -/
theorem te_chain {o1 o2 : Op} {r r' : R2} {a b c : E} {W : WX} (l1 : OpLk Γ o1 r) (l2 : OpLk Γ o2 r') {σ : L2.St} {H : Hp} {Q : VK} (h : tE Γ (evE C (.ch o1 o2 a b c)) W σ H Q) : tChain r r' (tE Γ (evE C a) W) (tE Γ (evE C b) W) (tE Γ (evE C c) W) σ H Q := by
  obtain ⟨loc, s, R, L, A⟩ := h
  simp only [evE] at A
  refine ⟨loc, s, R, L, A.bind.imp (fun v s1 H1 x1 R1 A1 u r => ?_) (fun _ _ _ _ _ q => q)⟩
  refine ⟨loc, s1, R1, L.ext x1, A1.bind.imp (fun w s2 H2 x2 R2 A2 u' r' => ?_) (fun _ _ _ _ _ q => q)⟩
  refine l1 s2 H2 v w u u' _ (XW Γ W σ) R2 (r.ext x2) r' (A2.bind.imp (fun x s3 H3 x3 R3 A3 z rz => ?_) (fun _ _ _ _ _ q => q))
  obtain ⟨k, _, e, A3⟩ := A3.blV rz
  refine ⟨k, e, ?_⟩
  cases k with
  | true =>
    refine ⟨loc, s3, R3, ((L.ext x1).ext x2).ext x3, After.imp (After.bind A3) (fun y s4 H4 x4 R4 A4 u2 r2 => ?_) (fun _ _ _ _ _ q => q)⟩
    exact l2 s4 H4 w y u' u2 Q _ R4 ((r'.ext x3).ext x4) r2 A4
  | false => exact After.ok R3 A3 _ (rv_bl.mpr rfl)
theorem se_ch {o1 o2 : Op} {op op' : CmpOp} {r r' : R2} {ea eb ec : Expr} {a b c : E} (h1 : OpR X (compareOp op) r) (h2 : OpR X (compareOp op') r') (l1 : OpLk Γ o1 r) (l2 : OpLk Γ o2 r') (ha : SE Γ X ea (evE C a)) (hb : SE Γ X eb (evE C b)) (hc : SE Γ X ec (evE C c))
    (hm : lastMarks [op, op'] [eb, ec] = false) : SE Γ X (.Compare ea [op, op'] [eb, ec] pos) (evE C (.ch o1 o2 a b c)) :=
  fun W tk => PE.imp (pe_chain h1 h2 (ha W tk) (hb W tk) (hc W tk) hm) fun _ _ _ h => te_chain l1 l2 h

/-! ### tests -/
theorem tru_ok {s : AS} {H : Hp} {v : Val} {u : V} {Q : Bool → AS → Hp → Prop} {E' : Ex → AS → Hp → Prop} (R : Rel Γ s H) (r : RV Γ s.F s.ρ v u) (h : After Γ s (tru v s.hp) Q E') : ∃ k, TruV Γ.K u H k ∧ Q k s H := by
  have go : ∀ {b : Bool}, After Γ s (.ok b s.hp) Q E' → Q b s H := fun h => h s H rfl (Ext.refl s) R
  unfold tru at h
  cases v with
  | t x =>
    cases x with
    | non => rw [rv_non.mp r]; exact ⟨false, rfl, go h⟩
    | bl b => rw [rv_bl.mp r]; exact ⟨b, rfl, go h⟩
    | int i => rw [rv_int.mp r]; exact ⟨_, rfl, go h⟩
    | str z =>
      rw [rv_str.mp r]
      dsimp only at h
      split at h
      · rename_i hz
        refine ⟨_, ⟨hz, rfl⟩, ?_⟩
        have e : (((z.length : Nat) : Int) != 0) = (z.length != 0) := by
          cases z.length <;> rfl
        rw [e]
        exact go h
      · exact h.elim
    | tup xs =>
      obtain ⟨p, us, e, t, rs⟩ := rt_tup.mp r
      rw [e]
      refine ⟨!us.isEmpty, .inr (.inl ⟨us, (R.fz.tupF t).sqT, rfl⟩), ?_⟩
      have : us.isEmpty = xs.isEmpty := by
        have hl := RTs.length rs
        cases xs <;> cases us <;> first | rfl | cases hl
      rw [this]
      exact go h
    | lst xs =>
      obtain ⟨p, us, e, t, rs⟩ := rt_lst.mp r
      rw [e]
      refine ⟨!us.isEmpty, .inl ⟨us, SqL.of (R.fz _ _ t), rfl⟩, ?_⟩
      have : us.isEmpty = xs.isEmpty := by
        have hl := RTs.length rs
        cases xs <;> cases us <;> first | rfl | cases hl
      rw [this]
      exact go h
    | _ => exact h.elim
  | ref n =>
    obtain ⟨a, ea, rfl⟩ := r
    dsimp only at h
    cases ec : s.hp[n]? with
    | none => rw [ec] at h; exact h.elim
    | some ob =>
      rw [ec] at h
      obtain ⟨b, eb, c⟩ := R.cell n _ ec
      rw [ea] at eb; cases eb
      cases ob with
      | lst vs =>
        obtain ⟨c1, c2, us, c3, c4⟩ := c
        refine ⟨!us.isEmpty, .inl ⟨us, SqL.of c3, rfl⟩, ?_⟩
        have : us.isEmpty = vs.isEmpty := by
          have hl := Paired.len c4
          cases vs <;> cases us <;> first | rfl | cases hl
        rw [this]
        exact go h
      | frz x =>
        cases x with
        | lst xs =>
          obtain ⟨p, us, e, t, rs⟩ := rt_lst.mp c
          cases e
          refine ⟨!us.isEmpty, .inl ⟨us, SqL.of (R.fz _ _ t), rfl⟩, ?_⟩
          have : us.isEmpty = xs.isEmpty := by
            have hl := RTs.length rs
            cases xs <;> cases us <;> first | rfl | cases hl
          rw [this]
          exact go h
        | _ => exact h.elim
      | _ => exact h.elim
/-- a plain expression's test is its value's truth -/
theorem st_of {e : Expr} {m : Loc → MH Val} {m' : Loc → MH Bool} (hK : X.K = Γ.K) (h : SE Γ X e m) (hp : tsB e = false) (he : ∀ loc, m' loc = MH.bind (m loc) tru) : ST Γ X e m' := by
  intro W tk
  refine PT.imp (pt_truth (h W tk) fun _ => test_plain hp) ?_
  rintro σ H Q ⟨loc, s, R, L, A⟩
  rw [he] at A
  refine ⟨loc, s, R, L, A.bind.imp (fun v s1 H1 x1 R1 A1 u r => ?_) (fun _ _ _ _ _ q => q)⟩
  obtain ⟨k, t, q⟩ := tru_ok R1 r A1
  exact ⟨k, by rw [hK]; exact t, q⟩
/-- a comparison's test -/
theorem SC.st {e : Expr} {m : Loc → MH Val} {m' : Loc → MH Bool} (h : SC Γ X e m) (he : ∀ loc, m' loc = MH.bind (m loc) blV) : ST Γ X e m' := by
  intro W tk
  obtain ⟨op, a, b, r, ta, tb, pos, rfl, ho, ha, hb, hm, k⟩ := h W tk
  refine PT.imp (pt_cmpS ho ha hb hm) ?_
  rintro σ H Q ⟨loc, s, R, L, A⟩
  rw [he] at A
  refine k σ H _ ⟨loc, s, R, L, A.bind.imp (fun v s1 H1 x1 R1 A1 u r => ?_) (fun _ _ _ _ _ q => q)⟩
  have A2 : After Γ s1 (MH.bind (MS.blV v) MH.pure s1.hp) (fun b s' H' => Q b H') (XW Γ W σ) := by
    have : MH.bind (MS.blV v) MH.pure = MS.blV v := by
      funext h; unfold MH.bind; cases MS.blV v h <;> rfl
    rw [this]; exact A1
  obtain ⟨b, _, e, A2⟩ := A2.blV r
  exact ⟨b, e, After.ok R1 A2⟩
theorem st_congr {e : Expr} {m m' : Loc → MH Bool} (h : ST Γ X e m) (he : ∀ loc, m' loc = m loc) : ST Γ X e m' := by
  have : m' = m := funext he
  rw [this]; exact h
theorem st_not {e : Expr} {m : E} (h : ST Γ X e (evT C m)) : ST Γ X (.UnaryOp .Not e pos) (evT C (.nott m)) := by
  intro W tk
  refine PT.imp (pt_not (h W tk)) ?_
  rintro σ H Q ⟨loc, s, R, L, A⟩
  simp only [evT] at A
  exact ⟨loc, s, R, L, A.bind.imp (fun v s1 H1 x1 R1 A1 => After.ok R1 A1) (fun _ _ _ _ _ q => q)⟩
theorem st_ch {o1 o2 : Op} {op op' : CmpOp} {r r' : R2} {ea eb ec : Expr} {a b c : E} (h1 : OpR X (compareOp op) r) (h2 : OpR X (compareOp op') r') (l1 : OpLk Γ o1 r) (l2 : OpLk Γ o2 r') (ha : SE Γ X ea (evE C a)) (hb : SE Γ X eb (evE C b)) (hc : SE Γ X ec (evE C c))
    (hm : lastMarks [op, op'] [eb, ec] = false) : ST Γ X (.Compare ea [op, op'] [eb, ec] pos) (evT C (.ch o1 o2 a b c)) := by
  intro W tk
  refine PT.imp (pt_chain h1 h2 (ha W tk) (hb W tk) (hc W tk) hm) ?_
  rintro σ H Q ⟨loc, s, R, L, A⟩
  simp only [evT] at A
  refine ⟨loc, s, R, L, A.bind.imp (fun v s1 H1 x1 R1 A1 u r => ?_) (fun _ _ _ _ _ q => q)⟩
  refine ⟨loc, s1, R1, L.ext x1, A1.bind.imp (fun w s2 H2 x2 R2 A2 u' r' => ?_) (fun _ _ _ _ _ q => q)⟩
  refine l1 s2 H2 v w u u' _ (XW Γ W σ) R2 (r.ext x2) r' (A2.bind.imp (fun x s3 H3 x3 R3 A3 z rz => ?_) (fun _ _ _ _ _ q => q))
  obtain ⟨k, _, e, A3⟩ := A3.blV rz
  refine ⟨k, e, ?_⟩
  cases k with
  | true =>
    refine ⟨loc, s3, R3, ((L.ext x1).ext x2).ext x3, After.imp (After.bind A3) (fun y s4 H4 x4 R4 A4 u2 r2 => ?_) (fun _ _ _ _ _ q => q)⟩
    refine l2 s4 H4 w y u' u2 _ (XW Γ W σ) R4 ((r'.ext x3).ext x4) r2 (A4.bind.imp (fun t s5 H5 x5 R5 A5 z rz => ?_) (fun _ _ _ _ _ q => q))
    have A5 : After Γ s5 (MH.bind (MS.blV t) MH.pure s5.hp) (fun b s' H' => Q b H') (XW Γ W σ) := by
      have : MH.bind (MS.blV t) MH.pure = MS.blV t := by
        funext h; unfold MH.bind; cases MS.blV t h <;> rfl
      rw [this]; exact A5
    obtain ⟨k, _, e, A5⟩ := A5.blV rz
    exact ⟨k, e, After.ok R5 A5⟩
  | false => exact ⟨false, rfl, After.ok R3 A3⟩
/-! ### tests with and, or -/
theorem evTand_cons {e : E} {es : List E} {loc : Loc} : evTand C (e :: es) loc = MH.bind (evT C e loc) fun b => if b then evTand C es loc else pure false := by
  simp only [evTand]
theorem evTor_cons {e : E} {es : List E} {loc : Loc} : evTor C (e :: es) loc = MH.bind (evT C e loc) fun b => if b then pure true else evTor C es loc := by
  simp only [evTor]
inductive STs (Γ : Run) (X : Cx) (C : Cl) : List Expr → List E → Prop where
  | nil : STs Γ X C [] []
  | cons {e : Expr} {m : E} {es : List Expr} {ms : List E} (h : ST Γ X e (evT C m)) (t : STs Γ X C es ms) : STs Γ X C (e :: es) (m :: ms)
theorem bind_pure {α : Type} (m : MH α) : MH.bind m (fun b => MH.pure b) = m := by
  funext h
  unfold MH.bind
  cases m h <;> rfl
theorem sw_and {es : List Expr} {ms : List E} (h : STs Γ X C es ms) (h0 : es ≠ []) : SW Γ X (.BoolOp .And es pos) (evTand C ms) := by
  induction h with
  | nil => exact absurd rfl h0
  | @cons e m es ms h t ih =>
    intro W tk
    cases t with
    | nil =>
      refine PW.imp (pw_and1 (h W tk)) ?_
      rintro σ H Q ⟨loc, s, R, L, A⟩
      rw [evTand_cons] at A
      refine ⟨loc, s, R, L, A.bind.imp (fun b s1 H1 x1 R1 A1 => ?_) (fun _ _ _ _ _ q => q)⟩
      cases b with
      | true =>
        simp only [evTand] at A1
        exact After.ok R1 A1
      | false => exact After.ok R1 A1
    | cons h' t' =>
      refine PW.imp (pw_and (h W tk) (ih (by simp) W tk)) ?_
      rintro σ H Q ⟨loc, s, R, L, A⟩
      rw [evTand_cons] at A
      refine ⟨loc, s, R, L, A.bind.imp (fun b s1 H1 x1 R1 A1 => ?_) (fun _ _ _ _ _ q => q)⟩
      cases b with
      | true => exact ⟨loc, s1, R1, L.ext x1, A1⟩
      | false => exact After.ok R1 A1
theorem sw_or {es : List Expr} {ms : List E} (h : STs Γ X C es ms) (h0 : es ≠ []) : SW Γ X (.BoolOp .Or es pos) (evTor C ms) := by
  induction h with
  | nil => exact absurd rfl h0
  | @cons e m es ms h t ih =>
    intro W tk
    cases t with
    | nil =>
      refine PW.imp (pw_or1 (h W tk)) ?_
      rintro σ H Q ⟨loc, s, R, L, A⟩
      rw [evTor_cons] at A
      refine ⟨loc, s, R, L, A.bind.imp (fun b s1 H1 x1 R1 A1 => ?_) (fun _ _ _ _ _ q => q)⟩
      cases b with
      | false =>
        simp only [evTor] at A1
        exact After.ok R1 A1
      | true => exact After.ok R1 A1
    | cons h' t' =>
      refine PW.imp (pw_or (h W tk) (ih (by simp) W tk)) ?_
      rintro σ H Q ⟨loc, s, R, L, A⟩
      rw [evTor_cons] at A
      refine ⟨loc, s, R, L, A.bind.imp (fun b s1 H1 x1 R1 A1 => ?_) (fun _ _ _ _ _ q => q)⟩
      cases b with
      | false => exact ⟨loc, s1, R1, L.ext x1, A1⟩
      | true => exact After.ok R1 A1
theorem st_and {es : List Expr} {ms : List E} (h : STs Γ X C es ms) (h0 : es ≠ []) : ST Γ X (.BoolOp .And es pos) (evT C (.and ms)) := by
  refine st_congr (m := evTand C ms) (fun W tk => (sw_and h h0 W tk).pt) fun loc => by simp only [evT]
theorem st_or {es : List Expr} {ms : List E} (h : STs Γ X C es ms) (h0 : es ≠ []) : ST Γ X (.BoolOp .Or es pos) (evT C (.or ms)) := by
  refine st_congr (m := evTor C ms) (fun W tk => (sw_or h h0 W tk).pt) fun loc => by simp only [evT]
end
end MS

set_option Elab.async false
set_option linter.all false
set_option maxRecDepth 100000
/-! MSL: dict displays, list(range), f-strings. -/
namespace MS
open PySem PySem.Spec PyProof.Rows L2
section
variable {Γ : Run} {X : Cx} {C : Cl} {pos p apos cpos : Pos}
/-! ### f-strings -/
/-- an f-string's part -/
def SF (Γ : Run) (X : Cx) (e : Expr) (m : Loc → MH Str) : Prop := ∀ W, Takes X W → PE X e (fun σ H Q => ∃ loc s, Rel Γ s H ∧ Locs Γ s loc σ ∧ After Γ s (m loc s.hp) (fun v s' H' => Q (.str v) H') (XW Γ W σ))
theorem sf_lit {x : Str} {j : Nat} : SF Γ X (.Constant (.str x) j pos) (evFp C (.lit x)) := by
  intro W tk
  refine PE.imp pe_str ?_
  rintro σ H Q ⟨loc, s, R, L, A⟩
  simp only [evFp] at A
  exact After.ok R A
theorem toString_eq (i : Int) : (Str.ofString (toString i) : Str) = toString i := rfl
theorem sf_val {e : Expr} {m : E} (h : SE Γ X e (evE C m)) : SF Γ X (.FormattedValue e (-1) none pos) (evFp C (.val m)) := by
  intro W tk
  refine PE.imp (pe_fmt (h W tk)) ?_
  rintro σ H Q ⟨loc, s, R, L, A⟩
  simp only [evFp] at A
  refine ⟨loc, s, R, L, A.bind.imp (fun v s1 H1 x1 R1 A1 u r => ?_) (fun _ _ _ _ _ q => q)⟩
  unfold fmtV at A1
  split at A1
  · split at A1
    · rename_i hz
      exact .inl ⟨_, rv_str.mp r, hz, After.ok R1 A1⟩
    · exact A1.elim
  · split at A1
    · rename_i hz
      exact .inr ⟨_, rv_int.mp r, hz, After.ok R1 A1⟩
    · exact A1.elim
  · exact A1.elim
theorem sf_rep {e : Expr} {m : E} (h : SE Γ X e (evE C m)) : SF Γ X (.FormattedValue e 114 none pos) (evFp C (.rep m)) := by
  intro W tk
  refine PE.imp (pe_fmtR (h W tk)) ?_
  rintro σ H Q ⟨loc, s, R, L, A⟩
  simp only [evFp] at A
  refine ⟨loc, s, R, L, A.bind.imp (fun v s1 H1 x1 R1 A1 u r => ?_) (fun _ _ _ _ _ q => q)⟩
  unfold repV at A1
  split at A1
  · split at A1
    · rename_i hz
      exact .inl ⟨_, rv_str.mp r, hz, After.ok R1 A1⟩
    · exact A1.elim
  · split at A1
    · rename_i hz
      exact .inr ⟨_, rv_int.mp r, hz, After.ok R1 A1⟩
    · exact A1.elim
  · exact A1.elim
inductive SFs (Γ : Run) (X : Cx) (C : Cl) : List Expr → List Fp → Prop where
  | nil : SFs Γ X C [] []
  | cons {e : Expr} {m : Fp} {es : List Expr} {ms : List Fp} (h : SF Γ X e (evFp C m)) (t : SFs Γ X C es ms) : SFs Γ X C (e :: es) (m :: ms)
theorem sfs_pj {es : List Expr} {ms : List Fp} (h : SFs Γ X C es ms) {W : WX} (tk : Takes X W) : ∃ ts, PJ X es ts ∧ ∀ acc σ H (Q : Str → Hp → Prop) loc s, Rel Γ s H → Locs Γ s loc σ → After Γ s (evFs C ms loc acc s.hp) (fun v s' H' => Q v H') (XW Γ W σ) → tJs ts acc σ H Q := by
  induction h with
  | nil => exact ⟨[], .nil, fun acc σ H Q loc s R L A => by simp only [evFs] at A; exact After.ok R A⟩
  | @cons e m es ms h t ih =>
    obtain ⟨ts, hp, k⟩ := ih
    refine ⟨_, .cons (h W tk) hp, fun acc σ H Q loc s R L A => ?_⟩
    simp only [evFs] at A
    refine ⟨loc, s, R, L, A.bind.imp (fun v s1 H1 x1 R1 A1 => ?_) (fun _ _ _ _ _ q => q)⟩
    split at A1
    · rename_i hz
      exact ⟨v, rfl, hz, k _ σ H1 Q loc s1 R1 (L.ext x1) A1⟩
    · exact A1.elim
theorem se_fst {v1 v2 : Expr} {rest : List Expr} {ps : List Fp} (h : SFs Γ X C (v1 :: v2 :: rest) ps) : SE Γ X (.JoinedStr (v1 :: v2 :: rest) pos) (evE C (.fst ps)) := by
  intro W tk
  obtain ⟨ts, hp, k⟩ := sfs_pj h tk
  refine PE.imp (pe_joined hp) ?_
  rintro σ H Q ⟨loc, s, R, L, A⟩
  simp only [evE] at A
  refine k Str.empty σ H _ loc s R L (A.bind.imp (fun v s1 H1 x1 R1 A1 => ?_) (fun _ _ _ _ _ q => q))
  exact After.ok R1 A1 _ (rv_str.mpr rfl)

/-! ### list(range(n)) -/
theorem rvs_rng {F : Hp} {ρ : List Addr} (a b : Int) : RVs Γ F ρ ((List.range (b - a).toNat).map fun i => .t (.int (a + (i : Nat)))) (rgV a b) := by
  unfold rgV
  induction List.range (b - a).toNat with
  | nil => exact .nil
  | cons n ns ih => exact .cons (rv_int.mpr rfl) ih
theorem se_lrng {e : Expr} {x : E} {m : Bool} {p2 : Pos} (hc : X.calm = true) (hg : Gl X "list") (hm : X.mg "list" = none) (hg2 : Gl X "range") (hm2 : X.mg "range" = none) (hs : stB e = false) (he : SE Γ X e (evE C x)) :
    SE Γ X (.Call (.Name "list" p) [.Call (.Name "range" p2) [e] [] cpos] [] pos) (evE C (.op (.lrng m) [x])) := by
  intro W tk
  refine PE.imp (pe_listRg hc hg hm (prg_1 hg2 hm2 (he W tk) (star_cons hs)) (star_cons rfl)) ?_
  rintro σ H Q ⟨loc, s, R, L, A⟩
  rw [evE_op1] at A
  refine ⟨loc, s, R, L, A.bind.imp (fun v s1 H1 x1 R1 A1 u r => ?_) (fun _ _ _ _ _ q => q)⟩
  change After Γ s1 (MH.bind (intV v) (fun i => if (decide (-(2 ^ 62) ≤ i) && decide (i < 16777216)) = true then keep m ((List.range i.toNat).map fun k => .t (.int (k : Nat))) else bad) s1.hp) _ _ at A1
  obtain ⟨i, _, e, A1⟩ := A1.intV r
  refine ⟨i, e, ?_⟩
  split at A1
  · rename_i hb
    simp only [Bool.and_eq_true, decide_eq_true_eq] at hb
    refine ⟨⟨by omega, by omega, hb.1, by omega, by omega⟩, fun q hq => After.keep R1 ?_ A1 q hq⟩
    have := rvs_rng (Γ := Γ) (F := s1.F) (ρ := s1.ρ) 0 i
    simpa using this
  · exact A1.elim

/-- s.split(t) -/
theorem rvs_strs {F : Hp} {ρ : List Addr} : ∀ ys : List Str, RVs Γ F ρ (ys.map fun z => .t (.str z)) (ys.map V.str)
  | [] => .nil
  | y :: ys => .cons (rv_str.mpr rfl) (rvs_strs ys)
theorem se_split {eo : Expr} {l : E} {b : Str} {j : Nat} {q apos : Pos} (hl : SE Γ X eo (evE C l)) (hb : abB eo = false) (hline : (apos.endLine == pos.line) = true) : SE Γ X (.Call (.Attribute eo "split" apos) [.Constant (.str b) j q] [] pos) (evE C (.op (.splt b) [l])) := by
  intro W tk
  refine PE.imp (pe_split (hl W tk) pe_str rfl (base_no hb) hline) ?_
  rintro σ H Q ⟨loc, s, R, L, A⟩
  rw [evE_op1] at A
  refine ⟨loc, s, R, L, A.bind.imp (fun v s1 H1 x1 R1 A1 u r => ?_) (fun _ _ _ _ _ q => q)⟩
  change After Γ s1 (MH.bind (strV v) (fun x => if (b.length == 0) = false ∧ x.length + 2 ≤ SL then keep false ((Txt.split x b).map fun z => .t (.str z)) else bad) s1.hp) _ _ at A1
  obtain ⟨i, _, e, A1⟩ := A1.strV r
  refine ⟨⟨i, e⟩, ?_⟩
  split at A1
  · rename_i hz
    exact ⟨i, b, e, rfl, hz.1, hz.2, fun p hp => After.keep R1 (rvs_strs _) A1 p hp⟩
  · exact A1.elim

/-! ### dict displays -/
inductive SPs (Γ : Run) (X : Cx) (C : Cl) : List (Option Expr) → List Expr → List E → Prop where
  | nil : SPs Γ X C [] [] []
  | cons {k v : Expr} {mk mv : E} {ks : List (Option Expr)} {vs : List Expr} {ms : List E} (hk : SE Γ X k (evE C mk)) (hv : SE Γ X v (evE C mv)) (t : SPs Γ X C ks vs ms) : SPs Γ X C (some k :: ks) (v :: vs) (mk :: mv :: ms)
theorem SPs.len {ks : List (Option Expr)} {vs : List Expr} {ms : List E} (h : SPs Γ X C ks vs ms) : ks.all (·.isSome) = true ∧ ks.length = vs.length := by
  induction h with
  | nil => exact ⟨rfl, rfl⟩
  | cons hk hv t ih => exact ⟨by rw [List.all_cons, ih.1]; rfl, by rw [List.length_cons, List.length_cons, ih.2]⟩
theorem sps_pps {ks : List (Option Expr)} {vs : List Expr} {ms : List E} (h : SPs Γ X C ks vs ms) {W : WX} (tk : Takes X W) : ∃ trs, PPs X pos ks vs trs ∧ ∀ (acc : List (T × Val)) (us : List (Key × V)) σ H (Q : List (V × V) → Hp → Prop) loc s, Rel Γ s H → Locs Γ s loc σ → RVd Γ s.F s.ρ acc us →
    After Γ s (evPs C ms loc acc s.hp) (fun acc' s' H' => ∀ more, more.length = ks.length → RVd Γ s'.F s'.ρ acc' (mergeK us more) → Q (more.map fun kv => (kV kv.1, kv.2)) H') (XW Γ W σ) → tPairs trs σ H Q := by
  induction h with
  | nil => exact ⟨[], pps_nil, fun acc us σ H Q loc s R L ra A => by simp only [evPs] at A; exact After.ok R A [] rfl ra⟩
  | @cons k v mk mv ks vs ms hk hv t ih =>
    obtain ⟨trs, hp, kk⟩ := ih
    refine ⟨_, pps_cons (hk W tk) (hv W tk) hp, fun acc us σ H Q loc s R L ra A => ?_⟩
    simp only [evPs] at A
    refine ⟨loc, s, R, L, A.bind.imp (fun a s1 H1 x1 R1 A1 u r => ?_) (fun _ _ _ _ _ q => q)⟩
    obtain ⟨key, ek, A1⟩ := A1.keyV r
    refine ⟨loc, s1, R1, L.ext x1, A1.bind.imp (fun b s2 H2 x2 R2 A2 u2 r2 => ?_) (fun _ _ _ _ _ q => q)⟩
    subst ek
    have ra2 := ra.mono (x1.trans x2).F (x1.trans x2).ρ
    refine kk _ _ σ H2 _ loc s2 R2 ((L.ext x1).ext x2) (dput_put (k := key) r2 ra2) (A2.imp (fun acc' s3 H3 x3 R3 q more hl hr => ?_) (fun _ _ _ _ _ q => q))
    exact q ((key, u2) :: more) (by rw [List.length_cons, List.length_cons, hl]) hr
theorem se_dsp {ks : List (Option Expr)} {vs : List Expr} {ms : List E} {m : Bool} (h : SPs Γ X C ks vs ms) (h0 : ks ≠ []) (h15 : ks.length ≤ 15) : SE Γ X (.Dict ks vs pos) (evE C (.dsp m ms)) := by
  intro W tk
  obtain ⟨trs, hp, kk⟩ := sps_pps (pos := pos) h tk
  refine PE.imp (pe_disp hp h.len.1 h.len.2 h0 h15) ?_
  rintro σ H Q ⟨loc, s, R, L, A⟩
  intro q hq
  simp only [evE] at A
  obtain ⟨f1, f2⟩ := R.free hq
  obtain ⟨R1, x1⟩ := new_cell (ob := .dct []) (o := .dK []) R hq ⟨f1, f2, [], upd_same, .nil⟩
  have A1 : After Γ (s.push q (.dct [])) (MH.bind (evPs C ms loc []) (fun acc => MH.bind (fillD s.hp.length acc) fun _ => if m = true then (MH.pure (Val.ref s.hp.length) : MH Val) else MH.bind (MS.pur (Val.ref s.hp.length)) fun x => MH.pure (Val.t x)) (s.push q (.dct [])).hp) (fun x s' H' => ∀ z, RV Γ s'.F s'.ρ x z → Q z H') (XW Γ W σ) := (show After Γ s _ _ _ from A).from x1
  have eρ : (s.push q (.dct [])).ρ[s.hp.length]? = some q := by
    show (s.ρ ++ [q])[s.hp.length]? = some q
    rw [← R.len, List.getElem?_append_right (Nat.le_refl _), Nat.sub_self]
    rfl
  refine kk [] [] σ _ _ loc _ R1 (L.ext x1) .nil (A1.bind.imp (fun acc s2 H2 x2 R2 A2 more hl ra => ?_) (fun _ _ _ _ _ q => q))
  unfold MH.bind fillD at A2
  have eρ2 := pre_get x2.ρ eρ
  cases ec : s2.hp[s.hp.length]? with
  | none => rw [ec] at A2; exact A2.elim
  | some ob =>
    rw [ec] at A2
    obtain ⟨b, eb, cc⟩ := R2.cell _ _ ec
    rw [eρ2] at eb; cases eb
    cases ob with
    | dct kvs =>
      cases kvs with
      | nil =>
        obtain ⟨c1, c2, us, c3, c4⟩ := cc
        cases c4
        refine ⟨c3, more, rfl, by rw [hl]; exact h15, ?_⟩
        obtain ⟨R3, x3⟩ := wr_cell (ob := .dct acc) (o := .dK (mergeK [] more)) R2 eρ2 c1 c2 ⟨c1, c2, _, upd_same, ra⟩
        have A3 : After Γ (s2.wr s.hp.length (.dct acc)) ((if m = true then (MH.pure (Val.ref s.hp.length) : MH Val) else MH.bind (MS.pur (Val.ref s.hp.length)) fun x => MH.pure (Val.t x)) (s2.wr s.hp.length (.dct acc)).hp) (fun x s' H' => ∀ z, RV Γ s'.F s'.ρ x z → Q z H') (XW Γ W σ) := (show After Γ s2 _ _ _ from A2).from x3
        have rv : RV Γ (s2.wr s.hp.length (.dct acc)).F (s2.wr s.hp.length (.dct acc)).ρ (.ref s.hp.length) (.ref q) := ⟨q, eρ2, rfl⟩
        cases m with
        | true => exact After.ok R3 A3 _ rv
        | false =>
          obtain ⟨x, s4, x4, R4, rx, A4⟩ := After.pur R3 rv A3
          exact After.ok R4 A4 _ rx
      | cons _ _ => exact A2.elim
    | _ => exact A2.elim
end
end MS

set_option Elab.async false
set_option linter.all false
set_option maxRecDepth 100000
/-! MSM: calls of defs and methods. -/
namespace MS
open PySem PySem.Spec PyProof.Rows L2
/-- what stands of the defs: addresses, parameters, the methods' names -/
structure Info where
  ok : Nat → Bool
  fA : Nat → Addr
  fd : Nat → FuncData
  ps : Nat → List Str
  mN : Nat → Str
  sps : Sp → Bool
  pos : Nat → Bool
/-- a def by the interpreter -/
def spM (Γ : Run) (n : Nat) (g : List Val → MH Val) : L2.Sp := fun us H Q E => us.length = n ∧ ∃ vs s, Rel Γ s H ∧ RVs Γ s.F s.ρ vs us ∧ After Γ s (g vs s.hp) (fun v s' H' => ∀ u, RV Γ s'.F s'.ρ v u → Q u H') (fun e _ H' => ∀ cls d, ExR Γ.xA e cls d H' → E cls d H')
/-- a level of calls, at X -/
structure Lev (Γ : Run) (X : Cx) (I : Info) (k : Nat) (g : Nat → List Val → MH Val) : Prop where
  fn : ∀ f, I.ok f = true → FnOk X.prog X.w X.K X.mg X.base (L2.CX X.prog X.w) k (I.fA f) (I.fd f) (I.ps f) (spM Γ (I.ps f).length (g f)) ∧ (I.pos f = true → Binds X.K (I.fd f) (I.ps f) [])
  no : ∀ f, I.ok f = false → ∀ vs h, g f vs h = .bad
  len : ∀ f vs h, g f vs h ≠ .bad → vs.length = (I.ps f).length
def plT (Γ : Run) : Ty → Bool
  | .ins c => Γ.pl c
  | .xo _ => Γ.xv
  | _ => true
/-- a class of exceptions whose instances are values -/
structure XisC (K : PySem.W.Frag) (C : Addr) : Prop where
  cl : (PySem.W.clsIn K C).isSome = true
  xf : XfC K C
  ca : PySem.W.findIn K (.ref C) "__class__" = some (some (.builtin "object.__class__"))
  ob : PySem.W.mroIn K C (.type "object") = some true
  nm : PySem.W.findIn K (.ref C) "name" = some none
def tyVal (cA xA : Nat → Addr) : Ty → Value
  | .non => .type "NoneType"
  | .bl => .type "bool"
  | .int => .type "int"
  | .str => .type "str"
  | .tup => .type "tuple"
  | .lst => .type "list"
  | .dct => .type "dict"
  | .ins c => .ref (cA c)
  | .xo c => .ref (xA c)
/-- the classes of exceptions: by number, those from 500 on are built in -/
def xbN (d : Nat) : String := if d = 501 then "ValueError" else if d = 502 then "LookupError" else if d = 503 then "KeyError" else "IndexError"
def spVal (cA xA : Nat → Addr) : Sp → Value
  | .xc d => if d < 500 then .ref (xA d) else .type (xbN d)
  | .cls d => .ref (cA d)
  | .str => .type "str"
  | .list => .type "list"
  | .tuple => .type "tuple"
  | .int => .type "int"
  | .dict => .type "dict"
def spV (cA xA : Nat → Addr) : Sp → V
  | .xc d => if d < 500 then .ref (xA d) else .ty (xbN d)
  | .cls d => .ref (cA d)
  | .str => .ty "str"
  | .list => .ty "list"
  | .tuple => .ty "tuple"
  | .int => .ty "int"
  | .dict => .ty "dict"
theorem sp_cls (cA xA : Nat → Addr) (s : Sp) : ClsV (spV cA xA s) (spVal cA xA s) := by
  cases s with
  | xc d =>
    show ClsV (if d < 500 then V.ref (xA d) else V.ty (xbN d)) (if d < 500 then Value.ref (xA d) else Value.type (xbN d))
    by_cases h : d < 500
    · rw [if_pos h, if_pos h]; exact .own _
    · rw [if_neg h, if_neg h]; exact .ty _
  | _ => first | exact .ty _ | exact .own _
structure Ctx (Γ : Run) (X : Cx) (C : Cl) (I : Info) (k : Nat) : Prop where
  hK : X.K = Γ.K
  room : Room (k + 1) X.A
  calm : X.calm = true
  fn : Lev Γ X I (k + 1) C.fn
  nw : Lev Γ X I k C.nw
  mth : ∀ c m f, C.mth c m = some f → Meth X.K (Γ.cA c) (I.mN m) (I.fA f)
  mfl : ∀ c m f, C.mth c m = some f → ∀ g, fldN g ≠ I.mN m
  mps : ∀ c m f, C.mth c m = some f → I.pos f = true
  ini : ∀ c f, C.ini c = some f → Mk X.K (Γ.cA c) (I.fA f)
  cls : ∀ c, Γ.pl c = true → Cls X.K (Γ.cA c)
  nf : ∀ c d, Γ.pl c = true → Γ.pl d = true → (d == c || !C.isa d c) = true → PySem.W.notFirst X.K (Γ.cA c) (.ref (Γ.cA d)) = true
  mN0 : I.mN mEq = "__eq__"
  mN1 : I.mN mIn = "__contains__"
  ne : ∀ c, Γ.pl c = true → PySem.W.findIn X.K (.ref (Γ.cA c)) "__ne__" = some (some (.builtin "object.__ne__"))
  kit : ∀ t s, I.sps s = true → plT Γ t = true → PySem.W.kitOne X.K (tyVal Γ.cA Γ.xA t) (spVal Γ.cA Γ.xA s) = some (tyIs C.isa t s)
  ca : ∀ c, Γ.pl c = true → PySem.W.findIn X.K (.ref (Γ.cA c)) "__class__" = some (some (.builtin "object.__class__"))
  cg : PySem.W.specialIn X.K (.builtin "object.__class__") "__get__" = some (some (.builtin "getset_descriptor.__get__"))
  ct : PySem.W.takesIn X.K (.builtin "object.__class__") = some true
  ob : ∀ c, Γ.pl c = true → PySem.W.mroIn X.K (Γ.cA c) (.type "object") = some true
  lv : 1 ≤ k
  inp : ∀ c f, C.ini c = some f → Γ.pl c = true
  xk : Γ.xv = true → ∀ c, XisC X.K (Γ.xA c)

section
variable {Γ : Run} {X : Cx} {C : Cl} {I : Info} {k : Nat} {pos p apos cpos : Pos}
/-! ### a call apart -/
theorem RVs.apart {F : Hp} {ρ ρ' : List Addr} : ∀ {vs : List Val} {us : List V}, vs.all Val.isT = true → RVs Γ F ρ vs us → RVs Γ F ρ' vs us
  | _, _, _, .nil => .nil
  | v :: vs, _, h, .cons r t => by
    rw [List.all_cons, Bool.and_eq_true] at h
    refine .cons ?_ (RVs.apart h.2 t)
    cases v with
    | t x => exact r
    | ref n => exact absurd h.1 (by simp [Val.isT])
open Classical in
noncomputable def AS.away (s : AS) (H : Hp) : AS := ⟨[], s.F, fun p => if s.F p = none ∧ p ∈ s.ρ then H p else s.Fr p, []⟩
def AS.back (s s' : AS) : AS := ⟨s.hp, s'.F, s.Fr, s.ρ⟩
open Classical in
theorem away_rel {s : AS} {H : Hp} (R : Rel Γ s H) : Rel Γ (s.away H) H := by
  refine ⟨R.fz, fun q o e => ?_, fun q o e => ?_, rfl, fun m n a e => ?_, fun n a e => ?_, fun n a e => ?_, fun n ob e => ?_⟩
  · have e : (if s.F q = none ∧ q ∈ s.ρ then H q else s.Fr q) = some o := e
    split at e
    · exact e
    · exact R.fr q o e
  · have e : (if s.F q = none ∧ q ∈ s.ρ then H q else s.Fr q) = some o := e
    split at e
    · rename_i h; exact h.1
    · exact R.dj q o e
  · simp [AS.away] at e
  · simp [AS.away] at e
  · simp [AS.away] at e
  · simp [AS.away] at e
open Classical in
theorem back_rel {s s' : AS} {H H' : Hp} (R : Rel Γ s H) (x : Ext (s.away H) s') (R' : Rel Γ s' H') : Rel Γ (s.back s') H' ∧ Ext s (s.back s') := by
  have fr : ∀ q o, (if s.F q = none ∧ q ∈ s.ρ then H q else s.Fr q) = some o → s'.Fr q = some o := fun q o e => by rw [x.Fr]; exact e
  have frs : ∀ q o, s.Fr q = some o → s'.Fr q = some o := fun q o e => by
    refine fr q o ?_
    split
    · exact R.fr q o e
    · exact e
  have le : Le s.F s'.F := x.F
  have held : ∀ n a, s.ρ[n]? = some a → s.F a = none → ∀ o, H a = some o → s'.Fr a = some o := fun n a ea fa o ho => by
    refine fr a o ?_
    rw [if_pos ⟨fa, List.mem_of_getElem? ea⟩]
    exact ho
  refine ⟨⟨R'.fz, fun q o e => R'.fr q o (frs q o e), fun q o e => R'.dj q o (frs q o e), R.len, R.inj, fun n a e => ?_, R.nf, fun n ob e => ?_⟩, ⟨le, rfl, List.prefix_refl _⟩⟩
  · cases fa : s.F a with
    | some o => rw [R'.fz a o (le a o fa)]; simp
    | none =>
      have ht := R.th n a e
      cases ho : H a with
      | none => exact absurd ho ht
      | some o => rw [R'.fr a o (held n a e fa o ho)]; simp
  · obtain ⟨a, ea, c⟩ := R.cell n ob e
    refine ⟨a, ea, ?_⟩
    cases ob with
    | frz y => exact RT.mono le y _ c
    | lst vs =>
      obtain ⟨c1, c2, us, c3, c4⟩ := c
      have q := held n a ea c1 _ c3
      exact ⟨R'.dj a _ q, c2, us, R'.fr a _ q, c4.mono le (List.prefix_refl _)⟩
    | dct vs =>
      obtain ⟨c1, c2, us, c3, c4⟩ := c
      have q := held n a ea c1 _ c3
      exact ⟨R'.dj a _ q, c2, us, R'.fr a _ q, c4.mono le (List.prefix_refl _)⟩
    | ins m vs =>
      obtain ⟨c1, c2, dx, us, c3, pc, c4⟩ := c
      have q := held n a ea c1 _ c3
      exact ⟨R'.dj a _ q, c2, dx, us, R'.fr a _ q, pc, c4.mono le (List.prefix_refl _)⟩
/-- what a call must be handed -/
theorem sp_of {g : List Val → MH Val} {n : Nat} {raw : Bool} {s : AS} {H : Hp} {vs : List Val} {us : List V} {Q : VK} {E : XK} (hl : us.length = n) (R : Rel Γ s H) (r : RVs Γ s.F s.ρ vs us)
    (A : After Γ s ((if raw = true then g vs else if vs.all Val.isT = true then apart (g vs) else bad) s.hp) (fun v s' H' => ∀ u, RV Γ s'.F s'.ρ v u → Q u H') (fun e _ H' => ∀ cls d, ExR Γ.xA e cls d H' → E cls d H')) : spM Γ n g us H Q E := by
  refine ⟨hl, ?_⟩
  cases raw with
  | true => exact ⟨vs, s, R, r, A⟩
  | false =>
    have A : After Γ s ((if vs.all Val.isT = true then apart (g vs) else bad) s.hp) _ _ := A
    split at A
    · rename_i ht
      refine ⟨vs, s.away H, away_rel R, RVs.apart ht r, ?_⟩
      show After Γ (s.away H) (g vs []) _ _
      unfold apart at A
      cases e : g vs [] with
      | bad => rw [e] at A; exact A.elim
      | exc y h2 =>
        rw [e] at A
        intro s' H' _ x R'
        obtain ⟨R2, x2⟩ := back_rel R x R'
        exact A (s.back s') H' rfl x2 R2
      | ok v h2 =>
        rw [e] at A
        cases v with
        | ref m => exact A.elim
        | t y =>
          intro s' H' _ x R' u ru
          obtain ⟨R2, x2⟩ := back_rel R x R'
          exact A (s.back s') H' rfl x2 R2 u ru
    · exact A.elim

theorem Lev.not_bad {g : Nat → List Val → MH Val} (L : Lev Γ X I k g) {f : Nat} {raw : Bool} {s : AS} {vs : List Val} {Q : Val → AS → Hp → Prop} {E : Ex → AS → Hp → Prop} (A : After Γ s ((if raw = true then g f vs else if vs.all Val.isT = true then apart (g f vs) else bad) s.hp) Q E) : I.ok f = true ∧ vs.length = (I.ps f).length := by
  have key : ∃ h, g f vs h ≠ .bad := by
    cases raw with
    | true => exact ⟨s.hp, fun z => by rw [if_pos rfl, z] at A; exact A⟩
    | false =>
      rw [if_neg (by simp)] at A
      split at A
      · refine ⟨[], fun z => ?_⟩
        unfold apart at A
        rw [z] at A
        exact A
      · exact A.elim
  obtain ⟨h, hb⟩ := key
  refine ⟨?_, L.len f vs h hb⟩
  cases e : I.ok f with
  | true => rfl
  | false => exact absurd (L.no f e vs h) hb
/-- a call of a def, its arguments there -/
theorem Lev.run {g : Nat → List Val → MH Val} (L : Lev Γ X I k g) (hr : Room k X.A) {W : WX} (tk : Takes X W) {f : Nat} (hp : I.pos f = true) {raw : Bool} {s : AS} {H : Hp} {vs : List Val} {us : List V} {uv : List Value} {Q : VK} {σ : L2.St} {pins : List (Addr × Obj)} {S : Shared} (J : Inv X pins σ H S) (rv : Vals us uv) (R : Rel Γ s H) (r : RVs Γ s.F s.ρ vs us)
    (A : After Γ s ((if raw = true then g f vs else if vs.all Val.isT = true then apart (g f vs) else bad) s.hp) (fun v s' H' => ∀ u, RV Γ s'.F s'.ρ v u → Q u H') (XW Γ W σ)) : wpAny (model X.prog X.w) X.A (call (.ref (I.fA f)) uv) (EP X pins σ Q) X.xe S := by
  obtain ⟨h1, h2⟩ := L.not_bad A
  obtain ⟨F, B⟩ := L.fn f h1
  have B := B hp
  refine run_fnSD (ds := []) (dvs := []) (E := WE W) F hr B .nil (passAt tk σ) J rv ?_
  rw [List.append_nil]
  exact sp_of (by rw [← Paired.len r]; exact h2) R r A
end
end MS

set_option Elab.async false
set_option linter.all false
set_option maxRecDepth 100000
/-! MSN: calls as expressions. -/
namespace MS
open PySem PySem.Spec PyProof.Rows L2
section
variable {Γ : Run} {X : Cx} {C : Cl} {I : Info} {k : Nat} {pos p apos cpos : Pos}
/-- o.m(..): the object first, what is asked of it, then the arguments -/
theorem wp_meth {prog : Program} {w : World} {A : Around} {E : Value → Shared → Prop} {s : Shared} {env : Env} {o : Expr} {name : Str} {apos pos : Pos} {args : List Expr} {Q : Value → Shared → Prop}
    (hbase : attributeBase o name env (eval o env) = eval o env)
    (hfew : ((backTo pos (starEach args env)).all (fun x => !x.1) && (backToKw pos (keywordEach [] env)).all (fun x => x.1.isSome)
      && decide (args.length + ([] : List Keyword).length + (if ([] : List Keyword).isEmpty then 0 else 1) < 30)) = true)
    (hline : (apos.endLine == pos.line) = true)
    (h : wpAny (model prog w) A (eval o env) (fun ov s₁ => ∀ pl, wpAny (model prog w) A (getMethod ov name pl) (fun fx s₂ => wpAny (model prog w) A (callWith pos fx.1 fx.2 (backTo pos (starEach args env)) []) Q E s₂) E s₁) E s) :
    wpAny (model prog w) A (eval (.Call (.Attribute o name apos) args [] pos) env) Q E s := by
  rw [arm_eval_Call, hbase]
  refine wpAny_bind (wpAny_mono h (fun ov s₁ h₁ => ?_) fun _ _ e => e)
  refine wpAny_bind (wpAny_standAt ?_)
  have hform : methodCallForm (args.length + ([] : List Keyword).length) (backTo pos (starEach args env)) (backToKw pos (keywordEach [] env)) = true := hfew
  have hpos : methodCallPos true o env apos pos = pure pos := by unfold methodCallPos; simp [hline]
  unfold methodCall
  rw [hform]
  refine wpAny_bind (wpAny_holding (wpAny_mono (h₁ _) (fun fx s₂ h₂ => ?_) fun _ _ e => e))
  exact wpAny_bind (wpAny_of_eq hpos h₂)
theorem look_none {F : Hp} {ρ : List Addr} {nm : Str} (hn : ∀ g, fldN g ≠ nm) : ∀ {fs : List (Nat × Val)} {ns : List (Str × V)}, RVf Γ F ρ fs ns → ns.lookup nm = none
  | _, _, .nil => rfl
  | _, _, .cons (a := p) (b := q) r t => by
    obtain ⟨j, u⟩ := q
    have r1 : j = fldN p.1 := r.1
    rw [List.lookup_cons]
    have : (nm == j) = false := by
      rw [r1]
      simpa using fun z => hn p.1 z.symm
    rw [this]
    exact look_none hn t
/-- the class of an instance -/
theorem After.clsV {β : Type} {s : AS} {H : Hp} {Q : β → AS → Hp → Prop} {E' : Ex → AS → Hp → Prop} {v : Val} {u : V} {f : Nat → MH β} (R : Rel Γ s H) (r : RV Γ s.F s.ρ v u) (h : After Γ s (MH.bind (MS.clsV v) f s.hp) Q E') :
    ∃ a c dx ns fs, u = .ref a ∧ Γ.pl c = true ∧ H a = some (.ins (Γ.cA c) dx ns) ∧ RVf Γ s.F s.ρ fs ns ∧ After Γ s (f c s.hp) Q E' := by
  unfold MS.clsV at h
  cases v with
  | t x =>
    cases x with
    | ins c fs =>
      obtain ⟨a, dx, ns, e, hF, pc, rs⟩ := rt_ins.mp r
      exact ⟨a, c, dx, ns, _, e, pc, R.fz _ _ hF, RVf.of_ts rs, h⟩
    | _ => exact h.elim
  | ref n =>
    obtain ⟨a, ea, rfl⟩ := r
    dsimp only [MH.bind] at h
    cases ec : s.hp[n]? with
    | none => rw [ec] at h; exact h.elim
    | some ob =>
      rw [ec] at h
      obtain ⟨b, eb, cc⟩ := R.cell n _ ec
      rw [ea] at eb; cases eb
      cases ob with
      | ins c fs =>
        obtain ⟨c1, c2, dx, ns, c3, pc, c4⟩ := cc
        exact ⟨a, c, dx, ns, fs, rfl, pc, c3, c4, h⟩
      | frz x =>
        cases x with
        | ins c fs =>
          obtain ⟨q, dx, ns, e, hF, pc, rs⟩ := rt_ins.mp cc
          cases e
          exact ⟨a, c, dx, ns, _, rfl, pc, R.fz _ _ hF, RVf.of_ts rs, h⟩
        | _ => exact h.elim
      | _ => exact h.elim
theorem Ctx.room' (T : Ctx Γ X C I k) : Room k X.A := T.room.mono (Nat.le_succ k)
/-- f(e, ..) -/
theorem se_call {x : Str} {f : Nat} {raw : Bool} {e : Expr} {es : List Expr} {ms : List E} (T : Ctx Γ X C I k) (hp : I.pos f = true) (hg : Gl X x) (hm : X.mg x = some (.ref (I.fA f))) (hk : PySem.W.keepIn X.K (.ref (I.fA f)) = true)
    (ha : SA Γ X (e :: es) (evEs C ms)) (hst : (e :: es).any stB = false) (hdb : (x == ("__debug__" : Str)) = false) : SE Γ X (.Call (.Name x p) (e :: es) [] pos) (evE C (.call raw f ms)) := by
  rw [List.any_cons, Bool.or_eq_false_iff] at hst
  intro W tk
  refine ⟨fun pins S σ H Q J h => ?_⟩
  obtain ⟨loc, s, R, L, A⟩ := h
  simp only [evE] at A
  refine wpAny_Call_Name_kw (ld_glob J hg hm ?_ hdb)
  refine PySem.W.callWith_K (h₀ := X.base) J.ok.mod.kin hk (thn ((ha W tk).run pos pins S σ H (fun us H1 => ∃ vs s1, Rel Γ s1 H1 ∧ RVs Γ s1.F s1.ρ vs us ∧ After Γ s1 (callM C raw f vs s1.hp) (fun v s' H' => ∀ u, RV Γ s'.F s'.ρ v u → Q u H') (XW Γ W σ)) J
    ⟨loc, s, R, L, A.bind.imp (fun vs s1 H1 x1 R1 A1 us rs => ⟨vs, s1, R1, rs, A1⟩) (fun _ _ _ _ _ q => q)⟩) fun us s1 ⟨vs, H1, I1, r, ws, t1, R1, rs, A1⟩ => ⟨I1.kIn, ?_⟩) (star_cons hst.1) (spl_plain hst.2)
  exact T.fn.run T.room tk hp I1 r R1 rs A1
theorem se_call0 {x : Str} {f : Nat} {raw : Bool} (T : Ctx Γ X C I k) (hp : I.pos f = true) (hg : Gl X x) (hm : X.mg x = some (.ref (I.fA f))) (hk : PySem.W.keepIn X.K (.ref (I.fA f)) = true)
    (hdb : (x == ("__debug__" : Str)) = false) : SE Γ X (.Call (.Name x p) [] [] pos) (evE C (.call raw f [])) := by
  intro W tk
  refine ⟨fun pins S σ H Q J h => ?_⟩
  obtain ⟨loc, s, R, L, A⟩ := h
  simp only [evE, evEs, pure_eq, MH.pure_bind] at A
  refine wpAny_Call_Name_kw (ld_glob J hg hm ?_ hdb)
  exact PySem.W.callWith_K0 J.kIn hk (T.fn.run (us := []) T.room tk hp J .nil R .nil A)
/-- o.m(e, ..) -/
theorem evE_meth {raw : Bool} {o : E} {m : Nat} {es : List E} {loc : Loc} : evE C (.meth raw o m es) loc = MH.bind (evE C o loc) fun v => MH.bind (clsV v) fun c => match C.mth c m with
    | some f => MH.bind (evEs C es loc) fun vs => callM C raw f (v :: vs)
    | none => bad := by simp only [evE] <;> rfl
theorem se_meth {nm : Str} {m : Nat} {raw : Bool} {eo e : Expr} {es : List Expr} {o : E} {ms : List E} (T : Ctx Γ X C I k) (hn : nm = I.mN m) (ho : SE Γ X eo (evE C o)) (ha : SA Γ X (e :: es) (evEs C ms)) (hb : abB eo = false) (hst : (e :: es).any stB = false) (hlen : (e :: es).length < 20)
    (hline : (apos.endLine == cpos.line) = true) : SE Γ X (.Call (.Attribute eo nm apos) (e :: es) [] cpos) (evE C (.meth raw o m ms)) := by
  subst hn
  have h1 : stB e = false ∧ es.any stB = false := by rw [List.any_cons, Bool.or_eq_false_iff] at hst; exact hst
  intro W tk
  refine ⟨fun pins S σ H Q J h => ?_⟩
  obtain ⟨loc, s, R, L, A⟩ := h
  rw [evE_meth] at A
  refine wp_meth (base_no hb) (few_plain hst hlen) hline (thn ((ho W tk).run pins S σ H (fun u H1 => ∃ v s1, Rel Γ s1 H1 ∧ Ext s s1 ∧ RV Γ s1.F s1.ρ v u ∧ After Γ s1 (MH.bind (MS.clsV v) (fun c => match C.mth c m with
    | some f => MH.bind (evEs C ms loc) fun vs => callM C raw f (v :: vs)
    | none => bad) s1.hp) (fun v s' H' => ∀ u, RV Γ s'.F s'.ρ v u → Q u H') (XW Γ W σ)) J
    ⟨loc, s, R, L, A.bind.imp (fun v s1 H1 x1 R1 A1 u r => ⟨v, s1, R1, x1, r, A1⟩) (fun _ _ _ _ _ q => q)⟩) fun ov S1 hov => ?_)
  obtain ⟨u, H1, J1, ru, v, s1, R1, x1, r, A1⟩ := hov
  intro pl
  obtain ⟨a, c, dx, ns, fs, eu, pc, hH, hf, A2⟩ := After.clsV R1 r A1
  subst eu
  cases (show ov = Value.ref a from ru)
  cases hm : C.mth c m with
  | none => rw [hm] at A2; exact A2.elim
  | some f =>
    rw [hm] at A2
    refine getmeth_ok J1 hH (T.cls c pc) (T.mth c m f hm) (look_none (T.mfl c m f hm) hf) ?_
    refine PySem.W.callWith_K (first := [.ref a]) (h₀ := X.base) J1.ok.mod.kin (T.mth c m f hm).kp (thn ((ha W tk).run cpos pins S1 σ H1 (fun us H2 => ∃ vs s2, Rel Γ s2 H2 ∧ RV Γ s2.F s2.ρ v (.ref a) ∧ RVs Γ s2.F s2.ρ vs us ∧ After Γ s2 (callM C raw f (v :: vs) s2.hp) (fun v s' H' => ∀ u, RV Γ s'.F s'.ρ v u → Q u H') (XW Γ W σ)) J1
      ⟨loc, s1, R1, L.ext x1, A2.bind.imp (fun vs s2 H2 x2 R2 A3 us rs => ⟨vs, s2, R2, r.ext x2, rs, A3⟩) (fun _ _ _ _ _ q => q)⟩) fun us' S2 ⟨us, H2, I2, rw2, vs, s2, R2, r2, rs, A3⟩ => ⟨I2.kIn, ?_⟩) (star_cons h1.1) (spl_plain h1.2)
    exact T.fn.run (us := V.ref a :: us) (uv := Value.ref a :: us') T.room tk (T.mps c m f hm) I2 (.cons rfl rw2) R2 (.cons r2 rs) A3
theorem se_meth0 {nm : Str} {m : Nat} {raw : Bool} {eo : Expr} {o : E} (T : Ctx Γ X C I k) (hn : nm = I.mN m) (ho : SE Γ X eo (evE C o)) (hb : abB eo = false)
    (hline : (apos.endLine == cpos.line) = true) : SE Γ X (.Call (.Attribute eo nm apos) [] [] cpos) (evE C (.meth raw o m [])) := by
  subst hn
  intro W tk
  refine ⟨fun pins S σ H Q J h => ?_⟩
  obtain ⟨loc, s, R, L, A⟩ := h
  rw [evE_meth] at A
  refine wp_meth (base_no hb) (by rfl) hline (thn ((ho W tk).run pins S σ H (fun u H1 => ∃ v s1, Rel Γ s1 H1 ∧ Ext s s1 ∧ RV Γ s1.F s1.ρ v u ∧ After Γ s1 (MH.bind (MS.clsV v) (fun c => match C.mth c m with
    | some f => MH.bind (evEs C [] loc) fun vs => callM C raw f (v :: vs)
    | none => bad) s1.hp) (fun v s' H' => ∀ u, RV Γ s'.F s'.ρ v u → Q u H') (XW Γ W σ)) J
    ⟨loc, s, R, L, A.bind.imp (fun v s1 H1 x1 R1 A1 u r => ⟨v, s1, R1, x1, r, A1⟩) (fun _ _ _ _ _ q => q)⟩) fun ov S1 hov => ?_)
  obtain ⟨u, H1, J1, ru, v, s1, R1, x1, r, A1⟩ := hov
  intro pl
  obtain ⟨a, c, dx, ns, fs, eu, pc, hH, hf, A2⟩ := After.clsV R1 r A1
  subst eu
  cases (show ov = Value.ref a from ru)
  cases hm : C.mth c m with
  | none => rw [hm] at A2; exact A2.elim
  | some f =>
    rw [hm] at A2
    simp only [evEs, pure_eq, MH.pure_bind] at A2
    refine getmeth_ok J1 hH (T.cls c pc) (T.mth c m f hm) (look_none (T.mfl c m f hm) hf) ?_
    exact PySem.W.callWith_K0 (first := [.ref a]) J1.kIn (T.mth c m f hm).kp (T.fn.run (us := [V.ref a]) (uv := [Value.ref a]) T.room tk (T.mps c m f hm) J1 (.cons rfl .nil) R1 (.cons r .nil) A2)
end
end MS

set_option Elab.async false
set_option linter.all false
set_option maxRecDepth 100000
/-! MSNe: != by the own ==. -/
namespace PySem.W
open PySem PySem.Calls PyProof.Rows Builtin
section
variable {prog : Program} {w : World} {A : Around} {E : Value → Shared → Prop} {s : Shared} {K : Frag} {x C f : Addr} {ox : Obj} {od : Option Obj} {name : Str} {b tb : Value}
theorem ifBound_B {M : Model} {id : String} {B : String} {args : List Value} {Q : Option Value → Shared → Prop} (X : K.In s.heap) (I : InstAt s.heap x ox C od) (hs : findIn K (.ref C) name = some (some (.builtin id))) (S : Slot B name id)
    (h : wpAny M A (call (.builtin id) (.ref x :: args)) (fun v => Q (some v)) E s) : wpAny M A (callSpecialIfBound? (.ref x) name args) Q E s := by
  simp only [callSpecialIfBound?, bindSpecialIfBound?]
  refine wpAny_holding (wpAny_bind (wpAny_bind (wpAny_bind (I.type.here ((looks_findIn X hs).here ?_)))))
  simp only [S.bind]
  refine wpAny_bind (wpAny_askSetting (wpAny_ite ?_))
  have fin : wpAny M A (call (.builtin id) ([.ref x] ++ args) >>= fun v => pure (some v)) Q E s := wpAny_bind (wpAny_mono h (fun v s' h' => wpAny_pure h') fun _ _ h' => h')
  split
  · exact wpAny_bind (wpAny_pure (wpAny_pure fin))
  · exact wpAny_tryCatch (wpAny_bind (wpAny_pure (wpAny_pure fin)))
theorem objNe_K {Q : Fin → Shared → Prop} (hu : A.units < cLine) (X : K.In s.heap) (I : InstAt s.heap x ox C od) (hs : findIn K (.ref C) "__eq__" = some (some (.ref f))) (hf : isFn K (.ref f) = true)
    (hcall : wpAny (model prog w) A (call (.ref f) [.ref x, b]) (fun v s' => ∃ b, v = .bool b ∧ Q (.done (.ret (.bool (!b)))) s') E s) :
    wpAny (model prog w) A (Builtin.«object.__ne__» ⟨[.ref x, b], []⟩) Q E s := by
  unfold Builtin.«object.__ne__»
  repeat (first
    | with_reducible refine wpAny_cRoomFor hu ?_
    | (refine wpAny_bind (m := callSpecialIfBound? (.ref x) (Str.ofString "__eq__") [b])
        (ifBound_K X I hs hf (wpAny_mono hcall (fun r s' hr => by
          obtain ⟨b, rfl, hq⟩ := hr
          repeat (first | exact hq | exact wpAny_pure hq | exact wpAny_truthy_bool hq | (refine wpAny_bind (m := truthy (.bool _)) (wpAny_truthy_bool ?_)) | wp_step)) fun _ _ e => e)))
    | wp_step)
theorem ne_K {Q : Value → Shared → Prop} (hu : A.units + 1 < cLine) (X : K.In s.heap) (I : InstAt s.heap x ox C od) (hb : Looks (model prog w) s.heap (typeOf b) tb) (hn : notFirst K C tb = true) (hne : findIn K (.ref C) "__ne__" = some (some (.builtin "object.__ne__")))
    (ho : mroIn K C (.type "object") = some true) (hs : findIn K (.ref C) "__eq__" = some (some (.ref f))) (hf : isFn K (.ref f) = true)
    (h : wpAny (model prog w) A.in1 (call (.ref f) [.ref x, b]) (fun v s' => ∃ b, v = .bool b ∧ Q (.bool (!b)) s') E s) : wpAny (model prog w) A (richCompare .NotEq (.ref x) b) Q E s := by
  have inst : Looks (model prog w) s.heap (isInstance (.ref x) (.type "object")) true := I.type.andThen (looks_mroIn X ho)
  have one : wpAny (model prog w) A (tryCompare (.ref x) "__ne__" b) (fun r s' => ∃ v, r = some v ∧ Q v s') E s := by
    unfold tryCompare
    refine wpAny_bind (ifBound_B X I hne F.cmp_object.ne (wpAny_call (codeAny_call_builtin F.cmp_object.ne.plain F.cmpEntry_ne
      (check_slot F.cmpKind_ne F.cmpSplit_ne inst (F.cmpArgs_ne _ _) (objNe_K (A := A.in1) hu X I hs hf (wpAny_mono h (fun v s' hv => ?_) fun _ _ e => e))))))
    obtain ⟨b, rfl, hq⟩ := hv
    refine ⟨b, rfl, ?_⟩
    first | exact wpAny_pure ⟨_, rfl, hq⟩ | exact ⟨_, rfl, hq⟩
  unfold richCompare
  simp only [oneThing_ref]
  refine wpAny_holding (wpAny_bind (wpAny_cRoomFor (Nat.lt_of_succ_lt hu) ?_))
  refine wpAny_bind (I.type.here (wpAny_bind (hb.here ?_)))
  split
  · rename_i q
    have e : subIn K tb (.ref C) = some false := by
      rcases Bool.or_eq_true_iff.mp hn with e | e
      · rw [beq_iff_eq.mp e] at q; simp at q
      · exact beq_iff_eq.mp e
    refine wpAny_bind ((looks_subIn X e).here ?_)
    simp only [Bool.false_eq_true, if_false]
    refine wpAny_bind (wpAny_mono one (fun r s' z => ?_) fun _ _ e => e)
    obtain ⟨v, rfl, hq⟩ := z
    exact wpAny_pure hq
  · refine wpAny_bind (wpAny_pure ?_)
    simp only [Bool.false_eq_true, if_false]
    refine wpAny_bind (wpAny_mono one (fun r s' z => ?_) fun _ _ e => e)
    obtain ⟨v, rfl, hq⟩ := z
    exact wpAny_pure hq
end
end PySem.W

set_option Elab.async false
set_option linter.all false
set_option maxRecDepth 100000
/-! MSO: ==, !=, in, not in. -/
namespace MS
open PySem PySem.Spec PyProof.Rows L2
section
variable {Γ : Run} {X : Cx} {C : Cl} {I : Info} {k : Nat} {pos p apos cpos : Pos}
/-- two values, by the interpreter's f -/
def rM (Γ : Run) (W : WX) (f : Val → Val → MH Val) : L2.St → R2 := fun σ x y H Q => ∃ s v w, Rel Γ s H ∧ RV Γ s.F s.ρ v x ∧ RV Γ s.F s.ρ w y ∧ After Γ s (f v w s.hp) (fun z s' H' => ∀ u, RV Γ s'.F s'.ρ z u → Q u H') (XW Γ W σ)
theorem sc_of {op : CmpOp} {ea eb : Expr} {a b m : E} {f : Val → Val → MH Val} (ho : ∀ W, Takes X W → OpS X (compareOp op) (rM Γ W f)) (hm : ∀ loc, evE C m loc = MH.bind (evE C a loc) fun v => MH.bind (evE C b loc) fun w => f v w) (ha : SE Γ X ea (evE C a)) (hb : SE Γ X eb (evE C b)) (hs : behindInMarks op eb = false) :
    SC Γ X (.Compare ea [op] [eb] pos) (evE C m) := by
  refine fun W tk => ⟨op, ea, eb, rM Γ W f, _, _, pos, rfl, ho W tk, ha W tk, hb W tk, hs, fun σ H Q h => ?_⟩
  obtain ⟨loc, s, R, L, A⟩ := h
  rw [hm] at A
  refine ⟨loc, s, R, L, A.bind.imp (fun v s1 H1 x1 R1 A1 u r => ?_) (fun _ _ _ _ _ q => q)⟩
  refine ⟨loc, s1, R1, L.ext x1, A1.bind.imp (fun w s2 H2 x2 R2 A2 u' r' => ?_) (fun _ _ _ _ _ q => q)⟩
  exact ⟨s2, v, w, R2, r.ext x2, r', A2⟩
theorem scal2_ok {F : Hp} {ρ : List Addr} {v w : Val} {x y : V} {b : Bool} (r : RV Γ F ρ v x) (r' : RV Γ F ρ w y) (h : scal2 v w = some b) : scal x y = true ∧ decide (x = y) = b := by
  unfold scal2 at h
  split at h
  · rename_i a c
    split at h
    · split at h
      all_goals first
        | (rw [rv_non.mp r, rv_non.mp r']; cases h; exact ⟨rfl, by simp⟩)
        | (rw [rv_bl.mp r, rv_bl.mp r']; cases h; exact ⟨rfl, by simp⟩)
        | (rw [rv_int.mp r, rv_int.mp r']; cases h; exact ⟨rfl, by simp⟩)
        | (rw [rv_str.mp r, rv_str.mp r']; cases h; exact ⟨rfl, by simp⟩)
        | (rw [rv_int.mp r, rv_str.mp r']; cases h; exact ⟨rfl, by simp⟩)
        | (rw [rv_str.mp r, rv_int.mp r']; cases h; exact ⟨rfl, by simp⟩)
        | (rw [rv_bl.mp r, rv_str.mp r']; cases h; exact ⟨rfl, by simp⟩)
        | (rw [rv_str.mp r, rv_bl.mp r']; cases h; exact ⟨rfl, by simp⟩)
        | cases h
        | skip
      · rename_i hs hx
        rw [rv_non.mp r]
        cases c with
        | non => exact (hx rfl).elim
        | bl z => rw [rv_bl.mp r']; exact ⟨rfl, by simp⟩
        | int z => rw [rv_int.mp r']; exact ⟨rfl, by simp⟩
        | str z => rw [rv_str.mp r']; exact ⟨rfl, by simp⟩
        | _ => simp [scalT] at hs
      · rename_i q0 q1 hx q2
        rw [rv_non.mp r']
        cases a with
        | non => exact (hx rfl).elim
        | bl z => rw [rv_bl.mp r]; exact ⟨rfl, by simp⟩
        | int z => rw [rv_int.mp r]; exact ⟨rfl, by simp⟩
        | str z => rw [rv_str.mp r]; exact ⟨rfl, by simp⟩
        | _ => first | (simp [scalT] at q0; done) | (simp [scalT] at q1; done) | (simp [scalT] at q2; done)
    · cases h
  · cases h
/-- a call at one unit more -/
theorem Lev.run1 {g : Nat → List Val → MH Val} (L : Lev Γ X I k g) (hr : Room k X.A.in1) {W : WX} (tk : Takes X W) {f : Nat} (hp : I.pos f = true) {s : AS} {H : Hp} {vs : List Val} {us : List V} {uv : List Value} {Q : VK} {σ : L2.St} {pins : List (Addr × Obj)} {S : Shared} (J : Inv X pins σ H S) (rv : Vals us uv) (R : Rel Γ s H) (r : RVs Γ s.F s.ρ vs us)
    (A : After Γ s ((if vs.all Val.isT = true then apart (g f vs) else bad) s.hp) (fun v s' H' => ∀ u, RV Γ s'.F s'.ρ v u → Q u H') (XW Γ W σ)) : wpAny (model X.prog X.w) X.A.in1 (call (.ref (I.fA f)) uv) (EP X pins σ Q) X.xe S := by
  have A' : After Γ s ((if (false = true) then g f vs else if vs.all Val.isT = true then apart (g f vs) else bad) s.hp) (fun v s' H' => ∀ u, RV Γ s'.F s'.ρ v u → Q u H') (XW Γ W σ) := by
    rw [if_neg (by simp)]; exact A
  obtain ⟨h1, h2⟩ := L.not_bad (raw := false) A'
  obtain ⟨F, B⟩ := L.fn f h1
  have B := B hp
  have hl : us.length = (I.ps f).length := by rw [← Paired.len r]; exact h2
  have hsp := sp_of (raw := false) (E := WE W σ) hl R r A'
  have b := B S uv J.kIn (by rw [List.append_nil, ← rv.length]; exact hl)
  rw [List.append_nil] at b
  have e0 := J.env0
  have e1 : Env0 X.prog X.w X.K X.mg X.base X.A.in1 X.stack S H := ⟨e0.frames, e0.mod, e0.bs, e0.bsz, e0.funs, e0.frf, e0.hok, e0.bare⟩
  refine wpAny_call (codeAny_mono (F.run X.A.in1 X.stack S H ⟨uv, []⟩ uv us Q (WE W σ) hr e1 b rv hsp) fun r s' hq => ?_)
  cases r with
  | error e => exact passAt tk σ pins H S e s' J hq
  | ok fl =>
    cases fl with
    | ret u => exact J.after hq
    | next => exact False.elim hq
    | brk => exact False.elim hq
    | cont => exact False.elim hq
theorem Ctx.cu (T : Ctx Γ X C I k) : X.A.units + 65 < cLine := by
  have := T.room.un
  omega
theorem boolEP {pins : List (Addr × Obj)} {σ : L2.St} {Q : VK} {P : Bool → Shared → Prop} {v : Value} {S : Shared} (h : EP X pins σ (fun u H' => ∃ b, u = .bl b ∧ Q (.bl b) H') v S) (hp : ∀ b H, Inv X pins σ H S → Q (.bl b) H → P b S) : ∃ b, v = .bool b ∧ P b S := by
  obtain ⟨u, H1, J, ru, b, e, q⟩ := h
  subst e
  cases ru
  exact ⟨b, rfl, hp b H1 J q⟩
/-- the items as texts -/
def tupC (xs ys : List T) (j : Nat) : Bool := match xs[j]?, ys[j]? with
  | some (.str a), some (.str b) => decide (a = b)
  | _, _ => true
theorem tupV_some {neg : Bool} {v w : Val} {d : Bool} (h : tupV neg v w = some d) : ∃ xs ys, v = .t (.tup xs) ∧ w = .t (.tup ys) ∧ tupS xs ys = some d := by
  unfold tupV at h
  split at h
  · exact ⟨_, _, rfl, rfl, h⟩
  · cases h
theorem tupS_val : ∀ {xs ys : List T} {d : Bool}, tupS xs ys = some d → d = ((List.range (min xs.length ys.length)).all (tupC xs ys) && xs.length == ys.length)
  | [], [], d, h => by cases h; rfl
  | [], _ :: _, d, h => by
    simp only [tupS, Option.some.injEq] at h
    subst h
    simp
  | x :: xs, [], d, h => by
    have h : some false = some d := by cases x <;> exact h
    cases h
    simp
  | x :: xs, y :: ys, d, h => by
    unfold tupS at h
    split at h
    · rename_i e1 e2; cases e1
    · rename_i e1 e2; cases e1
    · rename_i e1 e2; cases e2
    · rename_i a xs' b ys' e1 e2
      cases e1
      cases e2
      cases hr : tupS xs ys with
      | none => rw [hr] at h; cases h
      | some r =>
        rw [hr] at h
        cases h
        rw [tupS_val hr, List.length_cons, List.length_cons, show min (xs.length + 1) (ys.length + 1) = min xs.length ys.length + 1 by omega, List.range_succ_eq_map, List.all_cons, List.all_map]
        have e3 : (tupC (.str a :: xs) (.str b :: ys) ∘ Nat.succ) = tupC xs ys := by
          funext j
          show tupC _ _ (j + 1) = _
          unfold tupC
          rw [List.getElem?_cons_succ, List.getElem?_cons_succ]
        rw [e3, show tupC (.str a :: xs) (.str b :: ys) 0 = decide (a = b) from rfl, Bool.and_assoc]
        congr 2
        by_cases q : xs.length = ys.length
        · rw [q]; simp
        · rw [beq_false_of_ne q, beq_false_of_ne (by omega)]
    · cases h
theorem tupS_str : ∀ {xs ys : List T} {d : Bool} {j : Nat}, tupS xs ys = some d → j < xs.length → j < ys.length → ∃ a b, xs[j]? = some (.str a) ∧ ys[j]? = some (.str b)
  | [], _, d, j, _, h1, _ => by simp at h1
  | _ :: _, [], d, j, _, _, h2 => by simp at h2
  | x :: xs, y :: ys, d, j, h, h1, h2 => by
    unfold tupS at h
    split at h
    · rename_i e1 e2; cases e1
    · rename_i e1 e2; cases e1
    · rename_i e1 e2; cases e2
    · rename_i a xs' b ys' e1 e2
      cases e1
      cases e2
      cases hr : tupS xs ys with
      | none => rw [hr] at h; cases h
      | some r =>
        cases j with
        | zero => exact ⟨a, b, rfl, rfl⟩
        | succ j =>
          rw [List.getElem?_cons_succ, List.getElem?_cons_succ]
          exact tupS_str hr (by simpa using h1) (by simpa using h2)
    · cases h
theorem vals_at {vs : List V} {us : List Value} (h : Vals vs us) {j : Nat} {v : V} (e : vs[j]? = some v) : ∃ u, us[j]? = some u ∧ RelV v u := Paired.get1 h e
theorem tupS_at {A : Around} {S : Shared} {F : Hp} {xs ys : List T} {d : Bool} {vs ws : List V} {us uw : List Value} {j : Nat} (h : tupS xs ys = some d) (r1 : RTs Γ F xs vs) (r2 : RTs Γ F ys ws) (q1 : Vals vs us) (q2 : Vals ws uw) (h1 : j < us.length) (h2 : j < uw.length) : SeqAt.EqAt A S us[j] uw[j] (tupC xs ys j) := by
  have l1 := RTs.length r1
  have l2 := RTs.length r2
  have l3 := q1.length
  have l4 := q2.length
  obtain ⟨a, b, ea, eb⟩ := tupS_str h (j := j) (by omega) (by omega)
  obtain ⟨x, ex, rx⟩ := RTs.get r1 ea
  obtain ⟨y, ey, ry⟩ := RTs.get r2 eb
  rw [rt_str] at rx ry
  subst rx ry
  obtain ⟨u, eu, ru⟩ := vals_at q1 ex
  obtain ⟨w, ew, rw'⟩ := vals_at q2 ey
  obtain ⟨t, rfl⟩ := ru
  obtain ⟨t', rfl⟩ := rw'
  rw [List.getElem?_eq_getElem h1] at eu
  rw [List.getElem?_eq_getElem h2] at ew
  rw [Option.some.inj eu, Option.some.inj ew]
  have : tupC xs ys j = (a == b) := by
    unfold tupC
    rw [ea, eb]
    rfl
  rw [this]
  exact SeqAt.EqAt.str_str a t b t'
/-- == -/
theorem eq_ok (T : Ctx Γ X C I k) {W : WX} (tk : Takes X W) : OpS X (compareOp .Eq) (rM Γ W (eqM C false)) := by
  intro pins S σ H x y v u Q J rx ry h
  obtain ⟨s, a, b, R, ra, rb, A⟩ := h
  unfold eqM at A
  split at A
  · rename_i d hd
    obtain ⟨h1, h2⟩ := scal2_ok ra rb hd
    refine op_eq pins S σ H x y v u Q J rx ry ⟨h1, ?_⟩
    rw [h2]
    rw [Bool.xor_false] at A
    exact A s H rfl (Ext.refl s) R _ (rv_bl.mpr rfl)
  · split at A
    · obtain ⟨p, c, dx, ns, fs, e, pc, hH, hf, A⟩ := After.clsV R ra A
      obtain ⟨q, d, dy, ns', fs', e', pd, hH', hf', A⟩ := After.clsV R rb A
      subst e e'
      cases (show v = Value.ref p from rx)
      cases (show u = Value.ref q from ry)
      cases hm : C.mth c mEq with
      | none => rw [hm] at A; exact A.elim
      | some f =>
        rw [hm] at A
        dsimp only at A
        split at A
        · rename_i hn
          obtain ⟨mA, O, _⟩ := ins_get J.hok hH
          obtain ⟨od, Jx, _⟩ := O.look
          obtain ⟨mB, O', _⟩ := ins_get J.hok hH'
          obtain ⟨od', Jy, _⟩ := O'.look
          obtain ⟨m, F⟩ := J.fr
          have M := T.mth c mEq f hm
          rw [T.mN0] at M
          have A2 : After Γ s (callM C false f [a, b] s.hp) (fun z s' H' => ∀ u, RV Γ s'.F s'.ρ z u → ∃ b, u = .bl b ∧ Q (.bl b) H') (XW Γ W σ) := A.bind.imp (fun z s1 H1 x1 R1 A1 u r => by
            obtain ⟨d, _, e, A1⟩ := A1.blV r
            refine ⟨d, e, ?_⟩
            rw [Bool.xor_false] at A1
            exact After.ok R1 A1 _ (rv_bl.mpr rfl)) (fun _ _ _ _ _ q => q)
          have cu := T.cu
          refine PySem.W.cmp_K (op := .Eq) (by omega) F J.mod.kin Jx Jy.type (T.nf c d pc pd hn) M.at_ M.fn ?_
          refine wpAny_mono (T.fn.run (raw := false) (us := [.ref p, .ref q]) (uv := [.ref p, .ref q]) T.room tk (T.mps c mEq f hm) J (.cons rfl (.cons rfl .nil)) R (.cons ra (.cons rb .nil)) A2) (fun v s' hv => ?_) fun _ _ e => e
          obtain ⟨b, rfl, hb⟩ := boolEP (P := fun b s' => EP X pins σ Q (.bool b) s') hv fun b H J q => ⟨.bl b, H, J, rfl, q⟩
          exact hb
        · exact A.elim
    · split at A
      · rename_i d hd
        obtain ⟨xs, ys, rfl, rfl, hs⟩ := tupV_some hd
        obtain ⟨p1, vs, e1, tp1, rs1⟩ := rt_tup.mp ra
        obtain ⟨p2, ws, e2, tp2, rs2⟩ := rt_tup.mp rb
        subst e1 e2
        cases (show v = Value.ref p1 from rx)
        cases (show u = Value.ref p2 from ry)
        obtain ⟨i1, r1, t1, _⟩ := J.tuple (by rw [T.hK]; exact R.fz.sqT tp1.sqT)
        obtain ⟨i2, r2, t2, _⟩ := J.tuple (by rw [T.hK]; exact R.fz.sqT tp2.sqT)
        have cu := T.cu
        refine SeqAt.eq_tupleAt (e := tupC xs ys) t1 t2 (by omega) (fun j q1 q2 => ?_) ?_
        · rw [List.getElem_toArray, List.getElem_toArray]
          exact tupS_at hs rs1 rs2 r1 r2 _ _
        · have n1 : i1.toArray.size = xs.length := by rw [List.size_toArray, ← r1.length, RTs.length rs1]
          have n2 : i2.toArray.size = ys.length := by rw [List.size_toArray, ← r2.length, RTs.length rs2]
          rw [n1, n2, ← tupS_val hs]
          exact ⟨.bl d, H, J, rfl, A s H rfl (Ext.refl s) R _ (rv_bl.mpr rfl)⟩
      obtain ⟨d, d1, s1, A⟩ := After.dataOf R ra A
      obtain ⟨e, e1, t1, A⟩ := After.dataOf R rb A
      have cu := T.cu
      rw [Bool.xor_false] at A
      refine op_eqD (by omega) pins S σ H x y v u Q J rx ry ⟨d, e, by rw [T.hK]; exact d1, by rw [T.hK]; exact e1, s1, t1, After.ok R A _ (rv_bl.mpr rfl)⟩
/-- != -/
theorem ne_ok (T : Ctx Γ X C I k) {W : WX} (tk : Takes X W) : OpS X (compareOp .NotEq) (rM Γ W (eqM C true)) := by
  intro pins S σ H x y v u Q J rx ry h
  obtain ⟨s, a, b, R, ra, rb, A⟩ := h
  unfold eqM at A
  split at A
  · rename_i d hd
    obtain ⟨h1, h2⟩ := scal2_ok ra rb hd
    refine op_ne pins S σ H x y v u Q J rx ry ⟨h1, ?_⟩
    rw [h2]
    rw [Bool.xor_true] at A
    exact A s H rfl (Ext.refl s) R _ (rv_bl.mpr rfl)
  · split at A
    · obtain ⟨p, c, dx, ns, fs, e, pc, hH, hf, A⟩ := After.clsV R ra A
      obtain ⟨q, d, dy, ns', fs', e', pd, hH', hf', A⟩ := After.clsV R rb A
      subst e e'
      cases (show v = Value.ref p from rx)
      cases (show u = Value.ref q from ry)
      cases hm : C.mth c mEq with
      | none => rw [hm] at A; exact A.elim
      | some f =>
        rw [hm] at A
        dsimp only at A
        split at A
        · rename_i hn
          obtain ⟨mA, O, _⟩ := ins_get J.hok hH
          obtain ⟨od, Jx, _⟩ := O.look
          obtain ⟨mB, O', _⟩ := ins_get J.hok hH'
          obtain ⟨od', Jy, _⟩ := O'.look
          obtain ⟨m, F⟩ := J.fr
          have M := T.mth c mEq f hm
          rw [T.mN0] at M
          have A2 : After Γ s (callM C.low false f [a, b] s.hp) (fun z s' H' => ∀ u, RV Γ s'.F s'.ρ z u → ∃ b, u = .bl b ∧ Q (.bl (!b)) H') (XW Γ W σ) := A.bind.imp (fun z s1 H1 x1 R1 A1 u r => by
            obtain ⟨d, _, e, A1⟩ := A1.blV r
            refine ⟨d, e, ?_⟩
            rw [Bool.xor_true] at A1
            exact After.ok R1 A1 _ (rv_bl.mpr rfl)) (fun _ _ _ _ _ q => q)
          have cu := T.cu
          have r1 : Room k X.A.in1 := ⟨T.room.hd, by have := T.room.dp; show X.A.depth + 3 * k + 5 < _; omega, by have := T.room.un; show X.A.units + 1 + 16 * k + 200 < _; omega⟩
          refine PySem.W.ne_K (by omega) J.kIn Jx Jy.type (T.nf c d pc pd hn) (T.ne c pc) (T.ob c pc) M.at_ M.fn ?_
          refine wpAny_mono (T.nw.run1 (us := [.ref p, .ref q]) (uv := [.ref p, .ref q]) r1 tk (T.mps c mEq f hm) J (.cons rfl (.cons rfl .nil)) R (.cons ra (.cons rb .nil)) A2) (fun v s' hv => ?_) fun _ _ e => e
          obtain ⟨u, H1, J1, ru, b, e, q⟩ := hv
          subst e
          cases ru
          exact ⟨b, rfl, ⟨.bl (!b), H1, J1, rfl, q⟩⟩
        · exact A.elim
    · split at A
      · rename_i d hd
        cases a <;> cases b <;> cases hd
      obtain ⟨d, d1, s1, A⟩ := After.dataOf R ra A
      obtain ⟨e, e1, t1, A⟩ := After.dataOf R rb A
      have cu := T.cu
      rw [Bool.xor_true] at A
      refine op_neD (by omega) pins S σ H x y v u Q J rx ry ⟨d, e, by rw [T.hK]; exact d1, by rw [T.hK]; exact e1, s1, t1, After.ok R A _ (rv_bl.mpr rfl)⟩
theorem sc_eq {ea eb : Expr} {a b : E} (T : Ctx Γ X C I k) (ha : SE Γ X ea (evE C a)) (hb : SE Γ X eb (evE C b)) (hs : seB eb = false) : SC Γ X (.Compare ea [.Eq] [eb] pos) (evE C (.eqq false a b)) :=
  sc_of (fun W tk => eq_ok T tk) (fun loc => by simp only [evE]) ha hb (mark_no hs)
theorem sc_ne {ea eb : Expr} {a b : E} (T : Ctx Γ X C I k) (ha : SE Γ X ea (evE C a)) (hb : SE Γ X eb (evE C b)) (hs : seB eb = false) : SC Γ X (.Compare ea [.NotEq] [eb] pos) (evE C (.eqq true a b)) :=
  sc_of (fun W tk => ne_ok T tk) (fun loc => by simp only [evE]) ha hb (mark_no hs)
end
end MS

set_option Elab.async false
set_option linter.all false
set_option maxRecDepth 100000
/-! MSP: in, not in. -/
namespace MS
open PySem PySem.Spec PyProof.Rows L2
section
variable {Γ : Run} {X : Cx} {C : Cl} {I : Info} {k : Nat} {pos p apos cpos : Pos}
theorem str1 {c : Str} (h : c.length = 1) : c = ⟨#[c.cps.getD 0 0]⟩ := by
  cases c with
  | mk a =>
    have h : a.size = 1 := h
    congr 1
    apply Array.ext
    · simp [h]
    · intro i h1 h2
      have : i = 0 := by omega
      subst this
      simp [Array.getD, h]
theorem boolEPn {pins : List (Addr × Obj)} {σ : L2.St} {Q : VK} {v : Value} {S : Shared} (h : EP X pins σ (fun u H' => ∃ b, u = .bl b ∧ Q (.bl (!b)) H') v S) : ∃ b, v = .bool b ∧ EP X pins σ Q (.bool (!b)) S := by
  obtain ⟨u, H1, J, ru, b, e, q⟩ := h
  subst e
  cases ru
  exact ⟨b, rfl, ⟨.bl (!b), H1, J, rfl, q⟩⟩
theorem in_ok (T : Ctx Γ X C I k) {W : WX} (tk : Takes X W) : OpS X (compareOp .In) (rM Γ W (innM C false)) := by
  intro pins S σ H x y v u Q J rx ry h
  obtain ⟨s, a, b, R, ra, rb, A⟩ := h
  have cu := T.cu
  unfold innM at A
  split at A
  · rename_i z
    obtain ⟨c, _, ec, A⟩ := After.strV ra A
    split at A
    · rename_i hl
      rw [Bool.xor_false] at A
      exact op_in_sign pins S σ H x y v u Q J rx ry ⟨_, z, by rw [ec]; exact congrArg V.str (str1 hl), rv_str.mp rb, After.ok R A _ (rv_bl.mpr rfl)⟩
    · exact A.elim
  · split at A
    · obtain ⟨kk, ek, A⟩ := After.keyV ra A
      obtain ⟨kvs, q, us, eq, hp, rs, A⟩ := After.dctV R rb A
      have hg := dget_val (k := kk) rs
      have hs : (dget kvs (keyT kk)).isSome = (valV us kk).isSome := by
        cases e : dget kvs (keyT kk) with
        | none => rw [e] at hg; rw [hg]; rfl
        | some w => rw [e] at hg; obtain ⟨z, hz, _⟩ := hg; rw [hz]; rfl
      rw [hs, Bool.xor_false] at A
      subst eq
      cases (show u = Value.ref q from ry)
      have hq := After.ok R A _ (rv_bl.mpr rfl)
      exact d_in (y := kV kk) (o := valV us kk) (by omega) J (DGet.k hp) (by rw [← ek]; exact rx) fun s' J' => ⟨.bl (valV us kk).isSome, H, J', rfl, hq⟩
    · split at A
      · obtain ⟨q, c, dx, ns, fs, e, pc, hH, hf, A⟩ := After.clsV R rb A
        subst e
        cases (show u = Value.ref q from ry)
        cases hm : C.mth c mIn with
        | none => rw [hm] at A; exact A.elim
        | some f =>
          rw [hm] at A
          obtain ⟨mA, O, _⟩ := ins_get J.hok hH
          obtain ⟨od, Jx, _⟩ := O.look
          obtain ⟨m, F⟩ := J.fr
          have M := T.mth c mIn f hm
          rw [T.mN1] at M
          have A2 : After Γ s (callM C false f [b, a] s.hp) (fun z s' H' => ∀ u, RV Γ s'.F s'.ρ z u → ∃ b, u = .bl b ∧ Q (.bl b) H') (XW Γ W σ) := A.bind.imp (fun z s1 H1 x1 R1 A1 u r => by
            obtain ⟨d, _, e, A1⟩ := A1.blV r
            refine ⟨d, e, ?_⟩
            rw [Bool.xor_false] at A1
            exact After.ok R1 A1 _ (rv_bl.mpr rfl)) (fun _ _ _ _ _ q => q)
          refine PySem.W.in_K F J.mod.kin Jx M.at_ M.fn ?_
          refine wpAny_mono (T.fn.run (raw := false) (us := [.ref q, x]) (uv := [.ref q, v]) T.room tk (T.mps c mIn f hm) J (.cons rfl (.cons rx .nil)) R (.cons rb (.cons ra .nil)) A2) (fun v s' hv => ?_) fun _ _ e => e
          obtain ⟨b, rfl, hb⟩ := boolEP (P := fun b s' => EP X pins σ Q (.bool b) s') hv fun b H J q => ⟨.bl b, H, J, rfl, q⟩
          exact PySem.wpAny_truthy_bool hb
      · obtain ⟨d, d1, s1, A⟩ := After.dataOf R ra A
        obtain ⟨e, e1, t1, A⟩ := After.dataOf R rb A
        cases e with
        | list es =>
          have A : After Γ s (bl ((es.any fun x => x.eqv d) ^^ false) s.hp) _ _ := A
          rw [Bool.xor_false] at A
          exact op_inD cu pins S σ H x y v u Q J rx ry ⟨d, es, by rw [T.hK]; exact d1, by rw [T.hK]; exact e1, s1, t1, After.ok R A _ (rv_bl.mpr rfl)⟩
        | tuple es =>
          have A : After Γ s (bl ((es.any fun x => x.eqv d) ^^ false) s.hp) _ _ := A
          rw [Bool.xor_false] at A
          obtain ⟨as, r1⟩ := Dp.reads J d x v (by rw [T.hK]; exact d1) rx
          obtain ⟨bs, r2⟩ := Dp.reads J (.tuple es) y u (by rw [T.hK]; exact e1) ry
          exact SeqAt.in_tuple_reads r2 r1 (SeqAt.canLay_of_shaped t1) (SeqAt.canLay_of_shaped s1) (room_in_shaped s1 cu) ⟨.bl _, H, J, rfl, After.ok R A _ (rv_bl.mpr rfl)⟩
        | _ => exact A.elim
theorem notIn_ok (T : Ctx Γ X C I k) {W : WX} (tk : Takes X W) : OpS X (compareOp .NotIn) (rM Γ W (innM C true)) := by
  intro pins S σ H x y v u Q J rx ry h
  obtain ⟨s, a, b, R, ra, rb, A⟩ := h
  have cu := T.cu
  unfold innM at A
  split at A
  · rename_i z
    obtain ⟨c, _, ec, A⟩ := After.strV ra A
    split at A
    · rename_i hl
      rw [Bool.xor_true] at A
      exact op_notIn_sign pins S σ H x y v u Q J rx ry ⟨_, z, by rw [ec]; exact congrArg V.str (str1 hl), rv_str.mp rb, After.ok R A _ (rv_bl.mpr rfl)⟩
    · exact A.elim
  · split at A
    · obtain ⟨kk, ek, A⟩ := After.keyV ra A
      obtain ⟨kvs, q, us, eq, hp, rs, A⟩ := After.dctV R rb A
      have hg := dget_val (k := kk) rs
      have hs : (dget kvs (keyT kk)).isSome = (valV us kk).isSome := by
        cases e : dget kvs (keyT kk) with
        | none => rw [e] at hg; rw [hg]; rfl
        | some w => rw [e] at hg; obtain ⟨z, hz, _⟩ := hg; rw [hz]; rfl
      rw [hs, Bool.xor_true] at A
      subst eq
      cases (show u = Value.ref q from ry)
      have hq := After.ok R A _ (rv_bl.mpr rfl)
      exact d_notIn (y := kV kk) (o := valV us kk) (by omega) J (DGet.k hp) (by rw [← ek]; exact rx) fun s' J' => ⟨.bl (!(valV us kk).isSome), H, J', rfl, hq⟩
    · split at A
      · obtain ⟨q, c, dx, ns, fs, e, pc, hH, hf, A⟩ := After.clsV R rb A
        subst e
        cases (show u = Value.ref q from ry)
        cases hm : C.mth c mIn with
        | none => rw [hm] at A; exact A.elim
        | some f =>
          rw [hm] at A
          obtain ⟨mA, O, _⟩ := ins_get J.hok hH
          obtain ⟨od, Jx, _⟩ := O.look
          obtain ⟨m, F⟩ := J.fr
          have M := T.mth c mIn f hm
          rw [T.mN1] at M
          have A2 : After Γ s (callM C false f [b, a] s.hp) (fun z s' H' => ∀ u, RV Γ s'.F s'.ρ z u → ∃ b, u = .bl b ∧ Q (.bl (!b)) H') (XW Γ W σ) := A.bind.imp (fun z s1 H1 x1 R1 A1 u r => by
            obtain ⟨d, _, e, A1⟩ := A1.blV r
            refine ⟨d, e, ?_⟩
            rw [Bool.xor_true] at A1
            exact After.ok R1 A1 _ (rv_bl.mpr rfl)) (fun _ _ _ _ _ q => q)
          refine PySem.W.notIn_K F J.mod.kin Jx M.at_ M.fn ?_
          refine wpAny_mono (T.fn.run (raw := false) (us := [.ref q, x]) (uv := [.ref q, v]) T.room tk (T.mps c mIn f hm) J (.cons rfl (.cons rx .nil)) R (.cons rb (.cons ra .nil)) A2) (fun v s' hv => ?_) fun _ _ e => e
          obtain ⟨b, rfl, hb⟩ := boolEPn hv
          exact PySem.wpAny_truthy_bool hb
      · obtain ⟨d, d1, s1, A⟩ := After.dataOf R ra A
        obtain ⟨e, e1, t1, A⟩ := After.dataOf R rb A
        cases e with
        | list es =>
          have A : After Γ s (bl ((es.any fun x => x.eqv d) ^^ true) s.hp) _ _ := A
          rw [Bool.xor_true] at A
          exact op_notInD cu pins S σ H x y v u Q J rx ry ⟨d, es, by rw [T.hK]; exact d1, by rw [T.hK]; exact e1, s1, t1, After.ok R A _ (rv_bl.mpr rfl)⟩
        | tuple es =>
          have A : After Γ s (bl ((es.any fun x => x.eqv d) ^^ true) s.hp) _ _ := A
          rw [Bool.xor_true] at A
          obtain ⟨as, r1⟩ := Dp.reads J d x v (by rw [T.hK]; exact d1) rx
          obtain ⟨bs, r2⟩ := Dp.reads J (.tuple es) y u (by rw [T.hK]; exact e1) ry
          exact SeqAt.notIn_tuple_reads r2 r1 (SeqAt.canLay_of_shaped t1) (SeqAt.canLay_of_shaped s1) (room_in_shaped s1 cu) ⟨.bl _, H, J, rfl, After.ok R A _ (rv_bl.mpr rfl)⟩
        | _ => exact A.elim
theorem sc_in {ea eb : Expr} {a b : E} (T : Ctx Γ X C I k) (ha : SE Γ X ea (evE C a)) (hb : SE Γ X eb (evE C b)) (hs : seB eb = false) : SC Γ X (.Compare ea [.In] [eb] pos) (evE C (.inn false a b)) :=
  sc_of (fun W tk => in_ok T tk) (fun loc => by simp only [evE]) ha hb (mark_no hs)
theorem sc_notIn {ea eb : Expr} {a b : E} (T : Ctx Γ X C I k) (ha : SE Γ X ea (evE C a)) (hb : SE Γ X eb (evE C b)) (hs : seB eb = false) : SC Γ X (.Compare ea [.NotIn] [eb] pos) (evE C (.inn true a b)) :=
  sc_of (fun W tk => notIn_ok T tk) (fun loc => by simp only [evE]) ha hb (mark_no hs)
end
end MS

set_option Elab.async false
set_option linter.all false
set_option maxRecDepth 100000
/-! MSQ: isinstance. -/
namespace MS
open PySem PySem.Spec PyProof.Rows L2
section
variable {Γ : Run} {X : Cx} {C : Cl} {I : Info} {k : Nat} {pos p apos cpos : Pos}
/-- .. or an exception -/
def TyM (K : PySem.W.Frag) (H : Hp) (u : V) (t : Value) : Prop := TyX K H u t ∨ ∃ (p C : Addr) (d : Option Addr), u = .ref p ∧ t = .ref C ∧ H p = some (exo p C d) ∧ (d = none ∨ ∃ dd z, d = some dd ∧ H dd = some (exd dd [("name", .str z)])) ∧ XisC K C ∧
  PySem.W.specialIn K (.builtin "object.__class__") "__get__" = some (some (.builtin "getset_descriptor.__get__")) ∧ PySem.W.takesIn K (.builtin "object.__class__") = some true
theorem exo_inst {pins : List (Addr × Obj)} {σ : L2.St} {H : Hp} {s : Shared} {p D : Addr} {d : Option Addr} (I : Inv X pins σ H s) (e : H p = some (exo p D d)) (hd : d = none ∨ ∃ dd z, d = some dd ∧ H dd = some (exd dd [("name", .str z)])) : ∃ ox od, PySem.W.InstAt s.heap p ox D od := by
  obtain ⟨t1, ha⟩ := exo_at I.hok e
  rcases hd with rfl | ⟨dd, z, rfl, ed⟩
  · exact ⟨_, none, ha, rfl, rfl, trivial⟩
  · obtain ⟨mA, hns, _⟩ := exd_at I.hok ed
    obtain ⟨od, ho, _⟩ := lookIn_ns hns
    exact ⟨_, some od, ha, rfl, rfl, ho⟩
def rIsM (K : PySem.W.Frag) : List V → Hp → VK → Prop := fun xs H Q => ∃ (x c : V) (t u : Value) (b : Bool), xs = [x, c] ∧ ClsV c u ∧ TyM K H x t ∧ PySem.W.kitOne K t u = some b ∧ Q (.bl b) H
theorem call_isM : CallR X (.builtin "isinstance") (rIsM X.K) := by
  intro pins s σ H xs us Q I r h
  obtain ⟨x, c, t, u, b, rfl, k, ty, e, q⟩ := h
  rcases ty with ty | ⟨p, D, d, rfl, rfl, hp, hd, xk, cg, ct⟩
  · exact call_isi pins s σ H _ us Q I r ⟨x, c, t, u, b, rfl, k, ty, e, q⟩
  · obtain ⟨u1, u2, rfl, r1, r2⟩ := vals2 r
    have e2 := k.eq r2
    subst e2
    cases (show u1 = Value.ref p from r1)
    obtain ⟨ox, od, J⟩ := exo_inst I hp hd
    exact PySem.W.kia_one (PySem.W.kitx_exc (ox := ox) (od := od) xk.cl xk.xf.ga xk.xf.gg xk.xf.exC xk.ca cg ct xk.ob) I.kIn J e (fun z => nomatch z) fun tk => ⟨.bl b, H, I.tok tk, rfl, q⟩
theorem tyx_of (T : Ctx Γ X C I k) {s : AS} {H : Hp} {v : Val} {u : V} {t : Ty} (R : Rel Γ s H) (r : RV Γ s.F s.ρ v u) (h : tyM v s.hp = some t) : TyM X.K H u (tyVal Γ.cA Γ.xA t) ∧ plT Γ t = true := by
  have ins : ∀ {a c dx ns}, H a = some (.ins (Γ.cA c) dx ns) → Γ.pl c = true → TyM X.K H (.ref a) (.ref (Γ.cA c)) ∧ plT Γ (.ins c) = true := fun {a c dx ns} e pc => ⟨.inl <| .base (.ins e (T.cls c pc) (T.ca c pc) T.cg T.ct (T.ob c pc)), pc⟩
  unfold tyM at h
  cases v with
  | t x =>
    cases x with
    | non => cases h; rw [rv_non.mp r]; exact ⟨.inl <| .base .non, rfl⟩
    | bl b => cases h; rw [rv_bl.mp r]; exact ⟨.inl <| .base (.bl b), rfl⟩
    | int b => cases h; rw [rv_int.mp r]; exact ⟨.inl <| .base (.int b), rfl⟩
    | str b => cases h; rw [rv_str.mp r]; exact ⟨.inl <| .base (.str b), rfl⟩
    | tup xs =>
      cases h
      obtain ⟨q, us, e, tp, rs⟩ := rt_tup.mp r
      rw [e]
      rcases tp with ⟨o, h1, _⟩ | ⟨o, its, n, h1, h2, _⟩
      · exact ⟨.inl <| .fTuple (R.fz _ _ h1), rfl⟩
      · exact ⟨.inl <| .kTuple (by rw [T.hK]; exact h1) h2, rfl⟩
    | lst xs =>
      cases h
      obtain ⟨q, us, e, hF, rs⟩ := rt_lst.mp r
      rw [e]
      exact ⟨.inl <| .base (.lst (R.fz _ _ hF)), rfl⟩
    | dct xs =>
      cases h
      obtain ⟨q, us, e, hF, rs⟩ := rt_dct.mp r
      rw [e]
      exact ⟨.inl <| .base (.dK (R.fz _ _ hF)), rfl⟩
    | ins c fs =>
      cases h
      obtain ⟨q, dx, us, e, hF, pc, rs⟩ := rt_ins.mp r
      rw [e]
      exact ins (R.fz _ _ hF) pc
    | xo c a =>
      cases h
      have r : RT Γ s.F (.xo c a) u := r
      cases a with
      | none =>
        simp only [RT] at r
        obtain ⟨p, e, hF, hv⟩ := r
        rw [e]
        exact ⟨.inr ⟨p, Γ.xA c, none, rfl, rfl, R.fz _ _ hF, .inl rfl, T.xk hv c, T.cg, T.ct⟩, hv⟩
      | some z =>
        simp only [RT] at r
        obtain ⟨p, d, e, hD, hF, hv⟩ := r
        rw [e]
        exact ⟨.inr ⟨p, Γ.xA c, some d, rfl, rfl, R.fz _ _ hF, .inr ⟨d, z, rfl, R.fz _ _ hD⟩, T.xk hv c, T.cg, T.ct⟩, hv⟩
    | _ => cases h
  | ref n =>
    obtain ⟨a, ea, rfl⟩ := r
    dsimp only at h
    cases ec : s.hp[n]? with
    | none => rw [ec] at h; cases h
    | some ob =>
      rw [ec] at h
      obtain ⟨b, eb, cc⟩ := R.cell n _ ec
      rw [ea] at eb; cases eb
      cases ob with
      | lst vs => cases h; obtain ⟨_, _, us, c3, _⟩ := cc; exact ⟨.inl <| .base (.lst c3), rfl⟩
      | dct vs => cases h; obtain ⟨_, _, us, c3, _⟩ := cc; exact ⟨.inl <| .base (.dK c3), rfl⟩
      | ins c fs => cases h; obtain ⟨_, _, dx, us, c3, pc, _⟩ := cc; exact ins c3 pc
      | frz x =>
        cases x with
        | lst xs =>
          cases h
          obtain ⟨q, us, e, hF, rs⟩ := rt_lst.mp cc
          cases e
          exact ⟨.inl <| .base (.lst (R.fz _ _ hF)), rfl⟩
        | dct xs =>
          cases h
          obtain ⟨q, us, e, hF, rs⟩ := rt_dct.mp cc
          cases e
          exact ⟨.inl <| .base (.dK (R.fz _ _ hF)), rfl⟩
        | ins c fs =>
          cases h
          obtain ⟨q, dx, us, e, hF, pc, rs⟩ := rt_ins.mp cc
          cases e
          exact ins (R.fz _ _ hF) pc
        | _ => cases h
/-- a class's name, as it stands in the text -/
def SpE (Γ : Run) (X : Cx) (e : Expr) (s : Sp) : Prop := PE X e (tC (spV Γ.cA Γ.xA s)) ∧ stB e = false
theorem spe_own {x : Str} {d : Nat} (hg : Gl X x) (hm : X.mg x = some (.ref (Γ.cA d))) (hd : (x == ("__debug__" : Str)) = false) : SpE Γ X (.Name x pos) (.cls d) := ⟨pe_glob hg hm rfl hd, rfl⟩
theorem spe_xc {x : Str} {d : Nat} (hl : d < 500) (hg : Gl X x) (hm : X.mg x = some (.ref (Γ.xA d))) (hd : (x == ("__debug__" : Str)) = false) : SpE Γ X (.Name x pos) (.xc d) := by
  have e1 : spV Γ.cA Γ.xA (.xc d) = .ref (Γ.xA d) := if_pos hl
  exact ⟨by rw [e1]; exact pe_glob hg hm rfl hd, rfl⟩
theorem spe_ty {x : Str} {n : String} {s : Sp} (hs : spV Γ.cA Γ.xA s = .ty n) (hv : bootBuiltins x = some (.type n)) (hg : Gl X x) (hm : X.mg x = none) (hn : x ≠ "__name__") (hd : (x == ("__debug__" : Str)) = false) : SpE Γ X (.Name x pos) s := ⟨by rw [hs]; exact pe_bltn hg hm hv rfl hn hd, rfl⟩
theorem se_isi {ea ec : Expr} {a : E} {sp : Sp} (T : Ctx Γ X C I k) (hsp : I.sps sp = true) (hg : Gl X "isinstance") (hm : X.mg "isinstance" = none) (ha : SE Γ X ea (evE C a)) (hst : stB ea = false) (hc : SpE Γ X ec sp) : SE Γ X (.Call (.Name "isinstance" p) [ea, ec] [] pos) (evE C (.isi a [sp])) := by
  intro W tk
  refine PE.imp (pe_callB call_isM hg hm (by with_unfolding_all rfl) (pa_cons (ha W tk) (pa_cons hc.1 pa_nil (star_cons hc.2)) (star_cons hst)) (by decide) (by decide) (star_cons hst) (spl_plain (by simp [hc.2]))) ?_
  rintro σ H Q ⟨loc, s, R, L, A⟩
  simp only [evE] at A
  refine ⟨loc, s, R, L, A.bind.imp (fun v s1 H1 x1 R1 A1 u r => ?_) (fun _ _ _ _ _ q => q)⟩
  unfold isiM at A1
  cases ht : tyM v s1.hp with
  | none => rw [ht] at A1; exact A1.elim
  | some t =>
    rw [ht] at A1
    refine ⟨u, spV Γ.cA Γ.xA sp, _, _, _, rfl, sp_cls _ _ _, (tyx_of T R1 r ht).1, T.kit t sp hsp (tyx_of T R1 r ht).2, ?_⟩
    have := A1 s1 H1 rfl (Ext.refl s1) R1 _ (rv_bl.mpr rfl)
    simpa using this
end
end MS

set_option Elab.async false
set_option linter.all false
set_option maxRecDepth 100000
/-! MSR: targets; what is walked. -/
namespace MS
open PySem PySem.Spec PyProof.Rows L2
section
variable {Γ : Run} {X : Cx} {C : Cl} {I : Info} {k : Nat} {pos p apos cpos : Pos}
theorem wipe_get {σ : L2.St} {j : Nat} : ∀ {vs : List Nat}, (wipe σ vs)[j]? = if j ∈ vs ∧ j < σ.length then some none else σ[j]?
  | [] => by simp [wipe]
  | v :: vs => by
    unfold wipe
    by_cases h : v = j
    · subst h
      by_cases hl : v < σ.length
      · rw [List.getElem?_set_self (by rw [wipe_length]; exact hl), if_pos ⟨by simp, hl⟩]
      · rw [if_neg (by omega), List.getElem?_eq_none (by simp [wipe_length]; omega), List.getElem?_eq_none (by omega)]
    · rw [List.getElem?_set_ne h, wipe_get]
      have : j ∈ v :: vs ↔ j ∈ vs := by
        rw [List.mem_cons]
        exact ⟨fun z => z.resolve_left fun z => h z.symm, .inr⟩
      simp only [this]
theorem wipe_set {σ : L2.St} {i : Nat} {w : Option V} {vs : List Nat} (h : i ∈ vs) : wipe (σ.set i w) vs = wipe σ vs := by
  apply List.ext_getElem?
  intro j
  rw [wipe_get, wipe_get, List.length_set]
  by_cases hj : j ∈ vs ∧ j < σ.length
  · rw [if_pos hj, if_pos hj]
  · rw [if_neg hj, if_neg hj]
    by_cases e : i = j
    · subst e
      have : ¬ i < σ.length := fun z => hj ⟨h, z⟩
      rw [List.getElem?_eq_none (by simp; omega), List.getElem?_eq_none (by omega)]
    · rw [List.getElem?_set_ne e]
theorem wipe_wipe {σ : L2.St} {vs : List Nat} : wipe (wipe σ vs) vs = wipe σ vs := by
  apply List.ext_getElem?
  intro j
  rw [wipe_get, wipe_length]
  by_cases hj : j ∈ vs ∧ j < σ.length
  · rw [if_pos hj, wipe_get, if_pos hj]
  · rw [if_neg hj]
theorem wipeL_len (loc : Loc) : ∀ vs : List Nat, (wipeL loc vs).length = loc.length
  | [] => rfl
  | v :: vs => by unfold wipeL; rw [List.length_set, wipeL_len loc vs]
theorem Locs.wipe {s : AS} {loc : Loc} {σ : L2.St} (L : Locs Γ s loc σ) : ∀ vs : List Nat, Locs Γ s (wipeL loc vs) (L2.wipe σ vs)
  | [] => L
  | v :: vs => by
    have ih := Locs.wipe L vs
    refine ⟨by rw [wipeL_len, wipe_length]; exact L.len, fun i w h => ?_⟩
    have h : ((wipeL loc vs).set v none)[i]? = some (some w) := h
    show ∃ u, ((L2.wipe σ vs).set v none)[i]? = some (some u) ∧ _
    by_cases e : v = i
    · subst e
      by_cases hl : v < (wipeL loc vs).length
      · rw [List.getElem?_set_self hl] at h; cases h
      · rw [List.getElem?_eq_none (by simpa using hl)] at h; cases h
    · rw [List.getElem?_set_ne e] at h ⊢
      exact ih.at_ i w h
theorem Locs.mono {s s' : AS} {loc : Loc} {σ : L2.St} (L : Locs Γ s loc σ) (le : Le s.F s'.F) (p : s.ρ <+: s'.ρ) : Locs Γ s' loc σ :=
  ⟨L.len, fun i v h => by obtain ⟨u, h1, h2⟩ := L.at_ i v h; exact ⟨u, h1, RV.mono le p h2⟩⟩
/-- an item that is walked; b: a pair that was just made for it will do -/
def RW (Γ : Run) (b : Bool) (s : AS) (H : Hp) (v : Val) (x : V) : Prop := RV Γ s.F s.ρ v x ∨ (b = true ∧ ∃ ts us a, v = .t (.tup ts) ∧ x = .ref a ∧ H a = some (.tup us) ∧ RTs Γ s.F ts us)
def tG (Γ : Run) (b : Bool) (tg : Tg) : TG := fun x σ H K => ∃ v loc s loc', Rel Γ s H ∧ Locs Γ s loc σ ∧ RW Γ b s H v x ∧ asg tg v loc = some loc' ∧ ∀ σ', Locs Γ s loc' σ' → (∀ vs, (∀ i ∈ tg.ix, i ∈ vs) → wipe σ' vs = wipe σ vs) → K σ' H
def tGs (Γ : Run) (ts : List Tg) : TGs := fun us σ H K => ∃ xs loc s loc', Rel Γ s H ∧ Locs Γ s loc σ ∧ RTs Γ s.F xs us ∧ asgs ts xs loc = some loc' ∧ ∀ σ', Locs Γ s loc' σ' → (∀ vs, (∀ i ∈ Tg.ixs ts, i ∈ vs) → wipe σ' vs = wipe σ vs) → K σ' H
def SG (Γ : Run) (X : Cx) (b : Bool) (e : Expr) (tg : Tg) : Prop := PG X e (tG Γ b tg)
theorem PG.imp {X : Cx} {e : Expr} {t t' : TG} (h : PG X e t) (i : ∀ v σ H Q, t' v σ H Q → t v σ H Q) : PG X e t' := ⟨fun pins s σ H v u Q I r q => h.run pins s σ H v u Q I r (i v σ H Q q)⟩
theorem PGs.imp {X : Cx} {e : List Expr} {t t' : TGs} (h : PGs X e t) (i : ∀ v σ H Q, t' v σ H Q → t v σ H Q) : PGs X e t' := ⟨fun pins s σ H v u Q I r q => h.run pins s σ H v u Q I r (i v σ H Q q)⟩
theorem sg_v {i : Nat} {x : Str} (hN : X.N.Nodup) (hi : X.N[i]? = some x) (hx : L2.Loc X.env.scope x) (hf : X.fn x = true ∨ X.env.scope.names.lookup x = some .local) : SG Γ X false (.Name x pos) (.v i) := by
  refine PG.imp (pg_name hN hi hx hf) ?_
  rintro v σ H Q ⟨w, loc, s, loc', R, L, rw_, e, k⟩
  simp only [asg] at e
  cases e
  rcases rw_ with r | ⟨z, _⟩
  · refine k _ (L.set i r) fun vs h => wipe_set (h i ?_)
    simp only [Tg.ix, List.mem_singleton]
  · cases z
theorem sgs_nil : PGs X [] (tGs Γ []) := by
  refine PGs.imp pgs_nil ?_
  rintro v σ H Q ⟨w, loc, s, loc', R, L, r, e, k⟩
  cases w with
  | nil =>
    simp only [asgs] at e
    cases e
    simp only [RTs] at r
    exact ⟨r, k σ L fun vs _ => rfl⟩
  | cons _ _ => simp only [asgs] at e; cases e
theorem asgE_cons {e : Expr} {es : List Expr} {env : Env} (h : stB e = false) : assignEach (e :: es) env = (false, assign e env) :: assignEach es env := by
  cases e <;> first | rfl | cases h
theorem asgE_len : ∀ {es : List Expr} {env : Env}, es.any stB = false → (assignEach es env).length = es.length
  | [], _, _ => rfl
  | e :: es, env, h => by
    rw [List.any_cons, Bool.or_eq_false_iff] at h
    rw [asgE_cons h.1, List.length_cons, asgE_len h.2, List.length_cons]
theorem asgE_st : ∀ {es : List Expr} {env : Env}, es.any stB = false → (assignEach es env).findIdx? (·.1) = none
  | [], _, _ => rfl
  | e :: es, env, h => by
    rw [List.any_cons, Bool.or_eq_false_iff] at h
    rw [asgE_cons h.1, List.findIdx?_cons, asgE_st h.2]
    rfl
theorem sgs_cons {e : Expr} {es : List Expr} {t : Tg} {ts : List Tg} (h : SG Γ X false e t) (hr : PGs X es (tGs Γ ts)) (hst : stB e = false) : PGs X (e :: es) (tGs Γ (t :: ts)) := by
  refine PGs.imp (pgs_cons h hr (by rw [asgE_cons hst]; rfl)) ?_
  rintro v σ H Q ⟨w, loc, s, loc', R, L, r, e, k⟩
  cases w with
  | nil => simp only [asgs] at e; cases e
  | cons x xs =>
    simp only [asgs] at e
    simp only [RTs] at r
    obtain ⟨u, us, ev, ru, rus⟩ := r
    cases ea : asg t (.t x) loc with
    | none => rw [ea] at e; cases e
    | some l1 =>
      rw [ea] at e
      refine ⟨u, us, ev, .t x, loc, s, l1, R, L, .inl ru, ea, fun σ1 L1 w1 => ?_⟩
      refine ⟨xs, l1, s, loc', R, L1, rus, e, fun σ2 L2 w2 => k σ2 L2 fun vs hv => ?_⟩
      simp only [Tg.ixs, List.mem_append] at hv
      rw [w2 vs fun i hi => hv i (.inr hi), w1 vs fun i hi => hv i (.inl hi)]
theorem sg_tp {b : Bool} {es : List Expr} {ts : List Tg} {j : Nat} (hc : X.calm = true) (h : PGs X es (tGs Γ ts)) (hl : es.length = ts.length) (hst : es.any stB = false) (hK : X.K = Γ.K) : SG Γ X b (.Tuple es j pos) (.tp ts) := by
  refine PG.imp (pg_tup hc h (asgE_len hst) (asgE_st hst)) ?_
  rintro x σ H Q ⟨v, loc, s, loc', R, L, r, e, k⟩
  have lens : ∀ {ts : List Tg} {xs : List T} {loc loc' : Loc}, asgs ts xs loc = some loc' → ts.length = xs.length := by
    intro ts
    induction ts with
    | nil => intro xs loc loc' e; cases xs with
      | nil => rfl
      | cons _ _ => simp only [asgs] at e; cases e
    | cons t ts ih => intro xs loc loc' e; cases xs with
      | nil => simp only [asgs] at e; cases e
      | cons x xs =>
        simp only [asgs] at e
        cases ea : asg t (.t x) loc with
        | none => rw [ea] at e; cases e
        | some l1 => rw [ea] at e; rw [List.length_cons, List.length_cons, ih e]
  simp only [asg] at e
  have fin : ∀ (xs : List T) (us : List V) (a : Addr), asgs ts xs loc = some loc' → x = .ref a → SqT X.K H a us → RTs Γ s.F xs us → gTup X.K es.length (tGs Γ ts) x σ H Q := fun xs us a ea ex q rs => by
    refine ⟨a, us, ex, q, by rw [← RTs.length rs, ← lens ea, hl], xs, loc, s, loc', R, L, rs, ea, fun σ1 L1 w1 => k σ1 L1 fun vs hv => w1 vs ?_⟩
    simpa only [Tg.ix] using hv
  cases v with
  | ref n => cases e
  | t y =>
    cases y with
    | tup xs =>
      rcases r with r | ⟨_, ts', us, a, ev, ex, hH, rs⟩
      · obtain ⟨a, us, ex, t, rs⟩ := rt_tup.mp r
        exact fin xs us a e ex (by rw [hK]; exact (R.fz.tupF t).sqT) rs
      · cases ev
        exact fin xs us a e ex (.inl (.inl hH)) rs
    | _ => cases e

/-! ### what is walked -/
structure ExtW (s s' : AS) : Prop where
  F : Le s.F s'.F
  Fr : Le s.Fr s'.Fr
  ρ : s.ρ <+: s'.ρ
theorem Ext.w {s s' : AS} (x : Ext s s') : ExtW s s' := ⟨x.F, by rw [x.Fr]; exact Le.refl _, x.ρ⟩
theorem ExtW.trans {a b c : AS} (x : ExtW a b) (y : ExtW b c) : ExtW a c := ⟨x.F.trans y.F, x.Fr.trans y.Fr, x.ρ.trans y.ρ⟩
/-- the iterator goes through xs, whatever is made meanwhile -/
def Wk (Γ : Run) (b : Bool) (J : L2.It) (xs : List Val) (s : AS) : Prop := ∀ s' H', Le s.F s'.F → Rel Γ s' H' →
  (∀ i v, xs[i]? = some v → J.go i H' ∧ ∀ x H'', J.yld i H' x H'' → ∃ s'', s''.hp = s'.hp ∧ Ext s' s'' ∧ Rel Γ s'' H'' ∧ RW Γ b s'' H'' v x) ∧ J.stop xs.length H'
def tI (Γ : Run) (b : Bool) (m : Loc → MH (List Val)) (W : WX) : TI := fun σ H R => ∃ loc s, Rel Γ s H ∧ Locs Γ s loc σ ∧ After Γ s (m loc s.hp) (fun xs s' H' => ∀ J, Wk Γ b J xs s' → R J H') (XW Γ W σ)
def SI (Γ : Run) (X : Cx) (b : Bool) (tg iter : Expr) (m : Loc → MH (List Val)) : Prop := (∀ W, Takes X W → PI X tg iter (tI Γ b m W)) ∧ ∀ x, foldedSetIterable iter X.env x = pure x
theorem PI.imp {X : Cx} {tg e : Expr} {t t' : TI} (h : PI X tg e t) (i : ∀ σ H Q, t' σ H Q → t σ H Q) : PI X tg e t' := ⟨fun pins s σ H R I q => h.run pins s σ H R I (i σ H R q)⟩
theorem wk_list {s : AS} {a : Addr} {xs : List T} {us : List V} (h : s.F a = some (.lst us)) (rs : RTs Γ s.F xs us) : Wk Γ false (Itl Γ.K a) (xs.map .t) s := by
  intro s' H' x R
  have hH : H' a = some (.lst us) := R.fz _ _ (x _ _ h)
  have rs' : RTs Γ s'.F xs us := rs.mono x xs us
  refine ⟨fun i v hv => ?_, ⟨us, SqL.of hH, by rw [List.length_map, RTs.length rs]; exact Nat.le_refl _⟩⟩
  rw [List.getElem?_map] at hv
  obtain ⟨y, hy, rfl⟩ := Option.map_eq_some_iff.mp hv
  obtain ⟨u, hu, ru⟩ := RTs.get rs' hy
  refine ⟨⟨us, u, SqL.of hH, hu⟩, fun x H'' ⟨e, k⟩ => ⟨s', rfl, Ext.refl _, by rw [e]; exact R, .inl ?_⟩⟩
  have := k us (SqL.of hH)
  rw [hu] at this
  cases this
  exact ru
theorem SqL.keep {K : PySem.W.Frag} {a : Addr} {us : List V} {F H : Hp} (h : SqL K F a us) (le : Le F H) : SqL K H a us := le.sqL h
theorem wk_scr {s : AS} {a : Addr} {ns : List Int} (h : SqL Γ.K s.F a (ns.map V.int)) : Wk Γ false (Itl Γ.K a) (ns.map fun i => .t (.int i)) s := by
  intro s' H' x R
  have hH : SqL Γ.K H' a (ns.map V.int) := R.fz.sqL (x.sqL h)
  refine ⟨fun i v hv => ?_, ⟨_, hH, by simp⟩⟩
  rw [List.getElem?_map] at hv
  obtain ⟨y, hy, rfl⟩ := Option.map_eq_some_iff.mp hv
  have hy' : (ns.map V.int)[i]? = some (.int y) := by rw [List.getElem?_map, hy]; rfl
  refine ⟨⟨_, _, hH, hy'⟩, fun x H'' ⟨e, k⟩ => ⟨s', rfl, Ext.refl _, by rw [e]; exact R, .inl ?_⟩⟩
  have := k _ hH
  rw [hy'] at this
  cases this
  exact rv_int.mpr rfl
theorem wk_tup {s : AS} {a : Addr} {xs : List T} {us : List V} (h : TupF Γ.K s.F a us) (rs : RTs Γ s.F xs us) : Wk Γ false (Itt Γ.K a) (xs.map .t) s := by
  intro s' H' x R
  have hH : SqT Γ.K H' a us := (R.fz.tupF (x.tupF h)).sqT
  have rs' : RTs Γ s'.F xs us := rs.mono x xs us
  refine ⟨fun i v hv => ?_, ⟨us, hH, by rw [List.length_map, RTs.length rs]; exact Nat.le_refl _⟩⟩
  rw [List.getElem?_map] at hv
  obtain ⟨y, hy, rfl⟩ := Option.map_eq_some_iff.mp hv
  obtain ⟨u, hu, ru⟩ := RTs.get rs' hy
  refine ⟨⟨us, u, hH, hu⟩, fun x H'' ⟨e, k⟩ => ⟨s', rfl, Ext.refl _, by rw [e]; exact R, .inl ?_⟩⟩
  have := k us hH
  rw [hu] at this
  cases this
  exact ru
theorem wk_str {s : AS} {z : Str} : Wk Γ false (Its z) (z.cps.toList.map fun c => .t (.str ⟨#[c]⟩)) s := by
  intro s' H' x R
  refine ⟨fun i v hv => ?_, by show z.cps.size ≤ _; simp⟩
  rw [List.getElem?_map] at hv
  obtain ⟨y, hy, rfl⟩ := Option.map_eq_some_iff.mp hv
  have hi : i < z.cps.size := by have := get_lt hy; simpa using this
  refine ⟨hi, fun x H'' ⟨e, c, hc, ex⟩ => ⟨s', rfl, Ext.refl _, by rw [e]; exact R, .inl ?_⟩⟩
  rw [Array.getElem?_toList] at hy
  rw [hy] at hc
  cases hc
  exact rv_str.mpr ex
theorem wk_rng {s : AS} {lo hi : Int} : Wk Γ false (Itr lo (hi - lo).toNat) ((List.range (hi - lo).toNat).map fun i => .t (.int (lo + (i : Nat)))) s := by
  intro s' H' x R
  refine ⟨fun i v hv => ?_, by show (hi - lo).toNat ≤ _; simp⟩
  rw [List.getElem?_map] at hv
  obtain ⟨y, hy, rfl⟩ := Option.map_eq_some_iff.mp hv
  obtain ⟨hl, hy⟩ := List.getElem?_eq_some_iff.mp hy
  rw [List.getElem_range] at hy
  subst hy
  rw [List.length_range] at hl
  refine ⟨hl, fun x H'' ⟨e, ex⟩ => ⟨s', rfl, Ext.refl _, by rw [e]; exact R, .inl (rv_int.mpr ex)⟩⟩
theorem Rel.junk {s : AS} {H : Hp} {a : Addr} {o : HO} (R : Rel Γ s H) (h : H a = none) : Rel Γ s (upd H a o) := by
  obtain ⟨f1, f2⟩ := R.free h
  refine ⟨fun q u e => ?_, fun q u e => ?_, R.dj, R.len, R.inj, fun n b e => upd_some (R.th n b e), R.nf, fun n ob e => ?_⟩
  · rw [upd_ne (ne_of_none e f1)]; exact R.fz q u e
  · rw [upd_ne (ne_of_none e f2)]; exact R.fr q u e
  · obtain ⟨b, eb, c⟩ := R.cell n ob e
    refine ⟨b, eb, c.other fun _ _ z => ?_⟩
    subst z
    exact R.th n b eb h
theorem enumT_get {xs : List T} {j i : Nat} : (enumT j xs)[i]? = (xs[i]?).map fun x => .tup [.int ((j + i : Nat) : Int), x] := by
  induction xs generalizing j i with
  | nil => simp [enumT]
  | cons x xs ih =>
    cases i with
    | zero => simp [enumT]
    | succ i =>
      simp only [enumT, List.getElem?_cons_succ]
      rw [ih]
      congr 2
      funext y
      rw [show j + 1 + i = j + (i + 1) by omega]
theorem enumT_len {xs : List T} : ∀ j, (enumT j xs).length = xs.length := by
  induction xs with
  | nil => intro j; rfl
  | cons x xs ih => intro j; simp only [enumT, List.length_cons]; rw [ih]
theorem wk_enum {s : AS} {a : Addr} {xs : List T} {us : List V} (h : s.F a = some (.lst us)) (rs : RTs Γ s.F xs us) : Wk Γ true (Ite Γ.K a) ((enumT 0 xs).map .t) s := by
  intro s' H' x R
  have hH : H' a = some (.lst us) := R.fz _ _ (x _ _ h)
  have rs' : RTs Γ s'.F xs us := rs.mono x xs us
  refine ⟨fun i v hv => ?_, ⟨us, SqL.of hH, by rw [List.length_map, enumT_len, RTs.length rs]; exact Nat.le_refl _⟩⟩
  rw [List.getElem?_map, enumT_get] at hv
  obtain ⟨z, hz, rfl⟩ := Option.map_eq_some_iff.mp hv
  obtain ⟨y, hy, rfl⟩ := Option.map_eq_some_iff.mp hz
  obtain ⟨u, hu, ru⟩ := RTs.get rs' hy
  refine ⟨⟨us, u, SqL.of hH, hu⟩, fun x H'' ⟨T, w, ex, hT, e, k⟩ => ⟨s', rfl, Ext.refl _, by rw [e]; exact R.junk hT, .inr ⟨rfl, _, [.int (i : Nat), w], T, rfl, ex, by rw [e]; exact upd_same, ?_⟩⟩⟩
  have := k us (SqL.of hH)
  rw [hu] at this
  cases this
  simp only [RTs]
  exact ⟨_, _, rfl, rt_int.mpr (by simp), _, _, rfl, ru, rfl⟩
theorem zipT_get : ∀ {xs ys : List T} {i : Nat}, (zipT xs ys)[i]? = (match xs[i]?, ys[i]? with | some x, some y => some (.tup [x, y]) | _, _ => none)
  | [], ys, i => by simp [zipT]
  | x :: xs, [], i => by
    simp only [zipT, List.getElem?_nil]
    split <;> simp_all
  | x :: xs, y :: ys, 0 => by simp [zipT]
  | x :: xs, y :: ys, i + 1 => by
    simp only [zipT, List.getElem?_cons_succ]
    exact zipT_get
theorem zipT_len : ∀ {xs ys : List T}, xs.length ≤ (zipT xs ys).length ∨ ys.length ≤ (zipT xs ys).length
  | [], ys => .inl (Nat.zero_le _)
  | x :: xs, [] => .inr (Nat.zero_le _)
  | x :: xs, y :: ys => by
    simp only [zipT, List.length_cons]
    rcases zipT_len (xs := xs) (ys := ys) with h | h
    · exact .inl (by omega)
    · exact .inr (by omega)
theorem wk_zip {s : AS} {a c : Addr} {xs ys : List T} {us ws : List V} (h : s.F a = some (.lst us)) (rs : RTs Γ s.F xs us) (h' : s.F c = some (.lst ws)) (rs2 : RTs Γ s.F ys ws) : Wk Γ true (Itz Γ.K a c) ((zipT xs ys).map .t) s := by
  intro s' H' x R
  have hH : H' a = some (.lst us) := R.fz _ _ (x _ _ h)
  have hH2 : H' c = some (.lst ws) := R.fz _ _ (x _ _ h')
  have rs' : RTs Γ s'.F xs us := rs.mono x xs us
  have rs2' : RTs Γ s'.F ys ws := rs2.mono x ys ws
  refine ⟨fun i v hv => ?_, ⟨us, ws, SqL.of hH, SqL.of hH2, by rw [List.length_map, ← RTs.length rs, ← RTs.length rs2]; exact zipT_len⟩⟩
  rw [List.getElem?_map, zipT_get] at hv
  obtain ⟨z, hz, rfl⟩ := Option.map_eq_some_iff.mp hv
  split at hz
  · rename_i y1 y2 hy1 hy2
    cases hz
    obtain ⟨u, hu, ru⟩ := RTs.get rs' hy1
    obtain ⟨w, hw, rw'⟩ := RTs.get rs2' hy2
    refine ⟨⟨us, ws, u, w, SqL.of hH, SqL.of hH2, hu, hw⟩, fun x H'' ⟨T, w1, w2, ex, hT, e, k1, k2⟩ => ⟨s', rfl, Ext.refl _, by rw [e]; exact R.junk hT, .inr ⟨rfl, _, [w1, w2], T, rfl, ex, by rw [e]; exact upd_same, ?_⟩⟩⟩
    have q1 := k1 us (SqL.of hH)
    rw [hu] at q1
    cases q1
    have q2 := k2 ws (SqL.of hH2)
    rw [hw] at q2
    cases q2
    simp only [RTs]
    exact ⟨_, _, rfl, ru, _, _, rfl, rw', rfl⟩
  · cases hz
/-! ### the sources -/
/-- a list, a tuple or a text -/
def iAny (K : PySem.W.Frag) (tl : TE) : TI := fun σ H R => tl σ H fun x H1 => (∃ a, x = .ref a ∧ (∃ xs, SqL K H1 a xs) ∧ R (Itl K a) H1) ∨ (∃ a, x = .ref a ∧ (∃ xs, SqT K H1 a xs) ∧ R (Itt K a) H1) ∨ ∃ z, x = .str z ∧ R (Its z) H1
theorem pi_any {tg l : Expr} {tl : TE} (hl : PE X l tl) : PI X tg l (iAny X.K tl) := by
  refine ⟨fun pins s σ H R I h => ?_⟩
  refine thn (hl.run pins s σ H _ I h) fun v s1 ⟨x, H1, I1, r1, q1⟩ => ?_
  rcases q1 with ⟨a, e, ⟨xs, hq⟩, q⟩ | ⟨a, e, ⟨xs, hq⟩, q⟩ | ⟨z, e, q⟩
  · subst e
    cases r1
    obtain ⟨its, rv, p, hz⟩ := I1.list hq
    refine wpAny_pyIter_list p.isList ?_
    refine ⟨s1.heap.objs.size, [s1.heap.objs.size], _, _, H1, rfl, I1.kept (t' := s1.toks) fun b o e => Heap.get?_push_of_some _ e, turn_list a _, ⟨_, Heap.get?_push_size _ rfl, rfl, rfl⟩, fun b hb => ?_, q⟩
    have e : b = s1.heap.objs.size := by simpa using hb
    subst e
    exact I1.fpOk (Nat.le_refl _) (I1.hok.fresh (Nat.le_refl _))
  · subst e
    cases r1
    obtain ⟨its, rv, p, hz⟩ := I1.tuple hq
    refine wpAny_pyIter_tuple (show s1.heap.IsTuple a its.toArray from p) ?_
    refine ⟨s1.heap.objs.size, [s1.heap.objs.size], _, _, H1, rfl, I1.kept (t' := s1.toks) fun b o e => Heap.get?_push_of_some _ e, turn_tuple a _, ⟨_, Heap.get?_push_size _ rfl, rfl, rfl⟩, fun b hb => ?_, q⟩
    have e : b = s1.heap.objs.size := by simpa using hb
    subst e
    exact I1.fpOk (Nat.le_refl _) (I1.hok.fresh (Nat.le_refl _))
  · subst e
    obtain ⟨t, rfl⟩ := r1
    cases ha : z.cps.all (· < 128)
    · exact wpAny_pyIter_wide ha (pi_one (tk := s1.toks) I1 _ (turn_str _ z t "str_iterator" (.inr rfl)) ⟨_, Heap.get?_push_size _ rfl, rfl, rfl⟩ q)
    · exact wpAny_pyIter_ascii ha (pi_one (tk := s1.toks) I1 _ (turn_str _ z t "str_ascii_iterator" (.inl rfl)) ⟨_, Heap.get?_push_size _ rfl, rfl, rfl⟩ q)
/-- the item walks of a value -/
theorem After.walkV {s : AS} {H : Hp} {v : Val} {u : V} {Q : List Val → AS → Hp → Prop} {E' : Ex → AS → Hp → Prop} (R : Rel Γ s H) (r : RV Γ s.F s.ρ v u) (h : After Γ s (MS.walkV v s.hp) Q E') :
    ∃ xs s', Ext s s' ∧ Rel Γ s' H ∧ Q xs s' H ∧ ((∃ a, u = .ref a ∧ (∃ us, SqL Γ.K H a us) ∧ Wk Γ false (Itl Γ.K a) xs s') ∨ (∃ a, u = .ref a ∧ (∃ us, SqT Γ.K H a us) ∧ Wk Γ false (Itt Γ.K a) xs s') ∨ ∃ z, u = .str z ∧ Wk Γ false (Its z) xs s') := by
  unfold MS.walkV at h
  split at h
  · split at h
    · exact ⟨_, s, Ext.refl s, R, After.ok R h, .inr (.inr ⟨_, rv_str.mp r, wk_str⟩)⟩
    · exact h.elim
  · obtain ⟨a, us, e, t, rs⟩ := rt_tup.mp r
    exact ⟨_, s, Ext.refl s, R, After.ok R h, .inr (.inl ⟨a, e, ⟨us, (R.fz.tupF t).sqT⟩, wk_tup t rs⟩)⟩
  · rename_i ns
    have r : RT Γ s.F (.scr ns) u := r
    simp only [RT] at r
    obtain ⟨a, e, q⟩ := r
    exact ⟨_, s, Ext.refl s, R, After.ok R h, .inl ⟨a, e, ⟨_, R.fz.sqL q⟩, wk_scr q⟩⟩
  · obtain ⟨xs, s1, a, us, x1, R1, e, hF, rs, A⟩ := h.lstP R r
    exact ⟨_, s1, x1, R1, After.ok R1 A, .inl ⟨a, e, ⟨us, SqL.of (R1.fz _ _ hF)⟩, wk_list hF rs⟩⟩
def ffB : Expr → Bool
  | .Set .. => true
  | _ => false
theorem ff_no {iter : Expr} {env : Env} (h : ffB iter = false) : ∀ x, foldedSetIterable iter env x = pure x := by
  intro x
  cases iter <;> first | rfl | cases h
theorem si_seq {tg e : Expr} {m : E} (hK : X.K = Γ.K) (h : SE Γ X e (evE C m)) (hf : ffB e = false) : SI Γ X false tg e (evIt C (.seq m)) := by
  refine ⟨fun W tk => PI.imp (pi_any (h W tk)) ?_, ff_no hf⟩
  rintro σ H Rk ⟨loc, s, R, L, A⟩
  simp only [evIt] at A
  refine ⟨loc, s, R, L, A.bind.imp (fun v s1 H1 x1 R1 A1 u r => ?_) (fun _ _ _ _ _ q => q)⟩
  rw [hK]
  obtain ⟨xs, s2, x2, R2, q, w⟩ := After.walkV R1 r A1
  rcases w with ⟨a, e, hq, w⟩ | ⟨a, e, hq, w⟩ | ⟨z, e, w⟩
  · exact .inl ⟨a, e, hq, q _ w⟩
  · exact .inr (.inl ⟨a, e, hq, q _ w⟩)
  · exact .inr (.inr ⟨z, e, q _ w⟩)
theorem si_rng1 {tg e : Expr} {m : E} (hg : Gl X "range") (hm : X.mg "range" = none) (h : SE Γ X e (evE C m)) (hs : stB e = false) : SI Γ X false tg (.Call (.Name "range" p) [e] [] pos) (evIt C (.rng1 m)) := by
  refine ⟨fun W tk => PI.imp (pi_range1 hg hm (sa_cons h sa_nil hs W tk) (star_cons hs)) ?_, ff_no rfl⟩
  rintro σ H Rk ⟨loc, s, R, L, A⟩
  simp only [evIt] at A
  refine ⟨loc, s, R, L, ?_⟩
  simp only [evEs, pure_eq, MH.pure_bind]
  have A2 := A.bind
  cases e1 : evE C m loc s.hp with
  | bad => rw [e1] at A2; exact A2.elim
  | exc x h1 =>
    rw [e1] at A2
    rw [show (MH.bind (evE C m loc) (fun v => MH.pure [v])) s.hp = .exc x h1 by unfold MH.bind; rw [e1]]
    exact A2
  | ok v h1 =>
    rw [e1] at A2
    rw [bind_ok e1]
    intro s1 H1 eh x1 R1 us rus
    have A3 := A2 s1 H1 eh x1 R1
    cases rus with
    | cons r t =>
      cases t
      obtain ⟨i, _, e, A3⟩ := A3.intV r
      subst e
      unfold rngM at A3
      split at A3
      · rename_i hb
        simp only [Bool.and_eq_true, decide_eq_true_eq] at hb
        refine ⟨i, rfl, hb.1.2, hb.2, ?_⟩
        have q := After.ok R1 A3 (Itr 0 (i - 0).toNat) (wk_rng (s := s1) (lo := 0) (hi := i))
        rwa [Int.sub_zero] at q
      · exact A3.elim
/-- one value into a list of one -/
theorem one_ta {m : Loc → MH Val} {loc : Loc} {s : AS} {Q : Val → AS → Hp → Prop} {E' : Ex → AS → Hp → Prop} (A : After Γ s (m loc s.hp) Q E') : After Γ s (MH.bind (m loc) (fun v => MH.pure [v]) s.hp) (fun vs s' H' => ∃ v, vs = [v] ∧ Q v s' H') E' := by
  cases e1 : m loc s.hp with
  | bad => rw [e1] at A; exact A.elim
  | exc x h1 =>
    rw [e1] at A
    rw [show (MH.bind (m loc) (fun v => MH.pure [v])) s.hp = .exc x h1 by unfold MH.bind; rw [e1]]
    exact A
  | ok v h1 =>
    rw [e1] at A
    rw [bind_ok e1]
    exact fun s' H' a b c => ⟨v, rfl, A s' H' a b c⟩
theorem si_enum {e : Expr} {m : E} {elts : List Expr} {kk : Nat} {tpos : Pos} (hK : X.K = Γ.K) (hg : Gl X "enumerate") (hm : X.mg "enumerate" = none) (h : SE Γ X e (evE C m)) (hs : stB e = false) : SI Γ X true (.Tuple elts kk tpos) (.Call (.Name "enumerate" p) [e] [] pos) (evIt C (.enum m)) := by
  refine ⟨fun W tk => PI.imp (pi_enum hg hm (sa_cons h sa_nil hs W tk) (star_cons hs)) ?_, ff_no rfl⟩
  rintro σ H Rk ⟨loc, s, R, L, A⟩
  simp only [evIt] at A
  refine ⟨loc, s, R, L, ?_⟩
  simp only [evEs, pure_eq, MH.pure_bind]
  refine (one_ta (m := evE C m) A.bind).imp (fun vs s1 H1 x1 R1 A1 us rus => ?_) (fun _ _ _ _ _ q => q)
  obtain ⟨v, ev, A1⟩ := A1
  subst ev
  cases rus with
  | cons r t =>
    cases t
    obtain ⟨xs, s2, a, ws, x2, R2, e, hF, rs, A2⟩ := A1.lstP R1 r
    refine ⟨a, ws, by rw [e], by rw [hK]; exact SqL.of (R2.fz _ _ hF), ?_⟩
    rw [hK]
    exact After.ok R2 A2 _ (wk_enum hF rs)
theorem si_rng2 {tg e e2 : Expr} {m m2 : E} (hg : Gl X "range") (hm : X.mg "range" = none) (h : SE Γ X e (evE C m)) (hs : stB e = false) (h2 : SE Γ X e2 (evE C m2)) (hs2 : stB e2 = false) : SI Γ X false tg (.Call (.Name "range" p) [e, e2] [] pos) (evIt C (.rng2 m m2)) := by
  refine ⟨fun W tk => PI.imp (pi_range2 (ta := tCons (tE Γ (evE C m) W) (tCons (tE Γ (evE C m2) W) tNil)) hg hm (pa_cons (h W tk) (pa_cons (h2 W tk) pa_nil (star_cons hs2)) (star_cons hs)) (by rw [star_cons hs, star_cons hs2]; rfl) (star_cons hs2)) ?_, ff_no rfl⟩
  rintro σ H Rk ⟨loc, s, R, L, A⟩
  simp only [evIt] at A
  refine ⟨loc, s, R, L, A.bind.imp (fun v s1 H1 x1 R1 A1 u r => ?_) (fun _ _ _ _ _ q => q)⟩
  refine ⟨loc, s1, R1, L.ext x1, A1.bind.imp (fun w s2 H2 x2 R2 A2 u2 r2 => ?_) (fun _ _ _ _ _ q => q)⟩
  obtain ⟨i, _, e, A2⟩ := A2.intV (r.ext x2)
  obtain ⟨j, _, e', A2⟩ := A2.intV r2
  subst e e'
  unfold rngM at A2
  split at A2
  · rename_i hb
    simp only [Bool.and_eq_true, decide_eq_true_eq] at hb
    exact ⟨i, j, rfl, ⟨hb.1.1.1, hb.1.1.2, hb.1.2, hb.2⟩, After.ok R2 A2 _ wk_rng⟩
  · exact A2.elim
theorem si_zip {e e2 : Expr} {m m2 : E} {elts : List Expr} {kk : Nat} {tpos : Pos} (hK : X.K = Γ.K) (hg : Gl X "zip") (hm : X.mg "zip" = none) (h : SE Γ X e (evE C m)) (hs : stB e = false) (h2 : SE Γ X e2 (evE C m2)) (hs2 : stB e2 = false) : SI Γ X true (.Tuple elts kk tpos) (.Call (.Name "zip" p) [e, e2] [] pos) (evIt C (.zip m m2)) := by
  refine ⟨fun W tk => PI.imp (pi_zip (ta := tCons (tE Γ (evE C m) W) (tCons (tE Γ (evE C m2) W) tNil)) hg hm (pa_cons (h W tk) (pa_cons (h2 W tk) pa_nil (star_cons hs2)) (star_cons hs)) (star_cons hs) (by rw [star_cons hs2]; rfl)) ?_, ff_no rfl⟩
  rintro σ H Rk ⟨loc, s, R, L, A⟩
  simp only [evIt] at A
  refine ⟨loc, s, R, L, A.bind.imp (fun v s1 H1 x1 R1 A1 u r => ?_) (fun _ _ _ _ _ q => q)⟩
  refine ⟨loc, s1, R1, L.ext x1, A1.bind.imp (fun w s2 H2 x2 R2 A2 u2 r2 => ?_) (fun _ _ _ _ _ q => q)⟩
  obtain ⟨xs, s3, a, us, x3, R3, e, hF, rs, A3⟩ := A2.lstP R2 (r.ext x2)
  obtain ⟨ys, s4, c, ws, x4, R4, e', hF', rs', A4⟩ := A3.lstP R3 (r2.ext x3)
  have hF4 := x4.F _ _ hF
  rw [hK]
  exact ⟨a, c, us, ws, by rw [e, e'], SqL.of (R4.fz _ _ hF4), SqL.of (R4.fz _ _ hF'), After.ok R4 A4 _ (wk_zip hF4 (rs.mono x4.F xs us) hF' rs')⟩
end
end MS

set_option Elab.async false
set_option linter.all false
set_option maxRecDepth 100000
set_option maxHeartbeats 2000000
/-! MRX: exceptions that leave a comprehension. -/
namespace MS
open PySem PySem.Spec PyProof.Rows L2
section
variable {M : Model} {A : Around} {E : Value → Shared → Prop} {s : Shared} {env : Env}
/-- behind the block, the exception goes on from the frame it stands in -/
def cPost (M : Model) (A : Around) (E : Value → Shared → Prop) (use : Option (Value → Sem Unit)) (Q : Value → Shared → Prop) (acc : Value) (cenv : Env) (r : Result) (s' : Shared) : Prop :=
  match r with
  | .ok f => compPost M A E use Q acc cenv.locals (.ok f) s'
  | .error x => ∃ m, s'.heap.Ns cenv.locals m ∧ ∀ h', Heap.SameBut cenv.locals s'.heap h' → wpAny M A (PySem.passOn "comprehension.variables-let-go" x cenv : Sem Value) (fun _ _ => False) E { s' with heap := h' }
theorem comp_x {e : Expr} {scope : Scope} {pos : Pos} {newAcc first : Sem Value} {g : Comprehension} {gs : List Comprehension} {cl : List (Str × Addr)} {use : Option (Value → Sem Unit)} {Q : Value → Shared → Prop}
    (cls0 : clausesOf e = g :: gs) (hs : ∀ x, foldedSetIterable g.iter env x = pure x) (clos : closureFor scope env = pure cl)
    (isFn : scope.kind = .function) (locs : ∀ x ∈ scope.names, x.2 = .local → scope.names.lookup x.1 = some .local)
    (h : wpAny M A first (fun x s₁ => wpAny M A (pyIter x) (fun it s₂ => wpAny M A newAcc (fun acc s₃ =>
      wpAny M A (newFunctionEnv scope env.globals cl [] env.qual none .none (some env)) (fun cenv s₄ =>
        codeAny M A (.compStart e 0 it acc { cenv with scope := relabel scope env }) (cPost M A E use Q acc { cenv with scope := relabel scope env }) s₄) E s₃) E s₂) E s₁) E s) :
    wpAny M A (comprehension e scope env pos newAcc false first use) Q E s := by
  unfold comprehension
  rw [clos, cls0]
  refine wpAny_bind (wpAny_mono h (fun x s₁ k₁ => wpAny_bind (wpAny_standAt (wpAny_bind (wpAny_of_eq (hs x) (wpAny_bind (wpAny_holding (wpAny_mono k₁ (fun it s₂ k₂ =>
    wpAny_standIf (wpAny_bind (wpAny_mono k₂ (fun acc s₃ k₃ => wpAny_bind (wpAny_pure (wpAny_bind (wpAny_mono k₃ (fun cenv s₄ k₄ => ?_) fun _ _ h' => h')))) fun _ _ h' => h')))
      fun _ _ h' => h'))))))) fun _ _ h' => h')
  dsimp only
  have lc1 : ∀ x ∈ (scope.names.filter fun x => (x.2 == .local || x.2 == .cell) && x.1 != (".0" : Str)).reverse, x.2 = .local →
      Env.kindOf { cenv with scope := relabel scope env } x.1 = some .local := fun x hx hl => lookup_relabel_local (locs x (List.mem_filter.mp (List.mem_reverse.mp hx)).1 hl)
  have lc2 : ∀ x ∈ (scope.names.filter fun x => (x.2 == .local || x.2 == .cell) && x.1 != (".0" : Str)).reverse.drop 1 ++ (scope.names.filter fun x => (x.2 == .local || x.2 == .cell) && x.1 != (".0" : Str)).reverse.take 1,
      x.2 = .local → Env.kindOf { cenv with scope := relabel scope env } x.1 = some .local := fun x hx hl => by
    rcases List.mem_append.mp hx with h1 | h1
    · exact lc1 x (List.mem_of_mem_drop h1) hl
    · exact lc1 x (List.mem_of_mem_take h1) hl
  refine wpAny_holding (wpAny_bind (wpAny_attempt (wpAny_holding (wpAny_run (codeAny_mono k₄ fun r s' hr => ?_)))))
  cases r with
  | ok f =>
    cases use with
    | none =>
      obtain ⟨m, hn, hr⟩ := hr
      exact wpAny_bind (wpAny_holding (wpAny_comp_letGo (cenv := { cenv with scope := relabel scope env }) isFn _ s' m lc1 hn fun h' m' _ hs' => wpAny_pure (hr h' hs')))
    | some u =>
      refine wpAny_bind (wpAny_rule (wpAny_bind (wpAny_holding (wpAny_mono hr (fun _ s'' hr' => ?_) fun _ _ h' => h'))))
      obtain ⟨m, hn, hr'⟩ := hr'
      exact wpAny_bind (wpAny_comp_letGo (cenv := { cenv with scope := relabel scope env }) isFn _ s'' m lc2 hn fun h' m' _ hs' => wpAny_pure (hr' h' hs'))
  | error x =>
    obtain ⟨m, hn, hr⟩ := hr
    exact wpAny_bind (wpAny_holding (wpAny_comp_letGo (cenv := { cenv with scope := relabel scope env }) isFn _ s' m lc1 hn fun h' m' _ hs' => wpAny_mono (hr h' hs') (fun _ _ f => f.elim) fun _ _ y => y))
/-- the frame is what noteFrame asks of an environment -/
theorem note_env {e : Value} {c : Env} (h : c.frame = env.frame) : noteFrame e c = noteFrame e env := by
  unfold noteFrame PySem.frameOf
  rw [h]
/-- noted elsewhere -/
theorem looks_else {base : Heap} {outer : List Env} {e L L' : Addr} {Z : Obj → Prop} {Q : Unit → Shared → Prop} (hZ : HandSPX.Steady Z) (hfr : A.frames = some (env :: outer)) (hf : env.frame = some L) (hne : L' ≠ L) (hfl : HandSPX.HeldZ base (env :: outer) e Z L' s.heap)
    (hQ : ∀ h', HandSPX.HeldZ base (env :: outer) e Z L h' → s.heap.UpToSlots h' → Q () { s with heap := h' }) : wpAny M A (noteFrame (.ref e) env) Q E s := by
  obtain ⟨kb, en0, hl, oe, vs, T, oT, ts, he, hz, hd, h1, nT, Te, hT, dT, h3⟩ := hfl
  unfold noteFrame
  simp only [hf]
  refine wpAny_bind (wpAny_field he hd h1 ?_)
  rw [if_pos (show (Value.ref T != Value.none) = true from by simp)]
  refine wpAny_bind (wpAny_field hT dT h3 ?_)
  rw [if_neg (show ¬ ((rawInt L' == rawInt L) = true) from by
    intro q
    have q := eq_of_beq q
    unfold rawInt at q
    injection q with q
    exact hne (Int.ofNat.inj q))]
  refine wpAny_bind (wpAny_setField hT dT (Array.getElem?_eq_some_iff.mp h3).1 ?_)
  have rest0 : ∀ b, b ≠ T → (s.heap.update T (Obj.mapFields (·.setIfInBounds 3 Value.none))).get? b = s.heap.get? b := fun b hb => Heap.get?_update_other _ _ (Ne.symm hb)
  have noFld : ∀ b o, s.heap.get? b = some o → (∀ vs, o.data ≠ .fields vs) → b ≠ T := fun b o hb hnf q => by
    rw [q, hT] at hb; injection hb with hb; subst hb; exact hnf ts dT
  refine HandSPX.wpAny_entryZ hZ hfr (hl.of_keeps fun b o hb hnf => ⟨o, (rest0 b (noFld b o hb hnf)).trans hb, rfl⟩) hf ((rest0 e (Ne.symm Te)).trans he)
    (fun b o hbo => (rest0 b fun q => by rw [q, nT] at hbo; cases hbo).trans (kb b o hbo)) en0 hd (Array.getElem?_eq_some_iff.mp h1).1 hz fun h' hN => ?_
  obtain ⟨x1, x2, x3, x4⟩ := hN
  exact hQ h' ⟨x1, en0, x2, x3⟩ fun b o hb hnf => x4 b o ((rest0 b (noFld b o hb hnf)).trans hb) hnf
end
/-- the block, with what is wished of its exceptions -/
abbrev blkX (X : Cx) (s : Shared) (H : Hp) (scope : Scope) (cenv : Env) (fp : List Addr) (xe : Value → Shared → Prop) : Cx := { X with s_0 := s, H_0 := H, env := cenv, outer := X.stack, ex := fp, fn := fun x => scope.names.lookup x == some .cell, pn := [], xe := xe }
/-- the wish of the block, of the def's slots -/
def wB (W : WX) (σ : L2.St) : WX := fun cls d _ H => W cls d σ H
theorem frames_but {h h' B B' : Heap} {C : Addr} (hb : ∀ b, b ≠ C → h'.get? b = h.get? b) (hB : ∀ b, B.get? b = none → B'.get? b = none) : ∀ {l : List Env}, (∀ L ∈ frs l, L ≠ C) → h.FunFrames B l → h'.FunFrames B' l
  | [], _, _ => trivial
  | env :: l, n, ⟨hk, ⟨L, o, hf, hn, ho, hd⟩, hr⟩ => by
    have hL : L ≠ C := n L (List.mem_filterMap.mpr ⟨env, List.mem_cons_self, hf⟩)
    exact ⟨hk, ⟨L, o, hf, hB L hn, (hb L hL).trans ho, hd⟩, frames_but hb hB (fun b hb => n b (by
      obtain ⟨e, he, q⟩ := List.mem_filterMap.mp hb
      exact List.mem_filterMap.mpr ⟨e, List.mem_cons_of_mem _ he, q⟩)) hr⟩
section
variable {X : Cx} {pins : List (Addr × Obj)} {σ : L2.St} {H3 : Hp} {s3 : Shared} {W : WX} {scope : Scope} {ce : Env} {fp : List Addr} {use : Option (Value → Sem Unit)} {Qf : Value → Shared → Prop} {acc : Value}
theorem blk_takes (I3 : Inv X pins σ H3 s3) (hs : X.stack = X.env :: X.outer) (hf : X.env.frame = some X.env.locals) (tk : Takes X W) (cL : ce.locals = s3.heap.objs.size) (cF : ce.frame = X.env.frame)
    (f3 : ∀ b ∈ fp, FpOk X pins H3 b ∧ b < s3.heap.objs.size) :
    Takes (blkX X s3 H3 scope ce fp (notedBy (model X.prog X.w) X.A ce (fun e s' => cPost (model X.prog X.w) X.A X.xe use Qf acc ce (.error e) s'))) (wB W σ) := by
  rintro u s' ⟨a, B, sI, pins', σ', H', cls, d, rfl, I, nb, up, sky, na, os, ag, w⟩
  have hfr : X.A.frames = some (X.env :: X.outer) := by rw [I3.ok.frames, hs]
  have sky : Sky B (X.env :: X.outer) a (Zc cls d) ce.locals s'.heap := by rw [← hs]; exact sky
  have nC : H' ce.locals = none := I.free
  have cfr : ∀ b ∈ frs X.stack, b ≠ ce.locals := fun b hb z => by
    obtain ⟨_, o, e, _⟩ := I3.stack.mem hb
    have := Heap.lt_size e
    rw [z, cL] at this
    exact absurd this (Nat.lt_irrefl _)
  have cne : ce.locals ≠ X.env.locals := fun z => cfr X.env.locals (List.mem_filterMap.mpr ⟨X.env, by rw [hs]; exact List.mem_cons_self, hf⟩) z.symm
  show wpAny _ _ (noteFrame (.ref a) ce) _ _ _
  rw [note_env cF]
  have endT : ∀ h1, HandSPX.HeldZ B (X.env :: X.outer) a (Zc cls d) X.env.locals h1 → s'.heap.UpToSlots h1 → cPost (model X.prog X.w) X.A X.xe use Qf acc ce (.error (.ref a)) { s' with heap := h1 } := fun h1 hh up1 => by
    obtain ⟨m, hn, _⟩ := I.loc
    obtain ⟨oC, es, ep, hoC, hdC, hsk, hns⟩ := id (show sI.heap.Ns ce.locals m from hn)
    have hBC : B.get? ce.locals = some oC := nb _ _ hoC (fun z => cfr _ z rfl)
    obtain ⟨k1, k2, k3, oe, vs, T, oT, ts, he, hz, hd, h1', nT, Te, hT, dT, h3⟩ := hh
    have hC1 : h1.get? ce.locals = some oC := k1 _ _ hBC
    refine ⟨m, ⟨oC, es, ep, hC1, hdC, hsk, hns⟩, fun h' sb => ?_⟩
    have aC : a ≠ ce.locals := fun z => by
      rw [z, hC1] at he
      cases he
      rw [hdC] at hd
      cases hd
    have TC : T ≠ ce.locals := fun z => by
      rw [z, hC1] at hT
      cases hT
      rw [hdC] at dT
      cases dT
    obtain ⟨B', b1, b2⟩ := restrict B fun c => decide (c ≠ ce.locals)
    have b1 : ∀ c, c ≠ ce.locals → B'.get? c = B.get? c := fun c hc => b1 c (decide_eq_true hc)
    have b2 : B'.get? ce.locals = none := b2 _ (by simp)
    obtain ⟨G, g1, g2⟩ := restrict sI.heap fun c => decide (c ≠ ce.locals)
    have g1 : ∀ c, c ≠ ce.locals → G.get? c = sI.heap.get? c := fun c hc => g1 c (decide_eq_true hc)
    have g2 : G.get? ce.locals = none := g2 _ (by simp)
    have offB : ∀ {c o}, B'.get? c = some o → c ≠ ce.locals := fun {c o} q z => by rw [z, b2] at q; cases q
    have offG : ∀ {c o}, G.get? c = some o → c ≠ ce.locals := fun {c o} q z => by rw [z, g2] at q; cases q
    have hh' : HandSPX.HeldZ B' (X.env :: X.outer) a (Zc cls d) X.env.locals h' := by
      refine ⟨fun b o q => (sb.2 b (offB q)).trans (k1 b o ((b1 b (offB q)).symm.trans q)), ?_, frames_but (C := ce.locals) sb.2 (fun b q => ?_) (by rw [← hs]; exact cfr) k3, ?_⟩
      · rw [b1 a aC]; exact k2
      · by_cases z : b = ce.locals
        · rw [z]; exact b2
        · rw [b1 b z]; exact q
      · exact ⟨oe, vs, T, oT, ts, (sb.2 a aC).trans he, hz, hd, h1', by rw [b1 T TC]; exact nT, Te, (sb.2 T TC).trans hT, dT, h3⟩
    have lt3 : ∀ {b o}, s3.heap.get? b = some o → b ≠ ce.locals := fun {b o} q z => by
      have := Heap.lt_size q
      rw [z, cL] at this
      exact absurd this (Nat.lt_irrefl _)
    have U : Un (frs X.stack) fp H3 H' s3.heap G := by
      have V : Un (frs X.stack) fp H3 H' s3.heap sI.heap := I.base
      refine ⟨?_, ?_, ?_, ?_, V.tups, V.frzs, V.tbls⟩
      · exact fun b o q n hb hx => by rw [g1 b (lt3 q)]; exact V.keep b o q n hb hx
      · exact fun b o q n hb hx => by rw [g1 b (lt3 q)]; exact V.slot b o q n hb hx
      · exact fun b o q n hx => V.free b o q n hx
      · exact fun b o q hx => by rw [g1 b (lt3 q)]; exact V.there b o q hx
    have hokG : HOk X.prog X.w H' G := fun c o q => by
      have hc : c ≠ ce.locals := fun z => by rw [z, nC] at q; cases q
      refine ((show HOk X.prog X.w H' sI.heap from I.hok) c o q).stay (fun b v hb y => ?_) (fun _ y => y) fun _ _ y => y
      have hbc : b ≠ ce.locals := by
        rcases hb with hb | hb
        · rw [hb]; exact hc
        · exact fun z => by rw [z, nC] at hb; cases hb
      rw [g1 b hbc]
      exact y
    have J : Inv X pins σ H' { sI with heap := G } := I3.call' (ch := fp) I.os U hokG I.bare fun b hb => ⟨(f3 b hb).1.2.2.2.1, (f3 b hb).1.2.1, (f3 b hb).1.2.2.2.2.1, (f3 b hb).1.2.2.2.2.2⟩
    unfold PySem.passOn
    refine wpAny_bind (wpAny_field ((sb.2 a aC).trans he) hd h1' ?_)
    rw [if_neg (show ¬ ((Value.ref T == Value.none) = true) from by simp)]
    have last : wpAny (model X.prog X.w) X.A (setFlight (.ref a) ce.frame) (fun _ s4 => wpAny (model X.prog X.w) X.A (throw (.ref a) : Sem Value) (fun _ _ => False) X.xe s4) X.xe { s' with heap := h' } := by
      rw [cF, hf]
      refine HandSPX.setFlight_onZ hh' fun h4 hh4 up4 => wpAny_throw (tk _ _ ?_)
      refine ⟨a, B', { sI with heap := G }, pins, σ, H', cls, d, rfl, J, fun b o q hb => ?_, fun b o q hnf => ?_, .inr (.inr (by rw [hs]; exact hh4)), na, os, ag, w⟩
      · have hc := offG q
        rw [b1 b hc]
        exact nb b o ((g1 b hc).symm.trans q) hb
      · have hc := offG q
        obtain ⟨sl1, q1⟩ := up b o ((g1 b hc).symm.trans q) hnf
        obtain ⟨sl2, q2⟩ := up1 b _ q1 hnf
        obtain ⟨sl3, q3⟩ := up4 b _ ((sb.2 b hc).trans q2) hnf
        exact ⟨sl3, q3⟩
    first
      | exact wpAny_bind (wpAny_pure (wpAny_bind last))
      | exact wpAny_bind last
  rcases sky with ⟨hB, hn, hl, oe, vs, he, hz, hd, h1⟩ | fl | hh
  · exact HandSPX.look_newZ Zc.steady hfr hl hf he hB hn hd h1 hz endT
  · exact HandSPX.looks_onZ Zc.steady hfr hf fl endT
  · exact looks_else Zc.steady hfr hf cne hh endT
/-- the core of a list comprehension, exceptions let out -/
theorem lc_coreX {Q : VK} {s : Shared} {H : Hp} {elt tg iter : Expr} {ifs : List Expr} {own : List (Str × Nat)} {pos pos' : Pos} {wi : TI} {g : TG} {tt : WX → TT} {te : WX → TE}
    (hc : X.calm = true) (hN : X.N.Nodup) (hs : X.stack = X.env :: X.outer) (hf : X.env.frame = some X.env.locals) (tk : Takes X W) (I : Inv X pins σ H s) (hi : PI X tg iter wi) (ok : BlkOk X.N X.env.scope scope own)
    (hg : ∀ (s : Shared) (H : Hp) (C : Addr) (cl : List (Str × Addr)) (fp : List Addr) (xe : Value → Shared → Prop), PG (blkX X s H scope (compEnvC scope cl C X.env) fp xe) tg g)
    (ht : ∀ (s : Shared) (H : Hp) (C : Addr) (cl : List (Str × Addr)) (fp : List Addr) (xe : Value → Shared → Prop) (W' : WX), Takes (blkX X s H scope (compEnvC scope cl C X.env) fp xe) W' → PTs (blkX X s H scope (compEnvC scope cl C X.env) fp xe) ifs (tt W'))
    (he : ∀ (s : Shared) (H : Hp) (C : Addr) (cl : List (Str × Addr)) (fp : List Addr) (xe : Value → Shared → Prop) (W' : WX), Takes (blkX X s H scope (compEnvC scope cl C X.env) fp xe) W' → PE (blkX X s H scope (compEnvC scope cl C X.env) fp xe) elt (te W')) (hfo : ∀ x, foldedSetIterable iter X.env x = pure x)
    (h : tLc wi g (tt (wB W σ)) (te (wB W σ)) (own.map (·.2)) σ H Q)
    (hEnd : ∀ D C s' m H', Inv X pins σ H' s' → Q (.ref D) H' → s'.heap.Ns C m → FpOk X pins H' C → compPost (model X.prog X.w) X.A X.xe use Qf (.ref D) C (.ok .next) s') :
    wpAny (model X.prog X.w) X.A (comprehension (.ListComp elt [⟨tg, iter, ifs, 0⟩] scope pos) scope X.env pos' (newList []) false (eval iter X.env) use) Qf X.xe s := by
  have own0 : ∀ y ∈ scope.names, y.2 = .free → ∃ c, X.env.cells.lookup y.1 = some c := fun y hy e => by
    rcases ok.free y hy e with k | k
    · exact I.ok.has _ (.inl k)
    · exact I.ok.has _ (.inr k)
  refine comp_x (use := use) rfl hfo (closure_ok own0) ok.kind (fun y hy e => by rw [ok.uniq y hy, e])
    (thn (hi.run pins s σ H _ I h) fun xv s1 hx => thn hx fun itv s2 h2 => ?_)
  obtain ⟨it, fp, tn, J, H2, e, J2, T, at2, f2, q⟩ := h2
  subst e
  refine wpAny_newObj_type (newEnv_comp ?_) (by show 0 ≤ sizeLine; decide)
  generalize isD : s2.heap.objs.size = D
  have newD : H2 D = none := J2.hok.fresh (Nat.le_of_eq isD)
  obtain ⟨Wm, ⟨m0, m00⟩, roundW⟩ := q D newD
  generalize is3 : ({ s2 with heap := s2.heap.push { cls := .type "list", data := .seq ([] : List Value).toArray } } : Shared) = s3
  have I3 : Inv X pins σ (upd H2 D (.lst [])) s3 := by
    rw [← is3]
    refine J2.laid (t' := s2.toks) (fun b o e => Heap.get?_push_of_some _ e) (Nat.le_of_eq isD) ⟨Nat.zero_le _, [], 0, .nil, ?_⟩
    rw [← isD]
    exact Heap.get?_push_size _ rfl
  have h3 : s3.heap = s2.heap.push { cls := .type "list", data := .seq ([] : List Value).toArray } := by rw [← is3]
  have below : ∀ b ∈ fp, b < s2.heap.objs.size := fun b hb => by
    obtain ⟨o, e, _⟩ := T.obj _ _ at2 b hb
    exact Heap.lt_size e
  have f3 : ∀ b ∈ fp, FpOk X pins (upd H2 D (.lst [])) b ∧ b < s3.heap.objs.size := fun b hb => by
    have ltb := below b hb
    refine ⟨⟨?_, (f2 b hb).2⟩, by rw [h3, Heap.size_push]; exact Nat.lt_succ_of_lt ltb⟩
    rw [upd_ne (by rw [← isD]; exact Nat.ne_of_lt ltb)]
    exact (f2 b hb).1
  have at3 : tn 0 s3.heap := T.keep _ _ _ at2 fun b _ o e => by rw [h3]; exact Heap.get?_push_of_some _ e
  have I4' := block_start I3 ok hN f3
  have cL' : (compEnvC scope (cellsFrom (s3.heap.objs.size + 1) scope.names (cloFrom X.env.cells scope.names [])) s3.heap.objs.size X.env).locals = s3.heap.objs.size := rfl
  have tk' := blk_takes (use := use) (Qf := Qf) (acc := .ref D) (scope := scope) (ce := compEnvC scope (cellsFrom (s3.heap.objs.size + 1) scope.names (cloFrom X.env.cells scope.names [])) s3.heap.objs.size X.env) I3 hs hf tk cL' rfl f3
  generalize hxe : notedBy (model X.prog X.w) X.A (compEnvC scope (cellsFrom (s3.heap.objs.size + 1) scope.names (cloFrom X.env.cells scope.names [])) s3.heap.objs.size X.env) (fun e s' => cPost (model X.prog X.w) X.A X.xe use Qf (.ref D) (compEnvC scope (cellsFrom (s3.heap.objs.size + 1) scope.names (cloFrom X.env.cells scope.names [])) s3.heap.objs.size X.env) (.error e) s') = xe at tk'
  have pg := hg s3 (upd H2 D (.lst [])) s3.heap.objs.size (cellsFrom (s3.heap.objs.size + 1) scope.names (cloFrom X.env.cells scope.names [])) fp xe
  have pt := ht s3 (upd H2 D (.lst [])) s3.heap.objs.size (cellsFrom (s3.heap.objs.size + 1) scope.names (cloFrom X.env.cells scope.names [])) fp xe _ tk'
  have pe := he s3 (upd H2 D (.lst [])) s3.heap.objs.size (cellsFrom (s3.heap.objs.size + 1) scope.names (cloFrom X.env.cells scope.names [])) fp xe _ tk'
  show codeAny _ _ (.compStart (.ListComp elt [⟨tg, iter, ifs, 0⟩] scope pos) 0 (.ref it) (.ref D) (compEnvC scope (cellsFrom (s3.heap.objs.size + 1) scope.names (cloFrom X.env.cells scope.names [])) s3.heap.objs.size X.env)) (cPost (model X.prog X.w) X.A X.xe use Qf (.ref D) (compEnvC scope (cellsFrom (s3.heap.objs.size + 1) scope.names (cloFrom X.env.cells scope.names [])) s3.heap.objs.size X.env)) { s3 with heap := pushCells (s3.heap.push { cls := .type "dict", data := .dict #[] }) scope.names }
  have noneF : ∀ b ∈ fp, (upd H2 D (.lst [])) b = none := fun b hb => (f3 b hb).1.1
  have J4 : Inv (blkX X s3 (upd H2 D (.lst [])) scope (compEnvC scope (cellsFrom (s3.heap.objs.size + 1) scope.names (cloFrom X.env.cells scope.names [])) s3.heap.objs.size X.env) fp xe) [] (wipe σ (own.map (·.2))) (upd H2 D (.lst [])) { s3 with heap := pushCells (s3.heap.push { cls := .type "dict", data := .dict #[] }) scope.names } := I4'.wish xe
  clear I4'
  generalize hce : compEnvC scope (cellsFrom (s3.heap.objs.size + 1) scope.names (cloFrom X.env.cells scope.names [])) s3.heap.objs.size X.env = ce at J4 pg pt pe hxe cL' ⊢
  have cL : ce.locals = s3.heap.objs.size := cL'
  generalize isH3 : upd H2 D (.lst []) = H3 at I3 J4 pg pt pe m00 noneF f3
  generalize is4 : ({ s3 with heap := pushCells (s3.heap.push { cls := .type "dict", data := .dict #[] }) scope.names } : Shared) = s4 at J4 ⊢
  have at4 : tn 0 s4.heap := T.keep _ _ _ at3 fun b _ o e => by rw [← is4]; exact pushCells_keeps _ _ _ _ (Heap.get?_push_of_some _ e)
  have fps : ∀ {σ' : L2.St} {H' : Hp} {s' : Shared}, Inv (blkX X s3 H3 scope ce fp xe) [] σ' H' s' → (∀ b ∈ fp, H' b = none) → ∀ b ∈ fp, FpOk (blkX X s3 H3 scope ce fp xe) [] H' b := fun {σ' H' s'} I' hn b hb =>
    ⟨hn b hb, (I'.ok.exf b hb).1, I'.ok.exfs b hb, .inl hb, fun x c e => (I'.ok.exf b hb).2 x c e, fun p hp => absurd (show p ∈ ([] : List (Addr × Obj)) ++ [] from hp) (by simp)⟩
  have loop : codeAny (model X.prog X.w) X.A (.compLoop (.ListComp elt [⟨tg, iter, ifs, 0⟩] scope pos) 0 (.ref it) (.ref D) ce) (cPost (model X.prog X.w) X.A X.xe use Qf (.ref D) ce) s4 := by
    refine compLoop_any (fun n s' => ∃ i H', Inv (blkX X s3 H3 scope ce fp xe) [] (wipe σ (own.map (·.2))) H' s' ∧ tn i s'.heap ∧ (∀ b ∈ fp, H' b = none) ∧ Wm i n H') ?_ m0 ⟨0, H3, J4, at4, noneF, m00⟩
    rw [hxe]
    rintro n u5 ⟨i, G5, J5, at5, f5, m5⟩
    rcases roundW i n G5 m5 with ⟨stop, qq⟩ | ⟨go, Nx, onward, step⟩
    · have td := T.done (blkX X s3 H3 scope ce fp xe) rfl rfl rfl hc i [] u5 _ G5 (fun _ _ => False) J5 (fps J5 f5) at5 stop
      refine thnF td fun r u6 ⟨hr, J6⟩ => ?_
      subst hr
      have J7 : Inv X pins σ G5 u6 := I3.call' (ch := fp) J6.os J6.base J6.hok J6.bare fun b hb => ⟨(f3 b hb).1.2.2.2.1, (f3 b hb).1.2.1, (f3 b hb).1.2.2.2.2.1, (f3 b hb).1.2.2.2.2.2⟩
      have nC : G5 s3.heap.objs.size = none := by
        have z : G5 ce.locals = none := J6.free
        rw [cL] at z
        exact z
      obtain ⟨m, hn, _⟩ := J6.loc
      have hn : u6.heap.Ns ce.locals m := hn
      show compPost _ _ _ _ _ _ ce.locals _ _
      rw [cL] at hn ⊢
      exact hEnd D s3.heap.objs.size u6 m G5 J7 qq hn (I3.fpOk (Nat.le_refl _) nC)
    · have ti := T.item (blkX X s3 H3 scope ce fp xe) rfl rfl rfl hc i [] u5 _ G5 (fun _ _ => False) J5 (fps J5 f5) at5 go
      refine thnF ti fun r u6 ⟨u, hr, h6⟩ => ?_
      subst hr
      refine thnF h6 fun _ u7 ⟨x, G7, J7, r7, y7, at7, n7⟩ => ?_
      have I7' := J7.pinned (fps J7 n7) (T.obj _ _ at7)
      refine thn (pg.run _ u7 _ G7 x u _ I7' r7 (step x G7 y7)) fun _ u8 ⟨σ8, G8, J8, hw8, q8⟩ => ?_
      refine thn (pt.run _ u8 σ8 G8 _ J8 q8) fun b u9 ⟨G9, J9, q9⟩ => ?_
      have endT : ∀ {s' : Shared} {H' : Hp}, Inv (blkX X s3 H3 scope ce fp xe) ([] ++ pinsAt fp u7.heap) σ8 H' s' → Nx H' → ∃ m, m < n ∧ ∃ i H', Inv (blkX X s3 H3 scope ce fp xe) [] (wipe σ (own.map (·.2))) H' s' ∧ tn i s'.heap ∧ (∀ b ∈ fp, H' b = none) ∧ Wm i m H' := fun {s' H'} I' nx => by
        obtain ⟨m', hm, w'⟩ := onward H' nx
        have pinned0 : ∀ b ∈ fp, ∀ o, u7.heap.get? b = some o → s'.heap.get? b = some o ∧ H' b = none := fun b hb o e =>
          let z := I'.pin (b, o) (List.mem_append_right _ (List.mem_append_right _ (mem_pinsAt hb e)))
          ⟨z.1, z.2.1⟩
        have hl : (wipe σ (own.map (·.2))).length = σ8.length := by rw [← hw8, wipe_length]
        refine ⟨m', hm, i + 1, H', (I'.unpinned (pins := [])).weak hl (fun j v e => ?_), T.keep _ _ _ at7 fun b hb o e => (pinned0 b hb o e).1, fun b hb => ?_, w'⟩
        · rw [← hw8] at e
          exact (wipe_some e).1
        · obtain ⟨o, e, _⟩ := T.obj _ _ at7 b hb
          exact (pinned0 b hb o e).2
      cases b with
      | false =>
        simp only [Bool.false_eq_true, if_false] at q9 ⊢
        exact endT J9 q9
      | true =>
        simp only [if_true] at q9 ⊢
        refine thn (pe.run _ u9 σ8 G9 _ J9 q9) fun z u10 ⟨yv, G10, J10, r10, acc, hD10, hz10, nx⟩ => ?_
        exact app_ok (X := blkX X s3 H3 scope ce fp xe) J10 hD10 hz10 r10 fun u11 J11 => endT J11 nx
  exact codeAny_compStart_list loop (T.self X.A 0 _ _ _ at4 loop)
end
section
variable {X : Cx} {W : WX} {elt tg iter : Expr} {ifs : List Expr} {scope : Scope} {own : List (Str × Nat)} {pos : Pos} {wi : TI} {g : TG} {tt : WX → TT} {te : WX → TE}
/-- as a value -/
theorem pe_lcX (hc : X.calm = true) (hN : X.N.Nodup) (hst : X.stack = X.env :: X.outer) (hf : X.env.frame = some X.env.locals) (tk : Takes X W) (hi : PI X tg iter wi) (ok : BlkOk X.N X.env.scope scope own)
    (hg : ∀ (s : Shared) (H : Hp) (C : Addr) (cl : List (Str × Addr)) (fp : List Addr) (xe : Value → Shared → Prop), PG (blkX X s H scope (compEnvC scope cl C X.env) fp xe) tg g)
    (ht : ∀ (s : Shared) (H : Hp) (C : Addr) (cl : List (Str × Addr)) (fp : List Addr) (xe : Value → Shared → Prop) (W' : WX), Takes (blkX X s H scope (compEnvC scope cl C X.env) fp xe) W' → PTs (blkX X s H scope (compEnvC scope cl C X.env) fp xe) ifs (tt W'))
    (he : ∀ (s : Shared) (H : Hp) (C : Addr) (cl : List (Str × Addr)) (fp : List Addr) (xe : Value → Shared → Prop) (W' : WX), Takes (blkX X s H scope (compEnvC scope cl C X.env) fp xe) W' → PE (blkX X s H scope (compEnvC scope cl C X.env) fp xe) elt (te W')) (hs : ∀ x, foldedSetIterable iter X.env x = pure x := by intro _; rfl) :
    PE X (.ListComp elt [⟨tg, iter, ifs, 0⟩] scope pos) (fun σ H Q => tLc wi g (tt (wB W σ)) (te (wB W σ)) (own.map (·.2)) σ H Q) := by
  refine ⟨fun pins s σ H Q I h => ?_⟩
  rw [eval_ListComp]
  refine lc_coreX hc hN hst hf tk I hi ok hg ht he hs h fun D C s' m H' I' q hn f => ⟨m, hn, fun h'' sb => ?_⟩
  obtain ⟨f0, f1, f2, f3, f4, f5⟩ := f
  exact ⟨.ref D, H', I'.turned (t' := s'.toks) (fun b o hb e => (sb.2 b hb).trans e) f0 f1 f3 f4 f5, rfl, q⟩
/-- name = [..] on one line, the name a local -/
theorem ps_setLcX {i : Nat} {y : Str} {py spos : Pos} (hc : X.calm = true) (hN : X.N.Nodup) (hst : X.stack = X.env :: X.outer) (hf : X.env.frame = some X.env.locals) (tk : Takes X W) (hy : X.N[i]? = some y) (hyl : X.env.scope.names.lookup y = some .local)
    (hsw : swapsWith (.ListComp elt [⟨tg, iter, ifs, 0⟩] scope pos) (some (.Name y py)) spos.line X.env = pure true) (hi : PI X tg iter wi) (ok : BlkOk X.N X.env.scope scope own)
    (hg : ∀ (s : Shared) (H : Hp) (C : Addr) (cl : List (Str × Addr)) (fp : List Addr) (xe : Value → Shared → Prop), PG (blkX X s H scope (compEnvC scope cl C X.env) fp xe) tg g)
    (ht : ∀ (s : Shared) (H : Hp) (C : Addr) (cl : List (Str × Addr)) (fp : List Addr) (xe : Value → Shared → Prop) (W' : WX), Takes (blkX X s H scope (compEnvC scope cl C X.env) fp xe) W' → PTs (blkX X s H scope (compEnvC scope cl C X.env) fp xe) ifs (tt W'))
    (he : ∀ (s : Shared) (H : Hp) (C : Addr) (cl : List (Str × Addr)) (fp : List Addr) (xe : Value → Shared → Prop) (W' : WX), Takes (blkX X s H scope (compEnvC scope cl C X.env) fp xe) W' → PE (blkX X s H scope (compEnvC scope cl C X.env) fp xe) elt (te W')) (hs : ∀ x, foldedSetIterable iter X.env x = pure x := by intro _; rfl) :
    PS X (.Assign [.Name y py] (.ListComp elt [⟨tg, iter, ifs, 0⟩] scope pos) spos) (tAsg (fun σ H Q => tLc wi g (tt (wB W σ)) (te (wB W σ)) (own.map (·.2)) σ H Q) (gName i)) := by
  refine ⟨fun pins s σ H D I h => ?_⟩
  rw [exec_Assign_Name_used _ _ _ _ hsw]
  refine wpAny_bind (wpAny_standAt (wpAny_bind ?_))
  show wpAny _ X.A (do let _ ← comprehension (.ListComp elt [⟨tg, iter, ifs, 0⟩] scope pos) scope X.env (firstIterPos [⟨tg, iter, ifs, 0⟩] pos) (newList []) false (eval iter X.env) (some (assign (.Name y py) X.env))) _ _ s
  have h : tLc wi g (tt (wB W σ)) (te (wB W σ)) (own.map (·.2)) σ H (fun x H1 => gName i x σ H1 D.nx) := h
  refine wpAny_bind (thn (lc_coreX (Qf := fun _ s' => SP X pins D .next s') hc hN hst hf tk I hi ok hg ht he hs h fun L C s' m H' I' q hn f => ?_) fun _ s' hq => wpAny_pure (wpAny_pure hq))
  show wpAny _ _ (assign (.Name y py) X.env (.ref L)) _ _ _
  refine wpAny_assign_Name (store_ok2 (v := V.ref L) I' hN hy (.inl hyl) rfl (fun s2 J2 ⟨a, sb, ha⟩ => ?_) (.inr hyl))
  obtain ⟨f0, f1, f2, f3, f4, f5⟩ := f
  have haC : C ≠ a := by
    rcases ha with z | z
    · rw [z]; exact f1
    · exact fun e => f4 y a z e.symm
  refine ⟨m, hn.sameBut sb haC, fun h3 sb3 => ?_⟩
  exact ⟨_, H', J2.turned (t' := s2.toks) (fun b o hb e => (sb3.2 b hb).trans e) f0 f1 f3 f4 f5, q⟩
end
end MS

set_option Elab.async false
set_option linter.all false
set_option maxRecDepth 100000
/-! MSS: comprehensions. -/
namespace MS
open PySem PySem.Spec PyProof.Rows L2
section
variable {Γ : Run} {X : Cx} {C : Cl} {I : Info} {k : Nat} {pos p apos cpos : Pos}
/-! ### one thing held apart -/
def AS.fr (s : AS) (D : Addr) (o : HO) : AS := ⟨s.hp, s.F, upd s.Fr D o, s.ρ⟩
def AS.un (s : AS) (G : Hp) : AS := ⟨s.hp, s.F, G, s.ρ⟩
theorem fr_new {s : AS} {H : Hp} {D : Addr} {o : HO} (R : Rel Γ s H) (h : H D = none) : Rel Γ (s.fr D o) (upd H D o) := by
  obtain ⟨f1, f2⟩ := R.free h
  have nD : ∀ n a, s.ρ[n]? = some a → a ≠ D := fun n a e z => R.th n a e (by rw [z]; exact h)
  refine ⟨fun q u e => by rw [upd_ne (ne_of_none e f1)]; exact R.fz q u e, fun q u e => ?_, fun q u e => ?_, R.len, R.inj, fun n a e => upd_some (R.th n a e), fun n a e => ?_, fun n ob e => ?_⟩
  · have e : upd s.Fr D o q = some u := e
    by_cases hq : q = D
    · subst hq; rw [upd_same] at e ⊢; exact e
    · rw [upd_ne hq] at e ⊢; exact R.fr q u e
  · have e : upd s.Fr D o q = some u := e
    by_cases hq : q = D
    · subst hq; exact f1
    · rw [upd_ne hq] at e; exact R.dj q u e
  · show upd s.Fr D o a = none
    rw [upd_ne (nD n a e)]; exact R.nf n a e
  · obtain ⟨a, ea, c⟩ := R.cell n ob e
    have ne := nD n a ea
    refine ⟨a, ea, ?_⟩
    cases ob with
    | frz x => exact c
    | lst vs => obtain ⟨c1, c2, us, c3, c4⟩ := c; exact ⟨c1, by show upd s.Fr D o a = none; rw [upd_ne ne]; exact c2, us, by rw [upd_ne ne]; exact c3, c4⟩
    | dct vs => obtain ⟨c1, c2, us, c3, c4⟩ := c; exact ⟨c1, by show upd s.Fr D o a = none; rw [upd_ne ne]; exact c2, us, by rw [upd_ne ne]; exact c3, c4⟩
    | ins m vs => obtain ⟨c1, c2, dx, us, c3, c4⟩ := c; exact ⟨c1, by show upd s.Fr D o a = none; rw [upd_ne ne]; exact c2, dx, us, by rw [upd_ne ne]; exact c3, c4⟩
theorem fr_set {s : AS} {H : Hp} {D : Addr} {o o2 : HO} (R : Rel Γ s H) (h : s.Fr D = some o) : Rel Γ (s.fr D o2) (upd H D o2) := by
  have f1 := R.dj D o h
  have nD : ∀ n a, s.ρ[n]? = some a → a ≠ D := fun n a e z => by have := R.nf n a e; rw [z, h] at this; cases this
  refine ⟨fun q u e => by rw [upd_ne (ne_of_none e f1)]; exact R.fz q u e, fun q u e => ?_, fun q u e => ?_, R.len, R.inj, fun n a e => upd_some (R.th n a e), fun n a e => ?_, fun n ob e => ?_⟩
  · have e : upd s.Fr D o2 q = some u := e
    by_cases hq : q = D
    · subst hq; rw [upd_same] at e ⊢; exact e
    · rw [upd_ne hq] at e ⊢; exact R.fr q u e
  · have e : upd s.Fr D o2 q = some u := e
    by_cases hq : q = D
    · subst hq; exact f1
    · rw [upd_ne hq] at e; exact R.dj q u e
  · show upd s.Fr D o2 a = none
    rw [upd_ne (nD n a e)]; exact R.nf n a e
  · obtain ⟨a, ea, c⟩ := R.cell n ob e
    have ne := nD n a ea
    refine ⟨a, ea, ?_⟩
    cases ob with
    | frz x => exact c
    | lst vs => obtain ⟨c1, c2, us, c3, c4⟩ := c; exact ⟨c1, by show upd s.Fr D o2 a = none; rw [upd_ne ne]; exact c2, us, by rw [upd_ne ne]; exact c3, c4⟩
    | dct vs => obtain ⟨c1, c2, us, c3, c4⟩ := c; exact ⟨c1, by show upd s.Fr D o2 a = none; rw [upd_ne ne]; exact c2, us, by rw [upd_ne ne]; exact c3, c4⟩
    | ins m vs => obtain ⟨c1, c2, dx, us, c3, c4⟩ := c; exact ⟨c1, by show upd s.Fr D o2 a = none; rw [upd_ne ne]; exact c2, dx, us, by rw [upd_ne ne]; exact c3, c4⟩
theorem un_rel {s : AS} {H G : Hp} (R : Rel Γ s H) (le : Le G s.Fr) : Rel Γ (s.un G) H := by
  have no : ∀ a, s.Fr a = none → G a = none := fun a h => by
    cases e : G a with
    | none => rfl
    | some o => rw [le a o e] at h; cases h
  refine ⟨R.fz, fun q u e => R.fr q u (le q u e), fun q u e => R.dj q u (le q u e), R.len, R.inj, R.th, fun n a e => no a (R.nf n a e), fun n ob e => ?_⟩
  obtain ⟨a, ea, c⟩ := R.cell n ob e
  refine ⟨a, ea, ?_⟩
  cases ob with
  | frz x => exact c
  | lst vs => obtain ⟨c1, c2, us, c3, c4⟩ := c; exact ⟨c1, no a c2, us, c3, c4⟩
  | dct vs => obtain ⟨c1, c2, us, c3, c4⟩ := c; exact ⟨c1, no a c2, us, c3, c4⟩
  | ins m vs => obtain ⟨c1, c2, dx, us, c3, c4⟩ := c; exact ⟨c1, no a c2, dx, us, c3, c4⟩
theorem un_ext {s s' : AS} {G : Hp} (x : Ext s s') : Ext (s.un G) (s'.un G) := ⟨x.F, rfl, x.ρ⟩
/-- seen with more held apart -/
theorem After.more {α : Type} {s : AS} {G : Hp} {r : RH α} {Q : α → AS → Hp → Prop} {E : Ex → AS → Hp → Prop} (le : Le G s.Fr) (h : After Γ (s.un G) r Q E) : After Γ s r (fun a s' H' => Q a (s'.un G) H') (fun e s' H' => E e (s'.un G) H') := by
  cases r with
  | ok a hp => exact fun s' H' e x R => h (s'.un G) H' e (un_ext x) (un_rel R (by rw [x.Fr]; exact le))
  | exc y hp => exact fun s' H' e x R => h (s'.un G) H' e (un_ext x) (un_rel R (by rw [x.Fr]; exact le))
  | bad => exact h
/-- what was held apart, frozen -/
theorem un_frz {s : AS} {H G : Hp} {D : Addr} {o : HO} (R : Rel Γ s H) (le : Le G s.Fr) (h : s.Fr D = some o) (hG : G D = none) : Rel Γ ((s.un G).withF D o) H ∧ Ext (s.un G) ((s.un G).withF D o) := by
  have f1 := R.dj D o h
  have R1 := un_rel R le
  have lf : Le s.F (upd s.F D o) := Le.upd f1
  refine ⟨⟨fun q u e => ?_, R1.fr, fun q u e => ?_, R1.len, R1.inj, R1.th, R1.nf, fun n ob e => ?_⟩, ⟨lf, rfl, List.prefix_refl _⟩⟩
  · have e : upd s.F D o q = some u := e
    by_cases hq : q = D
    · subst hq; rw [upd_same] at e; cases e; exact R.fr _ _ h
    · rw [upd_ne hq] at e; exact R1.fz q u e
  · show upd s.F D o q = none
    have hq : q ≠ D := fun z => by subst z; have e : G q = some u := e; rw [hG] at e; cases e
    rw [upd_ne hq]; exact R1.dj q u e
  · obtain ⟨a, ea, c⟩ := R1.cell n ob e
    have ne : a ≠ D := fun z => by have := R.nf n a ea; rw [z, h] at this; cases this
    exact ⟨a, ea, c.mono lf (List.prefix_refl _) (.inl (upd_ne ne))⟩
/-- .., as a cell -/
theorem un_cell {s : AS} {H G : Hp} {D : Addr} {o : HO} {ob : Ob} (R : Rel Γ s H) (le : Le G s.Fr) (h : s.Fr D = some o) (hG : G D = none) (hc : Cell Γ s.F G (s.ρ ++ [D]) H D ob) : Rel Γ ((s.un G).push D ob) H ∧ Ext (s.un G) ((s.un G).push D ob) := by
  have R1 := un_rel R le
  have pre : s.ρ <+: s.ρ ++ [D] := List.prefix_append _ _
  have nop : ∀ {n : Nat} {b : Addr}, s.ρ[n]? = some b → b ≠ D := fun {n b} e z => by have := R.nf n b e; rw [z, h] at this; cases this
  have key : ∀ {n : Nat} {a : Addr}, (s.ρ ++ [D])[n]? = some a → s.ρ[n]? = some a ∨ (n = s.ρ.length ∧ a = D) := fun {n a} e => by
    by_cases hn : n < s.ρ.length
    · rw [List.getElem?_append_left hn] at e; exact .inl e
    · rw [List.getElem?_append_right (by omega)] at e
      have h0 : n - s.ρ.length = 0 := by
        by_cases h0 : n - s.ρ.length = 0
        · exact h0
        · rw [List.getElem?_eq_none (by simp; omega)] at e; cases e
      rw [h0] at e
      cases e
      exact .inr ⟨by omega, rfl⟩
  refine ⟨⟨R1.fz, R1.fr, R1.dj, by simp [AS.push, AS.un, R.len], fun m n a e1 e2 => ?_, fun n a e => ?_, fun n a e => ?_, fun n ob' e => ?_⟩, ⟨Le.refl _, rfl, pre⟩⟩
  · rcases key e1 with q1 | ⟨h1, q1⟩ <;> rcases key e2 with q2 | ⟨h2, q2⟩
    · exact R.inj m n a q1 q2
    · exact absurd q2 (nop q1)
    · exact absurd q1 (nop q2)
    · omega
  · rcases key e with q | ⟨_, q⟩
    · exact R.th n a q
    · rw [q, R.fr D o h]; simp
  · show G a = none
    rcases key e with q | ⟨_, q⟩
    · exact R1.nf n a q
    · rw [q]; exact hG
  · have e : (s.hp ++ [ob])[n]? = some ob' := e
    by_cases hn : n < s.hp.length
    · rw [List.getElem?_append_left hn] at e
      obtain ⟨a, ea, c⟩ := R1.cell n ob' e
      exact ⟨a, pre_get pre ea, c.mono (Le.refl _) pre (.inl rfl)⟩
    · rw [List.getElem?_append_right (by omega)] at e
      have h0 : n - s.hp.length = 0 := by
        by_cases h0 : n - s.hp.length = 0
        · exact h0
        · rw [List.getElem?_eq_none (by simp; omega)] at e; cases e
      rw [h0] at e
      cases e
      refine ⟨D, ?_, hc⟩
      have hn' : n = s.ρ.length := by rw [R.len]; omega
      show (s.ρ ++ [D])[n]? = some D
      rw [hn', List.getElem?_append_right (Nat.le_refl _), Nat.sub_self]
      rfl
theorem After.noexc {α : Type} {s : AS} {m : MH α} {Q : α → AS → Hp → Prop} {E E' : Ex → AS → Hp → Prop} (h : After Γ s (MS.noexc m s.hp) Q E) : After Γ s (m s.hp) Q E' := by
  unfold MS.noexc at h
  cases e : m s.hp with
  | ok a hp => rw [e] at h; exact h
  | exc y hp => rw [e] at h; exact h.elim
  | bad => rw [e] at h; exact h
/-- a list held apart at D, made at last -/
theorem keep_fin {s : AS} {H G : Hp} {D : Addr} {m : Bool} {vs : List Val} {us : List V} {Q : VK} {E : Ex → AS → Hp → Prop} (R : Rel Γ s H) (le : Le G s.Fr) (h : s.Fr D = some (.lst us)) (hG : G D = none) (rs : RVs Γ s.F s.ρ vs us)
    (A : After Γ (s.un G) (MS.keep m vs s.hp) (fun x s' H' => ∀ z, RV Γ s'.F s'.ρ x z → Q z H') E) : Q (.ref D) H := by
  unfold MS.keep at A
  cases m with
  | true =>
    obtain ⟨R1, x1⟩ := un_cell (ob := .lst vs) R le h hG ⟨R.dj _ _ h, hG, us, R.fr _ _ h, rs.mono (Le.refl _) (List.prefix_append _ _)⟩
    refine A ((s.un G).push D (.lst vs)) _ rfl x1 R1 _ ⟨D, ?_, rfl⟩
    show (s.ρ ++ [D])[s.hp.length]? = some D
    rw [← R.len, List.getElem?_append_right (Nat.le_refl _), Nat.sub_self]
    rfl
  | false =>
    have A : After Γ (s.un G) (MH.bind (mp MS.pur vs) (fun ts => MH.pure (Val.t (T.lst ts))) s.hp) _ _ := A
    rcases mp_fz (f := MS.pur) (fun s v u R r => fzn_ok 8 s v u R r) vs us s R rs with e | ⟨ts, s1, e, x1, R1, rts⟩
    · rw [bind_no e] at A; exact A.elim
    · rw [bind_ok e] at A
      have h1 : s1.Fr D = some (.lst us) := by rw [x1.Fr]; exact h
      have le1 : Le G s1.Fr := by rw [x1.Fr]; exact le
      obtain ⟨R2, x2⟩ := un_frz R1 le1 h1 hG
      have lf : Le s1.F (upd s1.F D (.lst us)) := Le.upd (R1.dj _ _ h1)
      exact A ((s1.un G).withF D (.lst us)) _ rfl ((un_ext x1).trans x2) R2 _ (rt_lst.mpr ⟨D, us, rfl, upd_same, rts.mono lf ts us⟩)
/-! ### the block -/
def Wno : WX := fun _ _ _ _ => False
theorem no_takes {X : Cx} : Takes X Wno := fun u s' ⟨_, _, _, _, _, _, _, _, _, _, _, _, _, _, _, _, h⟩ => h.elim
/-- in a comprehension's block -/
def InB (X : Cx) (scope : Scope) (P : Cx → Prop) : Prop := ∀ (s : Shared) (H : Hp) (D : Addr) (cl : List (Str × Addr)) (fp : List Addr), P (X.blk s H scope (compEnvC scope cl D X.env) fp)
def SPT (Γ : Run) (X : Cx) (ifs : List Expr) (m : Loc → MH Bool) : Prop := PTs X ifs (tT Γ m Wno)
theorem spt_nil : SPT Γ X [] (evTs C []) := by
  refine ⟨fun pins s σ H Q J h => pts_nil.run pins s σ H Q J ?_⟩
  obtain ⟨loc, s, R, L, A⟩ := h
  simp only [evTs] at A
  exact After.ok R A
theorem spt_one {c : Expr} {m : E} (h : ST Γ X c (evT C m)) : SPT Γ X [c] (evTs C [m]) := by
  have e : evTs C [m] = evT C m := by funext loc; simp only [evTs]
  unfold SPT
  rw [e]
  exact pts_one (h Wno no_takes)
theorem after_step {α : Type} {s : AS} {r : RH α} {Q Q' : α → AS → Hp → Prop} {E E' : Ex → AS → Hp → Prop} (h : After Γ s r Q E) (hQ : ∀ a s' H', Ext s s' → Rel Γ s' H' → Q a s' H' → Q' a s' H') (hE : ∀ x s' H', Ext s s' → Rel Γ s' H' → E x s' H' → E' x s' H') : After Γ s r Q' E' := h.imp hQ hE
/-- a list built at D, behind a part that is there already -/
theorem lc_in {own : List Nat} {b : Bool} {tg : Tg} {tst : Loc → MH Bool} {elt : Loc → MH Val} {xs : List Val} {J : L2.It} {loc : Loc} {σ : L2.St} {s : AS} {H1 G : Hp} {D : Addr} {us0 : List V} {acc0 : List Val} {P : List Val → AS → Hp → Prop} {Fin : Hp → Prop} {E : Ex → AS → Hp → Prop} {W' : WX} (R : Rel Γ s H1) (L : Locs Γ s loc σ) (hw : Wk Γ b J xs s) (hz : us0.length + xs.length ≤ SL) (hown : ∀ i ∈ tg.ix, i ∈ own)
    (le : Le G s.Fr) (g2 : G D = none) (hD0 : s.Fr D = some (.lst us0)) (r0 : RVs Γ s.F s.ρ acc0 us0)
    (A : After Γ (s.un G) (lcM (asg tg) (wipeL loc own) tst elt xs s.hp) (fun vs s' H' => P (acc0 ++ vs) s' H') E) (hE : ∀ x s' H', E x s' H' → ∀ σ', XW Γ W' σ' x s' H')
    (hfin : ∀ t H' us acc, Rel Γ t H' → Le s.F t.F → s.ρ <+: t.ρ → Le G t.Fr → t.Fr D = some (.lst us) → RVs Γ t.F t.ρ acc us → us.length ≤ us0.length + xs.length → P acc (t.un G) H' → Fin H') : ∃ W : Nat → Nat → Hp → Prop, (∃ m, W 0 m H1) ∧ ∀ i m H, W i m H →
      (J.stop i H ∧ Fin H) ∨ (J.go i H ∧ ∃ Nx : Hp → Prop, (∀ H', Nx H' → ∃ m', m' < m ∧ W (i + 1) m' H') ∧ ∀ x H', J.yld i H x H' → tG Γ b tg x (wipe σ own) H' fun σ2 H2 => wipe σ2 own = wipe σ own ∧ tT Γ tst W' σ2 H2 fun b H3 =>
        if b = true then tE Γ elt W' σ2 H3 fun y H4 => ∃ acc, H4 D = some (.lst acc) ∧ acc.length < sizeLine ∧ Nx (upd H4 D (.lst (acc ++ [y]))) else Nx H3) := by
  let Inv : Nat → Hp → Prop := fun i H => ∃ t us acc, Rel Γ t H ∧ Le s.F t.F ∧ s.ρ <+: t.ρ ∧ Le G t.Fr ∧ t.Fr D = some (.lst us) ∧ RVs Γ t.F t.ρ acc us ∧ us.length ≤ us0.length + i ∧
    After Γ (t.un G) (lcM (asg tg) (wipeL loc own) tst elt (xs.drop i) t.hp) (fun vs s' H' => P (acc ++ vs) s' H') E
  refine ⟨fun i n H => n = xs.length - i ∧ i ≤ xs.length ∧ Inv i H, ⟨xs.length, by simp, Nat.zero_le _, ?_⟩, ?_⟩
  · refine ⟨s, us0, acc0, R, Le.refl _, List.prefix_refl _, le, hD0, r0, by omega, ?_⟩
    rw [List.drop_zero]
    exact A
  · rintro i n H ⟨rfl, hi, t, us, acc, Rt, lF, lρ, lG, hF, ra, hlen, At⟩
    have wk := hw t H lF Rt
    by_cases hlt : i < xs.length
    · have hx : xs[i]? = some xs[i] := List.getElem?_eq_getElem hlt
      obtain ⟨go, yl⟩ := wk.1 i _ hx
      refine .inr ⟨go, fun H' => Inv (i + 1) H', fun H' q => ⟨xs.length - (i + 1), by omega, rfl, hlt, q⟩, fun x H' hy => ?_⟩
      obtain ⟨t1, e1, x1, R1, rw1⟩ := yl x H' hy
      rw [List.drop_eq_getElem_cons hlt] at At
      unfold lcM at At
      cases ha : asg tg xs[i] (wipeL loc own) with
      | none => rw [ha] at At; exact At.elim
      | some l1 =>
        rw [ha] at At
        have G1 : Le G t1.Fr := by rw [x1.Fr]; exact lG
        have At1 : After Γ (t1.un G) (MH.bind (tst l1) (fun b => if b = true then MH.bind (elt l1) (fun v => MH.bind (lcM (asg tg) (wipeL loc own) tst elt (xs.drop (i + 1))) fun vs => MH.pure (v :: vs)) else lcM (asg tg) (wipeL loc own) tst elt (xs.drop (i + 1))) t1.hp) (fun vs s' H' => P (acc ++ vs) s' H') E := by
          rw [e1]
          exact After.from (un_ext x1) At
        refine ⟨_, wipeL loc own, t1, l1, R1, (L.wipe own).mono (lF.trans x1.F) (lρ.trans x1.ρ), rw1, ha, fun σ' L' w' => ⟨by rw [w' own hown, wipe_wipe], l1, t1, R1, L', ?_⟩⟩
        refine After.imp (After.more G1 (s := t1) (G := G) At1.bind) (fun bb t2 H2 x2 R2 A2 => ?_) (fun x s' H' _ _ q => hE _ _ _ q _)
        have G2 : Le G t2.Fr := by rw [x2.Fr]; exact G1
        have hF2 : t2.Fr D = some (.lst us) := by rw [x2.Fr, x1.Fr]; exact hF
        have ra2 := (ra.ext x1).ext x2
        cases bb with
        | true =>
          dsimp only
          rw [if_pos rfl]
          rw [if_pos rfl] at A2
          refine ⟨l1, t2, R2, L'.ext x2, ?_⟩
          refine After.imp (After.more G2 (s := t2) (G := G) A2.bind) (fun v t3 H3 x3 R3 A3 u ru => ?_) (fun x s' H' _ _ q => hE _ _ _ q _)
          have G3 : Le G t3.Fr := by rw [x3.Fr]; exact G2
          have hF3 : t3.Fr D = some (.lst us) := by rw [x3.Fr]; exact hF2
          refine ⟨us, R3.fr _ _ hF3, by show us.length < sizeLine; have : us0.length + xs.length ≤ sizeLine := hz; omega, ?_⟩
          refine ⟨t3.fr D (.lst (us ++ [u])), us ++ [u], acc ++ [v], fr_set R3 hF3, lF.trans (x1.F.trans (x2.F.trans x3.F)), lρ.trans (x1.ρ.trans (x2.ρ.trans x3.ρ)), fun q o e => ?_, upd_same, Paired.app (ra2.ext x3) (.cons ru .nil), by rw [List.length_append]; simp; omega, ?_⟩
          · have hq : q ≠ D := fun z => by subst z; rw [g2] at e; cases e
            show upd t3.Fr D _ q = some o
            rw [upd_ne hq]
            exact G3 q o e
          · refine After.imp (After.bind A3) (fun vs s' H' _ R' q => ?_) (fun _ _ _ _ _ q => q)
            have q := After.ok R' q
            rw [List.append_assoc]
            exact q
        | false =>
          dsimp only
          rw [if_neg (by simp)]
          rw [if_neg (by simp)] at A2
          exact ⟨t2, us, acc, R2, lF.trans (x1.F.trans x2.F), lρ.trans (x1.ρ.trans x2.ρ), G2, hF2, ra2, by omega, A2⟩
    · have ei : i = xs.length := by omega
      subst ei
      refine .inl ⟨wk.2, ?_⟩
      rw [List.drop_length] at At
      unfold lcM at At
      have q := After.ok (un_rel Rt lG) At
      rw [List.append_nil] at q
      exact hfin t H us acc Rt lF lρ lG hF ra hlen q
theorem lc_walk {own : List Nat} {b m : Bool} {tg : Tg} {tst : Loc → MH Bool} {elt : Loc → MH Val} {xs : List Val} {J : L2.It} {loc : Loc} {σ : L2.St} {s : AS} {H1 : Hp} {Q : VK} {E : Ex → AS → Hp → Prop} {W' : WX} (R : Rel Γ s H1) (L : Locs Γ s loc σ) (hw : Wk Γ b J xs s) (hz : xs.length ≤ SL) (hown : ∀ i ∈ tg.ix, i ∈ own)
    (A : After Γ s (MH.bind (lcM (asg tg) (wipeL loc own) tst elt xs) (fun vs => MS.keep m vs) s.hp) (fun x s' H' => ∀ z, RV Γ s'.F s'.ρ x z → Q z H') E) (hE : ∀ x s' H', E x s' H' → ∀ σ', XW Γ W' σ' x s' H') : ∀ D, H1 D = none → ∃ W : Nat → Nat → Hp → Prop, (∃ m, W 0 m (upd H1 D (.lst []))) ∧ ∀ i m H, W i m H →
      (J.stop i H ∧ Q (.ref D) H) ∨ (J.go i H ∧ ∃ Nx : Hp → Prop, (∀ H', Nx H' → ∃ m', m' < m ∧ W (i + 1) m' H') ∧ ∀ x H', J.yld i H x H' → tG Γ b tg x (wipe σ own) H' fun σ2 H2 => wipe σ2 own = wipe σ own ∧ tT Γ tst W' σ2 H2 fun b H3 =>
        if b = true then tE Γ elt W' σ2 H3 fun y H4 => ∃ acc, H4 D = some (.lst acc) ∧ acc.length < sizeLine ∧ Nx (upd H4 D (.lst (acc ++ [y]))) else Nx H3) := by
  intro D hD
  obtain ⟨_, g2⟩ := R.free hD
  exact lc_in (s := s.fr D (.lst [])) (G := s.Fr) (us0 := []) (acc0 := []) (P := fun vs s' H' => After Γ s' (MS.keep m vs s'.hp) (fun x s' H' => ∀ z, RV Γ s'.F s'.ρ x z → Q z H') E) (fr_new R hD) (L.mono (Le.refl _) (List.prefix_refl _)) hw (by simpa using hz) hown (Le.upd g2) g2 upd_same .nil A.bind hE
    fun t H' us acc Rt _ _ lG hF ra _ q => keep_fin Rt lG hF g2 ra q
end
end MS

set_option Elab.async false
set_option linter.all false
set_option maxRecDepth 100000
/-! MST: comprehensions as expressions. -/
namespace MS
open PySem PySem.Spec PyProof.Rows L2
section
variable {Γ : Run} {X : Cx} {C : Cl} {I : Info} {k : Nat} {pos p apos cpos : Pos}
theorem te_lc {b m : Bool} {own : List Nat} {tg : Tg} {it : It} {ifs : List E} {e : E} (hown : ∀ i ∈ tg.ix, i ∈ own) {W : WX} {σ : L2.St} {H : Hp} {Q : VK} (h : tE Γ (evE C (.lc m own tg it ifs e)) W σ H Q) :
    tLc (tI Γ b (evIt C it) W) (tG Γ b tg) (tT Γ (evTs C ifs) Wno) (tE Γ (evE C e) Wno) own σ H Q := by
  obtain ⟨loc, s, R, L, A⟩ := h
  simp only [evE] at A
  refine ⟨loc, s, R, L, A.bind.imp (fun xs s1 H1 x1 R1 A1 J hw => ?_) (fun _ _ _ _ _ q => q)⟩
  split at A1
  · rename_i hz
    exact lc_walk (E := fun _ _ _ => False) R1 (L.ext x1) hw hz hown (After.noexc A1) fun _ _ _ h => h.elim
  · exact A1.elim
theorem se_lc {b m : Bool} {scope : Scope} {own : List (Str × Nat)} {tg : Tg} {it : It} {ifs : List E} {e : E} {et ei ee : Expr} {efs : List Expr} (hc : X.calm = true) (hN : X.N.Nodup) (hi : SI Γ X b et ei (evIt C it)) (ok : BlkOk X.N X.env.scope scope own)
    (hg : InB X scope fun Y => SG Γ Y b et tg) (ht : InB X scope fun Y => SPT Γ Y efs (evTs C ifs)) (he : InB X scope fun Y => SE Γ Y ee (evE C e)) (hown : ∀ i ∈ tg.ix, i ∈ own.map (·.2)) :
    SE Γ X (.ListComp ee [⟨et, ei, efs, 0⟩] scope pos) (evE C (.lc m (own.map (·.2)) tg it ifs e)) := by
  intro W tk
  exact PE.imp (pe_lc hc hN (hi.1 W tk) ok hg ht (fun s H D cl fp => he s H D cl fp Wno no_takes) hi.2) fun σ H Q h => te_lc hown h
/-! ### dict comprehensions -/
theorem dput_len {kvs : List (T × Val)} {k : T} {v : Val} : (dput kvs k v).length ≤ kvs.length + 1 := by
  unfold dput
  split
  · simp
  · simp
/-- a dict held apart, frozen at last -/
theorem keepD_fin {s : AS} {H G : Hp} {D : Addr} {kvs : List (T × Val)} {us : List (Key × V)} {Q : VK} {E : Ex → AS → Hp → Prop} (R : Rel Γ s H) (le : Le G s.Fr) (h : s.Fr D = some (.dK us)) (hG : G D = none) (rs : RVd Γ s.F s.ρ kvs us)
    (A : After Γ (s.un G) (MH.bind (mp MS.pur (kvs.map (·.2))) (fun ts => MH.pure (Val.t (T.dct ((kvs.map (·.1)).zip ts)))) s.hp) (fun x s' H' => ∀ z, RV Γ s'.F s'.ρ x z → Q z H') E) : Q (.ref D) H := by
  rcases mp_fz (f := MS.pur) (fun s v u R r => fzn_ok 8 s v u R r) _ _ s R rs.vals with e | ⟨ts, s1, e, x1, R1, rts⟩
  · rw [bind_no e] at A; exact A.elim
  · rw [bind_ok e] at A
    have h1 : s1.Fr D = some (.dK us) := by rw [x1.Fr]; exact h
    have le1 : Le G s1.Fr := by rw [x1.Fr]; exact le
    obtain ⟨R2, x2⟩ := un_frz R1 le1 h1 hG
    have lf : Le s1.F (upd s1.F D (.dK us)) := Le.upd (R1.dj _ _ h1)
    exact A ((s1.un G).withF D (.dK us)) _ rfl ((un_ext x1).trans x2) R2 _ (rt_dct.mpr ⟨D, us, rfl, upd_same, RTd.mono lf _ _ (RTd.of_zip rs rts)⟩)
theorem dc_walk {own : List Nat} {b : Bool} {tg : Tg} {ke ve : Loc → MH Val} {xs : List Val} {J : L2.It} {loc : Loc} {σ : L2.St} {s : AS} {H1 : Hp} {Q : VK} {E : Ex → AS → Hp → Prop} (R : Rel Γ s H1) (L : Locs Γ s loc σ) (hw : Wk Γ b J xs s) (hz : xs.length ≤ SL) (hown : ∀ i ∈ tg.ix, i ∈ own)
    (A : After Γ s (MH.bind (dcM (asg tg) (wipeL loc own) ke ve xs []) (fun kvs => MH.bind (mp MS.pur (kvs.map (·.2))) (fun ts => MH.pure (Val.t (T.dct ((kvs.map (·.1)).zip ts))))) s.hp) (fun x s' H' => ∀ z, RV Γ s'.F s'.ρ x z → Q z H') E) (hE : ∀ x s' H', ¬ E x s' H') : ∀ D, H1 D = none → ∃ W : Nat → Nat → Hp → Prop, (∃ m, W 0 m (upd H1 D (.dK []))) ∧ ∀ i m H, W i m H →
      (J.stop i H ∧ Q (.ref D) H) ∨ (J.go i H ∧ ∃ Nx : Hp → Prop, (∀ H', Nx H' → ∃ m', m' < m ∧ W (i + 1) m' H') ∧ ∀ x H', J.yld i H x H' → tG Γ b tg x (wipe σ own) H' fun σ2 H2 => wipe σ2 own = wipe σ own ∧ tYes σ2 H2 fun b H3 =>
        if b = true then tE Γ ke Wno σ2 H3 fun y H4 => tE Γ ve Wno σ2 H4 fun z H5 => ∃ kvs k, y = kV k ∧ H5 D = some (.dK kvs) ∧ kvs.length < sizeLine ∧ Nx (upd H5 D (.dK (putK kvs k z))) else Nx H3) := by
  intro D hD
  obtain ⟨_, g2⟩ := R.free hD
  let Inv : Nat → Hp → Prop := fun i H => ∃ t us acc, Rel Γ t H ∧ ExtW s t ∧ t.Fr D = some (.dK us) ∧ RVd Γ t.F t.ρ acc us ∧ us.length ≤ i ∧
    After Γ (t.un s.Fr) (dcM (asg tg) (wipeL loc own) ke ve (xs.drop i) acc t.hp) (fun kvs s' H' => After Γ s' (MH.bind (mp MS.pur (kvs.map (·.2))) (fun ts => MH.pure (Val.t (T.dct ((kvs.map (·.1)).zip ts)))) s'.hp) (fun x s' H' => ∀ z, RV Γ s'.F s'.ρ x z → Q z H') E) E
  refine ⟨fun i n H => n = xs.length - i ∧ i ≤ xs.length ∧ Inv i H, ⟨xs.length, by simp, Nat.zero_le _, ?_⟩, ?_⟩
  · refine ⟨s.fr D (.dK []), [], [], fr_new R hD, ⟨Le.refl _, Le.upd g2, List.prefix_refl _⟩, upd_same, .nil, Nat.zero_le _, ?_⟩
    rw [List.drop_zero]
    exact After.imp A.bind (fun vs s' H' _ _ q => q) (fun _ _ _ _ _ q => q)
  · rintro i n H ⟨rfl, hi, t, us, acc, Rt, xt, hF, ra, hlen, At⟩
    have wk := hw t H xt.F Rt
    by_cases hlt : i < xs.length
    · have hx : xs[i]? = some xs[i] := List.getElem?_eq_getElem hlt
      obtain ⟨go, yl⟩ := wk.1 i _ hx
      refine .inr ⟨go, fun H' => Inv (i + 1) H', fun H' q => ⟨xs.length - (i + 1), by omega, rfl, hlt, q⟩, fun x H' hy => ?_⟩
      obtain ⟨t1, e1, x1, R1, rw1⟩ := yl x H' hy
      rw [List.drop_eq_getElem_cons hlt] at At
      unfold dcM at At
      cases ha : asg tg xs[i] (wipeL loc own) with
      | none => rw [ha] at At; exact At.elim
      | some l1 =>
        rw [ha] at At
        have xt1 : ExtW s t1 := xt.trans x1.w
        have At1 : After Γ (t1.un s.Fr) (MH.bind (ke l1) (fun k => MH.bind (keyV k) fun k => MH.bind (ve l1) fun v => dcM (asg tg) (wipeL loc own) ke ve (xs.drop (i + 1)) (dput acc k v)) t1.hp) (fun kvs s' H' => After Γ s' (MH.bind (mp MS.pur (kvs.map (·.2))) (fun ts => MH.pure (Val.t (T.dct ((kvs.map (·.1)).zip ts)))) s'.hp) (fun x s' H' => ∀ z, RV Γ s'.F s'.ρ x z → Q z H') E) E := by
          rw [e1]
          exact After.from (un_ext x1) At
        refine ⟨_, wipeL loc own, t1, l1, R1, (L.wipe own).mono xt1.F xt1.ρ, rw1, ha, fun σ' L' w' => ⟨by rw [w' own hown, wipe_wipe], ?_⟩⟩
        dsimp only [tYes]
        rw [if_pos rfl]
        refine ⟨l1, t1, R1, L', After.imp (After.more xt1.Fr (s := t1) (G := s.Fr) At1.bind) (fun kk t2 H2 x2 R2 A2 u ru => ?_) (fun x s' H' _ _ q => (hE _ _ _ q).elim)⟩
        have xt2 : ExtW s t2 := xt1.trans x2.w
        obtain ⟨key, ek, A2⟩ := After.keyV (s := t2.un s.Fr) ru A2
        refine ⟨l1, t2, R2, L'.ext x2, After.imp (After.more xt2.Fr (s := t2) (G := s.Fr) A2.bind) (fun v t3 H3 x3 R3 A3 u2 ru2 => ?_) (fun x s' H' _ _ q => (hE _ _ _ q).elim)⟩
        have xt3 : ExtW s t3 := xt2.trans x3.w
        have hF3 : t3.Fr D = some (.dK us) := by rw [x3.Fr, x2.Fr, x1.Fr]; exact hF
        refine ⟨us, key, ek, R3.fr _ _ hF3, by show us.length < sizeLine; have : xs.length ≤ sizeLine := hz; omega, ?_⟩
        have ra3 : RVd Γ t3.F t3.ρ acc us := ra.mono (x1.trans (x2.trans x3)).F (x1.trans (x2.trans x3)).ρ
        refine ⟨t3.fr D (.dK (putK us key u2)), putK us key u2, dput acc (keyT key) v, fr_set R3 hF3, ⟨xt3.F, fun q o e => ?_, xt3.ρ⟩, upd_same, dput_put ru2 ra3, ?_, A3⟩
        · have hq : q ≠ D := fun z => by subst z; rw [g2] at e; cases e
          show upd t3.Fr D _ q = some o
          rw [upd_ne hq]
          exact xt3.Fr q o e
        · have := length_putK us key u2
          omega
    · have ei : i = xs.length := by omega
      subst ei
      refine .inl ⟨wk.2, ?_⟩
      rw [List.drop_length] at At
      unfold dcM at At
      exact keepD_fin Rt xt.Fr hF g2 ra (After.ok (un_rel Rt xt.Fr) At)
theorem se_dc {b : Bool} {scope : Scope} {own : List (Str × Nat)} {tg : Tg} {it : It} {mk mv : E} {et ei ek ev : Expr} (hc : X.calm = true) (hN : X.N.Nodup) (hi : SI Γ X b et ei (evIt C it)) (ok : BlkOk X.N X.env.scope scope own)
    (hg : InB X scope fun Y => SG Γ Y b et tg) (hk : InB X scope fun Y => SE Γ Y ek (evE C mk)) (hv : InB X scope fun Y => SE Γ Y ev (evE C mv)) (hown : ∀ i ∈ tg.ix, i ∈ own.map (·.2)) :
    SE Γ X (.DictComp ek ev [⟨et, ei, [], 0⟩] scope pos) (evE C (.dc (own.map (·.2)) tg it mk mv)) := by
  intro W tk
  refine PE.imp (pe_dc hc hN (hi.1 W tk) ok hg (fun s H D cl fp => pts_nil) (fun s H D cl fp => hk s H D cl fp Wno no_takes) (fun s H D cl fp => hv s H D cl fp Wno no_takes) hi.2) ?_
  rintro σ H Q ⟨loc, s, R, L, A⟩
  simp only [evE] at A
  refine ⟨loc, s, R, L, A.bind.imp (fun xs s1 H1 x1 R1 A1 J hw => ?_) (fun _ _ _ _ _ q => q)⟩
  split at A1
  · rename_i hz
    exact dc_walk (E := fun _ _ _ => False) R1 (L.ext x1) hw hz hown (After.noexc A1) fun _ _ _ h => h
  · exact A1.elim
/-! ### two sources -/
theorem lc2_walk {own own1 : List Nat} {b b1 m : Bool} {tg tg1 : Tg} {tst tst1 : Loc → MH Bool} {it1 : Loc → MH (List Val)} {elt : Loc → MH Val} {xs : List Val} {J : L2.It} {loc : Loc} {σ : L2.St} {s : AS} {H1 : Hp} {Q : VK} {E : Ex → AS → Hp → Prop} (R : Rel Γ s H1) (L : Locs Γ s loc σ) (hw : Wk Γ b J xs s) (hz : xs.length ≤ 1000) (hown : ∀ i ∈ tg.ix, i ∈ own) (hown1 : ∀ i ∈ tg1.ix, i ∈ own1)
    (A : After Γ s (MH.bind (lcM2 (asg tg) (wipeL loc own) tst (fun l => MH.bind (it1 l) fun ys => if ys.length ≤ 1000 then lcM (asg tg1) (wipeL l own1) tst1 elt ys else bad) xs) (fun vs => MS.keep m vs) s.hp) (fun x s' H' => ∀ z, RV Γ s'.F s'.ρ x z → Q z H') E) (hE : ∀ x s' H', ¬ E x s' H') : ∀ D, H1 D = none → ∃ W : Nat → Nat → Hp → Prop, (∃ m, W 0 m (upd H1 D (.lst []))) ∧ ∀ i m H, W i m H →
      (J.stop i H ∧ Q (.ref D) H) ∨ (J.go i H ∧ ∃ Nx : Hp → Prop, (∀ H', Nx H' → ∃ m', m' < m ∧ W (i + 1) m' H') ∧ ∀ x H', J.yld i H x H' → tG Γ b tg x (wipe σ own) H' fun σ2 H2 => wipe σ2 own = wipe σ own ∧ tT Γ tst Wno σ2 H2 fun b H3 =>
        if b = true then tI Γ b1 it1 Wno σ2 H3 fun J1 H4 => ∃ W1 : Nat → Nat → Hp → Prop, (∃ m, W1 0 m H4) ∧ ∀ j k H, W1 j k H →
          (J1.stop j H ∧ Nx H) ∨ (J1.go j H ∧ ∃ Nx1 : Hp → Prop, (∀ H', Nx1 H' → ∃ k', k' < k ∧ W1 (j + 1) k' H') ∧ ∀ x H', J1.yld j H x H' → tG Γ b1 tg1 x (wipe σ2 own1) H' fun σ3 H5 => wipe σ3 own1 = wipe σ2 own1 ∧ tT Γ tst1 Wno σ3 H5 fun b H6 =>
            if b = true then tE Γ elt Wno σ3 H6 fun y H7 => ∃ acc, H7 D = some (.lst acc) ∧ acc.length < sizeLine ∧ Nx1 (upd H7 D (.lst (acc ++ [y]))) else Nx1 H6)
        else Nx H3) := by
  intro D hD
  obtain ⟨_, g2⟩ := R.free hD
  let inner : Loc → MH (List Val) := fun l => MH.bind (it1 l) fun ys => if ys.length ≤ 1000 then lcM (asg tg1) (wipeL l own1) tst1 elt ys else bad
  let G := s.Fr
  let P : List Val → AS → Hp → Prop := fun vs s' H' => After Γ s' (MS.keep m vs s'.hp) (fun x s' H' => ∀ z, RV Γ s'.F s'.ρ x z → Q z H') E
  let Inv : Nat → Hp → Prop := fun i H => ∃ t us acc, Rel Γ t H ∧ Le s.F t.F ∧ s.ρ <+: t.ρ ∧ Le G t.Fr ∧ t.Fr D = some (.lst us) ∧ RVs Γ t.F t.ρ acc us ∧ us.length ≤ 1000 * i ∧
    After Γ (t.un G) (lcM2 (asg tg) (wipeL loc own) tst inner (xs.drop i) t.hp) (fun vs s' H' => P (acc ++ vs) s' H') E
  refine ⟨fun i n H => n = xs.length - i ∧ i ≤ xs.length ∧ Inv i H, ⟨xs.length, by simp, Nat.zero_le _, ?_⟩, ?_⟩
  · refine ⟨s.fr D (.lst []), [], [], fr_new R hD, Le.refl _, List.prefix_refl _, Le.upd g2, upd_same, .nil, by simp, ?_⟩
    rw [List.drop_zero]
    exact A.bind
  · rintro i n H ⟨rfl, hi, t, us, acc, Rt, lF, lρ, lG, hF, ra, hlen, At⟩
    have wk := hw t H lF Rt
    by_cases hlt : i < xs.length
    · have hx : xs[i]? = some xs[i] := List.getElem?_eq_getElem hlt
      obtain ⟨go, yl⟩ := wk.1 i _ hx
      refine .inr ⟨go, fun H' => Inv (i + 1) H', fun H' q => ⟨xs.length - (i + 1), by omega, rfl, hlt, q⟩, fun x H' hy => ?_⟩
      obtain ⟨t1, e1, x1, R1, rw1⟩ := yl x H' hy
      rw [List.drop_eq_getElem_cons hlt] at At
      unfold lcM2 at At
      cases ha : asg tg xs[i] (wipeL loc own) with
      | none => rw [ha] at At; exact At.elim
      | some l1 =>
        rw [ha] at At
        have G1 : Le G t1.Fr := by rw [x1.Fr]; exact lG
        have At1 : After Γ (t1.un G) (MH.bind (tst l1) (fun b => if b = true then MH.bind (inner l1) (fun v => MH.bind (lcM2 (asg tg) (wipeL loc own) tst inner (xs.drop (i + 1))) fun vs => MH.pure (v ++ vs)) else lcM2 (asg tg) (wipeL loc own) tst inner (xs.drop (i + 1))) t1.hp) (fun vs s' H' => P (acc ++ vs) s' H') E := by
          rw [e1]
          exact After.from (un_ext x1) At
        refine ⟨_, wipeL loc own, t1, l1, R1, (L.wipe own).mono (lF.trans x1.F) (lρ.trans x1.ρ), rw1, ha, fun σ' L' w' => ⟨by rw [w' own hown, wipe_wipe], l1, t1, R1, L', ?_⟩⟩
        refine After.imp (After.more G1 (s := t1) (G := G) At1.bind) (fun bb t2 H2 x2 R2 A2 => ?_) (fun x s' H' _ _ q => (hE _ _ _ q).elim)
        have G2 : Le G t2.Fr := by rw [x2.Fr]; exact G1
        have hF2 : t2.Fr D = some (.lst us) := by rw [x2.Fr, x1.Fr]; exact hF
        have ra2 := (ra.ext x1).ext x2
        have lF2 := lF.trans (x1.F.trans x2.F)
        have lρ2 := lρ.trans (x1.ρ.trans x2.ρ)
        cases bb with
        | true =>
          dsimp only
          rw [if_pos rfl]
          rw [if_pos rfl] at A2
          have A3 : After Γ (t2.un G) (MH.bind (it1 l1) (fun ys => MH.bind (if ys.length ≤ 1000 then lcM (asg tg1) (wipeL l1 own1) tst1 elt ys else bad) fun v => MH.bind (lcM2 (asg tg) (wipeL loc own) tst inner (xs.drop (i + 1))) fun vs => MH.pure (v ++ vs)) t2.hp) (fun vs s' H' => P (acc ++ vs) s' H') E := by
            have A2 : After Γ (t2.un G) (MH.bind (inner l1) (fun v => MH.bind (lcM2 (asg tg) (wipeL loc own) tst inner (xs.drop (i + 1))) fun vs => MH.pure (v ++ vs)) t2.hp) (fun vs s' H' => P (acc ++ vs) s' H') E := A2
            rw [show inner l1 = MH.bind (it1 l1) (fun ys => if ys.length ≤ 1000 then lcM (asg tg1) (wipeL l1 own1) tst1 elt ys else bad) from rfl, MH.bind_assoc] at A2
            exact A2
          refine ⟨l1, t2, R2, L'.ext x2, ?_⟩
          refine After.imp (After.more G2 (s := t2) (G := G) A3.bind) (fun ys t3 H3 x3 R3 A4 J1 hw1 => ?_) (fun x s' H' _ _ q => (hE _ _ _ q).elim)
          have G3 : Le G t3.Fr := by rw [x3.Fr]; exact G2
          have hF3 : t3.Fr D = some (.lst us) := by rw [x3.Fr]; exact hF2
          have hys : ys.length ≤ 1000 := by
            by_cases h : ys.length ≤ 1000
            · exact h
            · rw [if_neg h] at A4
              exact A4.elim
          rw [if_pos hys] at A4
          refine lc_in (P := fun vs s' H' => ∃ v, vs = acc ++ v ∧ After Γ s' (MH.bind (lcM2 (asg tg) (wipeL loc own) tst inner (xs.drop (i + 1))) (fun ws => MH.pure (v ++ ws)) s'.hp) (fun vs s' H' => P (acc ++ vs) s' H') E) (us0 := us) (acc0 := acc) (G := G) (E := E) R3 ((L'.ext x2).ext x3) hw1 ?_ hown1 G3 g2 hF3 (ra2.ext x3) ?_ (fun x s' H' q => (hE x s' H' q).elim) ?_
          · show us.length + ys.length ≤ sizeLine
            rw [sizeLine_eq]
            omega
          · exact After.imp (After.bind A4) (fun v s' H' _ _ q => ⟨v, rfl, q⟩) (fun _ _ _ _ _ q => q)
          · intro t4 H4 us4 acc4 R4 lF4 lρ4 lG4 hF4 ra4 hl4 q
            obtain ⟨v, ev, q⟩ := q
            refine ⟨t4, us4, acc4, R4, lF2.trans (x3.F.trans lF4), lρ2.trans (x3.ρ.trans lρ4), lG4, hF4, ra4, by omega, ?_⟩
            refine After.imp (After.bind q) (fun ws s' H' _ R' q => ?_) (fun _ _ _ _ _ q => q)
            have q := After.ok R' q
            rw [ev, List.append_assoc]
            exact q
        | false =>
          dsimp only
          rw [if_neg (by simp)]
          rw [if_neg (by simp)] at A2
          exact ⟨t2, us, acc, R2, lF2, lρ2, G2, hF2, ra2, by omega, A2⟩
    · have ei : i = xs.length := by omega
      subst ei
      refine .inl ⟨wk.2, ?_⟩
      rw [List.drop_length] at At
      unfold lcM2 at At
      have q := After.ok (un_rel Rt lG) At
      rw [List.append_nil] at q
      exact keep_fin Rt lG hF g2 ra q
theorem te_lc2 {b b1 m : Bool} {own : List Nat} {tg tg1 : Tg} {it it1 : It} {ifs ifs1 : List E} {e : E} (hown : ∀ i ∈ tg.ix, i ∈ own) {W : WX} {σ : L2.St} {H : Hp} {Q : VK} (h : tE Γ (evE C (.lc2 m own tg it ifs tg1 it1 ifs1 e)) W σ H Q) :
    tLc2 (tI Γ b (evIt C it) W) (tG Γ b tg) (tT Γ (evTs C ifs) Wno) (tI Γ b1 (evIt C it1) Wno) (tG Γ b1 tg1) (tT Γ (evTs C ifs1) Wno) (tE Γ (evE C e) Wno) own tg1.ix σ H Q := by
  obtain ⟨loc, s, R, L, A⟩ := h
  simp only [evE] at A
  refine ⟨loc, s, R, L, A.bind.imp (fun xs s1 H1 x1 R1 A1 J hw => ?_) (fun _ _ _ _ _ q => q)⟩
  split at A1
  · rename_i hz
    exact lc2_walk (E := fun _ _ _ => False) R1 (L.ext x1) hw hz hown (fun _ h => h) (After.noexc A1) fun _ _ _ h => h
  · exact A1.elim
theorem se_lc2 {b b1 m : Bool} {scope : Scope} {own : List (Str × Nat)} {tg tg1 : Tg} {it it1 : It} {ifs ifs1 : List E} {e : E} {et ei et1 ei1 ee : Expr} {efs efs1 : List Expr} (hc : X.calm = true) (hN : X.N.Nodup) (hi : SI Γ X b et ei (evIt C it)) (ok : BlkOk X.N X.env.scope scope own)
    (hv : ∀ i ∈ tg1.ix, i ∈ own.map (·.2)) (hg : InB X scope fun Y => SG Γ Y b et tg) (ht : InB X scope fun Y => SPT Γ Y efs (evTs C ifs)) (hi1 : InB X scope fun Y => SI Γ Y b1 et1 ei1 (evIt C it1)) (hg1 : InB X scope fun Y => SG Γ Y b1 et1 tg1) (ht1 : InB X scope fun Y => SPT Γ Y efs1 (evTs C ifs1)) (he : InB X scope fun Y => SE Γ Y ee (evE C e)) (hown : ∀ i ∈ tg.ix, i ∈ own.map (·.2)) (hff : ffB ei1 = false) :
    SE Γ X (.ListComp ee [⟨et, ei, efs, 0⟩, ⟨et1, ei1, efs1, 0⟩] scope pos) (evE C (.lc2 m (own.map (·.2)) tg it ifs tg1 it1 ifs1 e)) := by
  intro W tk
  refine PE.imp (pe_lc2 hc hN (hi.1 W tk) ok hv hg ht (fun s H D cl fp => (hi1 s H D cl fp).1 Wno no_takes) hg1 ht1 (fun s H D cl fp => he s H D cl fp Wno no_takes) hi.2 (fun env => ff_no hff)) ?_
  intro σ H Q h
  exact te_lc2 hown h
end
end MS

set_option Elab.async false
set_option linter.all false
set_option maxRecDepth 100000
/-! MSU: statements. -/
namespace MS
open PySem PySem.Spec PyProof.Rows L2
section
variable {Γ : Run} {X : Cx} {C : Cl} {I : Info} {k : Nat} {pos p apos cpos : Pos}
theorem AfterS.from {s s' : AS} {r : RS} {W : WX} {D : Ends} (e : Ext s s') (h : AfterS Γ s r W D) : AfterS Γ s' r W D := by
  cases r with
  | ok f hp => exact fun t H' e1 e2 R => h t H' e1 (e.trans e2) R
  | exc x l hp => exact fun t H' e1 e2 R => h t H' e1 (e.trans e2) R
  | bad => exact h
theorem AfterS.thenE {α : Type} {s : AS} {loc : Loc} {σ : L2.St} {m : MH α} {kk : α → List Ob → RS} {W : WX} {D : Ends} (L : Locs Γ s loc σ) (h : AfterS Γ s (MS.thenE m loc kk s.hp) W D) : After Γ s (m s.hp) (fun a s' H' => AfterS Γ s' (kk a s'.hp) W D) (XW Γ W σ) := by
  unfold MS.thenE at h
  cases e : m s.hp with
  | ok a hp =>
    rw [e] at h
    intro t H' e1 e2 R
    rw [e1]
    exact AfterS.from e2 h
  | exc x hp =>
    rw [e] at h
    exact fun t H' e1 e2 R => h t H' e1 e2 R σ (L.ext e2)
  | bad => rw [e] at h; exact h
theorem AfterS.nx {s : AS} {H : Hp} {loc : Loc} {W : WX} {D : Ends} {σ : L2.St} (R : Rel Γ s H) (L : Locs Γ s loc σ) (h : AfterS Γ s (.ok (.nx loc) s.hp) W D) : D.nx σ H := h s H rfl (Ext.refl s) R σ L
/-! ### simple ones -/
theorem ss_pass : SS Γ X (.Pass pos) (exS C .pass) := by
  intro W tk
  refine PS.imp ps_pass ?_
  rintro D σ H ⟨loc, s, R, L, A⟩
  simp only [exS] at A
  exact A.nx R L
theorem ss_brk : SS Γ X (.Break pos) (exS C .brk) := by
  intro W tk
  refine PS.imp ps_break ?_
  rintro D σ H ⟨loc, s, R, L, A⟩
  simp only [exS] at A
  exact A s H rfl (Ext.refl s) R σ L
theorem ss_cnt : SS Γ X (.Continue pos) (exS C .cnt) := by
  intro W tk
  refine PS.imp ps_continue ?_
  rintro D σ H ⟨loc, s, R, L, A⟩
  simp only [exS] at A
  exact A s H rfl (Ext.refl s) R σ L
theorem ss_no {st : Stmt} : SS Γ X st (exS C .no) := by
  intro W tk
  refine ⟨fun pins s σ H D J h => ?_⟩
  obtain ⟨loc, s, R, L, A⟩ := h
  simp only [exS] at A
  exact A.elim
theorem ss_ex {e : Expr} {m : E} (h : SE Γ X e (evE C m)) (hs : cmB e = false) : SS Γ X (.Expr e pos) (exS C (.ex m)) := by
  intro W tk
  refine PS.imp (ps_expr (h W tk) (swap_no hs)) ?_
  rintro D σ H ⟨loc, s, R, L, A⟩
  simp only [exS] at A
  exact ⟨loc, s, R, L, (A.thenE L).imp (fun v s1 H1 x1 R1 A1 u r => A1.nx R1 (L.ext x1)) (fun _ _ _ _ _ q => q)⟩
theorem ss_ret {e : Expr} {m : E} {b : Bool} (h : SE Γ X e (evE C m)) : SS Γ X (.Return (some e) pos) (exS C (.ret b m)) := by
  intro W tk
  refine PS.imp (ps_ret (h W tk)) ?_
  rintro D σ H ⟨loc, s, R, L, A⟩
  simp only [exS] at A
  have A1 := A.thenE L
  cases b with
  | true => exact ⟨loc, s, R, L, A1.imp (fun v s1 H1 x1 R1 A1 u r => A1 s1 H1 rfl (Ext.refl s1) R1 u r) (fun _ _ _ _ _ q => q)⟩
  | false =>
    have A1 : After Γ s (MH.bind (evE C m loc) (fun v => MH.bind (MS.pur v) fun x => MH.pure (Val.t x)) s.hp) _ _ := A1
    refine ⟨loc, s, R, L, A1.bind.imp (fun v s1 H1 x1 R1 A1 u r => ?_) (fun _ _ _ _ _ q => q)⟩
    obtain ⟨x, s2, x2, R2, rx, A2⟩ := After.pur R1 r A1
    have A3 := After.ok R2 A2
    exact A3 s2 H1 rfl (Ext.refl s2) R2 u rx
theorem ss_retn : SS Γ X (.Return none pos) (exS C .retn) := by
  intro W tk
  refine PS.imp ps_retN ?_
  rintro D σ H ⟨loc, s, R, L, A⟩
  simp only [exS] at A
  exact A s H rfl (Ext.refl s) R _ (rv_non.mpr rfl)
theorem sss_nil : SSs Γ X [] (exSs C []) := by
  intro W tk
  refine PSs.imp pss_nil ?_
  rintro D σ H ⟨loc, s, R, L, A⟩
  simp only [exSs] at A
  exact A.nx R L
theorem sss_cons {st : Stmt} {rest : List Stmt} {m : S} {ms : List S} (h : SS Γ X st (exS C m)) (hr : SSs Γ X rest (exSs C ms)) : SSs Γ X (st :: rest) (exSs C (m :: ms)) := by
  intro W tk
  refine PSs.imp (pss_cons (h W tk) (hr W tk)) ?_
  rintro D σ H ⟨loc, s, R, L, A⟩
  simp only [exSs] at A
  refine ⟨loc, s, R, L, ?_⟩
  unfold thenS at A
  cases e : exS C m loc s.hp with
  | bad => rw [e] at A; exact A
  | exc x l hp => rw [e] at A; exact A
  | ok f hp =>
    rw [e] at A
    cases f with
    | nx l =>
      intro s' H' e1 e2 R' σ' L'
      refine ⟨l, s', R', L', ?_⟩
      rw [e1]
      exact AfterS.from e2 A
    | ret v => exact A
    | bk l => exact A
    | ct l => exact A
theorem ss_iff {c : Expr} {a b : List Stmt} {mc : E} {ma mb : List S} (hc : ST Γ X c (evT C mc)) (ha : SSs Γ X a (exSs C ma)) (hb : SSs Γ X b (exSs C mb)) : SS Γ X (.If c a b pos) (exS C (.iff mc ma mb)) := by
  intro W tk
  refine PS.imp (ps_if (hc W tk) (ha W tk) (hb W tk)) ?_
  rintro D σ H ⟨loc, s, R, L, A⟩
  simp only [exS] at A
  refine ⟨loc, s, R, L, (A.thenE L).imp (fun d s1 H1 x1 R1 A1 => ?_) (fun _ _ _ _ _ q => q)⟩
  cases d with
  | true => exact ⟨loc, s1, R1, L.ext x1, A1⟩
  | false => exact ⟨loc, s1, R1, L.ext x1, A1⟩
/-! ### assignments -/
theorem ss_set {i : Nat} {x : Str} {e : Expr} {m : E} {p' : Pos} (hN : X.N.Nodup) (hi : X.N[i]? = some x) (hx : L2.Loc X.env.scope x) (hf : X.fn x = true ∨ X.env.scope.names.lookup x = some .local) (h : SE Γ X e (evE C m)) (hs : swapsWith e (some (.Name x p')) pos.line X.env = pure false) : SS Γ X (.Assign [.Name x p'] e pos) (exS C (.set i m)) := by
  intro W tk
  refine PS.imp (ps_set hN hi hx (h W tk) hs hf) ?_
  rintro D σ H ⟨loc, s, R, L, A⟩
  simp only [exS] at A
  exact ⟨loc, s, R, L, (A.thenE L).imp (fun v s1 H1 x1 R1 A1 u r => A1.nx R1 ((L.ext x1).set i r)) (fun _ _ _ _ _ q => q)⟩
theorem ss_des {es : List Expr} {j : Nat} {p' : Pos} {ts : List Tg} {e : Expr} {m : E} (hg : SG Γ X false (.Tuple es j p') (.tp ts)) (h : SE Γ X e (evE C m)) (hs : cmB e = false) (ht : tuB e = false) : SS Γ X (.Assign [.Tuple es j p'] e pos) (exS C (.des ts m)) := by
  intro W tk
  refine PS.imp (ps_asg (h W tk) hg (swap1_no hs) (stores_no ht) (by rw [asgE_cons rfl]; rfl)) ?_
  rintro D σ H ⟨loc, s, R, L, A⟩
  simp only [exS] at A
  refine ⟨loc, s, R, L, (A.thenE L).imp (fun v s1 H1 x1 R1 A1 u r => ?_) (fun _ _ _ _ _ q => q)⟩
  cases ea : asg (.tp ts) v loc with
  | none => rw [ea] at A1; exact A1.elim
  | some l =>
    rw [ea] at A1
    exact ⟨v, loc, s1, l, R1, L.ext x1, .inl r, ea, fun σ' L' _ => A1.nx R1 L'⟩
theorem Paired.set {α β : Type} {R : α → β → Prop} {x : α} {y : β} : ∀ {xs : List α} {ys : List β}, Paired R xs ys → ∀ j : Nat, R x y → Paired R (xs.set j x) (ys.set j y)
  | _, _, .nil, _, _ => .nil
  | _, _, .cons r t, 0, h => .cons h t
  | _, _, .cons r t, j + 1, h => .cons r (Paired.set t j h)
theorem ss_sub {eo ei e : Expr} {a i m : E} {p' : Pos} (ho : SE Γ X eo (evE C a)) (hi : SE Γ X ei (evE C i)) (h : SE Γ X e (evE C m)) (hs : cmB e = false) (ht : tuB e = false) (hsl : slB ei = false) : SS Γ X (.Assign [.Subscript eo ei p'] e pos) (exS C (.sub a i m)) := by
  intro W tk
  refine PS.imp (ps_asg (h W tk) (pg_sub (ho W tk) (hi W tk) set_list (fun v => by cases ei <;> first | rfl | cases hsl)) (swap1_no hs) (stores_no ht) (by rw [asgE_cons rfl]; rfl)) ?_
  rintro D σ H ⟨loc, s, R, L, A⟩
  simp only [exS] at A
  have A0 := (A.thenE L).bind
  refine ⟨loc, s, R, L, A0.imp (fun v s1 H1 x1 R1 A1 u r => ?_) (fun _ _ _ _ _ q => q)⟩
  refine ⟨loc, s1, R1, L.ext x1, A1.bind.imp (fun w s2 H2 x2 R2 A2 u2 r2 => ?_) (fun _ _ _ _ _ q => q)⟩
  refine ⟨loc, s2, R2, (L.ext x1).ext x2, A2.bind.imp (fun z s3 H3 x3 R3 A3 u3 r3 => ?_) (fun _ _ _ _ _ q => q)⟩
  have L3 := ((L.ext x1).ext x2).ext x3
  change After Γ s3 (MH.bind (cellV w) (fun q => MH.bind (intV z) fun k => match L2.ixN q.2.length k with | some j => put q.1 (.lst (q.2.set j v)) | none => bad) s3.hp) _ _ at A3
  obtain ⟨n, xs, q, ys, e1, e2, hρ, hc, f1, f2, hH, rx, A3⟩ := A3.cellV R3 (r2.ext x3)
  obtain ⟨kk, _, ek, A3⟩ := A3.intV r3
  dsimp only at A3
  cases hj : L2.ixN xs.length kk with
  | none => rw [hj] at A3; exact A3.elim
  | some j =>
    rw [hj] at A3
    obtain ⟨R4, x4⟩ := wr_cell (ob := .lst (xs.set j v)) (o := .lst (ys.set j u)) R3 hρ f1 f2 ⟨f1, f2, _, upd_same, Paired.set rx j ((r.ext x2).ext x3)⟩
    refine ⟨q, ys, kk, j, e2, ek, hH, by rw [← Paired.len rx]; exact hj, ?_⟩
    exact (A3 (s3.wr n (.lst (xs.set j v))) _ rfl x4 R4).nx R4 (L3.ext x4)
theorem ss_subd {eo ei e : Expr} {a i m : E} {p' : Pos} (hu : X.A.units + 1 < cLine) (ho : SE Γ X eo (evE C a)) (hi : SE Γ X ei (evE C i)) (h : SE Γ X e (evE C m)) (hs : cmB e = false) : SS Γ X (.Assign [.Subscript eo ei p'] e pos) (exS C (.subd a i m)) := by
  intro W tk
  refine PS.imp (ps_dput hu (ho W tk) (hi W tk) (h W tk) (swap_no hs)) ?_
  rintro D σ H ⟨loc, s, R, L, A⟩
  simp only [exS] at A
  have A0 := (A.thenE L).bind
  refine ⟨loc, s, R, L, A0.imp (fun v s1 H1 x1 R1 A1 u r => ?_) (fun _ _ _ _ _ q => q)⟩
  refine ⟨loc, s1, R1, L.ext x1, A1.bind.imp (fun w s2 H2 x2 R2 A2 u2 r2 => ?_) (fun _ _ _ _ _ q => q)⟩
  refine ⟨loc, s2, R2, (L.ext x1).ext x2, A2.bind.imp (fun z s3 H3 x3 R3 A3 u3 r3 => ?_) (fun _ _ _ _ _ q => q)⟩
  have L3 := ((L.ext x1).ext x2).ext x3
  have r2 := r2.ext x3
  unfold setDM at A3
  cases w with
  | t _ => exact A3.elim
  | ref n =>
    obtain ⟨q, eq, rfl⟩ := r2
    dsimp only at A3
    cases ec : s3.hp[n]? with
    | none => rw [ec] at A3; exact A3.elim
    | some ob =>
      rw [ec] at A3
      obtain ⟨b, eb, cc⟩ := R3.cell n _ ec
      rw [eq] at eb; cases eb
      cases ob with
      | dct kvs =>
        obtain ⟨c1, c2, us, c3, c4⟩ := cc
        obtain ⟨kk, ek, A3⟩ := After.keyV r3 A3
        split at A3
        · rename_i hz
          obtain ⟨R4, x4⟩ := wr_cell (ob := .dct (dput kvs (keyT kk) v)) (o := .dK (putK us kk u)) R3 eq c1 c2 ⟨c1, c2, _, upd_same, dput_put ((r.ext x2).ext x3) c4⟩
          refine ⟨q, _, rfl, by rw [ek]; exact DPut.k c3 (by rw [← Paired.len c4]; exact hz), ?_⟩
          exact (A3 (s3.wr n (.dct (dput kvs (keyT kk) v))) _ rfl x4 R4).nx R4 (L3.ext x4)
        · exact A3.elim
      | _ => exact A3.elim
theorem putF_put {F : Hp} {ρ : List Addr} {f : Nat} (hf : f < 20) {v : Val} {u : V} (rv : RV Γ F ρ v u) : ∀ {fs : List (Nat × Val)} {ns : List (Str × V)}, RVf Γ F ρ fs ns → RVf Γ F ρ (MS.putF f v fs) (L2.putF (fldN f) u ns)
  | _, _, .nil => .cons ⟨rfl, rv⟩ .nil
  | _, _, .cons (a := p) (b := q) r t => by
    obtain ⟨g, w⟩ := p
    obtain ⟨j, z⟩ := q
    obtain ⟨r1, r2⟩ := r
    have r1 : j = fldN g := r1
    subst r1
    unfold MS.putF L2.putF
    by_cases h : g = f
    · subst h
      rw [if_pos rfl, if_pos rfl]
      exact .cons ⟨rfl, rv⟩ t
    · rw [if_neg h, if_neg fun z => h (fldN_inj hf z)]
      exact .cons ⟨rfl, r2⟩ (putF_put hf rv t)
theorem ss_fset {eo e : Expr} {nm : Str} {f : Nat} {a m : E} {p' : Pos} (hn : nm = fldN f) (hf : f < 20) (hK : X.K = Γ.K) (hC : ∀ c, Γ.pl c = true → Cls Γ.K (Γ.cA c)) (hA : ∀ c, Γ.pl c = true → NoAttr Γ.K (Γ.cA c) (fldN f)) (ho : SE Γ X eo (evE C a)) (h : SE Γ X e (evE C m)) (hs : ∀ env, swapsWith e (some (.Attribute eo nm p')) pos.line env = pure false) : SS Γ X (.Assign [.Attribute eo nm p'] e pos) (exS C (.fset a f m)) := by
  subst hn
  intro W tk
  refine PS.imp (ps_fld (ho W tk) (h W tk) (hs _)) ?_
  rintro D σ H ⟨loc, s, R, L, A⟩
  simp only [exS] at A
  have A0 := (A.thenE L).bind
  refine ⟨loc, s, R, L, A0.imp (fun v s1 H1 x1 R1 A1 u r => ?_) (fun _ _ _ _ _ q => q)⟩
  refine ⟨loc, s1, R1, L.ext x1, A1.bind.imp (fun w s2 H2 x2 R2 A2 u2 r2 => ?_) (fun _ _ _ _ _ q => q)⟩
  have Lx := (L.ext x1).ext x2
  unfold setFM at A2
  cases w with
  | t _ => exact A2.elim
  | ref n =>
    obtain ⟨q, eq, rfl⟩ := r2
    dsimp only at A2
    cases ec : s2.hp[n]? with
    | none => rw [ec] at A2; exact A2.elim
    | some ob =>
      rw [ec] at A2
      obtain ⟨b, eb, cc⟩ := R2.cell n _ ec
      rw [eq] at eb; cases eb
      cases ob with
      | ins c fs =>
        obtain ⟨c1, c2, dx, ns, c3, pc, c4⟩ := cc
        dsimp only at A2
        split at A2
        · rename_i hz
          obtain ⟨R4, x4⟩ := wr_cell (ob := .ins c (MS.putF f v fs)) (o := .ins (Γ.cA c) dx (L2.putF (fldN f) u ns)) R2 eq c1 c2 ⟨c1, c2, dx, _, upd_same, pc, putF_put hf (r.ext x2) c4⟩
          refine ⟨q, Γ.cA c, dx, ns, rfl, c3, by rw [hK]; exact hC c pc, by rw [hK]; exact hA c pc, by rw [← Paired.len c4]; omega, ?_⟩
          exact (A2 (s2.wr n (.ins c (MS.putF f v fs))) _ rfl x4 R4).nx R4 (Lx.ext x4)
        · exact A2.elim
      | _ => exact A2.elim
/-! ### loops -/
theorem rw_nrm {b : Bool} {s : AS} {H : Hp} {v : Val} {x : V} (R : Rel Γ s H) (r : RW Γ b s H v x) : RW Γ b s H (nrm v s.hp) x := by
  rcases r with r | ⟨hb, ts, us, a, e, q⟩
  · exact .inl (nrm_ok R r)
  · subst e
    exact .inr ⟨hb, ts, us, a, rfl, q⟩
theorem ss_for {b : Bool} {et ei : Expr} {body : List Stmt} {tg : Tg} {it : It} {mb : List S} (hlv : ∀ e, it ≠ .liv e) (hp : PassesOwn (model X.prog X.w) X.A X.env X.xe) (hc : X.calm = true) (hi : SI Γ X b et ei (evIt C it)) (hg : SG Γ X b et tg) (hb : SSs Γ X body (exSs C mb)) : SS Γ X (.For et ei body [] pos) (exS C (.fr tg it mb)) := by
  intro W tk
  refine PS.imp (ps_for hp hc (hi.1 W tk) hg (hb W tk) hi.2) ?_
  rintro D σ H ⟨loc, s, R, L, A⟩
  have A : AfterS Γ s (MS.thenE (evIt C it loc) loc (fun xs => forM tg (exSs C mb) xs loc) s.hp) W D := by
    simp only [exS] at A
    cases it with
    | liv e => exact absurd rfl (hlv e)
    | _ => exact A
  refine ⟨loc, s, R, L, (A.thenE L).imp (fun xs s1 H1 x1 R1 A1 J hw => ?_) (fun _ _ _ _ _ q => q)⟩
  refine ⟨fun i n σ H => n = xs.length - i ∧ i ≤ xs.length ∧ ∃ t l, Rel Γ t H ∧ Le s1.F t.F ∧ Locs Γ t l σ ∧ AfterS Γ t (forM tg (exSs C mb) (xs.drop i) l t.hp) W D, ⟨xs.length, by simp, Nat.zero_le _, s1, loc, R1, Le.refl _, L.ext x1, by rw [List.drop_zero]; exact A1⟩, ?_⟩
  rintro i n σ H ⟨rfl, hi, t, l, Rt, lF, Lt, At⟩
  have wk := hw t H lF Rt
  by_cases hlt : i < xs.length
  · have hx : xs[i]? = some xs[i] := List.getElem?_eq_getElem hlt
    obtain ⟨go, yl⟩ := wk.1 i _ hx
    refine .inr ⟨go, fun σ' H' => ∃ t l, Rel Γ t H' ∧ Le s1.F t.F ∧ Locs Γ t l σ' ∧ AfterS Γ t (forM tg (exSs C mb) (xs.drop (i + 1)) l t.hp) W D, fun σ' H' q => ⟨xs.length - (i + 1), by omega, rfl, hlt, q⟩, fun x H' hy => ?_⟩
    obtain ⟨t1, e1, x1', R1', rw1⟩ := yl x H' hy
    rw [List.drop_eq_getElem_cons hlt] at At
    unfold forM at At
    rw [← e1] at At
    cases ha : asg tg (nrm xs[i] t1.hp) l with
    | none => rw [ha] at At; exact At.elim
    | some l1 =>
      rw [ha] at At
      refine ⟨_, l, t1, l1, R1', Lt.ext x1', rw_nrm R1' rw1, ha, fun σ' L' _ => ⟨l1, t1, R1', L', ?_⟩⟩
      have At := AfterS.from x1' At
      dsimp only at At
      cases er : exSs C mb l1 t1.hp with
      | bad => rw [er] at At; exact At.elim
      | exc e l2 hp => rw [er] at At; exact At
      | ok f hp =>
        rw [er] at At
        have lF1 := lF.trans x1'.F
        cases f with
        | nx l2 =>
          intro s2 H2 e2 x2 R2 σ2 L2
          refine ⟨s2, l2, R2, lF1.trans x2.F, L2, ?_⟩
          rw [e2]
          exact AfterS.from x2 At
        | ct l2 =>
          intro s2 H2 e2 x2 R2 σ2 L2
          refine ⟨s2, l2, R2, lF1.trans x2.F, L2, ?_⟩
          rw [e2]
          exact AfterS.from x2 At
        | bk l2 => exact fun s2 H2 e2 x2 R2 σ2 L2 => At s2 H2 e2 x2 R2 σ2 L2
        | ret v => exact At
  · have ei : i = xs.length := by omega
    subst ei
    rw [List.drop_length] at At
    exact .inl ⟨wk.2, AfterS.nx Rt Lt At⟩
theorem ss_whl {c : Expr} {body : List Stmt} {mc : E} {mb : List S} (hp : PassesOwn (model X.prog X.w) X.A X.env X.xe) (hc : ST Γ X c (evT C mc)) (hb : SSs Γ X body (exSs C mb)) : SS Γ X (.While c body [] pos) (exS C (.whl mc mb)) := by
  intro W tk
  refine PS.imp (ps_while hp (hc W tk) (hb W tk)) ?_
  rintro D σ H ⟨loc, s, R, L, A⟩
  simp only [exS] at A
  refine ⟨fun n σ H => ∃ t l, Rel Γ t H ∧ Locs Γ t l σ ∧ AfterS Γ t (whileM (evT C mc) (exSs C mb) n l t.hp) W D, ⟨C.wf, s, loc, R, L, A⟩, ?_⟩
  rintro n σ H ⟨t, l, Rt, Lt, At⟩
  cases n with
  | zero => exact At.elim
  | succ n =>
    unfold whileM at At
    have A0 : After Γ t (evT C mc l t.hp) (fun b s' H' => AfterS Γ s' (if b = true then (match exSs C mb l s'.hp with
      | .ok (.nx l') h'' => whileM (evT C mc) (exSs C mb) n l' h''
      | .ok (.ct l') h'' => whileM (evT C mc) (exSs C mb) n l' h''
      | .ok (.bk l') h'' => .ok (.nx l') h''
      | r => r) else .ok (.nx l) s'.hp) W D) (XW Γ W σ) := by
      cases e : evT C mc l t.hp with
      | bad => rw [e] at At; exact At
      | exc x hp =>
        rw [e] at At
        exact fun s' H' e1 e2 R' => At s' H' e1 e2 R' σ (Lt.ext e2)
      | ok b hp =>
        rw [e] at At
        intro s' H' e1 e2 R'
        rw [e1]
        cases b with
        | true => exact AfterS.from e2 At
        | false => exact AfterS.from e2 At
    refine ⟨l, t, Rt, Lt, A0.imp (fun b s1 H1 x1 R1 A1 => ?_) (fun _ _ _ _ _ q => q)⟩
    cases b with
    | false =>
      dsimp only
      rw [if_neg (by simp)] at A1 ⊢
      exact A1.nx R1 (Lt.ext x1)
    | true =>
      dsimp only
      rw [if_pos rfl] at A1 ⊢
      refine ⟨fun σ' H' => ∃ t l, Rel Γ t H' ∧ Locs Γ t l σ' ∧ AfterS Γ t (whileM (evT C mc) (exSs C mb) n l t.hp) W D, fun σ' H' q => ⟨n, Nat.lt_succ_self n, q⟩, l, s1, R1, Lt.ext x1, ?_⟩
      cases er : exSs C mb l s1.hp with
      | bad => rw [er] at A1; exact A1.elim
      | exc e l2 hp => rw [er] at A1; exact A1
      | ok f hp =>
        rw [er] at A1
        cases f with
        | nx l2 =>
          intro s2 H2 e2 x2 R2 σ2 L2
          refine ⟨s2, l2, R2, L2, ?_⟩
          rw [e2]
          exact AfterS.from x2 A1
        | ct l2 =>
          intro s2 H2 e2 x2 R2 σ2 L2
          refine ⟨s2, l2, R2, L2, ?_⟩
          rw [e2]
          exact AfterS.from x2 A1
        | bk l2 => exact fun s2 H2 e2 x2 R2 σ2 L2 => A1 s2 H2 e2 x2 R2 σ2 L2
        | ret v => exact A1
end
end MS

set_option Elab.async false
set_option linter.all false
set_option maxRecDepth 100000
/-! MSV: name = [..] on one line. -/
namespace MS
open PySem PySem.Spec PyProof.Rows L2
section
variable {Γ : Run} {X : Cx} {C : Cl} {I : Info} {k : Nat} {pos p apos cpos : Pos}
theorem te_set {i : Nat} {m : E} {W : WX} {D : Ends} {σ : L2.St} {H : Hp} (h : tS Γ (exS C (.set i m)) W D σ H) : tE Γ (evE C m) W σ H (fun x H1 => gName i x σ H1 D.nx) := by
  obtain ⟨loc, s, R, L, A⟩ := h
  simp only [exS] at A
  exact ⟨loc, s, R, L, (A.thenE L).imp (fun v s1 H1 x1 R1 A1 u r => A1.nx R1 ((L.ext x1).set i r)) (fun _ _ _ _ _ q => q)⟩
/-- what a comprehension of one source must have -/
structure LcOk (Γ : Run) (X : Cx) (C : Cl) (b : Bool) (scope : Scope) (own : List (Str × Nat)) (tg : Tg) (it : It) (ifs : List E) (e : E) (et ei ee : Expr) (efs : List Expr) : Prop where
  hi : SI Γ X b et ei (evIt C it)
  ok : BlkOk X.N X.env.scope scope own
  hg : InB X scope fun Y => SG Γ Y b et tg
  ht : InB X scope fun Y => SPT Γ Y efs (evTs C ifs)
  he : InB X scope fun Y => SE Γ Y ee (evE C e)
  hown : ∀ i ∈ tg.ix, i ∈ own.map (·.2)
structure Lc2Ok (Γ : Run) (X : Cx) (C : Cl) (b b1 : Bool) (scope : Scope) (own : List (Str × Nat)) (tg : Tg) (it : It) (ifs : List E) (tg1 : Tg) (it1 : It) (ifs1 : List E) (e : E) (et ei et1 ei1 ee : Expr) (efs efs1 : List Expr) : Prop where
  hi : SI Γ X b et ei (evIt C it)
  ok : BlkOk X.N X.env.scope scope own
  hv : ∀ i ∈ tg1.ix, i ∈ own.map (·.2)
  hg : InB X scope fun Y => SG Γ Y b et tg
  ht : InB X scope fun Y => SPT Γ Y efs (evTs C ifs)
  hi1 : InB X scope fun Y => SI Γ Y b1 et1 ei1 (evIt C it1)
  hg1 : InB X scope fun Y => SG Γ Y b1 et1 tg1
  ht1 : InB X scope fun Y => SPT Γ Y efs1 (evTs C ifs1)
  he : InB X scope fun Y => SE Γ Y ee (evE C e)
  hown : ∀ i ∈ tg.ix, i ∈ own.map (·.2)
  hff : ffB ei1 = false
theorem LcOk.se {b m : Bool} {scope : Scope} {own : List (Str × Nat)} {tg : Tg} {it : It} {ifs : List E} {e : E} {et ei ee : Expr} {efs : List Expr} (h : LcOk Γ X C b scope own tg it ifs e et ei ee efs) (hc : X.calm = true) (hN : X.N.Nodup) :
    SE Γ X (.ListComp ee [⟨et, ei, efs, 0⟩] scope pos) (evE C (.lc m (own.map (·.2)) tg it ifs e)) := se_lc hc hN h.hi h.ok h.hg h.ht h.he h.hown
theorem Lc2Ok.se {b b1 m : Bool} {scope : Scope} {own : List (Str × Nat)} {tg tg1 : Tg} {it it1 : It} {ifs ifs1 : List E} {e : E} {et ei et1 ei1 ee : Expr} {efs efs1 : List Expr} (h : Lc2Ok Γ X C b b1 scope own tg it ifs tg1 it1 ifs1 e et ei et1 ei1 ee efs efs1) (hc : X.calm = true) (hN : X.N.Nodup) :
    SE Γ X (.ListComp ee [⟨et, ei, efs, 0⟩, ⟨et1, ei1, efs1, 0⟩] scope pos) (evE C (.lc2 m (own.map (·.2)) tg it ifs tg1 it1 ifs1 e)) := se_lc2 hc hN h.hi h.ok h.hv h.hg h.ht h.hi1 h.hg1 h.ht1 h.he h.hown h.hff
/-- the swap's condition, as a Bool -/
def swC (sc scope : Scope) (y : Str) (py pos : Pos) : Bool := (py.line == pos.line) && !(scope.names.any fun (n, k) => n == y && (k == .local || k == .cell))
theorem LcOk.ss {b m : Bool} {scope : Scope} {own : List (Str × Nat)} {tg : Tg} {it : It} {ifs : List E} {e : E} {et ei ee : Expr} {efs : List Expr} {i : Nat} {y : Str} {py spos : Pos} (h : LcOk Γ X C b scope own tg it ifs e et ei ee efs) (hc : X.calm = true) (hN : X.N.Nodup) (hk : X.env.scope.kind = .function) (hy : X.N[i]? = some y) (hyl : X.env.scope.names.lookup y = some .local) (hw : swC X.env.scope scope y py pos = true) :
    SS Γ X (.Assign [.Name y py] (.ListComp ee [⟨et, ei, efs, 0⟩] scope pos) spos) (exS C (.set i (.lc m (own.map (·.2)) tg it ifs e))) := by
  intro W tk
  unfold swC at hw
  rw [Bool.and_eq_true, Bool.not_eq_true'] at hw
  exact PS.imp (ps_setLc hc hN hy hyl (sw_true hk hyl hw.1 hw.2) (h.hi.1 W tk) h.ok h.hg h.ht (fun s H D cl fp => h.he s H D cl fp Wno no_takes) h.hi.2) fun D σ H q => te_lc h.hown (te_set q)
theorem Lc2Ok.ss {b b1 m : Bool} {scope : Scope} {own : List (Str × Nat)} {tg tg1 : Tg} {it it1 : It} {ifs ifs1 : List E} {e : E} {et ei et1 ei1 ee : Expr} {efs efs1 : List Expr} {i : Nat} {y : Str} {py spos : Pos} (h : Lc2Ok Γ X C b b1 scope own tg it ifs tg1 it1 ifs1 e et ei et1 ei1 ee efs efs1) (hc : X.calm = true) (hN : X.N.Nodup) (hk : X.env.scope.kind = .function) (hy : X.N[i]? = some y) (hyl : X.env.scope.names.lookup y = some .local) (hw : swC X.env.scope scope y py pos = true) :
    SS Γ X (.Assign [.Name y py] (.ListComp ee [⟨et, ei, efs, 0⟩, ⟨et1, ei1, efs1, 0⟩] scope pos) spos) (exS C (.set i (.lc2 m (own.map (·.2)) tg it ifs tg1 it1 ifs1 e))) := by
  intro W tk
  unfold swC at hw
  rw [Bool.and_eq_true, Bool.not_eq_true'] at hw
  exact PS.imp (ps_setLc2 hc hN hy hyl (sw_true hk hyl hw.1 hw.2) (h.hi.1 W tk) h.ok h.hv h.hg h.ht (fun s H D cl fp => (h.hi1 s H D cl fp).1 Wno no_takes) h.hg1 h.ht1 (fun s H D cl fp => h.he s H D cl fp Wno no_takes) h.hi.2 (fun env => ff_no h.hff)) fun D σ H q => te_lc2 h.hown (te_set q)
end
end MS

set_option Elab.async false
set_option linter.all false
set_option maxRecDepth 100000
/-! MSW: instances made. -/
namespace MS
open PySem PySem.Spec PyProof.Rows L2
section
variable {Γ : Run} {X : Cx} {C : Cl} {I : Info} {k : Nat} {pos p apos cpos : Pos}
def mkM (g : List Val → MH Val) (c : Nat) (vs : List Val) : MH Val := fun h => match g (.ref h.length :: vs) (h ++ [.ins c []]) with
      | .ok (.t .non) h' => MH.bind (pur (.ref h.length)) (fun x => pure (.t x)) h'
      | .ok _ _ => .bad
      | .exc e h' => .exc e h'
      | .bad => .bad
theorem newM_eq {c f : Nat} {vs : List Val} (h : C.ini c = some f) : newM C false c vs = if vs.all Val.isT = true then apart (mkM (C.nw f) c vs) else bad := by
  unfold newM
  rw [h]
  rfl
/-- what __init__ is handed, what comes of it -/
theorem make_sp {g : List Val → MH Val} {n c : Nat} {s : AS} {H : Hp} {vs : List Val} {us : List V} {Q : VK} {E : XK} {x dx : Addr} (hx : H x = none) (hdx : H dx = none) (hne : dx ≠ x) (hpl : Γ.pl c = true) (hl : us.length + 1 = n) (R : Rel Γ s H) (r : RVs Γ s.F s.ρ vs us)
    (A : After Γ s ((if vs.all Val.isT = true then apart (mkM g c vs) else bad) s.hp) (fun v s' H' => ∀ u, RV Γ s'.F s'.ρ v u → Q u H') (fun e _ H' => ∀ cls d, ExR Γ.xA e cls d H' → E cls d H')) :
    spM Γ n g (.ref x :: us) (upd (upd H dx (.own x)) x (.ins (Γ.cA c) dx [])) (fun v H2 => v = .non ∧ Q (.ref x) H2) E := by
  split at A
  · rename_i ht
    have R0 := away_rel R
    have R1 := R0.junk (o := .own x) hdx
    have hx1 : upd H dx (.own x) x = none := by rw [upd_ne (fun z => hne z.symm)]; exact hx
    obtain ⟨f1, f2⟩ := R1.free hx1
    obtain ⟨R2, x2⟩ := new_cell (ob := .ins c []) (o := .ins (Γ.cA c) dx []) R1 hx1 ⟨f1, f2, dx, [], upd_same, hpl, .nil⟩
    have rx : RV Γ ((s.away H).push x (.ins c [])).F ((s.away H).push x (.ins c [])).ρ (.ref 0) (.ref x) := ⟨x, rfl, rfl⟩
    refine ⟨by rw [List.length_cons]; exact hl, .ref 0 :: vs, _, R2, .cons rx (RVs.apart ht r), ?_⟩
    show After Γ _ (g (.ref 0 :: vs) [.ins c []]) _ _
    unfold apart mkM at A
    have e0 : ([] : List Ob) ++ [Ob.ins c []] = [.ins c []] := rfl
    rw [show ([] : List Ob).length = 0 from rfl, e0] at A
    cases e : g (.ref 0 :: vs) [.ins c []] with
    | bad => rw [e] at A; exact A.elim
    | exc y h2 =>
      rw [e] at A
      intro s' H' _ x' R'
      obtain ⟨R3, x3⟩ := back_rel R (x2.trans x') R'
      exact A (s.back s') H' rfl x3 R3
    | ok v h2 =>
      rw [e] at A
      intro s' H' e2 x' R' u ru
      cases v with
      | ref m => exact A.elim
      | t y =>
        cases y with
        | non =>
          refine ⟨rv_non.mp ru, ?_⟩
          dsimp only at A
          have rx' : RV Γ s'.F s'.ρ (.ref 0) (.ref x) := rx.ext x'
          rcases fzn_ok 8 s' _ _ R' rx' with e3 | ⟨z, s2, e3, x3, R3, rz⟩
          · rw [← e2] at A
            rw [show MH.bind (pur (.ref 0)) (fun x => (pure (.t x) : MH Val)) s'.hp = .bad from bind_no e3] at A
            exact A.elim
          · rw [← e2] at A
            rw [show MH.bind (pur (.ref 0)) (fun x => (pure (.t x) : MH Val)) s'.hp = .ok (.t z) s2.hp from bind_ok e3] at A
            obtain ⟨R4, x4⟩ := back_rel R ((x2.trans x').trans x3) R3
            exact A (s.back s2) H' rfl x4 R4 _ rz
        | _ => exact A.elim
  · exact A.elim
/-- C(..), its arguments there -/
theorem Lev.make {g : Nat → List Val → MH Val} (L : Lev Γ X I k g) (hr : Room (k + 1) X.A) {W : WX} (tk : Takes X W) {f c : Nat} (M : Mk X.K (Γ.cA c) (I.fA f)) (hpl : Γ.pl c = true) {s : AS} {H : Hp} {vs : List Val} {us : List V} {uv up : List Value} {kw : List (Str × Value)} {Q : VK} {σ : L2.St} {pins : List (Addr × Obj)} {S : Shared} (J : Inv X pins σ H S) (rv : Vals us uv) (R : Rel Γ s H) (r : RVs Γ s.F s.ρ vs us)
    (hb : ∀ (S' : Shared) (z : Value), X.K.In S'.heap → (z :: uv).length = (I.ps f).length → BindsTo S' (I.fd f) ⟨z :: up, kw⟩ ((I.ps f).zip (z :: uv)))
    (A : After Γ s ((if vs.all Val.isT = true then apart (mkM (g f) c vs) else bad) s.hp) (fun v s' H' => ∀ u, RV Γ s'.F s'.ρ v u → Q u H') (XW Γ W σ)) : wpAny (model X.prog X.w) X.A (call (.ref (Γ.cA c)) up kw) (EP X pins σ Q) X.xe S := by
  have key : g f (.ref 0 :: vs) [.ins c []] ≠ .bad := by
    intro z
    split at A
    · unfold apart mkM at A
      rw [show ([] : List Ob).length = 0 from rfl, show ([] : List Ob) ++ [Ob.ins c []] = [.ins c []] from rfl] at A
      rw [z] at A
      exact A.elim
    · exact A.elim
  have h1 : I.ok f = true := by
    cases e : I.ok f with
    | true => rfl
    | false => exact absurd (L.no f e _ _) key
  have h2 := L.len f _ _ key
  rw [List.length_cons] at h2
  obtain ⟨F, _⟩ := L.fn f h1
  have hl : us.length + 1 = (I.ps f).length := by rw [← Paired.len r]; exact h2
  have hq := make_sp (E := WE W σ) (x := S.heap.objs.size + 1) (dx := S.heap.objs.size) (J.hok.fresh (Nat.le_succ _)) (J.hok.fresh (Nat.le_refl _)) (Nat.ne_of_lt (Nat.lt_succ_self _)) hpl hl R r A
  have I2 := Inv.made (C := Γ.cA c) J
  have r2 : Vals (V.ref (S.heap.objs.size + 1) :: us) (Value.ref (S.heap.objs.size + 1) :: uv) := .cons rfl rv
  have hl2 : (Value.ref (S.heap.objs.size + 1) :: uv).length = (I.ps f).length := by rw [List.length_cons, ← rv.length]; exact hl
  refine wpAny_call (make_map (f := I.fA f) J.kIn M.makes M.init (beq_iff_eq.mp M.fn) (codeAny_mono (F.run _ X.stack _ _ ⟨Value.ref (S.heap.objs.size + 1) :: up, kw⟩ (Value.ref (S.heap.objs.size + 1) :: uv) _ _ (WE W σ) (hr.make (Γ.cA c) up kw)
    (I2.env0.make (Γ.cA c) up kw) (hb _ _ I2.kIn hl2) r2 hq) fun r s' hq' => ?_))
  cases r with
  | error e => exact passAt tk σ pins _ _ e s' I2 hq'
  | ok fl =>
    cases fl with
    | ret u =>
      obtain ⟨v, H', I3, rv, ev, q3⟩ := I2.after hq'
      subst ev
      exact ⟨rv, ⟨V.ref (S.heap.objs.size + 1), H', I3, rfl, q3⟩⟩
    | next => exact False.elim hq'
    | brk => exact False.elim hq'
    | cont => exact False.elim hq'
theorem after_new {c f : Nat} {vs : List Val} (h : C.ini c = some f) {s : AS} {Q : Val → AS → Hp → Prop} {E : Ex → AS → Hp → Prop} (A : After Γ s (newM C false c vs s.hp) Q E) : After Γ s ((if vs.all Val.isT = true then apart (mkM (C.nw f) c vs) else bad) s.hp) Q E := by
  rw [newM_eq h] at A
  exact A
/-- C(e, ..) -/
theorem se_new {x : Str} {c f : Nat} {e : Expr} {es : List Expr} {ms : List E} (T : Ctx Γ X C I k) (hi : C.ini c = some f) (hp : I.pos f = true) (hg : Gl X x) (hm : X.mg x = some (.ref (Γ.cA c)))
    (ha : SA Γ X (e :: es) (evEs C ms)) (hst : (e :: es).any stB = false) (hdb : (x == ("__debug__" : Str)) = false) : SE Γ X (.Call (.Name x p) (e :: es) [] pos) (evE C (.new c 0 ms)) := by
  rw [List.any_cons, Bool.or_eq_false_iff] at hst
  intro W tk
  refine ⟨fun pins S σ H Q J h => ?_⟩
  obtain ⟨loc, s, R, L, A⟩ := h
  simp only [evE] at A
  have M := T.ini c f hi
  refine wpAny_Call_Name_kw (ld_glob J hg hm ?_ hdb)
  refine PySem.W.callWith_K (h₀ := X.base) J.ok.mod.kin M.kp (thn ((ha W tk).run pos pins S σ H (fun us H1 => ∃ vs s1, Rel Γ s1 H1 ∧ RVs Γ s1.F s1.ρ vs us ∧ After Γ s1 (newM C false c vs s1.hp) (fun v s' H' => ∀ u, RV Γ s'.F s'.ρ v u → Q u H') (XW Γ W σ)) J
    ⟨loc, s, R, L, A.bind.imp (fun vs s1 H1 x1 R1 A1 us rs => ⟨vs, s1, R1, rs, A1⟩) (fun _ _ _ _ _ q => q)⟩) fun us s1 ⟨vs, H1, I1, r, ws, t1, R1, rs, A1⟩ => ⟨I1.kIn, ?_⟩) (star_cons hst.1) (spl_plain hst.2)
  refine T.nw.make T.room tk M (T.inp c f hi) I1 r R1 rs (fun S' z hS hl => ?_) (after_new hi A1)
  have ok : I.ok f = true := by
    cases e : I.ok f with
    | true => rfl
    | false =>
      have A2 := after_new hi A1
      split at A2
      · unfold apart mkM at A2
        rw [T.nw.no f e] at A2
        exact A2.elim
      · exact A2.elim
  have b := (T.nw.fn f ok).2 hp S' (z :: us) hS (by rw [List.append_nil]; exact hl)
  rw [List.append_nil] at b
  exact b
theorem se_new0 {x : Str} {c f : Nat} (T : Ctx Γ X C I k) (hi : C.ini c = some f) (hp : I.pos f = true) (hg : Gl X x) (hm : X.mg x = some (.ref (Γ.cA c))) (hdb : (x == ("__debug__" : Str)) = false) : SE Γ X (.Call (.Name x p) [] [] pos) (evE C (.new c 0 [])) := by
  intro W tk
  refine ⟨fun pins S σ H Q J h => ?_⟩
  obtain ⟨loc, s, R, L, A⟩ := h
  simp only [evE, evEs, pure_eq, MH.pure_bind] at A
  have M := T.ini c f hi
  refine wpAny_Call_Name_kw (ld_glob J hg hm ?_ hdb)
  refine PySem.W.callWith_K0 J.kIn M.kp ?_
  refine T.nw.make (us := []) (vs := []) T.room tk M (T.inp c f hi) J .nil R .nil (fun S' z hS hl => ?_) (after_new hi A)
  have ok : I.ok f = true := by
    cases e : I.ok f with
    | true => rfl
    | false =>
      have A2 := after_new hi A
      split at A2
      · unfold apart mkM at A2
        rw [T.nw.no f e] at A2
        exact A2.elim
      · exact A2.elim
  have b := (T.nw.fn f ok).2 hp S' [z] hS (by rw [List.append_nil]; exact hl)
  rw [List.append_nil] at b
  exact b
/-- C(e, .., n = v) -/
theorem evEs_snoc {loc : Loc} {m : E} : ∀ ms : List E, evEs C (ms ++ [m]) loc = MH.bind (evEs C ms loc) fun vs => MH.bind (evE C m loc) fun v => MH.pure (vs ++ [v])
  | [] => by simp only [List.nil_append, evEs, pure_eq, MH.pure_bind]
  | x :: ms => by
    simp only [List.cons_append, evEs]
    rw [evEs_snoc ms]
    simp only [MH.bind_assoc, pure_eq, MH.pure_bind]
    rfl
theorem se_newK {x kn : Str} {c f : Nat} {e ek : Expr} {es : List Expr} {ms : List E} {mk : E} {kp : Pos} (T : Ctx Γ X C I k) (hi : C.ini c = some f) (hg : Gl X x) (hm : X.mg x = some (.ref (Γ.cA c)))
    (hb : ∀ (S' : Shared) (z w : Value) (us : List Value), X.K.In S'.heap → (z :: (us ++ [w])).length = (I.ps f).length → BindsTo S' (I.fd f) ⟨z :: us, [(kn, w)]⟩ ((I.ps f).zip (z :: (us ++ [w]))))
    (ha : SA Γ X (e :: es) (evEs C ms)) (hk : SE Γ X ek (evE C mk)) (hst : (e :: es).any stB = false) (hdb : (x == ("__debug__" : Str)) = false) : SE Γ X (.Call (.Name x p) (e :: es) [⟨some kn, ek, kp⟩] pos) (evE C (.new c 1 (ms ++ [mk]))) := by
  rw [List.any_cons, Bool.or_eq_false_iff] at hst
  intro W tk
  refine ⟨fun pins S σ H Q J h => ?_⟩
  obtain ⟨loc, s, R, L, A⟩ := h
  simp only [evE] at A
  rw [evEs_snoc, MH.bind_assoc] at A
  have M := T.ini c f hi
  refine wpAny_Call_Name_kw (ld_glob J hg hm ?_ hdb)
  refine PySem.W.callWith_KW (h₀ := X.base) J.ok.mod.kin M.kp rfl (thn ((ha W tk).run pos pins S σ H (fun us H1 => ∃ vs s1, Rel Γ s1 H1 ∧ Ext s s1 ∧ RVs Γ s1.F s1.ρ vs us ∧ After Γ s1 (MH.bind (MH.bind (evE C mk loc) fun v => MH.pure (vs ++ [v])) (fun vs => newM C false c vs) s1.hp) (fun v s' H' => ∀ u, RV Γ s'.F s'.ρ v u → Q u H') (XW Γ W σ)) J
    ⟨loc, s, R, L, A.bind.imp (fun vs s1 H1 x1 R1 A1 us rs => ⟨vs, s1, R1, x1, rs, A1⟩) (fun _ _ _ _ _ q => q)⟩) fun us s1 ⟨vs, H1, I1, r, ws, t1, R1, x1, rs, A1⟩ => ?_) ?_ (star_cons hst.1)
  · rw [MH.bind_assoc] at A1
    refine thn ((pk_cons (hk W tk) pk_nil).run pos pins s1 σ H1 (fun zs H2 => ∃ (v : Val) (z : V) (t2 : AS), zs = [z] ∧ Rel Γ t2 H2 ∧ RVs Γ t2.F t2.ρ ws vs ∧ RV Γ t2.F t2.ρ v z ∧ After Γ t2 (newM C false c (ws ++ [v]) t2.hp) (fun v s' H' => ∀ u, RV Γ s'.F s'.ρ v u → Q u H') (XW Γ W σ)) I1
      ⟨loc, t1, R1, L.ext x1, A1.bind.imp (fun v t2 H2 x2 R2 A2 z rz => ⟨v, z, t2, rfl, R2, rs.ext x2, rz, A2⟩) (fun _ _ _ _ _ q => q)⟩) fun kv s2 ⟨zs, H2, I2, rk, v, z, t2, ez, R2, rs2, rz, A2⟩ => ⟨I2.kIn, ?_⟩
    subst ez
    cases rk with
    | cons rk1 rk2 =>
      cases rk2
      rename_i w _
      refine T.nw.make (up := us) (uv := us ++ [w]) T.room tk M (T.inp c f hi) I2 (r.append (.cons rk1 .nil)) R2 (Paired.app rs2 (.cons rz .nil)) (fun S' z' hS hl => hb S' z' w us hS hl) (after_new hi A2)
  · rw [star_cons hst.1]
    show ((false || (backTo pos (starEach es X.env)).any (·.1)) || false) = false
    rw [spl_plain hst.2]
    rfl
end
end MS

set_option Elab.async false
set_option linter.all false
set_option maxRecDepth 100000
/-! MSX: a def that captured __class__; super().__init__(..). -/
namespace MS
open PySem PySem.Spec PyProof.Rows L2
/-! ### cells and a closure -/
theorem cellsFrom_app : ∀ (names : List (Str × NameKind)) (n : Nat) (acc : List (Str × Addr)), cellsFrom n names acc = cellsFrom n names [] ++ acc
  | [], n, acc => rfl
  | (x, kd) :: r, n, acc => by
    unfold cellsFrom
    split
    · rw [cellsFrom_app r (n + 1) ((x, n) :: acc), cellsFrom_app r (n + 1) [(x, n)], List.append_assoc]
      rfl
    · exact cellsFrom_app r n acc
section
variable {M : Model} {A : Around} {E : Value → Shared → Prop} {s₀ s : Shared} {m cm : Str → Option Value} {env : Env} {cs clo : List (Str × Addr)}
theorem look_app {n : Str} {c : Addr} (h : cs.lookup n = some c) : (cs ++ clo).lookup n = some c := by
  rw [List.lookup_append, h]; rfl
theorem stLD {n : Str} {v : Value} {Q : Unit → Shared → Prop} (x : InCallC s₀ env.locals m cs cm s) (hk : env.scope.kind = .function) (hl : env.kindOf n = some .local)
    (h : ∀ s', InCallC s₀ env.locals (fun y => if y = n then some v else m y) cs cm s' → Q () s') : wpAny M A (storeName env n v) Q E s := by
  refine wpAny_storeName_local hl x.toInCall.ns (fun h' hn' hs' => h _ ⟨⟨?_, hn', fun b o e => ?_, x.toInCall.fresh⟩, fun k c hc => ?_, x.apart, x.above⟩) (by rw [hk]; rfl)
  · obtain ⟨h₁, tk, rfl⟩ := x.toInCall.same
    exact ⟨h', _, rfl⟩
  · exact hs'.extBut b o (Nat.ne_of_lt (Nat.lt_of_lt_of_le (Heap.lt_size e) x.toInCall.fresh)) (x.toInCall.keep b o e)
  · exact (x.cell k c hc).sameBut hs' (Nat.ne_of_gt (x.above k c (PySem.mem_of_lookup hc)))
theorem stCD {n : Str} {c : Addr} {v : Value} {Q : Unit → Shared → Prop} (x : InCallC s₀ env.locals m cs cm s) (hk : env.scope.kind = .function) (hl : env.kindOf n = some .cell)
    (he : env.cells = cs ++ clo) (hc : cs.lookup n = some c)
    (h : ∀ s', InCallC s₀ env.locals m cs (fun y => if y = n then some v else cm y) s' → Q () s') : wpAny M A (storeName env n v) Q E s := by
  have hLc := x.above n c (PySem.mem_of_lookup hc)
  refine wpAny_storeName_cell hk hl (by rw [he]; exact look_app hc) (x.cell n c hc) fun h' hc' hs' => h _ ⟨⟨?_, x.toInCall.ns.sameBut hs' (Nat.ne_of_lt hLc), fun b o e => ?_, x.toInCall.fresh⟩, fun k c' hk' => ?_, x.apart, x.above⟩
  · obtain ⟨h₁, tk, rfl⟩ := x.toInCall.same
    exact ⟨h', _, rfl⟩
  · exact hs'.extBut b o (Nat.ne_of_lt (Nat.lt_trans (Nat.lt_of_lt_of_le (Heap.lt_size e) x.toInCall.fresh) hLc)) (x.toInCall.keep b o e)
  · by_cases hkn : k = n
    · subst hkn
      rw [hc] at hk'; cases hk'
      simpa using hc'
    · rw [if_neg hkn]
      exact (x.cell k c' hk').sameBut hs' fun e => hkn (name_of_addr x.apart (PySem.mem_of_lookup hk') (e ▸ PySem.mem_of_lookup hc))
theorem bindParamsD (f : Str × Value → PUnit → Sem (ForInStep PUnit)) (hf : ∀ n v u, f (n, v) u = (do storeName env n v; pure (.yield ⟨⟩))) (hk : env.scope.kind = .function) (he : env.cells = cs ++ clo) :
    ∀ (binds : List (Str × Value)) (m cm : Str → Option Value) (s : Shared) (Q : PUnit → Shared → Prop), InCallC s₀ env.locals m cs cm s →
      (∀ x ∈ binds, env.kindOf x.1 = some .local ∨ (env.kindOf x.1 = some .cell ∧ (cs.lookup x.1).isSome = true)) →
      (∀ s', InCallC s₀ env.locals (bindL env.kindOf binds m) cs (bindC env.kindOf binds cm) s' → Q ⟨⟩ s') → wpAny M A (forIn binds ⟨⟩ f) Q E s
  | [], m, cm, s, Q, x, _, h => by rw [List.forIn_nil]; exact wpAny_pure (h s x)
  | (n, v) :: r, m, cm, s, Q, x, hkind, h => by
    rw [List.forIn_cons, hf]
    have hr : ∀ y ∈ r, env.kindOf y.1 = some .local ∨ (env.kindOf y.1 = some .cell ∧ (cs.lookup y.1).isSome = true) := fun y hy => hkind y (List.mem_cons_of_mem _ hy)
    rcases hkind (n, v) List.mem_cons_self with hl | ⟨hl, hc⟩
    · refine wpAny_bind (wpAny_bind (stLD x hk hl fun s' x' => wpAny_pure (bindParamsD f hf hk he r _ _ s' Q x' hr fun s'' x'' => h s'' ?_)))
      unfold bindL bindC; rw [if_pos hl, if_pos hl]; exact x''
    · obtain ⟨c, hc⟩ := Option.isSome_iff_exists.mp hc
      have hnl : ¬ env.kindOf n = some .local := by rw [hl]; decide
      refine wpAny_bind (wpAny_bind (stCD x hk hl he hc fun s' x' => wpAny_pure (bindParamsD f hf hk he r _ _ s' Q x' hr fun s'' x'' => h s'' ?_)))
      unfold bindL bindC; rw [if_neg hnl, if_neg hnl]; exact x''
theorem newEnvD {scope : Scope} {globals : Addr} {binds : List (Str × Value)} {qual : Str} {func : Option Addr} {code : Value} {builtins : Addr} {Q : Env → Shared → Prop}
    (hk : scope.kind = .function)
    (hkind : ∀ x ∈ binds, scope.names.lookup x.1 = some .local ∨ (scope.names.lookup x.1 = some .cell ∧ ((cellsFrom (s.heap.objs.size + 1) scope.names []).lookup x.1).isSome = true))
    (hQ : ∀ env, env = newEnv scope s.heap.objs.size globals (cellsFrom (s.heap.objs.size + 1) scope.names [] ++ clo) qual func code none builtins →
      ∀ s', InCallC s env.locals (bindL env.kindOf binds fun _ => none) (cellsFrom (s.heap.objs.size + 1) scope.names []) (bindC env.kindOf binds fun _ => none) s' → Q env s') :
    wpAny M A (newFunctionEnv scope globals clo binds qual func code none builtins) Q E s := by
  simp only [newFunctionEnv, Option.isSome_none, Bool.false_eq_true, if_false]
  refine wpAny_bind (wpAny_alloc ?_)
  refine wpAny_bind (wpAny_layCells _ (fun name kind cells => by cases hkc : kind == NameKind.cell <;> simp [hkc]) _ _ _ _ ?_)
  have ok := cellsFrom_ok scope.names (s.heap.push { cls := .type "frame", data := .dict #[] }) (s.heap.objs.size + 1) [] ⟨fun _ _ hm => (nomatch hm), List.Pairwise.nil⟩ (by rw [Heap.size_push]; exact Nat.le_refl _)
  rw [Heap.size_push] at ok
  rw [show ({ s with heap := s.heap.push { cls := .type "frame", data := .dict #[] } } : Shared).heap.objs.size = s.heap.objs.size + 1 from Heap.size_push ..]
  rw [cellsFrom_app scope.names _ clo]
  refine wpAny_bind (bindParamsD (s₀ := s) (cs := cellsFrom (s.heap.objs.size + 1) scope.names []) (clo := clo) (env := newEnv scope s.heap.objs.size globals (cellsFrom (s.heap.objs.size + 1) scope.names [] ++ clo) qual func code none builtins)
    _ (fun _ _ _ => rfl) hk rfl binds (fun _ => none) (fun _ => none) _ _
    ⟨⟨⟨_, _, rfl⟩, (Heap.Ns.new s.heap (.type "frame")).keeps (pushCells_keeps _ _), fun b o e => pushCells_keeps _ _ b o (Heap.get?_push_of_some _ e), Nat.le_refl _⟩,
      fun n c hc => (ok.empty n c (PySem.mem_of_lookup hc)).1, ok.apart, fun n c hm => (ok.empty n c hm).2⟩
    hkind fun s' x => wpAny_pure (hQ _ rfl s' x))
end
/-! ### the context of such a def -/
def kcl (cc : Addr) : List (Str × Addr) := [("__class__", cc)]
abbrev envK (qual : Str) (scope : Scope) (L f : Addr) (cd : Value) (cc : Addr) : Env := PySem.W.envX qual scope L f cd (cellsFrom (L + 1) scope.names [] ++ kcl cc)
structure KScope (N P : List Str) (sc : Scope) : Prop where
  kind : sc.kind = .function
  co : sc.isCoroutine = false
  gen : sc.isGenerator = false
  nd : N.Nodup
  pre : N.take P.length = P
  par : ∀ x ∈ P, sc.names.lookup x = some .local ∨ sc.names.lookup x = some .cell
  free : ∀ y ∈ sc.names, y.2 = .free → y.1 = "__class__"
  nocl : ∀ y ∈ sc.names, y.1 = "__class__" → y.2 = .free
def cxK (CX : CXT) (P : Program) (w : World) (K : PySem.W.Frag) (mg : Str → Option Value) (base : Heap) (N : List Str) (qual : Str) (scope : Scope) (f : Addr) (cd : Value) (cc : Addr) (A : Around) (outer : List Env) (s : Shared) (H : Hp) (E : XK) : Cx where
  prog := P
  w := w
  K := K
  mg := mg
  base := base
  A := A.deeper (envK qual scope s.heap.objs.size f cd cc)
  N := N
  s_0 := s
  H_0 := H
  env := envK qual scope s.heap.objs.size f cd cc
  outer := outer
  stack := envK qual scope s.heap.objs.size f cd cc :: outer
  ex := []
  calm := true
  fn := fun x => !(x == "__class__")
  pn := []
  xe := fun e s' => wpAny (model P w) (A.deeper (envK qual scope s.heap.objs.size f cd cc)) (leaving (envK qual scope s.heap.objs.size f cd cc) e) (fun _ s'' => CX outer H s E e s'') (fun e' s'' => CX outer H s E e' s'') s'
theorem cellsFrom_names : ∀ (names : List (Str × NameKind)) (n : Nat) (x : Str) (c : Addr), (cellsFrom n names []).lookup x = some c → (x, NameKind.cell) ∈ names
  | [], n, x, c, h => by simp [cellsFrom] at h
  | (y, kd) :: r, n, x, c, h => by
    unfold cellsFrom at h
    split at h
    · rename_i hk
      rw [cellsFrom_app, List.lookup_append] at h
      cases e : (cellsFrom (n + 1) r []).lookup x with
      | some d => exact List.mem_cons_of_mem _ (cellsFrom_names r (n + 1) x d e)
      | none =>
        rw [e] at h
        have hk : kd = .cell := by cases kd <;> first | rfl | cases hk
        have h : List.lookup x [(y, n)] = some c := by simpa using h
        rw [List.lookup_cons] at h
        cases hb : x == y with
        | true => rw [beq_iff_eq.mp hb, hk]; exact List.mem_cons_self
        | false => rw [hb] at h; cases h
    · exact List.mem_cons_of_mem _ (cellsFrom_names r n x c h)
theorem kcl_look {cc : Addr} {x : Str} {c : Addr} (h : (kcl cc).lookup x = some c) : x = "__class__" ∧ c = cc := by
  unfold kcl at h
  rw [List.lookup_cons] at h
  cases hb : x == ("__class__" : Str) with
  | true => rw [hb] at h; cases h; exact ⟨beq_iff_eq.mp hb, rfl⟩
  | false => rw [hb] at h; cases h
theorem inv_startK {CX : CXT} {P : Program} {w : World} {K : PySem.W.Frag} {mg : Str → Option Value} {base : Heap} {N ps : List Str} {qual : Str} {scope : Scope} {f cc : Addr} {cd : Value} {A : Around} {outer : List Env} {s s1 : Shared} {H : Hp} {E : XK} {us : List Value} {vs : List V} {oc : Obj} {cv : Option Value}
    (S : KScope N ps scope) (hd : A.handled = none) (e0 : Env0 P w K mg base A outer s H) (hl : vs.length = ps.length) (r : Vals vs us) (hcc : base.get? cc = some oc) (hcv : oc.data = .cell cv)
    (x : InCallC s s.heap.objs.size (bindL (envK qual scope s.heap.objs.size f cd cc).kindOf (ps.zip us) fun _ => none) (cellsFrom (s.heap.objs.size + 1) scope.names []) (bindC (envK qual scope s.heap.objs.size f cd cc).kindOf (ps.zip us) fun _ => none) s1) :
    Inv (cxK CX P w K mg base N qual scope f cd cc A outer s H E) [] (L2.start N vs) H s1 := by
  have hpl : ps.length ≤ N.length := by have := congrArg List.length S.pre; rw [List.length_take] at this; omega
  obtain ⟨h1, tk, rfl, hk⟩ := x.done
  have noA : ∀ b : Addr, b ∉ (cxK CX P w K mg base N qual scope f cd cc A outer s H E).ex := fun b z => absurd (show b ∈ ([] : List Addr) from z) (by simp)
  have hccs := e0.bs cc oc hcc
  have look : ∀ {y c}, (cellsFrom (s.heap.objs.size + 1) scope.names [] ++ kcl cc).lookup y = some c → (cellsFrom (s.heap.objs.size + 1) scope.names []).lookup y = some c ∨ (y = "__class__" ∧ c = cc) := fun {y c} h => by
    rw [List.lookup_append] at h
    cases e : (cellsFrom (s.heap.objs.size + 1) scope.names []).lookup y with
    | some d => rw [e] at h; cases h; exact .inl rfl
    | none => rw [e] at h; exact .inr (kcl_look h)
  have up : ∀ {y c}, (cellsFrom (s.heap.objs.size + 1) scope.names []).lookup y = some c → s.heap.objs.size ≤ c ∧ c ≠ cc := fun {y c} h => by
    have a := x.above y c (PySem.mem_of_lookup h)
    refine ⟨Nat.le_of_lt a, fun z => ?_⟩
    have := Heap.lt_size hccs.1
    rw [← z] at this
    exact Nat.lt_irrefl _ (Nat.lt_trans a this)
  refine ⟨⟨e0.mod, S.kind, rfl, rfl, Nat.le_refl _, fun y z c h1 h2 => ?_, fun y hy => ?_, fun y c hf h => ?_, fun _ => hd, Around.frames_deeper e0.frames, .inr ⟨rfl, rfl⟩, fun b z => absurd z (noA b), e0.bs, e0.bsz, fun b _ _ => noA b, fun b z => absurd z (noA b), e0.funs, e0.frf⟩,
    rfl, e0.bare, Un.kept hk, ⟨_, x.toInCall.ns, fun i y v h1 h2 h3 => ?_⟩, fun y c h => ?_, e0.hok.fresh (Nat.le_refl _), fun y c h => ?_, fun p hp => absurd (show p ∈ ([] : List (Addr × Obj)) from hp) (by simp), e0.hok.kept hk, ?_⟩
  · rcases look h1 with h1 | ⟨rfl, e1⟩ <;> rcases look h2 with h2 | ⟨rfl, e2⟩
    · exact name_of_addr x.apart (PySem.mem_of_lookup h1) (PySem.mem_of_lookup h2)
    · exact absurd e2 (up h1).2
    · exact absurd e1 (up h2).2
    · rfl
  · have hy : scope.names.lookup y = some .cell ∨ scope.names.lookup y = some .free := hy
    rcases hy with hy | hy
    · obtain ⟨c, e⟩ := cell_has (n := s.heap.objs.size + 1) hy
      exact ⟨c, look_app e⟩
    · have e := S.free _ (PySem.mem_of_lookup hy) rfl
      dsimp only at e
      subst e
      cases e : (cellsFrom (s.heap.objs.size + 1) scope.names []).lookup ("__class__" : Str) with
      | some d => exact ⟨d, look_app e⟩
      | none => exact ⟨cc, by show (_ ++ kcl cc).lookup _ = _; rw [List.lookup_append, e]; rfl⟩
  · rcases look h with h | ⟨rfl, _⟩
    · exact (up h).1
    · cases (show (!(("__class__" : Str) == "__class__")) = true from hf)
  · have hi : i < vs.length := by
      unfold L2.start at h2
      by_cases hi : i < vs.length
      · exact hi
      · rw [List.getElem?_append_right (by simpa using hi)] at h2
        rw [List.getElem?_replicate] at h2
        split at h2 <;> cases h2
    have ha : vs[i]? = some v := by
      unfold L2.start at h2
      rw [List.getElem?_append_left (by simpa using hi), List.getElem?_map] at h2
      cases e : vs[i]? with
      | none => rw [e] at h2; cases h2
      | some a => rw [e] at h2; cases h2; rfl
    obtain ⟨u, hu, rv⟩ := r.get ha
    have hp : ps[i]? = some y := by
      rw [← S.pre, List.getElem?_take_of_lt (by omega)]; exact h1
    have ndP : ps.Nodup := by rw [← S.pre]; exact S.nd.sublist (List.take_sublist _ _)
    refine ⟨u, rv, ?_⟩
    rcases S.par y (List.mem_of_getElem? hp) with k | k
    · exact .inl ⟨k, bindL_get ndP hp hu k⟩
    · obtain ⟨c, e⟩ := cell_has (n := s.heap.objs.size + 1) k
      refine .inr ⟨.inl k, c, look_app e, ?_⟩
      have q := x.cell y c e
      rw [bindC_get ndP hp hu (by show scope.names.lookup y ≠ _; rw [k]; decide)] at q
      exact q
  · rcases look h with h | ⟨_, e⟩
    · exact ⟨_, x.cell y c h⟩
    · rw [e]
      exact ⟨cv, oc, hk _ _ hccs.1, hcv⟩
  · rcases look h with h | ⟨_, e⟩
    · exact e0.hok.fresh (Nat.le_of_lt (x.above y c (PySem.mem_of_lookup h)))
    · rw [e]; exact hccs.2
  · unfold L2.start
    show _ = N.length
    rw [List.length_append, List.length_map, List.length_replicate]
    omega
end MS

set_option Elab.async false
set_option linter.all false
set_option maxRecDepth 100000
/-! MSY: super().__init__(..), and a def that says it. -/
namespace MS
open PySem PySem.Spec PyProof.Rows L2 ClX
/-- statements of a def's own body, at its code -/
def PAts (X : Cx) (b0 : List Stmt) (st : List Stmt) (t : TS) : Prop := ∀ (pins : List (Addr × Obj)) (s : Shared) (σ : L2.St) (H : Hp) (D : Ends), Inv X pins σ H s → t D σ H → _root_.PySem.wpAt (model X.prog X.w) X.A (.func b0 X.env) (execs st X.env) (SP X pins D) X.xe s
def PAt (X : Cx) (b0 : List Stmt) (st : Stmt) (t : TS) : Prop := ∀ (pins : List (Addr × Obj)) (s : Shared) (σ : L2.St) (H : Hp) (D : Ends), Inv X pins σ H s → t D σ H → _root_.PySem.wpAt (model X.prog X.w) X.A (.func b0 X.env) (exec st X.env) (SP X pins D) X.xe s
theorem pat_of {X : Cx} {b0 : List Stmt} {st : Stmt} {t : TS} (h : PS X st t) : PAt X b0 st t := fun pins s σ H D I q => _root_.PySem.wpAt_of_wpAny (h.run pins s σ H D I q)
theorem pats_nil {X : Cx} {b0 : List Stmt} : PAts X b0 [] tNext := fun pins s σ H D I q => _root_.PySem.wpAt_of_wpAny (pss_nil.run pins s σ H D I q)
theorem pats_cons {X : Cx} {b0 : List Stmt} {st : Stmt} {rest : List Stmt} {t u : TS} (h : PAt X b0 st t) (hr : PAts X b0 rest u) : PAts X b0 (st :: rest) (tSeq t u) := by
  intro pins s σ H D I q
  refine PySem.ks_wpAt_execs_cons (PySem.ks_wpAt_mono (h pins s σ H { D with nx := u D } I q) (fun f s1 q => ?_) fun _ _ z => z)
  cases f with
  | next =>
    obtain ⟨σ1, H1, I1, q1⟩ := q
    exact hr pins s1 σ1 H1 D I1 q1
  | brk => exact q
  | cont => exact q
  | ret u => exact q
section
variable {Γ : Run} {X : Cx} {C : Cl} {I : Info} {k : Nat} {pos p apos cpos : Pos}
/-- what of the text super() asks -/
structure SupK (X : Cx) (D : Addr) (n0 : Str) : Prop where
  ex : ∃ (f cda cc : Addr) (fd : FuncData) (ar : Arg) (vs : Array Value) (file : Str) (tf : Tok) (oc ccl cl : Value) (od cdd cld : Option Addr) (osl ccs csl : Array (Option Value)) (cdD : ClassData),
    X.env.func = some f ∧ X.K.lookup f = some ⟨oc, od, .func fd, osl⟩ ∧ (fd.params.posonlyargs ++ fd.params.args).head? = some ar ∧ ar.arg = n0 ∧ X.env.code = .ref cda ∧ X.K.lookup cda = some ⟨ccl, cdd, .fields vs, ccs⟩ ∧ vs[2]? = some (.str file tf) ∧ ((X.prog.main.file : Str) == file) = true ∧
    X.env.cells.lookup ("__class__" : Str) = some cc ∧ X.K.lookup cc = some ⟨cl, cld, .cell (some (.ref D)), csl⟩ ∧ PySem.W.clsIn X.K D = some cdD
  hks : X.env.kindOf "super" = some .globalImplicit
  hkc : X.env.kindOf "__class__" = some .free
  top : (X.prog.main.scope.names.lookup ("super" : Str)).isSome = false
  mg : X.mg "super" = none
  op : PySem.W.nsIn X.K PySem.cStatics "thirdparty.any" = some none
  nm0 : X.N[0]? = some n0
  vis : Vis X.env.scope n0
/-- what the class of self must have -/
structure SupC (K : PySem.W.Frag) (A D f2 : Addr) : Prop where
  sub : PySem.W.mroIn K A (.ref D) = some true
  at_ : PySem.W.ks_superIn K A D "__init__" = some (some (.ref f2))
  ty : PySem.W.typeIn K (.ref f2) = some (.type "function")
  fn : PySem.W.fnIn K f2 = true
/-- super().__init__(e, ..), the bound method made; then the arguments -/
theorem wp_super {b0 : List Stmt} {D : Addr} {n0 : Str} {a Ca dx f2 : Addr} {ns : List (Str × V)} {e : Expr} {es : List Expr} {p0 p1 : Pos} {pins : List (Addr × Obj)} {σ : L2.St} {H : Hp} {s : Shared} {Q : Value → Shared → Prop}
    (K : SupK X D n0) (J : Inv X pins σ H s) (h0 : σ[0]? = some (some (.ref a))) (hH : H a = some (.ins Ca dx ns)) (c : SupC X.K Ca D f2) (hst : (e :: es).any stB = false) (hlen : (e :: es).length < 20) (hline : (apos.endLine == cpos.line) = true) (hcd : (n0 == ("__classdict__" : Str)) = false)
    (h : ∀ q s', Inv X ((q, PySem.W.methodObj (.ref f2) (.ref a)) :: pins) σ H s' → X.base.get? q = none → wpAny (model X.prog X.w) X.A (spliced (backTo cpos (starEach (e :: es) X.env))) (fun vs s1 => PySem.W.MethP X.K q f2 (.ref a) s1.heap ∧ wpAny (model X.prog X.w) X.A (call (.ref q) vs) Q X.xe s1) X.xe s') :
    _root_.PySem.wpAt (model X.prog X.w) X.A (.func b0 X.env) (eval (.Call (.Attribute (.Call (.Name "super" p0) [] [] p1) "__init__" apos) (e :: es) [] cpos) X.env) Q X.xe s := by
  obtain ⟨f, cda, cc, fd, ar, vs, file, tf, oc, ccl, cl, od, cdd, cld, osl, ccs, csl, cdD, e1, e2, e3, e4, e5, e6, e7, e8, e9, e10, e11⟩ := K.ex
  subst e4
  have KX := J.kIn
  have hst' := hst
  rw [List.any_cons, Bool.or_eq_false_iff] at hst'
  obtain ⟨oD, hD1, hD2⟩ : ∃ oD, s.heap.get? D = some oD ∧ oD.data = .cls cdD := by
    unfold PySem.W.clsIn at e11
    split at e11
    · rename_i c d cd' sl ho
      cases e11
      exact ⟨_, KX _ _ ho, rfl⟩
    · cases e11
  obtain ⟨mA, O, _⟩ := ins_get J.hok hH
  obtain ⟨od', JI, _⟩ := O.look
  rw [arm_eval_Call]
  refine _root_.PySem.wpAt_bind (PySem.ks_wpAt_mono (PySem.ks_wpAt_super_base (env := X.env) (Q := fun v s' => ∃ so, v = .ref so ∧ s'.heap.get? so = some { cls := .type "super", dict := none, data := .fields #[.ref D, .ref a, .ref Ca], slots := #[] } ∧ Inv X pins σ H s') K.hks K.hkc rfl e1 (KX _ _ e2) rfl e3 e5 (KX _ _ e6) rfl e7 e8 K.top ?_) (fun v s1 hv => ?_) fun _ _ z => z)
  · obtain ⟨mb, h1, h2⟩ := J.mod.blt
    refine PySem.W.ks_loadName_global J.ok.kind K.hks (Calls.loadGlobal_builtin (by rw [J.ok.glob]; exact J.mod.glob.keeps J.bk) K.mg (by rw [J.ok.blt]; exact h1.keeps J.bk) ((h2 "super" (by decide)).trans (show bootBuiltins "super" = some (.type "super") by with_unfolding_all rfl)) ⟨rfl, ?_⟩)
    refine wpAny_loadName_free J.ok.kind K.hkc e9 ⟨_, KX _ _ e10, rfl⟩ ?_
    obtain ⟨m, hn, hl⟩ := J.loc
    obtain ⟨u, r, l⟩ := hl 0 _ (.ref a) K.nm0 h0 K.vis
    cases (show u = Value.ref a from r)
    have fin : wpAny (model X.prog X.w) X.A (isType (.ref D)) (fun b s₄ => b = true ∧ wpAny (model X.prog X.w) X.A (call (.type "super") [.ref D, .ref a]) (fun v s' => ∃ so, v = .ref so ∧ s'.heap.get? so = some { cls := .type "super", dict := none, data := .fields #[.ref D, .ref a, .ref Ca], slots := #[] } ∧ Inv X pins σ H s') X.xe s₄) X.xe s := by
      refine PySem.ks_wpAny_isType_cls hD1 hD2 ⟨rfl, ?_⟩
      refine PySem.ks_wpAny_call_super hD1 hD2 JI.at_ JI.cls (fun c e => ?_) (PySem.W.looks_mroIn KX c.sub) (fun h' e k => ⟨_, rfl, e, J.kept (t' := s.toks) k⟩)
      have := JI.no
      unfold PySem.W.notCls at this
      rw [e] at this
      exact Bool.noConfusion this
    rcases l with ⟨hk, hm⟩ | ⟨hk, c, hc, hcell⟩
    · exact wpAny_loadName_local J.ok.kind hk hn hm fin
    · rcases hk with hk | hk
      · exact wpAny_loadName_cell J.ok.kind hk hc hcell fin
      · exact wpAny_loadName_free J.ok.kind hk hc hcell fin hcd
  · obtain ⟨so, rfl, hso, J1⟩ := hv
    refine _root_.PySem.wpAt_of_wpAny (wpAny_bind (wpAny_standAt ?_))
    have hform : methodCallForm ((e :: es).length + ([] : List Keyword).length) (backTo cpos (starEach (e :: es) X.env)) (backToKw cpos (keywordEach [] X.env)) = true := few_plain hst hlen
    have hpos : methodCallPos true (.Call (.Name "super" p0) [] [] p1) X.env apos cpos = pure cpos := by unfold methodCallPos; simp [hline]
    unfold methodCall
    rw [hform]
    have KX1 := J1.kIn
    obtain ⟨mA, O, _⟩ := ins_get J1.hok hH
    obtain ⟨od', JI1, _⟩ := O.look
    have hc := c.at_
    unfold PySem.W.ks_superIn at hc
    cases hcl : PySem.W.clsIn X.K Ca with
    | none => rw [hcl] at hc; cases hc
    | some cd =>
      rw [hcl] at hc
      obtain ⟨of, hof, hofc⟩ : ∃ of, s1.heap.get? f2 = some of ∧ of.cls = .type "function" := by
        have ht' : (X.K.lookup f2).map (·.cls) = some (.type "function") := c.ty
        cases z : X.K.lookup f2 with
        | none => rw [z] at ht'; cases ht'
        | some of => rw [z] at ht'; exact ⟨of, KX1 _ _ z, Option.some.inj ht'⟩
      refine wpAny_bind (wpAny_holding ?_)
      refine PySem.ks_wpAny_getMethod_super hso (PySem.W.looks_opaque KX1 K.op) (l₀ := cd.mro) (fun A Q E s k q => wpAny_bind ((PySem.W.looks_clsIn KX1 hcl) A _ E s k (wpAny_pure q))) rfl KX1 hc hof hofc (PySem.W.ks_ne KX1 JI1 hcl) rfl ?_
      refine wpAny_bind (wpAny_of_eq hpos ?_)
      have J2 := met_new (g := f2) (C := a) J1
      have hb : X.base.get? s1.heap.objs.size = none := base_none J1 (Nat.le_refl _)
      have hL : s1.heap.objs.size ≠ X.env.locals := (J2.pin (s1.heap.objs.size, PySem.W.methodObj (.ref f2) (.ref a)) (List.mem_append_right _ List.mem_cons_self)).2.2.1
      exact PySem.W.callWith_M (K := X.K) (h₀ := X.base) (first := []) J2.ok.mod.kin (news_at hL hb (pin_at J2)) List.mem_cons_self c.fn (h _ _ J2 hb) (star_cons hst'.1) (spl_plain hst'.2)
/-- the call of a bound method of a def -/
theorem Lev.runM {g : Nat → List Val → MH Val} (L : Lev Γ X I k g) (hr : Room k X.A) {W : WX} (tk : Takes X W) {f : Nat} (hp : I.pos f = true) {q a : Addr} {s : AS} {H : Hp} {vs : List Val} {us : List V} {uv : List Value} {Q : VK} {σ : L2.St} {pins : List (Addr × Obj)} {S : Shared} (J : Inv X ((q, PySem.W.methodObj (.ref (I.fA f)) (.ref a)) :: pins) σ H S) (rv : Vals (.ref a :: us) (.ref a :: uv)) (R : Rel Γ s H) (r : RVs Γ s.F s.ρ vs (.ref a :: us))
    (A : After Γ s (g f vs s.hp) (fun v s' H' => ∀ u, RV Γ s'.F s'.ρ v u → Q u H') (XW Γ W σ)) : wpAny (model X.prog X.w) X.A (call (.ref q) uv) (EP X pins σ Q) X.xe S := by
  have A' : After Γ s ((if (true = true) then g f vs else if vs.all Val.isT = true then apart (g f vs) else bad) s.hp) (fun v s' H' => ∀ u, RV Γ s'.F s'.ρ v u → Q u H') (XW Γ W σ) := A
  obtain ⟨h1, h2⟩ := L.not_bad (raw := true) A'
  obtain ⟨F, B⟩ := L.fn f h1
  have B := B hp
  have hl : (V.ref a :: us).length = (I.ps f).length := by rw [← Paired.len r]; exact h2
  have hsp := sp_of (raw := true) (E := WE W σ) hl R r A'
  have b := B S (.ref a :: uv) J.kIn (by rw [List.append_nil, ← rv.length]; exact hl)
  rw [List.append_nil] at b
  have z : wpAny (model X.prog X.w) X.A (call (.ref q) uv) (EP X ((q, PySem.W.methodObj (.ref (I.fA f)) (.ref a)) :: pins) σ Q) X.xe S := by
    refine wpAny_call (PySem.W.method_call (pin_at J) (codeAny_mono (F.run X.A X.stack S H ⟨.ref a :: uv, []⟩ (.ref a :: uv) (.ref a :: us) Q (WE W σ) hr J.env0 b rv hsp) fun r s' hq => ?_))
    cases r with
    | error e => exact passAt tk σ _ H S e s' J hq
    | ok fl =>
      cases fl with
      | ret u => exact J.after hq
      | next => exact False.elim hq
      | brk => exact False.elim hq
      | cont => exact False.elim hq
  exact thn z fun _ _ y => unpinE y
theorem Locs.at0 {s : AS} {loc : Loc} {σ : L2.St} (L : Locs Γ s loc σ) {v : Val} (h : loc[0]? = some (some v)) : ∃ u, σ[0]? = some (some u) ∧ RV Γ s.F s.ρ v u := L.at_ 0 v h
/-- super().__init__(e, ..) as a statement -/
theorem pat_sup {b0 : List Stmt} {d f : Nat} {n0 : Str} {e : Expr} {es : List Expr} {ms : List E} {p0 p1 : Pos} (T : Ctx Γ X C I k) (hp : I.pos f = true) (K : SupK X (Γ.cA d) n0) (hc : ∀ c, C.isa c d = true → SupC X.K (Γ.cA c) (Γ.cA d) (I.fA f)) (ha : SA Γ X (e :: es) (evEs C ms))
    (hst : (e :: es).any stB = false) (hlen : (e :: es).length < 20) (hline : (apos.endLine == cpos.line) = true) (hcd : (n0 == ("__classdict__" : Str)) = false) {W : WX} (tk : Takes X W) :
    PAt X b0 (.Expr (.Call (.Attribute (.Call (.Name "super" p0) [] [] p1) "__init__" apos) (e :: es) [] cpos) pos) (tS Γ (exS C (.ex (.sup d f ms))) W) := by
  intro pins S σ H D J h
  obtain ⟨loc, s, R, L, A⟩ := h
  simp only [exS] at A
  have A := A.thenE L
  simp only [evE] at A
  refine PySem.ks_wpAt_Expr_any ?_ J.quiet (swap_no rfl)
  cases h0 : loc[0]? with
  | none => rw [h0] at A; exact A.elim
  | some o =>
    cases o with
    | none => rw [h0] at A; exact A.elim
    | some v =>
      rw [h0] at A
      obtain ⟨u, hu, rv⟩ := L.at0 h0
      obtain ⟨a, c, dx, ns, fs, eu, pc, hH, hf, A⟩ := After.clsV R rv A
      subst eu
      split at A
      · rename_i hisa
        refine wp_super K J hu hH (hc c hisa) hst hlen hline hcd fun q S' J' hb => ?_
        refine thn ((ha W tk).run cpos _ S' σ H (fun us H1 => ∃ vs s1, Rel Γ s1 H1 ∧ Ext s s1 ∧ RVs Γ s1.F s1.ρ vs us ∧ After Γ s1 (C.fn f (v :: vs) s1.hp) (fun a s' H' => AfterS Γ s' (.ok (.nx loc) s'.hp) W D) (XW Γ W σ)) J'
          ⟨loc, s, R, L, A.bind.imp (fun vs s1 H1 x1 R1 A1 us rs => ⟨vs, s1, R1, x1, rs, A1⟩) (fun _ _ _ _ _ q => q)⟩) fun us' S1 ⟨us, H1, I1, r, vs, s1, R1, x1, rs, A1⟩ => ⟨⟨pin_at I1, I1.kIn⟩, ?_⟩
        refine thn (T.fn.runM (Q := fun _ H' => D.nx σ H') T.room tk hp I1 (.cons rfl r) R1 (.cons (rv.ext x1) rs) (A1.imp (fun z s2 H2 x2 R2 q u _ => q.nx R2 ((L.ext x1).ext x2)) (fun _ _ _ _ _ q => q))) fun w S2 hw => ?_
        obtain ⟨z, H2, I2, rz, q⟩ := hw
        exact ⟨σ, H2, I2, q⟩
      · exact A.elim
/-- a def's own statements -/
inductive SAts (Γ : Run) (X : Cx) (C : Cl) (b0 : List Stmt) : List Stmt → List S → Prop where
  | nil : SAts Γ X C b0 [] []
  | cons {st : Stmt} {m : S} {rest : List Stmt} {ms : List S} (h : ∀ W, Takes X W → PAt X b0 st (tS Γ (exS C m) W)) (t : SAts Γ X C b0 rest ms) : SAts Γ X C b0 (st :: rest) (m :: ms)
theorem PAts.imp {X : Cx} {b0 st : List Stmt} {t t' : TS} (h : PAts X b0 st t) (i : ∀ D σ H, t' D σ H → t D σ H) : PAts X b0 st t' := fun pins s σ H D I q => h pins s σ H D I (i D σ H q)
theorem seq_imp {m : S} {ms : List S} {W : WX} : ∀ D σ H, tS Γ (exSs C (m :: ms)) W D σ H → tSeq (tS Γ (exS C m) W) (tS Γ (exSs C ms) W) D σ H := by
  rintro D σ H ⟨loc, s, R, L, A⟩
  simp only [exSs] at A
  refine ⟨loc, s, R, L, ?_⟩
  unfold thenS at A
  cases e : exS C m loc s.hp with
  | bad => rw [e] at A; exact A
  | exc x l hp => rw [e] at A; exact A
  | ok f hp =>
    rw [e] at A
    cases f with
    | nx l =>
      intro s' H' e1 e2 R' σ' L'
      refine ⟨l, s', R', L', ?_⟩
      rw [e1]
      exact AfterS.from e2 A
    | ret v => exact A
    | bk l => exact A
    | ct l => exact A
theorem SAts.pats {b0 st : List Stmt} {ms : List S} (h : SAts Γ X C b0 st ms) {W : WX} (tk : Takes X W) : PAts X b0 st (tS Γ (exSs C ms) W) := by
  induction h with
  | nil =>
    refine PAts.imp pats_nil ?_
    rintro D σ H ⟨loc, s, R, L, A⟩
    simp only [exSs] at A
    exact A.nx R L
  | cons h t ih => exact PAts.imp (pats_cons (h W tk) ih) seq_imp
end
end MS

set_option Elab.async false
set_option linter.all false
set_option maxRecDepth 100000
/-! MSZ: defs by level. -/
namespace MS
open PySem PySem.Spec PyProof.Rows L2
section
variable {Γ : Run} {C : Cl} {I : Info} {k : Nat}
/-! ### the heap's end cut off -/
def AS.tr (s : AS) (n : Nat) : AS := ⟨s.hp.take n, s.F, s.Fr, s.ρ.take n⟩
theorem rv_below {F : Hp} {ρ : List Addr} {n : Nat} {v : Val} {u : V} (h : v.below n = true) (r : RV Γ F ρ v u) : RV Γ F (ρ.take n) v u := by
  cases v with
  | t x => exact r
  | ref m =>
    obtain ⟨a, e, q⟩ := r
    have hm : m < n := of_decide_eq_true h
    exact ⟨a, by rw [List.getElem?_take_of_lt hm]; exact e, q⟩
theorem rvs_below {F : Hp} {ρ : List Addr} {n : Nat} : ∀ {vs : List Val} {us : List V}, vs.all (Val.below n) = true → RVs Γ F ρ vs us → RVs Γ F (ρ.take n) vs us
  | _, _, _, .nil => .nil
  | _, _, h, .cons r t => by
    rw [List.all_cons, Bool.and_eq_true] at h
    exact .cons (rv_below h.1 r) (rvs_below h.2 t)
theorem rvd_below {F : Hp} {ρ : List Addr} {n : Nat} : ∀ {vs : List (T × Val)} {us : List (Key × V)}, (vs.all fun p => p.2.below n) = true → RVd Γ F ρ vs us → RVd Γ F (ρ.take n) vs us
  | _, _, _, .nil => .nil
  | _, _, h, .cons r t => by
    rw [List.all_cons, Bool.and_eq_true] at h
    exact .cons ⟨r.1, rv_below h.1 r.2⟩ (rvd_below h.2 t)
theorem rvf_below {F : Hp} {ρ : List Addr} {n : Nat} : ∀ {vs : List (Nat × Val)} {us : List (Str × V)}, (vs.all fun p => p.2.below n) = true → RVf Γ F ρ vs us → RVf Γ F (ρ.take n) vs us
  | _, _, _, .nil => .nil
  | _, _, h, .cons r t => by
    rw [List.all_cons, Bool.and_eq_true] at h
    exact .cons ⟨r.1, rv_below h.1 r.2⟩ (rvf_below h.2 t)
theorem tr_rel {s : AS} {H : Hp} {n : Nat} (R : Rel Γ s H) (h : (s.hp.take n).all (Ob.below n) = true) : Rel Γ (s.tr n) H := by
  have ix : ∀ {m : Nat} {a : Addr}, (s.ρ.take n)[m]? = some a → m < n ∧ s.ρ[m]? = some a := fun {m a} e => by
    by_cases hm : m < n
    · rw [List.getElem?_take_of_lt hm] at e; exact ⟨hm, e⟩
    · rw [List.getElem?_eq_none (by simp; omega)] at e; cases e
  refine ⟨R.fz, R.fr, R.dj, by simp [AS.tr, R.len], fun m m' a e1 e2 => R.inj m m' a (ix e1).2 (ix e2).2, fun m a e => R.th m a (ix e).2, fun m a e => R.nf m a (ix e).2, fun m ob e => ?_⟩
  have e : (s.hp.take n)[m]? = some ob := e
  have hb : ob.below n = true := List.all_eq_true.mp h ob (List.mem_of_getElem? e)
  have hm : m < n := by
    by_cases hm : m < n
    · exact hm
    · rw [List.getElem?_eq_none (by simp; omega)] at e; cases e
  rw [List.getElem?_take_of_lt hm] at e
  obtain ⟨a, ea, c⟩ := R.cell m ob e
  refine ⟨a, by show (s.ρ.take n)[m]? = some a; rw [List.getElem?_take_of_lt hm]; exact ea, ?_⟩
  cases ob with
  | frz x => exact c
  | lst vs => obtain ⟨c1, c2, us, c3, c4⟩ := c; exact ⟨c1, c2, us, c3, rvs_below hb c4⟩
  | dct vs => obtain ⟨c1, c2, us, c3, c4⟩ := c; exact ⟨c1, c2, us, c3, rvd_below hb c4⟩
  | ins j vs => obtain ⟨c1, c2, dx, us, c3, pc, c4⟩ := c; exact ⟨c1, c2, dx, us, c3, pc, rvf_below hb c4⟩
/-- what stands of the heap at a def's end -/
theorem trunc_ok {s s' : AS} {H' : Hp} {h' : List Ob} (R : Rel Γ s (fun _ => none) ∨ s.ρ.length = s.hp.length) (e : s'.hp = h') (x : Ext s s') (R' : Rel Γ s' H') : ∃ s2, s2.hp = trunc s.hp.length h' ∧ Ext s s2 ∧ Rel Γ s2 H' ∧ s2.F = s'.F := by
  have hl : s.ρ.length = s.hp.length := R.elim (fun R => R.len) id
  subst e
  unfold trunc
  split
  · rename_i hb
    refine ⟨s'.tr s.hp.length, rfl, ⟨x.F, x.Fr, ?_⟩, tr_rel R' hb, rfl⟩
    obtain ⟨t, et⟩ := x.ρ
    show s.ρ <+: s'.ρ.take s.hp.length
    rw [← et, ← hl, List.take_left]
    exact List.prefix_refl _
  · exact ⟨s', rfl, x, R', rfl⟩
theorem locs_start {s : AS} {d : FnD} {N : List Str} {vs : List Val} {us : List V} (hN : N.length = d.ns) (r : RVs Γ s.F s.ρ vs us) : Locs Γ s (startL d vs) (L2.start N us) := by
  have hl := Paired.len r
  refine ⟨by unfold startL L2.start; simp [hl, hN], fun i v h => ?_⟩
  unfold startL at h
  unfold L2.start
  by_cases hi : i < vs.length
  · rw [List.getElem?_append_left (by simpa using hi), List.getElem?_map] at h
    cases e : vs[i]? with
    | none => rw [e] at h; cases h
    | some w =>
      rw [e] at h; cases h
      obtain ⟨u, hu, ru⟩ := Paired.get1 r e
      refine ⟨u, ?_, ru⟩
      rw [List.getElem?_append_left (by rw [List.length_map, ← hl]; exact hi), List.getElem?_map, hu]
      rfl
  · rw [List.getElem?_append_right (by simpa using hi), List.getElem?_replicate] at h
    split at h <;> cases h
/-- a def's promise, by its body's statements -/
theorem run_body {d : FnD} {N : List Str} {n : Nat} {us : List V} {H : Hp} {Q : VK} {E : XK} (hN : N.length = d.ns) (h : spM Γ n (run C d) us H Q E) :
    tS Γ (exSs C d.body) (fun cls dd _ H' => E cls dd H') { nx := fun _ H' => Q .non H', rt := Q } (L2.start N us) H := by
  obtain ⟨_, vs, s, R, r, A⟩ := h
  refine ⟨startL d vs, s, R, locs_start hN r, ?_⟩
  unfold run at A
  split at A
  · cases e : exSs C d.body (startL d vs) s.hp with
    | bad => rw [e] at A; exact A.elim
    | exc x l h' =>
      rw [e] at A
      intro s' H' e1 x1 R' σ L' cls dd hx
      obtain ⟨s2, e2, x2, R2, _⟩ := trunc_ok (.inr R.len) e1 x1 R'
      exact A s2 H' e2 x2 R2 cls dd hx
    | ok f h' =>
      rw [e] at A
      cases f with
      | nx l =>
        intro s' H' e1 x1 R' σ L'
        obtain ⟨s2, e2, x2, R2, _⟩ := trunc_ok (.inr R.len) e1 x1 R'
        exact A s2 H' e2 x2 R2 _ (rv_non.mpr rfl)
      | bk l => exact A.elim
      | ct l => exact A.elim
      | ret v =>
        cases v with
        | t x =>
          intro s' H' e1 x1 R' u ru
          obtain ⟨s2, e2, x2, R2, hF⟩ := trunc_ok (.inr R.len) e1 x1 R'
          refine A s2 H' e2 x2 R2 u ?_
          show RT Γ s2.F x u
          rw [hF]
          exact ru
        | ref m => exact fun s' H' e1 x1 R' u ru => A s' H' e1 x1 R' u ru
  · exact A.elim
end
end MS

set_option Elab.async false
set_option linter.all false
set_option maxRecDepth 100000
/-! MTA: all defs, level by level. -/
namespace MS
open PySem PySem.Spec PyProof.Rows L2
/-- what stands of the classes and methods -/
structure Stat (Γ : Run) (I : Info) (G : Tab) : Prop where
  mth : ∀ c m f, G.mth c m = some f → Meth Γ.K (Γ.cA c) (I.mN m) (I.fA f)
  mfl : ∀ c m f, G.mth c m = some f → ∀ g, fldN g ≠ I.mN m
  mps : ∀ c m f, G.mth c m = some f → I.pos f = true
  ini : ∀ c f, G.ini c = some f → Mk Γ.K (Γ.cA c) (I.fA f)
  cls : ∀ c, Γ.pl c = true → Cls Γ.K (Γ.cA c)
  nf : ∀ c d, Γ.pl c = true → Γ.pl d = true → (d == c || !G.isa d c) = true → PySem.W.notFirst Γ.K (Γ.cA c) (.ref (Γ.cA d)) = true
  mN0 : I.mN mEq = "__eq__"
  mN1 : I.mN mIn = "__contains__"
  ne : ∀ c, Γ.pl c = true → PySem.W.findIn Γ.K (.ref (Γ.cA c)) "__ne__" = some (some (.builtin "object.__ne__"))
  kit : ∀ t s, I.sps s = true → plT Γ t = true → PySem.W.kitOne Γ.K (tyVal Γ.cA Γ.xA t) (spVal Γ.cA Γ.xA s) = some (tyIs G.isa t s)
  ca : ∀ c, Γ.pl c = true → PySem.W.findIn Γ.K (.ref (Γ.cA c)) "__class__" = some (some (.builtin "object.__class__"))
  cg : PySem.W.specialIn Γ.K (.builtin "object.__class__") "__get__" = some (some (.builtin "getset_descriptor.__get__"))
  ct : PySem.W.takesIn Γ.K (.builtin "object.__class__") = some true
  ob : ∀ c, Γ.pl c = true → PySem.W.mroIn Γ.K (Γ.cA c) (.type "object") = some true
  inp : ∀ c f, G.ini c = some f → Γ.pl c = true
  xk : Γ.xv = true → ∀ c, XisC Γ.K (Γ.xA c)
/-- a level, without a context -/
structure LevG (Γ : Run) (I : Info) (k : Nat) (g : Nat → List Val → MH Val) : Prop where
  fn : ∀ f, I.ok f = true → FnOk Γ.P Γ.w Γ.K Γ.mg Γ.base (L2.CX Γ.P Γ.w) k (I.fA f) (I.fd f) (I.ps f) (spM Γ (I.ps f).length (g f)) ∧ (I.pos f = true → Binds Γ.K (I.fd f) (I.ps f) [])
  no : ∀ f, I.ok f = false → ∀ vs h, g f vs h = .bad
  len : ∀ f vs h, g f vs h ≠ .bad → vs.length = (I.ps f).length
/-- the program's names at X are the run's -/
structure Same (Γ : Run) (X : Cx) : Prop where
  P : X.prog = Γ.P
  w : X.w = Γ.w
  K : X.K = Γ.K
  mg : X.mg = Γ.mg
  base : X.base = Γ.base
theorem LevG.at {Γ : Run} {X : Cx} {I : Info} {k : Nat} {g : Nat → List Val → MH Val} (L : LevG Γ I k g) (S : Same Γ X) : Lev Γ X I k g := by
  refine ⟨fun f hf => ?_, L.no, L.len⟩
  rw [S.P, S.w, S.K, S.mg, S.base]
  exact L.fn f hf
theorem ctx_of {Γ : Run} {X : Cx} {I : Info} {G : Tab} {k : Nat} {a b : Nat → List Val → MH Val} (St : Stat Γ I G) (S : Same Γ X) (hr : Room (k + 1) X.A) (hc : X.calm = true) (la : LevG Γ I (k + 1) a) (lb : LevG Γ I k b) (h1 : 1 ≤ k) : Ctx Γ X (G.cl a b) I k := by
  have e := S.K
  refine ⟨S.K, hr, hc, la.at S, lb.at S, ?_, St.mfl, St.mps, ?_, ?_, ?_, St.mN0, St.mN1, ?_, ?_, ?_, ?_, ?_, ?_, h1, St.inp, ?_⟩ <;> rw [e]
  · exact St.mth
  · exact St.ini
  · exact St.cls
  · exact St.nf
  · exact St.ne
  · exact St.kit
  · exact St.ca
  · exact St.cg
  · exact St.ct
  · exact St.ob
  · exact St.xk
theorem Ctx.blk {Γ : Run} {X : Cx} {C : Cl} {I : Info} {k : Nat} (T : Ctx Γ X C I k) (s : Shared) (H : Hp) (scope : Scope) (env : Env) (fp : List Addr) : Ctx Γ (X.blk s H scope env fp) C I k :=
  ⟨T.hK, T.room, T.calm, ⟨T.fn.fn, T.fn.no, T.fn.len⟩, ⟨T.nw.fn, T.nw.no, T.nw.len⟩, T.mth, T.mfl, T.mps, T.ini, T.cls, T.nf, T.mN0, T.mN1, T.ne, T.kit, T.ca, T.cg, T.ct, T.ob, T.lv, T.inp, T.xk⟩
theorem Ctx.tr {Γ : Run} {X : Cx} {C : Cl} {I : Info} {k : Nat} (T : Ctx Γ X C I k) (pn : List (Addr × Obj)) (xe : Value → Shared → Prop) : Ctx Γ (X.tr pn xe) C I k :=
  ⟨T.hK, T.room, T.calm, ⟨T.fn.fn, T.fn.no, T.fn.len⟩, ⟨T.nw.fn, T.nw.no, T.nw.len⟩, T.mth, T.mfl, T.mps, T.ini, T.cls, T.nf, T.mN0, T.mN1, T.ne, T.kit, T.ca, T.cg, T.ct, T.ob, T.lv, T.inp, T.xk⟩
/-- a def of the text -/
structure FnFact (Γ : Run) (I : Info) (f : Nat) (N : List Str) (body : List Stmt) (scope : Scope) : Prop where
  ex : ∃ (name qual : Str) (params : Arguments) (dV kV doc pm cdv ct oc : Value) (an od : Option Addr) (osl : Array (Option Value)), I.fd f = PySem.W.fnOf name qual params body scope dV kV doc pm an cdv ct ∧
    Γ.K.lookup (I.fA f) = some ⟨oc, od, .func (I.fd f), osl⟩ ∧ PySem.W.codeIn Γ.K cdv qual = true
  sc : FnScope N (I.ps f) scope
  bd : I.pos f = true → Binds Γ.K (I.fd f) (I.ps f) []
/-- what the rules for a def's statements are told of its context -/
structure TopK (X : Cx) (N : List Str) (sc : Scope) : Prop where
  hN : X.N = N
  nd : N.Nodup
  hsc : X.env.scope = sc
  kind : sc.kind = .function
  fn : ∀ x, (x == ("__class__" : Str)) = false → X.fn x = true
  po : PassesOwn (model X.prog X.w) X.A X.env X.xe
  stk : X.stack = X.env :: X.outer
  frm : X.env.frame = some X.env.locals
section
variable {Γ : Run} {I : Info} {G : Tab} {k : Nat}
theorem fn_lev {f : Nat} {N : List Str} {body : List Stmt} {scope : Scope} {d : FnD} {a b : Nat → List Val → MH Val} (F : FnFact Γ I f N body scope) (St : Stat Γ I G) (hN : N.length = d.ns) (la : LevG Γ I (k + 1) a) (lb : LevG Γ I k b) (h1 : 1 ≤ k)
    (hbody : ∀ X : Cx, Same Γ X → Ctx Γ X (G.cl a b) I k → TopK X N scope → SSs Γ X body (exSs (G.cl a b) d.body)) : FnOk Γ.P Γ.w Γ.K Γ.mg Γ.base (L2.CX Γ.P Γ.w) (k + 2) (I.fA f) (I.fd f) (I.ps f) (spM Γ (I.ps f).length (run (G.cl a b) d)) := by
  obtain ⟨name, qual, params, dV, kV, doc, pm, cdv, ct, oc, an, od, osl, e, lk, hcd⟩ := F.ex
  rw [e] at lk ⊢
  refine fn_of lk hcd F.sc (fun vs H Q E h => h.1) fun A outer s H vs Q E hr h => ?_
  have S : Same Γ (cxOf (L2.CX Γ.P Γ.w) Γ.P Γ.w Γ.K Γ.mg Γ.base N qual scope (I.fA f) cdv A outer s H E) := ⟨rfl, rfl, rfl, rfl, rfl⟩
  have T : Ctx Γ (cxOf (L2.CX Γ.P Γ.w) Γ.P Γ.w Γ.K Γ.mg Γ.base N qual scope (I.fA f) cdv A outer s H E) (G.cl a b) I k := ctx_of St S hr rfl la lb h1
  have U : TopK (cxOf (L2.CX Γ.P Γ.w) Γ.P Γ.w Γ.K Γ.mg Γ.base N qual scope (I.fA f) cdv A outer s H E) N scope := ⟨rfl, F.sc.nd, rfl, F.sc.kind, fun _ _ => rfl, passes_of rfl, rfl, rfl⟩
  exact ⟨_, hbody _ S T U (fun cls dd _ H' => E cls dd H') (takes_of rfl rfl rfl rfl), run_body hN h⟩
/-- .. that captured __class__ -/
structure FnFactK (Γ : Run) (I : Info) (f : Nat) (N : List Str) (body : List Stmt) (scope : Scope) (D : Addr) (n0 : Str) : Prop where
  ex : ∃ (name qual : Str) (params : Arguments) (dV kV doc pm ct oc : Value) (an od : Option Addr) (osl : Array (Option Value)) (cc cda : Addr) (ar : Arg) (vs : Array Value) (file : Str) (tf : Tok) (ccl cl : Value) (cdd cld : Option Addr) (ccs csl : Array (Option Value)) (cdD : ClassData),
    I.fd f = PySem.W.fnX name qual params body scope (kcl cc) dV kV doc pm an (.ref cda) ct ∧ Γ.K.lookup (I.fA f) = some ⟨oc, od, .func (I.fd f), osl⟩ ∧ PySem.W.codeIn Γ.K (.ref cda) qual = true ∧
    (params.posonlyargs ++ params.args).head? = some ar ∧ ar.arg = n0 ∧ Γ.K.lookup cda = some ⟨ccl, cdd, .fields vs, ccs⟩ ∧ vs[2]? = some (.str file tf) ∧ ((Γ.P.main.file : Str) == file) = true ∧
    Γ.K.lookup cc = some ⟨cl, cld, .cell (some (.ref D)), csl⟩ ∧ PySem.W.clsIn Γ.K D = some cdD
  sc : KScope N (I.ps f) scope
  bd : I.pos f = true → Binds Γ.K (I.fd f) (I.ps f) []
  hks : scope.names.lookup ("super" : Str) = some .globalImplicit
  hkc : scope.names.lookup ("__class__" : Str) = some .free
  top : (Γ.P.main.scope.names.lookup ("super" : Str)).isSome = false
  mg : Γ.mg "super" = none
  op : PySem.W.nsIn Γ.K PySem.cStatics "thirdparty.any" = some none
  nm0 : N[0]? = some n0
  vis : Vis scope n0
theorem no_class_cell {names : List (Str × NameKind)} (h : ∀ y ∈ names, y.1 = "__class__" → y.2 = .free) {n : Nat} : (cellsFrom n names []).lookup ("__class__" : Str) = none := by
  cases e : (cellsFrom n names []).lookup ("__class__" : Str) with
  | none => rfl
  | some c =>
    have := h _ (cellsFrom_names names n _ c e) rfl
    cases this
theorem fn_levK {f : Nat} {N : List Str} {body : List Stmt} {scope : Scope} {D : Addr} {n0 : Str} {d : FnD} {a b : Nat → List Val → MH Val} (F : FnFactK Γ I f N body scope D n0) (St : Stat Γ I G) (hN : N.length = d.ns) (la : LevG Γ I (k + 1) a) (lb : LevG Γ I k b) (h1 : 1 ≤ k)
    (hbody : ∀ X : Cx, Same Γ X → Ctx Γ X (G.cl a b) I k → TopK X N scope → SupK X D n0 → SAts Γ X (G.cl a b) body body d.body) : FnOk Γ.P Γ.w Γ.K Γ.mg Γ.base (L2.CX Γ.P Γ.w) (k + 2) (I.fA f) (I.fd f) (I.ps f) (spM Γ (I.ps f).length (run (G.cl a b) d)) := by
  obtain ⟨name, qual, params, dV, kV, doc, pm, ct, oc, an, od, osl, cc, cda, ar, vs0, file, tf, ccl, cl, cdd, cld, ccs, csl, cdD, e, lk, hcd, q1, q2, q3, q4, q5, q6, q7⟩ := F.ex
  rw [e] at lk ⊢
  refine ⟨fun vs H Q E h => h.1, fun A outer s H args us vs Q E hr e0 hb r h => ?_⟩
  have hl : vs.length = (I.ps f).length := h.1
  have KX : Γ.K.In s.heap := e0.mod.kin.keeps fun b o e => (e0.bs b o e).1
  have lim : s.heap.NoLimit := e0.mod.nolimit.keeps fun b o e => (e0.bs b o e).1
  have hkind : ∀ y ∈ (I.ps f).zip us, scope.names.lookup y.1 = some .local ∨ (scope.names.lookup y.1 = some .cell ∧ ((cellsFrom (s.heap.objs.size + 1) scope.names []).lookup y.1).isSome = true) := fun ⟨n, v⟩ hy => by
    rcases F.sc.par n (List.of_mem_zip hy).1 with q | q
    · exact .inl q
    · exact .inr ⟨q, PySem.W.cellsFrom_some _ _ _ (.inl q)⟩
  refine codeAny_call_function hr.depth (KX _ _ lk) rfl F.sc.co F.sc.gen rfl (PySem.W.codeRec_of KX hcd) (hb _ _ _ _ ?_)
  refine newEnvD F.sc.kind hkind fun env he s1 x => ?_
  subst he
  refine ⟨lim.keeps x.toInCall.keep, PySem.ks_codeAny_funcAt ?_⟩
  have hcc : Γ.base.get? cc = some ⟨cl, cld, .cell (some (.ref D)), csl⟩ := e0.mod.kin _ _ q6
  have J : Inv (cxK (L2.CX Γ.P Γ.w) Γ.P Γ.w Γ.K Γ.mg Γ.base N qual scope (I.fA f) (.ref cda) cc A outer s H E) [] (L2.start N vs) H s1 := inv_startK F.sc hr.hd e0 hl r hcc rfl x
  have S : Same Γ (cxK (L2.CX Γ.P Γ.w) Γ.P Γ.w Γ.K Γ.mg Γ.base N qual scope (I.fA f) (.ref cda) cc A outer s H E) := ⟨rfl, rfl, rfl, rfl, rfl⟩
  have T : Ctx Γ (cxK (L2.CX Γ.P Γ.w) Γ.P Γ.w Γ.K Γ.mg Γ.base N qual scope (I.fA f) (.ref cda) cc A outer s H E) (G.cl a b) I k := ctx_of St S (hr.deeper _) rfl la lb h1
  have U : TopK (cxK (L2.CX Γ.P Γ.w) Γ.P Γ.w Γ.K Γ.mg Γ.base N qual scope (I.fA f) (.ref cda) cc A outer s H E) N scope := ⟨rfl, F.sc.nd, rfl, F.sc.kind, fun x hx => by show (!(x == ("__class__" : Str))) = true; rw [hx]; rfl, passes_of rfl, rfl, rfl⟩
  have SV : SupK (cxK (L2.CX Γ.P Γ.w) Γ.P Γ.w Γ.K Γ.mg Γ.base N qual scope (I.fA f) (.ref cda) cc A outer s H E) D n0 :=
    ⟨⟨I.fA f, cda, cc, _, ar, vs0, file, tf, oc, ccl, cl, od, cdd, cld, osl, ccs, csl, cdD, rfl, lk, q1, q2, rfl, q3, q4, q5, by show (cellsFrom (s.heap.objs.size + 1) scope.names [] ++ kcl cc).lookup _ = _; rw [List.lookup_append, no_class_cell F.sc.nocl]; rfl, q6, q7⟩, F.hks, F.hkc, F.top, F.mg, F.op, F.nm0, F.vis⟩
  have tk : Takes (cxK (L2.CX Γ.P Γ.w) Γ.P Γ.w Γ.K Γ.mg Γ.base N qual scope (I.fA f) (.ref cda) cc A outer s H E) (fun cls dd _ H' => E cls dd H') := takes_of rfl rfl rfl rfl
  refine PySem.ks_wpAt_mono ((hbody _ S T U SV).pats tk [] s1 (L2.start N vs) H _ J (run_body hN h)) (fun fl s' hs => ?_) fun e s' hs => hs
  have fin : ∀ {σ' : L2.St} {H' : Hp} {v : V} {u : Value}, Inv (cxK (L2.CX Γ.P Γ.w) Γ.P Γ.w Γ.K Γ.mg Γ.base N qual scope (I.fA f) (.ref cda) cc A outer s H E) [] σ' H' s' → RelV v u → Q v H' → CE outer Γ.P Γ.w H s Q u s' :=
    fun {σ' H' v u} J rv q => ⟨v, H', J.os, J.bare, J.base, J.hok, rv, q⟩
  cases fl with
  | ret u =>
    obtain ⟨v, σ', H', J, rv, q⟩ := hs
    exact fin J rv q
  | next =>
    obtain ⟨σ', H', J, q⟩ := hs
    exact fin (v := V.non) (u := Value.none) J rfl q
  | brk =>
    obtain ⟨_, _, _, q⟩ := hs
    exact False.elim q
  | cont =>
    obtain ⟨_, _, _, q⟩ := hs
    exact False.elim q
/-- what is known of a def: its body is what the table says, in every context of its kind -/
def FnSound (Γ : Run) (I : Info) (G : Tab) (f : Nat) (d : FnD) : Prop := ∀ (k : Nat) (a b : Nat → List Val → MH Val), 1 ≤ k → LevG Γ I (k + 1) a → LevG Γ I k b →
  FnOk Γ.P Γ.w Γ.K Γ.mg Γ.base (L2.CX Γ.P Γ.w) (k + 2) (I.fA f) (I.fd f) (I.ps f) (spM Γ (I.ps f).length (run (G.cl a b) d)) ∧ (I.pos f = true → Binds Γ.K (I.fd f) (I.ps f) []) ∧ d.np = (I.ps f).length
theorem lev_bad (hnb : ∀ f, I.ok f = true → I.pos f = true → Binds Γ.K (I.fd f) (I.ps f) []) {k : Nat} : LevG Γ I k (fun _ _ => bad) := by
  refine ⟨fun f hf => ⟨⟨fun vs H Q E h => h.1, fun A outer s H args us vs Q E hr e0 hb r h => ?_⟩, hnb f hf⟩, fun _ _ _ _ => rfl, fun f vs h hb => absurd rfl hb⟩
  obtain ⟨_, ws, t, R, rr, A⟩ := h
  exact A.elim
theorem levels (hok : ∀ f, I.ok f = (G.fn f).isSome) (hs : ∀ f d, G.fn f = some d → FnSound Γ I G f d) (hb : ∀ f, I.ok f = true → I.pos f = true → Binds Γ.K (I.fd f) (I.ps f) []) : ∀ n, LevG Γ I (n + 2) (G.ff n).1 ∧ LevG Γ I (n + 1) (G.ff n).2
  | 0 => ⟨lev_bad hb, lev_bad hb⟩
  | n + 1 => by
    obtain ⟨la, lb⟩ := levels hok hs hb n
    refine ⟨⟨fun f hf => ?_, fun f hf vs h => ?_, fun f vs h hne => ?_⟩, la⟩
    · rw [hok f] at hf
      obtain ⟨d, hd⟩ := Option.isSome_iff_exists.mp hf
      obtain ⟨q1, q2, _⟩ := hs f d hd (n + 1) _ _ (by omega) la lb
      refine ⟨?_, q2⟩
      have e : (G.ff (n + 1)).1 f = run (G.cl (G.ff n).1 (G.ff n).2) d := by
        funext vs
        show (match G.fn f with | some d => run (G.cl (G.ff n).1 (G.ff n).2) d vs | none => bad) = _
        rw [hd]
      rw [e]
      exact q1
    · rw [hok f] at hf
      show (match G.fn f with | some d => run (G.cl (G.ff n).1 (G.ff n).2) d vs | none => bad) h = _
      cases e : G.fn f with
      | none => rfl
      | some d => rw [e] at hf; cases hf
    · have hne : (match G.fn f with | some d => run (G.cl (G.ff n).1 (G.ff n).2) d vs | none => bad) h ≠ .bad := hne
      cases e : G.fn f with
      | none => rw [e] at hne; exact absurd rfl hne
      | some d =>
        rw [e] at hne
        obtain ⟨_, _, q⟩ := hs f d e (n + 1) _ _ (by omega) la lb
        rw [← q]
        dsimp only at hne
        unfold run at hne
        split at hne
        · assumption
        · exact absurd rfl hne
end
end MS

set_option Elab.async false
set_option linter.all false
set_option maxRecDepth 100000
set_option maxHeartbeats 2000000
/-! MUA: own exceptions over any base: what the machine does. -/
namespace MS
open PySem PySem.Spec PyProof.Rows L2
/-- a base that is built in -/
structure EBase where
  B : String
  nw : String
  ini : String
  tl : List Value
structure EBok (b : EBase) : Prop where
  ex : PySem.ExcBaseFacts b.B b.nw b.ini b.tl
  sup : PySem.W.KxsFacts b.B b.ini
  pass : ∀ self : Value, PySem.refuseLoop self "__setattr__" b.tl = pure ()
  obj : b.tl.contains (.type "object") = true
  ne : b.tl.isEmpty = false
  nr : ∀ c r, b.tl ≠ .ref c :: r
abbrev veB : EBase := ⟨"ValueError", "ValueError.__new__", "ValueError.__init__", [.type "ValueError", .type "Exception", .type "BaseException", .type "object"]⟩
abbrev luB : EBase := ⟨"LookupError", "LookupError.__new__", "LookupError.__init__", [.type "LookupError", .type "Exception", .type "BaseException", .type "object"]⟩
theorem veB_ok : EBok veB := ⟨PySem.F.excBase_ValueError, PySem.W.kxs_ValueError, PySem.F.store_ValueError.passes, by decide +kernel, rfl, fun c r e => by cases e⟩
theorem luB_ok : EBok luB := ⟨PySem.F.excBase_LookupError, PySem.W.kxs_LookupError, PySem.F.store_LookupError.passes, by decide +kernel, rfl, fun c r e => by cases e⟩
/-- the program's classes, then the base's own row -/
def tailB (tl : List Value) : List Value → Bool
  | .ref _ :: r => tailB tl r
  | l => l == tl
theorem tailB_of {tl : List Value} : ∀ l : List Value, tailB tl l = true → (∃ c r, l = .ref c :: r ∧ tailB tl r = true) ∨ l = tl := fun l e => by
  unfold tailB at e
  split at e
  · exact .inl ⟨_, _, rfl, e⟩
  · exact .inr (beq_iff_eq.mp e)
theorem tailB_has {tl : List Value} (x : String) : ∀ l : List Value, tailB tl l = true → l.contains (.type x) = tl.contains (.type x)
  | [], e => by
    rcases tailB_of [] e with ⟨c, r, q, _⟩ | q
    · cases q
    · rw [q]
  | a :: l, e => by
    rcases tailB_of (a :: l) e with ⟨c, r, q, h⟩ | q
    · cases q
      rw [List.contains_cons, tailB_has x l h]
      rfl
    · rw [q]
theorem tailB_pass {b : EBase} (ok : EBok b) (self : Value) : ∀ l : List Value, tailB b.tl l = true → PySem.refuseLoop self "__setattr__" l = pure ()
  | [], e => by
    rcases tailB_of [] e with ⟨c, r, q, _⟩ | q
    · cases q
    · rw [q]; exact ok.pass self
  | a :: l, e => by
    rcases tailB_of (a :: l) e with ⟨c, r, q, h⟩ | q
    · cases q
      rw [PySem.refuseLoop_ref]
      exact tailB_pass ok self l h
    · rw [q]; exact ok.pass self
theorem tailB_ne {b : EBase} (ok : EBok b) {l : List Value} (e : tailB b.tl l = true) : l.isEmpty = false := by
  rcases tailB_of l e with ⟨c, r, q, _⟩ | q
  · rw [q]; rfl
  · rw [q]; exact ok.ne
/-- what the written part says of such a class -/
structure ExC (K : PySem.W.Frag) (b : EBase) (C : Addr) : Prop where
  ok : EBok b
  cls : ∃ nm q N bs bm sn sub ab col dd k0 k1 k2 k3 k5, K.lookup C = some (excClassObj nm q C N bs bm true sn sub ab col dd k0 k1 k2 k3 k5 b.nw) ∧ tailB b.tl bm = true
  sa : PySem.W.findIn K (.ref C) "__setattr__" = some (some (.builtin "object.__setattr__"))
  exC : PySem.W.subIn K (.ref C) (.type "BaseException") = some true
  tyC : PySem.W.typeIn K (.ref C) = some (.type "type")
  kC : PySem.W.keepIn K (.ref C) = true
section
open Builtin Builtin.ObjectAttr PySem.W
variable {prog : Program} {w : World} {A : Around} {R : Result → Shared → Prop} {hp : Heap} {g : Array GenState} {d : Drawn} {t : Nat} {os : OsState}
/-- the first field of one that has no dict yet -/
theorem ex_store {b : EBase} {K : PySem.W.Frag} {f : Str} {tk : Tok} {v : Value} {a C : Addr} {fv : Array Value} {cd : ClassData} (ok : EBok b) (X : K.In hp) (ha : hp.get? a = some { cls := .ref C, data := .fields fv }) (hc : PySem.W.clsIn K C = some cd)
    (hm : tailB b.tl cd.mro = true) (hd : cd.hasDict = true) (hf : PySem.W.findIn K (.ref C) f = some none)
    (hq : ∀ h' tk' dx, (∀ c o, c ≠ a → hp.get? c = some o → h'.get? c = some o) → hp.objs.size ≤ dx → dx ≠ a → h'.get? a = some { cls := .ref C, dict := some dx, data := .fields fv } → h'.Ns1 dx (fun y => if y = f then some v else none) → R (.ok (.ret .none)) ⟨h', g, d, tk', os⟩) :
    codeAny (model prog w) A (.call (.builtin "object.__setattr__") ⟨[.ref a, .str f tk, v], []⟩) R ⟨hp, g, d, t, os⟩ := by
  have J : PySem.W.InstAt hp a { cls := .ref C, data := .fields fv } C none := ⟨ha, rfl, rfl, trivial⟩
  have st := F.store_object
  have has : cd.mro.contains (.type "object") = true := (tailB_has "object" _ hm).trans ok.obj
  have far : a ≠ hp.objs.size := Nat.ne_of_lt (Heap.lt_size ha)
  have isO : PySem.W.Looks (model prog w) hp (isInstance (.ref a) (.type "object")) true := J.type.andThen (PySem.W.looks_mroIn X (by
    unfold PySem.W.mroIn
    rw [hc, Option.bind_some, if_neg (by rw [tailB_ne ok hm]; exact Bool.false_ne_true), has]))
  refine codeAny_call_builtin st.slot.plain st.entry (@PySem.W.check_slot (model prog w) _ _ ⟨hp, g, d, t, os⟩ "object.__setattr__" "object" "__setattr__" (.ref a) [.str f tk, v] [] _ st.kind st.split isO (st.args (.ref a) (.str f tk) v) ?_)
  have lm : PySem.W.Looks (model prog w) hp (mroOf (.ref C)) cd.mro := (PySem.W.looks_clsIn X hc).andThen .now
  have lt : PySem.W.Looks (model prog w) hp (storeTaker? none) none := .now
  have lc : PySem.W.Looks (model prog w) hp (classData C) cd := PySem.W.looks_clsIn X hc
  rw [PySem.W.osa_eq, PySem.refuse_eq]
  refine wpAny_bind (wpAny_bind (J.type.at (wpAny_bind (lm.at ?_))))
  rw [tailB_pass ok _ _ hm]
  refine wpAny_pure (wpAny_bind (J.type.at (wpAny_bind ((PySem.W.looks_findIn X hf).at (wpAny_bind (lt.at ?_))))))
  show wpAny _ _ (storeInOwnDict (.ref a) (.ref C) (.str f tk) f v false) _ _ _
  obtain ⟨c1, c2, c3, c4, c5, c6, c7, c8, c9, c10, c11⟩ := cd
  have hd : c6 = true := hd
  subst hd
  unfold storeInOwnDict ownDictForStores
  repeat (first | with_reducible refine PySem.HandSPX.store_in_new ?_ ?_ | with_reducible refine wpAny_loadPart_at ha ?_ | with_reducible refine lc.at ?_ | wp_step)
  · exact ⟨_, #[], _, (Heap.get?_update_ne _ _ _ _ far.symm).trans (Heap.get?_push_at rfl rfl), rfl, fun e he => absurd he (by simp), fun _ => rfl⟩
  · intro h' tk' n1 n2
    have ha1 : (hp.push { cls := .type "dict", data := .dict #[] }).get? a = some { cls := .ref C, data := .fields fv } := Heap.get?_push_of_some _ ha
    refine hq h' tk' hp.objs.size (fun c o hb ho => ?_) (Nat.le_refl _) far.symm ?_ n1
    · exact (n2.2 c (Nat.ne_of_lt (Heap.lt_size ho))).trans ((Heap.get?_update_ne _ _ _ _ hb).trans (Heap.get?_push_of_some _ ho))
    · exact (n2.2 a far).trans (Heap.get?_update_self _ ha1 rfl)
end
end MS

set_option Elab.async false
set_option linter.all false
set_option maxRecDepth 100000
set_option maxHeartbeats 2000000
/-! MUB: an own exception's first field; super().__init__(x) of it. -/
namespace MS
open PySem PySem.Spec PyProof.Rows L2 ClX
section
variable {X : Cx} {pins : List (Addr × Obj)} {σ : L2.St} {H : Hp} {s : Shared} {a C : Addr} {f : Str} {y : V} {u : Value} {E : Value → Shared → Prop} {A : Around} {eb : EBase}
theorem ExC.clsIn {K : PySem.W.Frag} (T : ExC K eb C) : ∃ cd : ClassData, PySem.W.clsIn K C = some cd ∧ (∃ bm, cd.mro = .ref C :: bm ∧ tailB eb.tl bm = true) ∧ cd.hasDict = true := by
  obtain ⟨nm, q, N, bs, bm, sn, sub, ab, col, dd, k0, k1, k2, k3, k5, hC, hb⟩ := T.cls
  exact ⟨{ name := nm, bases := bs, mro := .ref C :: bm, ns := N, qualname := q, hasDict := true, slotNames := sn, subclasses := sub, abstract := ab, collection := col, hasDel := false }, by unfold PySem.W.clsIn; rw [hC] <;> rfl, ⟨bm, rfl, hb⟩, rfl⟩
theorem ex_ost {Q : Unit → Shared → Prop} (T : ExC X.K eb C) (I : Inv X pins σ H s) (e : H a = some (exo a C none)) (hno : PySem.W.findIn X.K (.ref C) f = some none) (ry : RelV y u)
    (h : ∀ dx s1, H dx = none → dx ≠ a → Inv X pins σ (upd (upd H dx (exd dx [(f, y)])) a (exo a C (some dx))) s1 → Q () s1) : wpAny (model X.prog X.w) A (setAttr (.ref a) f u) Q E s := by
  obtain ⟨cd, hcl, ⟨bm, hmro, hbm⟩, hdi⟩ := T.clsIn
  obtain ⟨t1, hoa⟩ := exo_at I.hok e
  obtain ⟨hp, g, d, t, os⟩ := s
  refine PySem.W.set_plain I.kIn (ox := { cls := .ref C, dict := none, data := .fields #[.ref t1, .none, .none, .none, .bool false, .none] }) (od := none) ⟨hoa, rfl, rfl, trivial⟩ T.sa ?_
  refine ex_store T.ok I.kIn hoa hcl (by rw [hmro]; exact hbm) hdi hno (fun h1 tk1 dx kp dn dna ha1 hns => ?_)
  have fresh : H dx = none := I.hok.fresh dn
  have old : ∀ {c : Addr} {o : Obj}, hp.get? c = some o → c ≠ dx := fun {c o} q => Nat.ne_of_lt (Nat.lt_of_lt_of_le (Heap.lt_size q) dn)
  have off : ∀ {c : Addr}, H c = none → c ≠ a := fun {c} n z => by rw [z, e] at n; cases n
  have U : Un X.fs [] H (upd (upd H dx (exd dx [(f, y)])) a (exo a C (some dx))) hp h1 := by
    refine ⟨?_, ?_, ?_, ?_, ?_, ?_, ?_⟩
    · exact fun c o q n _ _ => kp c o (off n) q
    · exact fun c o q n _ _ => ⟨o.slots, kp c o (off n) q⟩
    · exact fun c o q n _ => by rw [upd_ne (off n), upd_ne (old q)]; exact n
    · intro c o q _
      by_cases hc : c = a
      · exact ⟨_, by rw [hc]; exact ha1⟩
      · exact ⟨o, kp c o hc q⟩
    · exact fun c xs q => by rw [upd_ne (at_ne e q exo_tup), upd_ne (ne_of_none q fresh)]; exact q
    · exact fun c o v q => by rw [upd_ne (at_ne e q exo_frz), upd_ne (ne_of_none q fresh)]; exact q
    · exact fun c ps q => ⟨#[], by rw [upd_ne (at_ne e q exo_tbl), upd_ne (ne_of_none q fresh), q]; simp⟩
  refine h dx _ fresh dna (I.un (t' := tk1) U fun c o q => ?_)
  by_cases hc : c = a
  · subst hc
    rw [upd_same] at q
    cases q
    exact exo_ok ha1
  · rw [upd_ne hc] at q
    by_cases hd : c = dx
    · subst hd
      rw [upd_same] at q
      cases q
      exact exd_ok hns (relO_put (fs := []) ry fun _ => True.intro)
    · rw [upd_ne hd] at q
      refine (I.hok c o q).stay (fun b v hb z => kp b v (by
        rcases hb with hb | hb
        · rw [hb]; exact hc
        · exact at_ne e hb exo_own) z) (fun b hb => ?_) (fun b xs hb => ?_)
      · rw [upd_ne (at_ne e hb exo_own), upd_ne (ne_of_none hb fresh)]; exact hb
      · rw [upd_ne (at_ne e hb exo_tup), upd_ne (ne_of_none hb fresh)]; exact hb
/-- self.f = e in the __init__ -/
def tOx (K : PySem.W.Frag) (eb : EBase) (f : Str) (to te : TE) : TS := fun D σ H => te σ H fun y H1 => to σ H1 fun x H2 => ∃ a C : Addr, x = .ref a ∧ ExC K eb C ∧ PySem.W.findIn K (.ref C) f = some none ∧ H2 a = some (exo a C none) ∧
  ∀ dx, H2 dx = none → dx ≠ a → D.nx σ (upd (upd H2 dx (exd dx [(f, y)])) a (exo a C (some dx)))
theorem ps_ox {o e : Expr} {to te : TE} {p' pos : Pos} (ho : PE X o to) (he : PE X e te) (hs : swapsWith e (some (.Attribute o f p')) pos.line X.env = pure false := by rfl) : PS X (.Assign [.Attribute o f p'] e pos) (tOx X.K eb f to te) := by
  refine ⟨fun pins s σ H D I h => ?_⟩
  refine plainObj_wpAny_Assign_Attribute (thn (he.run pins s σ H _ I h) fun v s1 hv => ?_) hs
  obtain ⟨y, H1, I1, r1, q1⟩ := hv
  refine thn (ho.run pins s1 σ H1 _ I1 q1) fun u s2 hu => ?_
  obtain ⟨x, H2, I2, r2, a, C, ex, T, hno, ea, q⟩ := hu
  subst ex
  cases (show u = Value.ref a from r2)
  exact ex_ost T I2 ea hno r1 fun dx s3 n ne J => ⟨σ, _, J, q dx n ne⟩
/-- what the class of self must have -/
structure SupE (K : PySem.W.Frag) (eb : EBase) (C D : Addr) : Prop where
  sub : PySem.W.mroIn K C (.ref D) = some true
  at_ : PySem.W.ks_superIn K C D "__init__" = some (some (.builtin eb.ini))
  bs : PySem.W.subIn K (.ref C) (.type eb.B) = some true
theorem ex_pin {o : Obj} {h' : Heap} {b : Addr} {t' : Nat} (I : Inv X pins σ H s) (k : ∀ c v, s.heap.get? c = some v → h'.get? c = some v) (hb : s.heap.objs.size ≤ b) (ho : h'.get? b = some o) (hc : ∀ v, o.data ≠ .cell v) : Inv X ((b, o) :: pins) σ H { s with heap := h', toks := t' } := pin_new I k hb ho hc
/-- the built-in __init__, bound, called -/
theorem ex_init {us : List Value} {q : Addr} {Q : Value → Shared → Prop} (T : ExC X.K eb C) (I : Inv X ((q, PySem.W.kxs_mw eb.ini a) :: pins) σ H s) (e : H a = some (exo a C none)) (hl : us.length ≤ sizeLine) (h : ∀ s1, Inv X pins σ H s1 → Q .none s1) :
    wpAny (model X.prog X.w) A (call (.ref q) us) Q E s := by
  obtain ⟨nm, qn, N, bs, bm, sn, sub, ab, col, dd, k0, k1, k2, k3, k5, hC, hbm⟩ := T.cls
  obtain ⟨t1, hoa⟩ := exo_at I.hok e
  have hu := pin_at I
  have I0 := unpin I
  obtain ⟨hp, g, d, t, os⟩ := s
  have fin : ∀ h1, (∀ c o, c ≠ a → hp.get? c = some o → h1.get? c = some o) → (∃ t2 : Addr, h1.get? a = some ({ cls := .ref C, dict := none, data := .fields #[.ref t2, .none, .none, .none, .bool false, .none] } : Obj)) → Q .none ⟨h1, g, d, t, os⟩ := fun h1 k ⟨t2, hx⟩ => by
    have J := I0.write (t' := t) (x := a) (e := a) (o := exo a C none) (by rw [e]; exact True.intro) (.inl rfl) k ⟨_, hx⟩ (exo_ok hx)
    have same : upd H a (exo a C none) = H := by
      funext c
      by_cases hc : c = a
      · rw [hc, upd_same, e]
      · rw [upd_ne hc]
    rw [same] at J
    exact h _ J
  refine wpAny_call (codeAny_of_tree ?_)
  show wpAny _ A.in1 (callAny (.ref q) ⟨us, []⟩) _ _ _
  simp only [callAny]
  refine wpAny_bind (wpAny_load hu ?_)
  simp only [PySem.W.kxs_mw, show (Value.type "method-wrapper" == Value.type "method" || Value.type "method-wrapper" == Value.type "builtin_function_or_method" || Value.type "method-wrapper" == Value.type "method-wrapper") = true by decide, if_true]
  refine PySem.W.KFB.if_so (by decide) ?_
  refine wpAny_bind (PySem.W.check_bound_init T.ok.ex.toExcCallFacts (I.kIn _ _ hC) hoa rfl ?_)
  refine wpAny_bind (wpAny_pure (wpAny_pure ?_))
  refine ⟨PySem.plainId_quiet T.ok.ex.init.plain _, codeAny_builtin T.ok.ex.initEntry ?_⟩
  exact PySem.W.exc_init_tree (cls := .ref C) (t0 := t1) (dv := none) (c2 := .none) (c3 := .none) (b4 := .bool false) hoa hl fun h1 k ha1 _ => fin h1 k ⟨_, ha1⟩
end
end MS

set_option Elab.async false
set_option linter.all false
set_option maxRecDepth 100000
set_option maxHeartbeats 2000000
/-! MUC: super().__init__(x) in an own exception's __init__, as a statement. -/
namespace MS
open PySem PySem.Spec PyProof.Rows L2 ClX
section
variable {Γ : Run} {X : Cx} {eb : EBase} {pos p apos cpos : Pos}
theorem wp_superE {b0 : List Stmt} {D a C : Addr} {n0 : Str} {e : Expr} {es : List Expr} {p0 p1 : Pos} {pins : List (Addr × Obj)} {σ : L2.St} {H : Hp} {s : Shared} {Q : Value → Shared → Prop}
    (K : SupK X D n0) (J : Inv X pins σ H s) (h0 : σ[0]? = some (some (.ref a))) (hH : H a = some (exo a C none)) (T : ExC X.K eb C) (c : SupE X.K eb C D) (hst : (e :: es).any stB = false) (hlen : (e :: es).length < 20) (hline : (apos.endLine == cpos.line) = true) (hcd : (n0 == ("__classdict__" : Str)) = false)
    (h : ∀ q s2, Inv X ((q, PySem.W.kxs_mw eb.ini a) :: pins) σ H s2 → wpAny (model X.prog X.w) X.A (spliced (backTo cpos (starEach (e :: es) X.env))) (fun us s3 => PySem.W.KxsAt eb.ini q a s3.heap ∧ wpAny (model X.prog X.w) X.A (call (.ref q) us) Q X.xe s3) X.xe s2) :
    _root_.PySem.wpAt (model X.prog X.w) X.A (.func b0 X.env) (eval (.Call (.Attribute (.Call (.Name "super" p0) [] [] p1) "__init__" apos) (e :: es) [] cpos) X.env) Q X.xe s := by
  obtain ⟨f, cda, cc, fd, ar, vs, file, tf, oc, ccl, cl, od, cdd, cld, osl, ccs, csl, cdD, e1, e2, e3, e4, e5, e6, e7, e8, e9, e10, e11⟩ := K.ex
  subst e4
  have KX := J.kIn
  have hst1 := hst
  rw [List.any_cons, Bool.or_eq_false_iff] at hst1
  obtain ⟨oD, hD1, hD2⟩ : ∃ oD, s.heap.get? D = some oD ∧ oD.data = .cls cdD := by
    unfold PySem.W.clsIn at e11
    split at e11
    · rename_i c d cd1 sl ho
      cases e11
      exact ⟨_, KX _ _ ho, rfl⟩
    · cases e11
  obtain ⟨t1, hoa⟩ := exo_at J.hok hH
  have JI : PySem.W.InstAt s.heap a ({ cls := .ref C, dict := none, data := .fields #[.ref t1, .none, .none, .none, .bool false, .none] } : Obj) C none := ⟨hoa, rfl, rfl, trivial⟩
  rw [arm_eval_Call]
  refine _root_.PySem.wpAt_bind (PySem.ks_wpAt_mono (PySem.ks_wpAt_super_base (env := X.env) (Q := fun v s1 => ∃ so, v = .ref so ∧ s1.heap.get? so = some { cls := .type "super", dict := none, data := .fields #[.ref D, .ref a, .ref C], slots := #[] } ∧ Inv X pins σ H s1) K.hks K.hkc rfl e1 (KX _ _ e2) rfl e3 e5 (KX _ _ e6) rfl e7 e8 K.top ?_) (fun v s1 hv => ?_) fun _ _ z => z)
  · obtain ⟨mb, h1, h2⟩ := J.mod.blt
    refine PySem.W.ks_loadName_global J.ok.kind K.hks (Calls.loadGlobal_builtin (by rw [J.ok.glob]; exact J.mod.glob.keeps J.bk) K.mg (by rw [J.ok.blt]; exact h1.keeps J.bk) ((h2 "super" (by decide)).trans (show bootBuiltins "super" = some (.type "super") by with_unfolding_all rfl)) ⟨rfl, ?_⟩)
    refine wpAny_loadName_free J.ok.kind K.hkc e9 ⟨_, KX _ _ e10, rfl⟩ ?_
    obtain ⟨m, hn, hl⟩ := J.loc
    obtain ⟨u, r, l⟩ := hl 0 _ (.ref a) K.nm0 h0 K.vis
    cases (show u = Value.ref a from r)
    have fin : wpAny (model X.prog X.w) X.A (isType (.ref D)) (fun b s₄ => b = true ∧ wpAny (model X.prog X.w) X.A (call (.type "super") [.ref D, .ref a]) (fun v s1 => ∃ so, v = .ref so ∧ s1.heap.get? so = some { cls := .type "super", dict := none, data := .fields #[.ref D, .ref a, .ref C], slots := #[] } ∧ Inv X pins σ H s1) X.xe s₄) X.xe s := by
      refine PySem.ks_wpAny_isType_cls hD1 hD2 ⟨rfl, ?_⟩
      refine PySem.ks_wpAny_call_super hD1 hD2 JI.at_ JI.cls (fun c e => ?_) (PySem.W.looks_mroIn KX c.sub) (fun h1 e k => ⟨_, rfl, e, J.kept (t' := s.toks) k⟩)
      have := JI.no
      unfold PySem.W.notCls at this
      rw [e] at this
      exact Bool.noConfusion this
    rcases l with ⟨hk, hm⟩ | ⟨hk, c, hc, hcell⟩
    · exact wpAny_loadName_local J.ok.kind hk hn hm fin
    · rcases hk with hk | hk
      · exact wpAny_loadName_cell J.ok.kind hk hc hcell fin
      · exact wpAny_loadName_free J.ok.kind hk hc hcell fin hcd
  · obtain ⟨so, rfl, hso, J1⟩ := hv
    refine _root_.PySem.wpAt_of_wpAny (wpAny_bind (wpAny_standAt ?_))
    have hform : methodCallForm ((e :: es).length + ([] : List Keyword).length) (backTo cpos (starEach (e :: es) X.env)) (backToKw cpos (keywordEach [] X.env)) = true := few_plain hst hlen
    have hpos : methodCallPos true (.Call (.Name "super" p0) [] [] p1) X.env apos cpos = pure cpos := by unfold methodCallPos; simp [hline]
    unfold methodCall
    rw [hform]
    have KX1 := J1.kIn
    obtain ⟨t2, hoa1⟩ := exo_at J1.hok hH
    have JI1 : PySem.W.InstAt s1.heap a ({ cls := .ref C, dict := none, data := .fields #[.ref t2, .none, .none, .none, .bool false, .none] } : Obj) C none := ⟨hoa1, rfl, rfl, trivial⟩
    have hc := c.at_
    unfold PySem.W.ks_superIn at hc
    cases hcl : PySem.W.clsIn X.K C with
    | none => rw [hcl] at hc; cases hc
    | some cd =>
      rw [hcl] at hc
      obtain ⟨hp1, g1, d1, tk1, os1⟩ := s1
      have isB : PySem.W.Looks (model X.prog X.w) hp1 (isInstance (.ref a) (.type eb.B)) true := JI1.type.andThen (PySem.W.looks_subIn KX1 c.bs)
      refine wpAny_bind (wpAny_holding ?_)
      refine PySem.W.kxs_getMethod T.ok.sup hso (PySem.W.looks_opaque KX1 K.op) (l₀ := cd.mro) (fun A Q E s k q => wpAny_bind ((PySem.W.looks_clsIn KX1 hcl) A _ E s k (wpAny_pure q))) rfl KX1 hc isB (PySem.W.ks_ne KX1 JI1 hcl) rfl ?_
      refine wpAny_bind (wpAny_of_eq hpos ?_)
      have J2 : Inv X ((hp1.objs.size, PySem.W.kxs_mw eb.ini a) :: pins) σ H ⟨hp1.push (PySem.W.kxs_mw eb.ini a), g1, d1, tk1 + 1, os1⟩ := ex_pin (h' := hp1.push (PySem.W.kxs_mw eb.ini a)) (t' := tk1 + 1) J1 (fun _ _ z => Heap.get?_push_of_some _ z) (Nat.le_refl _) (Heap.get?_push_size hp1 rfl) (fun v z => nomatch z)
      have hh := h _ _ J2
      show wpAny _ _ (callWith cpos (.ref hp1.objs.size) [] (backTo cpos (starEach (e :: es) X.env)) []) _ _ _
      rw [star_cons hst1.1] at hh ⊢
      refine PySem.W.kxs_callWith (i := eb.ini) (x := a) ?_ (PySem.Calls.evalArgs_plain hh)
      show (false || (backTo cpos (starEach es X.env)).any (·.1)) = false
      rw [spl_plain hst1.2]
      rfl
/-- super().__init__(e) of an exception: nothing of it is told -/
def tSup (K : PySem.W.Frag) (eb : EBase) (D : Addr) (ta : TA) : TS := fun Ds σ H => ∃ a C : Addr, σ[0]? = some (some (.ref a)) ∧ H a = some (exo a C none) ∧ ExC K eb C ∧ SupE K eb C D ∧ ta σ H fun us H1 => us.length ≤ 1000 ∧ H1 a = some (exo a C none) ∧ Ds.nx σ H1
theorem pat_supE {b0 : List Stmt} {D : Addr} {n0 : Str} {e : Expr} {es : List Expr} {p0 p1 : Pos} {ta : TA} (K : SupK X D n0) (ha : PA X (e :: es) ta) (hst : (e :: es).any stB = false) (hlen : (e :: es).length < 20) (hline : (apos.endLine == cpos.line) = true) (hcd : (n0 == ("__classdict__" : Str)) = false) :
    PAt X b0 (.Expr (.Call (.Attribute (.Call (.Name "super" p0) [] [] p1) "__init__" apos) (e :: es) [] cpos) pos) (tSup X.K eb D ta) := by
  intro pins S σ H Ds J h
  obtain ⟨a, C, h0, hH, T, c, h⟩ := h
  refine PySem.ks_wpAt_Expr_any ?_ J.quiet (swap_no rfl)
  refine wp_superE K J h0 hH T c hst hlen hline hcd fun q S1 J1 => ?_
  refine thn (ha.run cpos _ S1 σ H _ J1 h) fun us S2 ⟨vs, H1, I1, r1, hz, ea, hn⟩ => ⟨pin_at I1, ?_⟩
  have hlen : us.length ≤ sizeLine := by
    rw [← Paired.length r1, sizeLine_eq]
    omega
  exact ex_init T I1 ea hlen fun S3 I3 => ⟨σ, H1, I3, hn⟩
end
end MS

set_option Elab.async false
set_option linter.all false
set_option maxRecDepth 100000
set_option maxHeartbeats 2000000
/-! MUD: the __init__ of an own exception, as a def. -/
namespace MS
open PySem PySem.Spec PyProof.Rows L2
theorem Rel.le {Γ : Run} {s : AS} {H H2 : Hp} (R : Rel Γ s H) (le : Le H H2) : Rel Γ s H2 := by
  refine ⟨R.fz.trans le, R.fr.trans le, R.dj, R.len, R.inj, fun n a e z => ?_, R.nf, fun n ob e => ?_⟩
  · cases q : H a with
    | none => exact R.th n a e q
    | some o => rw [le a o q] at z; cases z
  · obtain ⟨a, ea, c⟩ := R.cell n ob e
    refine ⟨a, ea, ?_⟩
    cases ob with
    | frz x => exact c
    | lst vs => obtain ⟨c1, c2, us, c3, c4⟩ := c; exact ⟨c1, c2, us, le _ _ c3, c4⟩
    | dct vs => obtain ⟨c1, c2, us, c3, c4⟩ := c; exact ⟨c1, c2, us, le _ _ c3, c4⟩
    | ins j vs => obtain ⟨c1, c2, dx, us, c3, c4⟩ := c; exact ⟨c1, c2, dx, us, le _ _ c3, c4⟩
section
variable {Γ : Run} {I : Info}
theorem fn_ex {f : Nat} {N : List Str} {body : List Stmt} {scope : Scope} {D : Addr} {n0 : Str} {sp : L2.Sp} (F : FnFactK Γ I f N body scope D n0) (hsl : ∀ us H Q E, sp us H Q E → us.length = (I.ps f).length)
    (hbody : ∀ X : Cx, Same Γ X → X.calm = true → TopK X N scope → SupK X D n0 → ∃ t, PAts X body body t ∧ ∀ us H Q E, sp us H Q E → t { nx := fun _ H2 => Q .non H2, rt := Q } (L2.start N us) H) : FnOk Γ.P Γ.w Γ.K Γ.mg Γ.base (L2.CX Γ.P Γ.w) 1 (I.fA f) (I.fd f) (I.ps f) sp := by
  obtain ⟨name, qual, params, dV, kV, doc, pm, ct, oc, an, od, osl, cc, cda, ar, vs0, file, tf, ccl, cl, cdd, cld, ccs, csl, cdD, e, lk, hcd, q1, q2, q3, q4, q5, q6, q7⟩ := F.ex
  rw [e] at lk ⊢
  refine ⟨hsl, fun A outer s H args us vs Q E hr e0 hb r h => ?_⟩
  have hl := hsl _ _ _ _ h
  have KX : Γ.K.In s.heap := e0.mod.kin.keeps fun b o e => (e0.bs b o e).1
  have lim : s.heap.NoLimit := e0.mod.nolimit.keeps fun b o e => (e0.bs b o e).1
  have kinds : ∀ y ∈ (I.ps f).zip us, scope.names.lookup y.1 = some .local ∨ (scope.names.lookup y.1 = some .cell ∧ ((cellsFrom (s.heap.objs.size + 1) scope.names []).lookup y.1).isSome = true) := fun ⟨n, v⟩ hy => by
    rcases F.sc.par n (List.of_mem_zip hy).1 with q | q
    · exact .inl q
    · exact .inr ⟨q, PySem.W.cellsFrom_some _ _ _ (.inl q)⟩
  refine codeAny_call_function hr.depth (KX _ _ lk) rfl F.sc.co F.sc.gen rfl (PySem.W.codeRec_of KX hcd) (hb _ _ _ _ ?_)
  refine newEnvD F.sc.kind kinds fun env he s1 x => ?_
  subst he
  refine ⟨lim.keeps x.toInCall.keep, PySem.ks_codeAny_funcAt ?_⟩
  have hcc : Γ.base.get? cc = some ⟨cl, cld, .cell (some (.ref D)), csl⟩ := e0.mod.kin _ _ q6
  have J : Inv (cxK (L2.CX Γ.P Γ.w) Γ.P Γ.w Γ.K Γ.mg Γ.base N qual scope (I.fA f) (.ref cda) cc A outer s H E) [] (L2.start N vs) H s1 := inv_startK F.sc hr.hd e0 hl r hcc rfl x
  have S : Same Γ (cxK (L2.CX Γ.P Γ.w) Γ.P Γ.w Γ.K Γ.mg Γ.base N qual scope (I.fA f) (.ref cda) cc A outer s H E) := ⟨rfl, rfl, rfl, rfl, rfl⟩
  have U : TopK (cxK (L2.CX Γ.P Γ.w) Γ.P Γ.w Γ.K Γ.mg Γ.base N qual scope (I.fA f) (.ref cda) cc A outer s H E) N scope := ⟨rfl, F.sc.nd, rfl, F.sc.kind, fun x hx => by show (!(x == ("__class__" : Str))) = true; rw [hx]; rfl, passes_of rfl, rfl, rfl⟩
  have SV : SupK (cxK (L2.CX Γ.P Γ.w) Γ.P Γ.w Γ.K Γ.mg Γ.base N qual scope (I.fA f) (.ref cda) cc A outer s H E) D n0 :=
    ⟨⟨I.fA f, cda, cc, _, ar, vs0, file, tf, oc, ccl, cl, od, cdd, cld, osl, ccs, csl, cdD, rfl, lk, q1, q2, rfl, q3, q4, q5, by show (cellsFrom (s.heap.objs.size + 1) scope.names [] ++ kcl cc).lookup _ = _; rw [List.lookup_append, no_class_cell F.sc.nocl]; rfl, q6, q7⟩, F.hks, F.hkc, F.top, F.mg, F.op, F.nm0, F.vis⟩
  obtain ⟨t, hp, ht⟩ := hbody _ S rfl U SV
  refine PySem.ks_wpAt_mono (hp [] s1 (L2.start N vs) H _ J (ht _ _ _ _ h)) (fun fl s2 hs => ?_) fun e s2 hs => hs
  have fin : ∀ {σ2 : L2.St} {H2 : Hp} {v : V} {u : Value}, Inv (cxK (L2.CX Γ.P Γ.w) Γ.P Γ.w Γ.K Γ.mg Γ.base N qual scope (I.fA f) (.ref cda) cc A outer s H E) [] σ2 H2 s2 → RelV v u → Q v H2 → CE outer Γ.P Γ.w H s Q u s2 :=
    fun {σ2 H2 v u} J rv q => ⟨v, H2, J.os, J.bare, J.base, J.hok, rv, q⟩
  cases fl with
  | ret u =>
    obtain ⟨v, σ2, H2, J, rv, q⟩ := hs
    exact fin J rv q
  | next =>
    obtain ⟨σ2, H2, J, q⟩ := hs
    exact fin (v := V.non) (u := Value.none) J rfl q
  | brk =>
    obtain ⟨_, _, _, q⟩ := hs
    exact False.elim q
  | cont =>
    obtain ⟨_, _, _, q⟩ := hs
    exact False.elim q
/-- all that is there held by others -/
def held (H : Hp) : AS := ⟨[], fun _ => none, H, []⟩
theorem held_rel {H : Hp} : Rel Γ (held H) H := ⟨(fun _ _ e => nomatch e), Le.refl _, (fun _ _ _ => rfl), rfl, (fun m n a e => nomatch e), (fun n a e => nomatch e), (fun n a e => nomatch e), (fun n ob e => nomatch e)⟩
/-- the __init__ of a class without a name: C() -/
def spN (K : PySem.W.Frag) (eb : EBase) (D : Addr) : L2.Sp := fun us H Q _ => ∃ a C : Addr, us = [.ref a] ∧ H a = some (exo a C none) ∧ ExC K eb C ∧ SupE K eb C D ∧ ∀ H2, Le H H2 → Q .non H2
/-- .. with a name: C(name) -/
def spW (K : PySem.W.Frag) (eb : EBase) (D : Addr) : L2.Sp := fun us H Q _ => ∃ (a C : Addr) (z : Str), us = [.ref a, .str z] ∧ z.length ≤ 100000 ∧ (reprText z).length ≤ 1000000 ∧ H a = some (exo a C none) ∧ ExC K eb C ∧ SupE K eb C D ∧ PySem.W.findIn K (.ref C) "name" = some none ∧
  ∀ H1 d, Le H H1 → H1 d = none → d ≠ a → Q .non (upd (upd H1 d (exd d [("name", .str z)])) a (exo a C (some d)))
variable {X : Cx} {D : Addr} {n0 : Str} {eb : EBase} {pos p0 p1 apos cpos pS p' : Pos}
theorem start_at {N : List Str} {us : List V} {i : Nat} {u : V} (h : us[i]? = some u) : (L2.start N us)[i]? = some (some u) := by
  unfold L2.start
  have hi : i < us.length := (List.getElem?_eq_some_iff.mp h).1
  rw [List.getElem?_append_left (by rw [List.length_map]; exact hi), List.getElem?_map, h]
  rfl
theorem init_N {b0 : List Stmt} {C : Cl} {N : List Str} {e : Expr} {x : Str} (K : SupK X D n0) (he : SE Γ X e (evE C (.str x))) (hst : stB e = false) (hline : (apos.endLine == cpos.line) = true) (hcd : (n0 == ("__classdict__" : Str)) = false) :
    ∃ t, PAts X b0 [.Expr (.Call (.Attribute (.Call (.Name "super" p0) [] [] p1) "__init__" apos) [e] [] cpos) pos] t ∧ ∀ us H Q E, spN X.K eb D us H Q E → t { nx := fun _ H2 => Q .non H2, rt := Q } (L2.start N us) H := by
  have tk : Takes X (fun _ _ _ _ => False) := takes0
  refine ⟨_, pats_cons (pat_supE (eb := eb) (D := D) K (sa_cons he sa_nil hst _ tk) (by rw [List.any_cons, hst]; rfl) (show 1 < 20 by decide) hline hcd) pats_nil, ?_⟩
  rintro us H Q E ⟨a, c, rfl, hH, T, c1, hq⟩
  refine ⟨a, c, start_at rfl, hH, T, c1, (L2.start N [.ref a]).map (fun _ => none), held H, held_rel, ⟨by rw [List.length_map], fun i v h => ?_⟩, ?_⟩
  · rw [List.getElem?_map] at h
    cases q : (L2.start N [.ref a])[i]? with
    | none => rw [q] at h; cases h
    | some o => rw [q] at h; cases h
  · show ∀ s2 H2, s2.hp = _ → Ext (held H) s2 → Rel Γ s2 H2 → _
    intro s2 H2 _ x2 R2 vs hv
    have le : Le H H2 := by
      have := R2.fr
      rw [x2.Fr] at this
      exact this
    refine ⟨?_, le _ _ hH, hq H2 le⟩
    have := Paired.len hv
    rw [← this]
    show 1 ≤ 1000
    decide
/-- f'..{name!r}..' has a value -/
theorem rep_ok {C : Cl} {z a : Str} {rest : List Fp} {loc : Loc} {h : List Ob} (hz : (reprText z).length ≤ 1000000) (ha : a.length ≤ 1000) (hr : rest = [] ∨ ∃ b : Str, b.length ≤ 1000 ∧ rest = [.lit b]) (h1 : loc[1]? = some (some (.t (.str z)))) :
    ∃ x, evE C (.fst (.lit a :: .rep (.var 1) :: rest)) loc h = .ok (.t (.str x)) h := by
  have hL : (1100000 : Nat) ≤ SL := by decide
  have la : ∀ x y : Str, (x ++ y).length = x.length + y.length := fun x y => by
    show (x.cps ++ y.cps).size = _
    rw [Array.size_append]
    rfl
  have l0 : Str.empty.length = 0 := rfl
  have e1 : evFp C (.lit a) loc h = .ok a h := rfl
  have e2 : evFp C (.rep (.var 1)) loc h = .ok (reprText z) h := by
    show MH.bind (evE C (.var 1) loc) repV h = _
    have : evE C (.var 1) loc h = .ok (.t (.str z)) h := by
      show (match loc[1]? with | some (some v) => RH.ok (nrm v h) h | _ => .bad) = _
      rw [h1]
      rfl
    unfold MH.bind
    rw [this]
    show (if (reprText z).length ≤ SL then (pure (reprText z) : MH Str) else bad) h = _
    rw [if_pos (by omega)]
    rfl
  have st : ∀ (p : Fp) (ps : List Fp) (acc x : Str), evFp C p loc h = .ok x h → (acc ++ x).length ≤ SL → evFs C (p :: ps) loc acc h = evFs C ps loc (acc ++ x) h := fun p ps acc x e hl => by
    show MH.bind (evFp C p loc) (fun s => if (acc ++ s).length ≤ SL then evFs C ps loc (acc ++ s) else bad) h = _
    unfold MH.bind
    rw [e]
    dsimp only
    rw [if_pos hl]
  have q : ∃ x, evFs C (.lit a :: .rep (.var 1) :: rest) loc Str.empty h = .ok x h := by
    rw [st _ _ _ _ e1 (by rw [la, l0]; omega), st _ _ _ _ e2 (by rw [la, la, l0]; omega)]
    rcases hr with rfl | ⟨b, hb, rfl⟩
    · exact ⟨_, rfl⟩
    · rw [st _ _ _ _ (show evFp C (.lit b) loc h = .ok b h from rfl) (by rw [la, la, la, l0]; omega)]
      exact ⟨_, rfl⟩
  obtain ⟨x, q⟩ := q
  refine ⟨x, ?_⟩
  show MH.bind (evFs C (.lit a :: .rep (.var 1) :: rest) loc Str.empty) (fun s => str s) h = _
  unfold MH.bind
  rw [q]
  rfl
theorem init_W {b0 : List Stmt} {C : Cl} {N : List Str} {e : Expr} {n1 a : Str} {rest : List Fp} (K : SupK X D n0) (he : SE Γ X e (evE C (.fst (.lit a :: .rep (.var 1) :: rest)))) (ha : a.length ≤ 1000) (hr : rest = [] ∨ ∃ b : Str, b.length ≤ 1000 ∧ rest = [.lit b])
    (hN : 2 ≤ N.length) (ho : PE X (.Name n0 pS) (tVar 0)) (hn : PE X (.Name n1 p') (tVar 1)) (hst : stB e = false) (hline : (apos.endLine == cpos.line) = true) (hcd : (n0 == ("__classdict__" : Str)) = false) {q1 q2 : Pos} (hsw : swapsWith (.Name n1 p') (some (.Attribute (.Name n0 pS) "name" q1)) q2.line X.env = pure false) :
    ∃ t, PAts X b0 [.Expr (.Call (.Attribute (.Call (.Name "super" p0) [] [] p1) "__init__" apos) [e] [] cpos) pos, .Assign [.Attribute (.Name n0 pS) "name" q1] (.Name n1 p') q2] t ∧ ∀ us H Q E, spW X.K eb D us H Q E → t { nx := fun _ H2 => Q .non H2, rt := Q } (L2.start N us) H := by
  have tk : Takes X (fun _ _ _ _ => False) := takes0
  refine ⟨_, pats_cons (pat_supE (eb := eb) (D := D) K (sa_cons he sa_nil hst _ tk) (by rw [List.any_cons, hst]; rfl) (show 1 < 20 by decide) hline hcd) (pats_cons (pat_of (ps_ox (eb := eb) ho hn hsw)) pats_nil), ?_⟩
  rintro us H Q E ⟨b, c, z, rfl, hz1, hz, hH, T, c1, hf, hq⟩
  have hlen : (L2.start N [.ref b, .str z]).length = N.length := by
    unfold L2.start
    rw [List.length_append, List.length_map, List.length_replicate]
    show 2 + (N.length - 2) = N.length
    omega
  have l1 : (((L2.start N [.ref b, .str z]).map (fun _ => (none : Option Val))).set 1 (some (.t (.str z))))[1]? = some (some (.t (.str z))) := List.getElem?_set_self (by rw [List.length_map, hlen]; omega)
  refine ⟨b, c, start_at rfl, hH, T, c1, ((L2.start N [.ref b, .str z]).map (fun _ => none)).set 1 (some (.t (.str z))), held H, held_rel, ⟨by rw [List.length_set, List.length_map], fun i v h => ?_⟩, ?_⟩
  · by_cases hi : i = 1
    · subst hi
      rw [l1] at h
      cases h
      exact ⟨.str z, start_at rfl, rv_str.mpr rfl⟩
    · rw [List.getElem?_set_ne (Ne.symm hi), List.getElem?_map] at h
      cases q : (L2.start N [.ref b, .str z])[i]? with
      | none => rw [q] at h; cases h
      | some o => rw [q] at h; cases h
  · obtain ⟨x, ex⟩ := rep_ok (C := C) (h := (held H).hp) hz ha hr l1
    have e0 : evEs C [.fst (.lit a :: .rep (.var 1) :: rest)] (((L2.start N [.ref b, .str z]).map (fun _ => (none : Option Val))).set 1 (some (.t (.str z)))) (held H).hp = .ok [.t (.str x)] (held H).hp := by
      show MH.bind (evE C (.fst (.lit a :: .rep (.var 1) :: rest)) _) (fun v => MH.bind (evEs C [] _) fun vs => (pure (v :: vs) : MH (List Val))) _ = _
      unfold MH.bind
      rw [ex]
      rfl
    rw [e0]
    intro s2 H2 _ x2 R2 vs hv
    have le : Le H H2 := by
      have := R2.fr
      rw [x2.Fr] at this
      exact this
    refine ⟨?_, le _ _ hH, .str z, start_at rfl, .ref b, start_at rfl, b, c, rfl, T, hf, le _ _ hH, fun dx n ne => hq H2 dx le n ne⟩
    have := Paired.len hv
    rw [← this]
    show 1 ≤ 1000
    decide
end
end MS

set_option Elab.async false
set_option linter.all false
set_option maxRecDepth 100000
set_option maxHeartbeats 4000000
/-! MUE: own exceptions made and raised. -/
namespace MS
open PySem PySem.Spec PyProof.Rows L2
section
variable {X : Cx} {eb : EBase}
/-- the end of C() without a field: the exception is let go -/
theorem mk_endN {pins : List (Addr × Obj)} {σ : L2.St} {H1 H2 : Hp} {Q : XK} {hp hp2 h2 : Heap} {g1 g2 : Array GenState} {d1 d2 : Drawn} {t1 t2 : Nat} {os1 os2 : OsState} {a C : Addr} (T : Raises X (.ref C)) (I1 : Inv X pins σ H1 ⟨hp, g1, d1, t1, os1⟩)
    (ha : hp.objs.size ≤ a) (k : ∀ c o, hp.get? c = some o → hp2.get? c = some o) (un : Un (frs X.stack) [] (upd H1 a (exo a C none)) H2 hp2 h2) (hok : HOk X.prog X.w H2 h2) (ho : os2 = os1) (hb : AllBare g2)
    (ea : H2 a = some (exo a C none)) (q : Q (.ref C) none (del H2 a)) : MkP X pins σ Q (.ref a) ⟨h2, g2, d2, t2, os2⟩ := by
  obtain ⟨t0, hoe⟩ := exo_at hok ea
  have hn : H1 a = none := I1.hok.fresh ha
  obtain ⟨G, r1, r2⟩ := restrict h2 fun c => decide (c ≠ a)
  have gk : ∀ c, c ≠ a → G.get? c = h2.get? c := fun c hc => r1 c (decide_eq_true hc)
  have ge : G.get? a = none := r2 a (by simp)
  have nha : ∀ {c : Addr} {o : Obj}, hp.get? c = some o → c ≠ a := fun {c o} z => Nat.ne_of_lt (Nat.lt_of_lt_of_le (Heap.lt_size z) ha)
  have up : ∀ {c : Addr}, c ≠ a → H1 c = none → upd H1 a (exo a C none) c = none := fun {c} hc n => by rw [upd_ne hc]; exact n
  have U : Un (frs X.stack) [] H1 (del H2 a) hp G := by
    refine ⟨?_, ?_, ?_, ?_, ?_, ?_, ?_⟩
    · exact fun c o z n hf hx => by rw [gk c (nha z)]; exact un.keep c o (k c o z) (up (nha z) n) hf hx
    · exact fun c o z n hf hx => by rw [gk c (nha z)]; exact un.slot c o (k c o z) (up (nha z) n) hf hx
    · exact fun c o z n hx => by rw [del_ne (nha z)]; exact un.free c o (k c o z) (up (nha z) n) hx
    · exact fun c o z hx => by rw [gk c (nha z)]; exact un.there c o (k c o z) hx
    · exact fun c xs z => by rw [del_ne (ne_of_none z hn)]; exact un.tups c xs (by rw [upd_ne (ne_of_none z hn)]; exact z)
    · exact fun c o v z => by rw [del_ne (ne_of_none z hn)]; exact un.frzs c o v (by rw [upd_ne (ne_of_none z hn)]; exact z)
    · exact fun c ps z => by rw [del_ne (ne_of_none z hn)]; exact un.tbls c ps (by rw [upd_ne (ne_of_none z hn)]; exact z)
  have hok3 : HOk X.prog X.w (del H2 a) G := fun c o z => by
    have hca : c ≠ a := fun e => by rw [e, del_same] at z; cases z
    rw [del_ne hca] at z
    have noa : ∀ {b : Addr}, H2 b = some (.own c) → b ≠ a := fun {b} hb => at_ne ea hb exo_own
    refine (hok c o z).stay (fun b v hb y => ?_) (fun b hb => ?_) (fun b xs hb => ?_)
    · have hba : b ≠ a := by
        rcases hb with hb | hb
        · rw [hb]; exact hca
        · exact noa hb
      rw [gk b hba]
      exact y
    · rw [del_ne (noa hb)]; exact hb
    · rw [del_ne (at_ne ea hb exo_tup)]; exact hb
  have J : Inv X pins σ (del H2 a) ⟨G, g2, d2, t2, os2⟩ := I1.call' (ch := []) ho U hok3 hb (fun c z => absurd z (by simp))
  refine ⟨a, _, _, ⟨G, g2, d2, t2, os2⟩, _, .ref C, none, rfl, J, fun c o z => ?_, ge, hoe, ⟨rfl, rfl⟩, rfl, rfl, del_same, rfl, hb, T, q⟩
  by_cases hca : c = a
  · rw [hca, ge] at z
    cases z
  · exact (gk c hca).symm.trans z
theorem le_new {H H2 : Hp} {a : Addr} {o : HO} (hn : H a = none) (le : Le (upd H a o) H2) : Le H (del H2 a) := fun c v e => by
  have hc : c ≠ a := fun z => by rw [z, hn] at e; cases e
  rw [del_ne hc]
  exact le c v (by rw [upd_ne hc]; exact e)
/-- what of a class's __init__ is needed -/
structure MkC (X : Cx) (eb : EBase) (C fI : Addr) (fd : FuncData) (ps : List Str) (sp : L2.Sp) : Prop where
  T : ExC X.K eb C
  iC : PySem.W.findIn X.K (.ref C) "__init__" = some (some (.ref fI))
  tI : PySem.W.typeIn X.K (.ref fI) = some (.type "function")
  F1 : FnOk X.prog X.w X.K X.mg X.base (L2.CX X.prog X.w) 1 fI fd ps sp
  hb : Binds X.K fd ps []
/-- C called: its __init__ runs -/
theorem mk_call {pins : List (Addr × Obj)} {σ : L2.St} {H1 : Hp} {Q : XK} {C fI : Addr} {fd : FuncData} {ps : List Str} {sp : L2.Sp} {hp : Heap} {g : Array GenState} {dr : Drawn} {tk : Nat} {os : OsState} {us : List Value} {vs : List V} (M : MkC X eb C fI fd ps sp) (hr : Room 2 X.A) (I1 : Inv X pins σ H1 ⟨hp, g, dr, tk, os⟩) (r1 : Vals vs us) (hz : vs.length ≤ 1000)
    (q1 : ∀ a, H1 a = none → sp (.ref a :: vs) (upd H1 a (exo a C none)) (fun v H2 => v = .non ∧ ((H2 a = some (exo a C none) ∧ Q (.ref C) none (del H2 a)) ∨ ∃ (d : Addr) (fs : List (Str × V)), H2 a = some (exo a C (some d)) ∧ H2 d = some (exd d fs) ∧ H1 d = none ∧ Q (.ref C) (some d) (upd (del H2 a) d (.xd fs)))) (fun _ _ _ => False)) :
    wpAny (model X.prog X.w) X.A (call (.ref C) us) (MkP X pins σ Q) X.xe ⟨hp, g, dr, tk, os⟩ := by
  obtain ⟨nm, q, N, bs, bm, sn, sub, ab, col, dd, k0, k1, k2, k3, k5, hC, hbm⟩ := M.T.cls
  have hsz : hp.objs.size ≤ hp.objs.size + 1 := Nat.le_succ _
  have hn : H1 (hp.objs.size + 1) = none := I1.hok.fresh hsz
  have hq := q1 (hp.objs.size + 1) hn
  have kk : ∀ c o, hp.get? c = some o → ((hp.push (PySem.W.kdv_tup us)).push (PySem.HandSPX.excO C hp.objs.size)).get? c = some o := fun c o e => Heap.get?_push_of_some _ (Heap.get?_push_of_some _ e)
  have hget : ((hp.push (PySem.W.kdv_tup us)).push (PySem.HandSPX.excO C hp.objs.size)).get? (hp.objs.size + 1) = some (PySem.HandSPX.excO C hp.objs.size) := by heap_get
  have I2 : Inv X pins σ (upd H1 (hp.objs.size + 1) (exo (hp.objs.size + 1) C none)) ⟨(hp.push (PySem.W.kdv_tup us)).push (PySem.HandSPX.excO C hp.objs.size), g, dr, tk, os⟩ :=
    I1.laid (t' := tk) (a := hp.objs.size + 1) (o := exo (hp.objs.size + 1) C none) (h' := (hp.push (PySem.W.kdv_tup us)).push (PySem.HandSPX.excO C hp.objs.size)) kk hsz (exo_ok hget)
  have r2 : Vals (V.ref (hp.objs.size + 1) :: vs) (Value.ref (hp.objs.size + 1) :: us) := .cons rfl r1
  have hl : (Value.ref (hp.objs.size + 1) :: us ++ []).length = ps.length := by
    rw [List.append_nil]
    have e := r2.length
    rw [M.F1.len _ _ _ _ hq] at e
    exact e.symm
  have hus : us.length ≤ sizeLine := by
    rw [← Paired.length r1, sizeLine_eq]
    omega
  have bd := M.hb ⟨(hp.push (PySem.W.kdv_tup us)).push (PySem.HandSPX.excO C hp.objs.size), g, dr, tk, os⟩ (Value.ref (hp.objs.size + 1) :: us) I2.kIn hl
  rw [List.append_nil] at bd
  refine wpAny_call (PySem.HandSPX.call_own M.T.ok.ex (fun Y => tailB_has Y bm hbm) (I1.kIn _ _ hC) (PySem.W.looks_findIn I1.kIn M.iC) (fun self => PySem.W.bind_fn I1.kIn self M.tI) hus
    (codeAny_mono (M.F1.run _ X.stack _ _ ⟨Value.ref (hp.objs.size + 1) :: us, []⟩ (Value.ref (hp.objs.size + 1) :: us) _ _ (fun _ _ _ => False) (hr.make C us []) (I2.env0.make C us []) bd r2 hq) fun r s2 hq2 => ?_))
  cases r with
  | error er => exact passAt (W := fun _ _ _ _ => False) takes0 σ _ _ _ er s2 I2 hq2
  | ok fl =>
    cases fl with
    | ret u =>
      obtain ⟨v, H2, os2, bare2, un2, hok2, rv, ev, z⟩ := hq2
      subst ev
      obtain ⟨h2, g2, d2, t2, osB⟩ := s2
      rcases z with ⟨ea, q2⟩ | ⟨d, fs, ea, ed, hd1, q2⟩
      · exact ⟨rv, mk_endN (raises_own M.T.exC M.T.tyC) I1 hsz kk un2 hok2 os2 bare2 ea q2⟩
      · exact ⟨rv, mk_end (raises_own M.T.exC M.T.tyC) I1 hsz kk un2 hok2 os2 bare2 ea ed hd1 q2⟩
    | next => exact False.elim hq2
    | brk => exact False.elim hq2
    | cont => exact False.elim hq2
end
end MS

set_option Elab.async false
set_option linter.all false
set_option maxRecDepth 100000
set_option maxHeartbeats 4000000
/-! MUF: raise C(..); try: .. except C: .. -/
namespace MS
open PySem PySem.Spec PyProof.Rows L2
section
variable {Γ : Run} {X : Cx} {C : Cl} {eb : EBase} {D CA fI : Addr} {fd : FuncData} {ps : List Str} {p pos pos' : Pos} {x : Str}
theorem pmk_N (M : MkC X eb CA fI fd ps (spN X.K eb D)) (c1 : SupE X.K eb CA D) (hr : Room 2 X.A) (hg : Gl X x) (hm : X.mg x = some (.ref CA)) (hdb : (x == ("__debug__" : Str)) = false) :
    PMk X (.Call (.Name x p) [] [] pos) (fun _ H Q => ∀ H3, Le H H3 → Q (.ref CA) none H3) := by
  intro pins s σ H Q I h
  refine wpAny_Call_Name_kw (ld_glob I hg hm ?_ hdb)
  refine PySem.W.callWith_K0 I.kIn M.T.kC ?_
  obtain ⟨hp, g, dr, tk, os⟩ := s
  refine mk_call (vs := []) (us := []) M hr I .nil (Nat.zero_le _) fun a hn => ⟨a, CA, rfl, upd_same, M.T, c1, fun H2 le => ⟨rfl, .inl ⟨le _ _ upd_same, h _ (le_new hn le)⟩⟩⟩
theorem pmk_W {e : Expr} {ta : TA} (M : MkC X eb CA fI fd ps (spW X.K eb D)) (c1 : SupE X.K eb CA D) (hno : PySem.W.findIn X.K (.ref CA) "name" = some none) (hr : Room 2 X.A) (hg : Gl X x) (hm : X.mg x = some (.ref CA)) (ha : PA X [e] ta) (hst : stB e = false) (hdb : (x == ("__debug__" : Str)) = false) :
    PMk X (.Call (.Name x p) [e] [] pos) (fun σ H Q => ta σ H fun vs H1 => ∃ z : Str, vs = [.str z] ∧ z.length ≤ 100000 ∧ (reprText z).length ≤ 1000000 ∧ ∀ H3 d, Le H1 H3 → H3 d = some (.xd [("name", .str z)]) → Q (.ref CA) (some d) H3) := by
  intro pins s σ H Q I h
  refine wpAny_Call_Name_kw (ld_glob I hg hm ?_ hdb)
  refine PySem.W.callWith_K (h₀ := X.base) I.ok.mod.kin M.T.kC (thn (ha.run pos pins s σ H _ (I.tok _) h) fun us s1 ⟨vs, H1, I1, r1, z, ev, hz1, hz2, q⟩ => ⟨I1.kIn, ?_⟩) (star_cons hst) rfl
  subst ev
  show wpAny _ _ (call (.ref CA) us) _ _ _
  obtain ⟨hp, g, dr, tk, os⟩ := s1
  refine mk_call M hr I1 r1 (show 1 ≤ 1000 by decide) fun a hn => ⟨a, CA, z, rfl, hz1, hz2, upd_same, M.T, c1, hno, fun H2 d le n ne => ⟨rfl, .inr ⟨d, [("name", .str z)], upd_same, ?_, ?_, ?_⟩⟩⟩
  · rw [upd_ne ne, upd_same]
  · cases e1 : H1 d with
    | none => rfl
    | some o => rw [le d o (by rw [upd_ne ne]; exact e1)] at n; cases n
  · refine q _ d (fun c v e1 => ?_) upd_same
    have hca : c ≠ a := fun t => by rw [t, hn] at e1; cases e1
    have e2 := le c v (by rw [upd_ne hca]; exact e1)
    have hcd : c ≠ d := fun t => by rw [t, n] at e2; cases e2
    rw [upd_ne hcd, del_ne hca, upd_ne hca, upd_ne hcd]
    exact e2
theorem ss_raiN {c : Nat} (hc : X.calm = true) (M : MkC X eb (Γ.xA c) fI fd ps (spN X.K eb D)) (c1 : SupE X.K eb (Γ.xA c) D) (hr : Room 2 X.A) (hg : Gl X x) (hm : X.mg x = some (.ref (Γ.xA c))) (hdb : (x == ("__debug__" : Str)) = false) :
    SS Γ X (.Raise (some (.Call (.Name x p) [] [] pos)) none pos') (exS C (.rai c none)) := by
  intro W tk
  refine PS.imp (ps_raise hc tk (pmk_N M c1 hr hg hm hdb)) ?_
  rintro Ds σ H ⟨loc, s, R, L, A⟩ H3 le
  have A : ∀ s' H', s'.hp = s.hp → Ext s s' → Rel Γ s' H' → ∀ σ, Locs Γ s' loc σ → XW Γ W σ ⟨c, none⟩ s' H' := A
  exact A s H3 rfl (Ext.refl s) (R.le le) σ L _ _ ⟨rfl, True.intro⟩
theorem ss_raiW {c : Nat} {e : Expr} {m : E} (hc : X.calm = true) (M : MkC X eb (Γ.xA c) fI fd ps (spW X.K eb D)) (c1 : SupE X.K eb (Γ.xA c) D) (hno : PySem.W.findIn X.K (.ref (Γ.xA c)) "name" = some none) (hr : Room 2 X.A) (hg : Gl X x) (hm : X.mg x = some (.ref (Γ.xA c)))
    (he : SE Γ X e (evE C m)) (hst : stB e = false) (hdb : (x == ("__debug__" : Str)) = false) : SS Γ X (.Raise (some (.Call (.Name x p) [e] [] pos)) none pos') (exS C (.rai c (some m))) := by
  intro W tk
  refine PS.imp (ps_raise hc tk (pmk_W M c1 hno hr hg hm (sa_cons he sa_nil hst W tk) hst hdb)) ?_
  rintro Ds σ H ⟨loc, s, R, L, A⟩
  simp only [exS] at A
  have A1 := A.thenE L
  refine ⟨loc, s, R, L, ?_⟩
  have eq : evEs C [m] loc s.hp = (match evE C m loc s.hp with | .ok v h => .ok [v] h | .exc e h => .exc e h | .bad => .bad) := by
    show MH.bind (evE C m loc) (fun v => MH.bind (evEs C [] loc) fun vs => (pure (v :: vs) : MH (List Val))) s.hp = _
    unfold MH.bind
    cases evE C m loc s.hp <;> rfl
  rw [eq]
  cases ev : evE C m loc s.hp with
  | bad => rw [ev] at A1; exact A1.elim
  | exc y h1 => rw [ev] at A1; exact A1
  | ok v h1 =>
    rw [ev] at A1
    intro s1 H1 e1 x1 R1 us rs
    have A2 := A1 s1 H1 e1 x1 R1
    cases rs with
    | @cons _ u _ ur r0 rr =>
      cases rr
      cases v with
      | ref n => exact A2.elim
      | t y =>
        cases y with
        | str z =>
          have A2 : AfterS Γ s1 (if z.length ≤ 100000 ∧ (reprText z).length ≤ 1000000 then .exc ⟨c, some (.str z)⟩ loc s1.hp else .bad) W Ds := A2
          split at A2
          · rename_i hz
            refine ⟨z, by rw [rv_str.mp r0], hz.1, hz.2, fun H3 d le ed => ?_⟩
            exact A2 s1 H3 rfl (Ext.refl s1) (R1.le le) σ (L.ext x1) _ _ ⟨rfl, d, z, rfl, rfl, ed⟩
          · exact A2.elim
        | _ => exact A2.elim
/-! ### try -/
/-- a constant -/
inductive KonE : Expr → T → V → Prop where
  | non {j : Nat} {q : Pos} : KonE (.Constant .none j q) .non .non
  | bl {b : Bool} {j : Nat} {q : Pos} : KonE (.Constant (.bool b) j q) (.bl b) (.bl b)
  | int {i : Int} {j : Nat} {q : Pos} : KonE (.Constant (.int i) j q) (.int i) (.int i)
  | str {z : Str} {j : Nat} {q : Pos} : KonE (.Constant (.str z) j q) (.str z) (.str z)
theorem KonE.pe {e : Expr} {y : T} {v : V} (h : KonE e y v) {X : Cx} : PE X e (tC v) := by
  cases h
  · exact pe_non
  · exact pe_bl
  · exact pe_int
  · exact pe_str
theorem KonE.rt {e : Expr} {y : T} {v : V} (h : KonE e y v) {F : Hp} : RT Γ F y v := by
  cases h <;> simp only [RT]
theorem KonE.sw {e : Expr} {y : T} {v : V} (h : KonE e y v) {z : Str} {p1 : Pos} {n : Nat} {env : Env} : swapsWith e (some (.Name z p1)) n env = pure false := by
  cases h <;> rfl
theorem ss_try {b : List Stmt} {m : List S} {c i : Nat} {y xn : Str} {e : Expr} {k : T} {v : V} {np p1 p2 q1 : Pos} (hk : KonE e k v) (hN : X.N.Nodup) (hi : X.N[i]? = some y) (hx : L2.Loc X.env.scope y) (hf : X.fn y = true ∨ X.env.scope.names.lookup y = some .local)
    (hs : X.stack = X.env :: X.outer) (hfr : X.env.frame = some X.env.locals) (hc : Names X xn (.ref (Γ.xA c))) (hxm : ∀ d, PySem.W.exmOne X.K (.ref (Γ.xA d)) (.ref (Γ.xA c)) = some (C.xi d c))
    (hb : ∀ (pn : List (Addr × Obj)) (xe : Value → Shared → Prop), PassesOwn (model X.prog X.w) X.A X.env xe → SSs Γ (X.tr pn xe) b (exSs C m)) :
    SS Γ X (.Try b [.ExceptHandler (some (.Name xn np)) none [.Assign [.Name y p1] e p2] q1] [] [] pos) (exS C (.tryx m [(c, .set i k)])) := by
  intro W tk
  refine PS.imp (ps_try_only (tb := fun W => tS Γ (exSs C m) W) (ts := fun _ _ _ => _) hs hfr hc tk (fun W pn xe tk po => hb pn xe po W tk) (fun a oe cls d pn _ _ => pss_one (ps_set (X := X.suite a ((a, oe) :: pn)) (i := i) hN hi hx hk.pe hk.sw hf))) ?_
  rintro Ds σ H ⟨loc, s, R, L, A⟩
  simp only [exS] at A
  refine ⟨loc, s, R, L, ?_⟩
  cases ev : exSs C m loc s.hp with
  | bad => rw [ev] at A; exact A.elim
  | ok f h1 => rw [ev] at A; exact A
  | exc ex l h1 =>
    rw [ev] at A
    have A : AfterS Γ s (hdsM C.xi [(c, .set i k)] ex l h1) W Ds := A
    intro s1 H1 e1 x1 R1 σ1 L1 cls d hx1
    obtain ⟨ec, _⟩ := id hx1
    subst ec
    refine ⟨_, hxm ex.c, fun q a ha => ?_, fun q => ?_⟩
    · unfold hdsM at A
      rw [List.find?_cons, show C.xi ex.c (c, Hd.set i k).1 = true from q] at A
      have A : AfterS Γ s (.ok (.nx (l.set i (some (.t k)))) h1) W Ds := A
      exact A s1 H1 e1 x1 R1 _ (L1.set i (v := .t k) hk.rt)
    · unfold hdsM at A
      rw [List.find?_cons, show C.xi ex.c (c, Hd.set i k).1 = false from q] at A
      have A : AfterS Γ s (.exc ex l h1) W Ds := A
      exact A s1 H1 e1 x1 R1 σ1 L1 _ d hx1
theorem pss_ex {A : Type} {P : A → Prop} {st : List Stmt} {t : A → TS} (h : ∀ a, P a → PSs X st (t a)) : PSs X st (fun Ds σ H => ∃ a, P a ∧ t a Ds σ H) :=
  ⟨fun pins s σ H Ds I ⟨a, hp, q⟩ => (h a hp).run pins s σ H Ds I q⟩
theorem ss_tryN {b : List Stmt} {m : List S} {c i ie : Nat} {y xn n z : Str} {j : Nat} {np p1 p2 q1 q2 q3 q4 q5 : Pos} (hN : X.N.Nodup) (hi : X.N[i]? = some y) (hx : L2.Loc X.env.scope y) (hf : X.fn y = true ∨ X.env.scope.names.lookup y = some .local)
    (hie : X.N[ie]? = some n) (hln : X.env.kindOf n = some .local) (hvn : Vis X.env.scope n) (hne : i ≠ ie) (hdn : (n == ("__debug__" : Str)) = false) (hcn : (n == ("__classdict__" : Str)) = false)
    (hs : X.stack = X.env :: X.outer) (hfr : X.env.frame = some X.env.locals) (hc : Names X xn (.ref (Γ.xA c))) (hxm : ∀ d, PySem.W.exmOne X.K (.ref (Γ.xA d)) (.ref (Γ.xA c)) = some (C.xi d c))
    (hxf : ∀ d, C.xi d c = true → XfC X.K (Γ.xA d) ∧ PySem.W.findIn X.K (.ref (Γ.xA d)) "name" = some none)
    (hb : ∀ (pn : List (Addr × Obj)) (xe : Value → Shared → Prop), PassesOwn (model X.prog X.w) X.A X.env xe → SSs Γ (X.tr pn xe) b (exSs C m)) :
    SS Γ X (.Try b [.ExceptHandler (some (.Name xn np)) (some n) [.Assign [.Name y p1] (.BinOp (.Constant (.str z) j q2) .Add (.Attribute (.Name n q3) "name" q4) q5) p2] q1] [] [] pos) (exS C (.tryx m [(c, .setn i ie z)])) := by
  intro W tk
  refine PS.imp (ps_try_as (tb := fun W => tS Γ (exSs C m) W) (ts := fun a cls d Ds σ H => ∃ d0, (cls = Value.ref (Γ.xA d0) ∧ C.xi d0 c = true) ∧ tSeq (tAsg (tOp (fun x y H Q => ∃ i j, x = .str i ∧ y = .str j ∧ i.length + j.length ≤ sizeLine ∧ Q (.str (i ++ j)) H) (tC (.str z)) (tXf a cls d (Γ.xA d0) "name" (tVar ie))) (gName i)) tNext Ds σ H) hs hfr hN hie hln hc tk (fun W pn xe tk po => hb pn xe po W tk) (fun a oe cls d pn hz hfd => pss_ex fun d0 hd0 => ?_)) ?_
  · obtain ⟨T, hno⟩ := hxf d0 hd0.2
    exact pss_cons (ps_set (X := X.suite a ((a, oe) :: pn)) (i := i) hN hi hx (pe_op op_add_str pe_str (pe_xf T hno hz hfd (pe_var (X := X.suite a ((a, oe) :: pn)) hie hvn hdn hcn))) rfl hf) pss_nil
  rintro Ds σ H ⟨loc, s, R, L, A⟩
  simp only [exS] at A
  refine ⟨loc, s, R, L, ?_⟩
  cases ev : exSs C m loc s.hp with
  | bad => rw [ev] at A; exact A.elim
  | ok f h1 => rw [ev] at A; exact A
  | exc ex l h1 =>
    rw [ev] at A
    have A : AfterS Γ s (hdsM C.xi [(c, .setn i ie z)] ex l h1) W Ds := A
    intro s1 H1 e1 x1 R1 σ1 L1 cls d hx1
    obtain ⟨ec, hx2⟩ := id hx1
    subst ec
    refine ⟨_, hxm ex.c, fun q a ha => ?_, fun q => ?_⟩
    · unfold hdsM at A
      rw [List.find?_cons, show C.xi ex.c (c, Hd.setn i ie z).1 = true from q] at A
      have A : AfterS Γ s (match cat z ex.a, l[ie]? with | some x, some none => .ok (.nx (l.set i (some (.t x)))) h1 | _, _ => .bad) W Ds := A
      obtain ⟨exc, exa⟩ := ex
      dsimp only at A hx2 q ⊢
      cases exa with
      | none => exact A.elim
      | some x0 =>
        obtain ⟨dd, zz, rfl, rfl, hdd⟩ := hx2
        have A : AfterS Γ s (match (if z.length + zz.length ≤ SL then some (T.str (z ++ zz)) else none), l[ie]? with | some x, some none => .ok (.nx (l.set i (some (.t x)))) h1 | _, _ => .bad) W Ds := A
        by_cases hz : z.length + zz.length ≤ SL
        · rw [if_pos hz] at A
          cases hle : l[ie]? with
          | none => rw [hle] at A; exact A.elim
          | some o =>
            rw [hle] at A
            cases o with
            | some _ => exact A.elim
            | none =>
              have A : AfterS Γ s (.ok (.nx (l.set i (some (.t (.str (z ++ zz)))))) h1) W Ds := A
              have hil : ie < l.length := (List.getElem?_eq_some_iff.mp hle).1
              refine ⟨exc, ⟨rfl, q⟩, ?_⟩
              refine ⟨.ref a, List.getElem?_set_self (by rw [← L1.len]; exact hil), rfl, rfl, dd, _, .str zz, rfl, hdd, rfl, z, zz, rfl, rfl, hz, ?_⟩
              refine A s1 H1 e1 x1 R1 _ ?_
              have L2' := L1.set i (v := .t (.str (z ++ zz))) (u := .str (z ++ zz)) (rv_str.mpr rfl)
              refine ⟨by simp [L2'.len], fun k v hk => ?_⟩
              obtain ⟨u, hu, ru⟩ := L2'.at_ k v hk
              refine ⟨u, ?_, ru⟩
              have hke : k ≠ ie := fun t => by
                rw [t, List.getElem?_set_ne hne, hle] at hk
                cases hk
              rw [List.getElem?_set_ne (Ne.symm hke)]
              by_cases hki : k = i
              · rw [hki] at hu ⊢
                have hlt : i < σ1.length := by
                  have := (List.getElem?_eq_some_iff.mp hu).1
                  rw [List.length_set] at this
                  exact this
                rw [List.getElem?_set_self hlt] at hu
                rw [List.getElem?_set_self (by rw [List.length_set]; exact hlt)]
                exact hu
              · rw [List.getElem?_set_ne (Ne.symm hki)] at hu ⊢
                rw [List.getElem?_set_ne (Ne.symm hke)]
                exact hu
        · rw [if_neg hz] at A
          exact A.elim
    · unfold hdsM at A
      rw [List.find?_cons, show C.xi ex.c (c, Hd.setn i ie z).1 = false from q] at A
      have A : AfterS Γ s (.exc ex l h1) W Ds := A
      exact A s1 H1 e1 x1 R1 σ1 L1 _ d hx1
end
end MS

set_option Elab.async false
set_option linter.all false
set_option maxRecDepth 100000
/-! MVA: comprehensions that let exceptions out. -/
namespace MS
open PySem PySem.Spec PyProof.Rows L2
section
variable {Γ : Run} {X : Cx} {C : Cl} {I : Info} {k : Nat} {pos p apos cpos : Pos}
def InX (X : Cx) (scope : Scope) (P : Cx → Prop) : Prop := ∀ (s : Shared) (H : Hp) (D : Addr) (cl : List (Str × Addr)) (fp : List Addr) (xe : Value → Shared → Prop), P (blkX X s H scope (compEnvC scope cl D X.env) fp xe)
def SPX (Γ : Run) (X : Cx) (ifs : List Expr) (m : Loc → MH Bool) : Prop := ∀ W, Takes X W → PTs X ifs (tT Γ m W)
theorem spx_nil : SPX Γ X [] (evTs C []) := fun W tk => by
  refine ⟨fun pins s σ H Q J h => pts_nil.run pins s σ H Q J ?_⟩
  obtain ⟨loc, s, R, L, A⟩ := h
  simp only [evTs] at A
  exact After.ok R A
theorem spx_one {c : Expr} {m : E} (h : ST Γ X c (evT C m)) : SPX Γ X [c] (evTs C [m]) := fun W tk => by
  have e : evTs C [m] = evT C m := by funext loc; simp only [evTs]
  rw [e]
  exact pts_one (h W tk)
theorem te_lcx {b m : Bool} {own : List Nat} {tg : Tg} {it : It} {ifs : List E} {e : E} (hown : ∀ i ∈ tg.ix, i ∈ own) {W : WX} {σ : L2.St} {H : Hp} {Q : VK} (h : tE Γ (evE C (.lcx m own tg it ifs e)) W σ H Q) :
    tLc (tI Γ b (evIt C it) W) (tG Γ b tg) (tT Γ (evTs C ifs) (wB W σ)) (tE Γ (evE C e) (wB W σ)) own σ H Q := by
  obtain ⟨loc, s, R, L, A⟩ := h
  have A : After Γ s (MH.bind (evIt C it loc) (fun xs => if xs.length ≤ SL then MH.bind (lcM (asg tg) (wipeL loc own) (evTs C ifs) (evE C e) xs) fun vs => keep m vs else bad) s.hp) (fun v s' H' => ∀ u, RV Γ s'.F s'.ρ v u → Q u H') (XW Γ W σ) := A
  refine ⟨loc, s, R, L, A.bind.imp (fun xs s1 H1 x1 R1 A1 J hw => ?_) (fun _ _ _ _ _ q => q)⟩
  split at A1
  · rename_i hz
    exact lc_walk (E := XW Γ W σ) (W' := wB W σ) R1 (L.ext x1) hw hz hown A1 fun x s' H' q σ' cls d hx => q cls d hx
  · exact A1.elim
structure LcX (Γ : Run) (X : Cx) (C : Cl) (b : Bool) (scope : Scope) (own : List (Str × Nat)) (tg : Tg) (it : It) (ifs : List E) (e : E) (et ei ee : Expr) (efs : List Expr) : Prop where
  hi : SI Γ X b et ei (evIt C it)
  ok : BlkOk X.N X.env.scope scope own
  hg : InX X scope fun Y => SG Γ Y b et tg
  ht : InX X scope fun Y => SPX Γ Y efs (evTs C ifs)
  he : InX X scope fun Y => SE Γ Y ee (evE C e)
  hown : ∀ i ∈ tg.ix, i ∈ own.map (·.2)
/-- one stands in a def, not in a block of it -/
structure TopX (X : Cx) : Prop where
  stk : X.stack = X.env :: X.outer
  frm : X.env.frame = some X.env.locals
theorem Ctx.blkX (T : Ctx Γ X C I k) (s : Shared) (H : Hp) (scope : Scope) (env : Env) (fp : List Addr) (xe : Value → Shared → Prop) : Ctx Γ (blkX X s H scope env fp xe) C I k :=
  ⟨T.hK, T.room, T.calm, ⟨T.fn.fn, T.fn.no, T.fn.len⟩, ⟨T.nw.fn, T.nw.no, T.nw.len⟩, T.mth, T.mfl, T.mps, T.ini, T.cls, T.nf, T.mN0, T.mN1, T.ne, T.kit, T.ca, T.cg, T.ct, T.ob, T.lv, T.inp, T.xk⟩
theorem LcX.se {b m : Bool} {scope : Scope} {own : List (Str × Nat)} {tg : Tg} {it : It} {ifs : List E} {e : E} {et ei ee : Expr} {efs : List Expr} (h : LcX Γ X C b scope own tg it ifs e et ei ee efs) (hc : X.calm = true) (hN : X.N.Nodup) (t : TopX X) :
    SE Γ X (.ListComp ee [⟨et, ei, efs, 0⟩] scope pos) (evE C (.lcx m (own.map (·.2)) tg it ifs e)) := by
  intro W tk
  exact PE.imp (pe_lcX (tt := fun W => tT Γ (evTs C ifs) W) (te := fun W => tE Γ (evE C e) W) hc hN t.stk t.frm tk (h.hi.1 W tk) h.ok h.hg (fun s H D cl fp xe W' tk' => h.ht s H D cl fp xe W' tk') (fun s H D cl fp xe W' tk' => h.he s H D cl fp xe W' tk') h.hi.2) fun σ H Q q => te_lcx h.hown q
theorem LcX.ss {b m : Bool} {scope : Scope} {own : List (Str × Nat)} {tg : Tg} {it : It} {ifs : List E} {e : E} {et ei ee : Expr} {efs : List Expr} {i : Nat} {y : Str} {py spos : Pos} (h : LcX Γ X C b scope own tg it ifs e et ei ee efs) (hc : X.calm = true) (hN : X.N.Nodup) (t : TopX X) (hk : X.env.scope.kind = .function) (hy : X.N[i]? = some y) (hyl : X.env.scope.names.lookup y = some .local) (hw : swC X.env.scope scope y py pos = true) :
    SS Γ X (.Assign [.Name y py] (.ListComp ee [⟨et, ei, efs, 0⟩] scope pos) spos) (exS C (.set i (.lcx m (own.map (·.2)) tg it ifs e))) := by
  intro W tk
  unfold swC at hw
  rw [Bool.and_eq_true, Bool.not_eq_true'] at hw
  exact PS.imp (ps_setLcX (tt := fun W => tT Γ (evTs C ifs) W) (te := fun W => tE Γ (evE C e) W) hc hN t.stk t.frm tk hy hyl (sw_true hk hyl hw.1 hw.2) (h.hi.1 W tk) h.ok h.hg (fun s H D cl fp xe W' tk' => h.ht s H D cl fp xe W' tk') (fun s H D cl fp xe W' tk' => h.he s H D cl fp xe W' tk') h.hi.2) fun D σ H q => te_lcx h.hown (te_set q)
end
end MS

set_option Elab.async false
set_option linter.all false
set_option maxRecDepth 100000
/-! MVB: match. -/
namespace MS
open PySem PySem.Spec PyProof.Rows L2
section
variable {Γ : Run} {X : Cx} {C : Cl} {I : Info} {k : Nat} {pos p apos cpos : Pos}
inductive PtC : Str → Pattern → Prop where
  | mk {z : Str} {j : Nat} {p q : Pos} : PtC z (.MatchValue (.Constant (.str z) j p) q)
inductive PtS (X : Cx) (i0 : Nat) : PtI → Pattern → Prop where
  | val {z : Str} {pt : Pattern} (h : PtC z pt) : PtS X i0 (.str [z]) pt
  | or {ss : List Str} {ps : List Pattern} {q : Pos} (h : Paired PtC ss ps) : PtS X i0 (.str ss) (.MatchOr ps q)
  | cap {i : Nat} {n : Str} {q : Pos} (hN : X.N[i]? = some n) (hl : L2.Loc X.env.scope n) (hf : X.fn n = true ∨ X.env.scope.names.lookup n = some .local) (hi : i ≠ i0) : PtS X i0 (.cap i) (.MatchAs none (some n) q)
theorem PtS.star {i0 : Nat} {a : PtI} {b : Pattern} (h : PtS X i0 a b) : b.isStar = false := by
  cases h with
  | val h => cases h; rfl
  | or h => rfl
  | cap _ _ _ _ => rfl
/-- what is kept, by name -/
def Bd (Γ : Run) (X : Cx) (i0 : Nat) (F : Hp) : List (Nat × T) → List (Str × Value) → Prop := Paired fun p q => X.N[p.1]? = some q.1 ∧ L2.Loc X.env.scope q.1 ∧ (X.fn q.1 = true ∨ X.env.scope.names.lookup q.1 = some .local) ∧ p.1 ≠ i0 ∧ ∃ v, RT Γ F p.2 v ∧ RelV v q.2
section
variable {pins : List (Addr × Obj)} {σ : L2.St} {H : Hp} {S : Shared} {E : Value → Shared → Prop}
theorem pt_val {s z : Str} {u : Value} {pt : Pattern} {Q : Option (List (Str × Value)) → Shared → Prop} (hp : PtC z pt) (J : Inv X pins σ H S) (ru : RelV (.str s) u) (h : ∀ S', Inv X pins σ H S' → Q (if decide (s = z) then some [] else none) S') :
    wpAny (model X.prog X.w) X.A (matchPattern pt X.env u) Q X.xe S := by
  cases hp with
  | mk =>
    refine wpAny_matchPattern_Value (thn ((pe_str (X := X) (x := z)).run pins S σ H (fun v H' => v = .str z ∧ H' = H) J ⟨rfl, rfl⟩) fun c s1 ⟨v, H1, J1, rc, ev, eh⟩ => ?_)
    subst ev eh
    refine thn (op_eq pins s1 σ H1 (.str s) (.str z) u c (fun w H' => w = .bl (decide ((V.str s) = .str z)) ∧ H' = H1) J1 ru rc ⟨rfl, rfl, rfl⟩) fun d s2 ⟨w, H2, J2, rd, ew, eh⟩ => ?_
    subst ew eh
    cases rd
    refine wpAny_truthy_bool ?_
    have e : decide (V.str s = .str z) = decide (s = z) := by by_cases q : s = z <;> simp [q]
    rw [e]
    have := h s2 J2
    cases q : decide (s = z) <;> rw [q] at this <;> exact this
theorem pt_or {s : Str} {u : Value} : ∀ {ss : List Str} {ps : List Pattern} {S : Shared} {Q : Option (List (Str × Value)) → Shared → Prop}, Paired PtC ss ps → Inv X pins σ H S → RelV (.str s) u → (∀ S', Inv X pins σ H S' → Q (if ss.any (fun z => decide (s = z)) then some [] else none) S') →
    wpAny (model X.prog X.w) X.A (matchFirst ps X.env u) Q X.xe S
  | _, _, S, Q, .nil, J, ru, h => wpAny_matchFirst_nil (h S J)
  | z :: ss, _, S, Q, .cons hp hr, J, ru, h => by
    refine wpAny_matchFirst_cons (pt_val hp J ru fun S1 J1 => ?_)
    cases q : decide (s = z) with
    | true =>
      have := h S1 J1
      rw [List.any_cons, q] at this
      exact this
    | false =>
      refine pt_or hr J1 ru fun S2 J2 => ?_
      have := h S2 J2
      rw [List.any_cons, q] at this
      exact this
theorem each_ok {i0 : Nat} {F : Hp} : ∀ {ps : List PtI} {pats : List Pattern} {xs : List T} {vs : List V} {us : List Value} {S : Shared} {r : Option (List (Nat × T))} {Q : Option (List (Str × Value)) → Shared → Prop}, Paired (PtS X i0) ps pats → RTs Γ F xs vs → Vals vs us → ptI ps xs = some r → Inv X pins σ H S →
    (∀ S', Inv X pins σ H S' → match (generalizing := false) r with | none => Q none S' | some bs => ∀ nb, Bd Γ X i0 F bs nb → Q (some nb) S') → wpAny (model X.prog X.w) X.A (matchEach pats X.env us) Q X.xe S
  | [], _, [], vs, us, S, r, Q, .nil, rs, rv, e, J, h => by
    cases e
    exact wpAny_matchEach_nil (h S J [] .nil)
  | [], _, _ :: _, vs, us, S, r, Q, .nil, rs, rv, e, J, h => by cases e
  | a :: ps, _, [], vs, us, S, r, Q, .cons hp hr, rs, rv, e, J, h => by cases a <;> cases e
  | a :: ps, _, x :: xs, vs, us, S, r, Q, .cons (b := b) hp hr, rs, rv, e, J, h => by
    simp only [RTs] at rs
    obtain ⟨v, vr, rfl, rx, rs⟩ := rs
    cases rv with
    | @cons _ u _ ur r0 rr =>
      refine wpAny_matchEach_cons ?_ hp.star
      cases hp with
      | @val z _ hc =>
        cases x with
        | str s =>
          have e : (if [z].any (fun z => decide (s = z)) then ptI ps xs else some none) = some r := e
          rw [rt_str] at rx
          subst rx
          refine pt_val hc J r0 fun S1 J1 => ?_
          rw [List.any_cons, List.any_nil, Bool.or_false] at e
          cases q : decide (s = z) with
          | true =>
            rw [q, if_pos rfl] at e
            refine each_ok hr rs rr e J1 fun S2 J2 => ?_
            have := h S2 J2
            cases r with
            | none => exact this
            | some bs => exact fun nb hb => this nb hb
          | false =>
            rw [q, if_neg Bool.false_ne_true] at e
            cases e
            exact h S1 J1
        | _ => cases e
      | @or ss pp q hc =>
        cases x with
        | str s =>
          have e : (if ss.any (fun z => decide (s = z)) then ptI ps xs else some none) = some r := e
          rw [rt_str] at rx
          subst rx
          refine wpAny_matchPattern_Or (pt_or hc J r0 fun S1 J1 => ?_)
          cases q : ss.any (fun z => decide (s = z)) with
          | true =>
            rw [q, if_pos rfl] at e
            have e0 : ((namesOfAll (pp.take 1)).filterMap fun n => (([] : List (Str × Value)).lookup n).map (n, ·)) = [] := by
              refine List.filterMap_eq_nil_iff.mpr fun n _ => rfl
            dsimp only
            rw [if_pos rfl]
            dsimp only
            rw [e0]
            refine each_ok hr rs rr e J1 fun S2 J2 => ?_
            have := h S2 J2
            cases r with
            | none => exact this
            | some bs => exact fun nb hb => this nb hb
          | false =>
            rw [q, if_neg Bool.false_ne_true] at e
            cases e
            exact h S1 J1
        | _ => cases e
      | @cap i n q hN hl hf hi =>
        refine wpAny_matchPattern_Capture ?_
        dsimp only
        cases e1 : ptI ps xs with
        | none =>
          have e : (match ptI ps xs with | some (some bs) => some (some ((i, x) :: bs)) | r => r) = some r := e
          rw [e1] at e
          cases e
        | some r1 =>
          have e : (match ptI ps xs with | some (some bs) => some (some ((i, x) :: bs)) | r => r) = some r := e
          rw [e1] at e
          refine each_ok hr rs rr e1 J fun S2 J2 => ?_
          have := h S2 J2
          cases r1 with
          | none => cases e; exact this
          | some bs => cases e; exact fun nb hb => this ((n, u) :: nb) (.cons ⟨hN, hl, hf, hi, v, rx, r0⟩ hb)
theorem binds_ok {i0 : Nat} {s : AS} (hN : X.N.Nodup) : ∀ {bs : List (Nat × T)} {nb : List (Str × Value)} {σ : L2.St} {loc : MS.Loc} {S : Shared} {Q : Unit → Shared → Prop}, Bd Γ X i0 s.F bs nb → Inv X pins σ H S → Locs Γ s loc σ → (∀ σ' S', Inv X pins σ' H S' → Locs Γ s (bindT loc bs) σ' → Q () S') →
    wpAny (model X.prog X.w) X.A (assignInOrder (nb.map fun (n, _) => bindName X.env n) (nb.map (·.2))) Q X.xe S
  | [], _, σ, loc, S, Q, .nil, J, L, h => wpAny_assignInOrder_none (h σ S J L)
  | (i, x) :: bs, _, σ, loc, S, Q, .cons (b := (n, u)) ⟨h1, h2, h3, h4, v, rx, ru⟩ hr, J, L, h => by
    refine wpAny_assignInOrder_more (wpAny_bindName (store_ok J hN h1 h2 ru (fun S1 J1 => ?_) h3))
    exact binds_ok hN hr J1 (L.set i (v := .t x) rx) h
theorem bindT_at {i0 : Nat} {F : Hp} : ∀ {bs : List (Nat × T)} {nb : List (Str × Value)} {loc : MS.Loc}, Bd Γ X i0 F bs nb → (bindT loc bs)[i0]? = loc[i0]?
  | [], _, loc, .nil => rfl
  | (i, x) :: bs, _, loc, .cons ⟨_, _, _, h4, _⟩ hr => by
    show (bindT (loc.set i _) bs)[i0]? = _
    rw [bindT_at hr, List.getElem?_set_ne h4]
end
/-- a pattern -/
inductive PatS (X : Cx) (i0 : Nat) : Option (List PtI) → Pattern → Prop where
  | any {q : Pos} : PatS X i0 none (.MatchAs none none q)
  | seq {ps : List PtI} {pats : List Pattern} {q : Pos} (h : Paired (PtS X i0) ps pats) (h1 : pats.findIdx? (·.isStar) = none) (h2 : (pats.all fun p => p.isWildcard || (p.isStar && p.names.isEmpty)) = false) : PatS X i0 (some ps) (.MatchSequence pats q)
inductive GdS (Γ : Run) (X : Cx) (C : Cl) : Option E → Option Expr → Prop where
  | no : GdS Γ X C none none
  | one {c : E} {e : Expr} (h : ST Γ X e (evT C c)) : GdS Γ X C (some c) (some e)
inductive McS (Γ : Run) (X : Cx) (C : Cl) (i0 : Nat) : List S → List MatchCase → Prop where
  | nil : McS Γ X C i0 [] []
  | cons {ps : Option (List PtI)} {pat : Pattern} {g : Option E} {gd : Option Expr} {b el : List S} {body : List Stmt} {rest : List MatchCase} (h1 : PatS X i0 ps pat) (h2 : GdS Γ X C g gd) (h3 : SSs Γ X body (exSs C b)) (h4 : McS Γ X C i0 el rest) : McS Γ X C i0 [.mc i0 ps g b el] (⟨pat, gd, body⟩ :: rest)
theorem pat_ok {i0 : Nat} {ps : Option (List PtI)} {pat : Pattern} {pins : List (Addr × Obj)} {σ : L2.St} {H : Hp} {S : Shared} {s : AS} {x : T} {v : V} {u : Value} {r : Option (List (Nat × T))} {Q : Option (List (Str × Value)) → Shared → Prop} (hK : X.K = Γ.K) (hc : X.calm = true) (h : PatS X i0 ps pat) (J : Inv X pins σ H S) (R : Rel Γ s H) (rx : RT Γ s.F x v) (ru : RelV v u) (e : ptM ps x = some r)
    (hq : ∀ S', Inv X pins σ H S' → match (generalizing := false) r with | none => Q none S' | some bs => ∀ nb, Bd Γ X i0 s.F bs nb → Q (some nb) S') : wpAny (model X.prog X.w) X.A (matchPattern pat X.env u) Q X.xe S := by
  cases h with
  | any =>
    cases e
    exact wpAny_matchPattern_Capture (hq S J [] .nil)
  | @seq ps pats q hp h1 h2 =>
    cases x with
    | tup xs =>
      have e : (if xs.length = ps.length then ptI ps xs else some none) = some r := e
      obtain ⟨a, vs, rfl, tp, rs⟩ := rt_tup.mp rx
      cases ru
      obtain ⟨its, rv, ht, hz⟩ := J.tuple (by rw [hK]; exact R.fz.sqT tp.sqT)
      have n1 : its.toArray.size = xs.length := by rw [List.size_toArray, ← rv.length, RTs.length rs]
      have n2 : pats.length = ps.length := (Paired.len hp).symm
      have hfit : (its.toArray.size : Int) < 2 ^ 63 := by
        rw [List.size_toArray, ← rv.length]
        rw [sizeLine_eq] at hz
        omega
      by_cases hl : xs.length = ps.length
      · rw [if_pos hl] at e
        have e3 : its.toArray.size = pats.length := by rw [n1, n2, hl]
        refine matchSeq_tuple_hit ht hfit e3 ?_ h1 h2
        rw [← e3]
        have J1 := J.tok (S.toks + 1 + 1)
        refine unpackItems_tuple (J.ok.hd hc) (by exact ht) fun h' hx => ?_
        have J2 := J1.kept (h' := h') (t' := S.toks + 1 + 1) fun b o eb => hx b o (Nat.ne_of_lt (Heap.lt_size eb)) eb
        exact each_ok hp rs rv e J2 hq
      · rw [if_neg hl] at e
        cases e
        exact matchSeq_tuple_miss ht hfit (by rw [n1, n2]; exact hl) (hq _ (J.tok _)) h1 h2
    | _ => cases e
def hitM (C : Cl) (g : Option E) (b el : List S) (l : MS.Loc) : List Ob → RS := match g with
  | none => exSs C b l
  | some c => thenE (evT C c l) l fun k => if k then exSs C b l else exSs C el l
theorem mc_one {C : Cl} {i0 : Nat} {ps : Option (List PtI)} {g : Option E} {b el : List S} {loc : MS.Loc} {h : List Ob} : exSs C [.mc i0 ps g b el] loc h = mcM ps loc i0 (hitM C g b el) (exSs C el loc) h := by
  show thenS (mcM ps loc i0 (hitM C g b el) (exSs C el loc) h) (exSs C []) = _
  generalize mcM ps loc i0 (hitM C g b el) (exSs C el loc) h = r
  cases r with
  | ok f h => cases f <;> rfl
  | exc e l h => rfl
  | bad => rfl
theorem mc_ok (hK : X.K = Γ.K) (hc : X.calm = true) (hN : X.N.Nodup) {i0 : Nat} {W : WX} (tk : Takes X W) {pins : List (Addr × Obj)} {D : Ends} {v : V} {u : Value} {x : T} (ru : RelV v u) : ∀ {ms : List S} {cases : List MatchCase}, McS Γ X C i0 ms cases → ∀ {σ : L2.St} {H : Hp} {S : Shared} {s : AS} {loc : MS.Loc} {first : Bool}, Inv X pins σ H S → Rel Γ s H → Locs Γ s loc σ → loc[i0]? = some (some (.t x)) → RT Γ s.F x v →
    AfterS Γ s (exSs C ms loc s.hp) W D → wpAny (model X.prog X.w) X.A (matchCases cases X.env u first) (SP X pins D) X.xe S
  | _, _, .nil, σ, H, S, s, loc, first, J, R, L, hl, rx, A => by
    have A : AfterS Γ s (.ok (.nx loc) s.hp) W D := A
    exact wpAny_matchCases_nil ⟨σ, H, J, A.nx R L⟩
  | _, _, .cons (ps := ps) (g := g) (b := b) (el := el) h1 h2 h3 h4, σ, H, S, s, loc, first, J, R, L, hl, rx, A => by
    rw [mc_one] at A
    unfold mcM at A
    rw [hl] at A
    dsimp only at A
    cases e : ptM ps x with
    | none => rw [e] at A; exact A.elim
    | some r =>
      rw [e] at A
      refine wpAny_matchCases_cons (pat_ok hK hc h1 J R rx ru e fun S1 J1 => ?_)
      cases r with
      | none => exact mc_ok hK hc hN tk ru h4 J1 R L hl rx A
      | some bs =>
        intro nb hb
        refine binds_ok hN hb J1 L fun σ2 S2 J2 L2' => ?_
        have hl2 : (bindT loc bs)[i0]? = some (some (.t x)) := by rw [bindT_at hb]; exact hl
        cases h2 with
        | no => exact (h3 W tk).run pins S2 σ2 H D J2 ⟨bindT loc bs, s, R, L2', A⟩
        | @one c ge h =>
          have A : AfterS Γ s (thenE (evT C c (bindT loc bs)) (bindT loc bs) (fun k => if k then exSs C b (bindT loc bs) else exSs C el (bindT loc bs)) s.hp) W D := A
          have A2 := A.thenE L2'
          refine thn ((h W tk).run pins S2 σ2 H (fun k H' => ∃ s', Rel Γ s' H' ∧ Ext s s' ∧ AfterS Γ s' ((if k then exSs C b (bindT loc bs) else exSs C el (bindT loc bs)) s'.hp) W D) J2 ⟨bindT loc bs, s, R, L2', A2.imp (fun k s' H' x' R' q => ⟨s', R', x', q⟩) fun _ _ _ _ _ q => q⟩) fun ok S3 ⟨H3, J3, s3, R3, x3, A3⟩ => ?_
          cases ok with
          | true => exact (h3 W tk).run pins S3 σ2 H3 D J3 ⟨bindT loc bs, s3, R3, L2'.ext x3, A3⟩
          | false => exact mc_ok hK hc hN tk ru h4 J3 R3 (L2'.ext x3) hl2 (RT.mono x3.F x v rx) A3
/-- match name: .. -/
theorem ss_match {i0 : Nat} {n : Str} {cases : List MatchCase} (hK : X.K = Γ.K) (hc : X.calm = true) (hN : X.N.Nodup) (hn : X.N[i0]? = some n) (hv : Vis X.env.scope n) (hd : (n == ("__debug__" : Str)) = false) (hcd : (n == ("__classdict__" : Str)) = false) {m : S} (h : McS Γ X C i0 [m] cases) : SS Γ X (.Match (.Name n p) cases pos) (exS C m) := by
  intro W tk
  refine ⟨fun pins S σ H D J ⟨loc, s, R, L, A⟩ => ?_⟩
  have A : AfterS Γ s (exSs C [m] loc s.hp) W D := by
    show AfterS Γ s (thenS (exS C m loc s.hp) (exSs C [])) W D
    revert A
    generalize exS C m loc s.hp = r
    intro A
    cases r with
    | ok f h => cases f <;> exact A
    | exc e l h => exact A
    | bad => exact A
  have hx : ∃ x, loc[i0]? = some (some (.t x)) := by
    cases h with
    | @cons ps pat g gd b el body rest h1 h2 h3 h4 =>
      rw [mc_one] at A
      unfold mcM at A
      split at A
      · exact ⟨_, by assumption⟩
      · exact A.elim
  obtain ⟨x, hx⟩ := hx
  obtain ⟨v, ev, rx⟩ := L.at_ i0 (.t x) hx
  refine wpAny_Match (thn ((pe_var (X := X) (pos := p) hn hv hd hcd).run pins S σ H (fun w H' => w = v ∧ H' = H) J ⟨v, ev, rfl, rfl⟩) fun u S1 ⟨w, H1, J1, ru, ew, eh⟩ => ?_)
  subst ew eh
  exact mc_ok hK hc hN tk ru h J1 R L hx rx A
/-! ### a raw thing taken as a tree; {}; max of one thing -/
theorem se_frz {ee : Expr} {e : E} (he : SE Γ X ee (evE C e)) : SE Γ X ee (evE C (.frz e)) := by
  intro W tk
  refine PE.imp (he W tk) ?_
  rintro σ H Q ⟨loc, s, R, L, A⟩
  have A : After Γ s (MH.bind (evE C e loc) (fun v => MH.bind (MS.pur v) fun x => (MH.pure (Val.t x) : MH Val)) s.hp) _ _ := A
  refine ⟨loc, s, R, L, A.bind.imp (fun v s1 H1 x1 R1 A1 u r => ?_) (fun _ _ _ _ _ q => q)⟩
  obtain ⟨x, s2, x2, R2, rx, A2⟩ := After.pur R1 r A1
  exact After.ok R2 A2 u rx
theorem se_dct0 : SE Γ X (.Dict [] [] pos) (evE C .dct0) := by
  intro W tk
  refine PE.imp pe_dnewK ?_
  rintro σ H Q ⟨loc, s, R, L, A⟩
  intro q hq
  have A : After Γ s ((MH.pure (Val.t (T.dct [])) : MH Val) s.hp) _ _ := A
  obtain ⟨R1, x1⟩ := new_frz R hq (.dK [])
  have rx : RT Γ (s.withF q (.dK [])).F (.dct []) (.ref q) := rt_dct.mpr ⟨q, [], rfl, upd_same, by simp only [RTd]⟩
  exact After.ok R1 (A.from x1) (.ref q) rx
theorem call_max1 : CallR X (.builtin "max") (fun _ _ _ => False) := by
  intro pins s σ H xs us Q I r h
  exact h.elim
theorem lk_max1 : CaLk Γ .max1 (fun _ _ _ => False) := by
  intro s H vs us Q E R rs A
  have e : opM .max1 vs = bad := by
    cases vs with
    | nil => rfl
    | cons a vs => cases vs with
      | nil => rfl
      | cons b vs => cases vs <;> rfl
  rw [e] at A
  exact A.elim
end
end MS

set_option Elab.async false
set_option linter.all false
set_option maxRecDepth 100000
set_option maxHeartbeats 4000000
/-! MVC: exceptions as values. -/
namespace MS
open PySem PySem.Spec PyProof.Rows L2
section
variable {Γ : Run} {X : Cx} {C : Cl} {I : Info} {k : Nat} {eb : EBase} {D CA fI : Addr} {fd : FuncData} {ps : List Str} {p pos pos' : Pos} {x : Str}
/-- C called: its __init__ runs, the new one is told -/
theorem mk_val {pins : List (Addr × Obj)} {σ : L2.St} {H1 : Hp} {Q : VK} {C fI : Addr} {fd : FuncData} {ps : List Str} {sp : L2.Sp} {hp : Heap} {g : Array GenState} {dr : Drawn} {tk : Nat} {os : OsState} {us : List Value} {vs : List V} (M : MkC X eb C fI fd ps sp) (hr : Room 2 X.A) (I1 : Inv X pins σ H1 ⟨hp, g, dr, tk, os⟩) (r1 : Vals vs us) (hz : vs.length ≤ 1000)
    (q1 : ∀ a, H1 a = none → sp (.ref a :: vs) (upd H1 a (exo a C none)) (fun v H2 => v = .non ∧ Q (.ref a) H2) (fun _ _ _ => False)) :
    wpAny (model X.prog X.w) X.A (call (.ref C) us) (EP X pins σ Q) X.xe ⟨hp, g, dr, tk, os⟩ := by
  obtain ⟨nm, q, N, bs, bm, sn, sub, ab, col, dd, k0, k1, k2, k3, k5, hC, hbm⟩ := M.T.cls
  have hsz : hp.objs.size ≤ hp.objs.size + 1 := Nat.le_succ _
  have hn : H1 (hp.objs.size + 1) = none := I1.hok.fresh hsz
  have hq := q1 (hp.objs.size + 1) hn
  have kk : ∀ c o, hp.get? c = some o → ((hp.push (PySem.W.kdv_tup us)).push (PySem.HandSPX.excO C hp.objs.size)).get? c = some o := fun c o e => Heap.get?_push_of_some _ (Heap.get?_push_of_some _ e)
  have hget : ((hp.push (PySem.W.kdv_tup us)).push (PySem.HandSPX.excO C hp.objs.size)).get? (hp.objs.size + 1) = some (PySem.HandSPX.excO C hp.objs.size) := by heap_get
  have I2 : Inv X pins σ (upd H1 (hp.objs.size + 1) (exo (hp.objs.size + 1) C none)) ⟨(hp.push (PySem.W.kdv_tup us)).push (PySem.HandSPX.excO C hp.objs.size), g, dr, tk, os⟩ :=
    I1.laid (t' := tk) (a := hp.objs.size + 1) (o := exo (hp.objs.size + 1) C none) (h' := (hp.push (PySem.W.kdv_tup us)).push (PySem.HandSPX.excO C hp.objs.size)) kk hsz (exo_ok hget)
  have r2 : Vals (V.ref (hp.objs.size + 1) :: vs) (Value.ref (hp.objs.size + 1) :: us) := .cons rfl r1
  have hl : (Value.ref (hp.objs.size + 1) :: us ++ []).length = ps.length := by
    rw [List.append_nil]
    have e := r2.length
    rw [M.F1.len _ _ _ _ hq] at e
    exact e.symm
  have hus : us.length ≤ sizeLine := by
    rw [← Paired.length r1, sizeLine_eq]
    omega
  have bd := M.hb ⟨(hp.push (PySem.W.kdv_tup us)).push (PySem.HandSPX.excO C hp.objs.size), g, dr, tk, os⟩ (Value.ref (hp.objs.size + 1) :: us) I2.kIn hl
  rw [List.append_nil] at bd
  refine wpAny_call (PySem.HandSPX.call_own M.T.ok.ex (fun Y => tailB_has Y bm hbm) (I1.kIn _ _ hC) (PySem.W.looks_findIn I1.kIn M.iC) (fun self => PySem.W.bind_fn I1.kIn self M.tI) hus
    (codeAny_mono (M.F1.run _ X.stack _ _ ⟨Value.ref (hp.objs.size + 1) :: us, []⟩ (Value.ref (hp.objs.size + 1) :: us) _ _ (fun _ _ _ => False) (hr.make C us []) (I2.env0.make C us []) bd r2 hq) fun r s2 hq2 => ?_))
  cases r with
  | error er => exact passAt (W := fun _ _ _ _ => False) takes0 σ _ _ _ er s2 I2 hq2
  | ok fl =>
    cases fl with
    | ret u =>
      obtain ⟨v, H', I3, rv, ev, q3⟩ := I2.after hq2
      subst ev
      exact ⟨rv, ⟨V.ref (hp.objs.size + 1), H', I3, rfl, q3⟩⟩
    | next => exact False.elim hq2
    | brk => exact False.elim hq2
    | cont => exact False.elim hq2
/-- C() -/
theorem pev_N (M : MkC X eb CA fI fd ps (spN X.K eb D)) (c1 : SupE X.K eb CA D) (hr : Room 2 X.A) (hg : Gl X x) (hm : X.mg x = some (.ref CA)) (hdb : (x == ("__debug__" : Str)) = false) :
    PE X (.Call (.Name x p) [] [] pos) (fun _ H Q => ∀ a, H a = none → ∀ H2, Le (upd H a (exo a CA none)) H2 → Q (.ref a) H2) := by
  refine ⟨fun pins s σ H Q I h => ?_⟩
  refine wpAny_Call_Name_kw (ld_glob I hg hm ?_ hdb)
  refine PySem.W.callWith_K0 I.kIn M.T.kC ?_
  obtain ⟨hp, g, dr, tk, os⟩ := s
  exact mk_val (vs := []) (us := []) M hr I .nil (Nat.zero_le _) fun a hn => ⟨a, CA, rfl, upd_same, M.T, c1, fun H2 le => ⟨rfl, h a hn H2 le⟩⟩
/-- C(name) -/
theorem pev_W {e : Expr} {ta : TA} (M : MkC X eb CA fI fd ps (spW X.K eb D)) (c1 : SupE X.K eb CA D) (hno : PySem.W.findIn X.K (.ref CA) "name" = some none) (hr : Room 2 X.A) (hg : Gl X x) (hm : X.mg x = some (.ref CA)) (ha : PA X [e] ta) (hst : stB e = false) (hdb : (x == ("__debug__" : Str)) = false) :
    PE X (.Call (.Name x p) [e] [] pos) (fun σ H Q => ta σ H fun vs H1 => ∃ z : Str, vs = [.str z] ∧ z.length ≤ 100000 ∧ (reprText z).length ≤ 1000000 ∧ ∀ a, H1 a = none → ∀ H2 d, Le (upd H1 a (exo a CA none)) H2 → H2 d = none → d ≠ a → Q (.ref a) (upd (upd H2 d (exd d [("name", .str z)])) a (exo a CA (some d)))) := by
  refine ⟨fun pins s σ H Q I h => ?_⟩
  refine wpAny_Call_Name_kw (ld_glob I hg hm ?_ hdb)
  refine PySem.W.callWith_K (h₀ := X.base) I.ok.mod.kin M.T.kC (thn (ha.run pos pins s σ H _ (I.tok _) h) fun us s1 ⟨vs, H1, I1, r1, z, ev, hz1, hz2, q⟩ => ⟨I1.kIn, ?_⟩) (star_cons hst) rfl
  subst ev
  show wpAny _ _ (call (.ref CA) us) _ _ _
  obtain ⟨hp, g, dr, tk, os⟩ := s1
  exact mk_val M hr I1 r1 (show 1 ≤ 1000 by decide) fun a hn => ⟨a, CA, z, rfl, hz1, hz2, upd_same, M.T, c1, hno, fun H2 d le n ne => ⟨rfl, q a hn H2 d le n ne⟩⟩
theorem upd_del {H : Hp} {a : Addr} {o : HO} (e : H a = some o) : upd (del H a) a o = H := by
  funext c
  by_cases h : c = a
  · subst h; rw [upd_same, e]
  · rw [upd_ne h, del_ne h]
theorem se_xn0 {c : Nat} (hv : Γ.xv = true) (M : MkC X eb (Γ.xA c) fI fd ps (spN X.K eb D)) (c1 : SupE X.K eb (Γ.xA c) D) (hr : Room 2 X.A) (hg : Gl X x) (hm : X.mg x = some (.ref (Γ.xA c))) (hdb : (x == ("__debug__" : Str)) = false) :
    SE Γ X (.Call (.Name x p) [] [] pos) (evE C (.xn c [])) := by
  intro W tk
  refine PE.imp (pev_N M c1 hr hg hm hdb) ?_
  rintro σ H Q ⟨loc, s, R, L, A⟩ a hn H2 le
  have A : After Γ s ((MH.pure (Val.t (T.xo c none)) : MH Val) s.hp) _ _ := A
  have R0 := R.le (le_new hn le)
  have e0 : del H2 a a = none := by unfold del; rw [if_pos rfl]
  obtain ⟨R1, x1⟩ := new_frz R0 e0 (exo a (Γ.xA c) none)
  rw [upd_del (le a _ upd_same)] at R1
  have rx : RT Γ (s.withF a (exo a (Γ.xA c) none)).F (.xo c none) (.ref a) := by
    simp only [RT]
    exact ⟨a, rfl, upd_same, hv⟩
  exact After.ok R1 (A.from x1) (.ref a) rx
theorem se_xn1 {c : Nat} {e : Expr} {m : E} (hv : Γ.xv = true) (M : MkC X eb (Γ.xA c) fI fd ps (spW X.K eb D)) (c1 : SupE X.K eb (Γ.xA c) D) (hno : PySem.W.findIn X.K (.ref (Γ.xA c)) "name" = some none) (hr : Room 2 X.A) (hg : Gl X x) (hm : X.mg x = some (.ref (Γ.xA c)))
    (he : SE Γ X e (evE C m)) (hst : stB e = false) (hdb : (x == ("__debug__" : Str)) = false) : SE Γ X (.Call (.Name x p) [e] [] pos) (evE C (.xn c [m])) := by
  intro W tk
  refine PE.imp (pev_W M c1 hno hr hg hm (sa_cons he sa_nil hst W tk) hst hdb) ?_
  rintro σ H Q ⟨loc, s, R, L, A⟩
  have A : After Γ s (MH.bind (evEs C [m] loc) (fun vs => xnM c vs) s.hp) _ _ := A
  refine ⟨loc, s, R, L, ?_⟩
  have eq : evEs C [m] loc s.hp = (match evE C m loc s.hp with | .ok v h => .ok [v] h | .exc e h => .exc e h | .bad => .bad) := by
    show MH.bind (evE C m loc) (fun v => MH.bind (evEs C [] loc) fun vs => (pure (v :: vs) : MH (List Val))) s.hp = _
    unfold MH.bind
    cases evE C m loc s.hp <;> rfl
  unfold MH.bind at A
  rw [eq] at A ⊢
  cases ev : evE C m loc s.hp with
  | bad => rw [ev] at A; exact A.elim
  | exc y h1 => rw [ev] at A; exact A
  | ok v h1 =>
    rw [ev] at A
    intro s1 H1 e1 x1 R1 us rs
    have A : After Γ s (xnM c [v] h1) (fun v s' H' => ∀ u, RV Γ s'.F s'.ρ v u → Q u H') (XW Γ W σ) := A
    rw [← e1] at A
    cases rs with
    | @cons _ u _ ur r0 rr =>
      cases rr
      cases v with
      | ref n => exact A.elim
      | t y =>
        cases y with
        | str z =>
          have A : After Γ s ((if z.length ≤ 100000 ∧ (reprText z).length ≤ 1000000 then (pure (Val.t (T.xo c (some z))) : MH Val) else bad) s1.hp) (fun v s' H' => ∀ u, RV Γ s'.F s'.ρ v u → Q u H') (XW Γ W σ) := A
          split at A
          · rename_i hz
            refine ⟨z, by rw [rv_str.mp r0], hz.1, hz.2, fun a hn H2 d le n ne => ?_⟩
            have R0 := R1.le (le_new hn le)
            have d0 : del H2 a d = none := by rw [del_ne ne]; exact n
            obtain ⟨R2, x2⟩ := new_frz R0 d0 (exd d [("name", .str z)])
            have a0 : upd (del H2 a) d (exd d [("name", .str z)]) a = none := by rw [upd_ne (Ne.symm ne)]; exact del_same
            obtain ⟨R3, x3⟩ := new_frz R2 a0 (exo a (Γ.xA c) (some d))
            have eh : upd (upd (del H2 a) d (exd d [("name", .str z)])) a (exo a (Γ.xA c) (some d)) = upd (upd H2 d (exd d [("name", .str z)])) a (exo a (Γ.xA c) (some d)) := by
              funext b
              by_cases hb : b = a
              · subst hb; rw [upd_same, upd_same]
              · rw [upd_ne hb, upd_ne hb]
                by_cases hd : b = d
                · subst hd; rw [upd_same, upd_same]
                · rw [upd_ne hd, upd_ne hd, del_ne hb]
            rw [eh] at R3
            have rx : RT Γ ((s1.withF d (exd d [("name", .str z)])).withF a (exo a (Γ.xA c) (some d))).F (.xo c (some z)) (.ref a) := by
              simp only [RT]
              refine ⟨a, d, rfl, ?_, upd_same, hv⟩
              show upd (upd s1.F d (exd d [("name", .str z)])) a (exo a (Γ.xA c) (some d)) d = _
              rw [upd_ne ne, upd_same]
            exact A ((s1.withF d (exd d [("name", .str z)])).withF a (exo a (Γ.xA c) (some d))) _ rfl ((x1.trans x2).trans x3) R3 (.ref a) rx
          · exact A.elim
        | _ => exact A.elim
/-- e.name -/
theorem pe_xnm {e : Expr} {te : TE} (he : PE X e te) (hb : attributeBase e "name" X.env (eval e X.env) = eval e X.env := by rfl) :
    PE X (.Attribute e "name" pos) (fun σ H Q => te σ H fun y H1 => ∃ (a B d : Addr) (z : Str), y = .ref a ∧ H1 a = some (exo a B (some d)) ∧ H1 d = some (exd d [("name", .str z)]) ∧ XfC X.K B ∧ PySem.W.findIn X.K (.ref B) "name" = some none ∧ Q (.str z) H1) := by
  refine ⟨fun pins s σ H Q I h => ?_⟩
  refine attr_of hb (thn (he.run pins s σ H _ I h) fun u s1 hh => ?_)
  obtain ⟨y, H1, I1, rx, a, B, d, z, ey, ea, ed, T, hno, q⟩ := hh
  subst ey
  obtain rfl : u = Value.ref a := rx
  obtain ⟨t1, ha⟩ := exo_at I1.hok ea
  obtain ⟨mA, hns, hr⟩ := exd_at I1.hok ed
  obtain ⟨od, ho, hl⟩ := lookIn_ns hns
  obtain ⟨u, hu, ru⟩ := RelO.some_of (v := .str z) (o := mA "name") (by have := hr "name"; exact this)
  have J : PySem.W.InstAt s1.heap a _ B (some od) := ⟨ha, rfl, rfl, ho⟩
  exact HandSPX.exc_get I1.kIn J T.ga T.gg T.exC (PySem.W.findObj_own T.hdC hno rfl (by rw [hl, hu])) (handed_of ru) ⟨.str z, H1, I1.tok _, ru, q⟩
theorem se_xnm {eo : Expr} {o : E} (T : Ctx Γ X C I k) (ho : SE Γ X eo (evE C o)) (hb : abB eo = false) : SE Γ X (.Attribute eo "name" pos) (evE C (.op .xnm [o])) := by
  intro W tk
  refine PE.imp (pe_xnm (ho W tk) (base_no hb)) ?_
  rintro σ H Q ⟨loc, s, R, L, A⟩
  rw [evE_op1] at A
  refine ⟨loc, s, R, L, A.bind.imp (fun v s1 H1 x1 R1 A1 u r => ?_) (fun _ _ _ _ _ q => q)⟩
  have A1 : After Γ s1 ((match (generalizing := false) v with | .t (.xo _ (some s)) => str s | _ => bad : MH Val) s1.hp) (fun v s' H' => ∀ u, RV Γ s'.F s'.ρ v u → Q u H') (XW Γ W σ) := A1
  cases v with
  | ref n => exact A1.elim
  | t y =>
    cases y with
    | xo c a =>
      cases a with
      | none => exact A1.elim
      | some z =>
        have r : RT Γ s1.F (.xo c (some z)) u := r
        simp only [RT] at r
        obtain ⟨a, d, e, hD, hF, hv⟩ := r
        have xk := T.xk hv c
        exact ⟨a, Γ.xA c, d, z, e, R1.fz _ _ hF, R1.fz _ _ hD, xk.xf, xk.nm, After.ok R1 A1 _ (rv_str.mpr rfl)⟩
    | _ => exact A1.elim
end
end MS

set_option Elab.async false
set_option linter.all false
set_option maxRecDepth 100000
/-! MTB: the check of a text against the small language. -/
namespace MS
open PySem PySem.Spec PyProof.Rows L2
/-- what the names of the module mean -/
structure GEnv where
  fns : List (Str × Nat)
  cls : List (Str × Nat)
  gls : List (Str × Nat)
  blt : List Str
  mN : Nat → Str
  ini : Nat → Option Nat
  kw : Nat → Option Str
  sps : Sp → Bool
  exs : List (Str × Nat)
  exw : Nat → Bool
  xval : Bool
  xcs : List (Str × Nat)
/-- where one stands -/
structure SEnv where
  N : List Str
  sc : Scope
  fn : Str → Bool
  top : Bool
def SEnv.blk (se : SEnv) (scope : Scope) : SEnv := ⟨se.N, relS scope se.sc, fun x => scope.names.lookup x == some .cell, false⟩
def okN (x : Str) : Bool := !(x == "__debug__") && !(x == "__classdict__")
def glB (se : SEnv) (x : Str) : Bool := decide (se.sc.names.lookup x = some .globalImplicit) && !(x == "__debug__")
def blB (ge : GEnv) (se : SEnv) (x : Str) : Bool := glB se x && ge.blt.contains x
def locB (se : SEnv) (x : Str) : Bool := decide (se.sc.names.lookup x = some .local) || decide (se.sc.names.lookup x = some .cell)
def visB (se : SEnv) (x : Str) : Bool := locB se x || decide (se.sc.names.lookup x = some .free)
abbrev RE := SEnv → E → Expr → Bool
def cEs (r : E → Expr → Bool) : List E → List Expr → Bool
  | [], [] => true
  | m :: ms, e :: es => r m e && !stB e && cEs r ms es
  | _, _ => false
def cVar (se : SEnv) (i : Nat) : Expr → Bool
  | .Name x _ => decide (se.N[i]? = some x) && visB se x && okN x
  | _ => false
def cGl (ge : GEnv) (se : SEnv) (g : Nat) : Expr → Bool
  | .Name x _ => decide (ge.gls.lookup x = some g) && glB se x
  | _ => false
def cInt (i : Int) : Expr → Bool
  | .Constant (.int j) _ _ => decide (i = j)
  | _ => false
def cStr (i : Str) : Expr → Bool
  | .Constant (.str j) _ _ => decide (i = j)
  | _ => false
def cBl (i : Bool) : Expr → Bool
  | .Constant (.bool j) _ _ => decide (i = j)
  | _ => false
def cNon : Expr → Bool
  | .Constant .none _ _ => true
  | _ => false
def cBin (op : Operator) (ra rb : Expr → Bool) : Expr → Bool
  | .BinOp a o b _ => decide (o = op) && ra a && rb b
  | _ => false
def cCmp (op : CmpOp) (ra rb : Expr → Bool) : Expr → Bool
  | .Compare a [o] [b] _ => decide (o = op) && ra a && rb b && !seB b
  | _ => false
def cUn (op : UnaryOp) (ra : Expr → Bool) : Expr → Bool
  | .UnaryOp o a _ => decide (o = op) && ra a
  | _ => false
def cBool (op : BoolOp) (r : List Expr → Bool) : Expr → Bool
  | .BoolOp o es _ => decide (o = op) && !es.isEmpty && r es
  | _ => false
/-- f(e, ..) of a name -/
def cCall (t : Str → Bool) (r : List Expr → Bool) : Expr → Bool
  | .Call (.Name x _) es [] _ => t x && r es
  | _ => false
def cMeth (t : Str → Bool) (ro : Expr → Bool) (r : List Expr → Bool) : Expr → Bool
  | .Call (.Attribute o nm apos) es [] cpos => t nm && ro o && !abB o && decide (es.length < 20) && (apos.endLine == cpos.line) && r es
  | _ => false
def cSub (ra ri : Expr → Bool) : Expr → Bool
  | .Subscript a i _ => ra a && ri i && !slB i
  | _ => false
def cAtt (f : Nat) (ro : Expr → Bool) : Expr → Bool
  | .Attribute o nm _ => decide (f < 20) && decide (nm = fldN f) && ro o && !abB o
  | _ => false
def noSl : Expr → Bool
  | .Slice .. => false
  | _ => true
/-- the operators' names among the calls of built-ins -/
def bName : Op → Option Str
  | .len => some "len" | .abs => some "abs" | .int1 => some "int" | .str1 => some "str" | .list _ => some "list" | .tuple => some "tuple"
  | .max2 => some "max" | .min2 => some "min" | .any => some "any" | .all => some "all" | .sum => some "sum" | .max1 => some "max"
  | _ => none
def mName : Op → Option Str
  | .append => some "append" | .pop => some "pop" | .clear => some "clear" | .count => some "count" | .index => some "index"
  | _ => none
def cOp (ge : GEnv) (se : SEnv) (r : E → Expr → Bool) (o : Op) (ms : List E) (e : Expr) : Bool := match o, ms with
  | .add, [a, b] => cBin .Add (r a) (r b) e
  | .sub, [a, b] => cBin .Sub (r a) (r b) e
  | .mul, [a, b] => cBin .Mult (r a) (r b) e
  | .fdv, [a, b] => cBin .FloorDiv (r a) (r b) e
  | .mod, [a, b] => cBin .Mod (r a) (r b) e
  | .pow, [a, b] => cBin .Pow (r a) (r b) e
  | .neg, [a] => cUn .USub (r a) e
  | .idx, [a, b] => cSub (r a) (r b) e
  | .idxd, [a, b] => cSub (r a) (r b) e
  | .slc false false, [a] => (match e with | .Subscript x (.Slice none none none _) _ => r a x | _ => false)
  | .slc true false, [a, l] => (match e with | .Subscript x (.Slice (some y) none none _) _ => r a x && r l y | _ => false)
  | .slc false true, [a, l] => (match e with | .Subscript x (.Slice none (some y) none _) _ => r a x && r l y | _ => false)
  | .fld f, [a] => cAtt f (r a) e
  | .xnm, [a] => (match e with | .Attribute o nm _ => decide (nm = "name") && r a o && !abB o | _ => false)
  | .slc true true, [a, l, .int k] => (match e with | .Subscript x (.Slice (some y) (some (.Constant (.int k2) _ _)) none _) _ => decide (k = k2) && r a x && r l y | _ => false)
  | .lrng _, [a] => (match e with
    | .Call (.Name x _) [.Call (.Name y _) [z] [] _] [] _ => decide (x = "list") && decide (y = "range") && blB ge se x && blB ge se y && !stB z && r a z
    | _ => false)
  | .splt b, [l] => (match e with
    | .Call (.Attribute eo nm apos) [.Constant (.str b2) _ _] [] pos => decide (nm = "split") && decide (b2 = b) && r l eo && !abB eo && (apos.endLine == pos.line)
    | _ => false)
  | o, ms => match bName o with
    | some n => cCall (fun x => decide (x = n) && blB ge se x) (fun es => !es.isEmpty && cEs r ms es) e
    | none => false
/-- comparisons -/
def cC (r : E → Expr → Bool) (m : E) (e : Expr) : Bool := match m with
  | .op .lt [a, b] => cCmp .Lt (r a) (r b) e
  | .op .le [a, b] => cCmp .LtE (r a) (r b) e
  | .op .gt [a, b] => cCmp .Gt (r a) (r b) e
  | .op .ge [a, b] => cCmp .GtE (r a) (r b) e
  | .op .isN [a] => cCmp .Is (r a) cNon e
  | .op .isnN [a] => cCmp .IsNot (r a) cNon e
  | .op (.isB c) [a] => cCmp .Is (r a) (cBl c) e
  | .op (.isnB c) [a] => cCmp .IsNot (r a) (cBl c) e
  | .eqq false a b => cCmp .Eq (r a) (r b) e
  | .eqq true a b => cCmp .NotEq (r a) (r b) e
  | .inn false a b => cCmp .In (r a) (r b) e
  | .inn true a b => cCmp .NotIn (r a) (r b) e
  | _ => false
mutual
def cTg (se : SEnv) (b : Bool) : Tg → Expr → Bool
  | .v i, e => match e with
    | .Name x _ => !b && decide (se.N[i]? = some x) && locB se x && (se.fn x || decide (se.sc.names.lookup x = some .local))
    | _ => false
  | .tp ts, e => match e with
    | .Tuple es _ _ => cTgs se ts es
    | _ => false
termination_by structural x => x
def cTgs (se : SEnv) : List Tg → List Expr → Bool
  | [], es => es.isEmpty
  | t :: ts, es => match es with
    | e :: es => cTg se false t e && !stB e && cTgs se ts es
    | [] => false
termination_by structural x => x
end
def cIt (ge : GEnv) (se : SEnv) (r : E → Expr → Bool) (it : It) (e : Expr) : Bool := match it with
  | .seq m => r m e && !ffB e
  | .rng1 m => cCall (fun x => decide (x = "range") && blB ge se x) (fun es => match es with | [z] => r m z && !stB z | _ => false) e
  | .rng2 m m2 => cCall (fun x => decide (x = "range") && blB ge se x) (fun es => match es with | [z, z2] => r m z && !stB z && r m2 z2 && !stB z2 | _ => false) e
  | .enum m => cCall (fun x => decide (x = "enumerate") && blB ge se x) (fun es => match es with | [z] => r m z && !stB z | _ => false) e
  | .zip m m2 => cCall (fun x => decide (x = "zip") && blB ge se x) (fun es => match es with | [z, z2] => r m z && !stB z && r m2 z2 && !stB z2 | _ => false) e
  | .liv _ => false
def isPair : It → Bool
  | .enum _ => true | .zip _ _ => true | _ => false
def isTup : Expr → Bool
  | .Tuple .. => true | _ => false
/-- a source and its target -/
def cItg (ge : GEnv) (se : SEnv) (r : E → Expr → Bool) (it : It) (tg : Tg) (e t : Expr) (se2 : SEnv) : Bool := cIt ge se r it e && cTg se2 (isPair it) tg t && (!isPair it || isTup t)
def cTs (r : E → Expr → Bool) : List E → List Expr → Bool
  | [], [] => true
  | [m], [e] => r m e
  | _, _ => false
def subset (a b : List Nat) : Bool := a.all fun i => b.contains i
/-- the own names of a block, with their places -/
def ownOf (N : List Str) (own : List Nat) : List (Str × Nat) := own.map fun i => (N.getD i "", i)
def cLc (ge : GEnv) (se : SEnv) (r rT : RE) (m : E) (e : Expr) : Bool := match m, e with
  | .lc _ own tg it ifs x, .ListComp ee [⟨et, ei, efs, 0⟩] scope _ =>
    let s2 := se.blk scope
    cItg ge se (r se) it tg ei et s2 && blkC se.N se.sc scope (ownOf se.N own) && cTs (rT s2) ifs efs && r s2 x ee && subset tg.ix own
  | .lcx _ own tg it ifs x, .ListComp ee [⟨et, ei, efs, 0⟩] scope _ =>
    let s2 := se.blk scope
    cItg ge se (r se) it tg ei et s2 && blkC se.N se.sc scope (ownOf se.N own) && cTs (rT s2) ifs efs && r s2 x ee && subset tg.ix own && se.top
  | .lc2 _ own tg it ifs tg1 it1 ifs1 x, .ListComp ee [⟨et, ei, efs, 0⟩, ⟨et1, ei1, efs1, 0⟩] scope _ =>
    let s2 := se.blk scope
    cItg ge se (r se) it tg ei et s2 && blkC se.N se.sc scope (ownOf se.N own) && cTs (rT s2) ifs efs && r s2 x ee && subset tg.ix own && subset tg1.ix own && cItg ge s2 (r s2) it1 tg1 ei1 et1 s2 && cTs (rT s2) ifs1 efs1 && !ffB ei1
  | _, _ => false
def cFs (r : E → Expr → Bool) : List Fp → List Expr → Bool
  | [], [] => true
  | p :: ps, e :: es => (match p, e with
    | .lit s, .Constant (.str j) _ _ => decide (s = j)
    | .val m, .FormattedValue x c none _ => decide (c = -1) && r m x
    | .rep m, .FormattedValue x c none _ => decide (c = 114) && r m x
    | _, _ => false) && cFs r ps es
  | _, _ => false
def cPs (r : E → Expr → Bool) : List E → List (Option Expr) → List Expr → Bool
  | [], [], [] => true
  | mk :: mv :: ms, some k :: ks, v :: vs => r mk k && r mv v && cPs r ms ks vs
  | _, _, _ => false
def cSp (ge : GEnv) (se : SEnv) (s : Sp) (e : Expr) : Bool := match e with
  | .Name x _ => ge.sps s && (match s with
    | .cls d => decide (ge.cls.lookup x = some d) && glB se x
    | .xc d => (decide (ge.xcs.lookup x = some d) && glB se x && decide (d < 500)) || (decide (500 ≤ d) && decide (x = Str.ofString (xbN d)) && blB ge se x)
    | .str => decide (x = "str") && blB ge se x
    | .list => decide (x = "list") && blB ge se x
    | .tuple => decide (x = "tuple") && blB ge se x
    | .int => decide (x = "int") && blB ge se x
    | .dict => decide (x = "dict") && blB ge se x)
  | _ => false
def cNew (ge : GEnv) (se : SEnv) (r : E → Expr → Bool) (c nk : Nat) (ms : List E) (e : Expr) : Bool := match e with
  | .Call (.Name x _) es [] _ => decide (nk = 0) && decide (ge.cls.lookup x = some c) && glB se x && (ge.ini c).isSome && (ge.kw c).isNone && cEs r ms es
  | .Call (.Name x _) es [⟨some kn, ek, _⟩] _ => decide (nk = 1) && decide (ge.cls.lookup x = some c) && glB se x && (ge.ini c).isSome && decide (ge.kw c = some kn) && !es.isEmpty &&
      (match ms.getLast? with | some mk => r mk ek && cEs r ms.dropLast es | none => false)
  | _ => false
def stepE (ge : GEnv) (r rT : RE) (se : SEnv) (m : E) (e : Expr) : Bool := match m with
  | .var i => cVar se i e
  | .int i => cInt i e
  | .str s => cStr s e
  | .bl b => cBl b e
  | .non => cNon e
  | .gl g => cGl ge se g e
  | .op o ms => cC (r se) (.op o ms) e || cOp ge se (r se) o ms e
  | .lm o l ms => (match mName o with
    | some n => cMeth (fun x => decide (x = n)) (r se l) (fun es => if o = .pop ∨ o = .clear then es.isEmpty && ms.isEmpty else !es.isEmpty && cEs (r se) ms es) e
    | none => false)
  | .eqq neg a b => cC (r se) (.eqq neg a b) e
  | .inn neg a b => cC (r se) (.inn neg a b) e
  | .ch o1 o2 a b c => (match e with
    | .Compare x [p, q] [y, z] _ => (decide (o1 = .le ∧ p = .LtE) || decide (o1 = .lt ∧ p = .Lt)) && (decide (o2 = .le ∧ q = .LtE) || decide (o2 = .lt ∧ q = .Lt)) && r se a x && r se b y && r se c z && !(lastMarks [p, q] [y, z])
    | _ => false)
  | .and ms => cBool .And (cEs (r se) ms) e
  | .or ms => cBool .Or (cEs (r se) ms) e
  | .nott a => cUn .Not (r se a) e
  | .ifx c a b => (match e with | .IfExp x y z _ => rT se c x && r se a y && r se b z | _ => false)
  | .tup ms => (match e with | .Tuple es _ _ => cEs (r se) ms es && decide (ms.length ≤ 1000) | _ => false)
  | .lst _ ms => (match e with | .List es _ => cEs (r se) ms es && decide (ms.length ≤ 1000) | _ => false)
  | .dsp _ ms => (match e with | .Dict ks vs _ => cPs (r se) ms ks vs && !ks.isEmpty && decide (ks.length ≤ 15) | _ => false)
  | .call _ f ms => cCall (fun x => decide (ge.fns.lookup x = some f) && glB se x) (cEs (r se) ms) e
  | .new c nk ms => cNew ge se (r se) c nk ms e
  | .meth _ o m ms => cMeth (fun x => decide (x = ge.mN m)) (r se o) (cEs (r se) ms) e
  | .isi a sp => (match e, sp with
    | .Call (.Name x _) [y, z] [] _, [s] => decide (x = "isinstance") && blB ge se x && r se a y && !stB y && cSp ge se s z
    | _, _ => false)
  | .lc a b c d f g => cLc ge se r rT (.lc a b c d f g) e
  | .lc2 a b c d f g h i j => cLc ge se r rT (.lc2 a b c d f g h i j) e
  | .lcx a b c d f g => cLc ge se r rT (.lcx a b c d f g) e
  | .dc own tg it k v => (match e with
    | .DictComp ek ev [⟨et, ei, [], 0⟩] scope _ => cItg ge se (r se) it tg ei et (se.blk scope) && blkC se.N se.sc scope (ownOf se.N own) && r (se.blk scope) k ek && r (se.blk scope) v ev && subset tg.ix own
    | _ => false)
  | .fst ps => (match e with | .JoinedStr (v1 :: v2 :: es) _ => cFs (r se) ps (v1 :: v2 :: es) | _ => false)
  | .sup _ _ _ => false
  | .frz m => r se m e
  | .xn c ms => (match e with
    | .Call (.Name x _) es [] _ => decide (ge.exs.lookup x = some c) && glB se x && ge.xval && (match ms, es with | [], [] => !(ge.exw c) | [m], [e] => ge.exw c && r se m e && !stB e | _, _ => false)
    | _ => false)
  | .dct0 => (match e with | .Dict [] [] _ => true | _ => false)
def plainT : E → Bool
  | .var _ => true | .op o _ => !o.cmp | .lm _ _ _ => true | .call _ _ _ => true | .meth _ _ _ _ => true | .isi _ _ => true | .bl _ => true
  | _ => false
def stepT (ge : GEnv) (r rT : RE) (se : SEnv) (m : E) (e : Expr) : Bool := match m with
  | .and ms => cBool .And (cEs (fun m e => rT se m e) ms) e
  | .or ms => cBool .Or (cEs (fun m e => rT se m e) ms) e
  | .nott a => cUn .Not (rT se a) e
  | .ch o1 o2 a b c => stepE ge r rT se (.ch o1 o2 a b c) e
  | .eqq neg a b => cC (r se) (.eqq neg a b) e
  | .inn neg a b => cC (r se) (.inn neg a b) e
  | m => (cC (r se) m e) || (plainT m && !tsB e && r se m e)
def chkE (ge : GEnv) : Nat → RE × RE
  | 0 => (fun _ _ _ => false, fun _ _ _ => false)
  | n + 1 => (stepE ge (chkE ge n).1 (chkE ge n).2, stepT ge (chkE ge n).1 (chkE ge n).2)
end MS

set_option Elab.async false
set_option linter.all false
set_option maxRecDepth 100000
/-! MTC: the check is sound: the parts. -/
namespace MS
open PySem PySem.Spec PyProof.Rows L2
/-- what of a class of exceptions is needed, without a context -/
structure MkG (Γ : Run) (eb : EBase) (C fI : Addr) (fd : FuncData) (ps : List Str) (sp : L2.Sp) : Prop where
  T : ExC Γ.K eb C
  iC : PySem.W.findIn Γ.K (.ref C) "__init__" = some (some (.ref fI))
  tI : PySem.W.typeIn Γ.K (.ref fI) = some (.type "function")
  F1 : FnOk Γ.P Γ.w Γ.K Γ.mg Γ.base (L2.CX Γ.P Γ.w) 1 fI fd ps sp
  hb : Binds Γ.K fd ps []
theorem MkG.at {Γ : Run} {eb : EBase} {C fI : Addr} {fd : FuncData} {ps : List Str} {sp : L2.Sp} (M : MkG Γ eb C fI fd ps sp) {X : Cx} (S : Same Γ X) : MkC X eb C fI fd ps sp := by
  refine ⟨?_, ?_, ?_, ?_, ?_⟩
  · rw [S.K]; exact M.T
  · rw [S.K]; exact M.iC
  · rw [S.K]; exact M.tI
  · rw [S.P, S.w, S.K, S.mg, S.base]; exact M.F1
  · rw [S.K]; exact M.hb
/-- the names of the module mean what they are said to mean -/
structure GF (Γ : Run) (I : Info) (G : Tab) (ge : GEnv) : Prop where
  fn : ∀ x f, ge.fns.lookup x = some f → Γ.mg x = some (.ref (I.fA f)) ∧ PySem.W.keepIn Γ.K (.ref (I.fA f)) = true ∧ I.pos f = true
  cl : ∀ x c, ge.cls.lookup x = some c → Γ.mg x = some (.ref (Γ.cA c))
  gl : ∀ x g, ge.gls.lookup x = some g → ∃ t v u, G.gl g = some t ∧ Γ.mg x = some u ∧ RelV v u ∧ ∀ F, RT Γ F t v
  bl : ∀ x, ge.blt.contains x = true → Γ.mg x = none
  na : ∀ f, f < 20 → ∀ c, Γ.pl c = true → NoAttr Γ.K (Γ.cA c) (fldN f)
  mN : ∀ m, ge.mN m = I.mN m
  sps : ∀ s, ge.sps s = I.sps s
  ini : ∀ c, ge.ini c = G.ini c
  kp : ∀ c f, ge.kw c = none → G.ini c = some f → I.pos f = true
  kb : ∀ c kn f, ge.kw c = some kn → G.ini c = some f → ∀ (S' : Shared) (z w : Value) (us : List Value), Γ.K.In S'.heap → (z :: (us ++ [w])).length = (I.ps f).length → BindsTo S' (I.fd f) ⟨z :: us, [(kn, w)]⟩ ((I.ps f).zip (z :: (us ++ [w])))
  ex : ∀ x c, ge.exs.lookup x = some c → Γ.mg x = some (.ref (Γ.xA c)) ∧ ∃ (eb : EBase) (D fI : Addr) (fd : FuncData) (ps : List Str), MkG Γ eb (Γ.xA c) fI fd ps (if ge.exw c then spW Γ.K eb D else spN Γ.K eb D) ∧ SupE Γ.K eb (Γ.xA c) D ∧ (ge.exw c = true → PySem.W.findIn Γ.K (.ref (Γ.xA c)) "name" = some none)
  xm : ge.xval = false → ge.exs.isEmpty = false → ∀ d c, PySem.W.exmOne Γ.K (.ref (Γ.xA d)) (.ref (Γ.xA c)) = some (G.xi d c)
  xf : ge.xval = false → ∀ c, ge.exw c = true → ∀ d, G.xi d c = true → XfC Γ.K (Γ.xA d) ∧ PySem.W.findIn Γ.K (.ref (Γ.xA d)) "name" = some none
  xv : ge.xval = true → Γ.xv = true
  xc : ∀ x d, ge.xcs.lookup x = some d → Γ.mg x = some (.ref (Γ.xA d))
/-- where one stands, at X -/
structure XF (Γ : Run) (I : Info) (G : Tab) (k : Nat) (a b : Nat → List Val → MH Val) (X : Cx) (se : SEnv) : Prop where
  S : Same Γ X
  T : Ctx Γ X (G.cl a b) I k
  hN : X.N = se.N
  nd : X.N.Nodup
  hsc : X.env.scope = se.sc
  kind : X.env.scope.kind = .function
  fn : ∀ x, se.fn x = true → X.fn x = true
  tp : se.top = true → TopX X
section
variable {Γ : Run} {I : Info} {G : Tab} {k : Nat} {a b : Nat → List Val → MH Val} {X : Cx} {se : SEnv} {ge : GEnv}
theorem XF.tr (x : XF Γ I G k a b X se) (pn : List (Addr × Obj)) (xe : Value → Shared → Prop) : XF Γ I G k a b (X.tr pn xe) se :=
  ⟨⟨x.S.P, x.S.w, x.S.K, x.S.mg, x.S.base⟩, x.T.tr pn xe, x.hN, x.nd, x.hsc, x.kind, x.fn, fun h => ⟨(x.tp h).stk, (x.tp h).frm⟩⟩
theorem relabel_eq {env : Env} {scope : Scope} : relabel scope env = relS scope env.scope := rfl
theorem XF.blk (x : XF Γ I G k a b X se) {scope : Scope} (hk : scope.kind = .function) (s : Shared) (H : Hp) (D : Addr) (cl : List (Str × Addr)) (fp : List Addr) : XF Γ I G k a b (X.blk s H scope (compEnvC scope cl D X.env) fp) (se.blk scope) := by
  refine ⟨⟨x.S.P, x.S.w, x.S.K, x.S.mg, x.S.base⟩, x.T.blk s H scope _ fp, x.hN, x.nd, ?_, hk, fun y hy => hy, fun h => (by cases h)⟩
  show relabel scope X.env = relS scope se.sc
  rw [← x.hsc]
  rfl
theorem XF.blkX (x : XF Γ I G k a b X se) {scope : Scope} (hk : scope.kind = .function) (s : Shared) (H : Hp) (D : Addr) (cl : List (Str × Addr)) (fp : List Addr) (xe : Value → Shared → Prop) : XF Γ I G k a b (MS.blkX X s H scope (compEnvC scope cl D X.env) fp xe) (se.blk scope) := by
  refine ⟨⟨x.S.P, x.S.w, x.S.K, x.S.mg, x.S.base⟩, x.T.blkX s H scope _ fp xe, x.hN, x.nd, ?_, hk, fun y hy => hy, fun h => (by cases h)⟩
  show relabel scope X.env = relS scope se.sc
  rw [← x.hsc]
  rfl
theorem XF.gl (x : XF Γ I G k a b X se) {y : Str} (h : glB se y = true) : Gl X y ∧ (y == ("__debug__" : Str)) = false := by
  unfold glB at h
  rw [Bool.and_eq_true, Bool.not_eq_true', decide_eq_true_eq] at h
  refine ⟨?_, h.2⟩
  show X.env.scope.names.lookup y = _
  rw [x.hsc]; exact h.1
theorem XF.bl (x : XF Γ I G k a b X se) (gf : GF Γ I G ge) {y : Str} (h : blB ge se y = true) : Gl X y ∧ (y == ("__debug__" : Str)) = false ∧ X.mg y = none := by
  unfold blB at h
  rw [Bool.and_eq_true] at h
  obtain ⟨h1, h2⟩ := x.gl h.1
  exact ⟨h1, h2, by rw [x.S.mg]; exact gf.bl y h.2⟩
theorem XF.loc (x : XF Γ I G k a b X se) {y : Str} (h : locB se y = true) : L2.Loc X.env.scope y := by
  unfold locB at h
  rw [Bool.or_eq_true, decide_eq_true_eq, decide_eq_true_eq] at h
  show X.env.scope.names.lookup y = _ ∨ X.env.scope.names.lookup y = _
  rw [x.hsc]; exact h
theorem XF.vis (x : XF Γ I G k a b X se) {y : Str} (h : visB se y = true) : Vis X.env.scope y := by
  unfold visB at h
  rw [Bool.or_eq_true] at h
  rcases h with h | h
  · rcases x.loc h with h | h
    · exact .inl h
    · exact .inr (.inl h)
  · rw [decide_eq_true_eq] at h
    exact .inr (.inr (by rw [x.hsc]; exact h))
/-- what a check of expressions promises -/
def RS_ (Γ : Run) (I : Info) (G : Tab) (k : Nat) (a b : Nat → List Val → MH Val) (r : RE) : Prop := ∀ X se m e, XF Γ I G k a b X se → r se m e = true → SE Γ X e (evE (G.cl a b) m)
def RT_ (Γ : Run) (I : Info) (G : Tab) (k : Nat) (a b : Nat → List Val → MH Val) (r : RE) : Prop := ∀ X se m e, XF Γ I G k a b X se → r se m e = true → ST Γ X e (evT (G.cl a b) m)
theorem cEs_ok {r : E → Expr → Bool} {C : Cl} (hr : ∀ m e, r m e = true → SE Γ X e (evE C m)) : ∀ {ms : List E} {es : List Expr}, cEs r ms es = true → SEs Γ X C es ms ∧ es.any stB = false
  | [], [], _ => ⟨.nil, rfl⟩
  | [], _ :: _, h => by cases h
  | _ :: _, [], h => by cases h
  | m :: ms, e :: es, h => by
    unfold cEs at h
    rw [Bool.and_eq_true, Bool.and_eq_true, Bool.not_eq_true'] at h
    obtain ⟨h1, h2⟩ := cEs_ok hr h.2
    exact ⟨.cons (hr m e h.1.1) h.1.2 h1, by rw [List.any_cons, h.1.2, h2]; rfl⟩
theorem cBin_inv {op : Operator} {ra rb : Expr → Bool} {e : Expr} (h : cBin op ra rb e = true) : ∃ x y p, e = .BinOp x op y p ∧ ra x = true ∧ rb y = true := by
  unfold cBin at h
  split at h
  · rw [Bool.and_eq_true, Bool.and_eq_true, decide_eq_true_eq] at h
    obtain ⟨⟨rfl, h1⟩, h2⟩ := h
    exact ⟨_, _, _, rfl, h1, h2⟩
  · cases h
theorem cCmp_inv {op : CmpOp} {ra rb : Expr → Bool} {e : Expr} (h : cCmp op ra rb e = true) : ∃ x y p, e = .Compare x [op] [y] p ∧ ra x = true ∧ rb y = true ∧ seB y = false := by
  unfold cCmp at h
  split at h
  · rw [Bool.and_eq_true, Bool.and_eq_true, Bool.and_eq_true, decide_eq_true_eq, Bool.not_eq_true'] at h
    obtain ⟨⟨⟨rfl, h1⟩, h2⟩, h3⟩ := h
    exact ⟨_, _, _, rfl, h1, h2, h3⟩
  · cases h
theorem cUn_inv {op : UnaryOp} {ra : Expr → Bool} {e : Expr} (h : cUn op ra e = true) : ∃ x p, e = .UnaryOp op x p ∧ ra x = true := by
  unfold cUn at h
  split at h
  · rw [Bool.and_eq_true, decide_eq_true_eq] at h
    obtain ⟨rfl, h1⟩ := h
    exact ⟨_, _, rfl, h1⟩
  · cases h
theorem cBool_inv {op : BoolOp} {r : List Expr → Bool} {e : Expr} (h : cBool op r e = true) : ∃ es p, e = .BoolOp op es p ∧ es ≠ [] ∧ r es = true := by
  unfold cBool at h
  split at h
  · rename_i o es p
    rw [Bool.and_eq_true, Bool.and_eq_true, decide_eq_true_eq, Bool.not_eq_true'] at h
    obtain ⟨⟨rfl, h1⟩, h2⟩ := h
    exact ⟨es, p, rfl, (fun z => by rw [z] at h1; cases h1), h2⟩
  · cases h
theorem cCall_inv {t : Str → Bool} {r : List Expr → Bool} {e : Expr} (h : cCall t r e = true) : ∃ x p es q, e = .Call (.Name x p) es [] q ∧ t x = true ∧ r es = true := by
  unfold cCall at h
  split at h
  · rw [Bool.and_eq_true] at h
    exact ⟨_, _, _, _, rfl, h.1, h.2⟩
  · cases h
theorem cMeth_inv {t : Str → Bool} {ro : Expr → Bool} {r : List Expr → Bool} {e : Expr} (h : cMeth t ro r e = true) : ∃ o nm ap es cp, e = .Call (.Attribute o nm ap) es [] cp ∧ t nm = true ∧ ro o = true ∧ abB o = false ∧ es.length < 20 ∧ (ap.endLine == cp.line) = true ∧ r es = true := by
  unfold cMeth at h
  split at h
  · rw [Bool.and_eq_true, Bool.and_eq_true, Bool.and_eq_true, Bool.and_eq_true, Bool.and_eq_true, Bool.not_eq_true', decide_eq_true_eq] at h
    obtain ⟨⟨⟨⟨⟨h1, h2⟩, h3⟩, h4⟩, h5⟩, h6⟩ := h
    exact ⟨_, _, _, _, _, rfl, h1, h2, h3, h4, h5, h6⟩
  · cases h
theorem cSub_inv {ra ri : Expr → Bool} {e : Expr} (h : cSub ra ri e = true) : ∃ x y p, e = .Subscript x y p ∧ ra x = true ∧ ri y = true ∧ slB y = false := by
  unfold cSub at h
  split at h
  · rw [Bool.and_eq_true, Bool.and_eq_true, Bool.not_eq_true'] at h
    exact ⟨_, _, _, rfl, h.1.1, h.1.2, h.2⟩
  · cases h
theorem cAtt_inv {f : Nat} {ro : Expr → Bool} {e : Expr} (h : cAtt f ro e = true) : ∃ x nm p, e = .Attribute x nm p ∧ f < 20 ∧ nm = fldN f ∧ ro x = true ∧ abB x = false := by
  unfold cAtt at h
  split at h
  · rw [Bool.and_eq_true, Bool.and_eq_true, Bool.and_eq_true, Bool.not_eq_true', decide_eq_true_eq, decide_eq_true_eq] at h
    exact ⟨_, _, _, rfl, h.1.1.1, h.1.1.2, h.1.2, h.2⟩
  · cases h
theorem cVar_ok (x : XF Γ I G k a b X se) {i : Nat} {e : Expr} (h : cVar se i e = true) : SE Γ X e (evE (G.cl a b) (.var i)) := by
  unfold cVar at h
  split at h
  · rename_i y p
    rw [Bool.and_eq_true, Bool.and_eq_true, decide_eq_true_eq] at h
    obtain ⟨⟨h1, h2⟩, h3⟩ := h
    unfold okN at h3
    rw [Bool.and_eq_true, Bool.not_eq_true', Bool.not_eq_true'] at h3
    exact se_var (by rw [x.hN]; exact h1) (x.vis h2) h3.1 h3.2
  · cases h
theorem cGl_ok (x : XF Γ I G k a b X se) (gf : GF Γ I G ge) {g : Nat} {e : Expr} (h : cGl ge se g e = true) : SE Γ X e (evE (G.cl a b) (.gl g)) := by
  unfold cGl at h
  split at h
  · rename_i y p
    rw [Bool.and_eq_true, decide_eq_true_eq] at h
    obtain ⟨h1, h2⟩ := h
    obtain ⟨q1, q2⟩ := x.gl h2
    obtain ⟨t, v, u, e1, e2, e3, e4⟩ := gf.gl y g h1
    exact se_con (pe_glob q1 (by rw [x.S.mg]; exact e2) e3 q2) (fun loc => by simp only [evE]; show (match G.gl g with | some x => (MH.pure (Val.t x) : MH Val) | none => bad) = _; rw [e1]) e4
  · cases h
theorem cInt_ok {C : Cl} {i : Int} {e : Expr} (h : cInt i e = true) : SE Γ X e (evE C (.int i)) := by
  unfold cInt at h
  split at h
  · rw [decide_eq_true_eq] at h; subst h; exact se_int
  · cases h
theorem cStr_ok {C : Cl} {i : Str} {e : Expr} (h : cStr i e = true) : SE Γ X e (evE C (.str i)) := by
  unfold cStr at h
  split at h
  · rw [decide_eq_true_eq] at h; subst h; exact se_str
  · cases h
theorem cBl_inv {i : Bool} {e : Expr} (h : cBl i e = true) : ∃ j p, e = .Constant (.bool i) j p := by
  unfold cBl at h
  split at h
  · rw [decide_eq_true_eq] at h; subst h; exact ⟨_, _, rfl⟩
  · cases h
theorem cNon_inv {e : Expr} (h : cNon e = true) : ∃ j p, e = .Constant .none j p := by
  unfold cNon at h
  split at h
  · exact ⟨_, _, rfl⟩
  · cases h
/-! ### comparisons -/
theorem cC_ok (x : XF Γ I G k a b X se) {r : E → Expr → Bool} (hr : ∀ m e, r m e = true → SE Γ X e (evE (G.cl a b) m)) {m : E} {e : Expr} (h : cC r m e = true) : SC Γ X e (evE (G.cl a b) m) := by
  unfold cC at h
  split at h
  · obtain ⟨y, z, p, rfl, h1, h2, h3⟩ := cCmp_inv h; exact sc_cmp op_lt lk_lt (hr _ _ h1) (hr _ _ h2) h3
  · obtain ⟨y, z, p, rfl, h1, h2, h3⟩ := cCmp_inv h; exact sc_cmp op_le lk_le (hr _ _ h1) (hr _ _ h2) h3
  · obtain ⟨y, z, p, rfl, h1, h2, h3⟩ := cCmp_inv h; exact sc_cmp op_gt lk_gt (hr _ _ h1) (hr _ _ h2) h3
  · obtain ⟨y, z, p, rfl, h1, h2, h3⟩ := cCmp_inv h; exact sc_cmp op_ge lk_ge (hr _ _ h1) (hr _ _ h2) h3
  · obtain ⟨y, z, p, rfl, h1, h2, h3⟩ := cCmp_inv h; obtain ⟨j, q, rfl⟩ := cNon_inv h2; exact sc_isN (hr _ _ h1)
  · obtain ⟨y, z, p, rfl, h1, h2, h3⟩ := cCmp_inv h; obtain ⟨j, q, rfl⟩ := cNon_inv h2; exact sc_isnN (hr _ _ h1)
  · obtain ⟨y, z, p, rfl, h1, h2, h3⟩ := cCmp_inv h; obtain ⟨j, q, rfl⟩ := cBl_inv h2; exact sc_isB (hr _ _ h1)
  · obtain ⟨y, z, p, rfl, h1, h2, h3⟩ := cCmp_inv h; obtain ⟨j, q, rfl⟩ := cBl_inv h2; exact sc_isnB (hr _ _ h1)
  · obtain ⟨y, z, p, rfl, h1, h2, h3⟩ := cCmp_inv h; exact sc_eq x.T (hr _ _ h1) (hr _ _ h2) h3
  · obtain ⟨y, z, p, rfl, h1, h2, h3⟩ := cCmp_inv h; exact sc_ne x.T (hr _ _ h1) (hr _ _ h2) h3
  · obtain ⟨y, z, p, rfl, h1, h2, h3⟩ := cCmp_inv h; exact sc_in x.T (hr _ _ h1) (hr _ _ h2) h3
  · obtain ⟨y, z, p, rfl, h1, h2, h3⟩ := cCmp_inv h; exact sc_notIn x.T (hr _ _ h1) (hr _ _ h2) h3
  · cases h
/-! ### operators and calls of built-ins -/
theorem noSl_of {e : Expr} (h : slB e = false) : NoSl e := by
  intro ov iv
  cases e <;> first | rfl | cases h
theorem cOp_ok (x : XF Γ I G k a b X se) (gf : GF Γ I G ge) {r : E → Expr → Bool} (hr : ∀ m e, r m e = true → SE Γ X e (evE (G.cl a b) m)) {o : Op} {ms : List E} {e : Expr} (h : cOp ge se r o ms e = true) : SE Γ X e (evE (G.cl a b) (.op o ms)) := by
  have hK := x.T.hK
  have cu := x.T.cu
  unfold cOp at h
  split at h
  · obtain ⟨y, z, p, rfl, h1, h2⟩ := cBin_inv h; exact se_bin op_addAll (by rw [hK]; exact lk_add) (hr _ _ h1) (hr _ _ h2)
  · obtain ⟨y, z, p, rfl, h1, h2⟩ := cBin_inv h; exact se_bin op_sub lk_sub (hr _ _ h1) (hr _ _ h2)
  · obtain ⟨y, z, p, rfl, h1, h2⟩ := cBin_inv h; exact se_bin op_mulAll lk_mul (hr _ _ h1) (hr _ _ h2)
  · obtain ⟨y, z, p, rfl, h1, h2⟩ := cBin_inv h; exact se_bin op_fdivN lk_fdv (hr _ _ h1) (hr _ _ h2)
  · obtain ⟨y, z, p, rfl, h1, h2⟩ := cBin_inv h; exact se_bin op_modN lk_mod (hr _ _ h1) (hr _ _ h2)
  · obtain ⟨y, z, p, rfl, h1, h2⟩ := cBin_inv h; exact se_bin op_pow lk_pow (hr _ _ h1) (hr _ _ h2)
  · obtain ⟨y, p, rfl, h1⟩ := cUn_inv h; exact se_un un_neg lk_neg (hr _ _ h1)
  · obtain ⟨y, z, p, rfl, h1, h2, h3⟩ := cSub_inv h; exact se_ix ix_seq (by rw [hK]; exact lk_idx) (hr _ _ h1) (hr _ _ h2) h3
  · obtain ⟨y, z, p, rfl, h1, h2, h3⟩ := cSub_inv h; exact se_dget (by omega) (hr _ _ h1) (hr _ _ h2) (noSl_of h3)
  · split at h
    · exact se_slc00 hK (hr _ _ h)
    · cases h
  · split at h
    · rw [Bool.and_eq_true] at h; exact se_slc10 hK (hr _ _ h.1) (hr _ _ h.2)
    · cases h
  · split at h
    · rw [Bool.and_eq_true] at h; exact se_slc01 hK (hr _ _ h.1) (hr _ _ h.2)
    · cases h
  · obtain ⟨y, nm, p, rfl, h1, h2, h3, h4⟩ := cAtt_inv h
    exact se_fld h2 h1 hK (fun c pc => by rw [← hK]; exact x.T.cls c pc) (gf.na _ h1) (hr _ _ h3) h4
  · split at h
    · rw [Bool.and_eq_true, Bool.and_eq_true, Bool.not_eq_true', decide_eq_true_eq] at h
      obtain ⟨⟨rfl, h1⟩, h2⟩ := h
      exact se_xnm x.T (hr _ _ h1) h2
    · cases h
  · split at h
    · rw [Bool.and_eq_true, Bool.and_eq_true, decide_eq_true_eq] at h
      obtain ⟨⟨rfl, h1⟩, h2⟩ := h
      exact se_slc11 hK (hr _ _ h1) (hr _ _ h2)
    · cases h
  · split at h
    · rename_i y p z q w p2 p3
      rw [Bool.and_eq_true, Bool.and_eq_true, Bool.and_eq_true, Bool.and_eq_true, Bool.and_eq_true, Bool.not_eq_true', decide_eq_true_eq, decide_eq_true_eq] at h
      obtain ⟨⟨⟨⟨⟨rfl, rfl⟩, h1⟩, h2⟩, h3⟩, h4⟩ := h
      obtain ⟨g1, _, m1⟩ := x.bl gf h1
      obtain ⟨g2, _, m2⟩ := x.bl gf h2
      exact se_lrng x.T.calm g1 m1 g2 m2 h3 (hr _ _ h4)
    · cases h
  · split at h
    · rw [Bool.and_eq_true, Bool.and_eq_true, Bool.and_eq_true, Bool.and_eq_true, Bool.not_eq_true', decide_eq_true_eq, decide_eq_true_eq] at h
      obtain ⟨⟨⟨⟨rfl, rfl⟩, h3⟩, h4⟩, h5⟩ := h
      exact se_split (hr _ _ h3) h4 h5
    · cases h
  · split at h
    · rename_i n hn
      obtain ⟨y, p, es, q, rfl, h1, h2⟩ := cCall_inv h
      rw [Bool.and_eq_true, decide_eq_true_eq] at h1
      obtain ⟨rfl, h1⟩ := h1
      obtain ⟨g1, d1, m1⟩ := x.bl gf h1
      rw [Bool.and_eq_true, Bool.not_eq_true'] at h2
      obtain ⟨h2, h3⟩ := h2
      obtain ⟨s1, s2⟩ := cEs_ok hr h3
      cases es with
      | nil => cases h2
      | cons e es =>
        unfold bName at hn
        split at hn
        · cases hn; exact se_callB call_len (by rw [hK]; exact lk_len) g1 m1 (by with_unfolding_all rfl) s1.sa s2
        · cases hn; exact se_callB call_abs lk_abs g1 m1 (by with_unfolding_all rfl) s1.sa s2
        · cases hn; exact se_callTy call_int1 lk_int1 g1 m1 (by with_unfolding_all rfl) s1.sa s2
        · cases hn; exact se_callTy call_str_int lk_str1 g1 m1 (by with_unfolding_all rfl) s1.sa s2
        · cases hn; exact se_callTy call_list_of (by rw [hK]; exact lk_list) g1 m1 (by with_unfolding_all rfl) s1.sa s2
        · cases hn; exact se_callTy call_tupleF (by rw [hK]; exact lk_tuple) g1 m1 (by with_unfolding_all rfl) s1.sa s2
        · cases hn; exact se_callB (call_max2 x.T.calm) lk_max2 g1 m1 (by with_unfolding_all rfl) s1.sa s2
        · cases hn; exact se_callB (call_min2 x.T.calm) lk_min2 g1 m1 (by with_unfolding_all rfl) s1.sa s2
        · cases hn; exact se_callB (cr_any x.T.calm) (by rw [hK]; exact lk_any) g1 m1 (by with_unfolding_all rfl) s1.sa s2
        · cases hn; exact se_callB (cr_all x.T.calm) (by rw [hK]; exact lk_all) g1 m1 (by with_unfolding_all rfl) s1.sa s2
        · cases hn; exact se_callB (cr_sum x.T.calm) (by rw [hK]; exact lk_sum) g1 m1 (by with_unfolding_all rfl) s1.sa s2
        · cases hn; exact se_callB call_max1 lk_max1 g1 m1 (by with_unfolding_all rfl) s1.sa s2
        · cases hn
    · cases h
end
end MS

set_option Elab.async false
set_option linter.all false
set_option maxRecDepth 100000
/-! MTD: the check is sound: expressions. -/
namespace MS
open PySem PySem.Spec PyProof.Rows L2
section
variable {Γ : Run} {I : Info} {G : Tab} {k : Nat} {a b : Nat → List Val → MH Val} {X : Cx} {se : SEnv} {ge : GEnv}
theorem lk_indexL (s : AS) (H : Hp) (a : Val) (vs : List Val) (u : V) (us : List V) (Q : VK) (E : Ex → AS → Hp → Prop) (R : Rel Γ s H) (r : RV Γ s.F s.ρ a u) (rs : RVs Γ s.F s.ρ vs us) (nt : ∀ xs, a ≠ .t (.tup xs)) (A : After Γ s (opM .index (a :: vs) s.hp) (fun x s' H' => ∀ z, RV Γ s'.F s'.ρ x z → Q z H') E) : rIndexD Γ.K u us H Q := by
  match vs, rs with
  | [v], .cons rv .nil =>
    rename_i w
    change After Γ s (seqD a (fun ds => MH.bind (MS.pur v) fun x => match x.data with | some d => (match ds.findIdx? fun z => PyData.eqv z d with | some j => int (j : Nat) | none => bad) | none => bad) s.hp) _ _ at A
    obtain ⟨ds, s1, x1, R1, ⟨q, e⟩, d1, h1, A⟩ := A.seqDL R r nt
    obtain ⟨d, s2, x2, R2, d2, h2, A⟩ := A.datP R1 (rv.ext x1)
    subst e
    cases hj : ds.findIdx? fun z => PyData.eqv z d with
    | none => rw [hj] at A; exact A.elim
    | some j =>
      rw [hj] at A
      obtain ⟨z, hz, hz1, hz2⟩ := find_facts hj
      exact ⟨q, w, d, ds, j, z, rfl, rfl, d1, d2, h1, h2, hz, hz1, hz2, After.ok R2 A _ (rv_int.mpr rfl)⟩
  | [], _ => exact A.elim
  | _ :: _ :: _, _ => exact A.elim
/-- methods of lists -/
theorem cLm_ok (x : XF Γ I G k a b X se) {r : E → Expr → Bool} (hr : ∀ m e, r m e = true → SE Γ X e (evE (G.cl a b) m)) {o : Op} {n : Str} {l : E} {ms : List E} {e : Expr} (hn : mName o = some n) (h : cMeth (fun x => decide (x = n)) (r l) (fun es => if o = .pop ∨ o = .clear then es.isEmpty && ms.isEmpty else !es.isEmpty && cEs r ms es) e = true) : SE Γ X e (evE (G.cl a b) (.lm o l ms)) := by
  have hK := x.T.hK
  have cu := x.T.cu
  obtain ⟨y, nm, ap, es, cp, rfl, h1, h2, h3, h4, h5, h6⟩ := cMeth_inv h
  rw [decide_eq_true_eq] at h1
  subst h1
  have ho := hr _ _ h2
  have none0 : (o = .pop ∨ o = .clear) → es = [] ∧ ms = [] := fun z => by
    rw [if_pos z, Bool.and_eq_true] at h6
    exact ⟨List.isEmpty_iff.mp h6.1, List.isEmpty_iff.mp h6.2⟩
  have some1 : ¬ (o = .pop ∨ o = .clear) → ∃ e es', es = e :: es' ∧ SEs Γ X (G.cl a b) (e :: es') ms ∧ (e :: es').any stB = false := fun z => by
    rw [if_neg z, Bool.and_eq_true, Bool.not_eq_true'] at h6
    obtain ⟨s1, s2⟩ := cEs_ok hr h6.2
    cases es with
    | nil => cases h6.1
    | cons e es' => exact ⟨e, es', rfl, s1, s2⟩
  unfold mName at hn
  split at hn
  · cases hn
    obtain ⟨e, es', rfl, s1, s2⟩ := some1 (by simp)
    exact se_lmL (r := rAppend) rfl PySem.F.slot_list_append PySem.F.type_list_append mt_append lk_append hK ho s1.sa h3 s2 h4 h5
  · cases hn
    obtain ⟨rfl, rfl⟩ := none0 (by simp)
    exact se_lmL0 (r := rPop) rfl PySem.F.slot_list_pop PySem.F.type_list_pop mt_pop lk_pop hK ho h3 h5
  · cases hn
    obtain ⟨rfl, rfl⟩ := none0 (by simp)
    exact se_lmL0 (r := rClear) rfl PySem.F.slot_list_clear PySem.F.type_list_clear mt_clear lk_clear hK ho h3 h5
  · cases hn
    obtain ⟨e, es', rfl, s1, s2⟩ := some1 (by simp)
    exact se_lmT PySem.F.slot_list_count PySem.F.type_list_count (mt_countD cu) PySem.F.slot_tuple_count PySem.F.type_tuple_count (mt_countT cu) hK
      (fun s H v vs u us Q E R r rs nt A => by rw [hK]; exact lk_countL s H v vs u us Q E R r rs nt A) (fun s H xs vs u us Q E R r rs A => by rw [hK]; exact lk_countT s H xs vs u us Q E R r rs A) ho s1.sa h3 s2 h4 h5
  · cases hn
    obtain ⟨e, es', rfl, s1, s2⟩ := some1 (by simp)
    exact se_lmT PySem.F.slot_list_index PySem.F.type_list_index (mt_indexD cu) PySem.F.slot_tuple_index PySem.F.type_tuple_index (mt_indexT cu) hK
      (fun s H v vs u us Q E R r rs nt A => by rw [hK]; exact lk_indexL s H v vs u us Q E R r rs nt A) (fun s H xs vs u us Q E R r rs A => by rw [hK]; exact lk_indexT s H xs vs u us Q E R r rs A) ho s1.sa h3 s2 h4 h5
  · cases hn
theorem cMt_ok (x : XF Γ I G k a b X se) (gf : GF Γ I G ge) {r : E → Expr → Bool} (hr : ∀ m e, r m e = true → SE Γ X e (evE (G.cl a b) m)) {raw : Bool} {o : E} {m : Nat} {ms : List E} {e : Expr} (h : cMeth (fun x => decide (x = ge.mN m)) (r o) (cEs r ms) e = true) : SE Γ X e (evE (G.cl a b) (.meth raw o m ms)) := by
  obtain ⟨y, nm, ap, es, cp, rfl, h1, h2, h3, h4, h5, h6⟩ := cMeth_inv h
  rw [decide_eq_true_eq] at h1
  have h1 : nm = I.mN m := h1.trans (gf.mN m)
  obtain ⟨s1, s2⟩ := cEs_ok hr h6
  have ho := hr _ _ h2
  cases s1 with
  | nil => exact se_meth0 x.T h1 ho h3 h5
  | cons q hs t => exact se_meth x.T h1 ho (SEs.cons q hs t).sa h3 s2 h4 h5
theorem cFn_ok (x : XF Γ I G k a b X se) (gf : GF Γ I G ge) {r : E → Expr → Bool} (hr : ∀ m e, r m e = true → SE Γ X e (evE (G.cl a b) m)) {raw : Bool} {f : Nat} {ms : List E} {e : Expr} (h : cCall (fun x => decide (ge.fns.lookup x = some f) && glB se x) (cEs r ms) e = true) : SE Γ X e (evE (G.cl a b) (.call raw f ms)) := by
  obtain ⟨y, p, es, q, rfl, h1, h2⟩ := cCall_inv h
  rw [Bool.and_eq_true, decide_eq_true_eq] at h1
  obtain ⟨g1, d1⟩ := x.gl h1.2
  obtain ⟨m1, k1, hp⟩ := gf.fn y f h1.1
  obtain ⟨s1, s2⟩ := cEs_ok hr h2
  cases s1 with
  | nil => exact se_call0 x.T hp g1 (by rw [x.S.mg]; exact m1) (by rw [x.S.K]; exact k1) d1
  | cons q hs t => exact se_call x.T hp g1 (by rw [x.S.mg]; exact m1) (by rw [x.S.K]; exact k1) (SEs.cons q hs t).sa s2 d1
theorem snoc_of {α : Type} {l : List α} {x : α} (h : l.getLast? = some x) : l = l.dropLast ++ [x] := by
  cases l with
  | nil => cases h
  | cons y ys =>
    rw [List.getLast?_eq_some_getLast (by simp)] at h
    cases h
    exact (List.dropLast_concat_getLast (by simp)).symm
theorem cNew_ok (x : XF Γ I G k a b X se) (gf : GF Γ I G ge) {r : E → Expr → Bool} (hr : ∀ m e, r m e = true → SE Γ X e (evE (G.cl a b) m)) {c nk : Nat} {ms : List E} {e : Expr} (h : cNew ge se r c nk ms e = true) : SE Γ X e (evE (G.cl a b) (.new c nk ms)) := by
  unfold cNew at h
  split at h
  · rename_i y p es q
    rw [Bool.and_eq_true, Bool.and_eq_true, Bool.and_eq_true, Bool.and_eq_true, Bool.and_eq_true, decide_eq_true_eq, decide_eq_true_eq] at h
    obtain ⟨⟨⟨⟨⟨rfl, h1⟩, h2⟩, h3⟩, h5⟩, h4⟩ := h
    obtain ⟨g1, d1⟩ := x.gl h2
    have m1 := gf.cl y c h1
    rw [gf.ini] at h3
    obtain ⟨f, hf⟩ := Option.isSome_iff_exists.mp h3
    have hp := gf.kp c f (Option.isNone_iff_eq_none.mp h5) hf
    obtain ⟨s1, s2⟩ := cEs_ok hr h4
    cases s1 with
    | nil => exact se_new0 x.T hf hp g1 (by rw [x.S.mg]; exact m1) d1
    | cons q hs t => exact se_new x.T hf hp g1 (by rw [x.S.mg]; exact m1) (SEs.cons q hs t).sa s2 d1
  · rename_i y p es kn ek kp q
    rw [Bool.and_eq_true, Bool.and_eq_true, Bool.and_eq_true, Bool.and_eq_true, Bool.and_eq_true, Bool.and_eq_true, decide_eq_true_eq, decide_eq_true_eq, decide_eq_true_eq, Bool.not_eq_true'] at h
    obtain ⟨⟨⟨⟨⟨⟨rfl, h1⟩, h2⟩, h3⟩, h5⟩, h6⟩, h4⟩ := h
    obtain ⟨g1, d1⟩ := x.gl h2
    have m1 := gf.cl y c h1
    rw [gf.ini] at h3
    obtain ⟨f, hf⟩ := Option.isSome_iff_exists.mp h3
    split at h4
    · rename_i mk hmk
      rw [Bool.and_eq_true] at h4
      obtain ⟨s1, s2⟩ := cEs_ok hr h4.2
      have e1 := snoc_of hmk
      rw [e1]
      cases es with
      | nil => cases h6
      | cons e es => exact se_newK x.T hf g1 (by rw [x.S.mg]; exact m1) (fun S' z w us hS hl => gf.kb c kn f h5 hf S' z w us (by rw [← x.S.K]; exact hS) hl) s1.sa (hr _ _ h4.1) s2 d1
    · cases h4
  · cases h
end
end MS

set_option Elab.async false
set_option linter.all false
set_option maxRecDepth 100000
/-! MTE: the check is sound: targets, sources, comprehensions. -/
namespace MS
open PySem PySem.Spec PyProof.Rows L2
section
variable {Γ : Run} {I : Info} {G : Tab} {k : Nat} {a b : Nat → List Val → MH Val} {X : Cx} {se : SEnv} {ge : GEnv}
mutual
theorem cTg_ok (x : XF Γ I G k a b X se) : ∀ (tg : Tg) {bb : Bool} {e : Expr}, cTg se bb tg e = true → SG Γ X bb e tg
  | .v i, bb, e, h => by
    simp only [cTg] at h
    split at h
    · rename_i y p
      rw [Bool.and_eq_true, Bool.and_eq_true, Bool.and_eq_true, Bool.not_eq_true', decide_eq_true_eq, Bool.or_eq_true, decide_eq_true_eq] at h
      obtain ⟨⟨⟨rfl, h1⟩, h2⟩, h3⟩ := h
      exact sg_v x.nd (by rw [x.hN]; exact h1) (x.loc h2) (h3.elim (fun z => .inl (x.fn y z)) fun z => .inr (by rw [x.hsc]; exact z))
    · cases h
  | .tp ts, bb, e, h => by
    simp only [cTg] at h
    split at h
    · rename_i es j p
      obtain ⟨h1, h2, h3⟩ := cTgs_ok x ts h
      exact sg_tp x.T.calm h1 h2 h3 x.T.hK
    · cases h
theorem cTgs_ok (x : XF Γ I G k a b X se) : ∀ (ts : List Tg) {es : List Expr}, cTgs se ts es = true → PGs X es (tGs Γ ts) ∧ es.length = ts.length ∧ es.any stB = false
  | [], es, h => by
    simp only [cTgs] at h
    cases es with
    | nil => exact ⟨sgs_nil, rfl, rfl⟩
    | cons _ _ => cases h
  | t :: ts, es, h => by
    simp only [cTgs] at h
    cases es with
    | nil => cases h
    | cons e es =>
      dsimp only at h
      rw [Bool.and_eq_true, Bool.and_eq_true, Bool.not_eq_true'] at h
      obtain ⟨⟨h1, h2⟩, h3⟩ := h
      obtain ⟨q1, q2, q3⟩ := cTgs_ok x ts h3
      exact ⟨sgs_cons (cTg_ok x t h1) q1 h2, by rw [List.length_cons, List.length_cons, q2], by rw [List.any_cons, h2, q3]; rfl⟩
end
theorem cItg_ok (x : XF Γ I G k a b X se) (gf : GF Γ I G ge) {r : E → Expr → Bool} (hr : ∀ m e, r m e = true → SE Γ X e (evE (G.cl a b) m)) {it : It} {tg : Tg} {e t : Expr} {se2 : SEnv} (h : cItg ge se r it tg e t se2 = true) :
    SI Γ X (isPair it) t e (evIt (G.cl a b) it) ∧ (∀ X2, XF Γ I G k a b X2 se2 → SG Γ X2 (isPair it) t tg) ∧ ∀ m, it ≠ .liv m := by
  unfold cItg at h
  rw [Bool.and_eq_true, Bool.and_eq_true, Bool.or_eq_true, Bool.not_eq_true'] at h
  obtain ⟨⟨h1, h2⟩, h3⟩ := h
  refine ⟨?_, fun X2 x2 => cTg_ok x2 tg h2, ?_⟩
  · unfold cIt at h1
    split at h1
    · rw [Bool.and_eq_true, Bool.not_eq_true'] at h1
      exact si_seq x.T.hK (hr _ _ h1.1) h1.2
    · obtain ⟨y, p, es, q, rfl, h4, h5⟩ := cCall_inv h1
      rw [Bool.and_eq_true, decide_eq_true_eq] at h4
      obtain ⟨rfl, h4⟩ := h4
      obtain ⟨g1, _, m1⟩ := x.bl gf h4
      split at h5
      · rw [Bool.and_eq_true, Bool.not_eq_true'] at h5
        exact si_rng1 g1 m1 (hr _ _ h5.1) h5.2
      · cases h5
    · obtain ⟨y, p, es, q, rfl, h4, h5⟩ := cCall_inv h1
      rw [Bool.and_eq_true, decide_eq_true_eq] at h4
      obtain ⟨rfl, h4⟩ := h4
      obtain ⟨g1, _, m1⟩ := x.bl gf h4
      split at h5
      · rw [Bool.and_eq_true, Bool.and_eq_true, Bool.and_eq_true, Bool.not_eq_true', Bool.not_eq_true'] at h5
        exact si_rng2 g1 m1 (hr _ _ h5.1.1.1) h5.1.1.2 (hr _ _ h5.1.2) h5.2
      · cases h5
    · obtain ⟨y, p, es, q, rfl, h4, h5⟩ := cCall_inv h1
      rw [Bool.and_eq_true, decide_eq_true_eq] at h4
      obtain ⟨rfl, h4⟩ := h4
      obtain ⟨g1, _, m1⟩ := x.bl gf h4
      have ht : isTup t = true := h3.elim (fun z => by cases z) id
      split at h5
      · rw [Bool.and_eq_true, Bool.not_eq_true'] at h5
        cases t with
        | Tuple es j p => exact si_enum x.T.hK g1 m1 (hr _ _ h5.1) h5.2
        | _ => cases ht
      · cases h5
    · obtain ⟨y, p, es, q, rfl, h4, h5⟩ := cCall_inv h1
      rw [Bool.and_eq_true, decide_eq_true_eq] at h4
      obtain ⟨rfl, h4⟩ := h4
      obtain ⟨g1, _, m1⟩ := x.bl gf h4
      have ht : isTup t = true := h3.elim (fun z => by cases z) id
      split at h5
      · rw [Bool.and_eq_true, Bool.and_eq_true, Bool.and_eq_true, Bool.not_eq_true', Bool.not_eq_true'] at h5
        cases t with
        | Tuple es j p => exact si_zip x.T.hK g1 m1 (hr _ _ h5.1.1.1) h5.1.1.2 (hr _ _ h5.1.2) h5.2
        | _ => cases ht
      · cases h5
    · cases h1
  · rintro m rfl
    unfold cIt at h1
    cases h1
theorem cTs_ok {r : E → Expr → Bool} {C : Cl} (hr : ∀ m e, r m e = true → ST Γ X e (evT C m)) {ms : List E} {es : List Expr} (h : cTs r ms es = true) : SPT Γ X es (evTs C ms) := by
  unfold cTs at h
  split at h
  · exact spt_nil
  · exact spt_one (hr _ _ h)
  · cases h
theorem subset_ok {x y : List Nat} (h : subset x y = true) : ∀ i ∈ x, i ∈ y := by
  unfold subset at h
  intro i hi
  have := List.all_eq_true.mp h i hi
  simpa using this
theorem own_map {N : List Str} {own : List Nat} : (ownOf N own).map (·.2) = own := by
  unfold ownOf
  rw [List.map_map]
  exact List.map_id' own
theorem blk_kind {N : List Str} {sc scope : Scope} {own : List (Str × Nat)} (h : blkC N sc scope own = true) : scope.kind = .function := (blkOk_by h).kind
theorem cLc1_ok (x : XF Γ I G k a b X se) (gf : GF Γ I G ge) {r rT : RE} (hr : RS_ Γ I G k a b r) (hT : RT_ Γ I G k a b rT) {m : Bool} {own : List Nat} {tg : Tg} {it : It} {ifs : List E} {y : E} {ee et ei : Expr} {efs : List Expr} {scope : Scope} {p : Pos}
    (h : cLc ge se r rT (.lc m own tg it ifs y) (.ListComp ee [⟨et, ei, efs, 0⟩] scope p) = true) : LcOk Γ X (G.cl a b) (isPair it) scope (ownOf se.N own) tg it ifs y et ei ee efs := by
  have h : (cItg ge se (r se) it tg ei et (se.blk scope) && blkC se.N se.sc scope (ownOf se.N own) && cTs (rT (se.blk scope)) ifs efs && r (se.blk scope) y ee && subset tg.ix own) = true := h
  rw [Bool.and_eq_true, Bool.and_eq_true, Bool.and_eq_true, Bool.and_eq_true] at h
  obtain ⟨⟨⟨⟨h1, h2⟩, h3⟩, h4⟩, h5⟩ := h
  have hk := blk_kind h2
  obtain ⟨q1, q2, _⟩ := cItg_ok x gf (hr X se · · x) h1
  refine ⟨q1, ?_, fun s H D cl fp => q2 _ (x.blk hk s H D cl fp), fun s H D cl fp => cTs_ok (fun m e hm => hT _ _ m e (x.blk hk s H D cl fp) hm) h3, fun s H D cl fp => hr _ _ _ _ (x.blk hk s H D cl fp) h4, ?_⟩
  · rw [x.hN, x.hsc]; exact blkOk_by h2
  · rw [own_map]; exact subset_ok h5
theorem cTx_ok {r : E → Expr → Bool} {C : Cl} (hr : ∀ m e, r m e = true → ST Γ X e (evT C m)) {ms : List E} {es : List Expr} (h : cTs r ms es = true) : SPX Γ X es (evTs C ms) := by
  unfold cTs at h
  split at h
  · exact spx_nil
  · exact spx_one (hr _ _ h)
  · cases h
theorem cLcX_ok (x : XF Γ I G k a b X se) (gf : GF Γ I G ge) {r rT : RE} (hr : RS_ Γ I G k a b r) (hT : RT_ Γ I G k a b rT) {m : Bool} {own : List Nat} {tg : Tg} {it : It} {ifs : List E} {y : E} {ee et ei : Expr} {efs : List Expr} {scope : Scope} {p : Pos}
    (h : cLc ge se r rT (.lcx m own tg it ifs y) (.ListComp ee [⟨et, ei, efs, 0⟩] scope p) = true) : LcX Γ X (G.cl a b) (isPair it) scope (ownOf se.N own) tg it ifs y et ei ee efs ∧ TopX X := by
  have h : (cItg ge se (r se) it tg ei et (se.blk scope) && blkC se.N se.sc scope (ownOf se.N own) && cTs (rT (se.blk scope)) ifs efs && r (se.blk scope) y ee && subset tg.ix own && se.top) = true := h
  rw [Bool.and_eq_true, Bool.and_eq_true, Bool.and_eq_true, Bool.and_eq_true, Bool.and_eq_true] at h
  obtain ⟨⟨⟨⟨⟨h1, h2⟩, h3⟩, h4⟩, h5⟩, h6⟩ := h
  have hk := blk_kind h2
  obtain ⟨q1, q2, _⟩ := cItg_ok x gf (hr X se · · x) h1
  refine ⟨⟨q1, ?_, fun s H D cl fp xe => q2 _ (x.blkX hk s H D cl fp xe), fun s H D cl fp xe => cTx_ok (fun m e hm => hT _ _ m e (x.blkX hk s H D cl fp xe) hm) h3, fun s H D cl fp xe => hr _ _ _ _ (x.blkX hk s H D cl fp xe) h4, ?_⟩, x.tp h6⟩
  · rw [x.hN, x.hsc]; exact blkOk_by h2
  · rw [own_map]; exact subset_ok h5
theorem cLc2_ok (x : XF Γ I G k a b X se) (gf : GF Γ I G ge) {r rT : RE} (hr : RS_ Γ I G k a b r) (hT : RT_ Γ I G k a b rT) {m : Bool} {own : List Nat} {tg tg1 : Tg} {it it1 : It} {ifs ifs1 : List E} {y : E} {ee et ei et1 ei1 : Expr} {efs efs1 : List Expr} {scope : Scope} {p : Pos}
    (h : cLc ge se r rT (.lc2 m own tg it ifs tg1 it1 ifs1 y) (.ListComp ee [⟨et, ei, efs, 0⟩, ⟨et1, ei1, efs1, 0⟩] scope p) = true) : Lc2Ok Γ X (G.cl a b) (isPair it) (isPair it1) scope (ownOf se.N own) tg it ifs tg1 it1 ifs1 y et ei et1 ei1 ee efs efs1 := by
  have h : (cItg ge se (r se) it tg ei et (se.blk scope) && blkC se.N se.sc scope (ownOf se.N own) && cTs (rT (se.blk scope)) ifs efs && r (se.blk scope) y ee && subset tg.ix own && subset tg1.ix own && cItg ge (se.blk scope) (r (se.blk scope)) it1 tg1 ei1 et1 (se.blk scope) && cTs (rT (se.blk scope)) ifs1 efs1 && !ffB ei1) = true := h
  rw [Bool.and_eq_true, Bool.and_eq_true, Bool.and_eq_true, Bool.and_eq_true, Bool.and_eq_true, Bool.and_eq_true, Bool.and_eq_true, Bool.and_eq_true, Bool.not_eq_true'] at h
  obtain ⟨⟨⟨⟨⟨⟨⟨⟨h1, h2⟩, h3⟩, h4⟩, h5⟩, h6⟩, h7⟩, h8⟩, h9⟩ := h
  have hk := blk_kind h2
  obtain ⟨q1, q2, _⟩ := cItg_ok x gf (hr X se · · x) h1
  refine ⟨q1, ?_, ?_, fun s H D cl fp => q2 _ (x.blk hk s H D cl fp), fun s H D cl fp => cTs_ok (fun m e hm => hT _ _ m e (x.blk hk s H D cl fp) hm) h3, fun s H D cl fp => (cItg_ok (x.blk hk s H D cl fp) gf (hr _ _ · · (x.blk hk s H D cl fp)) h7).1, fun s H D cl fp => (cItg_ok (x.blk hk s H D cl fp) gf (hr _ _ · · (x.blk hk s H D cl fp)) h7).2.1 _ (x.blk hk s H D cl fp),
    fun s H D cl fp => cTs_ok (fun m e hm => hT _ _ m e (x.blk hk s H D cl fp) hm) h8, fun s H D cl fp => hr _ _ _ _ (x.blk hk s H D cl fp) h4, ?_, h9⟩
  · rw [x.hN, x.hsc]; exact blkOk_by h2
  · rw [own_map]; exact subset_ok h6
  · rw [own_map]; exact subset_ok h5
theorem cLc_ok (x : XF Γ I G k a b X se) (gf : GF Γ I G ge) {r rT : RE} (hr : RS_ Γ I G k a b r) (hT : RT_ Γ I G k a b rT) {m : E} {e : Expr} (h : cLc ge se r rT m e = true) : SE Γ X e (evE (G.cl a b) m) := by
  cases m with
  | lc mm own tg it ifs y =>
    cases e with
    | ListComp ee gs scope p =>
      match gs, h with
      | [⟨et, ei, efs, 0⟩], h =>
        have q := (cLc1_ok x gf hr hT h).se (m := mm) (pos := p) x.T.calm x.nd
        rw [own_map] at q
        exact q
    | _ => cases h
  | lcx mm own tg it ifs y =>
    cases e with
    | ListComp ee gs scope p =>
      match gs, h with
      | [⟨et, ei, efs, 0⟩], h =>
        obtain ⟨q, t⟩ := cLcX_ok x gf hr hT h
        have q := q.se (m := mm) (pos := p) x.T.calm x.nd t
        rw [own_map] at q
        exact q
    | _ => cases h
  | lc2 mm own tg it ifs tg1 it1 ifs1 y =>
    cases e with
    | ListComp ee gs scope p =>
      match gs, h with
      | [⟨et, ei, efs, 0⟩, ⟨et1, ei1, efs1, 0⟩], h =>
        have q := (cLc2_ok x gf hr hT h).se (m := mm) (pos := p) x.T.calm x.nd
        rw [own_map] at q
        exact q
    | _ => cases h
  | _ => cases h
theorem cDc_ok (x : XF Γ I G k a b X se) (gf : GF Γ I G ge) {r : RE} (hr : RS_ Γ I G k a b r) {own : List Nat} {tg : Tg} {it : It} {mk mv : E} {ek ev et ei : Expr} {scope : Scope} {p : Pos}
    (h : (cItg ge se (r se) it tg ei et (se.blk scope) && blkC se.N se.sc scope (ownOf se.N own) && r (se.blk scope) mk ek && r (se.blk scope) mv ev && subset tg.ix own) = true) : SE Γ X (.DictComp ek ev [⟨et, ei, [], 0⟩] scope p) (evE (G.cl a b) (.dc own tg it mk mv)) := by
  rw [Bool.and_eq_true, Bool.and_eq_true, Bool.and_eq_true, Bool.and_eq_true] at h
  obtain ⟨⟨⟨⟨h1, h2⟩, h3⟩, h4⟩, h5⟩ := h
  have hk := blk_kind h2
  obtain ⟨q1, q2, _⟩ := cItg_ok x gf (hr X se · · x) h1
  have q := se_dc (pos := p) x.T.calm x.nd q1 (own := ownOf se.N own) (by rw [x.hN, x.hsc]; exact blkOk_by h2) (fun s H D cl fp => q2 _ (x.blk hk s H D cl fp)) (fun s H D cl fp => hr _ _ _ _ (x.blk hk s H D cl fp) h3) (fun s H D cl fp => hr _ _ _ _ (x.blk hk s H D cl fp) h4) (by rw [own_map]; exact subset_ok h5)
  rw [own_map] at q
  exact q
theorem cFs_ok {r : E → Expr → Bool} {C : Cl} (hr : ∀ m e, r m e = true → SE Γ X e (evE C m)) : ∀ {ps : List Fp} {es : List Expr}, cFs r ps es = true → SFs Γ X C es ps
  | [], [], _ => .nil
  | [], _ :: _, h => by cases h
  | _ :: _, [], h => by cases h
  | p :: ps, e :: es, h => by
    unfold cFs at h
    rw [Bool.and_eq_true] at h
    obtain ⟨h, h2⟩ := h
    refine .cons ?_ (cFs_ok hr h2)
    split at h
    · rw [decide_eq_true_eq] at h; subst h; exact sf_lit
    · rw [Bool.and_eq_true, decide_eq_true_eq] at h; obtain ⟨rfl, h⟩ := h; exact sf_val (hr _ _ h)
    · rw [Bool.and_eq_true, decide_eq_true_eq] at h; obtain ⟨rfl, h⟩ := h; exact sf_rep (hr _ _ h)
    · cases h
theorem cPs_ok {r : E → Expr → Bool} {C : Cl} (hr : ∀ m e, r m e = true → SE Γ X e (evE C m)) : ∀ (ks : List (Option Expr)) {ms : List E} {vs : List Expr}, cPs r ms ks vs = true → SPs Γ X C ks vs ms
  | [], ms, vs, h => by
    cases ms with
    | nil => cases vs with
      | nil => exact .nil
      | cons _ _ => cases h
    | cons m ms => cases ms <;> cases h
  | none :: ks, ms, vs, h => by
    cases ms with
    | nil => cases h
    | cons m ms => cases ms with
      | nil => cases h
      | cons m2 ms => cases h
  | some e :: ks, ms, vs, h => by
    cases ms with
    | nil => cases h
    | cons m ms => cases ms with
      | nil => cases h
      | cons m2 ms => cases vs with
        | nil => cases h
        | cons v vs =>
          unfold cPs at h
          rw [Bool.and_eq_true, Bool.and_eq_true] at h
          exact .cons (hr _ _ h.1.1) (hr _ _ h.1.2) (cPs_ok hr ks h.2)
theorem cSp_ok (x : XF Γ I G k a b X se) (gf : GF Γ I G ge) {s : Sp} {e : Expr} (h : cSp ge se s e = true) : SpE Γ X e s ∧ ge.sps s = true := by
  unfold cSp at h
  split at h
  · rename_i y p
    rw [Bool.and_eq_true] at h
    obtain ⟨h0, h⟩ := h
    refine ⟨?_, h0⟩
    cases s with
    | cls d =>
      dsimp only at h
      rw [Bool.and_eq_true, decide_eq_true_eq] at h
      obtain ⟨g1, d1⟩ := x.gl h.2
      exact spe_own g1 (by rw [x.S.mg]; exact gf.cl y d h.1) d1
    | xc d =>
      dsimp only at h
      rw [Bool.or_eq_true] at h
      rcases h with h | h
      · rw [Bool.and_eq_true, Bool.and_eq_true, decide_eq_true_eq, decide_eq_true_eq] at h
        obtain ⟨⟨h1, h2⟩, h3⟩ := h
        obtain ⟨g1, d1⟩ := x.gl h2
        exact spe_xc h3 g1 (by rw [x.S.mg]; exact gf.xc y d h1) d1
      · rw [Bool.and_eq_true, Bool.and_eq_true, decide_eq_true_eq, decide_eq_true_eq] at h
        obtain ⟨⟨h1, rfl⟩, h3⟩ := h
        obtain ⟨g1, d1, m1⟩ := x.bl gf h3
        have e1 : spV Γ.cA Γ.xA (.xc d) = .ty (xbN d) := if_neg (Nat.not_lt.mpr h1)
        refine spe_ty e1 ?_ g1 m1 ?_ d1
        · unfold xbN
          repeat' split
          all_goals with_unfolding_all rfl
        · unfold xbN
          repeat' split
          all_goals decide
    | str =>
      dsimp only at h
      rw [Bool.and_eq_true, decide_eq_true_eq] at h
      obtain ⟨rfl, h⟩ := h
      obtain ⟨g1, d1, m1⟩ := x.bl gf h
      exact spe_ty (n := "str") rfl (by with_unfolding_all rfl) g1 m1 (by decide) d1
    | list =>
      dsimp only at h
      rw [Bool.and_eq_true, decide_eq_true_eq] at h
      obtain ⟨rfl, h⟩ := h
      obtain ⟨g1, d1, m1⟩ := x.bl gf h
      exact spe_ty (n := "list") rfl (by with_unfolding_all rfl) g1 m1 (by decide) d1
    | tuple =>
      dsimp only at h
      rw [Bool.and_eq_true, decide_eq_true_eq] at h
      obtain ⟨rfl, h⟩ := h
      obtain ⟨g1, d1, m1⟩ := x.bl gf h
      exact spe_ty (n := "tuple") rfl (by with_unfolding_all rfl) g1 m1 (by decide) d1
    | int =>
      dsimp only at h
      rw [Bool.and_eq_true, decide_eq_true_eq] at h
      obtain ⟨rfl, h⟩ := h
      obtain ⟨g1, d1, m1⟩ := x.bl gf h
      exact spe_ty (n := "int") rfl (by with_unfolding_all rfl) g1 m1 (by decide) d1
    | dict =>
      dsimp only at h
      rw [Bool.and_eq_true, decide_eq_true_eq] at h
      obtain ⟨rfl, h⟩ := h
      obtain ⟨g1, d1, m1⟩ := x.bl gf h
      exact spe_ty (n := "dict") rfl (by with_unfolding_all rfl) g1 m1 (by decide) d1
  · cases h
end
end MS

set_option Elab.async false
set_option linter.all false
set_option maxRecDepth 100000
/-! MTF: the check of expressions is sound. -/
namespace MS
open PySem PySem.Spec PyProof.Rows L2
section
variable {Γ : Run} {I : Info} {G : Tab} {k : Nat} {a b : Nat → List Val → MH Val} {X : Cx} {se : SEnv} {ge : GEnv}
theorem chain_op {o : Op} {p : CmpOp} (h : (decide (o = .le ∧ p = .LtE) || decide (o = .lt ∧ p = .Lt)) = true) : ∃ r, OpR X (compareOp p) r ∧ OpLk Γ o r := by
  rw [Bool.or_eq_true, decide_eq_true_eq, decide_eq_true_eq] at h
  rcases h with ⟨rfl, rfl⟩ | ⟨rfl, rfl⟩
  · exact ⟨_, op_le, lk_le⟩
  · exact ⟨_, op_lt, lk_lt⟩
theorem cCh_inv {r : E → Expr → Bool} {o1 o2 : Op} {x y z : E} {e : Expr} (h : (match e with
    | .Compare u [p, q] [v, w] _ => (decide (o1 = .le ∧ p = .LtE) || decide (o1 = .lt ∧ p = .Lt)) && (decide (o2 = .le ∧ q = .LtE) || decide (o2 = .lt ∧ q = .Lt)) && r x u && r y v && r z w && !(lastMarks [p, q] [v, w])
    | _ => false) = true) : ∃ p q u v w ps, e = .Compare u [p, q] [v, w] ps ∧ (decide (o1 = .le ∧ p = .LtE) || decide (o1 = .lt ∧ p = .Lt)) = true ∧ (decide (o2 = .le ∧ q = .LtE) || decide (o2 = .lt ∧ q = .Lt)) = true ∧ r x u = true ∧ r y v = true ∧ r z w = true ∧ lastMarks [p, q] [v, w] = false := by
  split at h
  · rw [Bool.and_eq_true, Bool.and_eq_true, Bool.and_eq_true, Bool.and_eq_true, Bool.and_eq_true, Bool.not_eq_true'] at h
    exact ⟨_, _, _, _, _, _, rfl, h.1.1.1.1.1, h.1.1.1.1.2, h.1.1.1.2, h.1.1.2, h.1.2, h.2⟩
  · cases h
theorem stepE_ok (gf : GF Γ I G ge) {r rT : RE} (hr : RS_ Γ I G k a b r) (hT : RT_ Γ I G k a b rT) : RS_ Γ I G k a b (stepE ge r rT) := by
  intro X se m e x h
  have hr' : ∀ m e, r se m e = true → SE Γ X e (evE (G.cl a b) m) := fun m e q => hr X se m e x q
  cases m with
  | var i => exact cVar_ok x h
  | int i => exact cInt_ok h
  | str s => exact cStr_ok h
  | bl c => obtain ⟨j, p, rfl⟩ := cBl_inv h; exact se_bl
  | non => obtain ⟨j, p, rfl⟩ := cNon_inv h; exact se_non
  | gl g => exact cGl_ok x gf h
  | op o ms =>
    have h : (cC (r se) (.op o ms) e || cOp ge se (r se) o ms e) = true := h
    rw [Bool.or_eq_true] at h
    rcases h with h | h
    · exact (cC_ok x hr' h).se
    · exact cOp_ok x gf hr' h
  | lm o l ms =>
    have h : (match mName o with
      | some n => cMeth (fun x => decide (x = n)) (r se l) (fun es => if o = .pop ∨ o = .clear then es.isEmpty && ms.isEmpty else !es.isEmpty && cEs (r se) ms es) e
      | none => false) = true := h
    cases hn : mName o with
    | none => rw [hn] at h; cases h
    | some n => rw [hn] at h; exact cLm_ok x hr' hn h
  | eqq neg u v => exact (cC_ok x hr' h).se
  | inn neg u v => exact (cC_ok x hr' h).se
  | ch o1 o2 u v w =>
    obtain ⟨p, q, u', v', w', ps, rfl, h1, h2, h3, h4, h5, h6⟩ := cCh_inv (r := r se) h
    obtain ⟨r1, p1, l1⟩ := chain_op (Γ := Γ) (X := X) h1
    obtain ⟨r2, p2, l2⟩ := chain_op (Γ := Γ) (X := X) h2
    exact se_ch p1 p2 l1 l2 (hr' _ _ h3) (hr' _ _ h4) (hr' _ _ h5) h6
  | and ms => obtain ⟨es, p, rfl, h1, h2⟩ := cBool_inv h; exact se_and (cEs_ok hr' h2).1 h1
  | or ms => obtain ⟨es, p, rfl, h1, h2⟩ := cBool_inv h; exact se_or (cEs_ok hr' h2).1 h1
  | nott u => obtain ⟨y, p, rfl, h1⟩ := cUn_inv h; exact se_not (hr' _ _ h1)
  | ifx c u v =>
    have h : (match (generalizing := false) e with | .IfExp x y z _ => rT se c x && r se u y && r se v z | _ => false) = true := h
    split at h
    · rw [Bool.and_eq_true, Bool.and_eq_true] at h
      exact se_ifx (hT X se _ _ x h.1.1) (hr' _ _ h.1.2) (hr' _ _ h.2)
    · cases h
  | tup ms =>
    have h : (match (generalizing := false) e with | .Tuple es _ _ => cEs (r se) ms es && decide (ms.length ≤ 1000) | _ => false) = true := h
    split at h
    · rw [Bool.and_eq_true, decide_eq_true_eq] at h
      exact se_tup (cEs_ok hr' h.1).1.sa h.2
    · cases h
  | lst bb ms =>
    have h : (match (generalizing := false) e with | .List es _ => cEs (r se) ms es && decide (ms.length ≤ 1000) | _ => false) = true := h
    split at h
    · rw [Bool.and_eq_true, decide_eq_true_eq] at h
      exact se_lst (cEs_ok hr' h.1).1.sa h.2
    · cases h
  | dsp bb ms =>
    have h : (match (generalizing := false) e with | .Dict ks vs _ => cPs (r se) ms ks vs && !ks.isEmpty && decide (ks.length ≤ 15) | _ => false) = true := h
    split at h
    · rw [Bool.and_eq_true, Bool.and_eq_true, decide_eq_true_eq, Bool.not_eq_true'] at h
      exact se_dsp (cPs_ok hr' _ h.1.1) (fun z => by rw [z] at h; cases h.1.2) h.2
    · cases h
  | call raw f ms => exact cFn_ok x gf hr' h
  | new c nk ms => exact cNew_ok x gf hr' h
  | meth raw o mm ms => exact cMt_ok x gf hr' h
  | sup d f ms => cases h
  | isi u sp =>
    have h : (match (generalizing := false) e, sp with
      | .Call (.Name x _) [y, z] [] _, [s] => decide (x = "isinstance") && blB ge se x && r se u y && !stB y && cSp ge se s z
      | _, _ => false) = true := h
    split at h
    · rw [Bool.and_eq_true, Bool.and_eq_true, Bool.and_eq_true, Bool.and_eq_true, decide_eq_true_eq, Bool.not_eq_true'] at h
      obtain ⟨⟨⟨⟨rfl, h1⟩, h2⟩, h3⟩, h4⟩ := h
      obtain ⟨g1, _, m1⟩ := x.bl gf h1
      obtain ⟨q1, q2⟩ := cSp_ok x gf h4
      exact se_isi x.T (by rw [← gf.sps]; exact q2) g1 m1 (hr' _ _ h2) h3 q1
    · cases h
  | lc m own tg it ifs y => exact cLc_ok x gf hr hT h
  | lc2 m own tg it ifs tg1 it1 ifs1 y => exact cLc_ok x gf hr hT h
  | lcx m own tg it ifs y => exact cLc_ok x gf hr hT h
  | dc own tg it kk v =>
    have h : (match (generalizing := false) e with
      | .DictComp ek ev [⟨et, ei, [], 0⟩] scope _ => cItg ge se (r se) it tg ei et (se.blk scope) && blkC se.N se.sc scope (ownOf se.N own) && r (se.blk scope) kk ek && r (se.blk scope) v ev && subset tg.ix own
      | _ => false) = true := h
    split at h
    · exact cDc_ok x gf hr h
    · cases h
  | frz m => exact se_frz (hr' _ _ h)
  | xn c ms =>
    have h : (match (generalizing := false) e with
      | .Call (.Name x _) es [] _ => decide (ge.exs.lookup x = some c) && glB se x && ge.xval && (match (generalizing := false) ms, es with | [], [] => !(ge.exw c) | [m], [e] => ge.exw c && r se m e && !stB e | _, _ => false)
      | _ => false) = true := h
    have r2 : Room 2 X.A := x.T.room.mono (by have := x.T.lv; omega)
    split at h
    · rw [Bool.and_eq_true, Bool.and_eq_true, Bool.and_eq_true, decide_eq_true_eq] at h
      obtain ⟨⟨⟨h1, h2⟩, h3⟩, h4⟩ := h
      have hv := gf.xv h3
      obtain ⟨hm, eb, D, fI, fd, ps, M, c1, hno⟩ := gf.ex _ _ h1
      split at h4
      · rw [Bool.not_eq_true'] at h4
        rw [h4, if_neg Bool.false_ne_true] at M
        have M2 := M.at x.S
        rw [← x.S.K] at c1 M2
        exact se_xn0 hv M2 c1 r2 (x.gl h2).1 (by rw [x.S.mg]; exact hm) (x.gl h2).2
      · rw [Bool.and_eq_true, Bool.and_eq_true, Bool.not_eq_true'] at h4
        obtain ⟨⟨h5, h6⟩, h7⟩ := h4
        rw [h5, if_pos rfl] at M
        have M2 := M.at x.S
        have hno := hno h5
        rw [← x.S.K] at c1 M2 hno
        exact se_xn1 hv M2 c1 hno r2 (x.gl h2).1 (by rw [x.S.mg]; exact hm) (hr' _ _ h6) h7 (x.gl h2).2
      · cases h4
    · cases h
  | dct0 =>
    have h : (match (generalizing := false) e with | .Dict [] [] _ => true | _ => false) = true := h
    split at h
    · exact se_dct0
    · cases h
  | fst ps =>
    have h : (match (generalizing := false) e with | .JoinedStr (v1 :: v2 :: es) _ => cFs (r se) ps (v1 :: v2 :: es) | _ => false) = true := h
    split at h
    · exact se_fst (cFs_ok hr' h)
    · cases h
theorem cEsT_ok {r : E → Expr → Bool} {C : Cl} (hr : ∀ m e, r m e = true → ST Γ X e (evT C m)) : ∀ {ms : List E} {es : List Expr}, cEs r ms es = true → STs Γ X C es ms
  | [], [], _ => .nil
  | [], _ :: _, h => by cases h
  | _ :: _, [], h => by cases h
  | m :: ms, e :: es, h => by
    unfold cEs at h
    rw [Bool.and_eq_true, Bool.and_eq_true] at h
    exact .cons (hr m e h.1.1) (cEsT_ok hr h.2)
/-- a plain test -/
theorem plain_ok (x : XF Γ I G k a b X se) {r : E → Expr → Bool} (hr : ∀ m e, r m e = true → SE Γ X e (evE (G.cl a b) m)) {m : E} {e : Expr} (h : (plainT m && !tsB e && r m e) = true) : ST Γ X e (evT (G.cl a b) m) := by
  rw [Bool.and_eq_true, Bool.and_eq_true, Bool.not_eq_true'] at h
  obtain ⟨⟨h1, h2⟩, h3⟩ := h
  have hs := hr _ _ h3
  have hK := x.T.hK
  cases m with
  | var i =>
    refine st_of hK hs h2 fun loc => ?_
    simp only [evT, evE]
    funext h
    unfold MH.bind
    cases loc[i]? with
    | none => rfl
    | some o => cases o <;> rfl
  | bl c =>
    refine st_of hK hs h2 fun loc => ?_
    simp only [evT, evE]
    rfl
  | op o ms =>
    have h1 : (!o.cmp) = true := h1
    rw [Bool.not_eq_true'] at h1
    refine st_of hK hs h2 fun loc => ?_
    simp only [evT, evE]
    rw [MH.bind_assoc, h1]
    rfl
  | lm o l ms =>
    refine st_of hK hs h2 fun loc => ?_
    simp only [evT, evE, MH.bind_assoc]
  | call raw f ms =>
    refine st_of hK hs h2 fun loc => ?_
    simp only [evT, evE, MH.bind_assoc]
  | meth raw o mm ms =>
    refine st_of hK hs h2 fun loc => ?_
    simp only [evT, evE, MH.bind_assoc]
    congr 1
    funext v
    congr 1
    funext c
    cases (G.cl a b).mth c mm with
    | none => rfl
    | some f => simp only [MH.bind_assoc]
  | isi u sp =>
    refine st_of hK hs h2 fun loc => ?_
    simp only [evT, evE, MH.bind_assoc]
  | _ => cases h1
theorem cC_T (x : XF Γ I G k a b X se) {r : E → Expr → Bool} (hr : ∀ m e, r m e = true → SE Γ X e (evE (G.cl a b) m)) {m : E} {e : Expr} (h : cC r m e = true) : ST Γ X e (evT (G.cl a b) m) := by
  refine SC.st (cC_ok x hr h) fun loc => ?_
  cases m with
  | op o ms =>
    have hc : o.cmp = true := by
      cases o <;> first | rfl | (exact absurd h (by simp [cC]))
    simp only [evT, evE]
    rw [MH.bind_assoc, hc]
    rfl
  | eqq neg u v => simp only [evT, evE, MH.bind_assoc]
  | inn neg u v => simp only [evT, evE, MH.bind_assoc]
  | _ => cases h
theorem stepT_ok (gf : GF Γ I G ge) {r rT : RE} (hr : RS_ Γ I G k a b r) (hT : RT_ Γ I G k a b rT) : RT_ Γ I G k a b (stepT ge r rT) := by
  intro X se m e x h
  have hr' : ∀ m e, r se m e = true → SE Γ X e (evE (G.cl a b) m) := fun m e q => hr X se m e x q
  have hT' : ∀ m e, rT se m e = true → ST Γ X e (evT (G.cl a b) m) := fun m e q => hT X se m e x q
  have gen : ((cC (r se) m e) || (plainT m && !tsB e && r se m e)) = true → ST Γ X e (evT (G.cl a b) m) := fun h => by
    rw [Bool.or_eq_true] at h
    rcases h with h | h
    · exact cC_T x hr' h
    · exact plain_ok x hr' h
  cases m with
  | and ms => obtain ⟨es, p, rfl, h1, h2⟩ := cBool_inv h; exact st_and (cEsT_ok hT' h2) h1
  | or ms => obtain ⟨es, p, rfl, h1, h2⟩ := cBool_inv h; exact st_or (cEsT_ok hT' h2) h1
  | nott u => obtain ⟨y, p, rfl, h1⟩ := cUn_inv h; exact st_not (hT' _ _ h1)
  | ch o1 o2 u v w =>
    obtain ⟨p, q, u', v', w', ps, rfl, h1, h2, h3, h4, h5, h6⟩ := cCh_inv (r := r se) h
    obtain ⟨r1, p1, l1⟩ := chain_op (Γ := Γ) (X := X) h1
    obtain ⟨r2, p2, l2⟩ := chain_op (Γ := Γ) (X := X) h2
    exact st_ch p1 p2 l1 l2 (hr' _ _ h3) (hr' _ _ h4) (hr' _ _ h5) h6
  | eqq neg u v => exact cC_T x hr' h
  | inn neg u v => exact cC_T x hr' h
  | _ => exact gen h
theorem chk_ok (gf : GF Γ I G ge) : ∀ n, RS_ Γ I G k a b (chkE ge n).1 ∧ RT_ Γ I G k a b (chkE ge n).2
  | 0 => ⟨(fun X se m e x h => by cases h), (fun X se m e x h => by cases h)⟩
  | n + 1 => by
    obtain ⟨h1, h2⟩ := chk_ok gf n
    exact ⟨stepE_ok gf h1 h2, stepT_ok gf h1 h2⟩
end
end MS

set_option Elab.async false
set_option linter.all false
set_option maxRecDepth 100000
/-! MTG: the check of statements. -/
namespace MS
open PySem PySem.Spec PyProof.Rows L2
abbrev RSt := S → Stmt → Bool
def cSs (r : RSt) : List S → List Stmt → Bool
  | [], [] => true
  | m :: ms, s :: ss => r m s && cSs r ms ss
  | _, _ => false
def isComp : Expr → Bool
  | .ListComp .. => true
  | _ => false
/-- name = [..] on one line -/
def cSetLc (ge : GEnv) (rE rT : RE) (se : SEnv) (i : Nat) (m : E) (e : Expr) (x : Str) (py : Pos) : Bool := match e with
  | .ListComp _ _ scope pos => cLc ge se rE rT m e && decide (se.N[i]? = some x) && decide (se.sc.names.lookup x = some .local) && swC se.sc scope x py pos
  | _ => false
def konB (k : T) (e : Expr) : Bool := match k, e with
  | .non, .Constant .none _ _ => true
  | .bl b, .Constant (.bool b2) _ _ => decide (b = b2)
  | .int i, .Constant (.int i2) _ _ => decide (i = i2)
  | .str z, .Constant (.str z2) _ _ => decide (z = z2)
  | _, _ => false
theorem konB_ok {k : T} {e : Expr} (h : konB k e = true) : ∃ v, KonE e k v := by
  unfold konB at h
  split at h
  · exact ⟨_, .non⟩
  · cases of_decide_eq_true h; exact ⟨_, .bl⟩
  · cases of_decide_eq_true h; exact ⟨_, .int⟩
  · cases of_decide_eq_true h; exact ⟨_, .str⟩
  · cases h
/-- a def's own frame -/
structure StOk (X : Cx) : Prop where
  stk : X.stack = X.env :: X.outer
  frm : X.env.frame = some X.env.locals
def noSwap : Expr → Bool
  | .DictComp .. => true
  | e => !cmB e
def cPtC : Str → Pattern → Bool
  | z, .MatchValue (.Constant (.str y) _ _) _ => decide (z = y)
  | _, _ => false
def cAll2 {A B : Type} (f : A → B → Bool) : List A → List B → Bool
  | [], [] => true
  | x :: xs, y :: ys => f x y && cAll2 f xs ys
  | _, _ => false
def cPt (se : SEnv) (i0 : Nat) (m : PtI) (p : Pattern) : Bool := match m, p with
  | .str ss, .MatchOr ps _ => cAll2 cPtC ss ps
  | .str ss, p => (match ss with | [z] => cPtC z p | _ => false)
  | .cap i, .MatchAs none (some n) _ => decide (se.N[i]? = some n) && locB se n && (se.fn n || decide (se.sc.names.lookup n = some .local)) && decide (i ≠ i0)
  | _, _ => false
def cPat (se : SEnv) (i0 : Nat) (m : Option (List PtI)) (p : Pattern) : Bool := match m, p with
  | none, .MatchAs none none _ => true
  | some ps, .MatchSequence pats _ => cAll2 (cPt se i0) ps pats && (pats.findIdx? (·.isStar)).isNone && !(pats.all fun p => p.isWildcard || (p.isStar && p.names.isEmpty))
  | _, _ => false
def cGd (r : E → Expr → Bool) (m : Option E) (e : Option Expr) : Bool := match m, e with
  | none, none => true
  | some m, some e => r m e
  | _, _ => false
def cMc (rT : E → Expr → Bool) (r : RSt) (se : SEnv) (i0 : Nat) : List MatchCase → List S → Bool
  | [], [] => true
  | ⟨pat, gd, body⟩ :: rest, [.mc i ps g b el] => decide (i = i0) && cPat se i0 ps pat && cGd rT g gd && cSs r b body && cMc rT r se i0 rest el
  | _, _ => false
def stepS (ge : GEnv) (rE rT : RE) (r : RSt) (se : SEnv) (m : S) (st : Stmt) : Bool := match m with
  | .no => true
  | .pass => (match st with | .Pass _ => true | _ => false)
  | .brk => (match st with | .Break _ => true | _ => false)
  | .cnt => (match st with | .Continue _ => true | _ => false)
  | .ex m => (match st with | .Expr e _ => rE se m e && !cmB e | _ => false)
  | .ret _ m => (match st with | .Return (some e) _ => rE se m e | _ => false)
  | .retn => (match st with | .Return none _ => true | _ => false)
  | .iff c x y => (match st with | .If e b1 b2 _ => rT se c e && cSs r x b1 && cSs r y b2 | _ => false)
  | .set i m => (match st with
    | .Assign [.Name x py] e _ => (decide (se.N[i]? = some x) && locB se x && (se.fn x || decide (se.sc.names.lookup x = some .local)) && rE se m e && (!cmB e || decide (se.sc.names.lookup x = some .cell))) || cSetLc ge rE rT se i m e x py
    | _ => false)
  | .des ts m => (match st with | .Assign [.Tuple es j p] e _ => cTg se false (.tp ts) (.Tuple es j p) && rE se m e && !cmB e && !tuB e | _ => false)
  | .sub x i m => (match st with | .Assign [.Subscript o y _] e _ => rE se x o && rE se i y && rE se m e && !cmB e && !tuB e && !slB y | _ => false)
  | .subd x i m => (match st with | .Assign [.Subscript o y _] e _ => rE se x o && rE se i y && rE se m e && !cmB e | _ => false)
  | .fset x f m => (match st with | .Assign [.Attribute o nm _] e _ => decide (f < 20) && decide (nm = fldN f) && rE se x o && rE se m e | _ => false)
  | .fr tg it b => (match st with | .For t e b1 [] _ => cItg ge se (rE se) it tg e t se && cSs r b b1 | _ => false)
  | .whl c b => (match st with | .While e b1 [] _ => rT se c e && cSs r b b1 | _ => false)
  | .mc i ps g b el => (match st with | .Match (.Name x _) cases _ => decide (se.N[i]? = some x) && visB se x && okN x && cMc (rT se) r se i cases [.mc i ps g b el] | _ => false)
  | .rai c o => (match o, st with
    | none, .Raise (some (.Call (.Name x _) [] [] _)) none _ => glB se x && decide (ge.exs.lookup x = some c) && !ge.exw c
    | some m, .Raise (some (.Call (.Name x _) [e] [] _)) none _ => glB se x && decide (ge.exs.lookup x = some c) && ge.exw c && rE se m e && !stB e
    | _, _ => false)
  | .tryx ms hs => !ge.xval && (match hs, st with
    | [(c, .set i k)], .Try b1 [.ExceptHandler (some (.Name x _)) none [.Assign [.Name y _] e _] _] [] [] _ => glB se x && decide (ge.exs.lookup x = some c) && decide (se.N[i]? = some y) && locB se y && (se.fn y || decide (se.sc.names.lookup y = some .local)) && konB k e && cSs r ms b1
    | [(c, .setn i ie z)], .Try b1 [.ExceptHandler (some (.Name x _)) (some n) [.Assign [.Name y _] (.BinOp (.Constant (.str z2) _ _) .Add (.Attribute (.Name n2 _) nm _) _) _] _] [] [] _ =>
      glB se x && decide (ge.exs.lookup x = some c) && decide (se.N[i]? = some y) && locB se y && (se.fn y || decide (se.sc.names.lookup y = some .local)) && ge.exw c && decide (z2 = z) && decide (n2 = n) && decide (nm = "name") && decide (se.N[ie]? = some n) && decide (se.sc.names.lookup n = some .local) && decide (i ≠ ie) && decide (n ≠ "__debug__") && decide (n ≠ "__classdict__") && cSs r ms b1
    | _, _ => false)
/-- checked with fuel n -/
def chkS (ge : GEnv) (rE rT : RE) (se : SEnv) : Nat → RSt
  | 0 => fun _ _ => false
  | n + 1 => stepS ge rE rT (chkS ge rE rT se n) se
section
variable {Γ : Run} {I : Info} {G : Tab} {k : Nat} {a b : Nat → List Val → MH Val} {X : Cx} {se : SEnv} {ge : GEnv}
theorem cSs_ok {r : RSt} {C : Cl} (hr : ∀ m s, r m s = true → SS Γ X s (exS C m)) : ∀ {ms : List S} {ss : List Stmt}, cSs r ms ss = true → SSs Γ X ss (exSs C ms)
  | [], [], _ => sss_nil
  | [], _ :: _, h => by cases h
  | _ :: _, [], h => by cases h
  | m :: ms, s :: ss, h => by
    unfold cSs at h
    rw [Bool.and_eq_true] at h
    exact sss_cons (hr m s h.1) (cSs_ok hr h.2)
theorem cPtC_ok {z : Str} {p : Pattern} (h : cPtC z p = true) : PtC z p := by
  unfold cPtC at h
  split at h
  · cases of_decide_eq_true h; exact .mk
  · cases h
theorem cAll2_ok {A B : Type} {f : A → B → Bool} {R : A → B → Prop} (hf : ∀ a b, f a b = true → R a b) : ∀ {xs : List A} {ys : List B}, cAll2 f xs ys = true → Paired R xs ys
  | [], [], _ => .nil
  | [], _ :: _, h => by cases h
  | _ :: _, [], h => by cases h
  | x :: xs, y :: ys, h => by
    unfold cAll2 at h
    rw [Bool.and_eq_true] at h
    exact .cons (hf _ _ h.1) (cAll2_ok hf h.2)
theorem cPt_ok (x : XF Γ I G k a b X se) {i0 : Nat} {m : PtI} {p : Pattern} (h : cPt se i0 m p = true) : PtS X i0 m p := by
  unfold cPt at h
  split at h
  · exact .or (cAll2_ok (fun _ _ => cPtC_ok) h)
  · split at h
    · exact .val (cPtC_ok h)
    · cases h
  · rw [Bool.and_eq_true, Bool.and_eq_true, Bool.and_eq_true, decide_eq_true_eq, Bool.or_eq_true, decide_eq_true_eq, decide_eq_true_eq] at h
    obtain ⟨⟨⟨h1, h2⟩, h3⟩, h4⟩ := h
    exact .cap (by rw [x.hN]; exact h1) (x.loc h2) (h3.elim (fun z => .inl (x.fn _ z)) fun z => .inr (by rw [x.hsc]; exact z)) h4
  · cases h
theorem cPat_ok (x : XF Γ I G k a b X se) {i0 : Nat} {m : Option (List PtI)} {p : Pattern} (h : cPat se i0 m p = true) : PatS X i0 m p := by
  unfold cPat at h
  split at h
  · exact .any
  · rw [Bool.and_eq_true, Bool.and_eq_true, Option.isNone_iff_eq_none, Bool.not_eq_true'] at h
    exact .seq (cAll2_ok (fun _ _ => cPt_ok x) h.1.1) h.1.2 h.2
  · cases h
theorem cGd_ok {r : E → Expr → Bool} {C : Cl} {m : Option E} {e : Option Expr} (hr : ∀ m e, r m e = true → ST Γ X e (evT C m)) (h : cGd r m e = true) : GdS Γ X C m e := by
  unfold cGd at h
  split at h
  · exact .no
  · exact .one (hr _ _ h)
  · cases h
theorem cMc_ok (x : XF Γ I G k a b X se) {rT : E → Expr → Bool} {r : RSt} {i0 : Nat} (hT : ∀ m e, rT m e = true → ST Γ X e (evT (G.cl a b) m)) (hr : ∀ m s, r m s = true → SS Γ X s (exS (G.cl a b) m)) : ∀ {cs : List MatchCase} {ms : List S}, cMc rT r se i0 cs ms = true → McS Γ X (G.cl a b) i0 ms cs
  | [], [], _ => .nil
  | [], _ :: _, h => by cases h
  | ⟨pat, gd, body⟩ :: rest, ms, h => by
    unfold cMc at h
    split at h
    · rename_i e1; cases e1
    · rename_i e1
      cases e1
      rw [Bool.and_eq_true, Bool.and_eq_true, Bool.and_eq_true, Bool.and_eq_true, decide_eq_true_eq] at h
      obtain ⟨⟨⟨⟨rfl, h2⟩, h3⟩, h4⟩, h5⟩ := h
      exact .cons (cPat_ok x h2) (cGd_ok hT h3) (cSs_ok hr h4) (cMc_ok x hT hr h5)
    · cases h
theorem sw_att {e o : Expr} {nm : Str} {p' : Pos} {l : Nat} {env : Env} : swapsWith e (some (.Attribute o nm p')) l env = pure false := by
  unfold swapsWith
  cases e <;> rfl
theorem sw_cell {e : Expr} {y : Str} {p' : Pos} {l : Nat} {env : Env} (h : env.scope.names.lookup y = some .cell) : swapsWith e (some (.Name y p')) l env = pure false := by
  have ky : env.kindOf y = some .cell := h
  unfold swapsWith
  cases e <;> first | rfl | (simp only [ky]; cases (env.blockKind == .function) <;> rfl)
theorem cSetLc_ok (x : XF Γ I G k a b X se) (gf : GF Γ I G ge) {r rT : RE} (hr : RS_ Γ I G k a b r) (hT : RT_ Γ I G k a b rT) {i : Nat} {m : E} {e : Expr} {y : Str} {py pos : Pos} (h : cSetLc ge r rT se i m e y py = true) : SS Γ X (.Assign [.Name y py] e pos) (exS (G.cl a b) (.set i m)) := by
  unfold cSetLc at h
  split at h
  · rename_i ee gs scope p
    rw [Bool.and_eq_true, Bool.and_eq_true, Bool.and_eq_true, decide_eq_true_eq, decide_eq_true_eq] at h
    obtain ⟨⟨⟨h1, h2⟩, h3⟩, h4⟩ := h
    have hy : X.N[i]? = some y := by rw [x.hN]; exact h2
    have hl : X.env.scope.names.lookup y = some .local := by rw [x.hsc]; exact h3
    have hw : swC X.env.scope scope y py p = true := h4
    cases m with
    | lc mm own tg it ifs z =>
      match gs, h1 with
      | [⟨et, ei, efs, 0⟩], h1 =>
        have q := (cLc1_ok x gf hr hT h1).ss (m := mm) (pos := p) (i := i) (y := y) (py := py) (spos := pos) x.T.calm x.nd x.kind hy hl hw
        rw [own_map] at q
        exact q
    | lcx mm own tg it ifs z =>
      match gs, h1 with
      | [⟨et, ei, efs, 0⟩], h1 =>
        obtain ⟨q, t⟩ := cLcX_ok x gf hr hT h1
        have q := q.ss (m := mm) (pos := p) (i := i) (y := y) (py := py) (spos := pos) x.T.calm x.nd t x.kind hy hl hw
        rw [own_map] at q
        exact q
    | lc2 mm own tg it ifs tg1 it1 ifs1 z =>
      match gs, h1 with
      | [⟨et, ei, efs, 0⟩, ⟨et1, ei1, efs1, 0⟩], h1 =>
        have q := (cLc2_ok x gf hr hT h1).ss (m := mm) (pos := p) (i := i) (y := y) (py := py) (spos := pos) x.T.calm x.nd x.kind hy hl hw
        rw [own_map] at q
        exact q
    | _ => cases h1
  · cases h
theorem stepS_ok (x : XF Γ I G k a b X se) (gf : GF Γ I G ge) (po : PassesOwn (model X.prog X.w) X.A X.env X.xe) {rE rT : RE} (hE : RS_ Γ I G k a b rE) (hT : RT_ Γ I G k a b rT) (so : StOk X) {r : RSt} (hR : ∀ X, XF Γ I G k a b X se → PassesOwn (model X.prog X.w) X.A X.env X.xe → StOk X → ∀ m s, r m s = true → SS Γ X s (exS (G.cl a b) m)) {m : S} {st : Stmt} (h : stepS ge rE rT r se m st = true) : SS Γ X st (exS (G.cl a b) m) := by
  have hE' : ∀ m e, rE se m e = true → SE Γ X e (evE (G.cl a b) m) := fun m e q => hE X se m e x q
  have hT' : ∀ m e, rT se m e = true → ST Γ X e (evT (G.cl a b) m) := fun m e q => hT X se m e x q
  have cu := x.T.cu
  have hr := hR X x po so
  unfold stepS at h
  cases m with
  | no => exact ss_no
  | pass => dsimp only at h; split at h; · exact ss_pass
            · cases h
  | brk => dsimp only at h; split at h; · exact ss_brk
           · cases h
  | cnt => dsimp only at h; split at h; · exact ss_cnt
           · cases h
  | ex m =>
    dsimp only at h
    split at h
    · rw [Bool.and_eq_true, Bool.not_eq_true'] at h; exact ss_ex (hE' _ _ h.1) h.2
    · cases h
  | ret bb m =>
    dsimp only at h
    split at h
    · exact ss_ret (hE' _ _ h)
    · cases h
  | retn => dsimp only at h; split at h; · exact ss_retn
            · cases h
  | iff c u v =>
    dsimp only at h
    split at h
    · rw [Bool.and_eq_true, Bool.and_eq_true] at h
      exact ss_iff (hT' _ _ h.1.1) (cSs_ok hr h.1.2) (cSs_ok hr h.2)
    · cases h
  | set i m =>
    dsimp only at h
    split at h
    · rename_i y py e pos
      rw [Bool.or_eq_true] at h
      rcases h with h | h
      · rw [Bool.and_eq_true, Bool.and_eq_true, Bool.and_eq_true, Bool.and_eq_true, decide_eq_true_eq, Bool.or_eq_true, decide_eq_true_eq] at h
        obtain ⟨⟨⟨⟨h1, h2⟩, h3⟩, h4⟩, h5⟩ := h
        rw [Bool.or_eq_true, Bool.not_eq_true', decide_eq_true_eq] at h5
        exact ss_set x.nd (by rw [x.hN]; exact h1) (x.loc h2) (h3.elim (fun z => .inl (x.fn _ z)) fun z => .inr (by rw [x.hsc]; exact z)) (hE' _ _ h4) (h5.elim swap_no fun z => sw_cell (by rw [x.hsc]; exact z))
      · exact cSetLc_ok x gf hE hT h
    · cases h
  | des ts m =>
    dsimp only at h
    split at h
    · rw [Bool.and_eq_true, Bool.and_eq_true, Bool.and_eq_true, Bool.not_eq_true', Bool.not_eq_true'] at h
      exact ss_des (cTg_ok x _ h.1.1.1) (hE' _ _ h.1.1.2) h.1.2 h.2
    · cases h
  | sub u i m =>
    dsimp only at h
    split at h
    · rw [Bool.and_eq_true, Bool.and_eq_true, Bool.and_eq_true, Bool.and_eq_true, Bool.and_eq_true, Bool.not_eq_true', Bool.not_eq_true', Bool.not_eq_true'] at h
      obtain ⟨⟨⟨⟨⟨h1, h2⟩, h3⟩, h4⟩, h5⟩, h6⟩ := h
      exact ss_sub (hE' _ _ h1) (hE' _ _ h2) (hE' _ _ h3) h4 h5 h6
    · cases h
  | subd u i m =>
    dsimp only at h
    split at h
    · rw [Bool.and_eq_true, Bool.and_eq_true, Bool.and_eq_true, Bool.not_eq_true'] at h
      exact ss_subd (by omega) (hE' _ _ h.1.1.1) (hE' _ _ h.1.1.2) (hE' _ _ h.1.2) h.2
    · cases h
  | fset u f m =>
    dsimp only at h
    split at h
    · rw [Bool.and_eq_true, Bool.and_eq_true, Bool.and_eq_true, decide_eq_true_eq, decide_eq_true_eq] at h
      exact ss_fset h.1.1.2 h.1.1.1 x.T.hK (fun c pc => by rw [← x.T.hK]; exact x.T.cls c pc) (gf.na _ h.1.1.1) (hE' _ _ h.1.2) (hE' _ _ h.2) fun env => sw_att
    · cases h
  | fr tg it bb =>
    dsimp only at h
    split at h
    · rw [Bool.and_eq_true] at h
      obtain ⟨q1, q2, q3⟩ := cItg_ok x gf hE' h.1
      exact ss_for q3 po x.T.calm q1 (q2 X x) (cSs_ok hr h.2)
    · cases h
  | whl c bb =>
    dsimp only at h
    split at h
    · rw [Bool.and_eq_true] at h
      exact ss_whl po (hT' _ _ h.1) (cSs_ok hr h.2)
    · cases h
  | rai c o =>
    dsimp only at h
    have r2 : Room 2 X.A := x.T.room.mono (by have := x.T.lv; omega)
    split at h
    · rw [Bool.and_eq_true, Bool.and_eq_true, decide_eq_true_eq, Bool.not_eq_true'] at h
      obtain ⟨⟨h1, h2⟩, h3⟩ := h
      obtain ⟨hm, eb, D, fI, fd, ps, M, c1, _⟩ := gf.ex _ _ h2
      rw [h3, if_neg Bool.false_ne_true] at M
      have M2 := M.at x.S
      rw [← x.S.K] at c1 M2
      exact ss_raiN x.T.calm M2 c1 r2 (x.gl h1).1 (by rw [x.S.mg]; exact hm) (x.gl h1).2
    · rw [Bool.and_eq_true, Bool.and_eq_true, Bool.and_eq_true, Bool.and_eq_true, decide_eq_true_eq, Bool.not_eq_true'] at h
      obtain ⟨⟨⟨⟨h1, h2⟩, h3⟩, h4⟩, h5⟩ := h
      obtain ⟨hm, eb, D, fI, fd, ps, M, c1, hno⟩ := gf.ex _ _ h2
      rw [h3, if_pos rfl] at M
      have M2 := M.at x.S
      have hno := hno h3
      rw [← x.S.K] at c1 M2 hno
      exact ss_raiW x.T.calm M2 c1 hno r2 (x.gl h1).1 (by rw [x.S.mg]; exact hm) (hE' _ _ h4) h5 (x.gl h1).2
    · cases h
  | mc i ps g bb el =>
    dsimp only at h
    split at h
    · rw [Bool.and_eq_true, Bool.and_eq_true, Bool.and_eq_true, decide_eq_true_eq] at h
      obtain ⟨⟨⟨h1, h2⟩, h3⟩, h4⟩ := h
      unfold okN at h3
      rw [Bool.and_eq_true, Bool.not_eq_true', Bool.not_eq_true'] at h3
      exact ss_match x.S.K x.T.calm x.nd (by rw [x.hN]; exact h1) (x.vis h2) h3.1 h3.2 (cMc_ok x hT' hr h4)
    · cases h
  | tryx ms hs =>
    dsimp only at h
    rw [Bool.and_eq_true, Bool.not_eq_true'] at h
    obtain ⟨hvx, h⟩ := h
    have body : ∀ b1, cSs r ms b1 = true → ∀ (pn : List (Addr × Obj)) (xe : Value → Shared → Prop), PassesOwn (model X.prog X.w) X.A X.env xe → SSs Γ (X.tr pn xe) b1 (exSs (G.cl a b) ms) := fun b1 q pn xe po1 => cSs_ok (hR (X.tr pn xe) (x.tr pn xe) po1 ⟨so.stk, so.frm⟩) q
    have ne : ∀ y c, ge.exs.lookup y = some c → ge.exs.isEmpty = false := fun y c q => by
      cases e : ge.exs with
      | nil => rw [e] at q; cases q
      | cons _ _ => rfl
    split at h
    · rw [Bool.and_eq_true, Bool.and_eq_true, Bool.and_eq_true, Bool.and_eq_true, Bool.and_eq_true, Bool.and_eq_true, decide_eq_true_eq, decide_eq_true_eq, Bool.or_eq_true, decide_eq_true_eq] at h
      obtain ⟨⟨⟨⟨⟨⟨h1, h2⟩, h3⟩, h4⟩, h5⟩, h6⟩, h7⟩ := h
      obtain ⟨v, hk⟩ := konB_ok h6
      have hm := (gf.ex _ _ h2).1
      exact ss_try hk x.nd (by rw [x.hN]; exact h3) (x.loc h4) (h5.elim (fun z => .inl (x.fn _ z)) fun z => .inr (by rw [x.hsc]; exact z)) so.stk so.frm ⟨(x.gl h1).1, (x.gl h1).2, .inl (by rw [x.S.mg]; exact hm)⟩ (fun d => by rw [x.S.K]; exact gf.xm hvx (ne _ _ h2) d _) (body _ h7)
    · rw [Bool.and_eq_true, Bool.and_eq_true, Bool.and_eq_true, Bool.and_eq_true, Bool.and_eq_true, Bool.and_eq_true, Bool.and_eq_true, Bool.and_eq_true, Bool.and_eq_true, Bool.and_eq_true, Bool.and_eq_true, Bool.and_eq_true, Bool.and_eq_true, Bool.and_eq_true] at h
      simp only [decide_eq_true_eq, Bool.or_eq_true] at h
      obtain ⟨⟨⟨⟨⟨⟨⟨⟨⟨⟨⟨⟨⟨⟨h1, h2⟩, h3⟩, h4⟩, h5⟩, h6⟩, rfl⟩, rfl⟩, rfl⟩, h10⟩, h11⟩, h12⟩, h13⟩, h14⟩, h15⟩ := h
      have hm := (gf.ex _ _ h2).1
      have hl : ∀ q, se.sc.names.lookup q = some .local → X.env.scope.names.lookup q = some .local := fun q z => by rw [x.hsc]; exact z
      exact ss_tryN x.nd (by rw [x.hN]; exact h3) (x.loc h4) (h5.elim (fun z => .inl (x.fn _ z)) fun z => .inr (by rw [x.hsc]; exact z)) (by rw [x.hN]; exact h10) (hl _ h11) (.inl (hl _ h11)) h12 (beq_eq_false_iff_ne.mpr h13) (beq_eq_false_iff_ne.mpr h14) so.stk so.frm ⟨(x.gl h1).1, (x.gl h1).2, .inl (by rw [x.S.mg]; exact hm)⟩ (fun d => by rw [x.S.K]; exact gf.xm hvx (ne _ _ h2) d _) (fun d q => by rw [x.S.K]; exact gf.xf hvx _ h6 d q) (body _ h15)
    · cases h
theorem chkS_ok (gf : GF Γ I G ge) {rE rT : RE} (hE : RS_ Γ I G k a b rE) (hT : RT_ Γ I G k a b rT) : ∀ (n : Nat) (X : Cx), XF Γ I G k a b X se → PassesOwn (model X.prog X.w) X.A X.env X.xe → StOk X → ∀ (m : S) (st : Stmt), chkS ge rE rT se n m st = true → SS Γ X st (exS (G.cl a b) m)
  | 0, X, x, po, so, m, st, h => by cases h
  | n + 1, X, x, po, so, m, st, h => stepS_ok x gf po hE hT so (fun X x po so => chkS_ok gf hE hT n X x po so) h
/-- a body, checked: fuel n -/
def chkB (ge : GEnv) (n : Nat) (se : SEnv) (ms : List S) (body : List Stmt) : Bool := cSs (chkS ge (chkE ge n).1 (chkE ge n).2 se n) ms body
theorem chkB_ok (x : XF Γ I G k a b X se) (gf : GF Γ I G ge) (po : PassesOwn (model X.prog X.w) X.A X.env X.xe) (so : StOk X) {n : Nat} {ms : List S} {body : List Stmt} (h : chkB ge n se ms body = true) : SSs Γ X body (exSs (G.cl a b) ms) :=
  cSs_ok (chkS_ok gf (chk_ok gf n).1 (chk_ok gf n).2 n X x po so) h
end
end MS

set_option Elab.async false
set_option linter.all false
set_option maxRecDepth 100000
/-! MTH: defs, checked. -/
namespace MS
open PySem PySem.Spec PyProof.Rows L2
def notCl : Str → Bool := fun x => !(x == "__class__")
section
variable {Γ : Run} {I : Info} {G : Tab} {ge : GEnv}
theorem TopK.xf {k : Nat} {a b : Nat → List Val → MH Val} {X : Cx} {N : List Str} {sc : Scope} (S : Same Γ X) (T : Ctx Γ X (G.cl a b) I k) (U : TopK X N sc) : XF Γ I G k a b X ⟨N, sc, notCl, true⟩ := by
  refine ⟨S, T, U.hN, by rw [U.hN]; exact U.nd, U.hsc, by rw [U.hsc]; exact U.kind, fun x hx => U.fn x ?_, fun _ => ⟨U.stk, U.frm⟩⟩
  have hx : (!(x == ("__class__" : Str))) = true := hx
  rw [Bool.not_eq_true'] at hx
  exact hx
theorem fn_sound {f n : Nat} {N : List Str} {body : List Stmt} {scope : Scope} {d : FnD} (F : FnFact Γ I f N body scope) (St : Stat Γ I G) (gf : GF Γ I G ge) (hN : N.length = d.ns) (hp : d.np = (I.ps f).length) (h : chkB ge n ⟨N, scope, notCl, true⟩ d.body body = true) : FnSound Γ I G f d := by
  intro k a b h1 la lb
  exact ⟨fn_lev F St hN la lb h1 fun X S T U => chkB_ok (TopK.xf S T U) gf U.po ⟨U.stk, U.frm⟩ h, F.bd, hp⟩
/-- a statement that says super().__init__(..) -/
def cSup (rE : RE) (se : SEnv) (d f : Nat) (m : S) (st : Stmt) : Bool := match m, st with
  | .ex (.sup d' f' ms), .Expr (.Call (.Attribute (.Call (.Name y _) [] [] _) nm apos) (e :: es) [] cpos) _ => decide (d' = d) && decide (f' = f) && decide (y = "super") && decide (nm = "__init__") && cEs (rE se) ms (e :: es) && decide ((e :: es).length < 20) && (apos.endLine == cpos.line)
  | _, _ => false
def cBK (ge : GEnv) (n : Nat) (se : SEnv) (d f : Nat) : List S → List Stmt → Bool
  | [], [] => true
  | m :: ms, s :: ss => (cSup (chkE ge n).1 se d f m s || chkS ge (chkE ge n).1 (chkE ge n).2 se n m s) && cBK ge n se d f ms ss
  | _, _ => false
theorem cBK_ok {k : Nat} {a b : Nat → List Val → MH Val} {X : Cx} {se : SEnv} {n d f : Nat} {n0 : Str} {b0 : List Stmt} (x : XF Γ I G k a b X se) (gf : GF Γ I G ge) (po : PassesOwn (model X.prog X.w) X.A X.env X.xe) (so : StOk X) (SK : SupK X (Γ.cA d) n0) (hc : ∀ c, G.isa c d = true → SupC X.K (Γ.cA c) (Γ.cA d) (I.fA f)) (hpf : I.pos f = true) (hcd : (n0 == ("__classdict__" : Str)) = false) :
    ∀ {ms : List S} {ss : List Stmt}, cBK ge n se d f ms ss = true → SAts Γ X (G.cl a b) b0 ss ms
  | [], [], _ => .nil
  | [], _ :: _, h => by cases h
  | _ :: _, [], h => by cases h
  | m :: ms, s :: ss, h => by
    unfold cBK at h
    rw [Bool.and_eq_true, Bool.or_eq_true] at h
    refine .cons ?_ (cBK_ok x gf po so SK hc hpf hcd h.2)
    rcases h.1 with h | h
    · unfold cSup at h
      split at h
      · rename_i d' f' ms' y p0 p1 nm ap e es cp pos
        rw [Bool.and_eq_true, Bool.and_eq_true, Bool.and_eq_true, Bool.and_eq_true, Bool.and_eq_true, Bool.and_eq_true, decide_eq_true_eq, decide_eq_true_eq, decide_eq_true_eq, decide_eq_true_eq, decide_eq_true_eq] at h
        obtain ⟨⟨⟨⟨⟨⟨rfl, rfl⟩, rfl⟩, rfl⟩, h1⟩, h2⟩, h3⟩ := h
        obtain ⟨s1, s2⟩ := cEs_ok (fun m e q => (chk_ok gf n).1 X se m e x q) h1
        exact fun W tk => pat_sup x.T hpf SK hc s1.sa s2 h2 h3 hcd tk
      · cases h
    · exact fun W tk => pat_of (chkS_ok gf (chk_ok gf n).1 (chk_ok gf n).2 n X x po so m s h W tk)
theorem fn_soundK {f n d f2 : Nat} {N : List Str} {body : List Stmt} {scope : Scope} {n0 : Str} {dd : FnD} (F : FnFactK Γ I f N body scope (Γ.cA d) n0) (St : Stat Γ I G) (gf : GF Γ I G ge) (hN : N.length = dd.ns) (hp : dd.np = (I.ps f).length) (hc : ∀ c, G.isa c d = true → SupC Γ.K (Γ.cA c) (Γ.cA d) (I.fA f2)) (hpf : I.pos f2 = true) (hcd : (n0 == ("__classdict__" : Str)) = false)
    (h : cBK ge n ⟨N, scope, notCl, true⟩ d f2 dd.body body = true) : FnSound Γ I G f dd := by
  intro k a b h1 la lb
  exact ⟨fn_levK F St hN la lb h1 fun X S T U SK => cBK_ok (TopK.xf S T U) gf U.po ⟨U.stk, U.frm⟩ SK (fun c q => by rw [S.K]; exact hc c q) hpf hcd h, F.bd, hp⟩
/-! ### the law -/
/-- what a law promises -/
def spLaw (K : PySem.W.Frag) (most : Nat) : L2.Sp := fun vs H Q _ => ∃ (x : Addr) (ns : List Int), vs = [.ref x] ∧ SqL K H x (ns.map V.int) ∧ ns.length ≤ most ∧ ∀ H', Q (.bl true) H'
theorem law_fn {L n j most : Nat} (lv : LevG Γ I j (G.ff n).1) (hL : I.ok L = true) (hp : (I.ps L).length = 1) (ht : ∀ ns : List Int, ns.length ≤ most → ∃ h', (G.ff n).1 L [.t (.scr ns)] [] = .ok (.t (.bl true)) h') :
    FnOk Γ.P Γ.w Γ.K Γ.mg Γ.base (L2.CX Γ.P Γ.w) j (I.fA L) (I.fd L) (I.ps L) (spLaw Γ.K most) := by
  refine (lv.fn L hL).1.imp fun vs H Q E h => ?_
  obtain ⟨x, ns, rfl, hS, hl, hQ⟩ := h
  refine ⟨hp.symm, [.t (.scr ns)], ⟨[], H, fun _ => none, []⟩, ⟨Le.refl _, (fun _ _ e => by cases e), (fun _ _ e => by cases e), rfl, (fun m n a e => by simp at e), (fun n a e => by simp at e), (fun n a e => by simp at e), (fun n ob e => by simp at e)⟩, .cons ?_ .nil, ?_⟩
  · show RT Γ H (.scr ns) (.ref x)
    simp only [RT]
    exact ⟨x, rfl, hS⟩
  · obtain ⟨h', e⟩ := ht ns hl
    rw [e]
    intro s' H' _ _ _ u ru
    rw [rv_bl.mp ru]
    exact hQ H'
end
end MS

set_option Elab.async false
set_option linter.all false
set_option maxRecDepth 100000
set_option maxHeartbeats 2000000
/-! MVH: what the facts of the head say, the walk of a law. -/
namespace MS
open PySem PySem.Spec PyProof.Rows L2
theorem fnP {K : PySem.W.Frag} {f : Addr} {n q : Str} {st : Stmt} (e : fnOb K f = fnVa n q st []) (c : codB K f q = true) :
    ∃ oc od kV dc pm an cd ct sl, K.lookup f = some ⟨oc, od, .func (PySem.W.fnOf n q (defArgs st) (defBody st) (defScope st) .none kV dc pm an cd ct), sl⟩ ∧ PySem.W.codeIn K cd q = true := by
  unfold fnOb at e
  unfold codB at c
  cases hq : K.lookup f with
  | none => rw [hq] at c; cases c
  | some o =>
    obtain ⟨oc, od, dt, sl⟩ := o
    rw [hq] at c e
    cases dt with
    | func fd =>
      obtain ⟨n1, n2, n3, n4, n5, n6, n7, n8, n9, n10, n11, n12, n13, n14, n15⟩ := fd
      have e2 : (some (n1, n2, n3, n4, n5, n6, n7.map (fun p => p.1), n8, n15) : FnH) = some (n, q, defArgs st, FuncBody.stmts (defBody st), defScope st, mainGlobals, [], Value.none, builtinsNs) := e
      simp only [Option.some.injEq, Prod.mk.injEq, List.map_eq_nil_iff] at e2
      obtain ⟨h1, h2, h3, h4, h5, h6, h7, h8, h9⟩ := e2
      subst h1 h2 h3 h4 h5 h6 h7 h8 h9
      exact ⟨oc, od, n9, n10, n11, n12, n13, n14, sl, rfl, c⟩
    | _ => cases c
theorem cloP {K : PySem.W.Frag} {pf : Str} {f C : Addr} {n q : Str} {st : Stmt} (e : fnOb K f = fnVa n q st ["__class__"]) (c : cloB K pf f C q = true) :
    ∃ oc od cc kV dc pm an cda ct sl ccl cdd vs ccs file tf cl cld csl cdD, K.lookup f = some ⟨oc, od, .func (PySem.W.fnX n q (defArgs st) (defBody st) (defScope st) (kcl cc) .none kV dc pm an (.ref cda) ct), sl⟩ ∧
      PySem.W.codeIn K (.ref cda) q = true ∧ K.lookup cda = some ⟨ccl, cdd, .fields vs, ccs⟩ ∧ vs[2]? = some (.str file tf) ∧ (pf == file) = true ∧
      K.lookup cc = some ⟨cl, cld, .cell (some (.ref C)), csl⟩ ∧ PySem.W.clsIn K C = some cdD := by
  unfold fnOb at e
  unfold cloB at c
  cases hq : K.lookup f with
  | none => rw [hq] at c; cases c
  | some o =>
    obtain ⟨oc, od, dt, sl⟩ := o
    rw [hq] at c e
    cases dt with
    | func fd =>
      obtain ⟨n1, n2, n3, n4, n5, n6, n7, n8, n9, n10, n11, n12, n13, n14, n15⟩ := fd
      have e2 : (some (n1, n2, n3, n4, n5, n6, n7.map (fun p => p.1), n8, n15) : FnH) = some (n, q, defArgs st, FuncBody.stmts (defBody st), defScope st, mainGlobals, (["__class__"] : List Str), Value.none, builtinsNs) := e
      simp only [Option.some.injEq, Prod.mk.injEq] at e2
      obtain ⟨h1, h2, h3, h4, h5, h6, h7, h8, h9⟩ := e2
      subst h1 h2 h3 h4 h5 h6 h8 h9
      dsimp only at c
      split at c
      · rename_i cda x cc
        have hx : x = "__class__" := (List.cons.inj h7).1
        subst hx
        split at c
        · rename_i h1 h2
          split at c
          · rename_i h3
            simp only [Bool.and_eq_true] at c
            obtain ⟨c1, c2, c3, c4⟩ := c
            have c3 := of_decide_eq_true c3
            subst c3
            obtain ⟨cdD, hD⟩ := Option.isSome_iff_exists.mp c4
            exact ⟨oc, od, cc, n9, n10, n11, n12, cda, n14, sl, _, _, _, _, _, _, _, _, _, cdD, rfl, c1, h1, h3, c2, h2, hD⟩
          · cases c
        · cases c
      · cases c
    | _ => cases c
theorem tlH_eq (tl : List Value) : ∀ l : List Value, tlH tl l = tailB tl l
  | [] => rfl
  | v :: r => by cases v <;> first | exact tlH_eq tl r | rfl
theorem excP {K : PySem.W.Frag} {tl : List Value} {X : Addr} {newId : String} (c : excB K tl X newId = true) :
    ∃ nm q N bs bm sn sub ab col dd k0 k1 k2 k3 k5, K.lookup X = some (excClassObj nm q X N bs bm true sn sub ab col dd k0 k1 k2 k3 k5 newId) ∧ tailB tl bm = true := by
  unfold excB at c
  split at c
  · rename_i t dd cd sl ho
    rw [Bool.and_eq_true] at c
    obtain ⟨ct, c⟩ := c
    have ct := of_decide_eq_true ct
    subst ct
    split at c
    · rename_i C bm k0 k1 k2 k3 n k5 hm hs
      simp only [Bool.and_eq_true, Bool.not_eq_true', decide_eq_true_eq] at c
      obtain ⟨c1, c2, c3, c4, c5⟩ := c
      subst c1 c2
      obtain ⟨nm, bs, mro, ns, qn, hd, sn, sub, ab, col, del⟩ := cd
      dsimp only at hm c3 c4
      subst hm c3 c4
      obtain ⟨l⟩ := sl
      dsimp only at hs
      subst hs
      exact ⟨nm, qn, ns, bs, bm, sn, sub, ab, col, dd, k0, k1, k2, k3, k5, ho, (tlH_eq tl bm).symm.trans c5⟩
    · cases c
  · cases c
theorem intP {K : PySem.W.Frag} {x : Str} {i : Int} (c : intB K x i = true) : ∃ t, PySem.W.nsIn K mainGlobals x = some (some (.int i t)) := by
  unfold intB at c
  split at c
  · rename_i j t e
    have c := of_decide_eq_true c
    subst c
    exact ⟨t, e⟩
  · cases c
theorem strP {K : PySem.W.Frag} {x z : Str} (c : strB K x z = true) : ∃ t, PySem.W.nsIn K mainGlobals x = some (some (.str z t)) := by
  unfold strB at c
  split at c
  · rename_i j t e
    have c := of_decide_eq_true c
    subst c
    exact ⟨t, e⟩
  · cases c
/-- the walk of a law, what may be raised told world by world -/
theorem walkH {l : PySem.W.OpenLaw} {n k : Nat} {q : Program} {loose : List Str} {XP : (Str → Option Value) → Heap → Prop} {YP : World → Heap → Prop} {d : DefRec} {x : Str}
    (m1 : l.most = some n) (m2 : n ≤ sizeLine) (m3 : d.params.defaults = []) (m4 : Room k callerA)
    (F : ∀ (w : World) (mg : Str → Option Value) (fa : Addr) (h : Heap), YP w h → h.Ns mainGlobals mg → mg d.name = some (.ref fa) →
      ∃ (K : PySem.W.Frag) (fd : FuncData), K.In h ∧ (∀ (s : Shared) (u : Value), BindsTo s fd ⟨[u], []⟩ [(x, u)]) ∧
        ∀ base : Heap, K.In base → base.Ns mainGlobals mg → FnOk l.prog w K mg base (L2.CX l.prog w) k fa fd [x] (spLaw K n)) :
    PySem.W.WalkO q loose XP YP l.row.toRowW d [] (fun f vs => PySem.call f vs) := by
  refine Att.attach_call m1 m3 ?_
  intro w s₀ s₁ mg mb fa o pm cd doc a vs ns Gr Y ho hd hcd hmg hobj hints hlen hg
  obtain ⟨K, fd, KX, hb, hF⟩ := F w mg fa _ Y Gr.T.g hmg
  refine law_call KX Gr.T.g Gr.T.b Gr.T.builtins Gr.T.nolimit hg hobj hints (Nat.le_trans hlen m2) m4 hF hb ?_ ?_
  · exact fun H _ hS => ⟨a, ns, rfl, hS, hlen, fun _ => rfl⟩
  · rintro H e s' ⟨_, _, _, _, _, _, _, _, _, _, _, _, z⟩
    exact z
end MS

set_option Elab.async false
set_option linter.all false
set_option maxRecDepth 100000
set_option maxHeartbeats 2000000
/-! MUG: the __init__ of an own exception, checked. -/
namespace MS
open PySem PySem.Spec PyProof.Rows L2
def cSupI (st : Stmt) : Option Expr := match st with
  | .Expr (.Call (.Attribute (.Call (.Name y _) [] [] _) nm apos) [e] [] cpos) _ => if decide (y = "super") && decide (nm = "__init__") && (apos.endLine == cpos.line) then some e else none
  | _ => none
theorem cSupI_ok {st : Stmt} {e : Expr} (h : cSupI st = some e) : ∃ p0 p1 apos cpos pos, st = .Expr (.Call (.Attribute (.Call (.Name "super" p0) [] [] p1) "__init__" apos) [e] [] cpos) pos ∧ (apos.endLine == cpos.line) = true := by
  unfold cSupI at h
  split at h
  · rename_i y p0 p1 nm apos e1 cpos pos
    split at h
    · rename_i hh
      rw [Bool.and_eq_true, Bool.and_eq_true, decide_eq_true_eq, decide_eq_true_eq] at hh
      obtain ⟨⟨rfl, rfl⟩, h3⟩ := hh
      cases h
      exact ⟨p0, p1, apos, cpos, pos, rfl, h3⟩
    · cases h
  · cases h
def isLit (o : List Expr) : Bool := match o with
  | [] => true
  | [.Constant (.str b) _ _] => decide (b.length ≤ 1000)
  | _ => false
/-- with a name: the text of it -/
def cRepr (N : List Str) (sc : Scope) (e : Expr) : Bool := match e with
  | .JoinedStr (.Constant (.str a) _ _ :: .FormattedValue (.Name n1 _) cv none _ :: rest) _ => decide (a.length ≤ 1000) && decide (cv = 114) && decide (N[1]? = some n1) && decide (sc.names.lookup n1 = some .local) && decide (n1 ≠ "__debug__") && decide (n1 ≠ "__classdict__") && isLit rest
  | _ => false
def cInit (N : List Str) (sc : Scope) (w : Bool) (b : List Stmt) : Bool := match w, b with
  | false, [st] => (match cSupI st with
    | some (.Constant (.str _) _ _) => true
    | _ => false)
  | true, [st, .Assign [.Attribute (.Name n0 _) nm _] (.Name n1 _) _] => (match cSupI st with
    | some e => cRepr N sc e
    | none => false) && decide (nm = "name") && decide (N[0]? = some n0) && decide (sc.names.lookup n0 = some .local) && decide (N[1]? = some n1) && decide (sc.names.lookup n1 = some .local) && decide (n0 = "self") && decide (n1 ≠ "__debug__") && decide (n1 ≠ "__classdict__")
  | _, _ => false
section
variable {Γ : Run} {I : Info} {X : Cx} {eb : EBase} {D : Addr} {N : List Str} {sc : Scope}
def nilC : Cl := ⟨fun _ _ => bad, fun _ _ => bad, fun _ _ => none, fun _ => none, fun _ _ => false, fun _ => none, 0, fun _ _ => false⟩
theorem repr_ok {e : Expr} (hN : X.N = N) (hsc : X.env.scope = sc) (h : cRepr N sc e = true) : ∃ a rest, SE Γ X e (evE nilC (.fst (.lit a :: .rep (.var 1) :: rest))) ∧ a.length ≤ 1000 ∧ (rest = [] ∨ ∃ b : Str, b.length ≤ 1000 ∧ rest = [.lit b]) ∧ stB e = false := by
  unfold cRepr at h
  split at h
  · rename_i a j1 q1 n1 q2 cv q3 rest q4
    rw [Bool.and_eq_true, Bool.and_eq_true, Bool.and_eq_true, Bool.and_eq_true, Bool.and_eq_true, Bool.and_eq_true, decide_eq_true_eq, decide_eq_true_eq, decide_eq_true_eq, decide_eq_true_eq, decide_eq_true_eq, decide_eq_true_eq] at h
    obtain ⟨⟨⟨⟨⟨⟨h1, h2⟩, h3⟩, h4⟩, h5⟩, h6⟩, h7⟩ := h
    subst h2
    have hv : SE Γ X (.Name n1 q2) (evE nilC (.var 1)) := se_var (by rw [hN]; exact h3) (.inl (by rw [hsc]; exact h4)) (beq_eq_false_iff_ne.mpr h5) (beq_eq_false_iff_ne.mpr h6)
    unfold isLit at h7
    split at h7
    · exact ⟨a, [], se_fst (.cons sf_lit (.cons (sf_rep hv) .nil)), h1, .inl rfl, rfl⟩
    · rename_i b j2 q5
      exact ⟨a, [.lit b], se_fst (.cons sf_lit (.cons (sf_rep hv) (.cons sf_lit .nil))), h1, .inr ⟨b, of_decide_eq_true h7, rfl⟩, rfl⟩
    · cases h7
  · cases h
theorem init_ok (Γ : Run) {w : Bool} {b0 b : List Stmt} (hN : X.N = N) (hsc : X.env.scope = sc) (K : SupK X D "self") (h : cInit N sc w b = true) : ∃ t, PAts X b0 b t ∧ ∀ us H Q E, (if w then spW X.K eb D else spN X.K eb D) us H Q E → t { nx := fun _ H2 => Q .non H2, rt := Q } (L2.start N us) H := by
  unfold cInit at h
  split at h
  · rename_i st
    split at h
    · rename_i x j q e
      obtain ⟨p0, p1, apos, cpos, pos, rfl, hl⟩ := cSupI_ok e
      exact init_N (C := nilC) (Γ := Γ) K se_str rfl hl (by decide)
    · cases h
  · rename_i st n0 q0 nm q1 n1 q2 q3
    rw [Bool.and_eq_true, Bool.and_eq_true, Bool.and_eq_true, Bool.and_eq_true, Bool.and_eq_true, Bool.and_eq_true, Bool.and_eq_true, Bool.and_eq_true] at h
    simp only [decide_eq_true_eq] at h
    obtain ⟨⟨⟨⟨⟨⟨⟨⟨h1, rfl⟩, h3⟩, h4⟩, h5⟩, h6⟩, rfl⟩, h8⟩, h9⟩ := h
    split at h1
    · rename_i e e1
      obtain ⟨p0, p1, apos, cpos, pos, rfl, hl⟩ := cSupI_ok e1
      obtain ⟨a, rest, he, ha, hr, hst⟩ := repr_ok (Γ := Γ) hN hsc h1
      have l2 : 2 ≤ N.length := (List.getElem?_eq_some_iff.mp h5).1
      exact init_W (C := nilC) (Γ := Γ) K he ha hr l2 (pe_var (by rw [hN]; exact h3) (.inl (by rw [hsc]; exact h4)) (by decide) (by decide)) (pe_var (by rw [hN]; exact h5) (.inl (by rw [hsc]; exact h6)) (beq_eq_false_iff_ne.mpr h8) (beq_eq_false_iff_ne.mpr h9)) hst hl (by decide) rfl
    · cases h1
  · cases h
theorem mkG_ok {f c : Nat} {w : Bool} {body : List Stmt} (F : FnFactK Γ I f N body sc (Γ.xA c) "self") (T : ExC Γ.K eb (Γ.xA c)) (iC : PySem.W.findIn Γ.K (.ref (Γ.xA c)) "__init__" = some (some (.ref (I.fA f)))) (tI : PySem.W.typeIn Γ.K (.ref (I.fA f)) = some (.type "function"))
    (hp : I.pos f = true) (hl : (I.ps f).length = if w then 2 else 1) (h : cInit N sc w body = true) : MkG Γ eb (Γ.xA c) (I.fA f) (I.fd f) (I.ps f) (if w then spW Γ.K eb (Γ.xA c) else spN Γ.K eb (Γ.xA c)) := by
  refine ⟨T, iC, tI, fn_ex F (fun us H Q E q => ?_) (fun X S hc U SK => ?_), F.bd hp⟩
  · rw [hl]
    cases w with
    | true => obtain ⟨a, C, z, rfl, _⟩ := q; rfl
    | false => obtain ⟨a, C, rfl, _⟩ := q; rfl
  · have := init_ok Γ (eb := eb) (b0 := body) U.hN U.hsc SK h
    rw [S.K] at this
    exact this
end
end MS

set_option Elab.async false
set_option linter.all false
/-! PLA: plain reasoning about the interpreter: what does not touch the heap. -/
namespace MS
open PySem
theorem b_ok {α β : Type} {x : MH α} {f : α → MH β} {h h1 : List Ob} {a : α} (e : x h = .ok a h1) : MH.bind x f h = f a h1 := by unfold MH.bind; rw [e]
theorem pur_t (t : T) (h : List Ob) : pur (.t t) h = .ok t h := rfl
theorem mp_t : ∀ (ts : List T) (h : List Ob), mp pur (ts.map .t) h = .ok ts h
  | [], h => rfl
  | t :: ts, h => by
    show MH.bind (pur (.t t)) (fun y => MH.bind (mp pur (ts.map .t)) fun ys => pure (y :: ys)) h = _
    rw [b_ok (pur_t t h), b_ok (mp_t ts h)]
    rfl
theorem keep_t (ts : List T) (h : List Ob) : keep false (ts.map .t) h = .ok (.t (.lst ts)) h := by
  show MH.bind (mp pur (ts.map .t)) (fun ts => (pure (Val.t (T.lst ts)) : MH Val)) h = _
  rw [b_ok (mp_t ts h)]
  rfl
theorem trunc_self : ∀ h : List Ob, trunc h.length h = h := fun h => by
  unfold trunc
  rw [List.take_length]
  split <;> rfl
/-- the tree x at every heap, no heap touched -/
def PV (C : Cl) (loc : Loc) (e : E) (x : T) : Prop := ∀ h, evE C e loc h = .ok (.t x) h
def PVs (C : Cl) (loc : Loc) (es : List E) (xs : List T) : Prop := ∀ h, evEs C es loc h = .ok (xs.map .t) h
def PT (C : Cl) (loc : Loc) (e : E) (b : Bool) : Prop := ∀ h, evT C e loc h = .ok b h
section
variable {C : Cl} {loc : Loc}
theorem pv_var {i : Nat} {x : T} (e : loc[i]? = some (some (.t x))) : PV C loc (.var i) x := fun h => by
  show (match loc[i]? with | some (some v) => RH.ok (nrm v h) h | _ => .bad) = _
  rw [e]
  rfl
theorem pv_int {i : Int} : PV C loc (.int i) (.int i) := fun _ => rfl
theorem pv_str {s : Str} : PV C loc (.str s) (.str s) := fun _ => rfl
theorem pv_bl {b : Bool} : PV C loc (.bl b) (.bl b) := fun _ => rfl
theorem pv_non : PV C loc .non .non := fun _ => rfl
theorem pv_gl {g : Nat} {x : T} (e : C.gl g = some x) : PV C loc (.gl g) x := fun h => by
  show (match C.gl g with | some x => (pure (Val.t x) : MH Val) | none => bad) h = _
  rw [e]
  rfl
theorem pvs_nil : PVs C loc [] [] := fun _ => rfl
theorem pvs_cons {e : E} {es : List E} {x : T} {xs : List T} (a : PV C loc e x) (b : PVs C loc es xs) : PVs C loc (e :: es) (x :: xs) := fun h => by
  show MH.bind (evE C e loc) (fun v => MH.bind (evEs C es loc) fun vs => (pure (v :: vs) : MH (List Val))) h = _
  rw [b_ok (a h), b_ok (b h)]
  rfl
theorem pv_op {o : Op} {es : List E} {xs : List T} {x : T} (a : PVs C loc es xs) (e : ∀ h, opM o (xs.map .t) h = .ok (.t x) h) : PV C loc (.op o es) x := fun h => by
  show MH.bind (evEs C es loc) (fun vs => opM o vs) h = _
  rw [b_ok (a h)]
  exact e h
theorem pv_tup {es : List E} {xs : List T} (a : PVs C loc es xs) : PV C loc (.tup es) (.tup xs) := fun h => by
  show MH.bind (evEs C es loc) (fun vs => MH.bind (mp pur vs) fun ts => (pure (Val.t (T.tup ts)) : MH Val)) h = _
  rw [b_ok (a h), b_ok (mp_t xs h)]
  rfl
theorem pv_lst {es : List E} {xs : List T} (a : PVs C loc es xs) : PV C loc (.lst false es) (.lst xs) := fun h => by
  show MH.bind (evEs C es loc) (fun vs => keep false vs) h = _
  rw [b_ok (a h)]
  exact keep_t xs h
theorem pv_ifx {c a b : E} {k : Bool} {x : T} (hc : PT C loc c k) (hx : PV C loc (if k then a else b) x) : PV C loc (.ifx c a b) x := fun h => by
  show MH.bind (evT C c loc) (fun k => if k then evE C a loc else evE C b loc) h = _
  rw [b_ok (hc h)]
  cases k <;> exact hx h
theorem pv_nott {a : E} {k : Bool} (ha : PV C loc a (.bl k)) : PV C loc (.nott a) (.bl (!k)) := fun h => by
  show MH.bind (evE C a loc) (fun v => MH.bind (blV v) fun b => bl (!b)) h = _
  rw [b_ok (ha h)]
  rfl
/-- a call that is handed trees -/
theorem pv_call {f : Nat} {es : List E} {xs : List T} {x : T} {h1 : List Ob} (a : PVs C loc es xs) (e : C.fn f (xs.map .t) [] = .ok (.t x) h1) : PV C loc (.call false f es) x := fun h => by
  show MH.bind (evEs C es loc) (fun vs => callM C false f vs) h = _
  rw [b_ok (a h)]
  have q : (xs.map Val.t).all Val.isT = true := by rw [List.all_map]; exact List.all_eq_true.mpr fun _ _ => rfl
  show (if (xs.map Val.t).all Val.isT then apart (C.fn f (xs.map .t)) else bad) h = _
  rw [if_pos q]
  unfold apart
  rw [e]
theorem pv_meth {o : E} {m f c : Nat} {es : List E} {fs : List (Nat × T)} {xs : List T} {x : T} {h1 : List Ob} (a : PV C loc o (.ins c fs)) (b : PVs C loc es xs) (hm : C.mth c m = some f) (e : C.fn f (.t (.ins c fs) :: xs.map .t) [] = .ok (.t x) h1) : PV C loc (.meth false o m es) x := fun h => by
  show MH.bind (evE C o loc) (fun v => MH.bind (clsV v) fun c => match C.mth c m with | some f => MH.bind (evEs C es loc) fun vs => callM C false f (v :: vs) | none => bad) h = _
  rw [b_ok (a h), b_ok (show clsV (.t (.ins c fs)) h = .ok c h from rfl), hm]
  dsimp only
  rw [b_ok (b h)]
  have q : (Val.t (.ins c fs) :: xs.map Val.t).all Val.isT = true := by rw [List.all_cons, List.all_map]; exact List.all_eq_true.mpr fun _ _ => rfl
  show (if (Val.t (.ins c fs) :: xs.map Val.t).all Val.isT then apart (C.fn f (.t (.ins c fs) :: xs.map .t)) else bad) h = _
  rw [if_pos q]
  unfold apart
  rw [e]
theorem lcM_map {asgn : Val → Loc → Option Loc} {tst : Loc → MH Bool} {elt : Loc → MH Val} (g : T → T) : ∀ (xs : List T) (h : List Ob), (∀ x ∈ xs, ∃ l, asgn (.t x) loc = some l ∧ (∀ h, tst l h = .ok true h) ∧ ∀ h, elt l h = .ok (.t (g x)) h) →
    lcM asgn loc tst elt (xs.map .t) h = .ok ((xs.map g).map .t) h
  | [], h, _ => rfl
  | x :: xs, h, H => by
    obtain ⟨l, e1, e2, e3⟩ := H x List.mem_cons_self
    have IH := lcM_map (asgn := asgn) (tst := tst) (elt := elt) g xs h fun y hy => H y (List.mem_cons_of_mem _ hy)
    show (match asgn (.t x) loc with
      | none => bad
      | some l => MH.bind (tst l) fun b => if b then MH.bind (elt l) fun v => MH.bind (lcM asgn loc tst elt (xs.map .t)) fun vs => (pure (v :: vs) : MH (List Val)) else lcM asgn loc tst elt (xs.map .t)) h = _
    rw [e1]
    dsimp only
    rw [b_ok (e2 h), if_pos rfl, b_ok (e3 h), b_ok IH]
    rfl
/-- what a loop walks: trees, no heap touched -/
def PI (C : Cl) (loc : Loc) (it : It) (xs : List T) : Prop := ∀ h, evIt C it loc h = .ok (xs.map .t) h
theorem pv_lc {own : List Nat} {tg : Tg} {it : It} {e : E} {xs : List T} (g : T → T) (hi : PI C loc it xs) (hl : xs.length ≤ SL) (H : ∀ x ∈ xs, ∃ l, asg tg (.t x) (wipeL loc own) = some l ∧ PV C l e (g x)) : PV C loc (.lc false own tg it [] e) (.lst (xs.map g)) := fun h => by
  show MH.bind (evIt C it loc) (fun ys => if ys.length ≤ SL then noexc (MH.bind (lcM (asg tg) (wipeL loc own) (evTs C []) (evE C e) ys) fun vs => keep false vs) else bad) h = _
  rw [b_ok (hi h), if_pos (by rw [List.length_map]; exact hl)]
  have q := lcM_map (asgn := asg tg) (tst := evTs C []) (elt := evE C e) g xs h fun x hx => by
    obtain ⟨l, e1, e2⟩ := H x hx
    exact ⟨l, e1, fun _ => rfl, e2⟩
  unfold noexc
  rw [b_ok q, keep_t]
/-! ### loops -/
/-- what one turn of a loop is to bring: on, or out -/
def turn (on : Loc → List Ob → Prop) (R : RS → Prop) : RS → Prop
  | .ok (.nx l) h => on l h
  | .ok (.ct l) h => on l h
  | .ok (.bk l) h => R (.ok (.nx l) h)
  | r => R r
theorem forM_inv {tg : Tg} {body : Loc → List Ob → RS} {J : List Val → Loc → List Ob → Prop} {R : RS → Prop} (hs : ∀ x xs loc h, J (x :: xs) loc h → ∃ l, asg tg (nrm x h) loc = some l ∧ turn (J xs) R (body l h)) (he : ∀ loc h, J [] loc h → R (.ok (.nx loc) h)) :
    ∀ xs loc h, J xs loc h → R (forM tg body xs loc h)
  | [], loc, h, j => he loc h j
  | x :: xs, loc, h, j => by
    obtain ⟨l, e, t⟩ := hs x xs loc h j
    show R (match asg tg (nrm x h) loc with
      | none => .bad
      | some l => match body l h with
        | .ok (.nx l') h' => forM tg body xs l' h'
        | .ok (.ct l') h' => forM tg body xs l' h'
        | .ok (.bk l') h' => .ok (.nx l') h'
        | r => r)
    rw [e]
    dsimp only
    cases q : body l h with
    | ok f h' =>
      rw [q] at t
      cases f with
      | nx l' => exact forM_inv hs he xs l' h' t
      | ct l' => exact forM_inv hs he xs l' h' t
      | bk l' => exact t
      | ret v => exact t
    | exc e l' h' => rw [q] at t; exact t
    | bad => rw [q] at t; exact t
/-- a while loop: by a measure below its fuel -/
theorem whileM_inv {c : Loc → MH Bool} {body : Loc → List Ob → RS} {J : Nat → Loc → List Ob → Prop} {R : RS → Prop} (hs : ∀ n loc h, J n loc h → ∃ b, c loc h = .ok b h ∧ if b then ∃ m, n = m + 1 ∧ turn (J m) R (body loc h) else R (.ok (.nx loc) h)) :
    ∀ k n loc h, n < k → J n loc h → R (whileM c body k loc h)
  | 0, n, loc, h, hk, _ => absurd hk (Nat.not_lt_zero _)
  | k + 1, n, loc, h, hk, j => by
    obtain ⟨b, e, t⟩ := hs n loc h j
    show R (match c loc h with
      | .ok true h' => (match body loc h' with
        | .ok (.nx l') h'' => whileM c body k l' h''
        | .ok (.ct l') h'' => whileM c body k l' h''
        | .ok (.bk l') h'' => .ok (.nx l') h''
        | r => r)
      | .ok false h' => .ok (.nx loc) h'
      | .exc e h' => .exc e loc h'
      | .bad => .bad)
    rw [e]
    cases b with
    | false => exact t
    | true =>
      obtain ⟨m, rfl, t⟩ := t
      dsimp only
      have hm : m < k := Nat.lt_of_succ_lt_succ hk
      cases q : body loc h with
      | ok f h' =>
        rw [q] at t
        cases f with
        | nx l' => exact whileM_inv hs k m l' h' hm t
        | ct l' => exact whileM_inv hs k m l' h' hm t
        | bk l' => exact t
        | ret v => exact t
      | exc e l' h' => rw [q] at t; exact t
      | bad => rw [q] at t; exact t
/-! ### statements -/
theorem st_set {i : Nat} {e : E} {x : T} {h : List Ob} (a : PV C loc e x) : exS C (.set i e) loc h = .ok (.nx (loc.set i (some (.t x)))) h := by
  show thenE (evE C e loc) loc (fun v h => .ok (.nx (loc.set i (some v))) h) h = _
  unfold thenE
  rw [a h]
theorem st_ret {e : E} {x : T} {h : List Ob} (a : PV C loc e x) : exS C (.ret false e) loc h = .ok (.ret (.t x)) h := by
  show thenE (MH.bind (evE C e loc) fun v => MH.bind (pur v) fun x => (pure (Val.t x) : MH Val)) loc (fun v h => .ok (.ret v) h) h = _
  unfold thenE
  rw [b_ok (a h)]
  rfl
theorem st_iff {c : E} {k : Bool} {u v : List S} {h : List Ob} (a : PT C loc c k) : exS C (.iff c u v) loc h = (if k then exSs C u loc h else exSs C v loc h) := by
  show thenE (evT C c loc) loc (fun k => if k then exSs C u loc else exSs C v loc) h = _
  unfold thenE
  rw [a h]
  cases k <;> rfl
theorem ss_nx {s : S} {ss : List S} {l : Loc} {h h1 : List Ob} (a : exS C s loc h = .ok (.nx l) h1) : exSs C (s :: ss) loc h = exSs C ss l h1 := by
  show thenS (exS C s loc h) (exSs C ss) = _
  rw [a]
  rfl
theorem ss_rt {s : S} {ss : List S} {v : Val} {h h1 : List Ob} (a : exS C s loc h = .ok (.ret v) h1) : exSs C (s :: ss) loc h = .ok (.ret v) h1 := by
  show thenS (exS C s loc h) (exSs C ss) = _
  rw [a]
  rfl
theorem st_seq {tg : Tg} {e : E} {b : List S} {xs : List T} {h : List Ob} (a : PI C loc (.seq e) xs) : exS C (.fr tg (.seq e) b) loc h = forM tg (exSs C b) (xs.map .t) loc h := by
  show thenE (evIt C (.seq e) loc) loc (fun xs => forM tg (exSs C b) xs loc) h = _
  unfold thenE
  rw [a h]
theorem run_rt {d : FnD} {vs : List Val} {x : T} {h h1 : List Ob} (hl : vs.length = d.np) (a : exSs C d.body (startL d vs) h = .ok (.ret (.t x)) h1) : run C d vs h = .ok (.t x) (trunc h.length h1) := by
  unfold run
  rw [if_pos hl, a]
theorem run_rt0 {d : FnD} {vs : List Val} {x : T} {h1 : List Ob} (hl : vs.length = d.np) (a : exSs C d.body (startL d vs) [] = .ok (.ret (.t x)) h1) : run C d vs [] = .ok (.t x) [] := by
  rw [run_rt hl a]
  rfl
theorem pi_lst {e : E} {xs : List T} (a : PV C loc e (.lst xs)) : PI C loc (.seq e) xs := fun h => by
  show MH.bind (evE C e loc) walkV h = _
  rw [b_ok (a h)]
  rfl
theorem pi_tup {e : E} {xs : List T} (a : PV C loc e (.tup xs)) : PI C loc (.seq e) xs := fun h => by
  show MH.bind (evE C e loc) walkV h = _
  rw [b_ok (a h)]
  rfl
/-! ### tests -/
theorem pt_op {o : Op} {es : List E} {xs : List T} {b : Bool} (a : PVs C loc es xs) (hc : o.cmp = true) (e : ∀ h, opM o (xs.map .t) h = .ok (.t (.bl b)) h) : PT C loc (.op o es) b := fun h => by
  show MH.bind (evEs C es loc) (fun vs => MH.bind (opM o vs) (if o.cmp then blV else tru)) h = _
  rw [b_ok (a h), hc, if_pos rfl, b_ok (e h)]
  rfl
theorem pt_opt {o : Op} {es : List E} {xs : List T} {b : Bool} (a : PVs C loc es xs) (hc : o.cmp = false) (e : ∀ h, opM o (xs.map .t) h = .ok (.t (.bl b)) h) : PT C loc (.op o es) b := fun h => by
  show MH.bind (evEs C es loc) (fun vs => MH.bind (opM o vs) (if o.cmp then blV else tru)) h = _
  rw [b_ok (a h), hc, if_neg (by decide), b_ok (e h)]
  rfl
theorem pt_nott {a : E} {k : Bool} (ha : PT C loc a k) : PT C loc (.nott a) (!k) := fun h => by
  show MH.bind (evT C a loc) (fun b => (pure (!b) : MH Bool)) h = _
  rw [b_ok (ha h)]
  rfl
theorem pt_or2 {a b : E} {k l : Bool} (ha : PT C loc a k) (hb : k = false → PT C loc b l) : PT C loc (.or [a, b]) (k || l) := fun h => by
  show MH.bind (evT C a loc) (fun b1 => if b1 then (pure true : MH Bool) else MH.bind (evT C b loc) fun b2 => if b2 then (pure true : MH Bool) else pure false) h = _
  rw [b_ok (ha h)]
  cases k with
  | true => rfl
  | false =>
    rw [if_neg (by decide), b_ok (hb rfl h)]
    cases l <;> rfl
theorem pt_and2 {a b : E} {k l : Bool} (ha : PT C loc a k) (hb : k = true → PT C loc b l) : PT C loc (.and [a, b]) (k && l) := fun h => by
  show MH.bind (evT C a loc) (fun b1 => if b1 then MH.bind (evT C b loc) (fun b2 => if b2 then (pure true : MH Bool) else pure false) else (pure false : MH Bool)) h = _
  rw [b_ok (ha h)]
  cases k with
  | false => rfl
  | true =>
    rw [if_pos rfl, b_ok (hb rfl h)]
    cases l <;> rfl
theorem pt_call {f : Nat} {es : List E} {xs : List T} {b : Bool} {h1 : List Ob} (a : PVs C loc es xs) (e : C.fn f (xs.map .t) [] = .ok (.t (.bl b)) h1) : PT C loc (.call false f es) b := fun h => by
  show MH.bind (evEs C es loc) (fun vs => MH.bind (callM C false f vs) tru) h = _
  rw [b_ok (a h)]
  have q : (xs.map Val.t).all Val.isT = true := by rw [List.all_map]; exact List.all_eq_true.mpr fun _ _ => rfl
  have q2 : callM C false f (xs.map .t) h = .ok (.t (.bl b)) h := by
    show (if (xs.map Val.t).all Val.isT then apart (C.fn f (xs.map .t)) else bad) h = _
    rw [if_pos q]
    unfold apart
    rw [e]
  rw [b_ok q2]
  rfl
/-! ### operators on numbers -/
theorem o_add {i j : Int} {h : List Ob} : opM .add [.t (.int i), .t (.int j)] h = .ok (.t (.int (i + j))) h := rfl
theorem o_sub {i j : Int} {h : List Ob} : opM .sub [.t (.int i), .t (.int j)] h = .ok (.t (.int (i - j))) h := rfl
theorem o_lt {i j : Int} {h : List Ob} : opM .lt [.t (.int i), .t (.int j)] h = .ok (.t (.bl (decide (i < j)))) h := rfl
theorem o_le {i j : Int} {h : List Ob} : opM .le [.t (.int i), .t (.int j)] h = .ok (.t (.bl (decide (i ≤ j)))) h := rfl
theorem o_gt {i j : Int} {h : List Ob} : opM .gt [.t (.int i), .t (.int j)] h = .ok (.t (.bl (decide (j < i)))) h := rfl
theorem o_ge {i j : Int} {h : List Ob} : opM .ge [.t (.int i), .t (.int j)] h = .ok (.t (.bl (decide (j ≤ i)))) h := rfl
theorem o_int {i : Int} {h : List Ob} : opM .int1 [.t (.int i)] h = .ok (.t (.int i)) h := rfl
theorem o_abs {i : Int} {h : List Ob} : opM .abs [.t (.int i)] h = .ok (.t (.int (if i < 0 then -i else i))) h := rfl
theorem o_mod {i j : Int} {h : List Ob} (hj : j ≠ 0) : opM .mod [.t (.int i), .t (.int j)] h = .ok (.t (.int (i.fmod j))) h := by
  show (if decide (j ≠ 0) then int (i.fmod j) else bad) h = _
  rw [decide_eq_true hj, if_pos rfl]
  rfl
theorem o_fdv {i j : Int} {h : List Ob} (hj : L2.CDivN i j) : opM .fdv [.t (.int i), .t (.int j)] h = .ok (.t (.int (i.fdiv j))) h := by
  show (if decide (L2.CDivN i j) then int (i.fdiv j) else bad) h = _
  rw [decide_eq_true hj, if_pos rfl]
  rfl
theorem o_mul {i j : Int} {h : List Ob} (hj : L2.CMul i j) : opM .mul [.t (.int i), .t (.int j)] h = .ok (.t (.int (i * j))) h := by
  show (if decide (L2.CMul i j) then int (i * j) else bad) h = _
  rw [decide_eq_true hj, if_pos rfl]
  rfl
theorem atI_nat {α : Type} {xs : List α} {k : Nat} {x : α} (e : xs[k]? = some x) : L2.atI xs (k : Int) = some x := by
  have hk : k < xs.length := by
    rcases Nat.lt_or_ge k xs.length with q | q
    · exact q
    · rw [List.getElem?_eq_none q] at e; cases e
  unfold L2.atI L2.ixN
  rw [if_pos (Int.natCast_nonneg k), if_pos (by omega)]
  exact e
theorem o_idxl {xs : List T} {k : Nat} {x : T} {h : List Ob} (e : xs[k]? = some x) : opM .idx [.t (.lst xs), .t (.int (k : Int))] h = .ok (.t x) h := by
  show MH.bind (seqV (.t (.lst xs))) (fun ys => match L2.atI ys (k : Int) with | some v => fun h => RH.ok (nrm v h) h | none => bad) h = _
  rw [b_ok (show seqV (.t (.lst xs)) h = .ok (xs.map .t) h from rfl), atI_nat (x := Val.t x) (by rw [List.getElem?_map, e]; rfl)]
  rfl
theorem o_idxt {xs : List T} {k : Nat} {x : T} {h : List Ob} (e : xs[k]? = some x) : opM .idx [.t (.tup xs), .t (.int (k : Int))] h = .ok (.t x) h := by
  show MH.bind (seqV (.t (.tup xs))) (fun ys => match L2.atI ys (k : Int) with | some v => fun h => RH.ok (nrm v h) h | none => bad) h = _
  rw [b_ok (show seqV (.t (.tup xs)) h = .ok (xs.map .t) h from rfl), atI_nat (x := Val.t x) (by rw [List.getElem?_map, e]; rfl)]
  rfl
theorem o_lenl {xs : List T} {h : List Ob} : opM .len [.t (.lst xs)] h = .ok (.t (.int (xs.length : Int))) h := by
  show RH.ok (Val.t (.int ((xs.map Val.t).length : Int))) h = _
  rw [List.length_map]
theorem o_lent {xs : List T} {h : List Ob} : opM .len [.t (.tup xs)] h = .ok (.t (.int (xs.length : Int))) h := by
  show RH.ok (Val.t (.int ((xs.map Val.t).length : Int))) h = _
  rw [List.length_map]
theorem o_lens {s : Str} {h : List Ob} (hs : s.length ≤ SL) : opM .len [.t (.str s)] h = .ok (.t (.int (s.length : Int))) h := by
  show (if s.length ≤ SL then int s.length else bad) h = _
  rw [if_pos hs]
  rfl
theorem o_fld {f c : Nat} {fs : List (Nat × T)} {x : T} {h : List Ob} (e : fs.lookup f = some x) : opM (.fld f) [.t (.ins c fs)] h = .ok (.t x) h := by
  show fldV f (.t (.ins c fs)) h = _
  simp only [fldV, e]
theorem o_listt {ns : List T} {h : List Ob} : opM (.list false) [.t (.tup ns)] h = .ok (.t (.lst ns)) h := keep_t ns h
theorem o_listl {ns : List T} {h : List Ob} : opM (.list false) [.t (.lst ns)] h = .ok (.t (.lst ns)) h := keep_t ns h
/-- a search: a loop that goes out with the first find -/
def Found (Inv : Loc → Prop) (h : List Ob) (o : Option T) (r : RS) : Prop := match o with
  | some x => r = .ok (.ret (.t x)) h
  | none => ∃ l, r = .ok (.nx l) h ∧ Inv l
theorem forM_find {tg : Tg} {body : Loc → List Ob → RS} {Inv : Loc → Prop} {h : List Ob} (f : T → Option T) : ∀ (xs : List T) (loc : Loc), (∀ x ∈ xs, ∀ loc, Inv loc → ∃ l, asg tg (.t x) loc = some l ∧ Found Inv h (f x) (body l h)) → Inv loc → Found Inv h (xs.findSome? f) (forM tg body (xs.map .t) loc h)
  | [], loc, _, i => ⟨loc, rfl, i⟩
  | x :: xs, loc, H, i => by
    obtain ⟨l, e, t⟩ := H x List.mem_cons_self loc i
    have IH := fun l => forM_find (tg := tg) (body := body) f xs l fun y hy => H y (List.mem_cons_of_mem _ hy)
    have q : forM tg body ((x :: xs).map .t) loc h = (match body l h with
        | .ok (.nx l') h' => forM tg body (xs.map .t) l' h'
        | .ok (.ct l') h' => forM tg body (xs.map .t) l' h'
        | .ok (.bk l') h' => .ok (.nx l') h'
        | r => r) := by
      show (match asg tg (.t x) loc with
        | none => RS.bad
        | some l => match body l h with
          | .ok (.nx l') h' => forM tg body (xs.map .t) l' h'
          | .ok (.ct l') h' => forM tg body (xs.map .t) l' h'
          | .ok (.bk l') h' => .ok (.nx l') h'
          | r => r) = _
      rw [e]
    rw [q, List.findSome?_cons]
    cases hf : f x with
    | some r =>
      rw [hf] at t
      have t : body l h = .ok (.ret (.t r)) h := t
      rw [t]
      exact rfl
    | none =>
      rw [hf] at t
      obtain ⟨l', t1, t2⟩ := t
      rw [t1]
      exact IH l' t2
/-! ### equality of plain values -/
theorem pt_eq {neg : Bool} {a b : E} {x y : T} {r : Bool} (ha : PV C loc a x) (hb : PV C loc b y) (e : scal2 (.t x) (.t y) = some r) : PT C loc (.eqq neg a b) (r ^^ neg) := fun h => by
  show MH.bind (evE C a loc) (fun v => MH.bind (evE C b loc) fun w => MH.bind (eqM C neg v w) blV) h = _
  rw [b_ok (ha h), b_ok (hb h)]
  have q : eqM C neg (.t x) (.t y) h = .ok (.t (.bl (r ^^ neg))) h := by
    unfold eqM
    rw [e]
  rw [b_ok q]
  rfl
theorem pt_eqs {neg : Bool} {a b : E} {s t : Str} (ha : PV C loc a (.str s)) (hb : PV C loc b (.str t)) : PT C loc (.eqq neg a b) (decide (s = t) ^^ neg) := pt_eq ha hb rfl
theorem pt_eqi {neg : Bool} {a b : E} {s t : Int} (ha : PV C loc a (.int s)) (hb : PV C loc b (.int t)) : PT C loc (.eqq neg a b) (decide (s = t) ^^ neg) := pt_eq ha hb rfl
/-- a search over told items -/
theorem forM_findA {A : Type} {tg : Tg} {body : Loc → List Ob → RS} {Inv : Loc → Prop} {h : List Ob} (it : A → T) (f : A → Option T) : ∀ (xs : List A) (loc : Loc), (∀ x ∈ xs, ∀ loc, Inv loc → ∃ l, asg tg (.t (it x)) loc = some l ∧ Found Inv h (f x) (body l h)) → Inv loc → Found Inv h (xs.findSome? f) (forM tg body ((xs.map it).map .t) loc h)
  | [], loc, _, i => ⟨loc, rfl, i⟩
  | x :: xs, loc, H, i => by
    obtain ⟨l, e, t⟩ := H x List.mem_cons_self loc i
    have IH := fun l => forM_findA (tg := tg) (body := body) it f xs l fun y hy => H y (List.mem_cons_of_mem _ hy)
    have q : forM tg body (((x :: xs).map it).map .t) loc h = (match body l h with
        | .ok (.nx l') h' => forM tg body ((xs.map it).map .t) l' h'
        | .ok (.ct l') h' => forM tg body ((xs.map it).map .t) l' h'
        | .ok (.bk l') h' => .ok (.nx l') h'
        | r => r) := by
      show (match asg tg (.t (it x)) loc with
        | none => RS.bad
        | some l => match body l h with
          | .ok (.nx l') h' => forM tg body ((xs.map it).map .t) l' h'
          | .ok (.ct l') h' => forM tg body ((xs.map it).map .t) l' h'
          | .ok (.bk l') h' => .ok (.nx l') h'
          | r => r) = _
      rw [e]
    rw [q, List.findSome?_cons]
    cases hf : f x with
    | some r =>
      rw [hf] at t
      have t : body l h = .ok (.ret (.t r)) h := t
      rw [t]
      exact rfl
    | none =>
      rw [hf] at t
      obtain ⟨l', t1, t2⟩ := t
      rw [t1]
      exact IH l' t2
end
end MS

set_option Elab.async false
set_option linter.all false
/-! PLB: the interpreter evaluated by simp. -/
namespace MS
open PySem
section
variable {C : Cl} {loc : Loc} {h : List Ob}
@[simp] theorem x_bind {α β : Type} (m : MH α) (f : α → MH β) (h : List Ob) : MH.bind m f h = (match m h with | .ok a h' => f a h' | .exc e h' => .exc e h' | .bad => .bad) := id rfl
@[simp] theorem x_pure {α : Type} (a : α) (h : List Ob) : (pure a : MH α) h = .ok a h := id rfl
@[simp] theorem x_bind2 {α β : Type} (m : MH α) (f : α → MH β) (h : List Ob) : (m >>= f) h = (match m h with | .ok a h' => f a h' | .exc e h' => .exc e h' | .bad => .bad) := id rfl
@[simp] theorem x_bad {α : Type} (h : List Ob) : (bad : MH α) h = .bad := id rfl
@[simp] theorem x_var (i : Nat) : evE C (.var i) loc h = (match loc[i]? with | some (some v) => .ok (nrm v h) h | _ => .bad) := id rfl
@[simp] theorem x_int (i : Int) : evE C (.int i) loc h = .ok (.t (.int i)) h := id rfl
@[simp] theorem x_str (i : Str) : evE C (.str i) loc h = .ok (.t (.str i)) h := id rfl
@[simp] theorem x_bl (i : Bool) : evE C (.bl i) loc h = .ok (.t (.bl i)) h := id rfl
@[simp] theorem x_non : evE C .non loc h = .ok (.t .non) h := id rfl
@[simp] theorem x_gl (g : Nat) : evE C (.gl g) loc h = (match C.gl g with | some x => .ok (.t x) h | none => .bad) := by show (match C.gl g with | some x => (pure (Val.t x) : MH Val) | none => bad) h = _; cases C.gl g <;> rfl
@[simp] theorem x_op (o : Op) (es : List E) : evE C (.op o es) loc h = MH.bind (evEs C es loc) (fun vs => opM o vs) h := id rfl
@[simp] theorem x_lm (o : Op) (l : E) (es : List E) : evE C (.lm o l es) loc h = MH.bind (evE C l loc) (fun a => MH.bind (isSeq o.tp a) fun _ => MH.bind (evEs C es loc) fun vs => opM o (a :: vs)) h := id rfl
@[simp] theorem x_eqq (neg : Bool) (a b : E) : evE C (.eqq neg a b) loc h = MH.bind (evE C a loc) (fun v => MH.bind (evE C b loc) fun w => eqM C neg v w) h := id rfl
@[simp] theorem x_inn (neg : Bool) (a b : E) : evE C (.inn neg a b) loc h = MH.bind (evE C a loc) (fun v => MH.bind (evE C b loc) fun w => innM C neg v w) h := id rfl
@[simp] theorem x_ch (o1 o2 : Op) (a b c : E) : evE C (.ch o1 o2 a b c) loc h = MH.bind (evE C a loc) (fun x => MH.bind (evE C b loc) fun y => MH.bind (opM o1 [x, y]) fun r => MH.bind (blV r) fun k =>
    if k then MH.bind (evE C c loc) fun z => opM o2 [y, z] else bl false) h := rfl
@[simp] theorem x_and2 (a b : E) : evE C (.and [a, b]) loc h = MH.bind (evE C a loc) (fun v => MH.bind (blV v) fun k => if k then evE C b loc else bl false) h := id rfl
@[simp] theorem x_or2 (a b : E) : evE C (.or [a, b]) loc h = MH.bind (evE C a loc) (fun v => MH.bind (blV v) fun k => if k then bl true else evE C b loc) h := id rfl
@[simp] theorem x_nott (a : E) : evE C (.nott a) loc h = MH.bind (evE C a loc) (fun v => MH.bind (blV v) fun b => bl (!b)) h := id rfl
@[simp] theorem x_ifx (c a b : E) : evE C (.ifx c a b) loc h = MH.bind (evT C c loc) (fun k => if k then evE C a loc else evE C b loc) h := id rfl
@[simp] theorem x_tup (es : List E) : evE C (.tup es) loc h = MH.bind (evEs C es loc) (fun vs => MH.bind (mp pur vs) fun ts => pure (.t (.tup ts))) h := id rfl
@[simp] theorem x_lst (m : Bool) (es : List E) : evE C (.lst m es) loc h = MH.bind (evEs C es loc) (fun vs => keep m vs) h := id rfl
@[simp] theorem x_dsp (m : Bool) (kvs : List E) : evE C (.dsp m kvs) loc h = MH.bind (newN (.dct [])) (fun n => MH.bind (evPs C kvs loc []) fun acc => MH.bind (fillD n acc) fun _ => if m then pure (.ref n) else MH.bind (pur (.ref n)) fun x => pure (.t x)) h := id rfl
@[simp] theorem x_call (raw : Bool) (f : Nat) (es : List E) : evE C (.call raw f es) loc h = MH.bind (evEs C es loc) (fun vs => callM C raw f vs) h := id rfl
@[simp] theorem x_new (c nk : Nat) (es : List E) : evE C (.new c nk es) loc h = MH.bind (evEs C es loc) (fun vs => newM C false c vs) h := id rfl
@[simp] theorem x_meth (raw : Bool) (o : E) (m : Nat) (es : List E) : evE C (.meth raw o m es) loc h = MH.bind (evE C o loc) (fun v => MH.bind (clsV v) fun c => match C.mth c m with
    | some f => MH.bind (evEs C es loc) fun vs => callM C raw f (v :: vs)
    | none => bad) h := rfl
@[simp] theorem x_sup (d f : Nat) (es : List E) (v : Val) (r : Loc) : evE C (.sup d f es) (some v :: r) h = MH.bind (clsV v) (fun c => if C.isa c d then MH.bind (evEs C es (some v :: r)) fun vs => C.fn f (v :: vs) else bad) h := id rfl
@[simp] theorem x_isi (a : E) (sp : List Sp) : evE C (.isi a sp) loc h = MH.bind (evE C a loc) (fun v => isiM C v sp) h := id rfl
@[simp] theorem x_nil : evEs C [] loc h = .ok [] h := id rfl
@[simp] theorem x_cons (e : E) (es : List E) : evEs C (e :: es) loc h = MH.bind (evE C e loc) (fun v => MH.bind (evEs C es loc) fun vs => pure (v :: vs)) h := id rfl
/-! tests -/
@[simp] theorem y_and2 (a b : E) : evT C (.and [a, b]) loc h = MH.bind (evT C a loc) (fun k => if k then MH.bind (evT C b loc) (fun l => if l then (pure true : MH Bool) else pure false) else pure false) h := id rfl
@[simp] theorem y_or2 (a b : E) : evT C (.or [a, b]) loc h = MH.bind (evT C a loc) (fun k => if k then (pure true : MH Bool) else MH.bind (evT C b loc) (fun l => if l then (pure true : MH Bool) else pure false)) h := id rfl
@[simp] theorem y_or3 (a b c : E) : evT C (.or [a, b, c]) loc h = MH.bind (evT C a loc) (fun k => if k then (pure true : MH Bool) else MH.bind (evT C b loc) (fun l => if l then (pure true : MH Bool) else MH.bind (evT C c loc) (fun l => if l then (pure true : MH Bool) else pure false))) h := id rfl
@[simp] theorem y_nott (a : E) : evT C (.nott a) loc h = MH.bind (evT C a loc) (fun b => pure (!b)) h := id rfl
@[simp] theorem y_var (i : Nat) : evT C (.var i) loc h = (match loc[i]? with | some (some v) => tru (nrm v h) h | _ => .bad) := id rfl
@[simp] theorem y_op (o : Op) (es : List E) : evT C (.op o es) loc h = MH.bind (evEs C es loc) (fun vs => MH.bind (opM o vs) (if o.cmp then blV else tru)) h := id rfl
@[simp] theorem y_lm (o : Op) (l : E) (es : List E) : evT C (.lm o l es) loc h = MH.bind (evE C l loc) (fun a => MH.bind (isSeq o.tp a) fun _ => MH.bind (evEs C es loc) fun vs => MH.bind (opM o (a :: vs)) tru) h := id rfl
@[simp] theorem y_eqq (neg : Bool) (a b : E) : evT C (.eqq neg a b) loc h = MH.bind (evE C a loc) (fun v => MH.bind (evE C b loc) fun w => MH.bind (eqM C neg v w) blV) h := id rfl
@[simp] theorem y_inn (neg : Bool) (a b : E) : evT C (.inn neg a b) loc h = MH.bind (evE C a loc) (fun v => MH.bind (evE C b loc) fun w => MH.bind (innM C neg v w) blV) h := id rfl
@[simp] theorem y_ch (o1 o2 : Op) (a b c : E) : evT C (.ch o1 o2 a b c) loc h = MH.bind (evE C a loc) (fun x => MH.bind (evE C b loc) fun y => MH.bind (opM o1 [x, y]) fun r => MH.bind (blV r) fun k =>
    if k then MH.bind (evE C c loc) fun z => MH.bind (opM o2 [y, z]) blV else pure false) h := rfl
@[simp] theorem y_call (raw : Bool) (f : Nat) (es : List E) : evT C (.call raw f es) loc h = MH.bind (evEs C es loc) (fun vs => MH.bind (callM C raw f vs) tru) h := id rfl
@[simp] theorem y_meth (raw : Bool) (o : E) (m : Nat) (es : List E) : evT C (.meth raw o m es) loc h = MH.bind (evE C o loc) (fun v => MH.bind (clsV v) fun c => match C.mth c m with
    | some f => MH.bind (evEs C es loc) fun vs => MH.bind (callM C raw f (v :: vs)) tru
    | none => bad) h := rfl
@[simp] theorem y_isi (a : E) (sp : List Sp) : evT C (.isi a sp) loc h = MH.bind (evE C a loc) (fun v => MH.bind (isiM C v sp) tru) h := id rfl
/-! statements -/
@[simp] theorem t_thenE {α : Type} (m : MH α) (k : α → List Ob → RS) : thenE m loc k h = (match m h with | .ok a h' => k a h' | .exc e h' => .exc e loc h' | .bad => .bad) := id rfl
@[simp] theorem t_nx (l : Loc) (k : Loc → List Ob → RS) : thenS (.ok (.nx l) h) k = k l h := id rfl
@[simp] theorem t_rt (v : Val) (k : Loc → List Ob → RS) : thenS (.ok (.ret v) h) k = .ok (.ret v) h := id rfl
@[simp] theorem t_bk (l : Loc) (k : Loc → List Ob → RS) : thenS (.ok (.bk l) h) k = .ok (.bk l) h := id rfl
@[simp] theorem t_ct (l : Loc) (k : Loc → List Ob → RS) : thenS (.ok (.ct l) h) k = .ok (.ct l) h := id rfl
@[simp] theorem t_ex (e : Ex) (l : Loc) (k : Loc → List Ob → RS) : thenS (.exc e l h) k = .exc e l h := id rfl
@[simp] theorem s_set (i : Nat) (e : E) : exS C (.set i e) loc h = thenE (evE C e loc) loc (fun v h => .ok (.nx (loc.set i (some v))) h) h := id rfl
@[simp] theorem s_ex (e : E) : exS C (.ex e) loc h = thenE (evE C e loc) loc (fun _ h => .ok (.nx loc) h) h := id rfl
@[simp] theorem s_subd (a i e : E) : exS C (.subd a i e) loc h = thenE (MH.bind (evE C e loc) fun v => MH.bind (evE C a loc) fun a => MH.bind (evE C i loc) fun i => setDM a i v) loc (fun _ h => .ok (.nx loc) h) h := id rfl
@[simp] theorem s_sub (a i e : E) : exS C (.sub a i e) loc h = thenE (MH.bind (evE C e loc) fun v => MH.bind (evE C a loc) fun a => MH.bind (evE C i loc) fun i => setItM a i v) loc (fun _ h => .ok (.nx loc) h) h := id rfl
@[simp] theorem s_fset (a : E) (f : Nat) (e : E) : exS C (.fset a f e) loc h = thenE (MH.bind (evE C e loc) fun v => MH.bind (evE C a loc) fun a => setFM f a v) loc (fun _ h => .ok (.nx loc) h) h := id rfl
@[simp] theorem s_rett (e : E) : exS C (.ret true e) loc h = thenE (evE C e loc) loc (fun v h => .ok (.ret v) h) h := id rfl
@[simp] theorem s_retf (e : E) : exS C (.ret false e) loc h = thenE (MH.bind (evE C e loc) fun v => MH.bind (pur v) fun x => (pure (.t x) : MH Val)) loc (fun v h => .ok (.ret v) h) h := id rfl
@[simp] theorem s_retn : exS C .retn loc h = .ok (.ret (.t .non)) h := id rfl
@[simp] theorem s_pass : exS C .pass loc h = .ok (.nx loc) h := id rfl
theorem ite_ap {α β : Type} (k : Bool) (f g : α → β) (x : α) : (if k then f else g) x = if k then f x else g x := by cases k <;> rfl
@[simp] theorem s_iff (c : E) (a b : List S) : exS C (.iff c a b) loc h = thenE (evT C c loc) loc (fun k h => if k then exSs C a loc h else exSs C b loc h) h := by
  show thenE (evT C c loc) loc (fun k => if k then exSs C a loc else exSs C b loc) h = _
  congr 1
  funext k
  cases k <;> rfl
@[simp] theorem s_seq (tg : Tg) (e : E) (b : List S) : exS C (.fr tg (.seq e) b) loc h = thenE (evIt C (.seq e) loc) loc (fun xs h => forM tg (exSs C b) xs loc h) h := id rfl
@[simp] theorem s_rng (tg : Tg) (e : E) (b : List S) : exS C (.fr tg (.rng1 e) b) loc h = thenE (evIt C (.rng1 e) loc) loc (fun xs h => forM tg (exSs C b) xs loc h) h := id rfl
@[simp] theorem s_enum (tg : Tg) (e : E) (b : List S) : exS C (.fr tg (.enum e) b) loc h = thenE (evIt C (.enum e) loc) loc (fun xs h => forM tg (exSs C b) xs loc h) h := id rfl
@[simp] theorem s_whl (c : E) (b : List S) : exS C (.whl c b) loc h = whileM (evT C c) (exSs C b) C.wf loc h := id rfl
@[simp] theorem s_nil : exSs C [] loc h = .ok (.nx loc) h := id rfl
@[simp] theorem s_cons (s : S) (ss : List S) : exSs C (s :: ss) loc h = thenS (exS C s loc h) (exSs C ss) := id rfl
@[simp] theorem i_seq (e : E) : evIt C (.seq e) loc h = MH.bind (evE C e loc) walkV h := id rfl
@[simp] theorem i_rng (e : E) : evIt C (.rng1 e) loc h = MH.bind (evE C e loc) (fun v => MH.bind (intV v) fun i => rngM 0 i) h := id rfl
@[simp] theorem i_enum (e : E) : evIt C (.enum e) loc h = MH.bind (evE C e loc) (fun v => MH.bind (lstP v) fun xs => pure ((enumT 0 xs).map .t)) h := id rfl
/-! values -/
@[simp] theorem v_nrmt (x : T) : nrm (.t x) h = .t x := id rfl
theorem v_nrmr (n : Nat) : nrm (.ref n) h = (match h[n]? with | some (.frz x) => .t x | _ => .ref n) := rfl
@[simp] theorem v_pur (x : T) : pur (.t x) h = .ok x h := id rfl
@[simp] theorem v_mp0 : mp pur [] h = .ok [] h := id rfl
@[simp] theorem v_mp1 (v : Val) (vs : List Val) : mp pur (v :: vs) h = MH.bind (pur v) (fun y => MH.bind (mp pur vs) fun ys => pure (y :: ys)) h := id rfl
@[simp] theorem v_mpm (ts : List T) : mp pur (ts.map .t) h = .ok ts h := mp_t ts h
@[simp] theorem v_blV (b : Bool) : blV (.t (.bl b)) h = .ok b h := id rfl
@[simp] theorem v_intV (b : Int) : intV (.t (.int b)) h = .ok b h := id rfl
@[simp] theorem v_bl (b : Bool) : bl b h = .ok (.t (.bl b)) h := id rfl
@[simp] theorem v_int (b : Int) : int b h = .ok (.t (.int b)) h := id rfl
@[simp] theorem v_truB (b : Bool) : tru (.t (.bl b)) h = .ok b h := id rfl
@[simp] theorem v_cls (c : Nat) (fs : List (Nat × T)) : clsV (.t (.ins c fs)) h = .ok c h := id rfl
@[simp] theorem v_isT (x : T) : Val.isT (.t x) = true := id rfl
@[simp] theorem v_isR (x : Nat) : Val.isT (.ref x) = false := id rfl
@[simp] theorem v_raw (f : Nat) (vs : List Val) : callM C true f vs h = C.fn f vs h := id rfl
@[simp] theorem v_call (f : Nat) (vs : List Val) : callM C false f vs h = (if vs.all Val.isT then apart (C.fn f vs) h else .bad) := by unfold callM; rw [if_neg (by decide)]; split <;> rfl
@[simp] theorem v_apart (m : MH Val) : apart m h = (match m [] with | .ok (.t x) _ => .ok (.t x) h | .ok (.ref _) _ => .bad | .exc e _ => .exc e h | .bad => .bad) := id rfl
@[simp] theorem v_walkT (xs : List T) : walkV (.t (.tup xs)) h = .ok (xs.map .t) h := id rfl
@[simp] theorem v_walkS (xs : List Int) : walkV (.t (.scr xs)) h = .ok (xs.map fun i => .t (.int i)) h := id rfl
@[simp] theorem v_walkL (xs : List T) : walkV (.t (.lst xs)) h = .ok (xs.map .t) h := id rfl
@[simp] theorem v_lstP (xs : List T) : lstP (.t (.lst xs)) h = .ok xs h := id rfl
@[simp] theorem v_keepf (vs : List Val) : keep false vs h = MH.bind (mp pur vs) (fun ts => (pure (Val.t (T.lst ts)) : MH Val)) h := id rfl
@[simp] theorem v_keept (vs : List Val) : keep true vs h = .ok (.ref h.length) (h ++ [.lst vs]) := id rfl
@[simp] theorem v_rng (hi : Int) : rngM 0 hi h = (if -(2 ^ 62) ≤ hi ∧ hi < 2 ^ 62 then .ok ((List.range hi.toNat).map fun i => .t (.int (i : Nat))) h else .bad) := by
  unfold rngM
  by_cases q : -(2 ^ 62) ≤ hi ∧ hi < 2 ^ 62
  · rw [if_pos q, if_pos (by simp only [Bool.and_eq_true, decide_eq_true_eq]; omega)]
    show RH.ok _ h = _
    simp
  · rw [if_neg q, if_neg (by simp only [Bool.and_eq_true, decide_eq_true_eq]; omega)]
    rfl
@[simp] theorem v_keyi (i : Int) : keyV (.t (.int i)) h = .ok (.int i) h := id rfl
@[simp] theorem v_keys (i : Str) : keyV (.t (.str i)) h = .ok (.str i) h := id rfl
/-! operators -/
@[simp] theorem p_add (i j : Int) : opM .add [.t (.int i), .t (.int j)] h = .ok (.t (.int (i + j))) h := id rfl
@[simp] theorem p_sub (i j : Int) : opM .sub [.t (.int i), .t (.int j)] h = .ok (.t (.int (i - j))) h := id rfl
@[simp] theorem p_lt (i j : Int) : opM .lt [.t (.int i), .t (.int j)] h = .ok (.t (.bl (decide (i < j)))) h := id rfl
@[simp] theorem p_le (i j : Int) : opM .le [.t (.int i), .t (.int j)] h = .ok (.t (.bl (decide (i ≤ j)))) h := id rfl
@[simp] theorem p_gt (i j : Int) : opM .gt [.t (.int i), .t (.int j)] h = .ok (.t (.bl (decide (j < i)))) h := id rfl
@[simp] theorem p_ge (i j : Int) : opM .ge [.t (.int i), .t (.int j)] h = .ok (.t (.bl (decide (j ≤ i)))) h := id rfl
@[simp] theorem p_int (i : Int) : opM .int1 [.t (.int i)] h = .ok (.t (.int i)) h := id rfl
@[simp] theorem p_abs (i : Int) : opM .abs [.t (.int i)] h = .ok (.t (.int (if i < 0 then -i else i))) h := id rfl
@[simp] theorem p_mod (i j : Int) : opM .mod [.t (.int i), .t (.int j)] h = (if j = 0 then .bad else .ok (.t (.int (i.fmod j))) h) := by
  show (if decide (j ≠ 0) then int (i.fmod j) else bad) h = _
  by_cases q : j = 0 <;> simp [q]
@[simp] theorem p_fdv (i j : Int) : opM .fdv [.t (.int i), .t (.int j)] h = (if L2.CDivN i j then .ok (.t (.int (i.fdiv j))) h else .bad) := by
  show (if decide (L2.CDivN i j) then int (i.fdiv j) else bad) h = _
  by_cases q : L2.CDivN i j <;> simp [q]
@[simp] theorem p_mul (i j : Int) : opM .mul [.t (.int i), .t (.int j)] h = (if L2.CMul i j then .ok (.t (.int (i * j))) h else .bad) := by
  show (if decide (L2.CMul i j) then int (i * j) else bad) h = _
  by_cases q : L2.CMul i j <;> simp [q]
@[simp] theorem p_pow (i j : Int) : opM .pow [.t (.int i), .t (.int j)] h = (if L2.CPow i j then .ok (.t (.int (i ^ j.toNat))) h else .bad) := by
  show (if decide (L2.CPow i j) then int (i ^ j.toNat) else bad) h = _
  by_cases q : L2.CPow i j <;> simp [q]
@[simp] theorem p_max (i j : Int) : opM .max2 [.t (.int i), .t (.int j)] h = .ok (.t (.int (if j > i then j else i))) h := id rfl
@[simp] theorem p_min (i j : Int) : opM .min2 [.t (.int i), .t (.int j)] h = .ok (.t (.int (if j < i then j else i))) h := id rfl
@[simp] theorem p_lenl (xs : List T) : opM .len [.t (.lst xs)] h = .ok (.t (.int (xs.length : Nat))) h := o_lenl
@[simp] theorem p_lent (xs : List T) : opM .len [.t (.tup xs)] h = .ok (.t (.int (xs.length : Nat))) h := o_lent
@[simp] theorem p_lens (s : Str) : opM .len [.t (.str s)] h = (if s.length ≤ SL then .ok (.t (.int (s.length : Nat))) h else .bad) := by
  show (if s.length ≤ SL then int s.length else bad) h = _
  split <;> rfl
theorem atI_nat' {α : Type} (xs : List α) (k : Nat) : L2.atI xs (k : Int) = xs[k]? := by
  rcases Nat.lt_or_ge k xs.length with q | q
  · rw [List.getElem?_eq_getElem q]
    exact atI_nat (List.getElem?_eq_getElem q)
  · rw [List.getElem?_eq_none q]
    unfold L2.atI L2.ixN
    rw [if_pos (Int.natCast_nonneg k), if_neg (by omega)]
    rfl
@[simp] theorem p_idxl (xs : List T) (k : Nat) : opM .idx [.t (.lst xs), .t (.int (k : Int))] h = (match xs[k]? with | some x => .ok (.t x) h | none => .bad) := by
  show MH.bind (seqV (.t (.lst xs))) (fun ys => match L2.atI ys (k : Int) with | some v => fun h => RH.ok (nrm v h) h | none => bad) h = _
  rw [b_ok (show seqV (.t (.lst xs)) h = .ok (xs.map .t) h from rfl), atI_nat', List.getElem?_map]
  cases xs[k]? <;> rfl
@[simp] theorem p_idxt (xs : List T) (k : Nat) : opM .idx [.t (.tup xs), .t (.int (k : Int))] h = (match xs[k]? with | some x => .ok (.t x) h | none => .bad) := by
  show MH.bind (seqV (.t (.tup xs))) (fun ys => match L2.atI ys (k : Int) with | some v => fun h => RH.ok (nrm v h) h | none => bad) h = _
  rw [b_ok (show seqV (.t (.tup xs)) h = .ok (xs.map .t) h from rfl), atI_nat', List.getElem?_map]
  cases xs[k]? <;> rfl
@[simp] theorem p_idx0 (x : T) (xs : List T) : opM .idx [.t (.lst (x :: xs)), .t (.int 0)] h = .ok (.t x) h := by simpa using p_idxl (h := h) (x :: xs) 0
@[simp] theorem p_idx1 (x y : T) (xs : List T) : opM .idx [.t (.lst (x :: y :: xs)), .t (.int 1)] h = .ok (.t y) h := by simpa using p_idxl (h := h) (x :: y :: xs) 1
@[simp] theorem p_idx2 (x y z : T) (xs : List T) : opM .idx [.t (.lst (x :: y :: z :: xs)), .t (.int 2)] h = .ok (.t z) h := by simpa using p_idxl (h := h) (x :: y :: z :: xs) 2
@[simp] theorem p_fld (f c : Nat) (fs : List (Nat × T)) : opM (.fld f) [.t (.ins c fs)] h = (match fs.lookup f with | some x => .ok (.t x) h | none => .bad) := id rfl
@[simp] theorem p_listt (ns : List T) : opM (.list false) [.t (.tup ns)] h = .ok (.t (.lst ns)) h := o_listt
@[simp] theorem p_listl (ns : List T) : opM (.list false) [.t (.lst ns)] h = .ok (.t (.lst ns)) h := o_listl
@[simp] theorem p_tupl (ns : List T) : opM .tuple [.t (.lst ns)] h = .ok (.t (.tup ns)) h := id rfl
@[simp] theorem p_tupt (ns : List T) : opM .tuple [.t (.tup ns)] h = .ok (.t (.tup ns)) h := id rfl
@[simp] theorem p_lrng (i : Int) : opM (.lrng false) [.t (.int i)] h = (if -(2 ^ 62) ≤ i ∧ i < 16777216 then .ok (.t (.lst ((List.range i.toNat).map fun k => .int (k : Nat)))) h else .bad) := by
  show (if decide (-(2 ^ 62) ≤ i) && decide (i < 16777216) then keep false ((List.range i.toNat).map fun k => .t (.int (k : Nat))) else bad) h = _
  by_cases q : -(2 ^ 62) ≤ i ∧ i < 16777216
  · rw [if_pos q, if_pos (by simp only [Bool.and_eq_true, decide_eq_true_eq]; exact q)]
    have := keep_t ((List.range i.toNat).map fun k => T.int (k : Nat)) h
    rw [List.map_map] at this
    exact this
  · rw [if_neg q, if_neg (by simp only [Bool.and_eq_true, decide_eq_true_eq]; exact q)]
    rfl
@[simp] theorem p_adds (s u : Str) : opM .add [.t (.str s), .t (.str u)] h = (if s.length + u.length ≤ SL then .ok (.t (.str (s ++ u))) h else .bad) := by
  show (if s.length + u.length ≤ SL then str (s ++ u) else bad) h = _
  split <;> rfl
@[simp] theorem p_addl (s u : List T) : opM .add [.t (.lst s), .t (.lst u)] h = (if s.length + u.length ≤ SL then .ok (.t (.lst (s ++ u))) h else .bad) := by
  show (if s.length + u.length ≤ SL then (pure (.t (.lst (s ++ u))) : MH Val) else bad) h = _
  split <;> rfl
@[simp] theorem p_eqi (neg : Bool) (i j : Int) : eqM C neg (.t (.int i)) (.t (.int j)) h = .ok (.t (.bl (decide (i = j) ^^ neg))) h := id rfl
@[simp] theorem p_eqs (neg : Bool) (i j : Str) : eqM C neg (.t (.str i)) (.t (.str j)) h = .ok (.t (.bl (decide (i = j) ^^ neg))) h := id rfl
@[simp] theorem c_add : Op.cmp .add = false := id rfl
@[simp] theorem c_sub : Op.cmp .sub = false := id rfl
@[simp] theorem c_mul : Op.cmp .mul = false := id rfl
@[simp] theorem c_fdv : Op.cmp .fdv = false := id rfl
@[simp] theorem c_mod : Op.cmp .mod = false := id rfl
@[simp] theorem c_pow : Op.cmp .pow = false := id rfl
@[simp] theorem c_neg : Op.cmp .neg = false := id rfl
@[simp] theorem c_idx : Op.cmp .idx = false := id rfl
@[simp] theorem c_idxd : Op.cmp .idxd = false := id rfl
@[simp] theorem c_len : Op.cmp .len = false := id rfl
@[simp] theorem c_abs : Op.cmp .abs = false := id rfl
@[simp] theorem c_int1 : Op.cmp .int1 = false := id rfl
@[simp] theorem c_str1 : Op.cmp .str1 = false := id rfl
@[simp] theorem c_tuple : Op.cmp .tuple = false := id rfl
@[simp] theorem c_max2 : Op.cmp .max2 = false := id rfl
@[simp] theorem c_min2 : Op.cmp .min2 = false := id rfl
@[simp] theorem c_any : Op.cmp .any = false := id rfl
@[simp] theorem c_all : Op.cmp .all = false := id rfl
@[simp] theorem c_sum : Op.cmp .sum = false := id rfl
@[simp] theorem c_append : Op.cmp .append = false := id rfl
@[simp] theorem c_pop : Op.cmp .pop = false := id rfl
@[simp] theorem c_clear : Op.cmp .clear = false := id rfl
@[simp] theorem c_count : Op.cmp .count = false := id rfl
@[simp] theorem c_index : Op.cmp .index = false := id rfl
@[simp] theorem c_lt : Op.cmp .lt = true := id rfl
@[simp] theorem c_le : Op.cmp .le = true := id rfl
@[simp] theorem c_gt : Op.cmp .gt = true := id rfl
@[simp] theorem c_ge : Op.cmp .ge = true := id rfl
@[simp] theorem c_isN : Op.cmp .isN = true := id rfl
@[simp] theorem c_isnN : Op.cmp .isnN = true := id rfl
@[simp] theorem c_isB (b : Bool) : Op.cmp (.isB b) = true := id rfl
@[simp] theorem c_isnB (b : Bool) : Op.cmp (.isnB b) = true := id rfl
@[simp] theorem c_fld (b : Nat) : Op.cmp (.fld b) = false := id rfl
@[simp] theorem a_v (i : Nat) (v : Val) (loc : Loc) : asg (.v i) v loc = some (loc.set i (some v)) := id rfl
@[simp] theorem a_tp2 (i j : Nat) (x y : T) (loc : Loc) : asg (.tp [.v i, .v j]) (.t (.tup [x, y])) loc = some ((loc.set i (some (.t x))).set j (some (.t y))) := id rfl
@[simp] theorem a_w0 (loc : Loc) : wipeL loc [] = loc := id rfl
@[simp] theorem a_w1 (i : Nat) (r : List Nat) (loc : Loc) : wipeL loc (i :: r) = (wipeL loc r).set i none := id rfl
@[simp] theorem f_nil (tg : Tg) (body : Loc → List Ob → RS) (loc : Loc) (h : List Ob) : forM tg body [] loc h = .ok (.nx loc) h := id rfl
end
end MS

set_option Elab.async false
set_option linter.all false
set_option maxRecDepth 100000
/-! PLC: plain trees: equality, in, index, count. -/
namespace MS
open PySem
def T.pl : Nat → T → Bool
  | _, .non => true
  | _, .int _ => true
  | _, .str s => PyData.strOk s
  | k + 1, .tup xs => xs.all (T.pl k)
  | k + 1, .lst xs => xs.all (T.pl k)
  | _, _ => false
theorem toDs_some {k : Nat} : ∀ xs : List T, (∀ x ∈ xs, ∃ d, x.toD = some d ∧ (d.canLay0 = true ∧ d.depth ≤ k)) → ∃ ds, T.toDs xs = some ds ∧ PyData.canLayAll0 ds = true ∧ PyData.depthAll ds ≤ k
  | [], _ => ⟨[], rfl, rfl, Nat.zero_le _⟩
  | x :: xs, H => by
    obtain ⟨d, e, p, p'⟩ := H x List.mem_cons_self
    obtain ⟨ds, e2, p2, p3⟩ := toDs_some xs fun y hy => H y (List.mem_cons_of_mem _ hy)
    refine ⟨d :: ds, ?_, ?_, ?_⟩
    · show (match x.toD, T.toDs xs with | some d, some ds => some (d :: ds) | _, _ => none) = _
      rw [e, e2]
    · rw [PyData.canLayAll0, p, p2]; rfl
    · rw [PyData.depthAll]; omega
theorem pl_data : ∀ (k : Nat) (x : T), x.pl k = true → ∃ d, x.toD = some d ∧ (d.canLay0 = true ∧ d.depth ≤ k)
  | _, .non, _ => ⟨_, rfl, rfl, Nat.zero_le _⟩
  | _, .int _, _ => ⟨_, rfl, rfl, Nat.zero_le _⟩
  | k, .str s, h => ⟨_, rfl, by cases k <;> (rw [PyData.canLay0]; exact h), Nat.zero_le _⟩
  | k + 1, .tup xs, h => by
    have h : xs.all (T.pl k) = true := h
    obtain ⟨ds, e, q1, q2⟩ := toDs_some (k := k) xs fun x hx => pl_data k x (List.all_eq_true.mp h x hx)
    refine ⟨.tuple ds, ?_, ?_, ?_⟩
    · show (T.toDs xs).map PyData.tuple = _
      rw [e]; rfl
    · simpa only [PyData.canLay0] using q1
    · simp only [PyData.depth]; omega
  | k + 1, .lst xs, h => by
    have h : xs.all (T.pl k) = true := h
    obtain ⟨ds, e, q1, q2⟩ := toDs_some (k := k) xs fun x hx => pl_data k x (List.all_eq_true.mp h x hx)
    refine ⟨.list ds, ?_, ?_, ?_⟩
    · show (T.toDs xs).map PyData.list = _
      rw [e]; rfl
    · simpa only [PyData.canLay0] using q1
    · simp only [PyData.depth]; omega
  | 0, .tup _, h => nomatch h
  | 0, .lst _, h => nomatch h
  | 0, .bl _, h => nomatch h
  | _ + 1, .bl _, h => nomatch h
  | 0, .dct _, h => nomatch h
  | _ + 1, .dct _, h => nomatch h
  | 0, .ins _ _, h => nomatch h
  | _ + 1, .ins _ _, h => nomatch h
  | 0, .scr _, h => nomatch h
  | _ + 1, .scr _, h => nomatch h
  | 0, .xo _ _, h => nomatch h
  | _ + 1, .xo _ _, h => nomatch h
/-- a plain tree and its data -/
structure PD (k : Nat) (x : T) (d : PyData) : Prop where
  pl : x.pl k = true
  da : x.toD = some d
theorem pd_of {k : Nat} {x : T} (h : x.pl k = true) : ∃ d, PD k x d := by
  obtain ⟨d, e, _⟩ := pl_data k x h
  exact ⟨d, h, e⟩
theorem toDs_cons {x : T} {xs : List T} {es : List PyData} (h : T.toDs (x :: xs) = some es) : ∃ d ds, es = d :: ds ∧ x.toD = some d ∧ T.toDs xs = some ds := by
  have h : (match x.toD, T.toDs xs with | some d, some ds => some (d :: ds) | _, _ => none) = some es := h
  cases e1 : x.toD with
  | none => rw [e1] at h; cases h
  | some d =>
    cases e2 : T.toDs xs with
    | none => rw [e1, e2] at h; cases h
    | some ds => rw [e1, e2] at h; cases h; exact ⟨d, ds, rfl, rfl, rfl⟩
theorem eqvAll_iff {k : Nat} (H : ∀ (x y : T) (d e : PyData), x.pl k = true → (∃ m, y.pl m = true) → x.toD = some d → y.toD = some e → (PyData.eqv d e = true ↔ x = y)) : ∀ (xs ys : List T) (ds es : List PyData), (∀ x ∈ xs, x.pl k = true) → (∀ y ∈ ys, ∃ m, y.pl m = true) → T.toDs xs = some ds → T.toDs ys = some es → (PyData.eqvAll ds es = true ↔ xs = ys)
  | [], [], ds, es, _, _, e1, e2 => by cases e1; cases e2; exact ⟨fun _ => rfl, fun _ => rfl⟩
  | [], y :: ys, ds, es, _, _, e1, e2 => by
    obtain ⟨d, ds', rfl, _, _⟩ := toDs_cons e2
    cases e1
    exact ⟨fun h => (by rw [PyData.eqvAll] at h; cases h), fun h => (by cases h)⟩
  | x :: xs, [], ds, es, _, _, e1, e2 => by
    obtain ⟨d, ds', rfl, _, _⟩ := toDs_cons e1
    cases e2
    exact ⟨fun h => (by rw [PyData.eqvAll] at h; cases h), fun h => (by cases h)⟩
  | x :: xs, y :: ys, ds, es, h1, h2, e1, e2 => by
    obtain ⟨d, ds', rfl, a1, a2⟩ := toDs_cons e1
    obtain ⟨e, es', rfl, b1, b2⟩ := toDs_cons e2
    have q1 := H x y d e (h1 x List.mem_cons_self) (h2 y List.mem_cons_self) a1 b1
    have q2 := eqvAll_iff H xs ys ds' es' (fun z hz => h1 z (List.mem_cons_of_mem _ hz)) (fun z hz => h2 z (List.mem_cons_of_mem _ hz)) a2 b2
    rw [PyData.eqvAll, Bool.and_eq_true, q1, q2, List.cons.injEq]
theorem pl_all {m : Nat} {xs : List T} (h : (T.tup xs).pl m = true ∨ (T.lst xs).pl m = true) : ∀ y ∈ xs, ∃ j, j < m ∧ y.pl j = true := by
  cases m with
  | zero => rcases h with h | h <;> cases h
  | succ m =>
    intro y hy
    refine ⟨m, Nat.lt_succ_self m, ?_⟩
    rcases h with h | h
    · exact List.all_eq_true.mp (show xs.all (T.pl m) = true from h) y hy
    · exact List.all_eq_true.mp (show xs.all (T.pl m) = true from h) y hy
theorem toD_tup {xs : List T} {d : PyData} (h : (T.tup xs).toD = some d) : ∃ ds, d = .tuple ds ∧ T.toDs xs = some ds := by
  have h : (T.toDs xs).map PyData.tuple = some d := h
  cases e : T.toDs xs with
  | none => rw [e] at h; cases h
  | some ds => rw [e] at h; cases h; exact ⟨ds, rfl, rfl⟩
theorem toD_lst {xs : List T} {d : PyData} (h : (T.lst xs).toD = some d) : ∃ ds, d = .list ds ∧ T.toDs xs = some ds := by
  have h : (T.toDs xs).map PyData.list = some d := h
  cases e : T.toDs xs with
  | none => rw [e] at h; cases h
  | some ds => rw [e] at h; cases h; exact ⟨ds, rfl, rfl⟩
theorem pl_eqv : ∀ (k : Nat) (x y : T) (d e : PyData), x.pl k = true → (∃ m, y.pl m = true) → x.toD = some d → y.toD = some e → (PyData.eqv d e = true ↔ x = y) := by
  intro k
  induction k with
  | zero =>
    intro x y d e hx ⟨m, hy⟩ e1 e2
    cases x <;> first | (cases hx; done) | skip
    all_goals cases y <;> first | (cases m <;> cases hy; done) | skip
    all_goals first
      | (cases e1; cases e2; simp [PyData.eqv]; done)
      | (obtain ⟨_, rfl, _⟩ := toD_tup e2; cases e1; simp [PyData.eqv]; done)
      | (obtain ⟨_, rfl, _⟩ := toD_lst e2; cases e1; simp [PyData.eqv]; done)
  | succ k ih =>
    intro x y d e hx ⟨m, hy⟩ e1 e2
    cases x <;> first | (cases hx; done) | skip
    all_goals cases y <;> first | (cases m <;> cases hy; done) | skip
    all_goals first
      | (cases e1; cases e2; simp [PyData.eqv]; done)
      | (obtain ⟨ds, rfl, a⟩ := toD_tup e1; obtain ⟨es, rfl, b⟩ := toD_tup e2
         rw [PyData.eqv, eqvAll_iff ih _ _ ds es (List.all_eq_true.mp hx) (fun y hy' => let ⟨j, _, q⟩ := pl_all (.inl hy) y hy'; ⟨j, q⟩) a b, T.tup.injEq]; done)
      | (obtain ⟨ds, rfl, a⟩ := toD_lst e1; obtain ⟨es, rfl, b⟩ := toD_lst e2
         rw [PyData.eqv, eqvAll_iff ih _ _ ds es (List.all_eq_true.mp hx) (fun y hy' => let ⟨j, _, q⟩ := pl_all (.inr hy) y hy'; ⟨j, q⟩) a b, T.lst.injEq]; done)
      | (obtain ⟨_, rfl, _⟩ := toD_tup e2; cases e1; simp [PyData.eqv]; done)
      | (obtain ⟨_, rfl, _⟩ := toD_lst e2; cases e1; simp [PyData.eqv]; done)
      | (obtain ⟨_, rfl, _⟩ := toD_tup e1; cases e2; simp [PyData.eqv]; done)
      | (obtain ⟨_, rfl, _⟩ := toD_lst e1; cases e2; simp [PyData.eqv]; done)
      | (obtain ⟨_, rfl, _⟩ := toD_lst e1; obtain ⟨_, rfl, _⟩ := toD_tup e2; simp [PyData.eqv]; done)
      | (obtain ⟨_, rfl, _⟩ := toD_tup e1; obtain ⟨_, rfl, _⟩ := toD_lst e2; simp [PyData.eqv]; done)
/-- the data of a plain tree -/
def T.dd (x : T) : PyData := x.toD.getD .none
theorem dd_of {k : Nat} {x : T} (h : x.pl k = true) : x.toD = some x.dd := by
  obtain ⟨d, e, _⟩ := pl_data k x h
  unfold T.dd
  rw [e]
  rfl
theorem pdata_of {k : Nat} {x : T} (h : x.pl k = true) (hk : k ≤ 64) : x.data = some x.dd := by
  obtain ⟨d, e, q1, q2⟩ := pl_data k x h
  have e3 : x.dd = d := by unfold T.dd; rw [e]; rfl
  unfold T.data
  rw [e]
  dsimp only
  rw [e3, if_pos]
  unfold SeqAt.shaped
  rw [q1, decide_eq_true (Nat.le_trans q2 hk)]
  rfl
theorem dataOf_t {k : Nat} {x : T} {h : List Ob} (hx : x.pl k = true) (hk : k ≤ 64) : dataOf (.t x) h = .ok x.dd h := by
  show (match (some x).bind T.data with | some d => RH.ok d h | none => .bad) = _
  rw [Option.bind_some, pdata_of hx hk]
theorem dd_iff {k m : Nat} {x y : T} (hx : x.pl k = true) (hy : y.pl m = true) : PyData.eqv x.dd y.dd = true ↔ x = y := pl_eqv k x y _ _ hx ⟨m, hy⟩ (dd_of hx) (dd_of hy)
theorem bool_iff {b c : Bool} {p : Prop} (h1 : b = true ↔ p) (h2 : c = true ↔ p) : b = c := by
  cases b <;> cases c <;> first | rfl | (exfalso; revert h1 h2; simp; done) | (exfalso; have := h1.mp rfl; have := h2.mpr this; cases this) | (exfalso; have := h2.mp rfl; have := h1.mpr this; cases this)
theorem tupS_iff : ∀ {xs ys : List T} {r : Bool}, tupS xs ys = some r → (r = true ↔ xs = ys)
  | [], [], r, h => by cases h; exact ⟨fun _ => rfl, fun _ => rfl⟩
  | [], _ :: _, r, h => by cases h; exact ⟨fun h => (by cases h), fun h => (by cases h)⟩
  | x :: xs, [], r, h => by
    have h : some false = some r := by cases x <;> exact h
    cases h
    exact ⟨fun h => (by cases h), fun h => (by cases h)⟩
  | x :: xs, y :: ys, r, h => by
    unfold tupS at h
    split at h
    · rename_i e1; cases e1
    · rename_i e1 _; cases e1
    · rename_i e1; cases e1
    · rename_i a xs' b ys' e1 e2
      cases e1
      cases e2
      cases hr : tupS xs ys with
      | none => rw [hr] at h; cases h
      | some d =>
        rw [hr] at h
        cases h
        rw [Bool.and_eq_true, decide_eq_true_eq, tupS_iff hr, List.cons.injEq, T.str.injEq]
    · cases h
theorem tupV_iff {x y : T} {neg r b : Bool} (h : tupV neg (.t x) (.t y) = some r) (hb : b = true ↔ x = y) : r = (b ^^ neg) := by
  unfold tupV at h
  split at h
  · rename_i e1 e2
    cases e1
    cases e2
    rw [Bool.xor_false]
    exact bool_iff (tupS_iff h) (hb.trans (by rw [T.tup.injEq]))
  · cases h
section
variable {C : Cl} {h : List Ob}
theorem q_eq {k m : Nat} {x y : T} {b neg : Bool} (hx : x.pl k = true) (hy : y.pl m = true) (hk : k ≤ 64) (hm : m ≤ 64) (hb : b = true ↔ x = y) : eqM C neg (.t x) (.t y) h = .ok (.t (.bl (b ^^ neg))) h := by
  have q : ∀ r, scal2 (.t x) (.t y) = some r → r = b := fun r e => by
    refine bool_iff (p := x = y) ?_ hb
    cases x <;> first | (cases k <;> cases hx; done) | skip
    all_goals cases y <;> first | (cases m <;> cases hy; done) | skip
    all_goals first | (cases e; simp; done) | cases e
  have qi : isIns (.t x) h = false := by
    cases x <;> first | rfl | (cases k <;> cases hx)
  unfold eqM
  cases e : scal2 (.t x) (.t y) with
  | some r => rw [q r e]
  | none =>
    dsimp only
    rw [qi, if_neg (by decide)]
    cases et : tupV neg (.t x) (.t y) with
    | some r => rw [tupV_iff et hb]
    | none =>
      dsimp only
      rw [b_ok (dataOf_t hx hk), b_ok (dataOf_t hy hm), bool_iff (dd_iff hx hy) hb]
      rfl
theorem pl_lst {k : Nat} {ys : List T} (h : ∀ y ∈ ys, y.pl k = true) : (T.lst ys).pl (k + 1) = true := List.all_eq_true.mpr h
theorem pl_tup {k : Nat} {ys : List T} (h : ∀ y ∈ ys, y.pl k = true) : (T.tup ys).pl (k + 1) = true := List.all_eq_true.mpr h
theorem toDs_map {k : Nat} : ∀ {ys : List T}, (∀ y ∈ ys, y.pl k = true) → T.toDs ys = some (ys.map T.dd)
  | [], _ => rfl
  | y :: ys, H => by
    show (match y.toD, T.toDs ys with | some d, some ds => some (d :: ds) | _, _ => none) = _
    rw [dd_of (H y List.mem_cons_self), toDs_map fun z hz => H z (List.mem_cons_of_mem _ hz)]
    rfl
theorem dd_lst {k : Nat} {ys : List T} (H : ∀ y ∈ ys, y.pl k = true) : (T.lst ys).dd = .list (ys.map T.dd) := by
  unfold T.dd
  show (((T.toDs ys).map PyData.list).getD .none) = _
  rw [toDs_map H]
  rfl
theorem dd_tup {k : Nat} {ys : List T} (H : ∀ y ∈ ys, y.pl k = true) : (T.tup ys).dd = .tuple (ys.map T.dd) := by
  unfold T.dd
  show (((T.toDs ys).map PyData.tuple).getD .none) = _
  rw [toDs_map H]
  rfl
theorem q_in {k : Nat} {x : T} {ys : List T} {b neg : Bool} (hx : x.pl k = true) (hy : ∀ y ∈ ys, y.pl k = true) (hk : k < 64) (hb : b = true ↔ x ∈ ys) : innM C neg (.t x) (.t (.lst ys)) h = .ok (.t (.bl (b ^^ neg))) h := by
  show (MH.bind (dataOf (.t x)) fun d => MH.bind (dataOf (.t (.lst ys))) fun e => match e with
      | .list es => bl (es.any (fun x => PyData.eqv x d) ^^ neg)
      | .tuple es => bl (es.any (fun x => PyData.eqv x d) ^^ neg)
      | _ => bad) h = _
  rw [b_ok (dataOf_t hx (by omega)), b_ok (dataOf_t (pl_lst hy) (by omega)), dd_lst hy]
  dsimp only
  have e : (ys.map T.dd).any (fun z => PyData.eqv z x.dd) = b := by
    refine bool_iff (p := x ∈ ys) ?_ hb
    rw [List.any_map, List.any_eq_true]
    constructor
    · rintro ⟨y, hy', e⟩
      have := (dd_iff (hy y hy') hx).mp e
      subst this
      exact hy'
    · intro hx'
      exact ⟨x, hx', (dd_iff hx hx).mpr rfl⟩
  rw [e]
  rfl
theorem seqD_lst {k : Nat} {ys : List T} {f : List PyData → MH Val} (hy : ∀ y ∈ ys, y.pl k = true) (hk : k < 64) : seqD (.t (.lst ys)) f h = f (ys.map T.dd) h := by
  show MH.bind (lstP (.t (.lst ys))) (fun xs => match (T.lst xs).data with
    | some (.list ds) => f ds
    | _ => bad) h = _
  rw [b_ok (v_lstP ys), pdata_of (pl_lst hy) (by omega), dd_lst hy]
theorem q_index {k j : Nat} {x : T} {ys : List T} (hx : x.pl k = true) (hy : ∀ y ∈ ys, y.pl k = true) (hk : k < 64) (hj : ys[j]? = some x) (hn : ys.Nodup) : opM .index [.t (.lst ys), .t x] h = .ok (.t (.int (j : Nat))) h := by
  show seqD (.t (.lst ys)) (fun ds => MH.bind (pur (.t x)) fun x => match x.data with
    | some d => (match ds.findIdx? fun z => PyData.eqv z d with
      | some j => int (j : Nat)
      | none => bad)
    | none => bad) h = _
  rw [seqD_lst hy hk, b_ok (pur_t x h), pdata_of hx (by omega)]
  dsimp only
  have e : (ys.map T.dd).findIdx? (fun z => PyData.eqv z x.dd) = some j := by
    rw [List.findIdx?_map]
    obtain ⟨hl, ej⟩ := List.getElem?_eq_some_iff.mp hj
    rw [List.findIdx?_eq_some_iff_getElem]
    refine ⟨hl, ?_, ?_⟩
    · rw [ej]
      exact (dd_iff hx hx).mpr rfl
    · intro i hi
      intro e
      have hi' : i < ys.length := Nat.lt_trans hi hl
      have := (dd_iff (hy _ (List.getElem_mem hi')) hx).mp e
      rw [← ej] at this
      exact absurd ((List.getElem_inj hn).mp this) (by omega)
  rw [e]
  rfl
theorem q_count {k : Nat} {x : T} {ys : List T} (hx : x.pl k = true) (hy : ∀ y ∈ ys, y.pl k = true) (hk : k < 64) (hj : x ∈ ys) (hn : ys.Nodup) : opM .count [.t (.lst ys), .t x] h = .ok (.t (.int 1)) h := by
  show seqD (.t (.lst ys)) (fun ds => MH.bind (pur (.t x)) fun x => match x.data with
    | some d => int (ds.filter fun z => PyData.eqv z d).length
    | none => bad) h = _
  rw [seqD_lst hy hk, b_ok (pur_t x h), pdata_of hx (by omega)]
  dsimp only
  have e : ((ys.map T.dd).filter (fun z => PyData.eqv z x.dd)).length = 1 := by
    rw [List.filter_map, List.length_map]
    have : ys.filter ((fun z => PyData.eqv z x.dd) ∘ T.dd) = [x] := by
      clear q_count
      induction ys with
      | nil => cases hj
      | cons y ys ih =>
        have hn' := List.nodup_cons.mp hn
        by_cases q : y = x
        · subst q
          rw [List.filter_cons, if_pos (show ((fun z => PyData.eqv z y.dd) ∘ T.dd) y = true from (dd_iff hx hx).mpr rfl), List.filter_eq_nil_iff.mpr]
          intro z hz e
          have := (dd_iff (hy z (List.mem_cons_of_mem _ hz)) hx).mp e
          subst this
          exact hn'.1 hz
        · rw [List.filter_cons, if_neg (show ¬ ((fun z => PyData.eqv z x.dd) ∘ T.dd) y = true from fun e => q ((dd_iff (hy y List.mem_cons_self) hx).mp e))]
          refine ih (fun z hz => hy z (List.mem_cons_of_mem _ hz)) ?_ hn'.2
          rcases List.mem_cons.mp hj with r | r
          · exact absurd r.symm q
          · exact r
    rw [this]
    rfl
  rw [e]
  rfl
end
end MS

set_option Elab.async false
set_option linter.all false
set_option maxRecDepth 100000
/-! PLD: the heap of a law: its source in the first two cells; comprehensions that touch the heap; texts. -/
namespace MS
open PySem
theorem trunc_len {n : Nat} {h : List Ob} (e : h.length = n) : trunc n h = h := by subst e; exact trunc_self h
def srcO (l m t : Int) : Ob := .dct [(.str "cells", .ref 1), (.str "left", .t (.int l)), (.str "mixed", .t (.int m)), (.str "turn", .t (.int t))]
def intsO (cs : List Int) : Ob := .lst (cs.map fun i => .t (.int i))
/-- the heap: the source, and what stands behind it -/
def Sr (rest h : List Ob) : Prop := ∃ l m t cs, cs.length ≤ 63 ∧ h = srcO l m t :: intsO cs :: rest
theorem Sr.n0 {rest h : List Ob} (S : Sr rest h) : nrm (.ref 0) h = .ref 0 := by
  obtain ⟨l, m, t, cs, _, rfl⟩ := S
  rfl
theorem Sr.at {rest h : List Ob} (S : Sr rest h) (i : Nat) : h[i + 2]? = rest[i]? := by
  obtain ⟨l, m, t, cs, _, rfl⟩ := S
  rfl
theorem Sr.len {rest h : List Ob} (S : Sr rest h) : h.length = rest.length + 2 := by
  obtain ⟨l, m, t, cs, _, rfl⟩ := S
  rfl
theorem Sr.app {rest h : List Ob} (S : Sr rest h) (x : List Ob) : Sr (rest ++ x) (h ++ x) := by
  obtain ⟨l, m, t, cs, a, rfl⟩ := S
  exact ⟨l, m, t, cs, a, rfl⟩
theorem Sr.set {rest h : List Ob} (S : Sr rest h) (i : Nat) (o : Ob) : Sr (rest.set i o) (h.set (i + 2) o) := by
  obtain ⟨l, m, t, cs, a, rfl⟩ := S
  exact ⟨l, m, t, cs, a, rfl⟩
/-- what a run leaves: the source, and what stood behind it, with more at the end -/
theorem Sr.trunc {rest x h : List Ob} {n : Nat} (S : Sr (rest ++ x) h) (hn : n = rest.length + 2) : ∃ y, Sr (rest ++ y) (trunc n h) := by
  unfold MS.trunc
  split
  · obtain ⟨l, m, t, cs, a, rfl⟩ := S
    refine ⟨[], l, m, t, cs, a, ?_⟩
    subst hn
    show srcO l m t :: intsO cs :: (rest ++ x).take rest.length = _
    rw [List.take_left, List.append_nil]
  · exact ⟨x, S⟩
/-! ### comprehensions that touch the heap -/
theorem lcM_inv {asgn : Val → Loc → Option Loc} {loc : Loc} {tst : Loc → MH Bool} {elt : Loc → MH Val} {J : List Val → List Val → List Ob → Prop}
    (hs : ∀ x xs vs h, J (x :: xs) vs h → ∃ l v h', asgn x loc = some l ∧ tst l h = .ok true h ∧ elt l h = .ok v h' ∧ J xs (vs ++ [v]) h') : ∀ xs vs h, J xs vs h → ∃ us h', lcM asgn loc tst elt xs h = .ok us h' ∧ J [] (vs ++ us) h'
  | [], vs, h, j => ⟨[], h, rfl, by rw [List.append_nil]; exact j⟩
  | x :: xs, vs, h, j => by
    obtain ⟨l, v, h1, e1, e2, e3, j1⟩ := hs x xs vs h j
    obtain ⟨us, h2, e4, j2⟩ := lcM_inv hs xs (vs ++ [v]) h1 j1
    refine ⟨v :: us, h2, ?_, by rw [List.append_assoc] at j2; exact j2⟩
    show (match asgn x loc with
      | none => bad
      | some l => MH.bind (tst l) fun b => if b then MH.bind (elt l) fun v => MH.bind (lcM asgn loc tst elt xs) fun vs => (pure (v :: vs) : MH (List Val)) else lcM asgn loc tst elt xs) h = _
    rw [e1]
    dsimp only
    rw [b_ok e2, if_pos rfl, b_ok e3, b_ok e4]
    rfl
theorem x_lc {C : Cl} {loc : Loc} {h : List Ob} (m : Bool) (own : List Nat) (tg : Tg) (it : It) (ifs : List E) (e : E) : evE C (.lc m own tg it ifs e) loc h = MH.bind (evIt C it loc) (fun xs => if xs.length ≤ SL then noexc (MH.bind (lcM (asg tg) (wipeL loc own) (evTs C ifs) (evE C e) xs) fun vs => keep m vs) else bad) h := rfl
theorem lc_ok {C : Cl} {loc : Loc} {h h1 h2 : List Ob} {m : Bool} {own : List Nat} {tg : Tg} {it : It} {e : E} {xs us : List Val} (e1 : evIt C it loc h = .ok xs h1) (hl : xs.length ≤ SL) (e2 : lcM (asg tg) (wipeL loc own) (evTs C []) (evE C e) xs h1 = .ok us h2) :
    evE C (.lc m own tg it [] e) loc h = noexc (keep m us) h2 := by
  rw [x_lc, b_ok e1, if_pos hl]
  unfold noexc
  rw [b_ok e2]
theorem lc_keep {C : Cl} {loc : Loc} {h h1 h2 : List Ob} {own : List Nat} {tg : Tg} {it : It} {e : E} {xs us : List Val} (e1 : evIt C it loc h = .ok xs h1) (hl : xs.length ≤ SL) (e2 : lcM (asg tg) (wipeL loc own) (evTs C []) (evE C e) xs h1 = .ok us h2) :
    evE C (.lc true own tg it [] e) loc h = .ok (.ref h2.length) (h2 ++ [.lst us]) := lc_ok e1 hl e2
theorem lc_frz {C : Cl} {loc : Loc} {h h1 h2 : List Ob} {own : List Nat} {tg : Tg} {it : It} {e : E} {xs : List Val} {us : List T} (e1 : evIt C it loc h = .ok xs h1) (hl : xs.length ≤ SL) (e2 : lcM (asg tg) (wipeL loc own) (evTs C []) (evE C e) xs h1 = .ok (us.map .t) h2) :
    evE C (.lc false own tg it [] e) loc h = .ok (.t (.lst us)) h2 := by
  rw [lc_ok e1 hl e2]
  unfold noexc
  rw [keep_t]
/-- no heap touched: what stands for it as a rule of simp -/
theorem lc_pv {C : Cl} {loc : Loc} {h : List Ob} {own : List Nat} {tg : Tg} {it : It} {e : E} {xs : List T} (g : T → T) (hi : evIt C it loc h = .ok (xs.map .t) h) (hl : xs.length ≤ SL) (H : ∀ x ∈ xs, ∃ l, asg tg (.t x) (wipeL loc own) = some l ∧ ∀ h, evE C e l h = .ok (.t (g x)) h) : evE C (.lc false own tg it [] e) loc h = .ok (.t (.lst (xs.map g))) h := by
  refine lc_frz hi (by rw [List.length_map]; exact hl) ?_
  exact lcM_map (asgn := asg tg) (tst := evTs C []) (elt := evE C e) g xs h fun x hx => by
    obtain ⟨l, e1, e2⟩ := H x hx
    exact ⟨l, e1, fun _ => rfl, e2⟩
theorem i_rngN {C : Cl} {loc : Loc} {h h1 : List Ob} {e : E} {n : Nat} (he : evE C e loc h = .ok (.t (.int (n : Nat))) h1) (hn : n < 2 ^ 62) : evIt C (.rng1 e) loc h = .ok ((List.range n).map fun i => .t (.int (i : Nat))) h1 := by
  rw [i_rng, b_ok he, b_ok (v_intV (n : Int)), v_rng, if_pos (by omega)]
  rfl
theorem run_rf {C : Cl} {d : FnD} {vs : List Val} {h h1 : List Ob} {n : Nat} (hl : vs.length = d.np) (a : exSs C d.body (startL d vs) h = .ok (.ret (.ref n)) h1) : run C d vs h = .ok (.ref n) h1 := by
  unfold run
  rw [if_pos hl, a]
theorem fill_ok {n : Nat} {h : List Ob} {kvs : List (T × Val)} (e : h[n]? = some (.dct [])) : fillD n kvs h = .ok () (h.set n (.dct kvs)) := by
  show (match h[n]? with | some (.dct []) => RH.ok () (h.set n (.dct kvs)) | _ => .bad) = _
  rw [e]
section
variable {C : Cl} {loc : Loc} {h h1 : List Ob} {e : E} {v : Val}
theorem th_ok {α : Type} {m : MH α} {k : α → List Ob → RS} {a : α} (e : m h = .ok a h1) : thenE m loc k h = k a h1 := by
  unfold thenE
  rw [e]
theorem k_rett (a : evE C e loc h = .ok v h1) : exS C (.ret true e) loc h = .ok (.ret v) h1 := th_ok a
theorem k_retf {x : T} (a : evE C e loc h = .ok (.t x) h1) : exS C (.ret false e) loc h = .ok (.ret (.t x)) h1 := th_ok (m := MH.bind (evE C e loc) fun v => MH.bind (pur v) fun x => (pure (Val.t x) : MH Val)) (by rw [b_ok a]; rfl)
theorem k_set {i : Nat} (a : evE C e loc h = .ok v h1) : exS C (.set i e) loc h = .ok (.nx (loc.set i (some v))) h1 := th_ok a
theorem k_ex (a : evE C e loc h = .ok v h1) : exS C (.ex e) loc h = .ok (.nx loc) h1 := th_ok a
theorem k_iff {c : E} {u w : List S} {b : Bool} (a : evT C c loc h = .ok b h1) : exS C (.iff c u w) loc h = (if b then exSs C u loc h1 else exSs C w loc h1) := by
  rw [s_iff, th_ok a]
theorem k_rng {tg : Tg} {b : List S} {n : Nat} (he : evE C e loc h = .ok (.t (.int (n : Nat))) h1) (hn : n < 2 ^ 62) : exS C (.fr tg (.rng1 e) b) loc h = forM tg (exSs C b) ((List.range n).map fun i => .t (.int (i : Nat))) loc h1 := by
  rw [s_rng, th_ok (i_rngN he hn)]
theorem k_seq {tg : Tg} {b : List S} {xs : List Val} (he : evIt C (.seq e) loc h = .ok xs h1) : exS C (.fr tg (.seq e) b) loc h = forM tg (exSs C b) xs loc h1 := by
  rw [s_seq, th_ok he]
end
/-! ### texts -/
def stL (l : List Nat) : Str := ⟨l.toArray⟩
@[simp] theorem st_app (a b : List Nat) : stL a ++ stL b = stL (a ++ b) := by
  show Str.mk (a.toArray ++ b.toArray) = Str.mk (a ++ b).toArray
  rw [List.append_toArray]
@[simp] theorem st_len (a : List Nat) : (stL a).length = a.length := by
  show a.toArray.size = _
  simp
theorem st_inj {a b : List Nat} (h : stL a = stL b) : a = b := by
  have h : (stL a).cps.toList = (stL b).cps.toList := by rw [h]
  simpa [stL] using h
theorem st_idx {l : List Nat} {i : Int} {k c : Nat} {h : List Ob} (hl : l.length ≤ SL) (hk : i = (k : Nat)) (e : l[k]? = some c) : opM .idx [.t (.str (stL l)), .t (.int i)] h = .ok (.t (.str (stL [c]))) h := by
  subst hk
  show (if (stL l).length ≤ SL then (match L2.atI (stL l).cps.toList (k : Int) with
    | some c => str ⟨#[c]⟩
    | none => bad) else bad) h = _
  rw [if_pos (by rw [st_len]; exact hl), show (stL l).cps.toList = l by simp [stL], atI_nat', e]
  rfl
/-- a list at a cell -/
theorem ap_cell {h : List Ob} {p : Nat} {vs : List Val} {v : Val} (e : h[p]? = some (.lst vs)) (hl : vs.length < SL) : opM .append [.ref p, v] h = .ok (.t .non) (h.set p (.lst (vs ++ [v]))) := by
  have e1 : cellV (.ref p) h = .ok (p, vs) h := by
    show (match h[p]? with | some (.lst vs) => RH.ok (p, vs) h | _ => .bad) = _
    rw [e]
  unfold opM
  simp only [x_bind2, e1, if_pos hl]
  rfl
theorem nr_cell {h : List Ob} {p : Nat} {vs : List Val} (e : h[p]? = some (.lst vs)) : nrm (.ref p) h = .ref p := by
  rw [v_nrmr, e]
theorem sq_cell {h : List Ob} {p : Nat} {b : Bool} {vs : List Val} (e : h[p]? = some (.lst vs)) : isSeq b (.ref p) h = .ok () h := by
  show (match h[p]? with
    | some (.lst _) => RH.ok () h
    | some (.frz (.lst _)) => .ok () h
    | _ => .bad) = _
  rw [e]
theorem fz_cell {h : List Ob} {p k : Nat} {ts : List T} (e : h[p]? = some (.lst (ts.map .t))) : fzn (k + 1) (.ref p) h = .ok (.lst ts) (h.set p (.frz (.lst ts))) := by
  have q : ∀ (ts : List T) (h : List Ob), mp (fzn k) (ts.map .t) h = .ok ts h := by
    intro ts
    induction ts with
    | nil => intro h; rfl
    | cons t ts ih =>
      intro h
      show MH.bind (fzn k (.t t)) (fun y => MH.bind (mp (fzn k) (ts.map .t)) fun ys => (pure (y :: ys) : MH (List T))) h = _
      rw [b_ok (show fzn k (.t t) h = .ok t h by cases k <;> rfl), b_ok (ih h)]
      rfl
  have e2 : fzn (k + 1) (.ref p) h = MH.bind (mp (fzn k) (ts.map .t)) (fun ts => fzw p (.lst ts)) h := by
    unfold fzn
    simp only [e]
  rw [e2]
  rw [b_ok (q ts h)]
  rfl
end MS

set_option Elab.async false
set_option linter.all false
set_option maxRecDepth 100000
/-! PLE: more plain rules -/
namespace MS
open PySem
section
variable {C : Cl} {loc : Loc}
theorem pv_and2 {a b : E} {k l : Bool} (ha : PV C loc a (.bl k)) (hb : k = true → PV C loc b (.bl l)) : PV C loc (.and [a, b]) (.bl (k && l)) := fun h => by
  rw [x_and2, b_ok (ha h), b_ok (v_blV k)]
  cases k with
  | true => rw [if_pos rfl, hb rfl h]; rfl
  | false => rfl
theorem pv_or2 {a b : E} {k l : Bool} (ha : PV C loc a (.bl k)) (hb : k = false → PV C loc b (.bl l)) : PV C loc (.or [a, b]) (.bl (k || l)) := fun h => by
  rw [x_or2, b_ok (ha h), b_ok (v_blV k)]
  cases k with
  | true => rfl
  | false => rw [if_neg (by decide), hb rfl h]; rfl
theorem pv_ch {o1 o2 : Op} {a b c : E} {x y z : T} {k l : Bool} (ha : PV C loc a x) (hb : PV C loc b y) (hc : PV C loc c z) (h1 : ∀ h, opM o1 [.t x, .t y] h = .ok (.t (.bl k)) h) (h2 : k = true → ∀ h, opM o2 [.t y, .t z] h = .ok (.t (.bl l)) h) : PV C loc (.ch o1 o2 a b c) (.bl (k && l)) := fun h => by
  rw [x_ch, b_ok (ha h), b_ok (hb h), b_ok (h1 h), b_ok (v_blV k)]
  cases k with
  | true => rw [if_pos rfl, b_ok (hc h), h2 rfl h]; rfl
  | false => rfl
theorem blsV_ok : ∀ (bs : List Bool) (h : List Ob), blsV ((bs.map T.bl).map .t) h = .ok bs h
  | [], h => rfl
  | b :: bs, h => by
    show MH.bind (blV (.t (.bl b))) (fun x => MH.bind (blsV ((bs.map T.bl).map .t)) fun ys => (pure (x :: ys) : MH (List Bool))) h = _
    rw [b_ok (v_blV b), b_ok (blsV_ok bs h)]
    rfl
theorem o_all {bs : List Bool} {h : List Ob} : opM .all [.t (.lst (bs.map T.bl))] h = .ok (.t (.bl (bs.all id))) h := by
  show MH.bind (lstP (.t (.lst (bs.map T.bl)))) (fun xs => MH.bind (blsV (xs.map .t)) fun bs => bl (bs.all id)) h = _
  rw [b_ok (v_lstP _), b_ok (blsV_ok bs h)]
  rfl
theorem o_any {bs : List Bool} {h : List Ob} : opM .any [.t (.lst (bs.map T.bl))] h = .ok (.t (.bl (bs.any id))) h := by
  show MH.bind (lstP (.t (.lst (bs.map T.bl)))) (fun xs => MH.bind (blsV (xs.map .t)) fun bs => bl (bs.any id)) h = _
  rw [b_ok (v_lstP _), b_ok (blsV_ok bs h)]
  rfl
theorem pi_str {e : E} {l : List Nat} (hl : l.length ≤ 1000) (a : PV C loc e (.str (stL l))) : PI C loc (.seq e) (l.map fun c => .str (stL [c])) := fun h => by
  rw [i_seq, b_ok (a h)]
  show (if (stL l).length ≤ SL then (pure ((stL l).cps.toList.map fun c => .t (.str ⟨#[c]⟩)) : MH (List Val)) else bad) h = _
  rw [if_pos (by rw [st_len]; exact Nat.le_trans hl (by decide)), show (stL l).cps.toList = l by simp [stL], List.map_map]
  rfl
/-- no element of it is true -/
theorem pt_any0 {own : List Nat} {tg : Tg} {it : It} {e : E} {xs : List T} (hi : PI C loc it xs) (hl : xs.length ≤ SL) (H : ∀ x ∈ xs, ∃ l, asg tg (.t x) (wipeL loc own) = some l ∧ PV C l e (.bl false)) : PT C loc (.op .any [.lc false own tg it [] e]) false := by
  refine pt_opt (pvs_cons (pv_lc (fun _ => .bl false) hi hl H) pvs_nil) rfl fun h => ?_
  have := o_any (bs := xs.map fun _ => false) (h := h)
  rw [List.map_map] at this
  refine this.trans ?_
  rw [show (xs.map fun _ => false).any id = false by rw [List.any_map]; exact List.any_eq_false.mpr fun _ _ => Bool.false_ne_true]
theorem pv_all1 {own : List Nat} {tg : Tg} {it : It} {e : E} {xs : List T} (hi : PI C loc it xs) (hl : xs.length ≤ SL) (H : ∀ x ∈ xs, ∃ l, asg tg (.t x) (wipeL loc own) = some l ∧ PV C l e (.bl true)) : PV C loc (.op .all [.lc false own tg it [] e]) (.bl true) := by
  refine pv_op (pvs_cons (pv_lc (fun _ => .bl true) hi hl H) pvs_nil) fun h => ?_
  have := o_all (bs := xs.map fun _ => true) (h := h)
  rw [List.map_map] at this
  refine this.trans ?_
  rw [show (xs.map fun _ => true).all id = true by rw [List.all_map]; exact List.all_eq_true.mpr fun _ _ => rfl]
theorem lcM_mapA {A : Type} {asgn : Val → Loc → Option Loc} {loc : Loc} {tst : Loc → MH Bool} {elt : Loc → MH Val} (it g : A → T) : ∀ (xs : List A) (h : List Ob), (∀ x ∈ xs, ∃ l, asgn (.t (it x)) loc = some l ∧ (∀ h, tst l h = .ok true h) ∧ ∀ h, elt l h = .ok (.t (g x)) h) →
    lcM asgn loc tst elt ((xs.map it).map .t) h = .ok ((xs.map g).map .t) h
  | [], h, _ => rfl
  | x :: xs, h, H => by
    obtain ⟨l, e1, e2, e3⟩ := H x List.mem_cons_self
    have IH := lcM_mapA (asgn := asgn) (tst := tst) (elt := elt) it g xs h fun y hy => H y (List.mem_cons_of_mem _ hy)
    show (match asgn (.t (it x)) loc with
      | none => bad
      | some l => MH.bind (tst l) fun b => if b then MH.bind (elt l) fun v => MH.bind (lcM asgn loc tst elt ((xs.map it).map .t)) fun vs => (pure (v :: vs) : MH (List Val)) else lcM asgn loc tst elt ((xs.map it).map .t)) h = _
    rw [e1]
    dsimp only
    rw [b_ok (e2 h), if_pos rfl, b_ok (e3 h), b_ok IH]
    rfl
/-- a list of told items -/
theorem pv_lcA {A : Type} {own : List Nat} {tg : Tg} {i : It} {e : E} (it g : A → T) {xs : List A} (hi : PI C loc i (xs.map it)) (hl : xs.length ≤ SL) (H : ∀ x ∈ xs, ∃ l, asg tg (.t (it x)) (wipeL loc own) = some l ∧ PV C l e (g x)) : PV C loc (.lc false own tg i [] e) (.lst (xs.map g)) := fun h => by
  refine lc_frz (hi h) (by rw [List.length_map, List.length_map]; exact hl) ?_
  exact lcM_mapA (asgn := asg tg) (tst := evTs C []) (elt := evE C e) it g xs h fun x hx => by
    obtain ⟨l, e1, e2⟩ := H x hx
    exact ⟨l, e1, fun _ => rfl, e2⟩
theorem pi_rng {e : E} {n : Nat} (a : PV C loc e (.int (n : Nat))) (hn : n < 2 ^ 62) : PI C loc (.rng1 e) ((List.range n).map fun i => .int (i : Nat)) := fun h => by
  rw [i_rngN (a h) hn, List.map_map]
  rfl
theorem lcM2_map {asgn : Val → Loc → Option Loc} {tst : Loc → MH Bool} {inner : Loc → MH (List Val)} (g : T → List T) : ∀ (xs : List T) (h : List Ob), (∀ x ∈ xs, ∃ l, asgn (.t x) loc = some l ∧ (∀ h, tst l h = .ok true h) ∧ ∀ h, inner l h = .ok ((g x).map .t) h) →
    lcM2 asgn loc tst inner (xs.map .t) h = .ok ((xs.flatMap g).map .t) h
  | [], h, _ => rfl
  | x :: xs, h, H => by
    obtain ⟨l, e1, e2, e3⟩ := H x List.mem_cons_self
    have IH := lcM2_map (asgn := asgn) (tst := tst) (inner := inner) g xs h fun y hy => H y (List.mem_cons_of_mem _ hy)
    show (match asgn (.t x) loc with
      | none => bad
      | some l => MH.bind (tst l) fun b => if b then MH.bind (inner l) fun v => MH.bind (lcM2 asgn loc tst inner (xs.map .t)) fun vs => (pure (v ++ vs) : MH (List Val)) else lcM2 asgn loc tst inner (xs.map .t)) h = _
    rw [e1]
    dsimp only
    rw [b_ok (e2 h), if_pos rfl, b_ok (e3 h), b_ok IH, List.flatMap_cons, List.map_append]
    rfl
theorem pv_lc2 {own : List Nat} {tg tg1 : Tg} {it it1 : It} {e : E} {xs : List T} (ys : T → List T) (k : T → T → T) (hi : PI C loc it xs) (hl : xs.length ≤ 1000)
    (H : ∀ x ∈ xs, ∃ l, asg tg (.t x) (wipeL loc own) = some l ∧ PI C l it1 (ys x) ∧ (ys x).length ≤ 1000 ∧ ∀ y ∈ ys x, ∃ l', asg tg1 (.t y) (wipeL l tg1.ix) = some l' ∧ PV C l' e (k x y)) : PV C loc (.lc2 false own tg it [] tg1 it1 [] e) (.lst (xs.flatMap fun x => (ys x).map (k x))) := fun h => by
  show MH.bind (evIt C it loc) (fun xs => if xs.length ≤ 1000 then noexc (MH.bind (lcM2 (asg tg) (wipeL loc own) (evTs C []) (fun l =>
      MH.bind (evIt C it1 l) fun ys => if ys.length ≤ 1000 then lcM (asg tg1) (wipeL l tg1.ix) (evTs C []) (evE C e) ys else bad) xs) fun vs => keep false vs) else bad) h = _
  rw [b_ok (hi h), if_pos (by rw [List.length_map]; exact hl)]
  have q := lcM2_map (asgn := asg tg) (loc := wipeL loc own) (tst := evTs C []) (inner := fun l => MH.bind (evIt C it1 l) fun ys => if ys.length ≤ 1000 then lcM (asg tg1) (wipeL l tg1.ix) (evTs C []) (evE C e) ys else bad) (fun x => (ys x).map (k x)) xs h fun x hx => by
    obtain ⟨l, e1, e2, e3, e4⟩ := H x hx
    refine ⟨l, e1, fun _ => rfl, fun h => ?_⟩
    show MH.bind (evIt C it1 l) (fun ys => if ys.length ≤ 1000 then lcM (asg tg1) (wipeL l tg1.ix) (evTs C []) (evE C e) ys else bad) h = _
    rw [b_ok (e2 h), if_pos (by rw [List.length_map]; exact e3)]
    exact lcM_map (asgn := asg tg1) (tst := evTs C []) (elt := evE C e) (k x) (ys x) h fun y hy => by
      obtain ⟨l', f1, f2⟩ := e4 y hy
      exact ⟨l', f1, fun _ => rfl, f2⟩
  unfold noexc
  rw [b_ok q, keep_t]
theorem pt_any02 {own : List Nat} {tg tg1 : Tg} {it it1 : It} {e : E} {xs : List T} (ys : T → List T) (hi : PI C loc it xs) (hl : xs.length ≤ 1000)
    (H : ∀ x ∈ xs, ∃ l, asg tg (.t x) (wipeL loc own) = some l ∧ PI C l it1 (ys x) ∧ (ys x).length ≤ 1000 ∧ ∀ y ∈ ys x, ∃ l', asg tg1 (.t y) (wipeL l tg1.ix) = some l' ∧ PV C l' e (.bl false)) : PT C loc (.op .any [.lc2 false own tg it [] tg1 it1 [] e]) false := by
  refine pt_opt (pvs_cons (pv_lc2 ys (fun _ _ => .bl false) hi hl H) pvs_nil) rfl fun h => ?_
  have e : (xs.flatMap fun x => (ys x).map fun _ => T.bl false) = ((xs.flatMap fun x => (ys x).map fun _ => false).map T.bl) := by
    rw [List.map_flatMap]
    simp only [List.map_map]
    rfl
  show opM .any [.t (.lst (xs.flatMap fun x => (ys x).map fun _ => T.bl false))] h = _
  rw [e]
  refine o_any.trans ?_
  have : ((xs.flatMap fun x => (ys x).map fun _ => false).any id) = false := by
    rw [List.any_eq_false]
    intro b hb
    obtain ⟨x, _, hb⟩ := List.mem_flatMap.mp hb
    obtain ⟨_, _, rfl⟩ := List.mem_map.mp hb
    exact Bool.false_ne_true
  rw [this]
theorem pt_in {k : Nat} {neg : Bool} {a b : E} {x : T} {ys : List T} {r : Bool} (ha : PV C loc a x) (hb : PV C loc b (.lst ys)) (hx : x.pl k = true) (hy : ∀ y ∈ ys, y.pl k = true) (hk : k < 64) (hr : r = true ↔ x ∈ ys) : PT C loc (.inn neg a b) (r ^^ neg) := fun h => by
  rw [y_inn, b_ok (ha h), b_ok (hb h), b_ok (q_in hx hy hk hr)]
  rfl
theorem pv_in {k : Nat} {neg : Bool} {a b : E} {x : T} {ys : List T} {r : Bool} (ha : PV C loc a x) (hb : PV C loc b (.lst ys)) (hx : x.pl k = true) (hy : ∀ y ∈ ys, y.pl k = true) (hk : k < 64) (hr : r = true ↔ x ∈ ys) : PV C loc (.inn neg a b) (.bl (r ^^ neg)) := fun h => by
  rw [x_inn, b_ok (ha h), b_ok (hb h), q_in hx hy hk hr]
theorem pv_inc {neg : Bool} {a b : E} {c : Nat} {l : List Nat} {r : Bool} (ha : PV C loc a (.str (stL [c]))) (hb : PV C loc b (.str (stL l))) (hr : r = true ↔ c ∈ l) : PV C loc (.inn neg a b) (.bl (r ^^ neg)) := fun h => by
  rw [x_inn, b_ok (ha h), b_ok (hb h)]
  show (MH.bind (strV (.t (.str (stL [c])))) (fun c => if c.length = 1 then bl (decide (c.cps.getD 0 0 ∈ (stL l).cps.toList) ^^ neg) else bad)) h = _
  rw [b_ok (show strV (.t (.str (stL [c]))) h = .ok (stL [c]) h from rfl), if_pos (by rw [st_len]; rfl)]
  have : decide ((stL [c]).cps.getD 0 0 ∈ (stL l).cps.toList) = r := by
    refine bool_iff (p := c ∈ l) ?_ hr
    rw [decide_eq_true_eq, show (stL l).cps.toList = l by simp [stL]]
    exact Iff.rfl
  rw [this]
  rfl
theorem pv_index {k j : Nat} {a b : E} {x : T} {ys : List T} (hb : PV C loc b (.lst ys)) (ha : PV C loc a x) (hx : x.pl k = true) (hy : ∀ y ∈ ys, y.pl k = true) (hk : k < 64) (hj : ys[j]? = some x) (hn : ys.Nodup) : PV C loc (.lm .index b [a]) (.int (j : Nat)) := fun h => by
  rw [x_lm, b_ok (hb h), b_ok (show isSeq Op.index.tp (.t (.lst ys)) h = .ok () h from rfl), b_ok (show evEs C [a] loc h = .ok [.t x] h by rw [x_cons, b_ok (ha h)]; rfl)]
  exact q_index hx hy hk hj hn
theorem pv_count {k : Nat} {a b : E} {x : T} {ys : List T} (hb : PV C loc b (.lst ys)) (ha : PV C loc a x) (hx : x.pl k = true) (hy : ∀ y ∈ ys, y.pl k = true) (hk : k < 64) (hj : x ∈ ys) (hn : ys.Nodup) : PV C loc (.lm .count b [a]) (.int 1) := fun h => by
  rw [x_lm, b_ok (hb h), b_ok (show isSeq Op.count.tp (.t (.lst ys)) h = .ok () h from rfl), b_ok (show evEs C [a] loc h = .ok [.t x] h by rw [x_cons, b_ok (ha h)]; rfl)]
  exact q_count hx hy hk hj hn
theorem pt_eqp {k m : Nat} {neg b : Bool} {u v : E} {x y : T} (ha : PV C loc u x) (hb : PV C loc v y) (hx : x.pl k = true) (hy : y.pl m = true) (hk : k ≤ 64) (hm : m ≤ 64) (hr : b = true ↔ x = y) : PT C loc (.eqq neg u v) (b ^^ neg) := fun h => by
  rw [y_eqq, b_ok (ha h), b_ok (hb h), b_ok (q_eq hx hy hk hm hr)]
  rfl
theorem pv_eqp {k m : Nat} {neg b : Bool} {u v : E} {x y : T} (ha : PV C loc u x) (hb : PV C loc v y) (hx : x.pl k = true) (hy : y.pl m = true) (hk : k ≤ 64) (hm : m ≤ 64) (hr : b = true ↔ x = y) : PV C loc (.eqq neg u v) (.bl (b ^^ neg)) := fun h => by
  rw [x_eqq, b_ok (ha h), b_ok (hb h), q_eq hx hy hk hm hr]
end
end MS

set_option Elab.async false
set_option linter.all false
set_option maxRecDepth 100000
set_option maxHeartbeats 0
namespace MS
open PySem PySem.Spec PyProof.Rows L2
abbrev prg : Program := PySem.Challenge.pw_kindsteps_k91_errors
def top (i : Nat) : Stmt := prg.main.body.getD i (.Pass ⟨0, 0, 0, 0⟩)
abbrev s14 : Stmt := top 24
abbrev s15 : Stmt := top 25
abbrev s56 : Stmt := top 26
abbrev s57 : Stmt := top 27
abbrev s58 : Stmt := top 28
abbrev s59 : Stmt := top 29
abbrev s60 : Stmt := top 30
abbrev s21 : Stmt := top 31
abbrev s1 : Stmt := inClass (top 2) 0
def N1 : List Str := ["self"]
abbrev s38 : Stmt := inClass (top 3) 0
def N38 : List Str := ["self"]
abbrev s39 : Stmt := inClass (top 4) 0
def N39 : List Str := ["self"]
abbrev s40 : Stmt := inClass (top 5) 0
def N40 : List Str := ["self"]
abbrev s41 : Stmt := inClass (top 6) 0
def N41 : List Str := ["self", "name"]
abbrev s42 : Stmt := inClass (top 7) 0
def N42 : List Str := ["self", "name"]
abbrev s43 : Stmt := inClass (top 8) 0
def N43 : List Str := ["self", "name"]
abbrev s44 : Stmt := inClass (top 9) 0
def N44 : List Str := ["self", "name"]
abbrev s45 : Stmt := inClass (top 10) 0
def N45 : List Str := ["self"]
abbrev s46 : Stmt := inClass (top 11) 0
def N46 : List Str := ["self"]
abbrev s47 : Stmt := inClass (top 12) 0
def N47 : List Str := ["self"]
abbrev s48 : Stmt := inClass (top 13) 0
def N48 : List Str := ["self", "name"]
abbrev s49 : Stmt := inClass (top 14) 0
def N49 : List Str := ["self"]
abbrev s50 : Stmt := inClass (top 15) 0
def N50 : List Str := ["self"]
abbrev s51 : Stmt := inClass (top 16) 0
def N51 : List Str := ["self"]
abbrev s52 : Stmt := inClass (top 17) 0
def N52 : List Str := ["self", "name"]
abbrev s53 : Stmt := inClass (top 18) 0
def N53 : List Str := ["self"]
abbrev s2 : Stmt := inClass (top 20) 0
def N2 : List Str := ["self", "name"]
abbrev s54 : Stmt := inClass (top 21) 0
def N54 : List Str := ["self", "name"]
abbrev s55 : Stmt := inClass (top 22) 0
def N55 : List Str := ["self", "name"]
/-- _law_source: _law_script _law_mixed _law_cell _law_cells _law_k -/
def fn14 : FnD := ⟨1, 5, [.set 1 (.int 11),
    .fr (.v 2) (.seq (.var 0)) [.set 1 (.op .mod [(.op .int1 [(.op .add [(.op .add [(.op .mul [(.var 1), (.int 69069)]), (.op .mul [(.var 2), (.int 31)])]), (.int 5)])]), (.int 2147483629)])],
    .set 3 (.lc false [2] (.v 2) (.seq (.var 0)) [] (.op .abs [(.var 2)])),
    .ret true (.dsp true [(.str "cells"), (.lc true [4] (.v 4) (.rng1 (.op .len [(.var 3)])) [] (.op .idx [(.var 3), (.op .sub [(.op .sub [(.op .len [(.var 3)]), (.int 1)]), (.var 4)])])), (.str "left"), (.int 1), (.str "mixed"), (.var 1), (.str "turn"), (.int 0)])]⟩
/-- _law_pick: _law_source_here _law_many _law_cells _law_left _law_turn _law_mixed -/
def fn15 : FnD := ⟨2, 6, [.iff (.op .lt [(.var 1), (.int 2)]) [.ret false (.int 0)] [],
    .set 2 (.op .idxd [(.var 0), (.str "cells")]),
    .whl (.and [(.op .lt [(.op .idxd [(.var 0), (.str "left")]), (.int 2)]), (.op .gt [(.op .len [(.var 2)]), (.int 0)])]) [.subd (.var 0) (.str "left") (.lm .pop (.var 2) [])],
    .set 3 (.op .idxd [(.var 0), (.str "left")]),
    .iff (.op .gt [(.var 3), (.int 1)]) [.subd (.var 0) (.str "left") (.op .fdv [(.var 3), (.var 1)]),
    .ret false (.op .mod [(.op .int1 [(.var 3)]), (.var 1)])] [],
    .subd (.var 0) (.str "turn") (.op .add [(.op .idxd [(.var 0), (.str "turn")]), (.int 1)]),
    .set 4 (.op .idxd [(.var 0), (.str "turn")]),
    .set 5 (.op .mod [(.op .int1 [(.op .add [(.op .idxd [(.var 0), (.str "mixed")]), (.op .mul [(.var 4), (.int 104729)])])]), (.int 998244353)]),
    .set 5 (.op .mod [(.op .int1 [(.op .add [(.op .mul [(.var 5), (.var 5)]), (.op .mul [(.var 4), (.int 17)])])]), (.int 2147483647)]),
    .iff (.op .gt [(.var 1), (.op .pow [(.int 10), (.int 7)])]) [.set 5 (.op .pow [(.op .int1 [(.op .add [(.op .mul [(.var 5), (.int 48271)]), (.var 4)])]), (.int 9)])] [],
    .ret false (.op .mod [(.op .int1 [(.op .fdv [(.var 5), (.int 16)])]), (.var 1)])]⟩
/-- _law_word: _law_source_here -/
def fn56 : FnD := ⟨1, 1, [.ret false (.op .add [(.op .idx [(.str "abcdefghijklmnopqrstuvwxyz"), (.call true 15 [(.var 0), (.int 26)])]), (.op .str1 [(.call true 15 [(.var 0), (.op .pow [(.int 10), (.int 6)])])])])]⟩
/-- _law_plain: _law_rows -/
def fn57 : FnD := ⟨0, 1, [.set 0 (.lst false [(.xn 1 []), (.xn 9 []), (.xn 10 []), (.xn 11 []), (.xn 16 []), (.xn 17 []), (.xn 18 [])]),
    .ret false (.op .add [(.var 0), (.lst false [(.xn 20 []), (.xn 21 []), (.xn 22 []), (.xn 24 [])])])]⟩
/-- _law_named: _law_word_here _law_rows _law_e -/
def fn58 : FnD := ⟨1, 3, [.set 1 (.lst false [(.xn 12 [(.var 0)]), (.xn 13 [(.var 0)]), (.xn 14 [(.var 0)]), (.xn 15 [(.var 0)]), (.xn 19 [(.var 0)]), (.xn 23 [(.var 0)])]),
    .ret false (.ifx (.inn true (.bl false) (.lc false [2] (.v 2) (.seq (.var 1)) [] (.eqq false (.op .xnm [(.var 2)]) (.var 0)))) (.var 1) (.lst false []))]⟩
/-- _law_missing: _law_word_here _law_rows _law_e -/
def fn59 : FnD := ⟨1, 3, [.set 1 (.lst false [(.xn 3 [(.var 0)]), (.xn 25 [(.var 0)]), (.xn 26 [(.var 0)])]),
    .ret false (.ifx (.inn true (.bl false) (.lc false [2] (.v 2) (.seq (.var 1)) [] (.eqq false (.op .xnm [(.var 2)]) (.var 0)))) (.var 1) (.lst false []))]⟩
/-- _law_classes: _law_e _law_rows _law_k -/
def fn60 : FnD := ⟨1, 3, [.set 1 (.lst false [(.isi (.var 0) [.xc 1]), (.isi (.var 0) [.xc 9]), (.isi (.var 0) [.xc 10]), (.isi (.var 0) [.xc 11]), (.isi (.var 0) [.xc 16]), (.isi (.var 0) [.xc 17]), (.isi (.var 0) [.xc 18]), (.isi (.var 0) [.xc 20]), (.isi (.var 0) [.xc 21]), (.isi (.var 0) [.xc 22]), (.isi (.var 0) [.xc 24]), (.isi (.var 0) [.xc 12]), (.isi (.var 0) [.xc 13]), (.isi (.var 0) [.xc 14]), (.isi (.var 0) [.xc 15]), (.isi (.var 0) [.xc 19]), (.isi (.var 0) [.xc 23]), (.isi (.var 0) [.xc 3]), (.isi (.var 0) [.xc 25]), (.isi (.var 0) [.xc 26])]),
    .ret false (.lc false [2] (.v 2) (.rng1 (.op .len [(.var 1)])) [(.op .idx [(.var 1), (.var 2)])] (.var 2))]⟩
/-- law: _law_script _law_source_here _law_word_here _law_rows _law_lost _law_e _law_k -/
def fn21 : FnD := ⟨1, 7, [.set 1 (.call true 14 [(.var 0)]),
    .set 2 (.call true 56 [(.var 1)]),
    .set 3 (.op .add [(.call false 57 []), (.call false 58 [(.var 2)])]),
    .set 4 (.call false 59 [(.call true 56 [(.var 1)])]),
    .iff (.or [(.eqq true (.op .len [(.var 3)]) (.int 17)), (.eqq true (.op .len [(.var 4)]) (.int 3))]) [.ret false (.bl false)] [],
    .iff (.eqq true (.lc false [5] (.v 5) (.seq (.op .add [(.var 3), (.var 4)])) [] (.call false 60 [(.var 5)])) (.lc false [6] (.v 6) (.rng1 (.int 20)) [] (.lst false [(.var 6)]))) [.ret false (.bl false)] [],
    .fr (.v 5) (.seq (.var 3)) [.iff (.or [(.nott (.isi (.var 5) [.xc 501])), (.nott (.isi (.var 5) [.xc 0])), (.isi (.var 5) [.xc 2])]) [.ret false (.bl false)] []],
    .fr (.v 5) (.seq (.var 4)) [.iff (.or [(.nott (.isi (.var 5) [.xc 502])), (.nott (.isi (.var 5) [.xc 2])), (.isi (.var 5) [.xc 0])]) [.ret false (.bl false)] [],
    .iff (.or [(.isi (.var 5) [.xc 503]), (.isi (.var 5) [.xc 504])]) [.ret false (.bl false)] []],
    .ret false (.bl true)]⟩
def N14 : List Str := ["_law_script", "_law_mixed", "_law_cell", "_law_cells", "_law_k"]
def N15 : List Str := ["_law_source_here", "_law_many", "_law_cells", "_law_left", "_law_turn", "_law_mixed"]
def N56 : List Str := ["_law_source_here"]
def N57 : List Str := ["_law_rows"]
def N58 : List Str := ["_law_word_here", "_law_rows", "_law_e"]
def N59 : List Str := ["_law_word_here", "_law_rows", "_law_e"]
def N60 : List Str := ["_law_e", "_law_rows", "_law_k"]
def N21 : List Str := ["_law_script", "_law_source_here", "_law_word_here", "_law_rows", "_law_lost", "_law_e", "_law_k"]
def mNm : Nat → Str

  | n => if n = mEq then "__eq__" else if n = mIn then "__contains__" else "__no__"
def iniT : Nat → Option Nat

  | _ => none
def kwT : Nat → Option Str
  | _ => none
def spsT : Sp → Bool
  | .xc 0 => true
  | .xc 1 => true
  | .xc 10 => true
  | .xc 11 => true
  | .xc 12 => true
  | .xc 13 => true
  | .xc 14 => true
  | .xc 15 => true
  | .xc 16 => true
  | .xc 17 => true
  | .xc 18 => true
  | .xc 19 => true
  | .xc 2 => true
  | .xc 20 => true
  | .xc 21 => true
  | .xc 22 => true
  | .xc 23 => true
  | .xc 24 => true
  | .xc 25 => true
  | .xc 26 => true
  | .xc 3 => true
  | .xc 501 => true
  | .xc 502 => true
  | .xc 503 => true
  | .xc 504 => true
  | .xc 9 => true
  | _ => false
def exwT : Nat → Bool
  | 12 => true
  | 13 => true
  | 14 => true
  | 15 => true
  | 19 => true
  | 23 => true
  | 3 => true
  | 25 => true
  | 26 => true
  | _ => false
def ge : GEnv := ⟨("_law_source", 14) :: ("_law_pick", 15) :: ("_law_word", 56) :: ("_law_plain", 57) :: ("_law_named", 58) :: ("_law_missing", 59) :: ("_law_classes", 60) :: ("law", 21) :: [], [], [], ["len", "abs", "int", "str", "range", "isinstance", "ValueError", "LookupError", "KeyError", "IndexError"], mNm, iniT, kwT, spsT, [("BadMonoid", 1), ("BadKind", 9), ("BadValue", 10), ("TooMany", 11), ("BadName", 12), ("TwiceTold", 13), ("NoStep", 14), ("NotClosed", 15), ("MixedKinds", 16), ("MixedSystems", 17), ("BadImages", 18), ("NotKept", 19), ("BadSaying", 20), ("BadBehaviour", 21), ("BadTurn", 22), ("OpenState", 23), ("NothingDone", 24), ("UnknownMember", 3), ("UnknownState", 25), ("NotTold", 26)], exwT, true, [("BadMonoid", 1), ("BadKind", 9), ("BadValue", 10), ("TooMany", 11), ("BadName", 12), ("TwiceTold", 13), ("NoStep", 14), ("NotClosed", 15), ("MixedKinds", 16), ("MixedSystems", 17), ("BadImages", 18), ("NotKept", 19), ("BadSaying", 20), ("BadBehaviour", 21), ("BadTurn", 22), ("OpenState", 23), ("NothingDone", 24), ("UnknownMember", 3), ("UnknownState", 25), ("NotTold", 26), ("KindstepsError", 0), ("NameMissing", 2)]⟩
theorem ck14 : chkB ge 30 ⟨N14, defScope s14, notCl, true⟩ fn14.body (defBody s14) = true := by decide +kernel
theorem ck15 : chkB ge 30 ⟨N15, defScope s15, notCl, true⟩ fn15.body (defBody s15) = true := by decide +kernel
theorem ck56 : chkB ge 30 ⟨N56, defScope s56, notCl, true⟩ fn56.body (defBody s56) = true := by decide +kernel
theorem ck57 : chkB ge 30 ⟨N57, defScope s57, notCl, true⟩ fn57.body (defBody s57) = true := by decide +kernel
theorem ck58 : chkB ge 30 ⟨N58, defScope s58, notCl, true⟩ fn58.body (defBody s58) = true := by decide +kernel
theorem ck59 : chkB ge 30 ⟨N59, defScope s59, notCl, true⟩ fn59.body (defBody s59) = true := by decide +kernel
theorem ck60 : chkB ge 30 ⟨N60, defScope s60, notCl, true⟩ fn60.body (defBody s60) = true := by decide +kernel
theorem ck21 : chkB ge 30 ⟨N21, defScope s21, notCl, true⟩ fn21.body (defBody s21) = true := by decide +kernel
theorem cx1 : cInit N1 (defScope s1) false (defBody s1) = true := by decide +kernel
theorem cx38 : cInit N38 (defScope s38) false (defBody s38) = true := by decide +kernel
theorem cx39 : cInit N39 (defScope s39) false (defBody s39) = true := by decide +kernel
theorem cx40 : cInit N40 (defScope s40) false (defBody s40) = true := by decide +kernel
theorem cx41 : cInit N41 (defScope s41) true (defBody s41) = true := by decide +kernel
theorem cx42 : cInit N42 (defScope s42) true (defBody s42) = true := by decide +kernel
theorem cx43 : cInit N43 (defScope s43) true (defBody s43) = true := by decide +kernel
theorem cx44 : cInit N44 (defScope s44) true (defBody s44) = true := by decide +kernel
theorem cx45 : cInit N45 (defScope s45) false (defBody s45) = true := by decide +kernel
theorem cx46 : cInit N46 (defScope s46) false (defBody s46) = true := by decide +kernel
theorem cx47 : cInit N47 (defScope s47) false (defBody s47) = true := by decide +kernel
theorem cx48 : cInit N48 (defScope s48) true (defBody s48) = true := by decide +kernel
theorem cx49 : cInit N49 (defScope s49) false (defBody s49) = true := by decide +kernel
theorem cx50 : cInit N50 (defScope s50) false (defBody s50) = true := by decide +kernel
theorem cx51 : cInit N51 (defScope s51) false (defBody s51) = true := by decide +kernel
theorem cx52 : cInit N52 (defScope s52) true (defBody s52) = true := by decide +kernel
theorem cx53 : cInit N53 (defScope s53) false (defBody s53) = true := by decide +kernel
theorem cx2 : cInit N2 (defScope s2) true (defBody s2) = true := by decide +kernel
theorem cx54 : cInit N54 (defScope s54) true (defBody s54) = true := by decide +kernel
theorem cx55 : cInit N55 (defScope s55) true (defBody s55) = true := by decide +kernel
def fnT : Nat → Option FnD
  | 14 => some fn14
  | 15 => some fn15
  | 56 => some fn56
  | 57 => some fn57
  | 58 => some fn58
  | 59 => some fn59
  | 60 => some fn60
  | 21 => some fn21
  | _ => none
def mthT : Nat → Nat → Option Nat

  | _, _ => none
def glT : Nat → Option T

  | _ => none
def psT : Nat → List Str
  | 14 => ["_law_script"]
  | 15 => ["_law_source_here", "_law_many"]
  | 56 => ["_law_source_here"]
  | 57 => []
  | 58 => ["_law_word_here"]
  | 59 => ["_law_word_here"]
  | 60 => ["_law_e"]
  | 21 => ["_law_script"]
  | 1 => ["self"]
  | 38 => ["self"]
  | 39 => ["self"]
  | 40 => ["self"]
  | 41 => ["self", "name"]
  | 42 => ["self", "name"]
  | 43 => ["self", "name"]
  | 44 => ["self", "name"]
  | 45 => ["self"]
  | 46 => ["self"]
  | 47 => ["self"]
  | 48 => ["self", "name"]
  | 49 => ["self"]
  | 50 => ["self"]
  | 51 => ["self"]
  | 52 => ["self", "name"]
  | 53 => ["self"]
  | 2 => ["self", "name"]
  | 54 => ["self", "name"]
  | 55 => ["self", "name"]
  | _ => []
def posT : Nat → Bool
  | _ => true
def nrX : Nat → Nat
  | 9 => 9
  | 10 => 10
  | 11 => 11
  | 12 => 12
  | 13 => 13
  | 14 => 14
  | 15 => 15
  | 16 => 16
  | 17 => 17
  | 18 => 18
  | 19 => 19
  | 20 => 20
  | 21 => 21
  | 22 => 22
  | 23 => 23
  | 24 => 24
  | 3 => 3
  | 25 => 25
  | 26 => 26
  | 0 => 0
  | 2 => 2
  | _ => 1
def xsL : List (Nat × Nat) := (1, 1) :: (1, 0) :: (1, 501) :: (9, 9) :: (9, 0) :: (9, 501) :: (10, 10) :: (10, 0) :: (10, 501) :: (11, 11) :: (11, 0) :: (11, 501) :: (12, 12) :: (12, 0) :: (12, 501) :: (13, 13) :: (13, 0) :: (13, 501) :: (14, 14) :: (14, 0) :: (14, 501) :: (15, 15) :: (15, 0) :: (15, 501) :: (16, 16) :: (16, 0) :: (16, 501) :: (17, 17) :: (17, 0) :: (17, 501) :: (18, 18) :: (18, 0) :: (18, 501) :: (19, 19) :: (19, 0) :: (19, 501) :: (20, 20) :: (20, 0) :: (20, 501) :: (21, 21) :: (21, 0) :: (21, 501) :: (22, 22) :: (22, 0) :: (22, 501) :: (23, 23) :: (23, 0) :: (23, 501) :: (24, 24) :: (24, 0) :: (24, 501) :: (3, 3) :: (3, 2) :: (3, 502) :: (25, 25) :: (25, 2) :: (25, 502) :: (26, 26) :: (26, 2) :: (26, 502) :: (0, 0) :: (0, 501) :: (2, 2) :: (2, 502) :: []
def xs0 (c d : Nat) : Bool := xsL.any fun p => p.1 == c && p.2 == d
def isaT (c d : Nat) : Bool := xs0 (nrX (c - 1000)) (d - 1000)
def xnL : List Nat := [1, 9, 10, 11, 12, 13, 14, 15, 16, 17, 18, 19, 20, 21, 22, 23, 24, 3, 25, 26, 0, 2]
def xiT (c d : Nat) : Bool := false
theorem nrX_cases (c : Nat) : nrX c = 1 ∨ nrX c = 9 ∨ nrX c = 10 ∨ nrX c = 11 ∨ nrX c = 12 ∨ nrX c = 13 ∨ nrX c = 14 ∨ nrX c = 15 ∨ nrX c = 16 ∨ nrX c = 17 ∨ nrX c = 18 ∨ nrX c = 19 ∨ nrX c = 20 ∨ nrX c = 21 ∨ nrX c = 22 ∨ nrX c = 23 ∨ nrX c = 24 ∨ nrX c = 3 ∨ nrX c = 25 ∨ nrX c = 26 ∨ nrX c = 0 ∨ nrX c = 2 := by
  unfold nrX
  split <;> simp
def xA0 (X1 X9 X10 X11 X12 X13 X14 X15 X16 X17 X18 X19 X20 X21 X22 X23 X24 X3 X25 X26 X0 X2 : Addr) : Nat → Addr
  | 9 => X9
  | 10 => X10
  | 11 => X11
  | 12 => X12
  | 13 => X13
  | 14 => X14
  | 15 => X15
  | 16 => X16
  | 17 => X17
  | 18 => X18
  | 19 => X19
  | 20 => X20
  | 21 => X21
  | 22 => X22
  | 23 => X23
  | 24 => X24
  | 3 => X3
  | 25 => X25
  | 26 => X26
  | 0 => X0
  | 2 => X2
  | _ => X1
theorem nrX_mem (c : Nat) : nrX c ∈ xnL := by
  rcases nrX_cases c with e | e | e | e | e | e | e | e | e | e | e | e | e | e | e | e | e | e | e | e | e | e <;> rw [e] <;> decide
theorem nrX_nr (c : Nat) : nrX (nrX c) = nrX c := by
  rcases nrX_cases c with e | e | e | e | e | e | e | e | e | e | e | e | e | e | e | e | e | e | e | e | e | e <;> rw [e] <;> rfl
theorem tyx_nr (c d : Nat) : tyIs isaT (.xo (nrX c)) (.xc d) = tyIs isaT (.xo c) (.xc d) := by
  simp only [tyIs, isaT, Nat.add_sub_cancel_left, nrX_nr]
theorem xot_nr (X1 X9 X10 X11 X12 X13 X14 X15 X16 X17 X18 X19 X20 X21 X22 X23 X24 X3 X25 X26 X0 X2 : Addr) (c : Nat) : tyVal (fun _ => 0) (fun c => xA0 X1 X9 X10 X11 X12 X13 X14 X15 X16 X17 X18 X19 X20 X21 X22 X23 X24 X3 X25 X26 X0 X2 (nrX c)) (.xo (nrX c)) = tyVal (fun _ => 0) (fun c => xA0 X1 X9 X10 X11 X12 X13 X14 X15 X16 X17 X18 X19 X20 X21 X22 X23 X24 X3 X25 X26 X0 X2 (nrX c)) (.xo c) := by
  show Value.ref (xA0 X1 X9 X10 X11 X12 X13 X14 X15 X16 X17 X18 X19 X20 X21 X22 X23 X24 X3 X25 X26 X0 X2 (nrX (nrX c))) = Value.ref (xA0 X1 X9 X10 X11 X12 X13 X14 X15 X16 X17 X18 X19 X20 X21 X22 X23 X24 X3 X25 X26 X0 X2 (nrX c))
  rw [nrX_nr]
def spXn : List Nat := [0, 1, 10, 11, 12, 13, 14, 15, 16, 17, 18, 19, 2, 20, 21, 22, 23, 24, 25, 26, 3, 501, 502, 503, 504, 9]
def tyB : List Ty := [.non, .bl, .int, .str, .tup, .lst, .dct]
theorem sps_xc (s : Sp) (h : spsT s = true) : ∃ d ∈ spXn, s = .xc d := by
  unfold spsT at h
  split at h
  · exact ⟨0, by decide, rfl⟩
  · exact ⟨1, by decide, rfl⟩
  · exact ⟨10, by decide, rfl⟩
  · exact ⟨11, by decide, rfl⟩
  · exact ⟨12, by decide, rfl⟩
  · exact ⟨13, by decide, rfl⟩
  · exact ⟨14, by decide, rfl⟩
  · exact ⟨15, by decide, rfl⟩
  · exact ⟨16, by decide, rfl⟩
  · exact ⟨17, by decide, rfl⟩
  · exact ⟨18, by decide, rfl⟩
  · exact ⟨19, by decide, rfl⟩
  · exact ⟨2, by decide, rfl⟩
  · exact ⟨20, by decide, rfl⟩
  · exact ⟨21, by decide, rfl⟩
  · exact ⟨22, by decide, rfl⟩
  · exact ⟨23, by decide, rfl⟩
  · exact ⟨24, by decide, rfl⟩
  · exact ⟨25, by decide, rfl⟩
  · exact ⟨26, by decide, rfl⟩
  · exact ⟨3, by decide, rfl⟩
  · exact ⟨501, by decide, rfl⟩
  · exact ⟨502, by decide, rfl⟩
  · exact ⟨503, by decide, rfl⟩
  · exact ⟨504, by decide, rfl⟩
  · exact ⟨9, by decide, rfl⟩
  · cases h
def G : Tab := ⟨fnT, mthT, iniT, isaT, glT, xiT⟩
def fA0 (f14 f15 f56 f57 f58 f59 f60 f21 f1 f38 f39 f40 f41 f42 f43 f44 f45 f46 f47 f48 f49 f50 f51 f52 f53 f2 f54 f55 : Addr) : Nat → Addr
  | 14 => f14
  | 15 => f15
  | 56 => f56
  | 57 => f57
  | 58 => f58
  | 59 => f59
  | 60 => f60
  | 21 => f21
  | 1 => f1
  | 38 => f38
  | 39 => f39
  | 40 => f40
  | 41 => f41
  | 42 => f42
  | 43 => f43
  | 44 => f44
  | 45 => f45
  | 46 => f46
  | 47 => f47
  | 48 => f48
  | 49 => f49
  | 50 => f50
  | 51 => f51
  | 52 => f52
  | 53 => f53
  | 2 => f2
  | 54 => f54
  | 55 => f55
  | _ => 0
def fd0 (d14 d15 d56 d57 d58 d59 d60 d21 d1 d38 d39 d40 d41 d42 d43 d44 d45 d46 d47 d48 d49 d50 d51 d52 d53 d2 d54 d55 : FuncData) : Nat → FuncData
  | 14 => d14
  | 15 => d15
  | 56 => d56
  | 57 => d57
  | 58 => d58
  | 59 => d59
  | 60 => d60
  | 21 => d21
  | 1 => d1
  | 38 => d38
  | 39 => d39
  | 40 => d40
  | 41 => d41
  | 42 => d42
  | 43 => d43
  | 44 => d44
  | 45 => d45
  | 46 => d46
  | 47 => d47
  | 48 => d48
  | 49 => d49
  | 50 => d50
  | 51 => d51
  | 52 => d52
  | 53 => d53
  | 2 => d2
  | 54 => d54
  | 55 => d55
  | _ => d14
theorem ok_fd {fd : FuncData} {K : PySem.W.Frag} {x qual : Str} {st : Stmt} {f : Addr} (F : Fun K x qual st f fd) : ∃ (name qual : Str) (params : Arguments) (dV kV doc pm cdv ct oc : Value) (an od : Option Addr) (osl : Array (Option Value)), fd = PySem.W.fnOf name qual params (defBody st) (defScope st) dV kV doc pm an cdv ct ∧
    K.lookup f = some ⟨oc, od, .func fd, osl⟩ ∧ PySem.W.codeIn K cdv qual = true := by
  obtain ⟨oc, od, kV, doc, pm, an, cdv, ct, osl, e1, e2, e3⟩ := F.ex
  exact ⟨x, qual, defArgs st, .none, kV, doc, pm, cdv, ct, oc, an, od, osl, e1, e2, e3⟩
structure FunK (K : PySem.W.Frag) (x qual : Str) (st : Stmt) (f D : Addr) (fd : FuncData) : Prop where
  ex : ∃ (kV doc pm ct oc : Value) (an od : Option Addr) (osl : Array (Option Value)) (cc cda : Addr) (vs : Array Value) (file : Str) (tf : Tok) (ccl cl : Value) (cdd cld : Option Addr) (ccs csl : Array (Option Value)) (cdD : ClassData),
    fd = PySem.W.fnX x qual (defArgs st) (defBody st) (defScope st) (kcl cc) .none kV doc pm an (.ref cda) ct ∧ K.lookup f = some ⟨oc, od, .func fd, osl⟩ ∧ PySem.W.codeIn K (.ref cda) qual = true ∧
    K.lookup cda = some ⟨ccl, cdd, .fields vs, ccs⟩ ∧ vs[2]? = some (.str file tf) ∧ ((prg.main.file : Str) == file) = true ∧
    K.lookup cc = some ⟨cl, cld, .cell (some (.ref D)), csl⟩ ∧ PySem.W.clsIn K D = some cdD
  kp : PySem.W.keepIn K (.ref f) = true
theorem FunK.binds {K : PySem.W.Frag} {x qual : Str} {st : Stmt} {f D : Addr} {fd : FuncData} {ps : List Str} (F : FunK K x qual st f D fd)
    (h : ∀ (kV doc pm ct : Value) (an : Option Addr) (cc cda : Addr) (us : List Value), us.length = ps.length → bindArgs (PySem.W.fnX x qual (defArgs st) (defBody st) (defScope st) (kcl cc) .none kV doc pm an (.ref cda) ct) ⟨us, []⟩ = pure (ps.zip us)) : Binds K fd ps [] := by
  obtain ⟨kV, doc, pm, ct, oc, an, od, osl, cc, cda, vs, file, tf, ccl, cl, cdd, cld, ccs, csl, cdD, rfl, _⟩ := F.ex
  exact .all (h kV doc pm ct an cc cda)
theorem sc1 : KScope N1 ["self"] (defScope s1) := ⟨rfl, rfl, rfl, by decide +kernel, rfl, by decide +kernel, by decide +kernel, by decide +kernel⟩
theorem sc38 : KScope N38 ["self"] (defScope s38) := ⟨rfl, rfl, rfl, by decide +kernel, rfl, by decide +kernel, by decide +kernel, by decide +kernel⟩
theorem sc39 : KScope N39 ["self"] (defScope s39) := ⟨rfl, rfl, rfl, by decide +kernel, rfl, by decide +kernel, by decide +kernel, by decide +kernel⟩
theorem sc40 : KScope N40 ["self"] (defScope s40) := ⟨rfl, rfl, rfl, by decide +kernel, rfl, by decide +kernel, by decide +kernel, by decide +kernel⟩
theorem sc41 : KScope N41 ["self", "name"] (defScope s41) := ⟨rfl, rfl, rfl, by decide +kernel, rfl, by decide +kernel, by decide +kernel, by decide +kernel⟩
theorem sc42 : KScope N42 ["self", "name"] (defScope s42) := ⟨rfl, rfl, rfl, by decide +kernel, rfl, by decide +kernel, by decide +kernel, by decide +kernel⟩
theorem sc43 : KScope N43 ["self", "name"] (defScope s43) := ⟨rfl, rfl, rfl, by decide +kernel, rfl, by decide +kernel, by decide +kernel, by decide +kernel⟩
theorem sc44 : KScope N44 ["self", "name"] (defScope s44) := ⟨rfl, rfl, rfl, by decide +kernel, rfl, by decide +kernel, by decide +kernel, by decide +kernel⟩
theorem sc45 : KScope N45 ["self"] (defScope s45) := ⟨rfl, rfl, rfl, by decide +kernel, rfl, by decide +kernel, by decide +kernel, by decide +kernel⟩
theorem sc46 : KScope N46 ["self"] (defScope s46) := ⟨rfl, rfl, rfl, by decide +kernel, rfl, by decide +kernel, by decide +kernel, by decide +kernel⟩
theorem sc47 : KScope N47 ["self"] (defScope s47) := ⟨rfl, rfl, rfl, by decide +kernel, rfl, by decide +kernel, by decide +kernel, by decide +kernel⟩
theorem sc48 : KScope N48 ["self", "name"] (defScope s48) := ⟨rfl, rfl, rfl, by decide +kernel, rfl, by decide +kernel, by decide +kernel, by decide +kernel⟩
theorem sc49 : KScope N49 ["self"] (defScope s49) := ⟨rfl, rfl, rfl, by decide +kernel, rfl, by decide +kernel, by decide +kernel, by decide +kernel⟩
theorem sc50 : KScope N50 ["self"] (defScope s50) := ⟨rfl, rfl, rfl, by decide +kernel, rfl, by decide +kernel, by decide +kernel, by decide +kernel⟩
theorem sc51 : KScope N51 ["self"] (defScope s51) := ⟨rfl, rfl, rfl, by decide +kernel, rfl, by decide +kernel, by decide +kernel, by decide +kernel⟩
theorem sc52 : KScope N52 ["self", "name"] (defScope s52) := ⟨rfl, rfl, rfl, by decide +kernel, rfl, by decide +kernel, by decide +kernel, by decide +kernel⟩
theorem sc53 : KScope N53 ["self"] (defScope s53) := ⟨rfl, rfl, rfl, by decide +kernel, rfl, by decide +kernel, by decide +kernel, by decide +kernel⟩
theorem sc2 : KScope N2 ["self", "name"] (defScope s2) := ⟨rfl, rfl, rfl, by decide +kernel, rfl, by decide +kernel, by decide +kernel, by decide +kernel⟩
theorem sc54 : KScope N54 ["self", "name"] (defScope s54) := ⟨rfl, rfl, rfl, by decide +kernel, rfl, by decide +kernel, by decide +kernel, by decide +kernel⟩
theorem sc55 : KScope N55 ["self", "name"] (defScope s55) := ⟨rfl, rfl, rfl, by decide +kernel, rfl, by decide +kernel, by decide +kernel, by decide +kernel⟩
theorem sc14 : FnScope N14 ["_law_script"] (defScope s14) := ⟨rfl, rfl, rfl, by decide +kernel, rfl, by decide +kernel, by decide +kernel⟩
theorem sc15 : FnScope N15 ["_law_source_here", "_law_many"] (defScope s15) := ⟨rfl, rfl, rfl, by decide +kernel, rfl, by decide +kernel, by decide +kernel⟩
theorem sc56 : FnScope N56 ["_law_source_here"] (defScope s56) := ⟨rfl, rfl, rfl, by decide +kernel, rfl, by decide +kernel, by decide +kernel⟩
theorem sc57 : FnScope N57 [] (defScope s57) := ⟨rfl, rfl, rfl, by decide +kernel, rfl, by decide +kernel, by decide +kernel⟩
theorem sc58 : FnScope N58 ["_law_word_here"] (defScope s58) := ⟨rfl, rfl, rfl, by decide +kernel, rfl, by decide +kernel, by decide +kernel⟩
theorem sc59 : FnScope N59 ["_law_word_here"] (defScope s59) := ⟨rfl, rfl, rfl, by decide +kernel, rfl, by decide +kernel, by decide +kernel⟩
theorem sc60 : FnScope N60 ["_law_e"] (defScope s60) := ⟨rfl, rfl, rfl, by decide +kernel, rfl, by decide +kernel, by decide +kernel⟩
theorem sc21 : FnScope N21 ["_law_script"] (defScope s21) := ⟨rfl, rfl, rfl, by decide +kernel, rfl, by decide +kernel, by decide +kernel⟩
end MS

set_option Elab.async false
set_option linter.all false
set_option maxRecDepth 100000
set_option maxHeartbeats 0
namespace MS
open PySem PySem.Spec PyProof.Rows L2
def q_f14 (K : PySem.W.Frag) : Addr := He.ga K "_law_source"
def q_f15 (K : PySem.W.Frag) : Addr := He.ga K "_law_pick"
def q_f56 (K : PySem.W.Frag) : Addr := He.ga K "_law_word"
def q_f57 (K : PySem.W.Frag) : Addr := He.ga K "_law_plain"
def q_f58 (K : PySem.W.Frag) : Addr := He.ga K "_law_named"
def q_f59 (K : PySem.W.Frag) : Addr := He.ga K "_law_missing"
def q_f60 (K : PySem.W.Frag) : Addr := He.ga K "_law_classes"
def q_f21 (K : PySem.W.Frag) : Addr := He.ga K "law"
def q_X1 (K : PySem.W.Frag) : Addr := He.ga K "BadMonoid"
def q_X9 (K : PySem.W.Frag) : Addr := He.ga K "BadKind"
def q_X10 (K : PySem.W.Frag) : Addr := He.ga K "BadValue"
def q_X11 (K : PySem.W.Frag) : Addr := He.ga K "TooMany"
def q_X12 (K : PySem.W.Frag) : Addr := He.ga K "BadName"
def q_X13 (K : PySem.W.Frag) : Addr := He.ga K "TwiceTold"
def q_X14 (K : PySem.W.Frag) : Addr := He.ga K "NoStep"
def q_X15 (K : PySem.W.Frag) : Addr := He.ga K "NotClosed"
def q_X16 (K : PySem.W.Frag) : Addr := He.ga K "MixedKinds"
def q_X17 (K : PySem.W.Frag) : Addr := He.ga K "MixedSystems"
def q_X18 (K : PySem.W.Frag) : Addr := He.ga K "BadImages"
def q_X19 (K : PySem.W.Frag) : Addr := He.ga K "NotKept"
def q_X20 (K : PySem.W.Frag) : Addr := He.ga K "BadSaying"
def q_X21 (K : PySem.W.Frag) : Addr := He.ga K "BadBehaviour"
def q_X22 (K : PySem.W.Frag) : Addr := He.ga K "BadTurn"
def q_X23 (K : PySem.W.Frag) : Addr := He.ga K "OpenState"
def q_X24 (K : PySem.W.Frag) : Addr := He.ga K "NothingDone"
def q_X3 (K : PySem.W.Frag) : Addr := He.ga K "UnknownMember"
def q_X25 (K : PySem.W.Frag) : Addr := He.ga K "UnknownState"
def q_X26 (K : PySem.W.Frag) : Addr := He.ga K "NotTold"
def q_X0 (K : PySem.W.Frag) : Addr := He.ga K "KindstepsError"
def q_X2 (K : PySem.W.Frag) : Addr := He.ga K "NameMissing"
def q_f1 (K : PySem.W.Frag) : Addr := He.ma K (q_X1 K) "__init__"
def q_f38 (K : PySem.W.Frag) : Addr := He.ma K (q_X9 K) "__init__"
def q_f39 (K : PySem.W.Frag) : Addr := He.ma K (q_X10 K) "__init__"
def q_f40 (K : PySem.W.Frag) : Addr := He.ma K (q_X11 K) "__init__"
def q_f41 (K : PySem.W.Frag) : Addr := He.ma K (q_X12 K) "__init__"
def q_f42 (K : PySem.W.Frag) : Addr := He.ma K (q_X13 K) "__init__"
def q_f43 (K : PySem.W.Frag) : Addr := He.ma K (q_X14 K) "__init__"
def q_f44 (K : PySem.W.Frag) : Addr := He.ma K (q_X15 K) "__init__"
def q_f45 (K : PySem.W.Frag) : Addr := He.ma K (q_X16 K) "__init__"
def q_f46 (K : PySem.W.Frag) : Addr := He.ma K (q_X17 K) "__init__"
def q_f47 (K : PySem.W.Frag) : Addr := He.ma K (q_X18 K) "__init__"
def q_f48 (K : PySem.W.Frag) : Addr := He.ma K (q_X19 K) "__init__"
def q_f49 (K : PySem.W.Frag) : Addr := He.ma K (q_X20 K) "__init__"
def q_f50 (K : PySem.W.Frag) : Addr := He.ma K (q_X21 K) "__init__"
def q_f51 (K : PySem.W.Frag) : Addr := He.ma K (q_X22 K) "__init__"
def q_f52 (K : PySem.W.Frag) : Addr := He.ma K (q_X23 K) "__init__"
def q_f53 (K : PySem.W.Frag) : Addr := He.ma K (q_X24 K) "__init__"
def q_f2 (K : PySem.W.Frag) : Addr := He.ma K (q_X3 K) "__init__"
def q_f54 (K : PySem.W.Frag) : Addr := He.ma K (q_X25 K) "__init__"
def q_f55 (K : PySem.W.Frag) : Addr := He.ma K (q_X26 K) "__init__"
def P_0 (K : PySem.W.Frag) : Prop :=
  (PySem.W.nsIn K mainGlobals "_law_source" = some (some (.ref (q_f14 K)))) ∧
  (PySem.W.nsIn K mainGlobals "_law_pick" = some (some (.ref (q_f15 K)))) ∧
  (PySem.W.nsIn K mainGlobals "_law_word" = some (some (.ref (q_f56 K)))) ∧
  (PySem.W.nsIn K mainGlobals "_law_plain" = some (some (.ref (q_f57 K)))) ∧
  (PySem.W.nsIn K mainGlobals "_law_named" = some (some (.ref (q_f58 K)))) ∧
  (PySem.W.nsIn K mainGlobals "_law_missing" = some (some (.ref (q_f59 K)))) ∧
  (PySem.W.nsIn K mainGlobals "_law_classes" = some (some (.ref (q_f60 K)))) ∧
  (PySem.W.nsIn K mainGlobals "law" = some (some (.ref (q_f21 K)))) ∧
  (codB K (q_f14 K) "_law_source" = true) ∧
  (PySem.W.keepIn K (.ref (q_f14 K)) = true) ∧
  (PySem.W.isFn K (.ref (q_f14 K)) = true) ∧
  (codB K (q_f15 K) "_law_pick" = true) ∧
  (PySem.W.keepIn K (.ref (q_f15 K)) = true) ∧
  (PySem.W.isFn K (.ref (q_f15 K)) = true) ∧
  (codB K (q_f56 K) "_law_word" = true) ∧
  (PySem.W.keepIn K (.ref (q_f56 K)) = true) ∧
  (PySem.W.isFn K (.ref (q_f56 K)) = true) ∧
  (codB K (q_f57 K) "_law_plain" = true) ∧
  (PySem.W.keepIn K (.ref (q_f57 K)) = true) ∧
  (PySem.W.isFn K (.ref (q_f57 K)) = true) ∧
  (codB K (q_f58 K) "_law_named" = true) ∧
  (PySem.W.keepIn K (.ref (q_f58 K)) = true) ∧
  (PySem.W.isFn K (.ref (q_f58 K)) = true) ∧
  (codB K (q_f59 K) "_law_missing" = true)
instance (K : PySem.W.Frag) : Decidable (P_0 K) := by
  unfold P_0
  infer_instance
def P_1 (K : PySem.W.Frag) : Prop :=
  (PySem.W.keepIn K (.ref (q_f59 K)) = true) ∧
  (PySem.W.isFn K (.ref (q_f59 K)) = true) ∧
  (codB K (q_f60 K) "_law_classes" = true) ∧
  (PySem.W.keepIn K (.ref (q_f60 K)) = true) ∧
  (PySem.W.isFn K (.ref (q_f60 K)) = true) ∧
  (codB K (q_f21 K) "law" = true) ∧
  (PySem.W.keepIn K (.ref (q_f21 K)) = true) ∧
  (PySem.W.isFn K (.ref (q_f21 K)) = true) ∧
  (PySem.W.nsIn K mainGlobals "BadMonoid" = some (some (.ref (q_X1 K)))) ∧
  (PySem.W.nsIn K mainGlobals "BadKind" = some (some (.ref (q_X9 K)))) ∧
  (PySem.W.nsIn K mainGlobals "BadValue" = some (some (.ref (q_X10 K)))) ∧
  (PySem.W.nsIn K mainGlobals "TooMany" = some (some (.ref (q_X11 K)))) ∧
  (PySem.W.nsIn K mainGlobals "BadName" = some (some (.ref (q_X12 K)))) ∧
  (PySem.W.nsIn K mainGlobals "TwiceTold" = some (some (.ref (q_X13 K)))) ∧
  (PySem.W.nsIn K mainGlobals "NoStep" = some (some (.ref (q_X14 K)))) ∧
  (PySem.W.nsIn K mainGlobals "NotClosed" = some (some (.ref (q_X15 K)))) ∧
  (PySem.W.nsIn K mainGlobals "MixedKinds" = some (some (.ref (q_X16 K)))) ∧
  (PySem.W.nsIn K mainGlobals "MixedSystems" = some (some (.ref (q_X17 K)))) ∧
  (PySem.W.nsIn K mainGlobals "BadImages" = some (some (.ref (q_X18 K)))) ∧
  (PySem.W.nsIn K mainGlobals "NotKept" = some (some (.ref (q_X19 K)))) ∧
  (PySem.W.nsIn K mainGlobals "BadSaying" = some (some (.ref (q_X20 K)))) ∧
  (PySem.W.nsIn K mainGlobals "BadBehaviour" = some (some (.ref (q_X21 K)))) ∧
  (PySem.W.nsIn K mainGlobals "BadTurn" = some (some (.ref (q_X22 K)))) ∧
  (PySem.W.nsIn K mainGlobals "OpenState" = some (some (.ref (q_X23 K))))
instance (K : PySem.W.Frag) : Decidable (P_1 K) := by
  unfold P_1
  infer_instance
def P_2 (K : PySem.W.Frag) : Prop :=
  (PySem.W.nsIn K mainGlobals "NothingDone" = some (some (.ref (q_X24 K)))) ∧
  (PySem.W.nsIn K mainGlobals "UnknownMember" = some (some (.ref (q_X3 K)))) ∧
  (PySem.W.nsIn K mainGlobals "UnknownState" = some (some (.ref (q_X25 K)))) ∧
  (PySem.W.nsIn K mainGlobals "NotTold" = some (some (.ref (q_X26 K)))) ∧
  (PySem.W.nsIn K mainGlobals "KindstepsError" = some (some (.ref (q_X0 K)))) ∧
  (PySem.W.nsIn K mainGlobals "NameMissing" = some (some (.ref (q_X2 K)))) ∧
  ((PySem.W.clsIn K (q_X1 K)).isSome = true) ∧
  (PySem.W.findIn K (.ref (q_X1 K)) "__getattribute__" = some (some (.builtin "BaseException.__getattribute__"))) ∧
  (PySem.W.findIn K (.ref (q_X1 K)) "__getattr__" = some none) ∧
  (PySem.W.hasDictIn K (q_X1 K) = true) ∧
  (PySem.W.findIn K (.ref (q_X1 K)) "__class__" = some (some (.builtin "object.__class__"))) ∧
  (PySem.W.mroIn K (q_X1 K) (.type "object") = some true) ∧
  (PySem.W.findIn K (.ref (q_X1 K)) "name" = some none) ∧
  ((PySem.W.clsIn K (q_X9 K)).isSome = true) ∧
  (PySem.W.findIn K (.ref (q_X9 K)) "__getattribute__" = some (some (.builtin "BaseException.__getattribute__"))) ∧
  (PySem.W.findIn K (.ref (q_X9 K)) "__getattr__" = some none) ∧
  (PySem.W.hasDictIn K (q_X9 K) = true) ∧
  (PySem.W.findIn K (.ref (q_X9 K)) "__class__" = some (some (.builtin "object.__class__"))) ∧
  (PySem.W.mroIn K (q_X9 K) (.type "object") = some true) ∧
  (PySem.W.findIn K (.ref (q_X9 K)) "name" = some none) ∧
  ((PySem.W.clsIn K (q_X10 K)).isSome = true) ∧
  (PySem.W.findIn K (.ref (q_X10 K)) "__getattribute__" = some (some (.builtin "BaseException.__getattribute__"))) ∧
  (PySem.W.findIn K (.ref (q_X10 K)) "__getattr__" = some none) ∧
  (PySem.W.hasDictIn K (q_X10 K) = true)
instance (K : PySem.W.Frag) : Decidable (P_2 K) := by
  unfold P_2
  infer_instance
def P_3 (K : PySem.W.Frag) : Prop :=
  (PySem.W.findIn K (.ref (q_X10 K)) "__class__" = some (some (.builtin "object.__class__"))) ∧
  (PySem.W.mroIn K (q_X10 K) (.type "object") = some true) ∧
  (PySem.W.findIn K (.ref (q_X10 K)) "name" = some none) ∧
  ((PySem.W.clsIn K (q_X11 K)).isSome = true) ∧
  (PySem.W.findIn K (.ref (q_X11 K)) "__getattribute__" = some (some (.builtin "BaseException.__getattribute__"))) ∧
  (PySem.W.findIn K (.ref (q_X11 K)) "__getattr__" = some none) ∧
  (PySem.W.hasDictIn K (q_X11 K) = true) ∧
  (PySem.W.findIn K (.ref (q_X11 K)) "__class__" = some (some (.builtin "object.__class__"))) ∧
  (PySem.W.mroIn K (q_X11 K) (.type "object") = some true) ∧
  (PySem.W.findIn K (.ref (q_X11 K)) "name" = some none) ∧
  ((PySem.W.clsIn K (q_X12 K)).isSome = true) ∧
  (PySem.W.findIn K (.ref (q_X12 K)) "__getattribute__" = some (some (.builtin "BaseException.__getattribute__"))) ∧
  (PySem.W.findIn K (.ref (q_X12 K)) "__getattr__" = some none) ∧
  (PySem.W.hasDictIn K (q_X12 K) = true) ∧
  (PySem.W.findIn K (.ref (q_X12 K)) "__class__" = some (some (.builtin "object.__class__"))) ∧
  (PySem.W.mroIn K (q_X12 K) (.type "object") = some true) ∧
  (PySem.W.findIn K (.ref (q_X12 K)) "name" = some none) ∧
  ((PySem.W.clsIn K (q_X13 K)).isSome = true) ∧
  (PySem.W.findIn K (.ref (q_X13 K)) "__getattribute__" = some (some (.builtin "BaseException.__getattribute__"))) ∧
  (PySem.W.findIn K (.ref (q_X13 K)) "__getattr__" = some none) ∧
  (PySem.W.hasDictIn K (q_X13 K) = true) ∧
  (PySem.W.findIn K (.ref (q_X13 K)) "__class__" = some (some (.builtin "object.__class__"))) ∧
  (PySem.W.mroIn K (q_X13 K) (.type "object") = some true) ∧
  (PySem.W.findIn K (.ref (q_X13 K)) "name" = some none)
instance (K : PySem.W.Frag) : Decidable (P_3 K) := by
  unfold P_3
  infer_instance
def P_4 (K : PySem.W.Frag) : Prop :=
  ((PySem.W.clsIn K (q_X14 K)).isSome = true) ∧
  (PySem.W.findIn K (.ref (q_X14 K)) "__getattribute__" = some (some (.builtin "BaseException.__getattribute__"))) ∧
  (PySem.W.findIn K (.ref (q_X14 K)) "__getattr__" = some none) ∧
  (PySem.W.hasDictIn K (q_X14 K) = true) ∧
  (PySem.W.findIn K (.ref (q_X14 K)) "__class__" = some (some (.builtin "object.__class__"))) ∧
  (PySem.W.mroIn K (q_X14 K) (.type "object") = some true) ∧
  (PySem.W.findIn K (.ref (q_X14 K)) "name" = some none) ∧
  ((PySem.W.clsIn K (q_X15 K)).isSome = true) ∧
  (PySem.W.findIn K (.ref (q_X15 K)) "__getattribute__" = some (some (.builtin "BaseException.__getattribute__"))) ∧
  (PySem.W.findIn K (.ref (q_X15 K)) "__getattr__" = some none) ∧
  (PySem.W.hasDictIn K (q_X15 K) = true) ∧
  (PySem.W.findIn K (.ref (q_X15 K)) "__class__" = some (some (.builtin "object.__class__"))) ∧
  (PySem.W.mroIn K (q_X15 K) (.type "object") = some true) ∧
  (PySem.W.findIn K (.ref (q_X15 K)) "name" = some none) ∧
  ((PySem.W.clsIn K (q_X16 K)).isSome = true) ∧
  (PySem.W.findIn K (.ref (q_X16 K)) "__getattribute__" = some (some (.builtin "BaseException.__getattribute__"))) ∧
  (PySem.W.findIn K (.ref (q_X16 K)) "__getattr__" = some none) ∧
  (PySem.W.hasDictIn K (q_X16 K) = true) ∧
  (PySem.W.findIn K (.ref (q_X16 K)) "__class__" = some (some (.builtin "object.__class__"))) ∧
  (PySem.W.mroIn K (q_X16 K) (.type "object") = some true) ∧
  (PySem.W.findIn K (.ref (q_X16 K)) "name" = some none) ∧
  ((PySem.W.clsIn K (q_X17 K)).isSome = true) ∧
  (PySem.W.findIn K (.ref (q_X17 K)) "__getattribute__" = some (some (.builtin "BaseException.__getattribute__"))) ∧
  (PySem.W.findIn K (.ref (q_X17 K)) "__getattr__" = some none)
instance (K : PySem.W.Frag) : Decidable (P_4 K) := by
  unfold P_4
  infer_instance
def P_5 (K : PySem.W.Frag) : Prop :=
  (PySem.W.hasDictIn K (q_X17 K) = true) ∧
  (PySem.W.findIn K (.ref (q_X17 K)) "__class__" = some (some (.builtin "object.__class__"))) ∧
  (PySem.W.mroIn K (q_X17 K) (.type "object") = some true) ∧
  (PySem.W.findIn K (.ref (q_X17 K)) "name" = some none) ∧
  ((PySem.W.clsIn K (q_X18 K)).isSome = true) ∧
  (PySem.W.findIn K (.ref (q_X18 K)) "__getattribute__" = some (some (.builtin "BaseException.__getattribute__"))) ∧
  (PySem.W.findIn K (.ref (q_X18 K)) "__getattr__" = some none) ∧
  (PySem.W.hasDictIn K (q_X18 K) = true) ∧
  (PySem.W.findIn K (.ref (q_X18 K)) "__class__" = some (some (.builtin "object.__class__"))) ∧
  (PySem.W.mroIn K (q_X18 K) (.type "object") = some true) ∧
  (PySem.W.findIn K (.ref (q_X18 K)) "name" = some none) ∧
  ((PySem.W.clsIn K (q_X19 K)).isSome = true) ∧
  (PySem.W.findIn K (.ref (q_X19 K)) "__getattribute__" = some (some (.builtin "BaseException.__getattribute__"))) ∧
  (PySem.W.findIn K (.ref (q_X19 K)) "__getattr__" = some none) ∧
  (PySem.W.hasDictIn K (q_X19 K) = true) ∧
  (PySem.W.findIn K (.ref (q_X19 K)) "__class__" = some (some (.builtin "object.__class__"))) ∧
  (PySem.W.mroIn K (q_X19 K) (.type "object") = some true) ∧
  (PySem.W.findIn K (.ref (q_X19 K)) "name" = some none) ∧
  ((PySem.W.clsIn K (q_X20 K)).isSome = true) ∧
  (PySem.W.findIn K (.ref (q_X20 K)) "__getattribute__" = some (some (.builtin "BaseException.__getattribute__"))) ∧
  (PySem.W.findIn K (.ref (q_X20 K)) "__getattr__" = some none) ∧
  (PySem.W.hasDictIn K (q_X20 K) = true) ∧
  (PySem.W.findIn K (.ref (q_X20 K)) "__class__" = some (some (.builtin "object.__class__"))) ∧
  (PySem.W.mroIn K (q_X20 K) (.type "object") = some true)
instance (K : PySem.W.Frag) : Decidable (P_5 K) := by
  unfold P_5
  infer_instance
def P_6 (K : PySem.W.Frag) : Prop :=
  (PySem.W.findIn K (.ref (q_X20 K)) "name" = some none) ∧
  ((PySem.W.clsIn K (q_X21 K)).isSome = true) ∧
  (PySem.W.findIn K (.ref (q_X21 K)) "__getattribute__" = some (some (.builtin "BaseException.__getattribute__"))) ∧
  (PySem.W.findIn K (.ref (q_X21 K)) "__getattr__" = some none) ∧
  (PySem.W.hasDictIn K (q_X21 K) = true) ∧
  (PySem.W.findIn K (.ref (q_X21 K)) "__class__" = some (some (.builtin "object.__class__"))) ∧
  (PySem.W.mroIn K (q_X21 K) (.type "object") = some true) ∧
  (PySem.W.findIn K (.ref (q_X21 K)) "name" = some none) ∧
  ((PySem.W.clsIn K (q_X22 K)).isSome = true) ∧
  (PySem.W.findIn K (.ref (q_X22 K)) "__getattribute__" = some (some (.builtin "BaseException.__getattribute__"))) ∧
  (PySem.W.findIn K (.ref (q_X22 K)) "__getattr__" = some none) ∧
  (PySem.W.hasDictIn K (q_X22 K) = true) ∧
  (PySem.W.findIn K (.ref (q_X22 K)) "__class__" = some (some (.builtin "object.__class__"))) ∧
  (PySem.W.mroIn K (q_X22 K) (.type "object") = some true) ∧
  (PySem.W.findIn K (.ref (q_X22 K)) "name" = some none) ∧
  ((PySem.W.clsIn K (q_X23 K)).isSome = true) ∧
  (PySem.W.findIn K (.ref (q_X23 K)) "__getattribute__" = some (some (.builtin "BaseException.__getattribute__"))) ∧
  (PySem.W.findIn K (.ref (q_X23 K)) "__getattr__" = some none) ∧
  (PySem.W.hasDictIn K (q_X23 K) = true) ∧
  (PySem.W.findIn K (.ref (q_X23 K)) "__class__" = some (some (.builtin "object.__class__"))) ∧
  (PySem.W.mroIn K (q_X23 K) (.type "object") = some true) ∧
  (PySem.W.findIn K (.ref (q_X23 K)) "name" = some none) ∧
  ((PySem.W.clsIn K (q_X24 K)).isSome = true) ∧
  (PySem.W.findIn K (.ref (q_X24 K)) "__getattribute__" = some (some (.builtin "BaseException.__getattribute__")))
instance (K : PySem.W.Frag) : Decidable (P_6 K) := by
  unfold P_6
  infer_instance
def P_7 (K : PySem.W.Frag) : Prop :=
  (PySem.W.findIn K (.ref (q_X24 K)) "__getattr__" = some none) ∧
  (PySem.W.hasDictIn K (q_X24 K) = true) ∧
  (PySem.W.findIn K (.ref (q_X24 K)) "__class__" = some (some (.builtin "object.__class__"))) ∧
  (PySem.W.mroIn K (q_X24 K) (.type "object") = some true) ∧
  (PySem.W.findIn K (.ref (q_X24 K)) "name" = some none) ∧
  ((PySem.W.clsIn K (q_X3 K)).isSome = true) ∧
  (PySem.W.findIn K (.ref (q_X3 K)) "__getattribute__" = some (some (.builtin "BaseException.__getattribute__"))) ∧
  (PySem.W.findIn K (.ref (q_X3 K)) "__getattr__" = some none) ∧
  (PySem.W.hasDictIn K (q_X3 K) = true) ∧
  (PySem.W.findIn K (.ref (q_X3 K)) "__class__" = some (some (.builtin "object.__class__"))) ∧
  (PySem.W.mroIn K (q_X3 K) (.type "object") = some true) ∧
  (PySem.W.findIn K (.ref (q_X3 K)) "name" = some none) ∧
  ((PySem.W.clsIn K (q_X25 K)).isSome = true) ∧
  (PySem.W.findIn K (.ref (q_X25 K)) "__getattribute__" = some (some (.builtin "BaseException.__getattribute__"))) ∧
  (PySem.W.findIn K (.ref (q_X25 K)) "__getattr__" = some none) ∧
  (PySem.W.hasDictIn K (q_X25 K) = true) ∧
  (PySem.W.findIn K (.ref (q_X25 K)) "__class__" = some (some (.builtin "object.__class__"))) ∧
  (PySem.W.mroIn K (q_X25 K) (.type "object") = some true) ∧
  (PySem.W.findIn K (.ref (q_X25 K)) "name" = some none) ∧
  ((PySem.W.clsIn K (q_X26 K)).isSome = true) ∧
  (PySem.W.findIn K (.ref (q_X26 K)) "__getattribute__" = some (some (.builtin "BaseException.__getattribute__"))) ∧
  (PySem.W.findIn K (.ref (q_X26 K)) "__getattr__" = some none) ∧
  (PySem.W.hasDictIn K (q_X26 K) = true) ∧
  (PySem.W.findIn K (.ref (q_X26 K)) "__class__" = some (some (.builtin "object.__class__")))
instance (K : PySem.W.Frag) : Decidable (P_7 K) := by
  unfold P_7
  infer_instance
def P_8 (K : PySem.W.Frag) : Prop :=
  (PySem.W.mroIn K (q_X26 K) (.type "object") = some true) ∧
  (PySem.W.findIn K (.ref (q_X26 K)) "name" = some none) ∧
  ((PySem.W.clsIn K (q_X0 K)).isSome = true) ∧
  (PySem.W.findIn K (.ref (q_X0 K)) "__getattribute__" = some (some (.builtin "BaseException.__getattribute__"))) ∧
  (PySem.W.findIn K (.ref (q_X0 K)) "__getattr__" = some none) ∧
  (PySem.W.hasDictIn K (q_X0 K) = true) ∧
  (PySem.W.findIn K (.ref (q_X0 K)) "__class__" = some (some (.builtin "object.__class__"))) ∧
  (PySem.W.mroIn K (q_X0 K) (.type "object") = some true) ∧
  (PySem.W.findIn K (.ref (q_X0 K)) "name" = some none) ∧
  ((PySem.W.clsIn K (q_X2 K)).isSome = true) ∧
  (PySem.W.findIn K (.ref (q_X2 K)) "__getattribute__" = some (some (.builtin "BaseException.__getattribute__"))) ∧
  (PySem.W.findIn K (.ref (q_X2 K)) "__getattr__" = some none) ∧
  (PySem.W.hasDictIn K (q_X2 K) = true) ∧
  (PySem.W.findIn K (.ref (q_X2 K)) "__class__" = some (some (.builtin "object.__class__"))) ∧
  (PySem.W.mroIn K (q_X2 K) (.type "object") = some true) ∧
  (PySem.W.findIn K (.ref (q_X2 K)) "name" = some none) ∧
  (PySem.W.subIn K (.ref (q_X0 K)) (.type "BaseException") = some true) ∧
  (PySem.W.subIn K (.ref (q_X2 K)) (.type "BaseException") = some true) ∧
  (excB K [.type "ValueError", .type "Exception", .type "BaseException", .type "object"] (q_X1 K) "ValueError.__new__" = true) ∧
  (PySem.W.findIn K (.ref (q_X1 K)) "__setattr__" = some (some (.builtin "object.__setattr__"))) ∧
  (PySem.W.subIn K (.ref (q_X1 K)) (.type "BaseException") = some true) ∧
  (PySem.W.typeIn K (.ref (q_X1 K)) = some (.type "type")) ∧
  (PySem.W.keepIn K (.ref (q_X1 K)) = true) ∧
  (PySem.W.findIn K (.ref (q_X1 K)) "__init__" = some (some (.ref (q_f1 K))))
instance (K : PySem.W.Frag) : Decidable (P_8 K) := by
  unfold P_8
  infer_instance
def P_9 (K : PySem.W.Frag) : Prop :=
  (PySem.W.typeIn K (.ref (q_f1 K)) = some (.type "function")) ∧
  (PySem.W.mroIn K (q_X1 K) (.ref (q_X1 K)) = some true) ∧
  (PySem.W.ks_superIn K (q_X1 K) (q_X1 K) "__init__" = some (some (.builtin "ValueError.__init__"))) ∧
  (PySem.W.subIn K (.ref (q_X1 K)) (.type "ValueError") = some true) ∧
  (cloB K prg.main.file (q_f1 K) (q_X1 K) "BadMonoid.__init__" = true) ∧
  (PySem.W.keepIn K (.ref (q_f1 K)) = true) ∧
  (excB K [.type "ValueError", .type "Exception", .type "BaseException", .type "object"] (q_X9 K) "ValueError.__new__" = true) ∧
  (PySem.W.findIn K (.ref (q_X9 K)) "__setattr__" = some (some (.builtin "object.__setattr__"))) ∧
  (PySem.W.subIn K (.ref (q_X9 K)) (.type "BaseException") = some true) ∧
  (PySem.W.typeIn K (.ref (q_X9 K)) = some (.type "type")) ∧
  (PySem.W.keepIn K (.ref (q_X9 K)) = true) ∧
  (PySem.W.findIn K (.ref (q_X9 K)) "__init__" = some (some (.ref (q_f38 K)))) ∧
  (PySem.W.typeIn K (.ref (q_f38 K)) = some (.type "function")) ∧
  (PySem.W.mroIn K (q_X9 K) (.ref (q_X9 K)) = some true) ∧
  (PySem.W.ks_superIn K (q_X9 K) (q_X9 K) "__init__" = some (some (.builtin "ValueError.__init__"))) ∧
  (PySem.W.subIn K (.ref (q_X9 K)) (.type "ValueError") = some true) ∧
  (cloB K prg.main.file (q_f38 K) (q_X9 K) "BadKind.__init__" = true) ∧
  (PySem.W.keepIn K (.ref (q_f38 K)) = true) ∧
  (excB K [.type "ValueError", .type "Exception", .type "BaseException", .type "object"] (q_X10 K) "ValueError.__new__" = true) ∧
  (PySem.W.findIn K (.ref (q_X10 K)) "__setattr__" = some (some (.builtin "object.__setattr__"))) ∧
  (PySem.W.subIn K (.ref (q_X10 K)) (.type "BaseException") = some true) ∧
  (PySem.W.typeIn K (.ref (q_X10 K)) = some (.type "type")) ∧
  (PySem.W.keepIn K (.ref (q_X10 K)) = true) ∧
  (PySem.W.findIn K (.ref (q_X10 K)) "__init__" = some (some (.ref (q_f39 K))))
instance (K : PySem.W.Frag) : Decidable (P_9 K) := by
  unfold P_9
  infer_instance
def P_10 (K : PySem.W.Frag) : Prop :=
  (PySem.W.typeIn K (.ref (q_f39 K)) = some (.type "function")) ∧
  (PySem.W.mroIn K (q_X10 K) (.ref (q_X10 K)) = some true) ∧
  (PySem.W.ks_superIn K (q_X10 K) (q_X10 K) "__init__" = some (some (.builtin "ValueError.__init__"))) ∧
  (PySem.W.subIn K (.ref (q_X10 K)) (.type "ValueError") = some true) ∧
  (cloB K prg.main.file (q_f39 K) (q_X10 K) "BadValue.__init__" = true) ∧
  (PySem.W.keepIn K (.ref (q_f39 K)) = true) ∧
  (excB K [.type "ValueError", .type "Exception", .type "BaseException", .type "object"] (q_X11 K) "ValueError.__new__" = true) ∧
  (PySem.W.findIn K (.ref (q_X11 K)) "__setattr__" = some (some (.builtin "object.__setattr__"))) ∧
  (PySem.W.subIn K (.ref (q_X11 K)) (.type "BaseException") = some true) ∧
  (PySem.W.typeIn K (.ref (q_X11 K)) = some (.type "type")) ∧
  (PySem.W.keepIn K (.ref (q_X11 K)) = true) ∧
  (PySem.W.findIn K (.ref (q_X11 K)) "__init__" = some (some (.ref (q_f40 K)))) ∧
  (PySem.W.typeIn K (.ref (q_f40 K)) = some (.type "function")) ∧
  (PySem.W.mroIn K (q_X11 K) (.ref (q_X11 K)) = some true) ∧
  (PySem.W.ks_superIn K (q_X11 K) (q_X11 K) "__init__" = some (some (.builtin "ValueError.__init__"))) ∧
  (PySem.W.subIn K (.ref (q_X11 K)) (.type "ValueError") = some true) ∧
  (cloB K prg.main.file (q_f40 K) (q_X11 K) "TooMany.__init__" = true) ∧
  (PySem.W.keepIn K (.ref (q_f40 K)) = true) ∧
  (excB K [.type "ValueError", .type "Exception", .type "BaseException", .type "object"] (q_X12 K) "ValueError.__new__" = true) ∧
  (PySem.W.findIn K (.ref (q_X12 K)) "__setattr__" = some (some (.builtin "object.__setattr__"))) ∧
  (PySem.W.subIn K (.ref (q_X12 K)) (.type "BaseException") = some true) ∧
  (PySem.W.typeIn K (.ref (q_X12 K)) = some (.type "type")) ∧
  (PySem.W.keepIn K (.ref (q_X12 K)) = true) ∧
  (PySem.W.findIn K (.ref (q_X12 K)) "__init__" = some (some (.ref (q_f41 K))))
instance (K : PySem.W.Frag) : Decidable (P_10 K) := by
  unfold P_10
  infer_instance
def P_11 (K : PySem.W.Frag) : Prop :=
  (PySem.W.typeIn K (.ref (q_f41 K)) = some (.type "function")) ∧
  (PySem.W.mroIn K (q_X12 K) (.ref (q_X12 K)) = some true) ∧
  (PySem.W.ks_superIn K (q_X12 K) (q_X12 K) "__init__" = some (some (.builtin "ValueError.__init__"))) ∧
  (PySem.W.subIn K (.ref (q_X12 K)) (.type "ValueError") = some true) ∧
  (cloB K prg.main.file (q_f41 K) (q_X12 K) "BadName.__init__" = true) ∧
  (PySem.W.keepIn K (.ref (q_f41 K)) = true) ∧
  (excB K [.type "ValueError", .type "Exception", .type "BaseException", .type "object"] (q_X13 K) "ValueError.__new__" = true) ∧
  (PySem.W.findIn K (.ref (q_X13 K)) "__setattr__" = some (some (.builtin "object.__setattr__"))) ∧
  (PySem.W.subIn K (.ref (q_X13 K)) (.type "BaseException") = some true) ∧
  (PySem.W.typeIn K (.ref (q_X13 K)) = some (.type "type")) ∧
  (PySem.W.keepIn K (.ref (q_X13 K)) = true) ∧
  (PySem.W.findIn K (.ref (q_X13 K)) "__init__" = some (some (.ref (q_f42 K)))) ∧
  (PySem.W.typeIn K (.ref (q_f42 K)) = some (.type "function")) ∧
  (PySem.W.mroIn K (q_X13 K) (.ref (q_X13 K)) = some true) ∧
  (PySem.W.ks_superIn K (q_X13 K) (q_X13 K) "__init__" = some (some (.builtin "ValueError.__init__"))) ∧
  (PySem.W.subIn K (.ref (q_X13 K)) (.type "ValueError") = some true) ∧
  (cloB K prg.main.file (q_f42 K) (q_X13 K) "TwiceTold.__init__" = true) ∧
  (PySem.W.keepIn K (.ref (q_f42 K)) = true) ∧
  (excB K [.type "ValueError", .type "Exception", .type "BaseException", .type "object"] (q_X14 K) "ValueError.__new__" = true) ∧
  (PySem.W.findIn K (.ref (q_X14 K)) "__setattr__" = some (some (.builtin "object.__setattr__"))) ∧
  (PySem.W.subIn K (.ref (q_X14 K)) (.type "BaseException") = some true) ∧
  (PySem.W.typeIn K (.ref (q_X14 K)) = some (.type "type")) ∧
  (PySem.W.keepIn K (.ref (q_X14 K)) = true) ∧
  (PySem.W.findIn K (.ref (q_X14 K)) "__init__" = some (some (.ref (q_f43 K))))
instance (K : PySem.W.Frag) : Decidable (P_11 K) := by
  unfold P_11
  infer_instance
def P_12 (K : PySem.W.Frag) : Prop :=
  (PySem.W.typeIn K (.ref (q_f43 K)) = some (.type "function")) ∧
  (PySem.W.mroIn K (q_X14 K) (.ref (q_X14 K)) = some true) ∧
  (PySem.W.ks_superIn K (q_X14 K) (q_X14 K) "__init__" = some (some (.builtin "ValueError.__init__"))) ∧
  (PySem.W.subIn K (.ref (q_X14 K)) (.type "ValueError") = some true) ∧
  (cloB K prg.main.file (q_f43 K) (q_X14 K) "NoStep.__init__" = true) ∧
  (PySem.W.keepIn K (.ref (q_f43 K)) = true) ∧
  (excB K [.type "ValueError", .type "Exception", .type "BaseException", .type "object"] (q_X15 K) "ValueError.__new__" = true) ∧
  (PySem.W.findIn K (.ref (q_X15 K)) "__setattr__" = some (some (.builtin "object.__setattr__"))) ∧
  (PySem.W.subIn K (.ref (q_X15 K)) (.type "BaseException") = some true) ∧
  (PySem.W.typeIn K (.ref (q_X15 K)) = some (.type "type")) ∧
  (PySem.W.keepIn K (.ref (q_X15 K)) = true) ∧
  (PySem.W.findIn K (.ref (q_X15 K)) "__init__" = some (some (.ref (q_f44 K)))) ∧
  (PySem.W.typeIn K (.ref (q_f44 K)) = some (.type "function")) ∧
  (PySem.W.mroIn K (q_X15 K) (.ref (q_X15 K)) = some true) ∧
  (PySem.W.ks_superIn K (q_X15 K) (q_X15 K) "__init__" = some (some (.builtin "ValueError.__init__"))) ∧
  (PySem.W.subIn K (.ref (q_X15 K)) (.type "ValueError") = some true) ∧
  (cloB K prg.main.file (q_f44 K) (q_X15 K) "NotClosed.__init__" = true) ∧
  (PySem.W.keepIn K (.ref (q_f44 K)) = true) ∧
  (excB K [.type "ValueError", .type "Exception", .type "BaseException", .type "object"] (q_X16 K) "ValueError.__new__" = true) ∧
  (PySem.W.findIn K (.ref (q_X16 K)) "__setattr__" = some (some (.builtin "object.__setattr__"))) ∧
  (PySem.W.subIn K (.ref (q_X16 K)) (.type "BaseException") = some true) ∧
  (PySem.W.typeIn K (.ref (q_X16 K)) = some (.type "type")) ∧
  (PySem.W.keepIn K (.ref (q_X16 K)) = true) ∧
  (PySem.W.findIn K (.ref (q_X16 K)) "__init__" = some (some (.ref (q_f45 K))))
instance (K : PySem.W.Frag) : Decidable (P_12 K) := by
  unfold P_12
  infer_instance
def P_13 (K : PySem.W.Frag) : Prop :=
  (PySem.W.typeIn K (.ref (q_f45 K)) = some (.type "function")) ∧
  (PySem.W.mroIn K (q_X16 K) (.ref (q_X16 K)) = some true) ∧
  (PySem.W.ks_superIn K (q_X16 K) (q_X16 K) "__init__" = some (some (.builtin "ValueError.__init__"))) ∧
  (PySem.W.subIn K (.ref (q_X16 K)) (.type "ValueError") = some true) ∧
  (cloB K prg.main.file (q_f45 K) (q_X16 K) "MixedKinds.__init__" = true) ∧
  (PySem.W.keepIn K (.ref (q_f45 K)) = true) ∧
  (excB K [.type "ValueError", .type "Exception", .type "BaseException", .type "object"] (q_X17 K) "ValueError.__new__" = true) ∧
  (PySem.W.findIn K (.ref (q_X17 K)) "__setattr__" = some (some (.builtin "object.__setattr__"))) ∧
  (PySem.W.subIn K (.ref (q_X17 K)) (.type "BaseException") = some true) ∧
  (PySem.W.typeIn K (.ref (q_X17 K)) = some (.type "type")) ∧
  (PySem.W.keepIn K (.ref (q_X17 K)) = true) ∧
  (PySem.W.findIn K (.ref (q_X17 K)) "__init__" = some (some (.ref (q_f46 K)))) ∧
  (PySem.W.typeIn K (.ref (q_f46 K)) = some (.type "function")) ∧
  (PySem.W.mroIn K (q_X17 K) (.ref (q_X17 K)) = some true) ∧
  (PySem.W.ks_superIn K (q_X17 K) (q_X17 K) "__init__" = some (some (.builtin "ValueError.__init__"))) ∧
  (PySem.W.subIn K (.ref (q_X17 K)) (.type "ValueError") = some true) ∧
  (cloB K prg.main.file (q_f46 K) (q_X17 K) "MixedSystems.__init__" = true) ∧
  (PySem.W.keepIn K (.ref (q_f46 K)) = true) ∧
  (excB K [.type "ValueError", .type "Exception", .type "BaseException", .type "object"] (q_X18 K) "ValueError.__new__" = true) ∧
  (PySem.W.findIn K (.ref (q_X18 K)) "__setattr__" = some (some (.builtin "object.__setattr__"))) ∧
  (PySem.W.subIn K (.ref (q_X18 K)) (.type "BaseException") = some true) ∧
  (PySem.W.typeIn K (.ref (q_X18 K)) = some (.type "type")) ∧
  (PySem.W.keepIn K (.ref (q_X18 K)) = true) ∧
  (PySem.W.findIn K (.ref (q_X18 K)) "__init__" = some (some (.ref (q_f47 K))))
instance (K : PySem.W.Frag) : Decidable (P_13 K) := by
  unfold P_13
  infer_instance
def P_14 (K : PySem.W.Frag) : Prop :=
  (PySem.W.typeIn K (.ref (q_f47 K)) = some (.type "function")) ∧
  (PySem.W.mroIn K (q_X18 K) (.ref (q_X18 K)) = some true) ∧
  (PySem.W.ks_superIn K (q_X18 K) (q_X18 K) "__init__" = some (some (.builtin "ValueError.__init__"))) ∧
  (PySem.W.subIn K (.ref (q_X18 K)) (.type "ValueError") = some true) ∧
  (cloB K prg.main.file (q_f47 K) (q_X18 K) "BadImages.__init__" = true) ∧
  (PySem.W.keepIn K (.ref (q_f47 K)) = true) ∧
  (excB K [.type "ValueError", .type "Exception", .type "BaseException", .type "object"] (q_X19 K) "ValueError.__new__" = true) ∧
  (PySem.W.findIn K (.ref (q_X19 K)) "__setattr__" = some (some (.builtin "object.__setattr__"))) ∧
  (PySem.W.subIn K (.ref (q_X19 K)) (.type "BaseException") = some true) ∧
  (PySem.W.typeIn K (.ref (q_X19 K)) = some (.type "type")) ∧
  (PySem.W.keepIn K (.ref (q_X19 K)) = true) ∧
  (PySem.W.findIn K (.ref (q_X19 K)) "__init__" = some (some (.ref (q_f48 K)))) ∧
  (PySem.W.typeIn K (.ref (q_f48 K)) = some (.type "function")) ∧
  (PySem.W.mroIn K (q_X19 K) (.ref (q_X19 K)) = some true) ∧
  (PySem.W.ks_superIn K (q_X19 K) (q_X19 K) "__init__" = some (some (.builtin "ValueError.__init__"))) ∧
  (PySem.W.subIn K (.ref (q_X19 K)) (.type "ValueError") = some true) ∧
  (cloB K prg.main.file (q_f48 K) (q_X19 K) "NotKept.__init__" = true) ∧
  (PySem.W.keepIn K (.ref (q_f48 K)) = true) ∧
  (excB K [.type "ValueError", .type "Exception", .type "BaseException", .type "object"] (q_X20 K) "ValueError.__new__" = true) ∧
  (PySem.W.findIn K (.ref (q_X20 K)) "__setattr__" = some (some (.builtin "object.__setattr__"))) ∧
  (PySem.W.subIn K (.ref (q_X20 K)) (.type "BaseException") = some true) ∧
  (PySem.W.typeIn K (.ref (q_X20 K)) = some (.type "type")) ∧
  (PySem.W.keepIn K (.ref (q_X20 K)) = true) ∧
  (PySem.W.findIn K (.ref (q_X20 K)) "__init__" = some (some (.ref (q_f49 K))))
instance (K : PySem.W.Frag) : Decidable (P_14 K) := by
  unfold P_14
  infer_instance
def P_15 (K : PySem.W.Frag) : Prop :=
  (PySem.W.typeIn K (.ref (q_f49 K)) = some (.type "function")) ∧
  (PySem.W.mroIn K (q_X20 K) (.ref (q_X20 K)) = some true) ∧
  (PySem.W.ks_superIn K (q_X20 K) (q_X20 K) "__init__" = some (some (.builtin "ValueError.__init__"))) ∧
  (PySem.W.subIn K (.ref (q_X20 K)) (.type "ValueError") = some true) ∧
  (cloB K prg.main.file (q_f49 K) (q_X20 K) "BadSaying.__init__" = true) ∧
  (PySem.W.keepIn K (.ref (q_f49 K)) = true) ∧
  (excB K [.type "ValueError", .type "Exception", .type "BaseException", .type "object"] (q_X21 K) "ValueError.__new__" = true) ∧
  (PySem.W.findIn K (.ref (q_X21 K)) "__setattr__" = some (some (.builtin "object.__setattr__"))) ∧
  (PySem.W.subIn K (.ref (q_X21 K)) (.type "BaseException") = some true) ∧
  (PySem.W.typeIn K (.ref (q_X21 K)) = some (.type "type")) ∧
  (PySem.W.keepIn K (.ref (q_X21 K)) = true) ∧
  (PySem.W.findIn K (.ref (q_X21 K)) "__init__" = some (some (.ref (q_f50 K)))) ∧
  (PySem.W.typeIn K (.ref (q_f50 K)) = some (.type "function")) ∧
  (PySem.W.mroIn K (q_X21 K) (.ref (q_X21 K)) = some true) ∧
  (PySem.W.ks_superIn K (q_X21 K) (q_X21 K) "__init__" = some (some (.builtin "ValueError.__init__"))) ∧
  (PySem.W.subIn K (.ref (q_X21 K)) (.type "ValueError") = some true) ∧
  (cloB K prg.main.file (q_f50 K) (q_X21 K) "BadBehaviour.__init__" = true) ∧
  (PySem.W.keepIn K (.ref (q_f50 K)) = true) ∧
  (excB K [.type "ValueError", .type "Exception", .type "BaseException", .type "object"] (q_X22 K) "ValueError.__new__" = true) ∧
  (PySem.W.findIn K (.ref (q_X22 K)) "__setattr__" = some (some (.builtin "object.__setattr__"))) ∧
  (PySem.W.subIn K (.ref (q_X22 K)) (.type "BaseException") = some true) ∧
  (PySem.W.typeIn K (.ref (q_X22 K)) = some (.type "type")) ∧
  (PySem.W.keepIn K (.ref (q_X22 K)) = true) ∧
  (PySem.W.findIn K (.ref (q_X22 K)) "__init__" = some (some (.ref (q_f51 K))))
instance (K : PySem.W.Frag) : Decidable (P_15 K) := by
  unfold P_15
  infer_instance
def P_16 (K : PySem.W.Frag) : Prop :=
  (PySem.W.typeIn K (.ref (q_f51 K)) = some (.type "function")) ∧
  (PySem.W.mroIn K (q_X22 K) (.ref (q_X22 K)) = some true) ∧
  (PySem.W.ks_superIn K (q_X22 K) (q_X22 K) "__init__" = some (some (.builtin "ValueError.__init__"))) ∧
  (PySem.W.subIn K (.ref (q_X22 K)) (.type "ValueError") = some true) ∧
  (cloB K prg.main.file (q_f51 K) (q_X22 K) "BadTurn.__init__" = true) ∧
  (PySem.W.keepIn K (.ref (q_f51 K)) = true) ∧
  (excB K [.type "ValueError", .type "Exception", .type "BaseException", .type "object"] (q_X23 K) "ValueError.__new__" = true) ∧
  (PySem.W.findIn K (.ref (q_X23 K)) "__setattr__" = some (some (.builtin "object.__setattr__"))) ∧
  (PySem.W.subIn K (.ref (q_X23 K)) (.type "BaseException") = some true) ∧
  (PySem.W.typeIn K (.ref (q_X23 K)) = some (.type "type")) ∧
  (PySem.W.keepIn K (.ref (q_X23 K)) = true) ∧
  (PySem.W.findIn K (.ref (q_X23 K)) "__init__" = some (some (.ref (q_f52 K)))) ∧
  (PySem.W.typeIn K (.ref (q_f52 K)) = some (.type "function")) ∧
  (PySem.W.mroIn K (q_X23 K) (.ref (q_X23 K)) = some true) ∧
  (PySem.W.ks_superIn K (q_X23 K) (q_X23 K) "__init__" = some (some (.builtin "ValueError.__init__"))) ∧
  (PySem.W.subIn K (.ref (q_X23 K)) (.type "ValueError") = some true) ∧
  (cloB K prg.main.file (q_f52 K) (q_X23 K) "OpenState.__init__" = true) ∧
  (PySem.W.keepIn K (.ref (q_f52 K)) = true) ∧
  (excB K [.type "ValueError", .type "Exception", .type "BaseException", .type "object"] (q_X24 K) "ValueError.__new__" = true) ∧
  (PySem.W.findIn K (.ref (q_X24 K)) "__setattr__" = some (some (.builtin "object.__setattr__"))) ∧
  (PySem.W.subIn K (.ref (q_X24 K)) (.type "BaseException") = some true) ∧
  (PySem.W.typeIn K (.ref (q_X24 K)) = some (.type "type")) ∧
  (PySem.W.keepIn K (.ref (q_X24 K)) = true) ∧
  (PySem.W.findIn K (.ref (q_X24 K)) "__init__" = some (some (.ref (q_f53 K))))
instance (K : PySem.W.Frag) : Decidable (P_16 K) := by
  unfold P_16
  infer_instance
def P_17 (K : PySem.W.Frag) : Prop :=
  (PySem.W.typeIn K (.ref (q_f53 K)) = some (.type "function")) ∧
  (PySem.W.mroIn K (q_X24 K) (.ref (q_X24 K)) = some true) ∧
  (PySem.W.ks_superIn K (q_X24 K) (q_X24 K) "__init__" = some (some (.builtin "ValueError.__init__"))) ∧
  (PySem.W.subIn K (.ref (q_X24 K)) (.type "ValueError") = some true) ∧
  (cloB K prg.main.file (q_f53 K) (q_X24 K) "NothingDone.__init__" = true) ∧
  (PySem.W.keepIn K (.ref (q_f53 K)) = true) ∧
  (excB K [.type "LookupError", .type "Exception", .type "BaseException", .type "object"] (q_X3 K) "LookupError.__new__" = true) ∧
  (PySem.W.findIn K (.ref (q_X3 K)) "__setattr__" = some (some (.builtin "object.__setattr__"))) ∧
  (PySem.W.subIn K (.ref (q_X3 K)) (.type "BaseException") = some true) ∧
  (PySem.W.typeIn K (.ref (q_X3 K)) = some (.type "type")) ∧
  (PySem.W.keepIn K (.ref (q_X3 K)) = true) ∧
  (PySem.W.findIn K (.ref (q_X3 K)) "__init__" = some (some (.ref (q_f2 K)))) ∧
  (PySem.W.typeIn K (.ref (q_f2 K)) = some (.type "function")) ∧
  (PySem.W.mroIn K (q_X3 K) (.ref (q_X3 K)) = some true) ∧
  (PySem.W.ks_superIn K (q_X3 K) (q_X3 K) "__init__" = some (some (.builtin "LookupError.__init__"))) ∧
  (PySem.W.subIn K (.ref (q_X3 K)) (.type "LookupError") = some true) ∧
  (cloB K prg.main.file (q_f2 K) (q_X3 K) "UnknownMember.__init__" = true) ∧
  (PySem.W.keepIn K (.ref (q_f2 K)) = true) ∧
  (excB K [.type "LookupError", .type "Exception", .type "BaseException", .type "object"] (q_X25 K) "LookupError.__new__" = true) ∧
  (PySem.W.findIn K (.ref (q_X25 K)) "__setattr__" = some (some (.builtin "object.__setattr__"))) ∧
  (PySem.W.subIn K (.ref (q_X25 K)) (.type "BaseException") = some true) ∧
  (PySem.W.typeIn K (.ref (q_X25 K)) = some (.type "type")) ∧
  (PySem.W.keepIn K (.ref (q_X25 K)) = true) ∧
  (PySem.W.findIn K (.ref (q_X25 K)) "__init__" = some (some (.ref (q_f54 K))))
instance (K : PySem.W.Frag) : Decidable (P_17 K) := by
  unfold P_17
  infer_instance
def P_18 (K : PySem.W.Frag) : Prop :=
  (PySem.W.typeIn K (.ref (q_f54 K)) = some (.type "function")) ∧
  (PySem.W.mroIn K (q_X25 K) (.ref (q_X25 K)) = some true) ∧
  (PySem.W.ks_superIn K (q_X25 K) (q_X25 K) "__init__" = some (some (.builtin "LookupError.__init__"))) ∧
  (PySem.W.subIn K (.ref (q_X25 K)) (.type "LookupError") = some true) ∧
  (cloB K prg.main.file (q_f54 K) (q_X25 K) "UnknownState.__init__" = true) ∧
  (PySem.W.keepIn K (.ref (q_f54 K)) = true) ∧
  (excB K [.type "LookupError", .type "Exception", .type "BaseException", .type "object"] (q_X26 K) "LookupError.__new__" = true) ∧
  (PySem.W.findIn K (.ref (q_X26 K)) "__setattr__" = some (some (.builtin "object.__setattr__"))) ∧
  (PySem.W.subIn K (.ref (q_X26 K)) (.type "BaseException") = some true) ∧
  (PySem.W.typeIn K (.ref (q_X26 K)) = some (.type "type")) ∧
  (PySem.W.keepIn K (.ref (q_X26 K)) = true) ∧
  (PySem.W.findIn K (.ref (q_X26 K)) "__init__" = some (some (.ref (q_f55 K)))) ∧
  (PySem.W.typeIn K (.ref (q_f55 K)) = some (.type "function")) ∧
  (PySem.W.mroIn K (q_X26 K) (.ref (q_X26 K)) = some true) ∧
  (PySem.W.ks_superIn K (q_X26 K) (q_X26 K) "__init__" = some (some (.builtin "LookupError.__init__"))) ∧
  (PySem.W.subIn K (.ref (q_X26 K)) (.type "LookupError") = some true) ∧
  (cloB K prg.main.file (q_f55 K) (q_X26 K) "NotTold.__init__" = true) ∧
  (PySem.W.keepIn K (.ref (q_f55 K)) = true) ∧
  (∀ d ∈ spXn, ∀ t ∈ tyB, PySem.W.kitOne K (tyVal (fun _ => 0) (fun c => xA0 (q_X1 K) (q_X9 K) (q_X10 K) (q_X11 K) (q_X12 K) (q_X13 K) (q_X14 K) (q_X15 K) (q_X16 K) (q_X17 K) (q_X18 K) (q_X19 K) (q_X20 K) (q_X21 K) (q_X22 K) (q_X23 K) (q_X24 K) (q_X3 K) (q_X25 K) (q_X26 K) (q_X0 K) (q_X2 K) (nrX c)) t) (spVal (fun _ => 0) (fun c => xA0 (q_X1 K) (q_X9 K) (q_X10 K) (q_X11 K) (q_X12 K) (q_X13 K) (q_X14 K) (q_X15 K) (q_X16 K) (q_X17 K) (q_X18 K) (q_X19 K) (q_X20 K) (q_X21 K) (q_X22 K) (q_X23 K) (q_X24 K) (q_X3 K) (q_X25 K) (q_X26 K) (q_X0 K) (q_X2 K) (nrX c)) (.xc d)) = some (tyIs isaT t (.xc d))) ∧
  (∀ d ∈ spXn, ∀ c ∈ xnL, PySem.W.kitOne K (tyVal (fun _ => 0) (fun c => xA0 (q_X1 K) (q_X9 K) (q_X10 K) (q_X11 K) (q_X12 K) (q_X13 K) (q_X14 K) (q_X15 K) (q_X16 K) (q_X17 K) (q_X18 K) (q_X19 K) (q_X20 K) (q_X21 K) (q_X22 K) (q_X23 K) (q_X24 K) (q_X3 K) (q_X25 K) (q_X26 K) (q_X0 K) (q_X2 K) (nrX c)) (.xo c)) (spVal (fun _ => 0) (fun c => xA0 (q_X1 K) (q_X9 K) (q_X10 K) (q_X11 K) (q_X12 K) (q_X13 K) (q_X14 K) (q_X15 K) (q_X16 K) (q_X17 K) (q_X18 K) (q_X19 K) (q_X20 K) (q_X21 K) (q_X22 K) (q_X23 K) (q_X24 K) (q_X3 K) (q_X25 K) (q_X26 K) (q_X0 K) (q_X2 K) (nrX c)) (.xc d)) = some (tyIs isaT (.xo c) (.xc d))) ∧
  (PySem.W.specialIn K (.builtin "object.__class__") "__get__" = some (some (.builtin "getset_descriptor.__get__"))) ∧
  (PySem.W.takesIn K (.builtin "object.__class__") = some true) ∧
  (PySem.W.nsIn K PySem.cStatics "thirdparty.any" = some none) ∧
  (PySem.W.nsIn K mainGlobals "len" = some none)
instance (K : PySem.W.Frag) : Decidable (P_18 K) := by
  unfold P_18
  infer_instance
def P_19 (K : PySem.W.Frag) : Prop :=
  (PySem.W.nsIn K mainGlobals "abs" = some none) ∧
  (PySem.W.nsIn K mainGlobals "int" = some none) ∧
  (PySem.W.nsIn K mainGlobals "str" = some none) ∧
  (PySem.W.nsIn K mainGlobals "range" = some none) ∧
  (PySem.W.nsIn K mainGlobals "isinstance" = some none) ∧
  (PySem.W.nsIn K mainGlobals "ValueError" = some none) ∧
  (PySem.W.nsIn K mainGlobals "LookupError" = some none) ∧
  (PySem.W.nsIn K mainGlobals "KeyError" = some none) ∧
  (PySem.W.nsIn K mainGlobals "IndexError" = some none) ∧
  (PySem.W.nsIn K mainGlobals "super" = some none)
instance (K : PySem.W.Frag) : Decidable (P_19 K) := by
  unfold P_19
  infer_instance
def fbB (K : PySem.W.Frag) : Bool := decide (P_0 K) && (decide (P_1 K) && (decide (P_2 K) && (decide (P_3 K) && (decide (P_4 K) && (decide (P_5 K) && (decide (P_6 K) && (decide (P_7 K) && (decide (P_8 K) && (decide (P_9 K) && (decide (P_10 K) && (decide (P_11 K) && (decide (P_12 K) && (decide (P_13 K) && (decide (P_14 K) && (decide (P_15 K) && (decide (P_16 K) && (decide (P_17 K) && (decide (P_18 K) && (decide (P_19 K))))))))))))))))))))
def foK (K : PySem.W.Frag) : List FnH :=
  fnOb K (q_f14 K) ::
  fnOb K (q_f15 K) ::
  fnOb K (q_f56 K) ::
  fnOb K (q_f57 K) ::
  fnOb K (q_f58 K) ::
  fnOb K (q_f59 K) ::
  fnOb K (q_f60 K) ::
  fnOb K (q_f21 K) ::
  fnOb K (q_f1 K) ::
  fnOb K (q_f38 K) ::
  fnOb K (q_f39 K) ::
  fnOb K (q_f40 K) ::
  fnOb K (q_f41 K) ::
  fnOb K (q_f42 K) ::
  fnOb K (q_f43 K) ::
  fnOb K (q_f44 K) ::
  fnOb K (q_f45 K) ::
  fnOb K (q_f46 K) ::
  fnOb K (q_f47 K) ::
  fnOb K (q_f48 K) ::
  fnOb K (q_f49 K) ::
  fnOb K (q_f50 K) ::
  fnOb K (q_f51 K) ::
  fnOb K (q_f52 K) ::
  fnOb K (q_f53 K) ::
  fnOb K (q_f2 K) ::
  fnOb K (q_f54 K) ::
  fnOb K (q_f55 K) :: []
def fvK : List FnH :=
  fnVa "_law_source" "_law_source" s14 [] ::
  fnVa "_law_pick" "_law_pick" s15 [] ::
  fnVa "_law_word" "_law_word" s56 [] ::
  fnVa "_law_plain" "_law_plain" s57 [] ::
  fnVa "_law_named" "_law_named" s58 [] ::
  fnVa "_law_missing" "_law_missing" s59 [] ::
  fnVa "_law_classes" "_law_classes" s60 [] ::
  fnVa "law" "law" s21 [] ::
  fnVa "__init__" "BadMonoid.__init__" s1 ["__class__"] ::
  fnVa "__init__" "BadKind.__init__" s38 ["__class__"] ::
  fnVa "__init__" "BadValue.__init__" s39 ["__class__"] ::
  fnVa "__init__" "TooMany.__init__" s40 ["__class__"] ::
  fnVa "__init__" "BadName.__init__" s41 ["__class__"] ::
  fnVa "__init__" "TwiceTold.__init__" s42 ["__class__"] ::
  fnVa "__init__" "NoStep.__init__" s43 ["__class__"] ::
  fnVa "__init__" "NotClosed.__init__" s44 ["__class__"] ::
  fnVa "__init__" "MixedKinds.__init__" s45 ["__class__"] ::
  fnVa "__init__" "MixedSystems.__init__" s46 ["__class__"] ::
  fnVa "__init__" "BadImages.__init__" s47 ["__class__"] ::
  fnVa "__init__" "NotKept.__init__" s48 ["__class__"] ::
  fnVa "__init__" "BadSaying.__init__" s49 ["__class__"] ::
  fnVa "__init__" "BadBehaviour.__init__" s50 ["__class__"] ::
  fnVa "__init__" "BadTurn.__init__" s51 ["__class__"] ::
  fnVa "__init__" "OpenState.__init__" s52 ["__class__"] ::
  fnVa "__init__" "NothingDone.__init__" s53 ["__class__"] ::
  fnVa "__init__" "UnknownMember.__init__" s2 ["__class__"] ::
  fnVa "__init__" "UnknownState.__init__" s54 ["__class__"] ::
  fnVa "__init__" "NotTold.__init__" s55 ["__class__"] :: []
def gnH0 : List Str := ["_law_source", "_law_pick", "_law_word", "_law_plain", "_law_named", "_law_missing", "_law_classes", "law", "BadMonoid", "BadKind", "BadValue", "TooMany", "BadName", "TwiceTold", "NoStep", "NotClosed", "MixedKinds", "MixedSystems", "BadImages", "NotKept", "BadSaying", "BadBehaviour", "BadTurn", "OpenState"]
def gnH1 : List Str := ["NothingDone", "UnknownMember", "UnknownState", "NotTold", "KindstepsError", "NameMissing"]
def gnH : List Str := gnH0 ++ (gnH1)
def nmH0 : List Str := ["KindstepsError", "BadMonoid", "BadKind", "BadValue", "TooMany", "BadName", "TwiceTold", "NoStep", "NotClosed", "MixedKinds", "MixedSystems", "BadImages", "NotKept", "BadSaying", "BadBehaviour", "BadTurn", "OpenState", "NothingDone", "NameMissing", "UnknownMember", "UnknownState", "NotTold", "_law_source", "_law_pick"]
def nmH1 : List Str := ["_law_word", "_law_plain", "_law_named", "_law_missing", "_law_classes"]
def nmH : List Str := nmH0 ++ (nmH1)
abbrev hkF : PySem.W.Hook := hkH gnH fbB foK fvK
def obF (s : PySem.W.SharedT) : AlH := obH gnH fbB foK (HandSHeadRun.getT s)
theorem runH (w : World) : HandSHeadRun.RunEq (PySem.W.OpenLaw.row PySem.Challenge.rw_kindsteps_k91_errors) (PySem.W.view (PySem.W.OpenLaw.row PySem.Challenge.rw_kindsteps_k91_errors).prog [31]) hkF obF 20000 nmH w := by
  intro os
  kernel_rfl
end MS

set_option Elab.async false
set_option linter.all false
set_option maxRecDepth 100000
namespace MS
open PySem
theorem o_idxd {kvs : List (T × T)} {k x : T} {h : List Ob} (hk : ∀ h, keyV (.t k) h = .ok k h) (e : dget (kvs.map fun p => (p.1, Val.t p.2)) k = some (.t x)) : opM .idxd [.t (.dct kvs), .t k] h = .ok (.t x) h := by
  show MH.bind (keyV (.t k)) (fun k => MH.bind (dctV (.t (.dct kvs))) fun kvs => match dget kvs k with | some v => fun h => RH.ok (nrm v h) h | none => bad) h = _
  rw [b_ok (hk h), b_ok (show dctV (.t (.dct kvs)) h = .ok (kvs.map fun p => (p.1, Val.t p.2)) h from rfl), e]
  rfl
theorem pt_innd {C : Cl} {loc : Loc} {neg : Bool} {a b : E} {kvs : List (T × T)} {k : T} {r : Bool} (ha : PV C loc a k) (hb : PV C loc b (.dct kvs)) (hk : ∀ h, keyV (.t k) h = .ok k h) (e : (dget (kvs.map fun p => (p.1, Val.t p.2)) k).isSome = r) : PT C loc (.inn neg a b) (r ^^ neg) := fun h => by
  show MH.bind (evE C a loc) (fun v => MH.bind (evE C b loc) fun w => MH.bind (innM C neg v w) blV) h = _
  rw [b_ok (ha h), b_ok (hb h)]
  have q : innM C neg (.t k) (.t (.dct kvs)) h = .ok (.t (.bl (r ^^ neg))) h := by
    show MH.bind (keyV (.t k)) (fun k => MH.bind (dctV (.t (.dct kvs))) fun kvs => bl ((dget kvs k).isSome ^^ neg)) h = _
    rw [b_ok (hk h), b_ok (show dctV (.t (.dct kvs)) h = .ok (kvs.map fun p => (p.1, Val.t p.2)) h from rfl), e]
    rfl
  rw [b_ok q]
  rfl
theorem rng_get {A : Type} {n k : Nat} (f : Nat → A) (h : k < n) : ((List.range n).map f)[k]? = some (f k) := by
  rw [List.getElem?_map, List.getElem?_range h]
  rfl
section
variable {C : Cl} {l m t i : Int} {cs : List Int} {h : List Ob}
@[simp] theorem g_cells : opM .idxd [.ref 0, .t (.str "cells")] (srcO l m t :: intsO cs :: h) = .ok (.ref 1) (srcO l m t :: intsO cs :: h) := id rfl
@[simp] theorem g_left : opM .idxd [.ref 0, .t (.str "left")] (srcO l m t :: h) = .ok (.t (.int l)) (srcO l m t :: h) := id rfl
@[simp] theorem g_mixed : opM .idxd [.ref 0, .t (.str "mixed")] (srcO l m t :: h) = .ok (.t (.int m)) (srcO l m t :: h) := id rfl
@[simp] theorem g_turn : opM .idxd [.ref 0, .t (.str "turn")] (srcO l m t :: h) = .ok (.t (.int t)) (srcO l m t :: h) := id rfl
@[simp] theorem u_left : setDM (.ref 0) (.t (.str "left")) (.t (.int i)) (srcO l m t :: h) = .ok () (srcO i m t :: h) := id rfl
@[simp] theorem u_turn : setDM (.ref 0) (.t (.str "turn")) (.t (.int i)) (srcO l m t :: h) = .ok () (srcO l m i :: h) := id rfl
@[simp] theorem g_len : opM .len [.ref 1] (srcO l m t :: intsO cs :: h) = .ok (.t (.int (cs.length : Nat))) (srcO l m t :: intsO cs :: h) := by
  show RH.ok (Val.t (.int (((cs.map fun i => Val.t (.int i)).length : Nat)))) _ = _
  rw [List.length_map]
@[simp] theorem g_sq (o : Op) : isSeq o.tp (.ref 1) (srcO l m t :: intsO cs :: h) = .ok () (srcO l m t :: intsO cs :: h) := id rfl
@[simp] theorem g_n0 : nrm (.ref 0) (srcO l m t :: h) = .ref 0 := id rfl
@[simp] theorem g_n1 : nrm (.ref 1) (srcO l m t :: intsO cs :: h) = .ref 1 := id rfl
@[simp] theorem g_pop : opM .pop [.ref 1] (srcO l m t :: intsO (cs ++ [i]) :: h) = .ok (.t (.int i)) (srcO l m t :: intsO cs :: h) := by
  have e0 : ((cs ++ [i]).map fun i => Val.t (.int i)) = (cs.map fun i => Val.t (.int i)) ++ [.t (.int i)] := by rw [List.map_append]; rfl
  have e2 : ((cs.map fun i => Val.t (.int i)) ++ [Val.t (.int i)])[((cs.map fun i => Val.t (.int i)) ++ [Val.t (.int i)]).length - 1]? = some (.t (.int i)) := by
    rw [List.length_append]
    simp
  have e1 : cellV (.ref 1) (srcO l m t :: intsO (cs ++ [i]) :: h) = .ok (1, (cs.map fun i => Val.t (.int i)) ++ [.t (.int i)]) (srcO l m t :: intsO (cs ++ [i]) :: h) := by
    show RH.ok (1, ((cs ++ [i]).map fun i => Val.t (.int i))) _ = _
    rw [e0]
  unfold opM
  simp only [x_bind2, e1, e2, List.dropLast_concat]
  rfl
end
theorem cmul_r {i j : Int} (h1 : -(2 ^ 64) < j) (h2 : j < 2 ^ 64) : L2.CMul i j := by
  unfold L2.CMul
  omega

def hp (l m t : Int) (cs : List Int) (rest : List Ob) : List Ob := srcO l m t :: intsO cs :: rest
theorem cdivn {i j : Int} (h1 : 0 < j) (h2 : j < 1073741824) : L2.CDivN i j := by
  unfold L2.CDivN
  omega
theorem w15 {C : Cl} {k : Nat} {m t many : Int} {rest : List Ob} {loc : Loc} (h0 : loc[0]? = some (some (.ref 0))) (h2 : loc[2]? = some (some (.ref 1))) : ∀ (cs : List Int) (l : Int), cs.length < k → ∃ l' cs', cs'.length ≤ cs.length ∧
    whileM (evT C (.and [(.op .lt [(.op .idxd [(.var 0), (.str "left")]), (.int 2)]), (.op .gt [(.op .len [(.var 2)]), (.int 0)])])) (exSs C [.subd (.var 0) (.str "left") (.lm .pop (.var 2) [])]) k loc (srcO l m t :: intsO cs :: rest) = .ok (.nx loc) (srcO l' m t :: intsO cs' :: rest) := by
  induction k with
  | zero => intro cs l h; exact absurd h (Nat.not_lt_zero _)
  | succ k ih =>
    intro cs l hl
    have et : evT C (.and [(.op .lt [(.op .idxd [(.var 0), (.str "left")]), (.int 2)]), (.op .gt [(.op .len [(.var 2)]), (.int 0)])]) loc (srcO l m t :: intsO cs :: rest) = .ok (decide (l < 2) && decide (0 < cs.length)) (srcO l m t :: intsO cs :: rest) := by
      by_cases q1 : l < 2 <;> by_cases q2 : 0 < cs.length <;> simp [q1, q2, h0, h2]
    by_cases q : l < 2 ∧ 0 < cs.length
    · rcases List.eq_nil_or_concat cs with rfl | ⟨cs, c, rfl⟩
      · exact absurd q.2 (by simp)
      · have eb : exSs C [.subd (.var 0) (.str "left") (.lm .pop (.var 2) [])] loc (srcO l m t :: intsO (cs.concat c) :: rest) = .ok (.nx loc) (srcO c m t :: intsO cs :: rest) := by
          simp [h0, h2]
        rw [List.concat_eq_append] at *
        obtain ⟨l', cs', e1, e2⟩ := ih cs c (by simp at hl; omega)
        refine ⟨l', cs', by simp; omega, ?_⟩
        unfold whileM
        rw [et, q.1 |> decide_eq_true, q.2 |> decide_eq_true]
        simp only [Bool.and_self, eb]
        exact e2
    · refine ⟨l, cs, Nat.le_refl _, ?_⟩
      unfold whileM
      rw [et, show (decide (l < 2) && decide (0 < cs.length)) = false by simpa using q]
/-- _law_pick -/
theorem r15 {C : Cl} (hC : 64 ≤ C.wf) {l m t many : Int} {cs : List Int} {rest : List Ob} (hcs : cs.length ≤ 63) (h1 : 1 ≤ many) (h2 : many < 10000000) :
    ∃ r l' m' t' cs', 0 ≤ r ∧ r < many ∧ cs'.length ≤ 63 ∧ run C fn15 [.ref 0, .t (.int many)] (srcO l m t :: intsO cs :: rest) = .ok (.t (.int r)) (srcO l' m' t' :: intsO cs' :: rest) := by
  suffices H : ∃ r l' m' t' cs', 0 ≤ r ∧ r < many ∧ cs'.length ≤ 63 ∧ exSs C fn15.body (startL fn15 [.ref 0, .t (.int many)]) (srcO l m t :: intsO cs :: rest) = .ok (.ret (.t (.int r))) (srcO l' m' t' :: intsO cs' :: rest) by
    obtain ⟨r, l', m', t', cs', a1, a2, a3, e⟩ := H
    refine ⟨r, l', m', t', cs', a1, a2, a3, ?_⟩
    rw [run_rt rfl e, trunc_len (by simp)]
  by_cases q : many < 2
  · exact ⟨0, l, m, t, cs, by omega, by omega, hcs, by simp [fn15, startL, q]⟩
  · obtain ⟨l1, cs1, hl1, ew⟩ := w15 (C := C) (k := C.wf) (m := m) (t := t) (many := many) (rest := rest) (loc := [some (.ref 0), some (.t (.int many)), some (.ref 1), none, none, none]) rfl rfl cs l (by omega)
    by_cases q2 : 1 < l1
    · refine ⟨l1.fmod many, l1.fdiv many, m, t, cs1, Int.fmod_nonneg_of_pos _ (by omega), Int.fmod_lt_of_pos _ (by omega), by omega, ?_⟩
      have hd : L2.CDivN l1 many := cdivn (by omega) (by omega)
      have hz : ¬ many = 0 := by omega
      simp [fn15, startL, q, ew, q2, hd, hz]
    · have hm1 : ∀ x : Int, L2.CMul x 104729 := fun x => cmul_r (by decide) (by decide)
      have hm2 : ∀ x : Int, L2.CMul x 17 := fun x => cmul_r (by decide) (by decide)
      have hm3 : ∀ x : Int, L2.CMul (x.fmod 998244353) (x.fmod 998244353) := fun x => by
        have := Int.fmod_lt_of_pos x (b := 998244353) (by decide)
        have := Int.fmod_nonneg_of_pos x (b := 998244353) (by decide)
        exact cmul_r (by omega) (by omega)
      have hp : L2.CPow 10 7 := by unfold L2.CPow; omega
      have hd : ∀ x, L2.CDivN x 16 := fun x => cdivn (by decide) (by decide)
      have hz : ¬ many = 0 := by omega
      have hb : ¬ (10000000 : Int) < many := by omega
      have e : ∃ r, 0 ≤ r ∧ r < many ∧ exSs C fn15.body (startL fn15 [.ref 0, .t (.int many)]) (srcO l m t :: intsO cs :: rest) = .ok (.ret (.t (.int r))) (srcO l1 m (t + 1) :: intsO cs1 :: rest) := by
        refine ⟨(Int.fdiv (((((m + (t + 1) * 104729).fmod 998244353) * ((m + (t + 1) * 104729).fmod 998244353)) + (t + 1) * 17).fmod 2147483647) 16).fmod many, Int.fmod_nonneg_of_pos _ (by omega), Int.fmod_lt_of_pos _ (by omega), ?_⟩
        simp [fn15, startL, q, ew, q2, hd, hz, hm1, hm2, hm3, hp, hb]
      obtain ⟨r, a, b, e⟩ := e
      exact ⟨r, l1, m, t + 1, cs1, a, b, by omega, e⟩
/-- .. at a call -/
theorem pk {C : Cl} (hC : 64 ≤ C.wf) {rest h : List Ob} (S : Sr rest h) {many : Int} (h1 : 1 ≤ many) (h2 : many < 10000000) : ∃ (r : Nat) (h' : List Ob), (r : Int) < many ∧ Sr rest h' ∧ run C fn15 [.ref 0, .t (.int many)] h = .ok (.t (.int (r : Nat))) h' := by
  obtain ⟨l, m, t, cs, hcs, rfl⟩ := S
  obtain ⟨r, l', m', t', cs', a1, a2, a3, e⟩ := r15 hC (l := l) (m := m) (t := t) (rest := rest) hcs h1 h2
  refine ⟨r.toNat, _, by omega, ⟨l', m', t', cs', a3, rfl⟩, ?_⟩
  rw [e, Int.toNat_of_nonneg a1]
theorem lcM_ints {asgn : Val → Loc → Option Loc} {loc : Loc} {tst : Loc → MH Bool} {elt : Loc → MH Val} (g : Int → Int) : ∀ (xs : List Int) (h : List Ob), (∀ x ∈ xs, ∃ l, asgn (.t (.int x)) loc = some l ∧ (∀ h, tst l h = .ok true h) ∧ ∀ h, elt l h = .ok (.t (.int (g x))) h) →
    lcM asgn loc tst elt (xs.map fun i => .t (.int i)) h = .ok ((xs.map g).map fun i => .t (.int i)) h
  | [], h, _ => rfl
  | x :: xs, h, H => by
    obtain ⟨l, e1, e2, e3⟩ := H x List.mem_cons_self
    have IH := lcM_ints (asgn := asgn) (tst := tst) (elt := elt) g xs h fun y hy => H y (List.mem_cons_of_mem _ hy)
    show (match asgn (.t (.int x)) loc with
      | none => bad
      | some l => MH.bind (tst l) fun b => if b then MH.bind (elt l) fun v => MH.bind (lcM asgn loc tst elt (xs.map fun i => .t (.int i))) fun vs => (pure (v :: vs) : MH (List Val)) else lcM asgn loc tst elt (xs.map fun i => .t (.int i))) h = _
    rw [e1]
    dsimp only
    rw [b_ok (e2 h), if_pos rfl, b_ok (e3 h), b_ok IH]
    rfl
theorem e14 {C : Cl} {a0 a1 c : Option Val} {as : List Int} {k : Nat} (hk : k < as.length) {h : List Ob} : evE C (.op .idx [(.var 3), (.op .sub [(.op .sub [(.op .len [(.var 3)]), (.int 1)]), (.var 4)])]) [a0, a1, c, some (.t (.lst (as.map .int))), some (.t (.int (k : Nat)))] h = .ok (.t (.int (as.getD (as.length - 1 - k) 0))) h := by
  have e : (as.length : Int) - 1 - (k : Nat) = ((as.length - 1 - k : Nat) : Int) := by omega
  have e4 : (as.map T.int)[as.length - 1 - k]? = some (.int (as.getD (as.length - 1 - k) 0)) := by
    rw [List.getElem?_map, List.getD_eq_getElem?_getD, List.getElem?_eq_getElem (by omega)]
    rfl
  simp only [x_op, x_bind, x_cons, x_var, x_nil, x_int, x_pure, List.getElem?_cons_succ, List.getElem?_cons_zero, v_nrmt, p_lenl, List.length_map, p_sub]
  rw [e, p_idxl, e4]
theorem f14 {C : Cl} {a0 a1 c : Option Val} {as : List Int} (hl : as.length ≤ 63) : evE C (.lc true [4] (.v 4) (.rng1 (.op .len [(.var 3)])) [] (.op .idx [(.var 3), (.op .sub [(.op .sub [(.op .len [(.var 3)]), (.int 1)]), (.var 4)])])) [a0, a1, c, some (.t (.lst (as.map .int))), none] [.dct []] = .ok (.ref 1) [.dct [], intsO ((List.range as.length).map fun k => as.getD (as.length - 1 - k) 0)] := by
  have q := lcM_ints (asgn := asg (.v 4)) (loc := wipeL [a0, a1, c, some (.t (.lst (as.map .int))), none] [4]) (tst := evTs C []) (elt := evE C (.op .idx [(.var 3), (.op .sub [(.op .sub [(.op .len [(.var 3)]), (.int 1)]), (.var 4)])])) (fun i => as.getD (as.length - 1 - i.toNat) 0) ((List.range as.length).map fun k => ((k : Nat) : Int)) [.dct []] fun i hi => ⟨_, rfl, fun _ => rfl, fun h => by
    obtain ⟨k, hk, rfl⟩ := List.mem_map.mp hi
    exact e14 (List.mem_range.mp hk)⟩
  refine (lc_keep (h1 := [.dct []]) (h2 := [.dct []]) ?_ ?_ q).trans ?_
  · rw [i_rngN (n := as.length) (h1 := [.dct []]) (by simp) (by omega)]
    simp
  · simp
    exact Nat.le_trans hl (by decide)
  · simp [intsO]
theorem d14 {C : Cl} {loc : Loc} {h h1 : List Ob} {e : E} {v : Val} {x : Int} (hv : evE C e loc (h ++ [.dct []]) = .ok v h1) (hx : loc[1]? = some (some (.t (.int x)))) (h0 : h1[h.length]? = some (.dct [])) : evE C (.dsp true [(.str "cells"), e, (.str "left"), (.int 1), (.str "mixed"), (.var 1), (.str "turn"), (.int 0)]) loc h =
    .ok (.ref h.length) (h1.set h.length (.dct [(.str "cells", v), (.str "left", .t (.int 1)), (.str "mixed", .t (.int x)), (.str "turn", .t (.int 0))])) := by
  show MH.bind (newN (.dct [])) (fun n => MH.bind (evPs C [(.str "cells"), e, (.str "left"), (.int 1), (.str "mixed"), (.var 1), (.str "turn"), (.int 0)] loc []) fun acc => MH.bind (fillD n acc) fun _ => (pure (.ref n) : MH Val)) h = _
  rw [b_ok (show newN (.dct []) h = .ok h.length (h ++ [.dct []]) from rfl)]
  have e : evPs C [(.str "cells"), e, (.str "left"), (.int 1), (.str "mixed"), (.var 1), (.str "turn"), (.int 0)] loc [] (h ++ [.dct []]) = .ok [(.str "cells", v), (.str "left", .t (.int 1)), (.str "mixed", .t (.int x)), (.str "turn", .t (.int 0))] h1 := by
    show MH.bind (evE C e loc) (fun v => MH.bind (evE C (.var 1) loc) fun x => (pure (dput (dput (dput (dput [] (.str "cells") v) (.str "left") (.t (.int 1))) (.str "mixed") x) (.str "turn") (.t (.int 0))) : MH _)) _ = _
    rw [b_ok hv, b_ok (show evE C (.var 1) loc h1 = .ok (.t (.int x)) h1 by rw [x_var, hx]; rfl)]
    rfl
  rw [b_ok e]
  rw [b_ok (fill_ok h0)]
  rfl
theorem g14 {C : Cl} {ns : List Int} : ∃ x c, forM (.v 2) (exSs C [.set 1 (.op .mod [(.op .int1 [(.op .add [(.op .add [(.op .mul [(.var 1), (.int 69069)]), (.op .mul [(.var 2), (.int 31)])]), (.int 5)])]), (.int 2147483629)])]) (ns.map fun i => .t (.int i)) [some (.t (.scr ns)), some (.t (.int 11)), none, none, none] [] =
      .ok (.nx [some (.t (.scr ns)), some (.t (.int x)), c, none, none]) [] := by
  have hm1 : ∀ x : Int, L2.CMul x 69069 := fun x => cmul_r (by decide) (by decide)
  have hm2 : ∀ x : Int, L2.CMul x 31 := fun x => cmul_r (by decide) (by decide)
  refine forM_inv (J := fun xs loc h => (∀ v ∈ xs, ∃ i, v = .t (.int i)) ∧ ∃ x c, loc = [some (.t (.scr ns)), some (.t (.int x)), c, none, none] ∧ h = []) (R := fun r => ∃ x c, r = .ok (.nx [some (.t (.scr ns)), some (.t (.int x)), c, none, none]) []) ?_ ?_ _ _ _ ⟨?_, 11, none, rfl, rfl⟩
  · rintro v xs loc h ⟨hv, x, c, rfl, rfl⟩
    obtain ⟨i, rfl⟩ := hv v List.mem_cons_self
    refine ⟨_, rfl, ?_⟩
    have e : exSs C [.set 1 (.op .mod [(.op .int1 [(.op .add [(.op .add [(.op .mul [(.var 1), (.int 69069)]), (.op .mul [(.var 2), (.int 31)])]), (.int 5)])]), (.int 2147483629)])] ([some (.t (.scr ns)), some (.t (.int x)), c, none, none].set 2 (some (nrm (.t (.int i)) []))) [] = .ok (.nx [some (.t (.scr ns)), some (.t (.int ((x * 69069 + i * 31 + 5).fmod 2147483629))), some (.t (.int i)), none, none]) [] := by
      simp [hm1, hm2]
    rw [e]
    exact ⟨fun v hv' => hv v (List.mem_cons_of_mem _ hv'), _, _, rfl, rfl⟩
  · rintro loc h ⟨_, x, c, rfl, rfl⟩
    exact ⟨x, c, rfl⟩
  · intro v hv
    obtain ⟨i, _, e⟩ := List.mem_map.mp hv
    exact ⟨i, e.symm⟩
theorem h14 {C : Cl} {ns : List Int} {x : Int} {c : Option Val} (hn : ns.length ≤ 63) : evE C (.lc false [2] (.v 2) (.seq (.var 0)) [] (.op .abs [(.var 2)])) [some (.t (.scr ns)), some (.t (.int x)), c, none, none] [] = .ok (.t (.lst ((ns.map fun i => if i < 0 then -i else i).map .int))) [] := by
    have q := lcM_ints (asgn := asg (.v 2)) (loc := wipeL [some (.t (.scr ns)), some (.t (.int x)), c, none, none] [2]) (tst := evTs C []) (elt := evE C (.op .abs [(.var 2)])) (fun i => if i < 0 then -i else i) ns [] fun i _ => ⟨_, rfl, fun _ => rfl, fun h => by simp⟩
    rw [lc_frz (us := (ns.map fun i => if i < 0 then -i else i).map .int) (h1 := []) (h2 := []) (by simp) (by rw [List.length_map]; exact Nat.le_trans hn (by decide)) (q.trans ?_)]
    simp
theorem t14 {C : Cl} {ns : List Int} {x : Int} {c : Option Val} (hn : ns.length ≤ 63) : ∃ as : List Int, as.length ≤ 63 ∧ exS C (.set 3 (.lc false [2] (.v 2) (.seq (.var 0)) [] (.op .abs [(.var 2)]))) [some (.t (.scr ns)), some (.t (.int x)), c, none, none] [] = .ok (.nx [some (.t (.scr ns)), some (.t (.int x)), c, some (.t (.lst (as.map .int))), none]) [] := by
  refine ⟨ns.map fun i => if i < 0 then -i else i, by simpa using hn, ?_⟩
  exact k_set (h14 hn)
theorem v14 {C : Cl} {ns : List Int} {as : List Int} {x : Int} {c : Option Val} (hl : as.length ≤ 63) : ∃ h, Sr [] h ∧ exS C (.ret true (.dsp true [(.str "cells"), (.lc true [4] (.v 4) (.rng1 (.op .len [(.var 3)])) [] (.op .idx [(.var 3), (.op .sub [(.op .sub [(.op .len [(.var 3)]), (.int 1)]), (.var 4)])])), (.str "left"), (.int 1), (.str "mixed"), (.var 1), (.str "turn"), (.int 0)])) [some (.t (.scr ns)), some (.t (.int x)), c, some (.t (.lst (as.map .int))), none] [] = .ok (.ret (.ref 0)) h := by
  have e3 := d14 (C := C) (h := []) (f14 (C := C) (a0 := some (.t (.scr ns))) (a1 := some (.t (.int x))) (c := c) hl) (x := x) rfl rfl
  refine ⟨[srcO 1 x 0, intsO ((List.range as.length).map fun k => as.getD (as.length - 1 - k) 0)], ⟨1, x, 0, _, ?_, rfl⟩, ?_⟩
  · rw [List.length_map, List.length_range]
    exact hl
  · exact k_rett e3
theorem r14 {C : Cl} {ns : List Int} (hn : ns.length ≤ 63) : ∃ h, Sr [] h ∧ run C fn14 [.t (.scr ns)] [] = .ok (.ref 0) h := by
  obtain ⟨x, c, e1⟩ := g14 (C := C) (ns := ns)
  obtain ⟨as, hl, e2⟩ := t14 (C := C) (ns := ns) (x := x) (c := c) hn
  obtain ⟨h, S, e3⟩ := v14 (C := C) (ns := ns) (x := x) (c := c) hl
  refine ⟨h, S, run_rf rfl ((ss_nx (l := [some (.t (.scr ns)), some (.t (.int 11)), none, none, none]) (h1 := []) rfl).trans ((ss_nx (l := [some (.t (.scr ns)), some (.t (.int x)), c, none, none]) (h1 := []) ?_).trans ((ss_nx e2).trans (ss_rt e3))))⟩
  rw [s_seq, t_thenE, i_seq, b_ok (show evE C (.var 0) [some (.t (.scr ns)), some (.t (.int 11)), none, none, none] [] = .ok (.t (.scr ns)) [] from rfl), v_walkS]
  exact e1
def sg : List Nat := [97, 98, 99, 100, 101, 102, 103, 104, 105, 106, 107, 108, 109, 110, 111, 112, 113, 114, 115, 116, 117, 118, 119, 120, 121, 122, 48, 49, 50, 51, 52, 53, 54, 55, 56, 57]
theorem sgE : ("abcdefghijklmnopqrstuvwxyz0123456789" : Str) = stL sg := by decide +kernel
def sgAt (i : Nat) : Nat := sg.getD i 0
theorem sg_at {i : Nat} (h : i < 36) : sg[i]? = some (sgAt i) := by
  unfold sgAt
  rw [List.getD_eq_getElem?_getD, List.getElem?_eq_getElem (by exact h)]
  rfl
theorem sg_mem {i : Nat} (h : i < 36) : sgAt i ∈ sg := List.mem_of_getElem? (sg_at h)
section
variable {C : Cl} {loc : Loc} {h h1 h2 : List Ob}
theorem ev_op1 {o : Op} {a : E} {v : Val} (e1 : evE C a loc h = .ok v h1) : evE C (.op o [a]) loc h = opM o [v] h1 := by
  show MH.bind (MH.bind (evE C a loc) (fun v => MH.bind (evEs C [] loc) fun vs => pure (v :: vs))) (fun vs => opM o vs) h = _
  have : MH.bind (evE C a loc) (fun v => MH.bind (evEs C [] loc) fun vs => (pure (v :: vs) : MH _)) h = .ok [v] h1 := by rw [b_ok e1]; rfl
  rw [b_ok this]
theorem ev_op2 {o : Op} {a b : E} {v w : Val} (e1 : evE C a loc h = .ok v h1) (e2 : evE C b loc h1 = .ok w h2) : evE C (.op o [a, b]) loc h = opM o [v, w] h2 := by
  show MH.bind (MH.bind (evE C a loc) (fun v => MH.bind (MH.bind (evE C b loc) (fun v => MH.bind (evEs C [] loc) fun vs => pure (v :: vs))) fun vs => pure (v :: vs))) (fun vs => opM o vs) h = _
  have q2 : MH.bind (evE C b loc) (fun v => MH.bind (evEs C [] loc) fun vs => (pure (v :: vs) : MH _)) h1 = .ok [w] h2 := by rw [b_ok e2]; rfl
  have q1 : MH.bind (evE C a loc) (fun v => MH.bind (MH.bind (evE C b loc) (fun v => MH.bind (evEs C [] loc) fun vs => pure (v :: vs))) fun vs => (pure (v :: vs) : MH _)) h = .ok [v, w] h2 := by rw [b_ok e1, b_ok q2]; rfl
  rw [b_ok q1]
theorem ev_var {i : Nat} {x : T} (e : loc[i]? = some (some (.t x))) : evE C (.var i) loc h = .ok (.t x) h := by rw [x_var, e]; rfl
theorem ev_ref {i n : Nat} (e : loc[i]? = some (some (.ref n))) (hn : nrm (.ref n) h = .ref n) : evE C (.var i) loc h = .ok (.ref n) h := by rw [x_var, e]; show RH.ok (nrm (.ref n) h) h = _; rw [hn]
theorem ev_call2 {f : Nat} {a b : E} {v w r : Val} (e1 : evE C a loc h = .ok v h) (e2 : evE C b loc h = .ok w h) (e : C.fn f [v, w] h = .ok r h1) : evE C (.call true f [a, b]) loc h = .ok r h1 := by
  show MH.bind (MH.bind (evE C a loc) (fun v => MH.bind (MH.bind (evE C b loc) (fun v => MH.bind (evEs C [] loc) fun vs => pure (v :: vs))) fun vs => pure (v :: vs))) (fun vs => C.fn f vs) h = _
  have q2 : MH.bind (evE C b loc) (fun v => MH.bind (evEs C [] loc) fun vs => (pure (v :: vs) : MH _)) h = .ok [w] h := by rw [b_ok e2]; rfl
  have q1 : MH.bind (evE C a loc) (fun v => MH.bind (MH.bind (evE C b loc) (fun v => MH.bind (evEs C [] loc) fun vs => pure (v :: vs))) fun vs => (pure (v :: vs) : MH _)) h = .ok [v, w] h := by rw [b_ok e1, b_ok q2]; rfl
  rw [b_ok q1, e]
theorem ev_cat {a b : E} {x y : List Nat} (e1 : evE C a loc h = .ok (.t (.str (stL x))) h1) (e2 : evE C b loc h1 = .ok (.t (.str (stL y))) h2) (hl : x.length + y.length ≤ 1000) : evE C (.op .add [a, b]) loc h = .ok (.t (.str (stL (x ++ y)))) h2 := by
  rw [ev_op2 e1 e2, p_adds, if_pos (by rw [st_len, st_len]; exact Nat.le_trans hl (by decide)), st_app]
end
/-- what calls are at a level -/
structure Pk (C : Cl) : Prop where
  pk : ∀ (rest h : List Ob) (many : Int), Sr rest h → 1 ≤ many → many < 10000000 → ∃ (r : Nat) (h' : List Ob), (r : Int) < many ∧ Sr rest h' ∧ C.fn 15 [.ref 0, .t (.int many)] h = .ok (.t (.int (r : Nat))) h'
theorem Pk.ev {C : Cl} (P : Pk C) {loc : Loc} {rest h : List Ob} (S : Sr rest h) (h0 : loc[0]? = some (some (.ref 0))) {e : E} {many : Int} (he : evE C e loc h = .ok (.t (.int many)) h) (h1 : 1 ≤ many) (h2 : many < 10000000) :
    ∃ (r : Nat) (h' : List Ob), (r : Int) < many ∧ Sr rest h' ∧ evE C (.call true 15 [.var 0, e]) loc h = .ok (.t (.int (r : Nat))) h' := by
  obtain ⟨r, h', a, b, c⟩ := P.pk rest h many S h1 h2
  exact ⟨r, h', a, b, ev_call2 (ev_ref h0 S.n0) he c⟩
theorem ev_lm1 {C : Cl} {loc : Loc} {h h1 : List Ob} {o : Op} {l a : E} {v w : Val} (e1 : evE C l loc h = .ok v h) (e2 : isSeq o.tp v h = .ok () h) (e3 : evE C a loc h = .ok w h1) : evE C (.lm o l [a]) loc h = opM o [v, w] h1 := by
  show MH.bind (evE C l loc) (fun a' => MH.bind (isSeq o.tp a') fun _ => MH.bind (MH.bind (evE C a loc) (fun v => MH.bind (evEs C [] loc) fun vs => pure (v :: vs))) fun vs => opM o (a' :: vs)) h = _
  have q2 : MH.bind (evE C a loc) (fun v => MH.bind (evEs C [] loc) fun vs => (pure (v :: vs) : MH _)) h = .ok [w] h1 := by rw [b_ok e3]; rfl
  rw [b_ok e1, b_ok e2, b_ok q2]
theorem cmul_l {i j : Int} (h1 : -(2 ^ 64) < i) (h2 : i < 2 ^ 64) : L2.CMul i j := by
  unfold L2.CMul
  omega
theorem ss_one {C : Cl} {s : S} {loc l : Loc} {h h1 : List Ob} (a : exS C s loc h = .ok (.nx l) h1) : exSs C [s] loc h = .ok (.nx l) h1 := (ss_nx a).trans rfl
theorem k_retr {C : Cl} {loc : Loc} {h h1 : List Ob} {e : E} {p : Nat} {ts : List T} (a : evE C e loc h = .ok (.ref p) h1) (ec : h1[p]? = some (.lst (ts.map .t))) : exS C (.ret false e) loc h = .ok (.ret (.t (.lst ts))) (h1.set p (.frz (.lst ts))) := th_ok (m := MH.bind (evE C e loc) fun v => MH.bind (pur v) fun x => (pure (Val.t x) : MH Val)) (by rw [b_ok a, b_ok (show pur (.ref p) h1 = _ from fz_cell ec)]; rfl)
section
variable {C : Cl} {l m t i : Int} {cs : List Int} {h : List Ob}
end
section
variable {C : Cl} {loc : Loc} {h h1 h2 : List Ob}
end
section
variable {C : Cl} {loc : Loc} {h : List Ob}
end
def cc (k : Nat) : Cl := G.cl (G.ff k).1 (G.ff k).2
section
variable {k c n low : Nat} {nm : Nat → Str} {s : Nat → Nat → Nat} {ex : List (Nat × T)} {loc : Loc}
end
section
variable {C : Cl} {loc : Loc} {n low : Nat} {nm : Nat → Str} {s : Nat → Nat → Nat} {e : E}
end
section
variable (nm1 nm2 : Nat → Str) (n2 : Nat) (s1 s2 : Nat → Nat → Nat)
end
section
variable {k n low : Nat} {nm : Nat → Str} {s : Nat → Nat → Nat} {loc : Loc} {e : E}
theorem fn_at (k f : Nat) (d : FnD) (vs : List Val) (h : List Ob) (e : fnT f = some d) : (cc (k + 1)).fn f vs h = run (cc k) d vs h := by
  show (match fnT f with
    | some d => run (cc k) d vs
    | none => bad) h = _
  rw [e]
end
theorem ev_call1 {C : Cl} {loc : Loc} {h h1 : List Ob} {f : Nat} {a : E} {v r : Val} (e1 : evE C a loc h = .ok v h) (e : C.fn f [v] h = .ok r h1) : evE C (.call true f [a]) loc h = .ok r h1 := by
  show MH.bind (MH.bind (evE C a loc) (fun v => MH.bind (evEs C [] loc) fun vs => pure (v :: vs))) (fun vs => C.fn f vs) h = _
  have q1 : MH.bind (evE C a loc) (fun v => MH.bind (evEs C [] loc) fun vs => (pure (v :: vs) : MH _)) h = .ok [v] h := by rw [b_ok e1]; rfl
  rw [b_ok q1, e]
section
variable {C : Cl} {loc : Loc} {h h1 h2 : List Ob}
end
section
variable {C : Cl} {loc : Loc} {e : E} {k m : Nat}
end
section
variable {C : Cl} {loc : Loc}
end
section
variable {k c n low : Nat} {nm : Nat → Str} {s : Nat → Nat → Nat} {ex : List (Nat × T)} {z : Str}
end
section
variable {C : Cl} {loc : Loc} {e : E} {n : Nat} {s : Nat → Nat → Nat}
end
section
variable {k c n low : Nat} {nm : Nat → Str} {s : Nat → Nat → Nat} {ex : List (Nat × T)} {z : Str} {loc : Loc}
end
theorem pv_addl {C : Cl} {loc : Loc} {a b : E} {xs ys : List T} (ha : PV C loc a (.lst xs)) (hb : PV C loc b (.lst ys)) (hl : xs.length + ys.length ≤ 1000) : PV C loc (.op .add [a, b]) (.lst (xs ++ ys)) := pv_op (pvs_cons ha (pvs_cons hb pvs_nil)) fun h => (p_addl xs ys).trans (by
  have hL : (1000 : Nat) ≤ SL := by decide
  rw [if_pos (by omega)])
theorem pk_cc (k : Nat) : Pk (cc (k + 1)) := ⟨fun rest h many S h1 h2 => by
  rw [fn_at k 15 fn15 _ _ rfl]
  exact pk (C := cc k) (show 64 ≤ 1000000 by decide) S h1 h2⟩
section
variable {k n1 n2 low1 low2 c1 c2 : Nat} {nm1 nm2 : Nat → Str} {s1 s2 : Nat → Nat → Nat} {x1 x2 : List (Nat × T)} {loc : Loc} {a b : E}
end
section
variable {k n1 n2 c1 c2 : Nat} {s1 s2 : Nat → Nat → Nat} {x1 x2 : List (Nat × T)}
end
section
variable {C : Cl} {loc : Loc} {h h1 h2 h3 : List Ob}
theorem ev_call2g {f : Nat} {a b : E} {v w r : Val} (e1 : evE C a loc h = .ok v h1) (e2 : evE C b loc h1 = .ok w h2) (e : C.fn f [v, w] h2 = .ok r h3) : evE C (.call true f [a, b]) loc h = .ok r h3 := by
  rw [x_call, b_ok (show evEs C [a, b] loc h = .ok [v, w] h2 by rw [x_cons, b_ok e1, b_ok (show evEs C [b] loc h1 = .ok [w] h2 by rw [x_cons, b_ok e2]; rfl)]; rfl), v_raw, e]
end
section
variable {k : Nat} {loc : Loc} {rest h : List Ob}
end
def tyT : T → Option Ty
  | .non => some .non
  | .bl _ => some .bl
  | .int _ => some .int
  | .str _ => some .str
  | .tup _ => some .tup
  | .lst _ => some .lst
  | .dct _ => some .dct
  | .ins c _ => some (.ins c)
  | .xo c _ => some (.xo c)
  | _ => none
theorem tyM_t (x : T) (h : List Ob) : tyM (.t x) h = tyT x := by cases x <;> rfl
section
variable {C : Cl} {loc : Loc} {h : List Ob}
theorem isi_t {x : T} {ty : Ty} {sp : List Sp} (ht : tyT x = some ty) : isiM C (.t x) sp h = .ok (.t (.bl (sp.any fun s => tyIs C.isa ty s))) h := by
  unfold isiM
  rw [tyM_t, ht]
theorem pt_is {e : E} {x : T} {ty : Ty} {sp : List Sp} (he : PV C loc e x) (ht : tyT x = some ty) : PT C loc (.isi e sp) (sp.any fun s => tyIs C.isa ty s) := fun h => by
  rw [y_isi, b_ok (he h), b_ok (isi_t ht)]
  rfl
theorem pv_is {e : E} {x : T} {ty : Ty} {sp : List Sp} (he : PV C loc e x) (ht : tyT x = some ty) : PV C loc (.isi e sp) (.bl (sp.any fun s => tyIs C.isa ty s)) := fun h => by
  rw [x_isi, b_ok (he h), isi_t ht]
theorem ss_ifT {c e : E} {v ss : List S} {x : T} (t : PT C loc c true) (he : PV C loc e x) : exSs C (.iff c [.ret false e] v :: ss) loc h = .ok (.ret (.t x)) h :=
  ss_rt ((st_iff t).trans (ss_rt (st_ret he)))
theorem ss_ifF {c : E} {u ss : List S} (t : PT C loc c false) : exSs C (.iff c u [] :: ss) loc h = exSs C ss loc h := ss_nx ((st_iff t).trans rfl)
end
section
variable {C : Cl} {loc : Loc}
end
theorem lcM_filter {A : Type} {asgn : Val → Loc → Option Loc} {loc : Loc} {tst : Loc → MH Bool} {elt : Loc → MH Val} (it : A → T) (g : A → Bool) : ∀ (xs : List A) (h : List Ob), (∀ x ∈ xs, ∃ l, asgn (.t (it x)) loc = some l ∧ (∀ h, tst l h = .ok (g x) h) ∧ ∀ h, elt l h = .ok (.t (it x)) h) →
    lcM asgn loc tst elt ((xs.map it).map .t) h = .ok (((xs.filter g).map it).map .t) h
  | [], h, _ => rfl
  | x :: xs, h, H => by
    obtain ⟨l, e1, e2, e3⟩ := H x List.mem_cons_self
    have IH := lcM_filter (asgn := asgn) (tst := tst) (elt := elt) it g xs h fun y hy => H y (List.mem_cons_of_mem _ hy)
    show (match asgn (.t (it x)) loc with
      | none => bad
      | some l => MH.bind (tst l) fun b => if b then MH.bind (elt l) fun v => MH.bind (lcM asgn loc tst elt ((xs.map it).map .t)) fun vs => (pure (v :: vs) : MH (List Val)) else lcM asgn loc tst elt ((xs.map it).map .t)) h = _
    rw [e1]
    dsimp only
    rw [b_ok (e2 h), List.filter_cons]
    cases g x with
    | true =>
      rw [if_pos rfl, if_pos rfl, b_ok (e3 h), b_ok IH]
      rfl
    | false =>
      rw [if_neg Bool.false_ne_true, if_neg Bool.false_ne_true, IH]
theorem pv_lcF {C : Cl} {loc : Loc} {A : Type} {own : List Nat} {tg : Tg} {i : It} {t e : E} (it : A → T) (g : A → Bool) {xs : List A} (hi : PI C loc i (xs.map it)) (hl : xs.length ≤ SL) (H : ∀ x ∈ xs, ∃ l, asg tg (.t (it x)) (wipeL loc own) = some l ∧ PT C l t (g x) ∧ PV C l e (it x)) : PV C loc (.lc false own tg i [t] e) (.lst ((xs.filter g).map it)) := fun h => by
  show MH.bind (evIt C i loc) (fun ys => if ys.length ≤ SL then noexc (MH.bind (lcM (asg tg) (wipeL loc own) (evTs C [t]) (evE C e) ys) fun vs => keep false vs) else bad) h = _
  rw [b_ok (hi h), if_pos (by rw [List.length_map, List.length_map]; exact hl)]
  have q := lcM_filter (asgn := asg tg) (loc := wipeL loc own) (tst := evTs C [t]) (elt := evE C e) it g xs h fun x hx => by
    obtain ⟨l, e1, e2, e3⟩ := H x hx
    exact ⟨l, e1, e2, e3⟩
  unfold noexc
  rw [b_ok q, keep_t]
end MS

set_option Elab.async false
set_option linter.all false
set_option maxRecDepth 100000
/-! R9B: exceptions as values: the plain law of k91 -/
namespace MS
open PySem
/-! ### a word -/
def Wd (z : Str) : Prop := z.length ≤ 100000 ∧ (reprText z).length ≤ 1000000
theorem Wd_of {l : List Nat} (h1 : l.length ≤ 1000) (h2 : ∀ c ∈ l, c < 0x110000) : Wd (stL l) := by
  have h3 := StrLaws.reprText_len (stL l) fun c hc => Nat.lt_trans (h2 c (by simpa [stL] using hc)) (by decide)
  rw [st_len] at h3
  exact ⟨by rw [st_len]; omega, by omega⟩
def dgs (r : Nat) : List Nat := (toString ((r : Nat) : Int)).toList.map Char.toNat
theorem dgs_eq (r : Nat) : Str.ofString (toString ((r : Nat) : Int)) = stL (dgs r) := Str.ofString_eq_toList _
theorem dgs_len {r : Nat} (h : r < 1000000) : (dgs r).length ≤ 6 := by
  unfold dgs
  rw [List.length_map]
  have q := (Nat.length_repr_le_iff (n := r) (k := 6) (by decide)).mpr h
  exact q
theorem dgs_small (r : Nat) : ∀ c ∈ dgs r, c < 0x110000 := by
  intro c hc
  unfold dgs at hc
  obtain ⟨x, _, rfl⟩ := List.mem_map.mp hc
  have := x.valid
  have e : x.toNat = x.val.toNat := rfl
  rw [e]
  rcases this with h | h
  · exact Nat.lt_trans h (by decide)
  · exact h.2
theorem o_str1b {r : Nat} {h : List Ob} (hr : r < 1000000) : opM .str1 [.t (.int (r : Nat))] h = .ok (.t (.str (stL (dgs r)))) h := by
  show MH.bind (intV (.t (.int (r : Nat)))) (fun i => if i.natAbs.log2 < 1920 then str (Str.ofString (toString i)) else bad) h = _
  rw [b_ok (v_intV _), if_pos, dgs_eq]
  · rfl
  · have e : (r : Int).natAbs = r := rfl
    rw [e]
    by_cases h0 : r = 0
    · subst h0; decide
    · have q : r.log2 < 20 := (Nat.log2_lt h0).mpr (Nat.lt_trans hr (by decide))
      omega
def abc : List Nat := [97, 98, 99, 100, 101, 102, 103, 104, 105, 106, 107, 108, 109, 110, 111, 112, 113, 114, 115, 116, 117, 118, 119, 120, 121, 122]
theorem abcE : ("abcdefghijklmnopqrstuvwxyz" : Str) = stL abc := by decide +kernel
theorem r56 {C : Cl} (P : Pk C) {h : List Ob} (S : Sr [] h) : ∃ z h', Wd z ∧ Sr [] h' ∧ run C fn56 [.ref 0] h = .ok (.t (.str z)) h' := by
  obtain ⟨r, h1, a1, S1, e1⟩ := P.ev (loc := [some (.ref 0)]) S rfl (e := .int 26) (many := 26) rfl (by decide) (by decide)
  have e10 : evE C (.op .pow [.int 10, .int 6]) [some (.ref 0)] h1 = .ok (.t (.int 1000000)) h1 := by rfl
  obtain ⟨r2, h2, a2, S2, e2⟩ := P.ev (loc := [some (.ref 0)]) S1 rfl e10 (by decide) (by decide)
  have hr2 : r2 < 1000000 := by omega
  have hr : r < 26 := by omega
  obtain ⟨c, hc⟩ : ∃ c, abc[r]? = some c := ⟨abc[r]'(by show r < 26; exact hr), List.getElem?_eq_getElem _⟩
  have hcm : c < 0x110000 := (show ∀ x ∈ abc, x < 0x110000 by decide) c (List.mem_of_getElem? hc)
  have s1 : evE C (.op .idx [.str "abcdefghijklmnopqrstuvwxyz", .call true 15 [.var 0, .int 26]]) [some (.ref 0)] h = .ok (.t (.str (stL [c]))) h1 := by
    rw [ev_op2 (x_str _) e1, abcE]
    exact st_idx (by decide) rfl hc
  have s2 : evE C (.op .str1 [.call true 15 [.var 0, .op .pow [.int 10, .int 6]]]) [some (.ref 0)] h1 = .ok (.t (.str (stL (dgs r2)))) h2 := by
    rw [ev_op1 e2]
    exact o_str1b hr2
  have s3 := ev_cat s1 s2 (by have := dgs_len hr2; simp only [List.length_singleton]; omega)
  have q : exSs C fn56.body (startL fn56 [.ref 0]) h = .ok (.ret (.t (.str (stL ([c] ++ dgs r2))))) h2 := ss_rt (k_retf s3)
  refine ⟨stL ([c] ++ dgs r2), h2, Wd_of ?_ ?_, S2, ?_⟩
  · have := dgs_len hr2
    simp only [List.length_append, List.length_singleton]; omega
  · intro x hx
    rcases List.mem_append.mp hx with hx | hx
    · rw [List.mem_singleton.mp hx]; exact hcm
    · exact dgs_small _ x hx
  · rw [run_rt rfl q, trunc_len]
    obtain ⟨l, m, t, cs, _, rfl⟩ := S
    obtain ⟨l, m, t, cs, _, rfl⟩ := S2
    rfl

/-! ### the errors, made -/
section
variable {C : Cl} {loc : Loc}
theorem pv_xn0 {c : Nat} : PV C loc (.xn c []) (.xo c none) := fun _ => rfl
theorem pv_xn1 {c : Nat} {m : E} {z : Str} (hm : PV C loc m (.str z)) (w : Wd z) : PV C loc (.xn c [m]) (.xo c (some z)) := fun h => by
  show MH.bind (evEs C [m] loc) (fun vs => xnM c vs) h = _
  rw [b_ok (pvs_cons hm pvs_nil h)]
  show (if z.length ≤ 100000 ∧ (reprText z).length ≤ 1000000 then (pure (Val.t (T.xo c (some z))) : MH Val) else bad) h = _
  rw [if_pos (show z.length ≤ 100000 ∧ (reprText z).length ≤ 1000000 from w)]
  rfl
theorem pv_xnm {m : E} {c : Nat} {z : Str} (hm : PV C loc m (.xo c (some z))) : PV C loc (.op .xnm [m]) (.str z) := pv_op (pvs_cons hm pvs_nil) fun h => rfl
theorem pv_eqs {neg : Bool} {a b : E} {s t : Str} (ha : PV C loc a (.str s)) (hb : PV C loc b (.str t)) : PV C loc (.eqq neg a b) (.bl (decide (s = t) ^^ neg)) := fun h => by
  rw [x_eqq, b_ok (ha h), b_ok (hb h)]
  rfl
theorem pt_or3 {a b c : E} {k l m : Bool} (ha : PT C loc a k) (hb : PT C loc b l) (hc : PT C loc c m) : PT C loc (.or [a, b, c]) (k || (l || m)) := fun h => by
  show MH.bind (evT C a loc) (fun b1 => if b1 then (pure true : MH Bool) else MH.bind (evT C b loc) fun b2 => if b2 then (pure true : MH Bool) else MH.bind (evT C c loc) fun b3 => if b3 then (pure true : MH Bool) else pure false) h = _
  rw [b_ok (ha h)]
  cases k with
  | true => rfl
  | false =>
    rw [if_neg (by decide), b_ok (hb h)]
    cases l with
    | true => rfl
    | false =>
      rw [if_neg (by decide), b_ok (hc h)]
      cases m <;> rfl
end
def xP : List Nat := [1, 9, 10, 11, 16, 17, 18, 20, 21, 22, 24]
def xW : List Nat := [12, 13, 14, 15, 19, 23]
def xM : List Nat := [3, 25, 26]
def xs20 : List Nat := [1, 9, 10, 11, 16, 17, 18, 20, 21, 22, 24, 12, 13, 14, 15, 19, 23, 3, 25, 26]
def xoW (z : Str) (cs : List Nat) : List T := cs.map fun c => .xo c (some z)
theorem r57 {C : Cl} : run C fn57 [] [] = .ok (.t (.lst (xP.map fun c => .xo c none))) [] := by
  refine run_rt0 rfl ((ss_nx (st_set (x := .lst [.xo 1 none, .xo 9 none, .xo 10 none, .xo 11 none, .xo 16 none, .xo 17 none, .xo 18 none]) ?_)).trans (ss_rt (st_ret ?_)))
  · exact pv_lst (pvs_cons pv_xn0 (pvs_cons pv_xn0 (pvs_cons pv_xn0 (pvs_cons pv_xn0 (pvs_cons pv_xn0 (pvs_cons pv_xn0 (pvs_cons pv_xn0 pvs_nil)))))))
  · exact pv_addl (xs := [.xo 1 none, .xo 9 none, .xo 10 none, .xo 11 none, .xo 16 none, .xo 17 none, .xo 18 none]) (ys := [.xo 20 none, .xo 21 none, .xo 22 none, .xo 24 none]) (pv_var rfl) (pv_lst (pvs_cons pv_xn0 (pvs_cons pv_xn0 (pvs_cons pv_xn0 (pvs_cons pv_xn0 pvs_nil))))) (by decide)
/-- False in [True, ..] -/
theorem toDs_bl : ∀ n : Nat, T.toDs (List.replicate n (T.bl true)) = some (List.replicate n (.bool true))
  | 0 => rfl
  | n + 1 => by
    rw [List.replicate_succ, List.replicate_succ]
    show (match (T.bl true).toD, T.toDs (List.replicate n (T.bl true)) with | some d, some ds => some (d :: ds) | _, _ => none) = _
    rw [toDs_bl n]
    rfl
theorem can_bl : ∀ n : Nat, PyData.canLayAll0 (List.replicate n (.bool true)) = true ∧ PyData.depthAll (List.replicate n (.bool true)) = 0
  | 0 => ⟨rfl, rfl⟩
  | n + 1 => by
    rw [List.replicate_succ, PyData.canLayAll0, PyData.depthAll, (can_bl n).1, (can_bl n).2]
    exact ⟨rfl, rfl⟩
theorem pt_inN {C : Cl} {loc : Loc} {e : E} {n : Nat} (he : PV C loc e (.lst (List.replicate n (.bl true)))) : PT C loc (.inn true (.bl false) e) true := fun h => by
  rw [y_inn, b_ok (x_bl false), b_ok (he h)]
  have d1 : dataOf (.t (.bl false)) h = .ok (.bool false) h := by
    have : (T.bl false).data = some (.bool false) := by
      show (if SeqAt.shaped (.bool false) then some (PyData.bool false) else none) = _
      rw [if_pos]
      rfl
    show (match (some (T.bl false)).bind T.data with | some d => RH.ok d h | none => .bad) = _
    rw [Option.bind_some, this]
  have d2 : dataOf (.t (.lst (List.replicate n (.bl true)))) h = .ok (.list (List.replicate n (.bool true))) h := by
    have t1 : (T.lst (List.replicate n (.bl true))).toD = some (.list (List.replicate n (.bool true))) := by
      show (T.toDs (List.replicate n (T.bl true))).map PyData.list = _
      rw [toDs_bl]
      rfl
    have t2 : (T.lst (List.replicate n (.bl true))).data = some (.list (List.replicate n (.bool true))) := by
      unfold T.data
      rw [t1]
      dsimp only
      rw [if_pos]
      unfold SeqAt.shaped
      rw [PyData.canLay0, (can_bl n).1, PyData.depth, (can_bl n).2]
      rfl
    show (match (some (T.lst (List.replicate n (.bl true)))).bind T.data with | some d => RH.ok d h | none => .bad) = _
    rw [Option.bind_some, t2]
  have q : innM C true (.t (.bl false)) (.t (.lst (List.replicate n (.bl true)))) h = .ok (.t (.bl true)) h := by
    show (MH.bind (dataOf (.t (.bl false))) fun d => MH.bind (dataOf (.t (.lst (List.replicate n (.bl true))))) fun e => match e with
      | .list es => bl (es.any (fun x => PyData.eqv x d) ^^ true)
      | .tuple es => bl (es.any (fun x => PyData.eqv x d) ^^ true)
      | _ => bad) h = _
    rw [b_ok d1, b_ok d2]
    dsimp only
    rw [show ((List.replicate n (PyData.bool true)).any fun x => PyData.eqv x (.bool false)) = false by
      rw [List.any_eq_false]
      intro x hx
      rw [List.eq_of_mem_replicate hx]
      simp [PyData.eqv]]
    rfl
  rw [b_ok q]
  rfl
/-- all of them have the name -/
theorem pt_named {C : Cl} {z : Str} {cs : List Nat} (hl : cs.length ≤ 100) {x : Option Val} : PT C [some (.t (.str z)), some (.t (.lst (xoW z cs))), x] (.inn true (.bl false) (.lc false [2] (.v 2) (.seq (.var 1)) [] (.eqq false (.op .xnm [.var 2]) (.var 0)))) true := by
  have e : PV C [some (.t (.str z)), some (.t (.lst (xoW z cs))), x] (.lc false [2] (.v 2) (.seq (.var 1)) [] (.eqq false (.op .xnm [.var 2]) (.var 0))) (.lst ((xoW z cs).map fun _ => .bl true)) := by
    refine pv_lc (fun _ => .bl true) (pi_lst (pv_var rfl)) ?_ fun y hy => ?_
    · have hL : (100 : Nat) ≤ SL := by decide
      unfold xoW
      rw [List.length_map]; omega
    · obtain ⟨c, _, rfl⟩ := List.mem_map.mp hy
      refine ⟨_, rfl, ?_⟩
      have q := pv_eqs (C := C) (neg := false) (pv_xnm (pv_var (loc := [some (.t (.str z)), some (.t (.lst (xoW z cs))), some (.t (.xo c (some z)))]) (i := 2) rfl)) (pv_var (i := 0) rfl)
      rw [decide_eq_true rfl] at q
      exact q
  refine pt_inN (n := cs.length) ?_
  rw [← show (xoW z cs).map (fun _ => T.bl true) = List.replicate cs.length (.bl true) by rw [List.map_const', xoW, List.length_map]]
  exact e
theorem r58 {C : Cl} {z : Str} (w : Wd z) : run C fn58 [.t (.str z)] [] = .ok (.t (.lst (xoW z xW))) [] := by
  have v : ∀ {c : Nat}, PV C (startL fn58 [.t (.str z)]) (.xn c [.var 0]) (.xo c (some z)) := fun {c} => pv_xn1 (pv_var rfl) w
  refine run_rt0 rfl ((ss_nx (st_set (x := .lst (xoW z xW)) ?_)).trans (ss_rt (st_ret (pv_ifx (k := true) (pt_named (by decide)) (pv_var rfl)))))
  exact pv_lst (pvs_cons v (pvs_cons v (pvs_cons v (pvs_cons v (pvs_cons v (pvs_cons v pvs_nil))))))
theorem r59 {C : Cl} {z : Str} (w : Wd z) : run C fn59 [.t (.str z)] [] = .ok (.t (.lst (xoW z xM))) [] := by
  have v : ∀ {c : Nat}, PV C (startL fn59 [.t (.str z)]) (.xn c [.var 0]) (.xo c (some z)) := fun {c} => pv_xn1 (pv_var rfl) w
  refine run_rt0 rfl ((ss_nx (st_set (x := .lst (xoW z xM)) ?_)).trans (ss_rt (st_ret (pv_ifx (k := true) (pt_named (by decide)) (pv_var rfl)))))
  exact pv_lst (pvs_cons v (pvs_cons v (pvs_cons v pvs_nil)))
/-! ### of which class an error is -/
def rowB (c : Nat) : List Bool := xs20.map fun d => isaT (1000 + c) (1000 + d)
theorem r60 {k c : Nat} {a : Option Str} : run (cc k) fn60 [.t (.xo c a)] [] = .ok (.t (.lst (((List.range 20).filter fun i => (rowB c).getD i false).map fun i => .int (i : Nat)))) [] := by
  have v : ∀ {d : Nat}, PV (cc k) (startL fn60 [.t (.xo c a)]) (.isi (.var 0) [.xc d]) (.bl (isaT (1000 + c) (1000 + d))) := fun {d} => by
    have q := pv_is (C := cc k) (sp := [.xc d]) (pv_var (loc := startL fn60 [.t (.xo c a)]) (i := 0) (x := .xo c a) rfl) rfl
    rw [show ([Sp.xc d].any fun s => tyIs (cc k).isa (.xo c) s) = isaT (1000 + c) (1000 + d) by rw [List.any_cons, List.any_nil, Bool.or_false]; rfl] at q
    exact q
  refine run_rt0 rfl ((ss_nx (st_set (x := .lst ((rowB c).map .bl)) ?_)).trans (ss_rt (st_ret ?_)))
  · exact pv_lst (pvs_cons v (pvs_cons v (pvs_cons v (pvs_cons v (pvs_cons v (pvs_cons v (pvs_cons v (pvs_cons v (pvs_cons v (pvs_cons v (pvs_cons v (pvs_cons v (pvs_cons v (pvs_cons v (pvs_cons v (pvs_cons v (pvs_cons v (pvs_cons v (pvs_cons v (pvs_cons v pvs_nil))))))))))))))))))))
  · refine pv_lcF (fun i : Nat => .int (i : Nat)) (fun i => (rowB c).getD i false) (pi_rng (n := 20) ?_ (by decide)) (by decide) fun i hi => ?_
    · have q : PV (cc k) (wipeL [some (.t (.xo c a)), some (.t (.lst ((rowB c).map .bl))), none] [2]) (.op .len [.var 1]) (.int (((rowB c).map T.bl).length : Nat)) := pv_op (pvs_cons (pv_var rfl) pvs_nil) fun h => o_lenl
      exact q
    · refine ⟨_, rfl, ?_, pv_var rfl⟩
      have hi := List.mem_range.mp hi
      refine pt_opt (pvs_cons (x := .lst ((rowB c).map .bl)) (pv_var rfl) (pvs_cons (pv_var rfl) pvs_nil)) rfl fun h => o_idxl ?_
      rw [List.getElem?_map, List.getD_eq_getElem?_getD, List.getElem?_eq_getElem (show i < (rowB c).length from hi)]
      rfl

theorem row_one : ∀ p < 20, ((List.range 20).filter fun i => (rowB (xs20.getD p 0)).getD i false) = [p] := by decide +kernel
theorem c60 {k p : Nat} (hp : p < 20) {a : Option Str} : (cc (k + 1)).fn 60 [.t (.xo (xs20.getD p 0) a)] [] = .ok (.t (.lst [.int (p : Nat)])) [] := by
  rw [fn_at k 60 fn60 _ _ rfl, r60, row_one p hp]
  rfl
theorem ev_callA {C : Cl} {loc : Loc} {h h1 h2 : List Ob} {f : Nat} {a : E} {x y : T} (e1 : evE C a loc h = .ok (.t y) h1) (e : C.fn f [.t y] [] = .ok (.t x) h2) : evE C (.call false f [a]) loc h = .ok (.t x) h1 := by
  have q : evEs C [a] loc h = .ok [.t y] h1 := by
    show MH.bind (evE C a loc) (fun v => MH.bind (evEs C [] loc) fun vs => (pure (v :: vs) : MH (List Val))) h = _
    rw [b_ok e1]; rfl
  have p := pv_call (C := C) (loc := [some (.t y)]) (f := f) (es := [.var 0]) (xs := [y]) (pvs_cons (pv_var rfl) pvs_nil) e h1
  show MH.bind (evEs C [a] loc) (fun vs => callM C false f vs) h = _
  rw [b_ok q]
  have p : MH.bind (evEs C [.var 0] [some (.t y)]) (fun vs => callM C false f vs) h1 = _ := p
  rw [b_ok (pvs_cons (pv_var (i := 0) (x := y) rfl) pvs_nil h1)] at p
  exact p
def aaO (z z2 : Str) (p : Nat) : Option Str := if p < 11 then none else if p < 17 then some z else some z2
def rowsT (z : Str) : List T := (xP.map fun c => .xo c none) ++ xoW z xW
theorem rows_all (z z2 : Str) : rowsT z ++ xoW z2 xM = (List.range 20).map fun p => .xo (xs20.getD p 0) (aaO z z2 p) := rfl
abbrev L21 (ns : List Int) (z : Str) (z2 : Str) (v5 v6 : Option Val) : Loc := [some (.t (.scr ns)), some (.ref 0), some (.t (.str z)), some (.t (.lst (rowsT z))), some (.t (.lst (xoW z2 xM))), v5, v6]
theorem pt_xc {k : Nat} {loc : Loc} {c d : Nat} {a : Option Str} (e : loc[5]? = some (some (.t (.xo c a)))) : PT (cc k) loc (.isi (.var 5) [.xc d]) (isaT (1000 + c) (1000 + d)) := by
  have q := pt_is (C := cc k) (sp := [.xc d]) (pv_var (loc := loc) (i := 5) (x := .xo c a) e) rfl
  rw [show ([Sp.xc d].any fun s => tyIs (cc k).isa (.xo c) s) = isaT (1000 + c) (1000 + d) by rw [List.any_cons, List.any_nil, Bool.or_false]; rfl] at q
  exact q
theorem in_val : ∀ c ∈ xP ++ xW, isaT (1000 + c) (1000 + 501) = true ∧ isaT (1000 + c) (1000 + 0) = true ∧ isaT (1000 + c) (1000 + 2) = false := by decide +kernel
theorem in_lost : ∀ c ∈ xM, isaT (1000 + c) (1000 + 502) = true ∧ isaT (1000 + c) (1000 + 2) = true ∧ isaT (1000 + c) (1000 + 0) = false ∧ isaT (1000 + c) (1000 + 503) = false ∧ isaT (1000 + c) (1000 + 504) = false := by decide +kernel
theorem find_no (xs : List T) : xs.findSome? (fun _ => (none : Option T)) = none := by induction xs with
  | nil => rfl
  | cons x xs ih => rw [List.findSome?_cons]; exact ih
theorem r21 {k : Nat} {ns : List Int} (hn : ns.length ≤ 63) : ∃ h', run (cc (k + 3)) fn21 [.t (.scr ns)] [] = .ok (.t (.bl true)) h' := by
  obtain ⟨hA, SA, eA⟩ := r14 (C := cc (k + 2)) hn
  obtain ⟨z, hB, wz, SB, eB⟩ := r56 (pk_cc (k + 1)) SA
  obtain ⟨z2, hC, wz2, SC, eC⟩ := r56 (pk_cc (k + 1)) SB
  have w1 : exS (cc (k + 3)) (.set 1 (.call true 14 [(.var 0)])) [some (.t (.scr ns)), none, none, none, none, none, none] [] = .ok (.nx [some (.t (.scr ns)), some (.ref 0), none, none, none, none, none]) hA := k_set (ev_call1 (ev_var rfl) ((fn_at (k + 2) 14 fn14 _ _ rfl).trans eA))
  have w2 : exS (cc (k + 3)) (.set 2 (.call true 56 [(.var 1)])) [some (.t (.scr ns)), some (.ref 0), none, none, none, none, none] hA = .ok (.nx [some (.t (.scr ns)), some (.ref 0), some (.t (.str z)), none, none, none, none]) hB := k_set (ev_call1 (ev_ref rfl SA.n0) ((fn_at (k + 2) 56 fn56 _ _ rfl).trans eB))
  have w3 : exS (cc (k + 3)) (.set 3 (.op .add [(.call false 57 []), (.call false 58 [(.var 2)])])) [some (.t (.scr ns)), some (.ref 0), some (.t (.str z)), none, none, none, none] hB = .ok (.nx [some (.t (.scr ns)), some (.ref 0), some (.t (.str z)), some (.t (.lst (rowsT z))), none, none, none]) hB := by
    refine st_set (pv_addl (pv_call (xs := []) pvs_nil ((fn_at (k + 2) 57 fn57 _ _ rfl).trans r57)) (pv_call (xs := [.str z]) (pvs_cons (pv_var rfl) pvs_nil) ((fn_at (k + 2) 58 fn58 _ _ rfl).trans (r58 wz))) (by show 11 + 6 ≤ 1000; decide))
  have w4 : exS (cc (k + 3)) (.set 4 (.call false 59 [(.call true 56 [(.var 1)])])) [some (.t (.scr ns)), some (.ref 0), some (.t (.str z)), some (.t (.lst (rowsT z))), none, none, none] hB = .ok (.nx (L21 ns z z2 none none)) hC :=
    k_set (ev_callA (ev_call1 (ev_ref rfl SB.n0) ((fn_at (k + 2) 56 fn56 _ _ rfl).trans eC)) ((fn_at (k + 2) 59 fn59 _ _ rfl).trans (r59 wz2)))
  have t1 : PT (cc (k + 3)) (L21 ns z z2 none none) (.or [(.eqq true (.op .len [(.var 3)]) (.int 17)), (.eqq true (.op .len [(.var 4)]) (.int 3))]) false :=
    pt_or2 (k := false) (l := false) (pt_eqi (s := 17) (t := 17) (pv_op (pvs_cons (x := .lst (rowsT z)) (pv_var rfl) pvs_nil) fun h => o_lenl) pv_int) fun _ => pt_eqi (s := 3) (t := 3) (pv_op (pvs_cons (x := .lst (xoW z2 xM)) (pv_var rfl) pvs_nil) fun h => o_lenl) pv_int
  have t2 : PT (cc (k + 3)) (L21 ns z z2 none none) (.eqq true (.lc false [5] (.v 5) (.seq (.op .add [(.var 3), (.var 4)])) [] (.call false 60 [(.var 5)])) (.lc false [6] (.v 6) (.rng1 (.int 20)) [] (.lst false [(.var 6)]))) false := by
    have a : PV (cc (k + 3)) (L21 ns z z2 none none) (.lc false [5] (.v 5) (.seq (.op .add [(.var 3), (.var 4)])) [] (.call false 60 [(.var 5)])) (.lst ((List.range 20).map fun p => .lst [.int (p : Nat)])) := by
      refine pv_lcA (fun p : Nat => .xo (xs20.getD p 0) (aaO z z2 p)) (fun p => .lst [.int (p : Nat)]) ?_ (by decide) fun p hp => ⟨_, rfl, ?_⟩
      · rw [← rows_all]
        exact pi_lst (pv_addl (pv_var rfl) (pv_var rfl) (by show 17 + 3 ≤ 1000; decide))
      · exact pv_call (xs := [.xo (xs20.getD p 0) (aaO z z2 p)]) (pvs_cons (pv_var rfl) pvs_nil) (c60 (List.mem_range.mp hp))
    have b : PV (cc (k + 3)) (L21 ns z z2 none none) (.lc false [6] (.v 6) (.rng1 (.int 20)) [] (.lst false [(.var 6)])) (.lst ((List.range 20).map fun p => .lst [.int (p : Nat)])) := by
      refine pv_lcA (fun p : Nat => .int (p : Nat)) (fun p => .lst [.int (p : Nat)]) (pi_rng (n := 20) pv_int (by decide)) (by decide) fun p hp => ⟨_, rfl, ?_⟩
      exact pv_lst (pvs_cons (pv_var rfl) pvs_nil)
    exact pt_eqp (k := 2) (m := 2) (neg := true) (b := true) a b (by decide +kernel) (by decide +kernel) (by decide) (by decide) ⟨fun _ => rfl, fun _ => rfl⟩
  obtain ⟨l5, w5, v5, e5⟩ : Found (fun l => ∃ v, l = L21 ns z z2 v none) hC none (exS (cc (k + 3)) (.fr (.v 5) (.seq (.var 3)) [.iff (.or [(.nott (.isi (.var 5) [.xc 501])), (.nott (.isi (.var 5) [.xc 0])), (.isi (.var 5) [.xc 2])]) [.ret false (.bl false)] []]) (L21 ns z z2 none none) hC) := by
    rw [st_seq (pi_lst (pv_var (x := .lst (rowsT z)) rfl)), ← find_no (rowsT z)]
    refine forM_find (fun _ => none) _ _ (fun x hx loc hl => ?_) ⟨none, rfl⟩
    obtain ⟨v, rfl⟩ := hl
    refine ⟨L21 ns z z2 (some (.t x)) none, rfl, L21 ns z z2 (some (.t x)) none, ?_, _, rfl⟩
    obtain ⟨c, a, rfl, hc⟩ : ∃ c a, x = .xo c a ∧ c ∈ xP ++ xW := by
      rcases List.mem_append.mp hx with q | q
      · obtain ⟨c, hc, rfl⟩ := List.mem_map.mp q; exact ⟨c, none, rfl, List.mem_append.mpr (.inl hc)⟩
      · obtain ⟨c, hc, rfl⟩ := List.mem_map.mp q; exact ⟨c, some z, rfl, List.mem_append.mpr (.inr hc)⟩
    obtain ⟨i1, i2, i3⟩ := in_val c hc
    have q := pt_or3 (pt_nott (pt_xc (k := k + 3) (d := 501) (loc := L21 ns z z2 (some (.t (.xo c a))) none) rfl)) (pt_nott (pt_xc (d := 0) rfl)) (pt_xc (d := 2) rfl)
    rw [i1, i2, i3] at q
    exact (ss_ifF q).trans rfl
  obtain ⟨l6, w6, v6, e6⟩ : Found (fun l => ∃ v, l = L21 ns z z2 v none) hC none (exS (cc (k + 3)) (.fr (.v 5) (.seq (.var 4)) [.iff (.or [(.nott (.isi (.var 5) [.xc 502])), (.nott (.isi (.var 5) [.xc 2])), (.isi (.var 5) [.xc 0])]) [.ret false (.bl false)] [], .iff (.or [(.isi (.var 5) [.xc 503]), (.isi (.var 5) [.xc 504])]) [.ret false (.bl false)] []]) l5 hC) := by
    subst e5
    rw [st_seq (pi_lst (pv_var (x := .lst (xoW z2 xM)) rfl)), ← find_no (xoW z2 xM)]
    refine forM_find (fun _ => none) _ _ (fun x hx loc hl => ?_) ⟨v5, rfl⟩
    obtain ⟨v, rfl⟩ := hl
    refine ⟨L21 ns z z2 (some (.t x)) none, rfl, L21 ns z z2 (some (.t x)) none, ?_, _, rfl⟩
    obtain ⟨c, hc, rfl⟩ := List.mem_map.mp hx
    obtain ⟨i1, i2, i3, i4, i5⟩ := in_lost c hc
    have q := pt_or3 (pt_nott (pt_xc (k := k + 3) (d := 502) (loc := L21 ns z z2 (some (.t (.xo c (some z2)))) none) rfl)) (pt_nott (pt_xc (d := 2) rfl)) (pt_xc (d := 0) rfl)
    rw [i1, i2, i3] at q
    have q2 := pt_or2 (pt_xc (k := k + 3) (d := 503) (loc := L21 ns z z2 (some (.t (.xo c (some z2)))) none) rfl) fun _ => pt_xc (d := 504) rfl
    rw [i4, i5] at q2
    exact (ss_ifF q).trans ((ss_ifF q2).trans rfl)
  have fin : exSs (cc (k + 3)) fn21.body (startL fn21 [.t (.scr ns)]) [] = .ok (.ret (.t (.bl true))) hC :=
    (ss_nx w1).trans ((ss_nx w2).trans ((ss_nx w3).trans ((ss_nx w4).trans ((ss_ifF t1).trans ((ss_ifF t2).trans ((ss_nx w5).trans ((ss_nx w6).trans (ss_rt (st_ret pv_bl)))))))))
  exact ⟨_, run_rt rfl fin⟩
theorem tot : ∀ ns : List Int, ns.length ≤ 63 → ∃ h', (G.ff 40).1 21 [.t (.scr ns)] [] = .ok (.t (.bl true)) h' := fun ns hn => by
  obtain ⟨h', e⟩ := r21 (k := 36) hn
  exact ⟨h', (fn_at 39 21 fn21 _ _ rfl).trans e⟩
end MS

set_option Elab.async false
set_option linter.all false
set_option maxRecDepth 100000
set_option maxHeartbeats 0
namespace MS
open PySem PySem.Spec PyProof.Rows L2
theorem fldN_ne {m : Str} (h1 : (fldNames.contains m) = false) (h2 : ("?" : Str) ≠ m) : ∀ g, fldN g ≠ m := fun g e => by
  unfold fldN at e
  rw [List.getD_eq_getElem?_getD] at e
  cases q : fldNames[g]? with
  | none => rw [q] at e; exact h2 e
  | some x =>
    rw [q] at e
    have e : x = m := e
    subst e
    have := List.contains_iff_mem.mpr (List.mem_of_getElem? q)
    rw [h1] at this
    cases this
theorem lk_nil {P : Str → Nat → Prop} : ∀ x f, ([] : List (Str × Nat)).lookup x = some f → P x f := fun x f h => by cases h
theorem lk_cons {P : Str → Nat → Prop} {y : Str} {v : Nat} {l : List (Str × Nat)} (h1 : P y v) (h2 : ∀ x f, l.lookup x = some f → P x f) : ∀ x f, ((y, v) :: l).lookup x = some f → P x f := fun x f h => by
  rw [List.lookup_cons] at h
  cases e : x == y with
  | true =>
    rw [e] at h
    cases h
    cases eq_of_beq e
    exact h1
  | false => rw [e] at h; exact h2 x f h
theorem ct_nil {P : Str → Prop} : ∀ x, ([] : List Str).contains x = true → P x := fun x h => by cases h
theorem ct_cons {P : Str → Prop} {y : Str} {l : List Str} (h1 : P y) (h2 : ∀ x, l.contains x = true → P x) : ∀ x, (y :: l).contains x = true → P x := fun x h => by
  rw [List.contains_cons, Bool.or_eq_true] at h
  rcases h with h | h
  · cases eq_of_beq h
    exact h1
  · exact h2 x h
abbrev gam (w : World) (K : PySem.W.Frag) (mg : Str → Option Value) (base : Heap) ( X1 X9 X10 X11 X12 X13 X14 X15 X16 X17 X18 X19 X20 X21 X22 X23 X24 X3 X25 X26 X0 X2 : Addr) : Run := ⟨prg, w, K, mg, base, fun _ => 0, fun c => xA0 X1 X9 X10 X11 X12 X13 X14 X15 X16 X17 X18 X19 X20 X21 X22 X23 X24 X3 X25 X26 X0 X2 (nrX c), fun _ => false, true⟩
abbrev inf (f14 f15 f56 f57 f58 f59 f60 f21 f1 f38 f39 f40 f41 f42 f43 f44 f45 f46 f47 f48 f49 f50 f51 f52 f53 f2 f54 f55 : Addr) (d14 d15 d56 d57 d58 d59 d60 d21 d1 d38 d39 d40 d41 d42 d43 d44 d45 d46 d47 d48 d49 d50 d51 d52 d53 d2 d54 d55 : FuncData) : Info := ⟨fun f => (fnT f).isSome, fA0 f14 f15 f56 f57 f58 f59 f60 f21 f1 f38 f39 f40 f41 f42 f43 f44 f45 f46 f47 f48 f49 f50 f51 f52 f53 f2 f54 f55, fd0 d14 d15 d56 d57 d58 d59 d60 d21 d1 d38 d39 d40 d41 d42 d43 d44 d45 d46 d47 d48 d49 d50 d51 d52 d53 d2 d54 d55, psT, mNm, spsT, posT⟩
theorem law_of {w : World} {K : PySem.W.Frag} {mg : Str → Option Value} {base : Heap} { X1 X9 X10 X11 X12 X13 X14 X15 X16 X17 X18 X19 X20 X21 X22 X23 X24 X3 X25 X26 X0 X2 f14 f15 f56 f57 f58 f59 f60 f21 f1 f38 f39 f40 f41 f42 f43 f44 f45 f46 f47 f48 f49 f50 f51 f52 f53 f2 f54 f55 : Addr} {d14 d15 d56 d57 d58 d59 d60 d21 d1 d38 d39 d40 d41 d42 d43 d44 d45 d46 d47 d48 d49 d50 d51 d52 d53 d2 d54 d55 : FuncData} 
    (F14 : Fun K "_law_source" "_law_source" s14 f14 d14)
    (F15 : Fun K "_law_pick" "_law_pick" s15 f15 d15)
    (F56 : Fun K "_law_word" "_law_word" s56 f56 d56)
    (F57 : Fun K "_law_plain" "_law_plain" s57 f57 d57)
    (F58 : Fun K "_law_named" "_law_named" s58 f58 d58)
    (F59 : Fun K "_law_missing" "_law_missing" s59 f59 d59)
    (F60 : Fun K "_law_classes" "_law_classes" s60 f60 d60)
    (F21 : Fun K "law" "law" s21 f21 d21)
    (F1 : FunK K "__init__" "BadMonoid.__init__" s1 f1 X1 d1)
    (b1 : Binds K d1 (psT 1) [])
    (XC1 : ExC K veB X1)
    (F38 : FunK K "__init__" "BadKind.__init__" s38 f38 X9 d38)
    (b38 : Binds K d38 (psT 38) [])
    (XC9 : ExC K veB X9)
    (F39 : FunK K "__init__" "BadValue.__init__" s39 f39 X10 d39)
    (b39 : Binds K d39 (psT 39) [])
    (XC10 : ExC K veB X10)
    (F40 : FunK K "__init__" "TooMany.__init__" s40 f40 X11 d40)
    (b40 : Binds K d40 (psT 40) [])
    (XC11 : ExC K veB X11)
    (F41 : FunK K "__init__" "BadName.__init__" s41 f41 X12 d41)
    (b41 : Binds K d41 (psT 41) [])
    (XC12 : ExC K veB X12)
    (F42 : FunK K "__init__" "TwiceTold.__init__" s42 f42 X13 d42)
    (b42 : Binds K d42 (psT 42) [])
    (XC13 : ExC K veB X13)
    (F43 : FunK K "__init__" "NoStep.__init__" s43 f43 X14 d43)
    (b43 : Binds K d43 (psT 43) [])
    (XC14 : ExC K veB X14)
    (F44 : FunK K "__init__" "NotClosed.__init__" s44 f44 X15 d44)
    (b44 : Binds K d44 (psT 44) [])
    (XC15 : ExC K veB X15)
    (F45 : FunK K "__init__" "MixedKinds.__init__" s45 f45 X16 d45)
    (b45 : Binds K d45 (psT 45) [])
    (XC16 : ExC K veB X16)
    (F46 : FunK K "__init__" "MixedSystems.__init__" s46 f46 X17 d46)
    (b46 : Binds K d46 (psT 46) [])
    (XC17 : ExC K veB X17)
    (F47 : FunK K "__init__" "BadImages.__init__" s47 f47 X18 d47)
    (b47 : Binds K d47 (psT 47) [])
    (XC18 : ExC K veB X18)
    (F48 : FunK K "__init__" "NotKept.__init__" s48 f48 X19 d48)
    (b48 : Binds K d48 (psT 48) [])
    (XC19 : ExC K veB X19)
    (F49 : FunK K "__init__" "BadSaying.__init__" s49 f49 X20 d49)
    (b49 : Binds K d49 (psT 49) [])
    (XC20 : ExC K veB X20)
    (F50 : FunK K "__init__" "BadBehaviour.__init__" s50 f50 X21 d50)
    (b50 : Binds K d50 (psT 50) [])
    (XC21 : ExC K veB X21)
    (F51 : FunK K "__init__" "BadTurn.__init__" s51 f51 X22 d51)
    (b51 : Binds K d51 (psT 51) [])
    (XC22 : ExC K veB X22)
    (F52 : FunK K "__init__" "OpenState.__init__" s52 f52 X23 d52)
    (b52 : Binds K d52 (psT 52) [])
    (XC23 : ExC K veB X23)
    (F53 : FunK K "__init__" "NothingDone.__init__" s53 f53 X24 d53)
    (b53 : Binds K d53 (psT 53) [])
    (XC24 : ExC K veB X24)
    (F2 : FunK K "__init__" "UnknownMember.__init__" s2 f2 X3 d2)
    (b2 : Binds K d2 (psT 2) [])
    (XC3 : ExC K luB X3)
    (F54 : FunK K "__init__" "UnknownState.__init__" s54 f54 X25 d54)
    (b54 : Binds K d54 (psT 54) [])
    (XC25 : ExC K luB X25)
    (F55 : FunK K "__init__" "NotTold.__init__" s55 f55 X26 d55)
    (b55 : Binds K d55 (psT 55) [])
    (XC26 : ExC K luB X26)
    (b14 : Binds K d14 (psT 14) [])
    (b15 : Binds K d15 (psT 15) [])
    (b56 : Binds K d56 (psT 56) [])
    (b57 : Binds K d57 (psT 57) [])
    (b58 : Binds K d58 (psT 58) [])
    (b59 : Binds K d59 (psT 59) [])
    (b60 : Binds K d60 (psT 60) [])
    (b21 : Binds K d21 (psT 21) [])
    (i14 : PySem.W.isFn K (.ref f14) = true)
    (i15 : PySem.W.isFn K (.ref f15) = true)
    (i56 : PySem.W.isFn K (.ref f56) = true)
    (i57 : PySem.W.isFn K (.ref f57) = true)
    (i58 : PySem.W.isFn K (.ref f58) = true)
    (i59 : PySem.W.isFn K (.ref f59) = true)
    (i60 : PySem.W.isFn K (.ref f60) = true)
    (i21 : PySem.W.isFn K (.ref f21) = true)
    (xcl1 : (PySem.W.clsIn K X1).isSome = true)
    (xg1 : PySem.W.findIn K (.ref X1) "__getattribute__" = some (some (.builtin "BaseException.__getattribute__")))
    (xh1 : PySem.W.findIn K (.ref X1) "__getattr__" = some none)
    (xd1 : PySem.W.hasDictIn K X1 = true)
    (xca1 : PySem.W.findIn K (.ref X1) "__class__" = some (some (.builtin "object.__class__")))
    (xob1 : PySem.W.mroIn K X1 (.type "object") = some true)
    (xo1 : PySem.W.findIn K (.ref X1) "name" = some none)
    (xcl9 : (PySem.W.clsIn K X9).isSome = true)
    (xg9 : PySem.W.findIn K (.ref X9) "__getattribute__" = some (some (.builtin "BaseException.__getattribute__")))
    (xh9 : PySem.W.findIn K (.ref X9) "__getattr__" = some none)
    (xd9 : PySem.W.hasDictIn K X9 = true)
    (xca9 : PySem.W.findIn K (.ref X9) "__class__" = some (some (.builtin "object.__class__")))
    (xob9 : PySem.W.mroIn K X9 (.type "object") = some true)
    (xo9 : PySem.W.findIn K (.ref X9) "name" = some none)
    (xcl10 : (PySem.W.clsIn K X10).isSome = true)
    (xg10 : PySem.W.findIn K (.ref X10) "__getattribute__" = some (some (.builtin "BaseException.__getattribute__")))
    (xh10 : PySem.W.findIn K (.ref X10) "__getattr__" = some none)
    (xd10 : PySem.W.hasDictIn K X10 = true)
    (xca10 : PySem.W.findIn K (.ref X10) "__class__" = some (some (.builtin "object.__class__")))
    (xob10 : PySem.W.mroIn K X10 (.type "object") = some true)
    (xo10 : PySem.W.findIn K (.ref X10) "name" = some none)
    (xcl11 : (PySem.W.clsIn K X11).isSome = true)
    (xg11 : PySem.W.findIn K (.ref X11) "__getattribute__" = some (some (.builtin "BaseException.__getattribute__")))
    (xh11 : PySem.W.findIn K (.ref X11) "__getattr__" = some none)
    (xd11 : PySem.W.hasDictIn K X11 = true)
    (xca11 : PySem.W.findIn K (.ref X11) "__class__" = some (some (.builtin "object.__class__")))
    (xob11 : PySem.W.mroIn K X11 (.type "object") = some true)
    (xo11 : PySem.W.findIn K (.ref X11) "name" = some none)
    (xcl12 : (PySem.W.clsIn K X12).isSome = true)
    (xg12 : PySem.W.findIn K (.ref X12) "__getattribute__" = some (some (.builtin "BaseException.__getattribute__")))
    (xh12 : PySem.W.findIn K (.ref X12) "__getattr__" = some none)
    (xd12 : PySem.W.hasDictIn K X12 = true)
    (xca12 : PySem.W.findIn K (.ref X12) "__class__" = some (some (.builtin "object.__class__")))
    (xob12 : PySem.W.mroIn K X12 (.type "object") = some true)
    (xo12 : PySem.W.findIn K (.ref X12) "name" = some none)
    (xcl13 : (PySem.W.clsIn K X13).isSome = true)
    (xg13 : PySem.W.findIn K (.ref X13) "__getattribute__" = some (some (.builtin "BaseException.__getattribute__")))
    (xh13 : PySem.W.findIn K (.ref X13) "__getattr__" = some none)
    (xd13 : PySem.W.hasDictIn K X13 = true)
    (xca13 : PySem.W.findIn K (.ref X13) "__class__" = some (some (.builtin "object.__class__")))
    (xob13 : PySem.W.mroIn K X13 (.type "object") = some true)
    (xo13 : PySem.W.findIn K (.ref X13) "name" = some none)
    (xcl14 : (PySem.W.clsIn K X14).isSome = true)
    (xg14 : PySem.W.findIn K (.ref X14) "__getattribute__" = some (some (.builtin "BaseException.__getattribute__")))
    (xh14 : PySem.W.findIn K (.ref X14) "__getattr__" = some none)
    (xd14 : PySem.W.hasDictIn K X14 = true)
    (xca14 : PySem.W.findIn K (.ref X14) "__class__" = some (some (.builtin "object.__class__")))
    (xob14 : PySem.W.mroIn K X14 (.type "object") = some true)
    (xo14 : PySem.W.findIn K (.ref X14) "name" = some none)
    (xcl15 : (PySem.W.clsIn K X15).isSome = true)
    (xg15 : PySem.W.findIn K (.ref X15) "__getattribute__" = some (some (.builtin "BaseException.__getattribute__")))
    (xh15 : PySem.W.findIn K (.ref X15) "__getattr__" = some none)
    (xd15 : PySem.W.hasDictIn K X15 = true)
    (xca15 : PySem.W.findIn K (.ref X15) "__class__" = some (some (.builtin "object.__class__")))
    (xob15 : PySem.W.mroIn K X15 (.type "object") = some true)
    (xo15 : PySem.W.findIn K (.ref X15) "name" = some none)
    (xcl16 : (PySem.W.clsIn K X16).isSome = true)
    (xg16 : PySem.W.findIn K (.ref X16) "__getattribute__" = some (some (.builtin "BaseException.__getattribute__")))
    (xh16 : PySem.W.findIn K (.ref X16) "__getattr__" = some none)
    (xd16 : PySem.W.hasDictIn K X16 = true)
    (xca16 : PySem.W.findIn K (.ref X16) "__class__" = some (some (.builtin "object.__class__")))
    (xob16 : PySem.W.mroIn K X16 (.type "object") = some true)
    (xo16 : PySem.W.findIn K (.ref X16) "name" = some none)
    (xcl17 : (PySem.W.clsIn K X17).isSome = true)
    (xg17 : PySem.W.findIn K (.ref X17) "__getattribute__" = some (some (.builtin "BaseException.__getattribute__")))
    (xh17 : PySem.W.findIn K (.ref X17) "__getattr__" = some none)
    (xd17 : PySem.W.hasDictIn K X17 = true)
    (xca17 : PySem.W.findIn K (.ref X17) "__class__" = some (some (.builtin "object.__class__")))
    (xob17 : PySem.W.mroIn K X17 (.type "object") = some true)
    (xo17 : PySem.W.findIn K (.ref X17) "name" = some none)
    (xcl18 : (PySem.W.clsIn K X18).isSome = true)
    (xg18 : PySem.W.findIn K (.ref X18) "__getattribute__" = some (some (.builtin "BaseException.__getattribute__")))
    (xh18 : PySem.W.findIn K (.ref X18) "__getattr__" = some none)
    (xd18 : PySem.W.hasDictIn K X18 = true)
    (xca18 : PySem.W.findIn K (.ref X18) "__class__" = some (some (.builtin "object.__class__")))
    (xob18 : PySem.W.mroIn K X18 (.type "object") = some true)
    (xo18 : PySem.W.findIn K (.ref X18) "name" = some none)
    (xcl19 : (PySem.W.clsIn K X19).isSome = true)
    (xg19 : PySem.W.findIn K (.ref X19) "__getattribute__" = some (some (.builtin "BaseException.__getattribute__")))
    (xh19 : PySem.W.findIn K (.ref X19) "__getattr__" = some none)
    (xd19 : PySem.W.hasDictIn K X19 = true)
    (xca19 : PySem.W.findIn K (.ref X19) "__class__" = some (some (.builtin "object.__class__")))
    (xob19 : PySem.W.mroIn K X19 (.type "object") = some true)
    (xo19 : PySem.W.findIn K (.ref X19) "name" = some none)
    (xcl20 : (PySem.W.clsIn K X20).isSome = true)
    (xg20 : PySem.W.findIn K (.ref X20) "__getattribute__" = some (some (.builtin "BaseException.__getattribute__")))
    (xh20 : PySem.W.findIn K (.ref X20) "__getattr__" = some none)
    (xd20 : PySem.W.hasDictIn K X20 = true)
    (xca20 : PySem.W.findIn K (.ref X20) "__class__" = some (some (.builtin "object.__class__")))
    (xob20 : PySem.W.mroIn K X20 (.type "object") = some true)
    (xo20 : PySem.W.findIn K (.ref X20) "name" = some none)
    (xcl21 : (PySem.W.clsIn K X21).isSome = true)
    (xg21 : PySem.W.findIn K (.ref X21) "__getattribute__" = some (some (.builtin "BaseException.__getattribute__")))
    (xh21 : PySem.W.findIn K (.ref X21) "__getattr__" = some none)
    (xd21 : PySem.W.hasDictIn K X21 = true)
    (xca21 : PySem.W.findIn K (.ref X21) "__class__" = some (some (.builtin "object.__class__")))
    (xob21 : PySem.W.mroIn K X21 (.type "object") = some true)
    (xo21 : PySem.W.findIn K (.ref X21) "name" = some none)
    (xcl22 : (PySem.W.clsIn K X22).isSome = true)
    (xg22 : PySem.W.findIn K (.ref X22) "__getattribute__" = some (some (.builtin "BaseException.__getattribute__")))
    (xh22 : PySem.W.findIn K (.ref X22) "__getattr__" = some none)
    (xd22 : PySem.W.hasDictIn K X22 = true)
    (xca22 : PySem.W.findIn K (.ref X22) "__class__" = some (some (.builtin "object.__class__")))
    (xob22 : PySem.W.mroIn K X22 (.type "object") = some true)
    (xo22 : PySem.W.findIn K (.ref X22) "name" = some none)
    (xcl23 : (PySem.W.clsIn K X23).isSome = true)
    (xg23 : PySem.W.findIn K (.ref X23) "__getattribute__" = some (some (.builtin "BaseException.__getattribute__")))
    (xh23 : PySem.W.findIn K (.ref X23) "__getattr__" = some none)
    (xd23 : PySem.W.hasDictIn K X23 = true)
    (xca23 : PySem.W.findIn K (.ref X23) "__class__" = some (some (.builtin "object.__class__")))
    (xob23 : PySem.W.mroIn K X23 (.type "object") = some true)
    (xo23 : PySem.W.findIn K (.ref X23) "name" = some none)
    (xcl24 : (PySem.W.clsIn K X24).isSome = true)
    (xg24 : PySem.W.findIn K (.ref X24) "__getattribute__" = some (some (.builtin "BaseException.__getattribute__")))
    (xh24 : PySem.W.findIn K (.ref X24) "__getattr__" = some none)
    (xd24 : PySem.W.hasDictIn K X24 = true)
    (xca24 : PySem.W.findIn K (.ref X24) "__class__" = some (some (.builtin "object.__class__")))
    (xob24 : PySem.W.mroIn K X24 (.type "object") = some true)
    (xo24 : PySem.W.findIn K (.ref X24) "name" = some none)
    (xcl3 : (PySem.W.clsIn K X3).isSome = true)
    (xg3 : PySem.W.findIn K (.ref X3) "__getattribute__" = some (some (.builtin "BaseException.__getattribute__")))
    (xh3 : PySem.W.findIn K (.ref X3) "__getattr__" = some none)
    (xd3 : PySem.W.hasDictIn K X3 = true)
    (xca3 : PySem.W.findIn K (.ref X3) "__class__" = some (some (.builtin "object.__class__")))
    (xob3 : PySem.W.mroIn K X3 (.type "object") = some true)
    (xo3 : PySem.W.findIn K (.ref X3) "name" = some none)
    (xcl25 : (PySem.W.clsIn K X25).isSome = true)
    (xg25 : PySem.W.findIn K (.ref X25) "__getattribute__" = some (some (.builtin "BaseException.__getattribute__")))
    (xh25 : PySem.W.findIn K (.ref X25) "__getattr__" = some none)
    (xd25 : PySem.W.hasDictIn K X25 = true)
    (xca25 : PySem.W.findIn K (.ref X25) "__class__" = some (some (.builtin "object.__class__")))
    (xob25 : PySem.W.mroIn K X25 (.type "object") = some true)
    (xo25 : PySem.W.findIn K (.ref X25) "name" = some none)
    (xcl26 : (PySem.W.clsIn K X26).isSome = true)
    (xg26 : PySem.W.findIn K (.ref X26) "__getattribute__" = some (some (.builtin "BaseException.__getattribute__")))
    (xh26 : PySem.W.findIn K (.ref X26) "__getattr__" = some none)
    (xd26 : PySem.W.hasDictIn K X26 = true)
    (xca26 : PySem.W.findIn K (.ref X26) "__class__" = some (some (.builtin "object.__class__")))
    (xob26 : PySem.W.mroIn K X26 (.type "object") = some true)
    (xo26 : PySem.W.findIn K (.ref X26) "name" = some none)
    (xcl0 : (PySem.W.clsIn K X0).isSome = true)
    (xg0 : PySem.W.findIn K (.ref X0) "__getattribute__" = some (some (.builtin "BaseException.__getattribute__")))
    (xh0 : PySem.W.findIn K (.ref X0) "__getattr__" = some none)
    (xd0 : PySem.W.hasDictIn K X0 = true)
    (xca0 : PySem.W.findIn K (.ref X0) "__class__" = some (some (.builtin "object.__class__")))
    (xob0 : PySem.W.mroIn K X0 (.type "object") = some true)
    (xo0 : PySem.W.findIn K (.ref X0) "name" = some none)
    (xcl2 : (PySem.W.clsIn K X2).isSome = true)
    (xg2 : PySem.W.findIn K (.ref X2) "__getattribute__" = some (some (.builtin "BaseException.__getattribute__")))
    (xh2 : PySem.W.findIn K (.ref X2) "__getattr__" = some none)
    (xd2 : PySem.W.hasDictIn K X2 = true)
    (xca2 : PySem.W.findIn K (.ref X2) "__class__" = some (some (.builtin "object.__class__")))
    (xob2 : PySem.W.mroIn K X2 (.type "object") = some true)
    (xo2 : PySem.W.findIn K (.ref X2) "name" = some none)
    (xe_0 : PySem.W.subIn K (.ref X0) (.type "BaseException") = some true)
    (xe_2 : PySem.W.subIn K (.ref X2) (.type "BaseException") = some true)
    (xe_1 : PySem.W.subIn K (.ref X1) (.type "BaseException") = some true)
    (xi1 : PySem.W.findIn K (.ref X1) "__init__" = some (some (.ref f1)))
    (xf1 : PySem.W.typeIn K (.ref f1) = some (.type "function"))
    (xm1 : PySem.W.mroIn K X1 (.ref X1) = some true)
    (xu1 : PySem.W.ks_superIn K X1 X1 "__init__" = some (some (.builtin "ValueError.__init__")))
    (xb1 : PySem.W.subIn K (.ref X1) (.type "ValueError") = some true)
    (xe_9 : PySem.W.subIn K (.ref X9) (.type "BaseException") = some true)
    (xi9 : PySem.W.findIn K (.ref X9) "__init__" = some (some (.ref f38)))
    (xf9 : PySem.W.typeIn K (.ref f38) = some (.type "function"))
    (xm9 : PySem.W.mroIn K X9 (.ref X9) = some true)
    (xu9 : PySem.W.ks_superIn K X9 X9 "__init__" = some (some (.builtin "ValueError.__init__")))
    (xb9 : PySem.W.subIn K (.ref X9) (.type "ValueError") = some true)
    (xe_10 : PySem.W.subIn K (.ref X10) (.type "BaseException") = some true)
    (xi10 : PySem.W.findIn K (.ref X10) "__init__" = some (some (.ref f39)))
    (xf10 : PySem.W.typeIn K (.ref f39) = some (.type "function"))
    (xm10 : PySem.W.mroIn K X10 (.ref X10) = some true)
    (xu10 : PySem.W.ks_superIn K X10 X10 "__init__" = some (some (.builtin "ValueError.__init__")))
    (xb10 : PySem.W.subIn K (.ref X10) (.type "ValueError") = some true)
    (xe_11 : PySem.W.subIn K (.ref X11) (.type "BaseException") = some true)
    (xi11 : PySem.W.findIn K (.ref X11) "__init__" = some (some (.ref f40)))
    (xf11 : PySem.W.typeIn K (.ref f40) = some (.type "function"))
    (xm11 : PySem.W.mroIn K X11 (.ref X11) = some true)
    (xu11 : PySem.W.ks_superIn K X11 X11 "__init__" = some (some (.builtin "ValueError.__init__")))
    (xb11 : PySem.W.subIn K (.ref X11) (.type "ValueError") = some true)
    (xe_12 : PySem.W.subIn K (.ref X12) (.type "BaseException") = some true)
    (xi12 : PySem.W.findIn K (.ref X12) "__init__" = some (some (.ref f41)))
    (xf12 : PySem.W.typeIn K (.ref f41) = some (.type "function"))
    (xm12 : PySem.W.mroIn K X12 (.ref X12) = some true)
    (xu12 : PySem.W.ks_superIn K X12 X12 "__init__" = some (some (.builtin "ValueError.__init__")))
    (xb12 : PySem.W.subIn K (.ref X12) (.type "ValueError") = some true)
    (xe_13 : PySem.W.subIn K (.ref X13) (.type "BaseException") = some true)
    (xi13 : PySem.W.findIn K (.ref X13) "__init__" = some (some (.ref f42)))
    (xf13 : PySem.W.typeIn K (.ref f42) = some (.type "function"))
    (xm13 : PySem.W.mroIn K X13 (.ref X13) = some true)
    (xu13 : PySem.W.ks_superIn K X13 X13 "__init__" = some (some (.builtin "ValueError.__init__")))
    (xb13 : PySem.W.subIn K (.ref X13) (.type "ValueError") = some true)
    (xe_14 : PySem.W.subIn K (.ref X14) (.type "BaseException") = some true)
    (xi14 : PySem.W.findIn K (.ref X14) "__init__" = some (some (.ref f43)))
    (xf14 : PySem.W.typeIn K (.ref f43) = some (.type "function"))
    (xm14 : PySem.W.mroIn K X14 (.ref X14) = some true)
    (xu14 : PySem.W.ks_superIn K X14 X14 "__init__" = some (some (.builtin "ValueError.__init__")))
    (xb14 : PySem.W.subIn K (.ref X14) (.type "ValueError") = some true)
    (xe_15 : PySem.W.subIn K (.ref X15) (.type "BaseException") = some true)
    (xi15 : PySem.W.findIn K (.ref X15) "__init__" = some (some (.ref f44)))
    (xf15 : PySem.W.typeIn K (.ref f44) = some (.type "function"))
    (xm15 : PySem.W.mroIn K X15 (.ref X15) = some true)
    (xu15 : PySem.W.ks_superIn K X15 X15 "__init__" = some (some (.builtin "ValueError.__init__")))
    (xb15 : PySem.W.subIn K (.ref X15) (.type "ValueError") = some true)
    (xe_16 : PySem.W.subIn K (.ref X16) (.type "BaseException") = some true)
    (xi16 : PySem.W.findIn K (.ref X16) "__init__" = some (some (.ref f45)))
    (xf16 : PySem.W.typeIn K (.ref f45) = some (.type "function"))
    (xm16 : PySem.W.mroIn K X16 (.ref X16) = some true)
    (xu16 : PySem.W.ks_superIn K X16 X16 "__init__" = some (some (.builtin "ValueError.__init__")))
    (xb16 : PySem.W.subIn K (.ref X16) (.type "ValueError") = some true)
    (xe_17 : PySem.W.subIn K (.ref X17) (.type "BaseException") = some true)
    (xi17 : PySem.W.findIn K (.ref X17) "__init__" = some (some (.ref f46)))
    (xf17 : PySem.W.typeIn K (.ref f46) = some (.type "function"))
    (xm17 : PySem.W.mroIn K X17 (.ref X17) = some true)
    (xu17 : PySem.W.ks_superIn K X17 X17 "__init__" = some (some (.builtin "ValueError.__init__")))
    (xb17 : PySem.W.subIn K (.ref X17) (.type "ValueError") = some true)
    (xe_18 : PySem.W.subIn K (.ref X18) (.type "BaseException") = some true)
    (xi18 : PySem.W.findIn K (.ref X18) "__init__" = some (some (.ref f47)))
    (xf18 : PySem.W.typeIn K (.ref f47) = some (.type "function"))
    (xm18 : PySem.W.mroIn K X18 (.ref X18) = some true)
    (xu18 : PySem.W.ks_superIn K X18 X18 "__init__" = some (some (.builtin "ValueError.__init__")))
    (xb18 : PySem.W.subIn K (.ref X18) (.type "ValueError") = some true)
    (xe_19 : PySem.W.subIn K (.ref X19) (.type "BaseException") = some true)
    (xi19 : PySem.W.findIn K (.ref X19) "__init__" = some (some (.ref f48)))
    (xf19 : PySem.W.typeIn K (.ref f48) = some (.type "function"))
    (xm19 : PySem.W.mroIn K X19 (.ref X19) = some true)
    (xu19 : PySem.W.ks_superIn K X19 X19 "__init__" = some (some (.builtin "ValueError.__init__")))
    (xb19 : PySem.W.subIn K (.ref X19) (.type "ValueError") = some true)
    (xe_20 : PySem.W.subIn K (.ref X20) (.type "BaseException") = some true)
    (xi20 : PySem.W.findIn K (.ref X20) "__init__" = some (some (.ref f49)))
    (xf20 : PySem.W.typeIn K (.ref f49) = some (.type "function"))
    (xm20 : PySem.W.mroIn K X20 (.ref X20) = some true)
    (xu20 : PySem.W.ks_superIn K X20 X20 "__init__" = some (some (.builtin "ValueError.__init__")))
    (xb20 : PySem.W.subIn K (.ref X20) (.type "ValueError") = some true)
    (xe_21 : PySem.W.subIn K (.ref X21) (.type "BaseException") = some true)
    (xi21 : PySem.W.findIn K (.ref X21) "__init__" = some (some (.ref f50)))
    (xf21 : PySem.W.typeIn K (.ref f50) = some (.type "function"))
    (xm21 : PySem.W.mroIn K X21 (.ref X21) = some true)
    (xu21 : PySem.W.ks_superIn K X21 X21 "__init__" = some (some (.builtin "ValueError.__init__")))
    (xb21 : PySem.W.subIn K (.ref X21) (.type "ValueError") = some true)
    (xe_22 : PySem.W.subIn K (.ref X22) (.type "BaseException") = some true)
    (xi22 : PySem.W.findIn K (.ref X22) "__init__" = some (some (.ref f51)))
    (xf22 : PySem.W.typeIn K (.ref f51) = some (.type "function"))
    (xm22 : PySem.W.mroIn K X22 (.ref X22) = some true)
    (xu22 : PySem.W.ks_superIn K X22 X22 "__init__" = some (some (.builtin "ValueError.__init__")))
    (xb22 : PySem.W.subIn K (.ref X22) (.type "ValueError") = some true)
    (xe_23 : PySem.W.subIn K (.ref X23) (.type "BaseException") = some true)
    (xi23 : PySem.W.findIn K (.ref X23) "__init__" = some (some (.ref f52)))
    (xf23 : PySem.W.typeIn K (.ref f52) = some (.type "function"))
    (xm23 : PySem.W.mroIn K X23 (.ref X23) = some true)
    (xu23 : PySem.W.ks_superIn K X23 X23 "__init__" = some (some (.builtin "ValueError.__init__")))
    (xb23 : PySem.W.subIn K (.ref X23) (.type "ValueError") = some true)
    (xe_24 : PySem.W.subIn K (.ref X24) (.type "BaseException") = some true)
    (xi24 : PySem.W.findIn K (.ref X24) "__init__" = some (some (.ref f53)))
    (xf24 : PySem.W.typeIn K (.ref f53) = some (.type "function"))
    (xm24 : PySem.W.mroIn K X24 (.ref X24) = some true)
    (xu24 : PySem.W.ks_superIn K X24 X24 "__init__" = some (some (.builtin "ValueError.__init__")))
    (xb24 : PySem.W.subIn K (.ref X24) (.type "ValueError") = some true)
    (xe_3 : PySem.W.subIn K (.ref X3) (.type "BaseException") = some true)
    (xi3 : PySem.W.findIn K (.ref X3) "__init__" = some (some (.ref f2)))
    (xf3 : PySem.W.typeIn K (.ref f2) = some (.type "function"))
    (xm3 : PySem.W.mroIn K X3 (.ref X3) = some true)
    (xu3 : PySem.W.ks_superIn K X3 X3 "__init__" = some (some (.builtin "LookupError.__init__")))
    (xb3 : PySem.W.subIn K (.ref X3) (.type "LookupError") = some true)
    (xe_25 : PySem.W.subIn K (.ref X25) (.type "BaseException") = some true)
    (xi25 : PySem.W.findIn K (.ref X25) "__init__" = some (some (.ref f54)))
    (xf25 : PySem.W.typeIn K (.ref f54) = some (.type "function"))
    (xm25 : PySem.W.mroIn K X25 (.ref X25) = some true)
    (xu25 : PySem.W.ks_superIn K X25 X25 "__init__" = some (some (.builtin "LookupError.__init__")))
    (xb25 : PySem.W.subIn K (.ref X25) (.type "LookupError") = some true)
    (xe_26 : PySem.W.subIn K (.ref X26) (.type "BaseException") = some true)
    (xi26 : PySem.W.findIn K (.ref X26) "__init__" = some (some (.ref f55)))
    (xf26 : PySem.W.typeIn K (.ref f55) = some (.type "function"))
    (xm26 : PySem.W.mroIn K X26 (.ref X26) = some true)
    (xu26 : PySem.W.ks_superIn K X26 X26 "__init__" = some (some (.builtin "LookupError.__init__")))
    (xb26 : PySem.W.subIn K (.ref X26) (.type "LookupError") = some true)
    (kb0 : ∀ d ∈ spXn, ∀ t ∈ tyB, PySem.W.kitOne K (tyVal (fun _ => 0) (fun c => xA0 X1 X9 X10 X11 X12 X13 X14 X15 X16 X17 X18 X19 X20 X21 X22 X23 X24 X3 X25 X26 X0 X2 (nrX c)) t) (spVal (fun _ => 0) (fun c => xA0 X1 X9 X10 X11 X12 X13 X14 X15 X16 X17 X18 X19 X20 X21 X22 X23 X24 X3 X25 X26 X0 X2 (nrX c)) (.xc d)) = some (tyIs isaT t (.xc d)))
    (kx0 : ∀ d ∈ spXn, ∀ c ∈ xnL, PySem.W.kitOne K (tyVal (fun _ => 0) (fun c => xA0 X1 X9 X10 X11 X12 X13 X14 X15 X16 X17 X18 X19 X20 X21 X22 X23 X24 X3 X25 X26 X0 X2 (nrX c)) (.xo c)) (spVal (fun _ => 0) (fun c => xA0 X1 X9 X10 X11 X12 X13 X14 X15 X16 X17 X18 X19 X20 X21 X22 X23 X24 X3 X25 X26 X0 X2 (nrX c)) (.xc d)) = some (tyIs isaT (.xo c) (.xc d)))
    (cg : PySem.W.specialIn K (.builtin "object.__class__") "__get__" = some (some (.builtin "getset_descriptor.__get__")))
    (ct : PySem.W.takesIn K (.builtin "object.__class__") = some true)
    (op : PySem.W.nsIn K PySem.cStatics "thirdparty.any" = some none)
    (mX1 : mg "BadMonoid" = some (.ref X1))
    (mX9 : mg "BadKind" = some (.ref X9))
    (mX10 : mg "BadValue" = some (.ref X10))
    (mX11 : mg "TooMany" = some (.ref X11))
    (mX12 : mg "BadName" = some (.ref X12))
    (mX13 : mg "TwiceTold" = some (.ref X13))
    (mX14 : mg "NoStep" = some (.ref X14))
    (mX15 : mg "NotClosed" = some (.ref X15))
    (mX16 : mg "MixedKinds" = some (.ref X16))
    (mX17 : mg "MixedSystems" = some (.ref X17))
    (mX18 : mg "BadImages" = some (.ref X18))
    (mX19 : mg "NotKept" = some (.ref X19))
    (mX20 : mg "BadSaying" = some (.ref X20))
    (mX21 : mg "BadBehaviour" = some (.ref X21))
    (mX22 : mg "BadTurn" = some (.ref X22))
    (mX23 : mg "OpenState" = some (.ref X23))
    (mX24 : mg "NothingDone" = some (.ref X24))
    (mX3 : mg "UnknownMember" = some (.ref X3))
    (mX25 : mg "UnknownState" = some (.ref X25))
    (mX26 : mg "NotTold" = some (.ref X26))
    (mX0 : mg "KindstepsError" = some (.ref X0))
    (mX2 : mg "NameMissing" = some (.ref X2))
    (mF14 : mg "_law_source" = some (.ref f14))
    (mF15 : mg "_law_pick" = some (.ref f15))
    (mF56 : mg "_law_word" = some (.ref f56))
    (mF57 : mg "_law_plain" = some (.ref f57))
    (mF58 : mg "_law_named" = some (.ref f58))
    (mF59 : mg "_law_missing" = some (.ref f59))
    (mF60 : mg "_law_classes" = some (.ref f60))
    (mF21 : mg "law" = some (.ref f21))
    (mB_len : mg "len" = none)
    (mB_abs : mg "abs" = none)
    (mB_int : mg "int" = none)
    (mB_str : mg "str" = none)
    (mB_range : mg "range" = none)
    (mB_isinstance : mg "isinstance" = none)
    (mB_ValueError : mg "ValueError" = none)
    (mB_LookupError : mg "LookupError" = none)
    (mB_KeyError : mg "KeyError" = none)
    (mB_IndexError : mg "IndexError" = none)
    (mB_super : mg "super" = none)
    (tot : ∀ ns : List Int, ns.length ≤ 63 → ∃ h', (G.ff 40).1 21 [.t (.scr ns)] [] = .ok (.t (.bl true)) h') :
    FnOk prg w K mg base (L2.CX prg w) 42 f21 d21 (psT 21) (spLaw K 63) := by
  have St : Stat (gam w K mg base  X1 X9 X10 X11 X12 X13 X14 X15 X16 X17 X18 X19 X20 X21 X22 X23 X24 X3 X25 X26 X0 X2) (inf f14 f15 f56 f57 f58 f59 f60 f21 f1 f38 f39 f40 f41 f42 f43 f44 f45 f46 f47 f48 f49 f50 f51 f52 f53 f2 f54 f55 d14 d15 d56 d57 d58 d59 d60 d21 d1 d38 d39 d40 d41 d42 d43 d44 d45 d46 d47 d48 d49 d50 d51 d52 d53 d2 d54 d55) G := by
    refine ⟨?_, ?_, ?_, ?_, ?_, ?_, rfl, rfl, ?_, ?_, ?_, cg, ct, ?_, ?_, ?_⟩
    · exact fun c m f h => nomatch h
    · exact fun c m f h => nomatch h
    · exact fun c m f h => nomatch h
    · exact fun c f h => nomatch h
    · exact fun c h => nomatch h
    · exact fun c d h => nomatch h
    · exact fun c h => nomatch h
    · intro t s h pt
      obtain ⟨d, hd, rfl⟩ := sps_xc s h
      cases t
      · exact kb0 d hd _ (.head _)
      · exact kb0 d hd _ (.tail _ (.head _))
      · exact kb0 d hd _ (.tail _ (.tail _ (.head _)))
      · exact kb0 d hd _ (.tail _ (.tail _ (.tail _ (.head _))))
      · exact kb0 d hd _ (.tail _ (.tail _ (.tail _ (.tail _ (.head _)))))
      · exact kb0 d hd _ (.tail _ (.tail _ (.tail _ (.tail _ (.tail _ (.head _))))))
      · exact kb0 d hd _ (.tail _ (.tail _ (.tail _ (.tail _ (.tail _ (.tail _ (.head _)))))))
      · exact nomatch pt
      · rename_i c
        have q := kx0 d hd (nrX c) (nrX_mem c)
        rw [tyx_nr c d, xot_nr] at q
        exact q
    · exact fun c h => nomatch h
    · exact fun c h => nomatch h
    · exact fun c f h => nomatch h
    · intro _ c
      show XisC K (xA0 X1 X9 X10 X11 X12 X13 X14 X15 X16 X17 X18 X19 X20 X21 X22 X23 X24 X3 X25 X26 X0 X2 (nrX c))
      rcases nrX_cases c with e | e | e | e | e | e | e | e | e | e | e | e | e | e | e | e | e | e | e | e | e | e <;> rw [e]
      · exact ⟨xcl1, ⟨xg1, xh1, xe_1, xd1⟩, xca1, xob1, xo1⟩
      · exact ⟨xcl9, ⟨xg9, xh9, xe_9, xd9⟩, xca9, xob9, xo9⟩
      · exact ⟨xcl10, ⟨xg10, xh10, xe_10, xd10⟩, xca10, xob10, xo10⟩
      · exact ⟨xcl11, ⟨xg11, xh11, xe_11, xd11⟩, xca11, xob11, xo11⟩
      · exact ⟨xcl12, ⟨xg12, xh12, xe_12, xd12⟩, xca12, xob12, xo12⟩
      · exact ⟨xcl13, ⟨xg13, xh13, xe_13, xd13⟩, xca13, xob13, xo13⟩
      · exact ⟨xcl14, ⟨xg14, xh14, xe_14, xd14⟩, xca14, xob14, xo14⟩
      · exact ⟨xcl15, ⟨xg15, xh15, xe_15, xd15⟩, xca15, xob15, xo15⟩
      · exact ⟨xcl16, ⟨xg16, xh16, xe_16, xd16⟩, xca16, xob16, xo16⟩
      · exact ⟨xcl17, ⟨xg17, xh17, xe_17, xd17⟩, xca17, xob17, xo17⟩
      · exact ⟨xcl18, ⟨xg18, xh18, xe_18, xd18⟩, xca18, xob18, xo18⟩
      · exact ⟨xcl19, ⟨xg19, xh19, xe_19, xd19⟩, xca19, xob19, xo19⟩
      · exact ⟨xcl20, ⟨xg20, xh20, xe_20, xd20⟩, xca20, xob20, xo20⟩
      · exact ⟨xcl21, ⟨xg21, xh21, xe_21, xd21⟩, xca21, xob21, xo21⟩
      · exact ⟨xcl22, ⟨xg22, xh22, xe_22, xd22⟩, xca22, xob22, xo22⟩
      · exact ⟨xcl23, ⟨xg23, xh23, xe_23, xd23⟩, xca23, xob23, xo23⟩
      · exact ⟨xcl24, ⟨xg24, xh24, xe_24, xd24⟩, xca24, xob24, xo24⟩
      · exact ⟨xcl3, ⟨xg3, xh3, xe_3, xd3⟩, xca3, xob3, xo3⟩
      · exact ⟨xcl25, ⟨xg25, xh25, xe_25, xd25⟩, xca25, xob25, xo25⟩
      · exact ⟨xcl26, ⟨xg26, xh26, xe_26, xd26⟩, xca26, xob26, xo26⟩
      · exact ⟨xcl0, ⟨xg0, xh0, xe_0, xd0⟩, xca0, xob0, xo0⟩
      · exact ⟨xcl2, ⟨xg2, xh2, xe_2, xd2⟩, xca2, xob2, xo2⟩
  have FX1 : FnFactK (gam w K mg base  X1 X9 X10 X11 X12 X13 X14 X15 X16 X17 X18 X19 X20 X21 X22 X23 X24 X3 X25 X26 X0 X2) (inf f14 f15 f56 f57 f58 f59 f60 f21 f1 f38 f39 f40 f41 f42 f43 f44 f45 f46 f47 f48 f49 f50 f51 f52 f53 f2 f54 f55 d14 d15 d56 d57 d58 d59 d60 d21 d1 d38 d39 d40 d41 d42 d43 d44 d45 d46 d47 d48 d49 d50 d51 d52 d53 d2 d54 d55) 1 N1 (defBody s1) (defScope s1) X1 "self" := by
    refine ⟨?_, sc1, fun _ => b1, by decide +kernel, by decide +kernel, (show (prg.main.scope.names.lookup ("super" : Str)).isSome = false by decide +kernel), mB_super, op, rfl, by first | exact .inl (by decide +kernel) | exact .inr (.inl (by decide +kernel)) | exact .inr (.inr (by decide +kernel))⟩
    obtain ⟨kV, doc, pm, ct1, oc, an, od, osl, cc1, cda, vs, file, tf, ccl, cl, cdd, cld, ccs, csl, cdD, e1, e2, e3, e4, e5, e6, e7, e8⟩ := F1.ex
    exact ⟨_, _, defArgs s1, .none, kV, doc, pm, ct1, oc, an, od, osl, cc1, cda, _, vs, file, tf, ccl, cl, cdd, cld, ccs, csl, cdD, e1, e2, e3, rfl, rfl, e4, e5, e6, e7, e8⟩
  have MX1 := mkG_ok (Γ := (gam w K mg base  X1 X9 X10 X11 X12 X13 X14 X15 X16 X17 X18 X19 X20 X21 X22 X23 X24 X3 X25 X26 X0 X2)) (I := (inf f14 f15 f56 f57 f58 f59 f60 f21 f1 f38 f39 f40 f41 f42 f43 f44 f45 f46 f47 f48 f49 f50 f51 f52 f53 f2 f54 f55 d14 d15 d56 d57 d58 d59 d60 d21 d1 d38 d39 d40 d41 d42 d43 d44 d45 d46 d47 d48 d49 d50 d51 d52 d53 d2 d54 d55)) (eb := veB) (f := 1) (c := 1) (w := false) (N := N1) (sc := defScope s1) (body := defBody s1) FX1 XC1 xi1 xf1 rfl rfl cx1
  have FX38 : FnFactK (gam w K mg base  X1 X9 X10 X11 X12 X13 X14 X15 X16 X17 X18 X19 X20 X21 X22 X23 X24 X3 X25 X26 X0 X2) (inf f14 f15 f56 f57 f58 f59 f60 f21 f1 f38 f39 f40 f41 f42 f43 f44 f45 f46 f47 f48 f49 f50 f51 f52 f53 f2 f54 f55 d14 d15 d56 d57 d58 d59 d60 d21 d1 d38 d39 d40 d41 d42 d43 d44 d45 d46 d47 d48 d49 d50 d51 d52 d53 d2 d54 d55) 38 N38 (defBody s38) (defScope s38) X9 "self" := by
    refine ⟨?_, sc38, fun _ => b38, by decide +kernel, by decide +kernel, (show (prg.main.scope.names.lookup ("super" : Str)).isSome = false by decide +kernel), mB_super, op, rfl, by first | exact .inl (by decide +kernel) | exact .inr (.inl (by decide +kernel)) | exact .inr (.inr (by decide +kernel))⟩
    obtain ⟨kV, doc, pm, ct1, oc, an, od, osl, cc1, cda, vs, file, tf, ccl, cl, cdd, cld, ccs, csl, cdD, e1, e2, e3, e4, e5, e6, e7, e8⟩ := F38.ex
    exact ⟨_, _, defArgs s38, .none, kV, doc, pm, ct1, oc, an, od, osl, cc1, cda, _, vs, file, tf, ccl, cl, cdd, cld, ccs, csl, cdD, e1, e2, e3, rfl, rfl, e4, e5, e6, e7, e8⟩
  have MX38 := mkG_ok (Γ := (gam w K mg base  X1 X9 X10 X11 X12 X13 X14 X15 X16 X17 X18 X19 X20 X21 X22 X23 X24 X3 X25 X26 X0 X2)) (I := (inf f14 f15 f56 f57 f58 f59 f60 f21 f1 f38 f39 f40 f41 f42 f43 f44 f45 f46 f47 f48 f49 f50 f51 f52 f53 f2 f54 f55 d14 d15 d56 d57 d58 d59 d60 d21 d1 d38 d39 d40 d41 d42 d43 d44 d45 d46 d47 d48 d49 d50 d51 d52 d53 d2 d54 d55)) (eb := veB) (f := 38) (c := 9) (w := false) (N := N38) (sc := defScope s38) (body := defBody s38) FX38 XC9 xi9 xf9 rfl rfl cx38
  have FX39 : FnFactK (gam w K mg base  X1 X9 X10 X11 X12 X13 X14 X15 X16 X17 X18 X19 X20 X21 X22 X23 X24 X3 X25 X26 X0 X2) (inf f14 f15 f56 f57 f58 f59 f60 f21 f1 f38 f39 f40 f41 f42 f43 f44 f45 f46 f47 f48 f49 f50 f51 f52 f53 f2 f54 f55 d14 d15 d56 d57 d58 d59 d60 d21 d1 d38 d39 d40 d41 d42 d43 d44 d45 d46 d47 d48 d49 d50 d51 d52 d53 d2 d54 d55) 39 N39 (defBody s39) (defScope s39) X10 "self" := by
    refine ⟨?_, sc39, fun _ => b39, by decide +kernel, by decide +kernel, (show (prg.main.scope.names.lookup ("super" : Str)).isSome = false by decide +kernel), mB_super, op, rfl, by first | exact .inl (by decide +kernel) | exact .inr (.inl (by decide +kernel)) | exact .inr (.inr (by decide +kernel))⟩
    obtain ⟨kV, doc, pm, ct1, oc, an, od, osl, cc1, cda, vs, file, tf, ccl, cl, cdd, cld, ccs, csl, cdD, e1, e2, e3, e4, e5, e6, e7, e8⟩ := F39.ex
    exact ⟨_, _, defArgs s39, .none, kV, doc, pm, ct1, oc, an, od, osl, cc1, cda, _, vs, file, tf, ccl, cl, cdd, cld, ccs, csl, cdD, e1, e2, e3, rfl, rfl, e4, e5, e6, e7, e8⟩
  have MX39 := mkG_ok (Γ := (gam w K mg base  X1 X9 X10 X11 X12 X13 X14 X15 X16 X17 X18 X19 X20 X21 X22 X23 X24 X3 X25 X26 X0 X2)) (I := (inf f14 f15 f56 f57 f58 f59 f60 f21 f1 f38 f39 f40 f41 f42 f43 f44 f45 f46 f47 f48 f49 f50 f51 f52 f53 f2 f54 f55 d14 d15 d56 d57 d58 d59 d60 d21 d1 d38 d39 d40 d41 d42 d43 d44 d45 d46 d47 d48 d49 d50 d51 d52 d53 d2 d54 d55)) (eb := veB) (f := 39) (c := 10) (w := false) (N := N39) (sc := defScope s39) (body := defBody s39) FX39 XC10 xi10 xf10 rfl rfl cx39
  have FX40 : FnFactK (gam w K mg base  X1 X9 X10 X11 X12 X13 X14 X15 X16 X17 X18 X19 X20 X21 X22 X23 X24 X3 X25 X26 X0 X2) (inf f14 f15 f56 f57 f58 f59 f60 f21 f1 f38 f39 f40 f41 f42 f43 f44 f45 f46 f47 f48 f49 f50 f51 f52 f53 f2 f54 f55 d14 d15 d56 d57 d58 d59 d60 d21 d1 d38 d39 d40 d41 d42 d43 d44 d45 d46 d47 d48 d49 d50 d51 d52 d53 d2 d54 d55) 40 N40 (defBody s40) (defScope s40) X11 "self" := by
    refine ⟨?_, sc40, fun _ => b40, by decide +kernel, by decide +kernel, (show (prg.main.scope.names.lookup ("super" : Str)).isSome = false by decide +kernel), mB_super, op, rfl, by first | exact .inl (by decide +kernel) | exact .inr (.inl (by decide +kernel)) | exact .inr (.inr (by decide +kernel))⟩
    obtain ⟨kV, doc, pm, ct1, oc, an, od, osl, cc1, cda, vs, file, tf, ccl, cl, cdd, cld, ccs, csl, cdD, e1, e2, e3, e4, e5, e6, e7, e8⟩ := F40.ex
    exact ⟨_, _, defArgs s40, .none, kV, doc, pm, ct1, oc, an, od, osl, cc1, cda, _, vs, file, tf, ccl, cl, cdd, cld, ccs, csl, cdD, e1, e2, e3, rfl, rfl, e4, e5, e6, e7, e8⟩
  have MX40 := mkG_ok (Γ := (gam w K mg base  X1 X9 X10 X11 X12 X13 X14 X15 X16 X17 X18 X19 X20 X21 X22 X23 X24 X3 X25 X26 X0 X2)) (I := (inf f14 f15 f56 f57 f58 f59 f60 f21 f1 f38 f39 f40 f41 f42 f43 f44 f45 f46 f47 f48 f49 f50 f51 f52 f53 f2 f54 f55 d14 d15 d56 d57 d58 d59 d60 d21 d1 d38 d39 d40 d41 d42 d43 d44 d45 d46 d47 d48 d49 d50 d51 d52 d53 d2 d54 d55)) (eb := veB) (f := 40) (c := 11) (w := false) (N := N40) (sc := defScope s40) (body := defBody s40) FX40 XC11 xi11 xf11 rfl rfl cx40
  have FX41 : FnFactK (gam w K mg base  X1 X9 X10 X11 X12 X13 X14 X15 X16 X17 X18 X19 X20 X21 X22 X23 X24 X3 X25 X26 X0 X2) (inf f14 f15 f56 f57 f58 f59 f60 f21 f1 f38 f39 f40 f41 f42 f43 f44 f45 f46 f47 f48 f49 f50 f51 f52 f53 f2 f54 f55 d14 d15 d56 d57 d58 d59 d60 d21 d1 d38 d39 d40 d41 d42 d43 d44 d45 d46 d47 d48 d49 d50 d51 d52 d53 d2 d54 d55) 41 N41 (defBody s41) (defScope s41) X12 "self" := by
    refine ⟨?_, sc41, fun _ => b41, by decide +kernel, by decide +kernel, (show (prg.main.scope.names.lookup ("super" : Str)).isSome = false by decide +kernel), mB_super, op, rfl, by first | exact .inl (by decide +kernel) | exact .inr (.inl (by decide +kernel)) | exact .inr (.inr (by decide +kernel))⟩
    obtain ⟨kV, doc, pm, ct1, oc, an, od, osl, cc1, cda, vs, file, tf, ccl, cl, cdd, cld, ccs, csl, cdD, e1, e2, e3, e4, e5, e6, e7, e8⟩ := F41.ex
    exact ⟨_, _, defArgs s41, .none, kV, doc, pm, ct1, oc, an, od, osl, cc1, cda, _, vs, file, tf, ccl, cl, cdd, cld, ccs, csl, cdD, e1, e2, e3, rfl, rfl, e4, e5, e6, e7, e8⟩
  have MX41 := mkG_ok (Γ := (gam w K mg base  X1 X9 X10 X11 X12 X13 X14 X15 X16 X17 X18 X19 X20 X21 X22 X23 X24 X3 X25 X26 X0 X2)) (I := (inf f14 f15 f56 f57 f58 f59 f60 f21 f1 f38 f39 f40 f41 f42 f43 f44 f45 f46 f47 f48 f49 f50 f51 f52 f53 f2 f54 f55 d14 d15 d56 d57 d58 d59 d60 d21 d1 d38 d39 d40 d41 d42 d43 d44 d45 d46 d47 d48 d49 d50 d51 d52 d53 d2 d54 d55)) (eb := veB) (f := 41) (c := 12) (w := true) (N := N41) (sc := defScope s41) (body := defBody s41) FX41 XC12 xi12 xf12 rfl rfl cx41
  have FX42 : FnFactK (gam w K mg base  X1 X9 X10 X11 X12 X13 X14 X15 X16 X17 X18 X19 X20 X21 X22 X23 X24 X3 X25 X26 X0 X2) (inf f14 f15 f56 f57 f58 f59 f60 f21 f1 f38 f39 f40 f41 f42 f43 f44 f45 f46 f47 f48 f49 f50 f51 f52 f53 f2 f54 f55 d14 d15 d56 d57 d58 d59 d60 d21 d1 d38 d39 d40 d41 d42 d43 d44 d45 d46 d47 d48 d49 d50 d51 d52 d53 d2 d54 d55) 42 N42 (defBody s42) (defScope s42) X13 "self" := by
    refine ⟨?_, sc42, fun _ => b42, by decide +kernel, by decide +kernel, (show (prg.main.scope.names.lookup ("super" : Str)).isSome = false by decide +kernel), mB_super, op, rfl, by first | exact .inl (by decide +kernel) | exact .inr (.inl (by decide +kernel)) | exact .inr (.inr (by decide +kernel))⟩
    obtain ⟨kV, doc, pm, ct1, oc, an, od, osl, cc1, cda, vs, file, tf, ccl, cl, cdd, cld, ccs, csl, cdD, e1, e2, e3, e4, e5, e6, e7, e8⟩ := F42.ex
    exact ⟨_, _, defArgs s42, .none, kV, doc, pm, ct1, oc, an, od, osl, cc1, cda, _, vs, file, tf, ccl, cl, cdd, cld, ccs, csl, cdD, e1, e2, e3, rfl, rfl, e4, e5, e6, e7, e8⟩
  have MX42 := mkG_ok (Γ := (gam w K mg base  X1 X9 X10 X11 X12 X13 X14 X15 X16 X17 X18 X19 X20 X21 X22 X23 X24 X3 X25 X26 X0 X2)) (I := (inf f14 f15 f56 f57 f58 f59 f60 f21 f1 f38 f39 f40 f41 f42 f43 f44 f45 f46 f47 f48 f49 f50 f51 f52 f53 f2 f54 f55 d14 d15 d56 d57 d58 d59 d60 d21 d1 d38 d39 d40 d41 d42 d43 d44 d45 d46 d47 d48 d49 d50 d51 d52 d53 d2 d54 d55)) (eb := veB) (f := 42) (c := 13) (w := true) (N := N42) (sc := defScope s42) (body := defBody s42) FX42 XC13 xi13 xf13 rfl rfl cx42
  have FX43 : FnFactK (gam w K mg base  X1 X9 X10 X11 X12 X13 X14 X15 X16 X17 X18 X19 X20 X21 X22 X23 X24 X3 X25 X26 X0 X2) (inf f14 f15 f56 f57 f58 f59 f60 f21 f1 f38 f39 f40 f41 f42 f43 f44 f45 f46 f47 f48 f49 f50 f51 f52 f53 f2 f54 f55 d14 d15 d56 d57 d58 d59 d60 d21 d1 d38 d39 d40 d41 d42 d43 d44 d45 d46 d47 d48 d49 d50 d51 d52 d53 d2 d54 d55) 43 N43 (defBody s43) (defScope s43) X14 "self" := by
    refine ⟨?_, sc43, fun _ => b43, by decide +kernel, by decide +kernel, (show (prg.main.scope.names.lookup ("super" : Str)).isSome = false by decide +kernel), mB_super, op, rfl, by first | exact .inl (by decide +kernel) | exact .inr (.inl (by decide +kernel)) | exact .inr (.inr (by decide +kernel))⟩
    obtain ⟨kV, doc, pm, ct1, oc, an, od, osl, cc1, cda, vs, file, tf, ccl, cl, cdd, cld, ccs, csl, cdD, e1, e2, e3, e4, e5, e6, e7, e8⟩ := F43.ex
    exact ⟨_, _, defArgs s43, .none, kV, doc, pm, ct1, oc, an, od, osl, cc1, cda, _, vs, file, tf, ccl, cl, cdd, cld, ccs, csl, cdD, e1, e2, e3, rfl, rfl, e4, e5, e6, e7, e8⟩
  have MX43 := mkG_ok (Γ := (gam w K mg base  X1 X9 X10 X11 X12 X13 X14 X15 X16 X17 X18 X19 X20 X21 X22 X23 X24 X3 X25 X26 X0 X2)) (I := (inf f14 f15 f56 f57 f58 f59 f60 f21 f1 f38 f39 f40 f41 f42 f43 f44 f45 f46 f47 f48 f49 f50 f51 f52 f53 f2 f54 f55 d14 d15 d56 d57 d58 d59 d60 d21 d1 d38 d39 d40 d41 d42 d43 d44 d45 d46 d47 d48 d49 d50 d51 d52 d53 d2 d54 d55)) (eb := veB) (f := 43) (c := 14) (w := true) (N := N43) (sc := defScope s43) (body := defBody s43) FX43 XC14 xi14 xf14 rfl rfl cx43
  have FX44 : FnFactK (gam w K mg base  X1 X9 X10 X11 X12 X13 X14 X15 X16 X17 X18 X19 X20 X21 X22 X23 X24 X3 X25 X26 X0 X2) (inf f14 f15 f56 f57 f58 f59 f60 f21 f1 f38 f39 f40 f41 f42 f43 f44 f45 f46 f47 f48 f49 f50 f51 f52 f53 f2 f54 f55 d14 d15 d56 d57 d58 d59 d60 d21 d1 d38 d39 d40 d41 d42 d43 d44 d45 d46 d47 d48 d49 d50 d51 d52 d53 d2 d54 d55) 44 N44 (defBody s44) (defScope s44) X15 "self" := by
    refine ⟨?_, sc44, fun _ => b44, by decide +kernel, by decide +kernel, (show (prg.main.scope.names.lookup ("super" : Str)).isSome = false by decide +kernel), mB_super, op, rfl, by first | exact .inl (by decide +kernel) | exact .inr (.inl (by decide +kernel)) | exact .inr (.inr (by decide +kernel))⟩
    obtain ⟨kV, doc, pm, ct1, oc, an, od, osl, cc1, cda, vs, file, tf, ccl, cl, cdd, cld, ccs, csl, cdD, e1, e2, e3, e4, e5, e6, e7, e8⟩ := F44.ex
    exact ⟨_, _, defArgs s44, .none, kV, doc, pm, ct1, oc, an, od, osl, cc1, cda, _, vs, file, tf, ccl, cl, cdd, cld, ccs, csl, cdD, e1, e2, e3, rfl, rfl, e4, e5, e6, e7, e8⟩
  have MX44 := mkG_ok (Γ := (gam w K mg base  X1 X9 X10 X11 X12 X13 X14 X15 X16 X17 X18 X19 X20 X21 X22 X23 X24 X3 X25 X26 X0 X2)) (I := (inf f14 f15 f56 f57 f58 f59 f60 f21 f1 f38 f39 f40 f41 f42 f43 f44 f45 f46 f47 f48 f49 f50 f51 f52 f53 f2 f54 f55 d14 d15 d56 d57 d58 d59 d60 d21 d1 d38 d39 d40 d41 d42 d43 d44 d45 d46 d47 d48 d49 d50 d51 d52 d53 d2 d54 d55)) (eb := veB) (f := 44) (c := 15) (w := true) (N := N44) (sc := defScope s44) (body := defBody s44) FX44 XC15 xi15 xf15 rfl rfl cx44
  have FX45 : FnFactK (gam w K mg base  X1 X9 X10 X11 X12 X13 X14 X15 X16 X17 X18 X19 X20 X21 X22 X23 X24 X3 X25 X26 X0 X2) (inf f14 f15 f56 f57 f58 f59 f60 f21 f1 f38 f39 f40 f41 f42 f43 f44 f45 f46 f47 f48 f49 f50 f51 f52 f53 f2 f54 f55 d14 d15 d56 d57 d58 d59 d60 d21 d1 d38 d39 d40 d41 d42 d43 d44 d45 d46 d47 d48 d49 d50 d51 d52 d53 d2 d54 d55) 45 N45 (defBody s45) (defScope s45) X16 "self" := by
    refine ⟨?_, sc45, fun _ => b45, by decide +kernel, by decide +kernel, (show (prg.main.scope.names.lookup ("super" : Str)).isSome = false by decide +kernel), mB_super, op, rfl, by first | exact .inl (by decide +kernel) | exact .inr (.inl (by decide +kernel)) | exact .inr (.inr (by decide +kernel))⟩
    obtain ⟨kV, doc, pm, ct1, oc, an, od, osl, cc1, cda, vs, file, tf, ccl, cl, cdd, cld, ccs, csl, cdD, e1, e2, e3, e4, e5, e6, e7, e8⟩ := F45.ex
    exact ⟨_, _, defArgs s45, .none, kV, doc, pm, ct1, oc, an, od, osl, cc1, cda, _, vs, file, tf, ccl, cl, cdd, cld, ccs, csl, cdD, e1, e2, e3, rfl, rfl, e4, e5, e6, e7, e8⟩
  have MX45 := mkG_ok (Γ := (gam w K mg base  X1 X9 X10 X11 X12 X13 X14 X15 X16 X17 X18 X19 X20 X21 X22 X23 X24 X3 X25 X26 X0 X2)) (I := (inf f14 f15 f56 f57 f58 f59 f60 f21 f1 f38 f39 f40 f41 f42 f43 f44 f45 f46 f47 f48 f49 f50 f51 f52 f53 f2 f54 f55 d14 d15 d56 d57 d58 d59 d60 d21 d1 d38 d39 d40 d41 d42 d43 d44 d45 d46 d47 d48 d49 d50 d51 d52 d53 d2 d54 d55)) (eb := veB) (f := 45) (c := 16) (w := false) (N := N45) (sc := defScope s45) (body := defBody s45) FX45 XC16 xi16 xf16 rfl rfl cx45
  have FX46 : FnFactK (gam w K mg base  X1 X9 X10 X11 X12 X13 X14 X15 X16 X17 X18 X19 X20 X21 X22 X23 X24 X3 X25 X26 X0 X2) (inf f14 f15 f56 f57 f58 f59 f60 f21 f1 f38 f39 f40 f41 f42 f43 f44 f45 f46 f47 f48 f49 f50 f51 f52 f53 f2 f54 f55 d14 d15 d56 d57 d58 d59 d60 d21 d1 d38 d39 d40 d41 d42 d43 d44 d45 d46 d47 d48 d49 d50 d51 d52 d53 d2 d54 d55) 46 N46 (defBody s46) (defScope s46) X17 "self" := by
    refine ⟨?_, sc46, fun _ => b46, by decide +kernel, by decide +kernel, (show (prg.main.scope.names.lookup ("super" : Str)).isSome = false by decide +kernel), mB_super, op, rfl, by first | exact .inl (by decide +kernel) | exact .inr (.inl (by decide +kernel)) | exact .inr (.inr (by decide +kernel))⟩
    obtain ⟨kV, doc, pm, ct1, oc, an, od, osl, cc1, cda, vs, file, tf, ccl, cl, cdd, cld, ccs, csl, cdD, e1, e2, e3, e4, e5, e6, e7, e8⟩ := F46.ex
    exact ⟨_, _, defArgs s46, .none, kV, doc, pm, ct1, oc, an, od, osl, cc1, cda, _, vs, file, tf, ccl, cl, cdd, cld, ccs, csl, cdD, e1, e2, e3, rfl, rfl, e4, e5, e6, e7, e8⟩
  have MX46 := mkG_ok (Γ := (gam w K mg base  X1 X9 X10 X11 X12 X13 X14 X15 X16 X17 X18 X19 X20 X21 X22 X23 X24 X3 X25 X26 X0 X2)) (I := (inf f14 f15 f56 f57 f58 f59 f60 f21 f1 f38 f39 f40 f41 f42 f43 f44 f45 f46 f47 f48 f49 f50 f51 f52 f53 f2 f54 f55 d14 d15 d56 d57 d58 d59 d60 d21 d1 d38 d39 d40 d41 d42 d43 d44 d45 d46 d47 d48 d49 d50 d51 d52 d53 d2 d54 d55)) (eb := veB) (f := 46) (c := 17) (w := false) (N := N46) (sc := defScope s46) (body := defBody s46) FX46 XC17 xi17 xf17 rfl rfl cx46
  have FX47 : FnFactK (gam w K mg base  X1 X9 X10 X11 X12 X13 X14 X15 X16 X17 X18 X19 X20 X21 X22 X23 X24 X3 X25 X26 X0 X2) (inf f14 f15 f56 f57 f58 f59 f60 f21 f1 f38 f39 f40 f41 f42 f43 f44 f45 f46 f47 f48 f49 f50 f51 f52 f53 f2 f54 f55 d14 d15 d56 d57 d58 d59 d60 d21 d1 d38 d39 d40 d41 d42 d43 d44 d45 d46 d47 d48 d49 d50 d51 d52 d53 d2 d54 d55) 47 N47 (defBody s47) (defScope s47) X18 "self" := by
    refine ⟨?_, sc47, fun _ => b47, by decide +kernel, by decide +kernel, (show (prg.main.scope.names.lookup ("super" : Str)).isSome = false by decide +kernel), mB_super, op, rfl, by first | exact .inl (by decide +kernel) | exact .inr (.inl (by decide +kernel)) | exact .inr (.inr (by decide +kernel))⟩
    obtain ⟨kV, doc, pm, ct1, oc, an, od, osl, cc1, cda, vs, file, tf, ccl, cl, cdd, cld, ccs, csl, cdD, e1, e2, e3, e4, e5, e6, e7, e8⟩ := F47.ex
    exact ⟨_, _, defArgs s47, .none, kV, doc, pm, ct1, oc, an, od, osl, cc1, cda, _, vs, file, tf, ccl, cl, cdd, cld, ccs, csl, cdD, e1, e2, e3, rfl, rfl, e4, e5, e6, e7, e8⟩
  have MX47 := mkG_ok (Γ := (gam w K mg base  X1 X9 X10 X11 X12 X13 X14 X15 X16 X17 X18 X19 X20 X21 X22 X23 X24 X3 X25 X26 X0 X2)) (I := (inf f14 f15 f56 f57 f58 f59 f60 f21 f1 f38 f39 f40 f41 f42 f43 f44 f45 f46 f47 f48 f49 f50 f51 f52 f53 f2 f54 f55 d14 d15 d56 d57 d58 d59 d60 d21 d1 d38 d39 d40 d41 d42 d43 d44 d45 d46 d47 d48 d49 d50 d51 d52 d53 d2 d54 d55)) (eb := veB) (f := 47) (c := 18) (w := false) (N := N47) (sc := defScope s47) (body := defBody s47) FX47 XC18 xi18 xf18 rfl rfl cx47
  have FX48 : FnFactK (gam w K mg base  X1 X9 X10 X11 X12 X13 X14 X15 X16 X17 X18 X19 X20 X21 X22 X23 X24 X3 X25 X26 X0 X2) (inf f14 f15 f56 f57 f58 f59 f60 f21 f1 f38 f39 f40 f41 f42 f43 f44 f45 f46 f47 f48 f49 f50 f51 f52 f53 f2 f54 f55 d14 d15 d56 d57 d58 d59 d60 d21 d1 d38 d39 d40 d41 d42 d43 d44 d45 d46 d47 d48 d49 d50 d51 d52 d53 d2 d54 d55) 48 N48 (defBody s48) (defScope s48) X19 "self" := by
    refine ⟨?_, sc48, fun _ => b48, by decide +kernel, by decide +kernel, (show (prg.main.scope.names.lookup ("super" : Str)).isSome = false by decide +kernel), mB_super, op, rfl, by first | exact .inl (by decide +kernel) | exact .inr (.inl (by decide +kernel)) | exact .inr (.inr (by decide +kernel))⟩
    obtain ⟨kV, doc, pm, ct1, oc, an, od, osl, cc1, cda, vs, file, tf, ccl, cl, cdd, cld, ccs, csl, cdD, e1, e2, e3, e4, e5, e6, e7, e8⟩ := F48.ex
    exact ⟨_, _, defArgs s48, .none, kV, doc, pm, ct1, oc, an, od, osl, cc1, cda, _, vs, file, tf, ccl, cl, cdd, cld, ccs, csl, cdD, e1, e2, e3, rfl, rfl, e4, e5, e6, e7, e8⟩
  have MX48 := mkG_ok (Γ := (gam w K mg base  X1 X9 X10 X11 X12 X13 X14 X15 X16 X17 X18 X19 X20 X21 X22 X23 X24 X3 X25 X26 X0 X2)) (I := (inf f14 f15 f56 f57 f58 f59 f60 f21 f1 f38 f39 f40 f41 f42 f43 f44 f45 f46 f47 f48 f49 f50 f51 f52 f53 f2 f54 f55 d14 d15 d56 d57 d58 d59 d60 d21 d1 d38 d39 d40 d41 d42 d43 d44 d45 d46 d47 d48 d49 d50 d51 d52 d53 d2 d54 d55)) (eb := veB) (f := 48) (c := 19) (w := true) (N := N48) (sc := defScope s48) (body := defBody s48) FX48 XC19 xi19 xf19 rfl rfl cx48
  have FX49 : FnFactK (gam w K mg base  X1 X9 X10 X11 X12 X13 X14 X15 X16 X17 X18 X19 X20 X21 X22 X23 X24 X3 X25 X26 X0 X2) (inf f14 f15 f56 f57 f58 f59 f60 f21 f1 f38 f39 f40 f41 f42 f43 f44 f45 f46 f47 f48 f49 f50 f51 f52 f53 f2 f54 f55 d14 d15 d56 d57 d58 d59 d60 d21 d1 d38 d39 d40 d41 d42 d43 d44 d45 d46 d47 d48 d49 d50 d51 d52 d53 d2 d54 d55) 49 N49 (defBody s49) (defScope s49) X20 "self" := by
    refine ⟨?_, sc49, fun _ => b49, by decide +kernel, by decide +kernel, (show (prg.main.scope.names.lookup ("super" : Str)).isSome = false by decide +kernel), mB_super, op, rfl, by first | exact .inl (by decide +kernel) | exact .inr (.inl (by decide +kernel)) | exact .inr (.inr (by decide +kernel))⟩
    obtain ⟨kV, doc, pm, ct1, oc, an, od, osl, cc1, cda, vs, file, tf, ccl, cl, cdd, cld, ccs, csl, cdD, e1, e2, e3, e4, e5, e6, e7, e8⟩ := F49.ex
    exact ⟨_, _, defArgs s49, .none, kV, doc, pm, ct1, oc, an, od, osl, cc1, cda, _, vs, file, tf, ccl, cl, cdd, cld, ccs, csl, cdD, e1, e2, e3, rfl, rfl, e4, e5, e6, e7, e8⟩
  have MX49 := mkG_ok (Γ := (gam w K mg base  X1 X9 X10 X11 X12 X13 X14 X15 X16 X17 X18 X19 X20 X21 X22 X23 X24 X3 X25 X26 X0 X2)) (I := (inf f14 f15 f56 f57 f58 f59 f60 f21 f1 f38 f39 f40 f41 f42 f43 f44 f45 f46 f47 f48 f49 f50 f51 f52 f53 f2 f54 f55 d14 d15 d56 d57 d58 d59 d60 d21 d1 d38 d39 d40 d41 d42 d43 d44 d45 d46 d47 d48 d49 d50 d51 d52 d53 d2 d54 d55)) (eb := veB) (f := 49) (c := 20) (w := false) (N := N49) (sc := defScope s49) (body := defBody s49) FX49 XC20 xi20 xf20 rfl rfl cx49
  have FX50 : FnFactK (gam w K mg base  X1 X9 X10 X11 X12 X13 X14 X15 X16 X17 X18 X19 X20 X21 X22 X23 X24 X3 X25 X26 X0 X2) (inf f14 f15 f56 f57 f58 f59 f60 f21 f1 f38 f39 f40 f41 f42 f43 f44 f45 f46 f47 f48 f49 f50 f51 f52 f53 f2 f54 f55 d14 d15 d56 d57 d58 d59 d60 d21 d1 d38 d39 d40 d41 d42 d43 d44 d45 d46 d47 d48 d49 d50 d51 d52 d53 d2 d54 d55) 50 N50 (defBody s50) (defScope s50) X21 "self" := by
    refine ⟨?_, sc50, fun _ => b50, by decide +kernel, by decide +kernel, (show (prg.main.scope.names.lookup ("super" : Str)).isSome = false by decide +kernel), mB_super, op, rfl, by first | exact .inl (by decide +kernel) | exact .inr (.inl (by decide +kernel)) | exact .inr (.inr (by decide +kernel))⟩
    obtain ⟨kV, doc, pm, ct1, oc, an, od, osl, cc1, cda, vs, file, tf, ccl, cl, cdd, cld, ccs, csl, cdD, e1, e2, e3, e4, e5, e6, e7, e8⟩ := F50.ex
    exact ⟨_, _, defArgs s50, .none, kV, doc, pm, ct1, oc, an, od, osl, cc1, cda, _, vs, file, tf, ccl, cl, cdd, cld, ccs, csl, cdD, e1, e2, e3, rfl, rfl, e4, e5, e6, e7, e8⟩
  have MX50 := mkG_ok (Γ := (gam w K mg base  X1 X9 X10 X11 X12 X13 X14 X15 X16 X17 X18 X19 X20 X21 X22 X23 X24 X3 X25 X26 X0 X2)) (I := (inf f14 f15 f56 f57 f58 f59 f60 f21 f1 f38 f39 f40 f41 f42 f43 f44 f45 f46 f47 f48 f49 f50 f51 f52 f53 f2 f54 f55 d14 d15 d56 d57 d58 d59 d60 d21 d1 d38 d39 d40 d41 d42 d43 d44 d45 d46 d47 d48 d49 d50 d51 d52 d53 d2 d54 d55)) (eb := veB) (f := 50) (c := 21) (w := false) (N := N50) (sc := defScope s50) (body := defBody s50) FX50 XC21 xi21 xf21 rfl rfl cx50
  have FX51 : FnFactK (gam w K mg base  X1 X9 X10 X11 X12 X13 X14 X15 X16 X17 X18 X19 X20 X21 X22 X23 X24 X3 X25 X26 X0 X2) (inf f14 f15 f56 f57 f58 f59 f60 f21 f1 f38 f39 f40 f41 f42 f43 f44 f45 f46 f47 f48 f49 f50 f51 f52 f53 f2 f54 f55 d14 d15 d56 d57 d58 d59 d60 d21 d1 d38 d39 d40 d41 d42 d43 d44 d45 d46 d47 d48 d49 d50 d51 d52 d53 d2 d54 d55) 51 N51 (defBody s51) (defScope s51) X22 "self" := by
    refine ⟨?_, sc51, fun _ => b51, by decide +kernel, by decide +kernel, (show (prg.main.scope.names.lookup ("super" : Str)).isSome = false by decide +kernel), mB_super, op, rfl, by first | exact .inl (by decide +kernel) | exact .inr (.inl (by decide +kernel)) | exact .inr (.inr (by decide +kernel))⟩
    obtain ⟨kV, doc, pm, ct1, oc, an, od, osl, cc1, cda, vs, file, tf, ccl, cl, cdd, cld, ccs, csl, cdD, e1, e2, e3, e4, e5, e6, e7, e8⟩ := F51.ex
    exact ⟨_, _, defArgs s51, .none, kV, doc, pm, ct1, oc, an, od, osl, cc1, cda, _, vs, file, tf, ccl, cl, cdd, cld, ccs, csl, cdD, e1, e2, e3, rfl, rfl, e4, e5, e6, e7, e8⟩
  have MX51 := mkG_ok (Γ := (gam w K mg base  X1 X9 X10 X11 X12 X13 X14 X15 X16 X17 X18 X19 X20 X21 X22 X23 X24 X3 X25 X26 X0 X2)) (I := (inf f14 f15 f56 f57 f58 f59 f60 f21 f1 f38 f39 f40 f41 f42 f43 f44 f45 f46 f47 f48 f49 f50 f51 f52 f53 f2 f54 f55 d14 d15 d56 d57 d58 d59 d60 d21 d1 d38 d39 d40 d41 d42 d43 d44 d45 d46 d47 d48 d49 d50 d51 d52 d53 d2 d54 d55)) (eb := veB) (f := 51) (c := 22) (w := false) (N := N51) (sc := defScope s51) (body := defBody s51) FX51 XC22 xi22 xf22 rfl rfl cx51
  have FX52 : FnFactK (gam w K mg base  X1 X9 X10 X11 X12 X13 X14 X15 X16 X17 X18 X19 X20 X21 X22 X23 X24 X3 X25 X26 X0 X2) (inf f14 f15 f56 f57 f58 f59 f60 f21 f1 f38 f39 f40 f41 f42 f43 f44 f45 f46 f47 f48 f49 f50 f51 f52 f53 f2 f54 f55 d14 d15 d56 d57 d58 d59 d60 d21 d1 d38 d39 d40 d41 d42 d43 d44 d45 d46 d47 d48 d49 d50 d51 d52 d53 d2 d54 d55) 52 N52 (defBody s52) (defScope s52) X23 "self" := by
    refine ⟨?_, sc52, fun _ => b52, by decide +kernel, by decide +kernel, (show (prg.main.scope.names.lookup ("super" : Str)).isSome = false by decide +kernel), mB_super, op, rfl, by first | exact .inl (by decide +kernel) | exact .inr (.inl (by decide +kernel)) | exact .inr (.inr (by decide +kernel))⟩
    obtain ⟨kV, doc, pm, ct1, oc, an, od, osl, cc1, cda, vs, file, tf, ccl, cl, cdd, cld, ccs, csl, cdD, e1, e2, e3, e4, e5, e6, e7, e8⟩ := F52.ex
    exact ⟨_, _, defArgs s52, .none, kV, doc, pm, ct1, oc, an, od, osl, cc1, cda, _, vs, file, tf, ccl, cl, cdd, cld, ccs, csl, cdD, e1, e2, e3, rfl, rfl, e4, e5, e6, e7, e8⟩
  have MX52 := mkG_ok (Γ := (gam w K mg base  X1 X9 X10 X11 X12 X13 X14 X15 X16 X17 X18 X19 X20 X21 X22 X23 X24 X3 X25 X26 X0 X2)) (I := (inf f14 f15 f56 f57 f58 f59 f60 f21 f1 f38 f39 f40 f41 f42 f43 f44 f45 f46 f47 f48 f49 f50 f51 f52 f53 f2 f54 f55 d14 d15 d56 d57 d58 d59 d60 d21 d1 d38 d39 d40 d41 d42 d43 d44 d45 d46 d47 d48 d49 d50 d51 d52 d53 d2 d54 d55)) (eb := veB) (f := 52) (c := 23) (w := true) (N := N52) (sc := defScope s52) (body := defBody s52) FX52 XC23 xi23 xf23 rfl rfl cx52
  have FX53 : FnFactK (gam w K mg base  X1 X9 X10 X11 X12 X13 X14 X15 X16 X17 X18 X19 X20 X21 X22 X23 X24 X3 X25 X26 X0 X2) (inf f14 f15 f56 f57 f58 f59 f60 f21 f1 f38 f39 f40 f41 f42 f43 f44 f45 f46 f47 f48 f49 f50 f51 f52 f53 f2 f54 f55 d14 d15 d56 d57 d58 d59 d60 d21 d1 d38 d39 d40 d41 d42 d43 d44 d45 d46 d47 d48 d49 d50 d51 d52 d53 d2 d54 d55) 53 N53 (defBody s53) (defScope s53) X24 "self" := by
    refine ⟨?_, sc53, fun _ => b53, by decide +kernel, by decide +kernel, (show (prg.main.scope.names.lookup ("super" : Str)).isSome = false by decide +kernel), mB_super, op, rfl, by first | exact .inl (by decide +kernel) | exact .inr (.inl (by decide +kernel)) | exact .inr (.inr (by decide +kernel))⟩
    obtain ⟨kV, doc, pm, ct1, oc, an, od, osl, cc1, cda, vs, file, tf, ccl, cl, cdd, cld, ccs, csl, cdD, e1, e2, e3, e4, e5, e6, e7, e8⟩ := F53.ex
    exact ⟨_, _, defArgs s53, .none, kV, doc, pm, ct1, oc, an, od, osl, cc1, cda, _, vs, file, tf, ccl, cl, cdd, cld, ccs, csl, cdD, e1, e2, e3, rfl, rfl, e4, e5, e6, e7, e8⟩
  have MX53 := mkG_ok (Γ := (gam w K mg base  X1 X9 X10 X11 X12 X13 X14 X15 X16 X17 X18 X19 X20 X21 X22 X23 X24 X3 X25 X26 X0 X2)) (I := (inf f14 f15 f56 f57 f58 f59 f60 f21 f1 f38 f39 f40 f41 f42 f43 f44 f45 f46 f47 f48 f49 f50 f51 f52 f53 f2 f54 f55 d14 d15 d56 d57 d58 d59 d60 d21 d1 d38 d39 d40 d41 d42 d43 d44 d45 d46 d47 d48 d49 d50 d51 d52 d53 d2 d54 d55)) (eb := veB) (f := 53) (c := 24) (w := false) (N := N53) (sc := defScope s53) (body := defBody s53) FX53 XC24 xi24 xf24 rfl rfl cx53
  have FX2 : FnFactK (gam w K mg base  X1 X9 X10 X11 X12 X13 X14 X15 X16 X17 X18 X19 X20 X21 X22 X23 X24 X3 X25 X26 X0 X2) (inf f14 f15 f56 f57 f58 f59 f60 f21 f1 f38 f39 f40 f41 f42 f43 f44 f45 f46 f47 f48 f49 f50 f51 f52 f53 f2 f54 f55 d14 d15 d56 d57 d58 d59 d60 d21 d1 d38 d39 d40 d41 d42 d43 d44 d45 d46 d47 d48 d49 d50 d51 d52 d53 d2 d54 d55) 2 N2 (defBody s2) (defScope s2) X3 "self" := by
    refine ⟨?_, sc2, fun _ => b2, by decide +kernel, by decide +kernel, (show (prg.main.scope.names.lookup ("super" : Str)).isSome = false by decide +kernel), mB_super, op, rfl, by first | exact .inl (by decide +kernel) | exact .inr (.inl (by decide +kernel)) | exact .inr (.inr (by decide +kernel))⟩
    obtain ⟨kV, doc, pm, ct1, oc, an, od, osl, cc1, cda, vs, file, tf, ccl, cl, cdd, cld, ccs, csl, cdD, e1, e2, e3, e4, e5, e6, e7, e8⟩ := F2.ex
    exact ⟨_, _, defArgs s2, .none, kV, doc, pm, ct1, oc, an, od, osl, cc1, cda, _, vs, file, tf, ccl, cl, cdd, cld, ccs, csl, cdD, e1, e2, e3, rfl, rfl, e4, e5, e6, e7, e8⟩
  have MX2 := mkG_ok (Γ := (gam w K mg base  X1 X9 X10 X11 X12 X13 X14 X15 X16 X17 X18 X19 X20 X21 X22 X23 X24 X3 X25 X26 X0 X2)) (I := (inf f14 f15 f56 f57 f58 f59 f60 f21 f1 f38 f39 f40 f41 f42 f43 f44 f45 f46 f47 f48 f49 f50 f51 f52 f53 f2 f54 f55 d14 d15 d56 d57 d58 d59 d60 d21 d1 d38 d39 d40 d41 d42 d43 d44 d45 d46 d47 d48 d49 d50 d51 d52 d53 d2 d54 d55)) (eb := luB) (f := 2) (c := 3) (w := true) (N := N2) (sc := defScope s2) (body := defBody s2) FX2 XC3 xi3 xf3 rfl rfl cx2
  have FX54 : FnFactK (gam w K mg base  X1 X9 X10 X11 X12 X13 X14 X15 X16 X17 X18 X19 X20 X21 X22 X23 X24 X3 X25 X26 X0 X2) (inf f14 f15 f56 f57 f58 f59 f60 f21 f1 f38 f39 f40 f41 f42 f43 f44 f45 f46 f47 f48 f49 f50 f51 f52 f53 f2 f54 f55 d14 d15 d56 d57 d58 d59 d60 d21 d1 d38 d39 d40 d41 d42 d43 d44 d45 d46 d47 d48 d49 d50 d51 d52 d53 d2 d54 d55) 54 N54 (defBody s54) (defScope s54) X25 "self" := by
    refine ⟨?_, sc54, fun _ => b54, by decide +kernel, by decide +kernel, (show (prg.main.scope.names.lookup ("super" : Str)).isSome = false by decide +kernel), mB_super, op, rfl, by first | exact .inl (by decide +kernel) | exact .inr (.inl (by decide +kernel)) | exact .inr (.inr (by decide +kernel))⟩
    obtain ⟨kV, doc, pm, ct1, oc, an, od, osl, cc1, cda, vs, file, tf, ccl, cl, cdd, cld, ccs, csl, cdD, e1, e2, e3, e4, e5, e6, e7, e8⟩ := F54.ex
    exact ⟨_, _, defArgs s54, .none, kV, doc, pm, ct1, oc, an, od, osl, cc1, cda, _, vs, file, tf, ccl, cl, cdd, cld, ccs, csl, cdD, e1, e2, e3, rfl, rfl, e4, e5, e6, e7, e8⟩
  have MX54 := mkG_ok (Γ := (gam w K mg base  X1 X9 X10 X11 X12 X13 X14 X15 X16 X17 X18 X19 X20 X21 X22 X23 X24 X3 X25 X26 X0 X2)) (I := (inf f14 f15 f56 f57 f58 f59 f60 f21 f1 f38 f39 f40 f41 f42 f43 f44 f45 f46 f47 f48 f49 f50 f51 f52 f53 f2 f54 f55 d14 d15 d56 d57 d58 d59 d60 d21 d1 d38 d39 d40 d41 d42 d43 d44 d45 d46 d47 d48 d49 d50 d51 d52 d53 d2 d54 d55)) (eb := luB) (f := 54) (c := 25) (w := true) (N := N54) (sc := defScope s54) (body := defBody s54) FX54 XC25 xi25 xf25 rfl rfl cx54
  have FX55 : FnFactK (gam w K mg base  X1 X9 X10 X11 X12 X13 X14 X15 X16 X17 X18 X19 X20 X21 X22 X23 X24 X3 X25 X26 X0 X2) (inf f14 f15 f56 f57 f58 f59 f60 f21 f1 f38 f39 f40 f41 f42 f43 f44 f45 f46 f47 f48 f49 f50 f51 f52 f53 f2 f54 f55 d14 d15 d56 d57 d58 d59 d60 d21 d1 d38 d39 d40 d41 d42 d43 d44 d45 d46 d47 d48 d49 d50 d51 d52 d53 d2 d54 d55) 55 N55 (defBody s55) (defScope s55) X26 "self" := by
    refine ⟨?_, sc55, fun _ => b55, by decide +kernel, by decide +kernel, (show (prg.main.scope.names.lookup ("super" : Str)).isSome = false by decide +kernel), mB_super, op, rfl, by first | exact .inl (by decide +kernel) | exact .inr (.inl (by decide +kernel)) | exact .inr (.inr (by decide +kernel))⟩
    obtain ⟨kV, doc, pm, ct1, oc, an, od, osl, cc1, cda, vs, file, tf, ccl, cl, cdd, cld, ccs, csl, cdD, e1, e2, e3, e4, e5, e6, e7, e8⟩ := F55.ex
    exact ⟨_, _, defArgs s55, .none, kV, doc, pm, ct1, oc, an, od, osl, cc1, cda, _, vs, file, tf, ccl, cl, cdd, cld, ccs, csl, cdD, e1, e2, e3, rfl, rfl, e4, e5, e6, e7, e8⟩
  have MX55 := mkG_ok (Γ := (gam w K mg base  X1 X9 X10 X11 X12 X13 X14 X15 X16 X17 X18 X19 X20 X21 X22 X23 X24 X3 X25 X26 X0 X2)) (I := (inf f14 f15 f56 f57 f58 f59 f60 f21 f1 f38 f39 f40 f41 f42 f43 f44 f45 f46 f47 f48 f49 f50 f51 f52 f53 f2 f54 f55 d14 d15 d56 d57 d58 d59 d60 d21 d1 d38 d39 d40 d41 d42 d43 d44 d45 d46 d47 d48 d49 d50 d51 d52 d53 d2 d54 d55)) (eb := luB) (f := 55) (c := 26) (w := true) (N := N55) (sc := defScope s55) (body := defBody s55) FX55 XC26 xi26 xf26 rfl rfl cx55
  have gf : GF (gam w K mg base  X1 X9 X10 X11 X12 X13 X14 X15 X16 X17 X18 X19 X20 X21 X22 X23 X24 X3 X25 X26 X0 X2) (inf f14 f15 f56 f57 f58 f59 f60 f21 f1 f38 f39 f40 f41 f42 f43 f44 f45 f46 f47 f48 f49 f50 f51 f52 f53 f2 f54 f55 d14 d15 d56 d57 d58 d59 d60 d21 d1 d38 d39 d40 d41 d42 d43 d44 d45 d46 d47 d48 d49 d50 d51 d52 d53 d2 d54 d55) G ge := by
    refine ⟨?_, ?_, ?_, ?_, ?_, fun _ => rfl, fun _ => rfl, fun _ => rfl, ?_, ?_, ?_, ?_, ?_, ?_, ?_⟩
    · exact lk_cons ⟨mF14, F14.kp, rfl⟩ (lk_cons ⟨mF15, F15.kp, rfl⟩ (lk_cons ⟨mF56, F56.kp, rfl⟩ (lk_cons ⟨mF57, F57.kp, rfl⟩ (lk_cons ⟨mF58, F58.kp, rfl⟩ (lk_cons ⟨mF59, F59.kp, rfl⟩ (lk_cons ⟨mF60, F60.kp, rfl⟩ (lk_cons ⟨mF21, F21.kp, rfl⟩ (lk_nil))))))))
    · exact lk_nil
    · exact lk_nil
    · exact ct_cons mB_len (ct_cons mB_abs (ct_cons mB_int (ct_cons mB_str (ct_cons mB_range (ct_cons mB_isinstance (ct_cons mB_ValueError (ct_cons mB_LookupError (ct_cons mB_KeyError (ct_cons mB_IndexError (ct_nil))))))))))
    · exact fun f _ c h => nomatch h
    · exact fun c f _ h => nomatch h
    · exact fun c kn f h => nomatch h
    · exact lk_cons ⟨mX1, _, X1, f1, d1, psT 1, MX1, ⟨xm1, xu1, xb1⟩, fun h => absurd h (by decide)⟩ (lk_cons ⟨mX9, _, X9, f38, d38, psT 38, MX38, ⟨xm9, xu9, xb9⟩, fun h => absurd h (by decide)⟩ (lk_cons ⟨mX10, _, X10, f39, d39, psT 39, MX39, ⟨xm10, xu10, xb10⟩, fun h => absurd h (by decide)⟩ (lk_cons ⟨mX11, _, X11, f40, d40, psT 40, MX40, ⟨xm11, xu11, xb11⟩, fun h => absurd h (by decide)⟩ (lk_cons ⟨mX12, _, X12, f41, d41, psT 41, MX41, ⟨xm12, xu12, xb12⟩, fun _ => xo12⟩ (lk_cons ⟨mX13, _, X13, f42, d42, psT 42, MX42, ⟨xm13, xu13, xb13⟩, fun _ => xo13⟩ (lk_cons ⟨mX14, _, X14, f43, d43, psT 43, MX43, ⟨xm14, xu14, xb14⟩, fun _ => xo14⟩ (lk_cons ⟨mX15, _, X15, f44, d44, psT 44, MX44, ⟨xm15, xu15, xb15⟩, fun _ => xo15⟩ (lk_cons ⟨mX16, _, X16, f45, d45, psT 45, MX45, ⟨xm16, xu16, xb16⟩, fun h => absurd h (by decide)⟩ (lk_cons ⟨mX17, _, X17, f46, d46, psT 46, MX46, ⟨xm17, xu17, xb17⟩, fun h => absurd h (by decide)⟩ (lk_cons ⟨mX18, _, X18, f47, d47, psT 47, MX47, ⟨xm18, xu18, xb18⟩, fun h => absurd h (by decide)⟩ (lk_cons ⟨mX19, _, X19, f48, d48, psT 48, MX48, ⟨xm19, xu19, xb19⟩, fun _ => xo19⟩ (lk_cons ⟨mX20, _, X20, f49, d49, psT 49, MX49, ⟨xm20, xu20, xb20⟩, fun h => absurd h (by decide)⟩ (lk_cons ⟨mX21, _, X21, f50, d50, psT 50, MX50, ⟨xm21, xu21, xb21⟩, fun h => absurd h (by decide)⟩ (lk_cons ⟨mX22, _, X22, f51, d51, psT 51, MX51, ⟨xm22, xu22, xb22⟩, fun h => absurd h (by decide)⟩ (lk_cons ⟨mX23, _, X23, f52, d52, psT 52, MX52, ⟨xm23, xu23, xb23⟩, fun _ => xo23⟩ (lk_cons ⟨mX24, _, X24, f53, d53, psT 53, MX53, ⟨xm24, xu24, xb24⟩, fun h => absurd h (by decide)⟩ (lk_cons ⟨mX3, _, X3, f2, d2, psT 2, MX2, ⟨xm3, xu3, xb3⟩, fun _ => xo3⟩ (lk_cons ⟨mX25, _, X25, f54, d54, psT 54, MX54, ⟨xm25, xu25, xb25⟩, fun _ => xo25⟩ (lk_cons ⟨mX26, _, X26, f55, d55, psT 55, MX55, ⟨xm26, xu26, xb26⟩, fun _ => xo26⟩ (lk_nil))))))))))))))))))))
    · exact fun h => nomatch h
    · exact fun h => nomatch h
    · exact fun _ => rfl
    · exact lk_cons mX1 (lk_cons mX9 (lk_cons mX10 (lk_cons mX11 (lk_cons mX12 (lk_cons mX13 (lk_cons mX14 (lk_cons mX15 (lk_cons mX16 (lk_cons mX17 (lk_cons mX18 (lk_cons mX19 (lk_cons mX20 (lk_cons mX21 (lk_cons mX22 (lk_cons mX23 (lk_cons mX24 (lk_cons mX3 (lk_cons mX25 (lk_cons mX26 (lk_cons mX0 (lk_cons mX2 (lk_nil))))))))))))))))))))))
  have hb : ∀ f, (fnT f).isSome = true → posT f = true → Binds K (fd0 d14 d15 d56 d57 d58 d59 d60 d21 d1 d38 d39 d40 d41 d42 d43 d44 d45 d46 d47 d48 d49 d50 d51 d52 d53 d2 d54 d55 f) (psT f) [] := by
    intro f h h1
    unfold fnT at h
    split at h
    · exact b14
    · exact b15
    · exact b56
    · exact b57
    · exact b58
    · exact b59
    · exact b60
    · exact b21
    · cases h
  have hs : ∀ f d, G.fn f = some d → FnSound (gam w K mg base  X1 X9 X10 X11 X12 X13 X14 X15 X16 X17 X18 X19 X20 X21 X22 X23 X24 X3 X25 X26 X0 X2) (inf f14 f15 f56 f57 f58 f59 f60 f21 f1 f38 f39 f40 f41 f42 f43 f44 f45 f46 f47 f48 f49 f50 f51 f52 f53 f2 f54 f55 d14 d15 d56 d57 d58 d59 d60 d21 d1 d38 d39 d40 d41 d42 d43 d44 d45 d46 d47 d48 d49 d50 d51 d52 d53 d2 d54 d55) G f d := by
    intro f d h
    have h : fnT f = some d := h
    unfold fnT at h
    split at h <;> cases h
    · exact fn_sound (N := N14) (body := defBody s14) (scope := defScope s14) ⟨ok_fd F14, sc14, fun _ => b14⟩ St gf rfl rfl ck14
    · exact fn_sound (N := N15) (body := defBody s15) (scope := defScope s15) ⟨ok_fd F15, sc15, fun _ => b15⟩ St gf rfl rfl ck15
    · exact fn_sound (N := N56) (body := defBody s56) (scope := defScope s56) ⟨ok_fd F56, sc56, fun _ => b56⟩ St gf rfl rfl ck56
    · exact fn_sound (N := N57) (body := defBody s57) (scope := defScope s57) ⟨ok_fd F57, sc57, fun _ => b57⟩ St gf rfl rfl ck57
    · exact fn_sound (N := N58) (body := defBody s58) (scope := defScope s58) ⟨ok_fd F58, sc58, fun _ => b58⟩ St gf rfl rfl ck58
    · exact fn_sound (N := N59) (body := defBody s59) (scope := defScope s59) ⟨ok_fd F59, sc59, fun _ => b59⟩ St gf rfl rfl ck59
    · exact fn_sound (N := N60) (body := defBody s60) (scope := defScope s60) ⟨ok_fd F60, sc60, fun _ => b60⟩ St gf rfl rfl ck60
    · exact fn_sound (N := N21) (body := defBody s21) (scope := defScope s21) ⟨ok_fd F21, sc21, fun _ => b21⟩ St gf rfl rfl ck21
  exact law_fn (levels (fun _ => rfl) hs hb 40).1 rfl rfl tot
end MS

set_option Elab.async false
set_option linter.all false
set_option maxRecDepth 100000
set_option maxHeartbeats 0
namespace MS
open PySem PySem.Spec PyProof.Rows L2
theorem all_mk (tot : ∀ ns : List Int, ns.length ≤ 63 → ∃ h', (G.ff 40).1 21 [.t (.scr ns)] [] = .ok (.t (.bl true)) h') {w : World} {K : PySem.W.Frag} {h : Heap} {mg : Str → Option Value} { X1 X9 X10 X11 X12 X13 X14 X15 X16 X17 X18 X19 X20 X21 X22 X23 X24 X3 X25 X26 X0 X2 f14 f15 f56 f57 f58 f59 f60 f21 f1 f38 f39 f40 f41 f42 f43 f44 f45 f46 f47 f48 f49 f50 f51 f52 f53 f2 f54 f55 : Addr} {fa : Addr}  (X : K.In h) (G0 : h.Ns mainGlobals mg) (hfa : mg "law" = some (.ref fa))
    {oc14 kV14 dc14 pm14 cd14 ct14 : Value} {od14 an14 : Option Addr} {sl14 : Array (Option Value)}
    {oc15 kV15 dc15 pm15 cd15 ct15 : Value} {od15 an15 : Option Addr} {sl15 : Array (Option Value)}
    {oc56 kV56 dc56 pm56 cd56 ct56 : Value} {od56 an56 : Option Addr} {sl56 : Array (Option Value)}
    {oc57 kV57 dc57 pm57 cd57 ct57 : Value} {od57 an57 : Option Addr} {sl57 : Array (Option Value)}
    {oc58 kV58 dc58 pm58 cd58 ct58 : Value} {od58 an58 : Option Addr} {sl58 : Array (Option Value)}
    {oc59 kV59 dc59 pm59 cd59 ct59 : Value} {od59 an59 : Option Addr} {sl59 : Array (Option Value)}
    {oc60 kV60 dc60 pm60 cd60 ct60 : Value} {od60 an60 : Option Addr} {sl60 : Array (Option Value)}
    {oc21 kV21 dc21 pm21 cd21 ct21 : Value} {od21 an21 : Option Addr} {sl21 : Array (Option Value)}
    {xnm1 xq1 : Str} {xN1 : Addr} {xbs1 xbm1 xsub1 : List Value} {xsn1 : List Str} {xab1 : Bool} {xcol1 : Option Bool} {xdd1 : Option Addr} {xk01 xk11 xk21 xk31 xk51 : Option Value}
    {oc1 kV1 dc1 pm1 ct1 ccl1 cl1 : Value} {od1 an1 cdd1 cld1 : Option Addr} {sl1 ccs1 csl1 : Array (Option Value)} {cc1 cda1 : Addr} {vs1 : Array Value} {file1 : Str} {tf1 : Tok} {cdD1 : ClassData}
    {xnm9 xq9 : Str} {xN9 : Addr} {xbs9 xbm9 xsub9 : List Value} {xsn9 : List Str} {xab9 : Bool} {xcol9 : Option Bool} {xdd9 : Option Addr} {xk09 xk19 xk29 xk39 xk59 : Option Value}
    {oc38 kV38 dc38 pm38 ct38 ccl38 cl38 : Value} {od38 an38 cdd38 cld38 : Option Addr} {sl38 ccs38 csl38 : Array (Option Value)} {cc38 cda38 : Addr} {vs38 : Array Value} {file38 : Str} {tf38 : Tok} {cdD38 : ClassData}
    {xnm10 xq10 : Str} {xN10 : Addr} {xbs10 xbm10 xsub10 : List Value} {xsn10 : List Str} {xab10 : Bool} {xcol10 : Option Bool} {xdd10 : Option Addr} {xk010 xk110 xk210 xk310 xk510 : Option Value}
    {oc39 kV39 dc39 pm39 ct39 ccl39 cl39 : Value} {od39 an39 cdd39 cld39 : Option Addr} {sl39 ccs39 csl39 : Array (Option Value)} {cc39 cda39 : Addr} {vs39 : Array Value} {file39 : Str} {tf39 : Tok} {cdD39 : ClassData}
    {xnm11 xq11 : Str} {xN11 : Addr} {xbs11 xbm11 xsub11 : List Value} {xsn11 : List Str} {xab11 : Bool} {xcol11 : Option Bool} {xdd11 : Option Addr} {xk011 xk111 xk211 xk311 xk511 : Option Value}
    {oc40 kV40 dc40 pm40 ct40 ccl40 cl40 : Value} {od40 an40 cdd40 cld40 : Option Addr} {sl40 ccs40 csl40 : Array (Option Value)} {cc40 cda40 : Addr} {vs40 : Array Value} {file40 : Str} {tf40 : Tok} {cdD40 : ClassData}
    {xnm12 xq12 : Str} {xN12 : Addr} {xbs12 xbm12 xsub12 : List Value} {xsn12 : List Str} {xab12 : Bool} {xcol12 : Option Bool} {xdd12 : Option Addr} {xk012 xk112 xk212 xk312 xk512 : Option Value}
    {oc41 kV41 dc41 pm41 ct41 ccl41 cl41 : Value} {od41 an41 cdd41 cld41 : Option Addr} {sl41 ccs41 csl41 : Array (Option Value)} {cc41 cda41 : Addr} {vs41 : Array Value} {file41 : Str} {tf41 : Tok} {cdD41 : ClassData}
    {xnm13 xq13 : Str} {xN13 : Addr} {xbs13 xbm13 xsub13 : List Value} {xsn13 : List Str} {xab13 : Bool} {xcol13 : Option Bool} {xdd13 : Option Addr} {xk013 xk113 xk213 xk313 xk513 : Option Value}
    {oc42 kV42 dc42 pm42 ct42 ccl42 cl42 : Value} {od42 an42 cdd42 cld42 : Option Addr} {sl42 ccs42 csl42 : Array (Option Value)} {cc42 cda42 : Addr} {vs42 : Array Value} {file42 : Str} {tf42 : Tok} {cdD42 : ClassData}
    {xnm14 xq14 : Str} {xN14 : Addr} {xbs14 xbm14 xsub14 : List Value} {xsn14 : List Str} {xab14 : Bool} {xcol14 : Option Bool} {xdd14 : Option Addr} {xk014 xk114 xk214 xk314 xk514 : Option Value}
    {oc43 kV43 dc43 pm43 ct43 ccl43 cl43 : Value} {od43 an43 cdd43 cld43 : Option Addr} {sl43 ccs43 csl43 : Array (Option Value)} {cc43 cda43 : Addr} {vs43 : Array Value} {file43 : Str} {tf43 : Tok} {cdD43 : ClassData}
    {xnm15 xq15 : Str} {xN15 : Addr} {xbs15 xbm15 xsub15 : List Value} {xsn15 : List Str} {xab15 : Bool} {xcol15 : Option Bool} {xdd15 : Option Addr} {xk015 xk115 xk215 xk315 xk515 : Option Value}
    {oc44 kV44 dc44 pm44 ct44 ccl44 cl44 : Value} {od44 an44 cdd44 cld44 : Option Addr} {sl44 ccs44 csl44 : Array (Option Value)} {cc44 cda44 : Addr} {vs44 : Array Value} {file44 : Str} {tf44 : Tok} {cdD44 : ClassData}
    {xnm16 xq16 : Str} {xN16 : Addr} {xbs16 xbm16 xsub16 : List Value} {xsn16 : List Str} {xab16 : Bool} {xcol16 : Option Bool} {xdd16 : Option Addr} {xk016 xk116 xk216 xk316 xk516 : Option Value}
    {oc45 kV45 dc45 pm45 ct45 ccl45 cl45 : Value} {od45 an45 cdd45 cld45 : Option Addr} {sl45 ccs45 csl45 : Array (Option Value)} {cc45 cda45 : Addr} {vs45 : Array Value} {file45 : Str} {tf45 : Tok} {cdD45 : ClassData}
    {xnm17 xq17 : Str} {xN17 : Addr} {xbs17 xbm17 xsub17 : List Value} {xsn17 : List Str} {xab17 : Bool} {xcol17 : Option Bool} {xdd17 : Option Addr} {xk017 xk117 xk217 xk317 xk517 : Option Value}
    {oc46 kV46 dc46 pm46 ct46 ccl46 cl46 : Value} {od46 an46 cdd46 cld46 : Option Addr} {sl46 ccs46 csl46 : Array (Option Value)} {cc46 cda46 : Addr} {vs46 : Array Value} {file46 : Str} {tf46 : Tok} {cdD46 : ClassData}
    {xnm18 xq18 : Str} {xN18 : Addr} {xbs18 xbm18 xsub18 : List Value} {xsn18 : List Str} {xab18 : Bool} {xcol18 : Option Bool} {xdd18 : Option Addr} {xk018 xk118 xk218 xk318 xk518 : Option Value}
    {oc47 kV47 dc47 pm47 ct47 ccl47 cl47 : Value} {od47 an47 cdd47 cld47 : Option Addr} {sl47 ccs47 csl47 : Array (Option Value)} {cc47 cda47 : Addr} {vs47 : Array Value} {file47 : Str} {tf47 : Tok} {cdD47 : ClassData}
    {xnm19 xq19 : Str} {xN19 : Addr} {xbs19 xbm19 xsub19 : List Value} {xsn19 : List Str} {xab19 : Bool} {xcol19 : Option Bool} {xdd19 : Option Addr} {xk019 xk119 xk219 xk319 xk519 : Option Value}
    {oc48 kV48 dc48 pm48 ct48 ccl48 cl48 : Value} {od48 an48 cdd48 cld48 : Option Addr} {sl48 ccs48 csl48 : Array (Option Value)} {cc48 cda48 : Addr} {vs48 : Array Value} {file48 : Str} {tf48 : Tok} {cdD48 : ClassData}
    {xnm20 xq20 : Str} {xN20 : Addr} {xbs20 xbm20 xsub20 : List Value} {xsn20 : List Str} {xab20 : Bool} {xcol20 : Option Bool} {xdd20 : Option Addr} {xk020 xk120 xk220 xk320 xk520 : Option Value}
    {oc49 kV49 dc49 pm49 ct49 ccl49 cl49 : Value} {od49 an49 cdd49 cld49 : Option Addr} {sl49 ccs49 csl49 : Array (Option Value)} {cc49 cda49 : Addr} {vs49 : Array Value} {file49 : Str} {tf49 : Tok} {cdD49 : ClassData}
    {xnm21 xq21 : Str} {xN21 : Addr} {xbs21 xbm21 xsub21 : List Value} {xsn21 : List Str} {xab21 : Bool} {xcol21 : Option Bool} {xdd21 : Option Addr} {xk021 xk121 xk221 xk321 xk521 : Option Value}
    {oc50 kV50 dc50 pm50 ct50 ccl50 cl50 : Value} {od50 an50 cdd50 cld50 : Option Addr} {sl50 ccs50 csl50 : Array (Option Value)} {cc50 cda50 : Addr} {vs50 : Array Value} {file50 : Str} {tf50 : Tok} {cdD50 : ClassData}
    {xnm22 xq22 : Str} {xN22 : Addr} {xbs22 xbm22 xsub22 : List Value} {xsn22 : List Str} {xab22 : Bool} {xcol22 : Option Bool} {xdd22 : Option Addr} {xk022 xk122 xk222 xk322 xk522 : Option Value}
    {oc51 kV51 dc51 pm51 ct51 ccl51 cl51 : Value} {od51 an51 cdd51 cld51 : Option Addr} {sl51 ccs51 csl51 : Array (Option Value)} {cc51 cda51 : Addr} {vs51 : Array Value} {file51 : Str} {tf51 : Tok} {cdD51 : ClassData}
    {xnm23 xq23 : Str} {xN23 : Addr} {xbs23 xbm23 xsub23 : List Value} {xsn23 : List Str} {xab23 : Bool} {xcol23 : Option Bool} {xdd23 : Option Addr} {xk023 xk123 xk223 xk323 xk523 : Option Value}
    {oc52 kV52 dc52 pm52 ct52 ccl52 cl52 : Value} {od52 an52 cdd52 cld52 : Option Addr} {sl52 ccs52 csl52 : Array (Option Value)} {cc52 cda52 : Addr} {vs52 : Array Value} {file52 : Str} {tf52 : Tok} {cdD52 : ClassData}
    {xnm24 xq24 : Str} {xN24 : Addr} {xbs24 xbm24 xsub24 : List Value} {xsn24 : List Str} {xab24 : Bool} {xcol24 : Option Bool} {xdd24 : Option Addr} {xk024 xk124 xk224 xk324 xk524 : Option Value}
    {oc53 kV53 dc53 pm53 ct53 ccl53 cl53 : Value} {od53 an53 cdd53 cld53 : Option Addr} {sl53 ccs53 csl53 : Array (Option Value)} {cc53 cda53 : Addr} {vs53 : Array Value} {file53 : Str} {tf53 : Tok} {cdD53 : ClassData}
    {xnm3 xq3 : Str} {xN3 : Addr} {xbs3 xbm3 xsub3 : List Value} {xsn3 : List Str} {xab3 : Bool} {xcol3 : Option Bool} {xdd3 : Option Addr} {xk03 xk13 xk23 xk33 xk53 : Option Value}
    {oc2 kV2 dc2 pm2 ct2 ccl2 cl2 : Value} {od2 an2 cdd2 cld2 : Option Addr} {sl2 ccs2 csl2 : Array (Option Value)} {cc2 cda2 : Addr} {vs2 : Array Value} {file2 : Str} {tf2 : Tok} {cdD2 : ClassData}
    {xnm25 xq25 : Str} {xN25 : Addr} {xbs25 xbm25 xsub25 : List Value} {xsn25 : List Str} {xab25 : Bool} {xcol25 : Option Bool} {xdd25 : Option Addr} {xk025 xk125 xk225 xk325 xk525 : Option Value}
    {oc54 kV54 dc54 pm54 ct54 ccl54 cl54 : Value} {od54 an54 cdd54 cld54 : Option Addr} {sl54 ccs54 csl54 : Array (Option Value)} {cc54 cda54 : Addr} {vs54 : Array Value} {file54 : Str} {tf54 : Tok} {cdD54 : ClassData}
    {xnm26 xq26 : Str} {xN26 : Addr} {xbs26 xbm26 xsub26 : List Value} {xsn26 : List Str} {xab26 : Bool} {xcol26 : Option Bool} {xdd26 : Option Addr} {xk026 xk126 xk226 xk326 xk526 : Option Value}
    {oc55 kV55 dc55 pm55 ct55 ccl55 cl55 : Value} {od55 an55 cdd55 cld55 : Option Addr} {sl55 ccs55 csl55 : Array (Option Value)} {cc55 cda55 : Addr} {vs55 : Array Value} {file55 : Str} {tf55 : Tok} {cdD55 : ClassData}
    (aF14 : PySem.W.nsIn K mainGlobals "_law_source" = some (some (.ref f14)))
    (aF15 : PySem.W.nsIn K mainGlobals "_law_pick" = some (some (.ref f15)))
    (aF56 : PySem.W.nsIn K mainGlobals "_law_word" = some (some (.ref f56)))
    (aF57 : PySem.W.nsIn K mainGlobals "_law_plain" = some (some (.ref f57)))
    (aF58 : PySem.W.nsIn K mainGlobals "_law_named" = some (some (.ref f58)))
    (aF59 : PySem.W.nsIn K mainGlobals "_law_missing" = some (some (.ref f59)))
    (aF60 : PySem.W.nsIn K mainGlobals "_law_classes" = some (some (.ref f60)))
    (aF21 : PySem.W.nsIn K mainGlobals "law" = some (some (.ref f21)))
    (l14 : K.lookup f14 = some ⟨oc14, od14, .func (PySem.W.fnOf "_law_source" "_law_source" (defArgs s14) (defBody s14) (defScope s14) .none kV14 dc14 pm14 an14 cd14 ct14), sl14⟩)
    (c14 : PySem.W.codeIn K cd14 "_law_source" = true)
    (k14 : PySem.W.keepIn K (.ref f14) = true)
    (i14 : PySem.W.isFn K (.ref f14) = true)
    (l15 : K.lookup f15 = some ⟨oc15, od15, .func (PySem.W.fnOf "_law_pick" "_law_pick" (defArgs s15) (defBody s15) (defScope s15) .none kV15 dc15 pm15 an15 cd15 ct15), sl15⟩)
    (c15 : PySem.W.codeIn K cd15 "_law_pick" = true)
    (k15 : PySem.W.keepIn K (.ref f15) = true)
    (i15 : PySem.W.isFn K (.ref f15) = true)
    (l56 : K.lookup f56 = some ⟨oc56, od56, .func (PySem.W.fnOf "_law_word" "_law_word" (defArgs s56) (defBody s56) (defScope s56) .none kV56 dc56 pm56 an56 cd56 ct56), sl56⟩)
    (c56 : PySem.W.codeIn K cd56 "_law_word" = true)
    (k56 : PySem.W.keepIn K (.ref f56) = true)
    (i56 : PySem.W.isFn K (.ref f56) = true)
    (l57 : K.lookup f57 = some ⟨oc57, od57, .func (PySem.W.fnOf "_law_plain" "_law_plain" (defArgs s57) (defBody s57) (defScope s57) .none kV57 dc57 pm57 an57 cd57 ct57), sl57⟩)
    (c57 : PySem.W.codeIn K cd57 "_law_plain" = true)
    (k57 : PySem.W.keepIn K (.ref f57) = true)
    (i57 : PySem.W.isFn K (.ref f57) = true)
    (l58 : K.lookup f58 = some ⟨oc58, od58, .func (PySem.W.fnOf "_law_named" "_law_named" (defArgs s58) (defBody s58) (defScope s58) .none kV58 dc58 pm58 an58 cd58 ct58), sl58⟩)
    (c58 : PySem.W.codeIn K cd58 "_law_named" = true)
    (k58 : PySem.W.keepIn K (.ref f58) = true)
    (i58 : PySem.W.isFn K (.ref f58) = true)
    (l59 : K.lookup f59 = some ⟨oc59, od59, .func (PySem.W.fnOf "_law_missing" "_law_missing" (defArgs s59) (defBody s59) (defScope s59) .none kV59 dc59 pm59 an59 cd59 ct59), sl59⟩)
    (c59 : PySem.W.codeIn K cd59 "_law_missing" = true)
    (k59 : PySem.W.keepIn K (.ref f59) = true)
    (i59 : PySem.W.isFn K (.ref f59) = true)
    (l60 : K.lookup f60 = some ⟨oc60, od60, .func (PySem.W.fnOf "_law_classes" "_law_classes" (defArgs s60) (defBody s60) (defScope s60) .none kV60 dc60 pm60 an60 cd60 ct60), sl60⟩)
    (c60 : PySem.W.codeIn K cd60 "_law_classes" = true)
    (k60 : PySem.W.keepIn K (.ref f60) = true)
    (i60 : PySem.W.isFn K (.ref f60) = true)
    (l21 : K.lookup f21 = some ⟨oc21, od21, .func (PySem.W.fnOf "law" "law" (defArgs s21) (defBody s21) (defScope s21) .none kV21 dc21 pm21 an21 cd21 ct21), sl21⟩)
    (c21 : PySem.W.codeIn K cd21 "law" = true)
    (k21 : PySem.W.keepIn K (.ref f21) = true)
    (i21 : PySem.W.isFn K (.ref f21) = true)
    (aX1 : PySem.W.nsIn K mainGlobals "BadMonoid" = some (some (.ref X1)))
    (aX9 : PySem.W.nsIn K mainGlobals "BadKind" = some (some (.ref X9)))
    (aX10 : PySem.W.nsIn K mainGlobals "BadValue" = some (some (.ref X10)))
    (aX11 : PySem.W.nsIn K mainGlobals "TooMany" = some (some (.ref X11)))
    (aX12 : PySem.W.nsIn K mainGlobals "BadName" = some (some (.ref X12)))
    (aX13 : PySem.W.nsIn K mainGlobals "TwiceTold" = some (some (.ref X13)))
    (aX14 : PySem.W.nsIn K mainGlobals "NoStep" = some (some (.ref X14)))
    (aX15 : PySem.W.nsIn K mainGlobals "NotClosed" = some (some (.ref X15)))
    (aX16 : PySem.W.nsIn K mainGlobals "MixedKinds" = some (some (.ref X16)))
    (aX17 : PySem.W.nsIn K mainGlobals "MixedSystems" = some (some (.ref X17)))
    (aX18 : PySem.W.nsIn K mainGlobals "BadImages" = some (some (.ref X18)))
    (aX19 : PySem.W.nsIn K mainGlobals "NotKept" = some (some (.ref X19)))
    (aX20 : PySem.W.nsIn K mainGlobals "BadSaying" = some (some (.ref X20)))
    (aX21 : PySem.W.nsIn K mainGlobals "BadBehaviour" = some (some (.ref X21)))
    (aX22 : PySem.W.nsIn K mainGlobals "BadTurn" = some (some (.ref X22)))
    (aX23 : PySem.W.nsIn K mainGlobals "OpenState" = some (some (.ref X23)))
    (aX24 : PySem.W.nsIn K mainGlobals "NothingDone" = some (some (.ref X24)))
    (aX3 : PySem.W.nsIn K mainGlobals "UnknownMember" = some (some (.ref X3)))
    (aX25 : PySem.W.nsIn K mainGlobals "UnknownState" = some (some (.ref X25)))
    (aX26 : PySem.W.nsIn K mainGlobals "NotTold" = some (some (.ref X26)))
    (aX0 : PySem.W.nsIn K mainGlobals "KindstepsError" = some (some (.ref X0)))
    (aX2 : PySem.W.nsIn K mainGlobals "NameMissing" = some (some (.ref X2)))
    (xcl1 : (PySem.W.clsIn K X1).isSome = true)
    (xg1 : PySem.W.findIn K (.ref X1) "__getattribute__" = some (some (.builtin "BaseException.__getattribute__")))
    (xh1 : PySem.W.findIn K (.ref X1) "__getattr__" = some none)
    (xd1 : PySem.W.hasDictIn K X1 = true)
    (xca1 : PySem.W.findIn K (.ref X1) "__class__" = some (some (.builtin "object.__class__")))
    (xob1 : PySem.W.mroIn K X1 (.type "object") = some true)
    (xo1 : PySem.W.findIn K (.ref X1) "name" = some none)
    (xcl9 : (PySem.W.clsIn K X9).isSome = true)
    (xg9 : PySem.W.findIn K (.ref X9) "__getattribute__" = some (some (.builtin "BaseException.__getattribute__")))
    (xh9 : PySem.W.findIn K (.ref X9) "__getattr__" = some none)
    (xd9 : PySem.W.hasDictIn K X9 = true)
    (xca9 : PySem.W.findIn K (.ref X9) "__class__" = some (some (.builtin "object.__class__")))
    (xob9 : PySem.W.mroIn K X9 (.type "object") = some true)
    (xo9 : PySem.W.findIn K (.ref X9) "name" = some none)
    (xcl10 : (PySem.W.clsIn K X10).isSome = true)
    (xg10 : PySem.W.findIn K (.ref X10) "__getattribute__" = some (some (.builtin "BaseException.__getattribute__")))
    (xh10 : PySem.W.findIn K (.ref X10) "__getattr__" = some none)
    (xd10 : PySem.W.hasDictIn K X10 = true)
    (xca10 : PySem.W.findIn K (.ref X10) "__class__" = some (some (.builtin "object.__class__")))
    (xob10 : PySem.W.mroIn K X10 (.type "object") = some true)
    (xo10 : PySem.W.findIn K (.ref X10) "name" = some none)
    (xcl11 : (PySem.W.clsIn K X11).isSome = true)
    (xg11 : PySem.W.findIn K (.ref X11) "__getattribute__" = some (some (.builtin "BaseException.__getattribute__")))
    (xh11 : PySem.W.findIn K (.ref X11) "__getattr__" = some none)
    (xd11 : PySem.W.hasDictIn K X11 = true)
    (xca11 : PySem.W.findIn K (.ref X11) "__class__" = some (some (.builtin "object.__class__")))
    (xob11 : PySem.W.mroIn K X11 (.type "object") = some true)
    (xo11 : PySem.W.findIn K (.ref X11) "name" = some none)
    (xcl12 : (PySem.W.clsIn K X12).isSome = true)
    (xg12 : PySem.W.findIn K (.ref X12) "__getattribute__" = some (some (.builtin "BaseException.__getattribute__")))
    (xh12 : PySem.W.findIn K (.ref X12) "__getattr__" = some none)
    (xd12 : PySem.W.hasDictIn K X12 = true)
    (xca12 : PySem.W.findIn K (.ref X12) "__class__" = some (some (.builtin "object.__class__")))
    (xob12 : PySem.W.mroIn K X12 (.type "object") = some true)
    (xo12 : PySem.W.findIn K (.ref X12) "name" = some none)
    (xcl13 : (PySem.W.clsIn K X13).isSome = true)
    (xg13 : PySem.W.findIn K (.ref X13) "__getattribute__" = some (some (.builtin "BaseException.__getattribute__")))
    (xh13 : PySem.W.findIn K (.ref X13) "__getattr__" = some none)
    (xd13 : PySem.W.hasDictIn K X13 = true)
    (xca13 : PySem.W.findIn K (.ref X13) "__class__" = some (some (.builtin "object.__class__")))
    (xob13 : PySem.W.mroIn K X13 (.type "object") = some true)
    (xo13 : PySem.W.findIn K (.ref X13) "name" = some none)
    (xcl14 : (PySem.W.clsIn K X14).isSome = true)
    (xg14 : PySem.W.findIn K (.ref X14) "__getattribute__" = some (some (.builtin "BaseException.__getattribute__")))
    (xh14 : PySem.W.findIn K (.ref X14) "__getattr__" = some none)
    (xd14 : PySem.W.hasDictIn K X14 = true)
    (xca14 : PySem.W.findIn K (.ref X14) "__class__" = some (some (.builtin "object.__class__")))
    (xob14 : PySem.W.mroIn K X14 (.type "object") = some true)
    (xo14 : PySem.W.findIn K (.ref X14) "name" = some none)
    (xcl15 : (PySem.W.clsIn K X15).isSome = true)
    (xg15 : PySem.W.findIn K (.ref X15) "__getattribute__" = some (some (.builtin "BaseException.__getattribute__")))
    (xh15 : PySem.W.findIn K (.ref X15) "__getattr__" = some none)
    (xd15 : PySem.W.hasDictIn K X15 = true)
    (xca15 : PySem.W.findIn K (.ref X15) "__class__" = some (some (.builtin "object.__class__")))
    (xob15 : PySem.W.mroIn K X15 (.type "object") = some true)
    (xo15 : PySem.W.findIn K (.ref X15) "name" = some none)
    (xcl16 : (PySem.W.clsIn K X16).isSome = true)
    (xg16 : PySem.W.findIn K (.ref X16) "__getattribute__" = some (some (.builtin "BaseException.__getattribute__")))
    (xh16 : PySem.W.findIn K (.ref X16) "__getattr__" = some none)
    (xd16 : PySem.W.hasDictIn K X16 = true)
    (xca16 : PySem.W.findIn K (.ref X16) "__class__" = some (some (.builtin "object.__class__")))
    (xob16 : PySem.W.mroIn K X16 (.type "object") = some true)
    (xo16 : PySem.W.findIn K (.ref X16) "name" = some none)
    (xcl17 : (PySem.W.clsIn K X17).isSome = true)
    (xg17 : PySem.W.findIn K (.ref X17) "__getattribute__" = some (some (.builtin "BaseException.__getattribute__")))
    (xh17 : PySem.W.findIn K (.ref X17) "__getattr__" = some none)
    (xd17 : PySem.W.hasDictIn K X17 = true)
    (xca17 : PySem.W.findIn K (.ref X17) "__class__" = some (some (.builtin "object.__class__")))
    (xob17 : PySem.W.mroIn K X17 (.type "object") = some true)
    (xo17 : PySem.W.findIn K (.ref X17) "name" = some none)
    (xcl18 : (PySem.W.clsIn K X18).isSome = true)
    (xg18 : PySem.W.findIn K (.ref X18) "__getattribute__" = some (some (.builtin "BaseException.__getattribute__")))
    (xh18 : PySem.W.findIn K (.ref X18) "__getattr__" = some none)
    (xd18 : PySem.W.hasDictIn K X18 = true)
    (xca18 : PySem.W.findIn K (.ref X18) "__class__" = some (some (.builtin "object.__class__")))
    (xob18 : PySem.W.mroIn K X18 (.type "object") = some true)
    (xo18 : PySem.W.findIn K (.ref X18) "name" = some none)
    (xcl19 : (PySem.W.clsIn K X19).isSome = true)
    (xg19 : PySem.W.findIn K (.ref X19) "__getattribute__" = some (some (.builtin "BaseException.__getattribute__")))
    (xh19 : PySem.W.findIn K (.ref X19) "__getattr__" = some none)
    (xd19 : PySem.W.hasDictIn K X19 = true)
    (xca19 : PySem.W.findIn K (.ref X19) "__class__" = some (some (.builtin "object.__class__")))
    (xob19 : PySem.W.mroIn K X19 (.type "object") = some true)
    (xo19 : PySem.W.findIn K (.ref X19) "name" = some none)
    (xcl20 : (PySem.W.clsIn K X20).isSome = true)
    (xg20 : PySem.W.findIn K (.ref X20) "__getattribute__" = some (some (.builtin "BaseException.__getattribute__")))
    (xh20 : PySem.W.findIn K (.ref X20) "__getattr__" = some none)
    (xd20 : PySem.W.hasDictIn K X20 = true)
    (xca20 : PySem.W.findIn K (.ref X20) "__class__" = some (some (.builtin "object.__class__")))
    (xob20 : PySem.W.mroIn K X20 (.type "object") = some true)
    (xo20 : PySem.W.findIn K (.ref X20) "name" = some none)
    (xcl21 : (PySem.W.clsIn K X21).isSome = true)
    (xg21 : PySem.W.findIn K (.ref X21) "__getattribute__" = some (some (.builtin "BaseException.__getattribute__")))
    (xh21 : PySem.W.findIn K (.ref X21) "__getattr__" = some none)
    (xd21 : PySem.W.hasDictIn K X21 = true)
    (xca21 : PySem.W.findIn K (.ref X21) "__class__" = some (some (.builtin "object.__class__")))
    (xob21 : PySem.W.mroIn K X21 (.type "object") = some true)
    (xo21 : PySem.W.findIn K (.ref X21) "name" = some none)
    (xcl22 : (PySem.W.clsIn K X22).isSome = true)
    (xg22 : PySem.W.findIn K (.ref X22) "__getattribute__" = some (some (.builtin "BaseException.__getattribute__")))
    (xh22 : PySem.W.findIn K (.ref X22) "__getattr__" = some none)
    (xd22 : PySem.W.hasDictIn K X22 = true)
    (xca22 : PySem.W.findIn K (.ref X22) "__class__" = some (some (.builtin "object.__class__")))
    (xob22 : PySem.W.mroIn K X22 (.type "object") = some true)
    (xo22 : PySem.W.findIn K (.ref X22) "name" = some none)
    (xcl23 : (PySem.W.clsIn K X23).isSome = true)
    (xg23 : PySem.W.findIn K (.ref X23) "__getattribute__" = some (some (.builtin "BaseException.__getattribute__")))
    (xh23 : PySem.W.findIn K (.ref X23) "__getattr__" = some none)
    (xd23 : PySem.W.hasDictIn K X23 = true)
    (xca23 : PySem.W.findIn K (.ref X23) "__class__" = some (some (.builtin "object.__class__")))
    (xob23 : PySem.W.mroIn K X23 (.type "object") = some true)
    (xo23 : PySem.W.findIn K (.ref X23) "name" = some none)
    (xcl24 : (PySem.W.clsIn K X24).isSome = true)
    (xg24 : PySem.W.findIn K (.ref X24) "__getattribute__" = some (some (.builtin "BaseException.__getattribute__")))
    (xh24 : PySem.W.findIn K (.ref X24) "__getattr__" = some none)
    (xd24 : PySem.W.hasDictIn K X24 = true)
    (xca24 : PySem.W.findIn K (.ref X24) "__class__" = some (some (.builtin "object.__class__")))
    (xob24 : PySem.W.mroIn K X24 (.type "object") = some true)
    (xo24 : PySem.W.findIn K (.ref X24) "name" = some none)
    (xcl3 : (PySem.W.clsIn K X3).isSome = true)
    (xg3 : PySem.W.findIn K (.ref X3) "__getattribute__" = some (some (.builtin "BaseException.__getattribute__")))
    (xh3 : PySem.W.findIn K (.ref X3) "__getattr__" = some none)
    (xd3 : PySem.W.hasDictIn K X3 = true)
    (xca3 : PySem.W.findIn K (.ref X3) "__class__" = some (some (.builtin "object.__class__")))
    (xob3 : PySem.W.mroIn K X3 (.type "object") = some true)
    (xo3 : PySem.W.findIn K (.ref X3) "name" = some none)
    (xcl25 : (PySem.W.clsIn K X25).isSome = true)
    (xg25 : PySem.W.findIn K (.ref X25) "__getattribute__" = some (some (.builtin "BaseException.__getattribute__")))
    (xh25 : PySem.W.findIn K (.ref X25) "__getattr__" = some none)
    (xd25 : PySem.W.hasDictIn K X25 = true)
    (xca25 : PySem.W.findIn K (.ref X25) "__class__" = some (some (.builtin "object.__class__")))
    (xob25 : PySem.W.mroIn K X25 (.type "object") = some true)
    (xo25 : PySem.W.findIn K (.ref X25) "name" = some none)
    (xcl26 : (PySem.W.clsIn K X26).isSome = true)
    (xg26 : PySem.W.findIn K (.ref X26) "__getattribute__" = some (some (.builtin "BaseException.__getattribute__")))
    (xh26 : PySem.W.findIn K (.ref X26) "__getattr__" = some none)
    (xd26 : PySem.W.hasDictIn K X26 = true)
    (xca26 : PySem.W.findIn K (.ref X26) "__class__" = some (some (.builtin "object.__class__")))
    (xob26 : PySem.W.mroIn K X26 (.type "object") = some true)
    (xo26 : PySem.W.findIn K (.ref X26) "name" = some none)
    (xcl0 : (PySem.W.clsIn K X0).isSome = true)
    (xg0 : PySem.W.findIn K (.ref X0) "__getattribute__" = some (some (.builtin "BaseException.__getattribute__")))
    (xh0 : PySem.W.findIn K (.ref X0) "__getattr__" = some none)
    (xd0 : PySem.W.hasDictIn K X0 = true)
    (xca0 : PySem.W.findIn K (.ref X0) "__class__" = some (some (.builtin "object.__class__")))
    (xob0 : PySem.W.mroIn K X0 (.type "object") = some true)
    (xo0 : PySem.W.findIn K (.ref X0) "name" = some none)
    (xcl2 : (PySem.W.clsIn K X2).isSome = true)
    (xg2 : PySem.W.findIn K (.ref X2) "__getattribute__" = some (some (.builtin "BaseException.__getattribute__")))
    (xh2 : PySem.W.findIn K (.ref X2) "__getattr__" = some none)
    (xd2 : PySem.W.hasDictIn K X2 = true)
    (xca2 : PySem.W.findIn K (.ref X2) "__class__" = some (some (.builtin "object.__class__")))
    (xob2 : PySem.W.mroIn K X2 (.type "object") = some true)
    (xo2 : PySem.W.findIn K (.ref X2) "name" = some none)
    (xe_0 : PySem.W.subIn K (.ref X0) (.type "BaseException") = some true)
    (xe_2 : PySem.W.subIn K (.ref X2) (.type "BaseException") = some true)
    (xl1 : K.lookup X1 = some (excClassObj xnm1 xq1 X1 xN1 xbs1 xbm1 true xsn1 xsub1 xab1 xcol1 xdd1 xk01 xk11 xk21 xk31 xk51 "ValueError.__new__"))
    (xt1 : tailB veB.tl xbm1 = true)
    (xs1 : PySem.W.findIn K (.ref X1) "__setattr__" = some (some (.builtin "object.__setattr__")))
    (xe_1 : PySem.W.subIn K (.ref X1) (.type "BaseException") = some true)
    (xy1 : PySem.W.typeIn K (.ref X1) = some (.type "type"))
    (xkp1 : PySem.W.keepIn K (.ref X1) = true)
    (xi1 : PySem.W.findIn K (.ref X1) "__init__" = some (some (.ref f1)))
    (xf1 : PySem.W.typeIn K (.ref f1) = some (.type "function"))
    (xm1 : PySem.W.mroIn K X1 (.ref X1) = some true)
    (xu1 : PySem.W.ks_superIn K X1 X1 "__init__" = some (some (.builtin "ValueError.__init__")))
    (xb1 : PySem.W.subIn K (.ref X1) (.type "ValueError") = some true)
    (l1 : K.lookup f1 = some ⟨oc1, od1, .func (PySem.W.fnX "__init__" "BadMonoid.__init__" (defArgs s1) (defBody s1) (defScope s1) (kcl cc1) .none kV1 dc1 pm1 an1 (.ref cda1) ct1), sl1⟩)
    (c1 : PySem.W.codeIn K (.ref cda1) "BadMonoid.__init__" = true)
    (cd1 : K.lookup cda1 = some ⟨ccl1, cdd1, .fields vs1, ccs1⟩)
    (v21 : vs1[2]? = some (.str file1 tf1))
    (fi1 : ((prg.main.file : Str) == file1) = true)
    (cc_1 : K.lookup cc1 = some ⟨cl1, cld1, .cell (some (.ref X1)), csl1⟩)
    (ci1 : PySem.W.clsIn K X1 = some cdD1)
    (k1 : PySem.W.keepIn K (.ref f1) = true)
    (xl9 : K.lookup X9 = some (excClassObj xnm9 xq9 X9 xN9 xbs9 xbm9 true xsn9 xsub9 xab9 xcol9 xdd9 xk09 xk19 xk29 xk39 xk59 "ValueError.__new__"))
    (xt9 : tailB veB.tl xbm9 = true)
    (xs9 : PySem.W.findIn K (.ref X9) "__setattr__" = some (some (.builtin "object.__setattr__")))
    (xe_9 : PySem.W.subIn K (.ref X9) (.type "BaseException") = some true)
    (xy9 : PySem.W.typeIn K (.ref X9) = some (.type "type"))
    (xkp9 : PySem.W.keepIn K (.ref X9) = true)
    (xi9 : PySem.W.findIn K (.ref X9) "__init__" = some (some (.ref f38)))
    (xf9 : PySem.W.typeIn K (.ref f38) = some (.type "function"))
    (xm9 : PySem.W.mroIn K X9 (.ref X9) = some true)
    (xu9 : PySem.W.ks_superIn K X9 X9 "__init__" = some (some (.builtin "ValueError.__init__")))
    (xb9 : PySem.W.subIn K (.ref X9) (.type "ValueError") = some true)
    (l38 : K.lookup f38 = some ⟨oc38, od38, .func (PySem.W.fnX "__init__" "BadKind.__init__" (defArgs s38) (defBody s38) (defScope s38) (kcl cc38) .none kV38 dc38 pm38 an38 (.ref cda38) ct38), sl38⟩)
    (c38 : PySem.W.codeIn K (.ref cda38) "BadKind.__init__" = true)
    (cd38 : K.lookup cda38 = some ⟨ccl38, cdd38, .fields vs38, ccs38⟩)
    (v238 : vs38[2]? = some (.str file38 tf38))
    (fi38 : ((prg.main.file : Str) == file38) = true)
    (cc_38 : K.lookup cc38 = some ⟨cl38, cld38, .cell (some (.ref X9)), csl38⟩)
    (ci38 : PySem.W.clsIn K X9 = some cdD38)
    (k38 : PySem.W.keepIn K (.ref f38) = true)
    (xl10 : K.lookup X10 = some (excClassObj xnm10 xq10 X10 xN10 xbs10 xbm10 true xsn10 xsub10 xab10 xcol10 xdd10 xk010 xk110 xk210 xk310 xk510 "ValueError.__new__"))
    (xt10 : tailB veB.tl xbm10 = true)
    (xs10 : PySem.W.findIn K (.ref X10) "__setattr__" = some (some (.builtin "object.__setattr__")))
    (xe_10 : PySem.W.subIn K (.ref X10) (.type "BaseException") = some true)
    (xy10 : PySem.W.typeIn K (.ref X10) = some (.type "type"))
    (xkp10 : PySem.W.keepIn K (.ref X10) = true)
    (xi10 : PySem.W.findIn K (.ref X10) "__init__" = some (some (.ref f39)))
    (xf10 : PySem.W.typeIn K (.ref f39) = some (.type "function"))
    (xm10 : PySem.W.mroIn K X10 (.ref X10) = some true)
    (xu10 : PySem.W.ks_superIn K X10 X10 "__init__" = some (some (.builtin "ValueError.__init__")))
    (xb10 : PySem.W.subIn K (.ref X10) (.type "ValueError") = some true)
    (l39 : K.lookup f39 = some ⟨oc39, od39, .func (PySem.W.fnX "__init__" "BadValue.__init__" (defArgs s39) (defBody s39) (defScope s39) (kcl cc39) .none kV39 dc39 pm39 an39 (.ref cda39) ct39), sl39⟩)
    (c39 : PySem.W.codeIn K (.ref cda39) "BadValue.__init__" = true)
    (cd39 : K.lookup cda39 = some ⟨ccl39, cdd39, .fields vs39, ccs39⟩)
    (v239 : vs39[2]? = some (.str file39 tf39))
    (fi39 : ((prg.main.file : Str) == file39) = true)
    (cc_39 : K.lookup cc39 = some ⟨cl39, cld39, .cell (some (.ref X10)), csl39⟩)
    (ci39 : PySem.W.clsIn K X10 = some cdD39)
    (k39 : PySem.W.keepIn K (.ref f39) = true)
    (xl11 : K.lookup X11 = some (excClassObj xnm11 xq11 X11 xN11 xbs11 xbm11 true xsn11 xsub11 xab11 xcol11 xdd11 xk011 xk111 xk211 xk311 xk511 "ValueError.__new__"))
    (xt11 : tailB veB.tl xbm11 = true)
    (xs11 : PySem.W.findIn K (.ref X11) "__setattr__" = some (some (.builtin "object.__setattr__")))
    (xe_11 : PySem.W.subIn K (.ref X11) (.type "BaseException") = some true)
    (xy11 : PySem.W.typeIn K (.ref X11) = some (.type "type"))
    (xkp11 : PySem.W.keepIn K (.ref X11) = true)
    (xi11 : PySem.W.findIn K (.ref X11) "__init__" = some (some (.ref f40)))
    (xf11 : PySem.W.typeIn K (.ref f40) = some (.type "function"))
    (xm11 : PySem.W.mroIn K X11 (.ref X11) = some true)
    (xu11 : PySem.W.ks_superIn K X11 X11 "__init__" = some (some (.builtin "ValueError.__init__")))
    (xb11 : PySem.W.subIn K (.ref X11) (.type "ValueError") = some true)
    (l40 : K.lookup f40 = some ⟨oc40, od40, .func (PySem.W.fnX "__init__" "TooMany.__init__" (defArgs s40) (defBody s40) (defScope s40) (kcl cc40) .none kV40 dc40 pm40 an40 (.ref cda40) ct40), sl40⟩)
    (c40 : PySem.W.codeIn K (.ref cda40) "TooMany.__init__" = true)
    (cd40 : K.lookup cda40 = some ⟨ccl40, cdd40, .fields vs40, ccs40⟩)
    (v240 : vs40[2]? = some (.str file40 tf40))
    (fi40 : ((prg.main.file : Str) == file40) = true)
    (cc_40 : K.lookup cc40 = some ⟨cl40, cld40, .cell (some (.ref X11)), csl40⟩)
    (ci40 : PySem.W.clsIn K X11 = some cdD40)
    (k40 : PySem.W.keepIn K (.ref f40) = true)
    (xl12 : K.lookup X12 = some (excClassObj xnm12 xq12 X12 xN12 xbs12 xbm12 true xsn12 xsub12 xab12 xcol12 xdd12 xk012 xk112 xk212 xk312 xk512 "ValueError.__new__"))
    (xt12 : tailB veB.tl xbm12 = true)
    (xs12 : PySem.W.findIn K (.ref X12) "__setattr__" = some (some (.builtin "object.__setattr__")))
    (xe_12 : PySem.W.subIn K (.ref X12) (.type "BaseException") = some true)
    (xy12 : PySem.W.typeIn K (.ref X12) = some (.type "type"))
    (xkp12 : PySem.W.keepIn K (.ref X12) = true)
    (xi12 : PySem.W.findIn K (.ref X12) "__init__" = some (some (.ref f41)))
    (xf12 : PySem.W.typeIn K (.ref f41) = some (.type "function"))
    (xm12 : PySem.W.mroIn K X12 (.ref X12) = some true)
    (xu12 : PySem.W.ks_superIn K X12 X12 "__init__" = some (some (.builtin "ValueError.__init__")))
    (xb12 : PySem.W.subIn K (.ref X12) (.type "ValueError") = some true)
    (l41 : K.lookup f41 = some ⟨oc41, od41, .func (PySem.W.fnX "__init__" "BadName.__init__" (defArgs s41) (defBody s41) (defScope s41) (kcl cc41) .none kV41 dc41 pm41 an41 (.ref cda41) ct41), sl41⟩)
    (c41 : PySem.W.codeIn K (.ref cda41) "BadName.__init__" = true)
    (cd41 : K.lookup cda41 = some ⟨ccl41, cdd41, .fields vs41, ccs41⟩)
    (v241 : vs41[2]? = some (.str file41 tf41))
    (fi41 : ((prg.main.file : Str) == file41) = true)
    (cc_41 : K.lookup cc41 = some ⟨cl41, cld41, .cell (some (.ref X12)), csl41⟩)
    (ci41 : PySem.W.clsIn K X12 = some cdD41)
    (k41 : PySem.W.keepIn K (.ref f41) = true)
    (xl13 : K.lookup X13 = some (excClassObj xnm13 xq13 X13 xN13 xbs13 xbm13 true xsn13 xsub13 xab13 xcol13 xdd13 xk013 xk113 xk213 xk313 xk513 "ValueError.__new__"))
    (xt13 : tailB veB.tl xbm13 = true)
    (xs13 : PySem.W.findIn K (.ref X13) "__setattr__" = some (some (.builtin "object.__setattr__")))
    (xe_13 : PySem.W.subIn K (.ref X13) (.type "BaseException") = some true)
    (xy13 : PySem.W.typeIn K (.ref X13) = some (.type "type"))
    (xkp13 : PySem.W.keepIn K (.ref X13) = true)
    (xi13 : PySem.W.findIn K (.ref X13) "__init__" = some (some (.ref f42)))
    (xf13 : PySem.W.typeIn K (.ref f42) = some (.type "function"))
    (xm13 : PySem.W.mroIn K X13 (.ref X13) = some true)
    (xu13 : PySem.W.ks_superIn K X13 X13 "__init__" = some (some (.builtin "ValueError.__init__")))
    (xb13 : PySem.W.subIn K (.ref X13) (.type "ValueError") = some true)
    (l42 : K.lookup f42 = some ⟨oc42, od42, .func (PySem.W.fnX "__init__" "TwiceTold.__init__" (defArgs s42) (defBody s42) (defScope s42) (kcl cc42) .none kV42 dc42 pm42 an42 (.ref cda42) ct42), sl42⟩)
    (c42 : PySem.W.codeIn K (.ref cda42) "TwiceTold.__init__" = true)
    (cd42 : K.lookup cda42 = some ⟨ccl42, cdd42, .fields vs42, ccs42⟩)
    (v242 : vs42[2]? = some (.str file42 tf42))
    (fi42 : ((prg.main.file : Str) == file42) = true)
    (cc_42 : K.lookup cc42 = some ⟨cl42, cld42, .cell (some (.ref X13)), csl42⟩)
    (ci42 : PySem.W.clsIn K X13 = some cdD42)
    (k42 : PySem.W.keepIn K (.ref f42) = true)
    (xl14 : K.lookup X14 = some (excClassObj xnm14 xq14 X14 xN14 xbs14 xbm14 true xsn14 xsub14 xab14 xcol14 xdd14 xk014 xk114 xk214 xk314 xk514 "ValueError.__new__"))
    (xt14 : tailB veB.tl xbm14 = true)
    (xs14 : PySem.W.findIn K (.ref X14) "__setattr__" = some (some (.builtin "object.__setattr__")))
    (xe_14 : PySem.W.subIn K (.ref X14) (.type "BaseException") = some true)
    (xy14 : PySem.W.typeIn K (.ref X14) = some (.type "type"))
    (xkp14 : PySem.W.keepIn K (.ref X14) = true)
    (xi14 : PySem.W.findIn K (.ref X14) "__init__" = some (some (.ref f43)))
    (xf14 : PySem.W.typeIn K (.ref f43) = some (.type "function"))
    (xm14 : PySem.W.mroIn K X14 (.ref X14) = some true)
    (xu14 : PySem.W.ks_superIn K X14 X14 "__init__" = some (some (.builtin "ValueError.__init__")))
    (xb14 : PySem.W.subIn K (.ref X14) (.type "ValueError") = some true)
    (l43 : K.lookup f43 = some ⟨oc43, od43, .func (PySem.W.fnX "__init__" "NoStep.__init__" (defArgs s43) (defBody s43) (defScope s43) (kcl cc43) .none kV43 dc43 pm43 an43 (.ref cda43) ct43), sl43⟩)
    (c43 : PySem.W.codeIn K (.ref cda43) "NoStep.__init__" = true)
    (cd43 : K.lookup cda43 = some ⟨ccl43, cdd43, .fields vs43, ccs43⟩)
    (v243 : vs43[2]? = some (.str file43 tf43))
    (fi43 : ((prg.main.file : Str) == file43) = true)
    (cc_43 : K.lookup cc43 = some ⟨cl43, cld43, .cell (some (.ref X14)), csl43⟩)
    (ci43 : PySem.W.clsIn K X14 = some cdD43)
    (k43 : PySem.W.keepIn K (.ref f43) = true)
    (xl15 : K.lookup X15 = some (excClassObj xnm15 xq15 X15 xN15 xbs15 xbm15 true xsn15 xsub15 xab15 xcol15 xdd15 xk015 xk115 xk215 xk315 xk515 "ValueError.__new__"))
    (xt15 : tailB veB.tl xbm15 = true)
    (xs15 : PySem.W.findIn K (.ref X15) "__setattr__" = some (some (.builtin "object.__setattr__")))
    (xe_15 : PySem.W.subIn K (.ref X15) (.type "BaseException") = some true)
    (xy15 : PySem.W.typeIn K (.ref X15) = some (.type "type"))
    (xkp15 : PySem.W.keepIn K (.ref X15) = true)
    (xi15 : PySem.W.findIn K (.ref X15) "__init__" = some (some (.ref f44)))
    (xf15 : PySem.W.typeIn K (.ref f44) = some (.type "function"))
    (xm15 : PySem.W.mroIn K X15 (.ref X15) = some true)
    (xu15 : PySem.W.ks_superIn K X15 X15 "__init__" = some (some (.builtin "ValueError.__init__")))
    (xb15 : PySem.W.subIn K (.ref X15) (.type "ValueError") = some true)
    (l44 : K.lookup f44 = some ⟨oc44, od44, .func (PySem.W.fnX "__init__" "NotClosed.__init__" (defArgs s44) (defBody s44) (defScope s44) (kcl cc44) .none kV44 dc44 pm44 an44 (.ref cda44) ct44), sl44⟩)
    (c44 : PySem.W.codeIn K (.ref cda44) "NotClosed.__init__" = true)
    (cd44 : K.lookup cda44 = some ⟨ccl44, cdd44, .fields vs44, ccs44⟩)
    (v244 : vs44[2]? = some (.str file44 tf44))
    (fi44 : ((prg.main.file : Str) == file44) = true)
    (cc_44 : K.lookup cc44 = some ⟨cl44, cld44, .cell (some (.ref X15)), csl44⟩)
    (ci44 : PySem.W.clsIn K X15 = some cdD44)
    (k44 : PySem.W.keepIn K (.ref f44) = true)
    (xl16 : K.lookup X16 = some (excClassObj xnm16 xq16 X16 xN16 xbs16 xbm16 true xsn16 xsub16 xab16 xcol16 xdd16 xk016 xk116 xk216 xk316 xk516 "ValueError.__new__"))
    (xt16 : tailB veB.tl xbm16 = true)
    (xs16 : PySem.W.findIn K (.ref X16) "__setattr__" = some (some (.builtin "object.__setattr__")))
    (xe_16 : PySem.W.subIn K (.ref X16) (.type "BaseException") = some true)
    (xy16 : PySem.W.typeIn K (.ref X16) = some (.type "type"))
    (xkp16 : PySem.W.keepIn K (.ref X16) = true)
    (xi16 : PySem.W.findIn K (.ref X16) "__init__" = some (some (.ref f45)))
    (xf16 : PySem.W.typeIn K (.ref f45) = some (.type "function"))
    (xm16 : PySem.W.mroIn K X16 (.ref X16) = some true)
    (xu16 : PySem.W.ks_superIn K X16 X16 "__init__" = some (some (.builtin "ValueError.__init__")))
    (xb16 : PySem.W.subIn K (.ref X16) (.type "ValueError") = some true)
    (l45 : K.lookup f45 = some ⟨oc45, od45, .func (PySem.W.fnX "__init__" "MixedKinds.__init__" (defArgs s45) (defBody s45) (defScope s45) (kcl cc45) .none kV45 dc45 pm45 an45 (.ref cda45) ct45), sl45⟩)
    (c45 : PySem.W.codeIn K (.ref cda45) "MixedKinds.__init__" = true)
    (cd45 : K.lookup cda45 = some ⟨ccl45, cdd45, .fields vs45, ccs45⟩)
    (v245 : vs45[2]? = some (.str file45 tf45))
    (fi45 : ((prg.main.file : Str) == file45) = true)
    (cc_45 : K.lookup cc45 = some ⟨cl45, cld45, .cell (some (.ref X16)), csl45⟩)
    (ci45 : PySem.W.clsIn K X16 = some cdD45)
    (k45 : PySem.W.keepIn K (.ref f45) = true)
    (xl17 : K.lookup X17 = some (excClassObj xnm17 xq17 X17 xN17 xbs17 xbm17 true xsn17 xsub17 xab17 xcol17 xdd17 xk017 xk117 xk217 xk317 xk517 "ValueError.__new__"))
    (xt17 : tailB veB.tl xbm17 = true)
    (xs17 : PySem.W.findIn K (.ref X17) "__setattr__" = some (some (.builtin "object.__setattr__")))
    (xe_17 : PySem.W.subIn K (.ref X17) (.type "BaseException") = some true)
    (xy17 : PySem.W.typeIn K (.ref X17) = some (.type "type"))
    (xkp17 : PySem.W.keepIn K (.ref X17) = true)
    (xi17 : PySem.W.findIn K (.ref X17) "__init__" = some (some (.ref f46)))
    (xf17 : PySem.W.typeIn K (.ref f46) = some (.type "function"))
    (xm17 : PySem.W.mroIn K X17 (.ref X17) = some true)
    (xu17 : PySem.W.ks_superIn K X17 X17 "__init__" = some (some (.builtin "ValueError.__init__")))
    (xb17 : PySem.W.subIn K (.ref X17) (.type "ValueError") = some true)
    (l46 : K.lookup f46 = some ⟨oc46, od46, .func (PySem.W.fnX "__init__" "MixedSystems.__init__" (defArgs s46) (defBody s46) (defScope s46) (kcl cc46) .none kV46 dc46 pm46 an46 (.ref cda46) ct46), sl46⟩)
    (c46 : PySem.W.codeIn K (.ref cda46) "MixedSystems.__init__" = true)
    (cd46 : K.lookup cda46 = some ⟨ccl46, cdd46, .fields vs46, ccs46⟩)
    (v246 : vs46[2]? = some (.str file46 tf46))
    (fi46 : ((prg.main.file : Str) == file46) = true)
    (cc_46 : K.lookup cc46 = some ⟨cl46, cld46, .cell (some (.ref X17)), csl46⟩)
    (ci46 : PySem.W.clsIn K X17 = some cdD46)
    (k46 : PySem.W.keepIn K (.ref f46) = true)
    (xl18 : K.lookup X18 = some (excClassObj xnm18 xq18 X18 xN18 xbs18 xbm18 true xsn18 xsub18 xab18 xcol18 xdd18 xk018 xk118 xk218 xk318 xk518 "ValueError.__new__"))
    (xt18 : tailB veB.tl xbm18 = true)
    (xs18 : PySem.W.findIn K (.ref X18) "__setattr__" = some (some (.builtin "object.__setattr__")))
    (xe_18 : PySem.W.subIn K (.ref X18) (.type "BaseException") = some true)
    (xy18 : PySem.W.typeIn K (.ref X18) = some (.type "type"))
    (xkp18 : PySem.W.keepIn K (.ref X18) = true)
    (xi18 : PySem.W.findIn K (.ref X18) "__init__" = some (some (.ref f47)))
    (xf18 : PySem.W.typeIn K (.ref f47) = some (.type "function"))
    (xm18 : PySem.W.mroIn K X18 (.ref X18) = some true)
    (xu18 : PySem.W.ks_superIn K X18 X18 "__init__" = some (some (.builtin "ValueError.__init__")))
    (xb18 : PySem.W.subIn K (.ref X18) (.type "ValueError") = some true)
    (l47 : K.lookup f47 = some ⟨oc47, od47, .func (PySem.W.fnX "__init__" "BadImages.__init__" (defArgs s47) (defBody s47) (defScope s47) (kcl cc47) .none kV47 dc47 pm47 an47 (.ref cda47) ct47), sl47⟩)
    (c47 : PySem.W.codeIn K (.ref cda47) "BadImages.__init__" = true)
    (cd47 : K.lookup cda47 = some ⟨ccl47, cdd47, .fields vs47, ccs47⟩)
    (v247 : vs47[2]? = some (.str file47 tf47))
    (fi47 : ((prg.main.file : Str) == file47) = true)
    (cc_47 : K.lookup cc47 = some ⟨cl47, cld47, .cell (some (.ref X18)), csl47⟩)
    (ci47 : PySem.W.clsIn K X18 = some cdD47)
    (k47 : PySem.W.keepIn K (.ref f47) = true)
    (xl19 : K.lookup X19 = some (excClassObj xnm19 xq19 X19 xN19 xbs19 xbm19 true xsn19 xsub19 xab19 xcol19 xdd19 xk019 xk119 xk219 xk319 xk519 "ValueError.__new__"))
    (xt19 : tailB veB.tl xbm19 = true)
    (xs19 : PySem.W.findIn K (.ref X19) "__setattr__" = some (some (.builtin "object.__setattr__")))
    (xe_19 : PySem.W.subIn K (.ref X19) (.type "BaseException") = some true)
    (xy19 : PySem.W.typeIn K (.ref X19) = some (.type "type"))
    (xkp19 : PySem.W.keepIn K (.ref X19) = true)
    (xi19 : PySem.W.findIn K (.ref X19) "__init__" = some (some (.ref f48)))
    (xf19 : PySem.W.typeIn K (.ref f48) = some (.type "function"))
    (xm19 : PySem.W.mroIn K X19 (.ref X19) = some true)
    (xu19 : PySem.W.ks_superIn K X19 X19 "__init__" = some (some (.builtin "ValueError.__init__")))
    (xb19 : PySem.W.subIn K (.ref X19) (.type "ValueError") = some true)
    (l48 : K.lookup f48 = some ⟨oc48, od48, .func (PySem.W.fnX "__init__" "NotKept.__init__" (defArgs s48) (defBody s48) (defScope s48) (kcl cc48) .none kV48 dc48 pm48 an48 (.ref cda48) ct48), sl48⟩)
    (c48 : PySem.W.codeIn K (.ref cda48) "NotKept.__init__" = true)
    (cd48 : K.lookup cda48 = some ⟨ccl48, cdd48, .fields vs48, ccs48⟩)
    (v248 : vs48[2]? = some (.str file48 tf48))
    (fi48 : ((prg.main.file : Str) == file48) = true)
    (cc_48 : K.lookup cc48 = some ⟨cl48, cld48, .cell (some (.ref X19)), csl48⟩)
    (ci48 : PySem.W.clsIn K X19 = some cdD48)
    (k48 : PySem.W.keepIn K (.ref f48) = true)
    (xl20 : K.lookup X20 = some (excClassObj xnm20 xq20 X20 xN20 xbs20 xbm20 true xsn20 xsub20 xab20 xcol20 xdd20 xk020 xk120 xk220 xk320 xk520 "ValueError.__new__"))
    (xt20 : tailB veB.tl xbm20 = true)
    (xs20 : PySem.W.findIn K (.ref X20) "__setattr__" = some (some (.builtin "object.__setattr__")))
    (xe_20 : PySem.W.subIn K (.ref X20) (.type "BaseException") = some true)
    (xy20 : PySem.W.typeIn K (.ref X20) = some (.type "type"))
    (xkp20 : PySem.W.keepIn K (.ref X20) = true)
    (xi20 : PySem.W.findIn K (.ref X20) "__init__" = some (some (.ref f49)))
    (xf20 : PySem.W.typeIn K (.ref f49) = some (.type "function"))
    (xm20 : PySem.W.mroIn K X20 (.ref X20) = some true)
    (xu20 : PySem.W.ks_superIn K X20 X20 "__init__" = some (some (.builtin "ValueError.__init__")))
    (xb20 : PySem.W.subIn K (.ref X20) (.type "ValueError") = some true)
    (l49 : K.lookup f49 = some ⟨oc49, od49, .func (PySem.W.fnX "__init__" "BadSaying.__init__" (defArgs s49) (defBody s49) (defScope s49) (kcl cc49) .none kV49 dc49 pm49 an49 (.ref cda49) ct49), sl49⟩)
    (c49 : PySem.W.codeIn K (.ref cda49) "BadSaying.__init__" = true)
    (cd49 : K.lookup cda49 = some ⟨ccl49, cdd49, .fields vs49, ccs49⟩)
    (v249 : vs49[2]? = some (.str file49 tf49))
    (fi49 : ((prg.main.file : Str) == file49) = true)
    (cc_49 : K.lookup cc49 = some ⟨cl49, cld49, .cell (some (.ref X20)), csl49⟩)
    (ci49 : PySem.W.clsIn K X20 = some cdD49)
    (k49 : PySem.W.keepIn K (.ref f49) = true)
    (xl21 : K.lookup X21 = some (excClassObj xnm21 xq21 X21 xN21 xbs21 xbm21 true xsn21 xsub21 xab21 xcol21 xdd21 xk021 xk121 xk221 xk321 xk521 "ValueError.__new__"))
    (xt21 : tailB veB.tl xbm21 = true)
    (xs21 : PySem.W.findIn K (.ref X21) "__setattr__" = some (some (.builtin "object.__setattr__")))
    (xe_21 : PySem.W.subIn K (.ref X21) (.type "BaseException") = some true)
    (xy21 : PySem.W.typeIn K (.ref X21) = some (.type "type"))
    (xkp21 : PySem.W.keepIn K (.ref X21) = true)
    (xi21 : PySem.W.findIn K (.ref X21) "__init__" = some (some (.ref f50)))
    (xf21 : PySem.W.typeIn K (.ref f50) = some (.type "function"))
    (xm21 : PySem.W.mroIn K X21 (.ref X21) = some true)
    (xu21 : PySem.W.ks_superIn K X21 X21 "__init__" = some (some (.builtin "ValueError.__init__")))
    (xb21 : PySem.W.subIn K (.ref X21) (.type "ValueError") = some true)
    (l50 : K.lookup f50 = some ⟨oc50, od50, .func (PySem.W.fnX "__init__" "BadBehaviour.__init__" (defArgs s50) (defBody s50) (defScope s50) (kcl cc50) .none kV50 dc50 pm50 an50 (.ref cda50) ct50), sl50⟩)
    (c50 : PySem.W.codeIn K (.ref cda50) "BadBehaviour.__init__" = true)
    (cd50 : K.lookup cda50 = some ⟨ccl50, cdd50, .fields vs50, ccs50⟩)
    (v250 : vs50[2]? = some (.str file50 tf50))
    (fi50 : ((prg.main.file : Str) == file50) = true)
    (cc_50 : K.lookup cc50 = some ⟨cl50, cld50, .cell (some (.ref X21)), csl50⟩)
    (ci50 : PySem.W.clsIn K X21 = some cdD50)
    (k50 : PySem.W.keepIn K (.ref f50) = true)
    (xl22 : K.lookup X22 = some (excClassObj xnm22 xq22 X22 xN22 xbs22 xbm22 true xsn22 xsub22 xab22 xcol22 xdd22 xk022 xk122 xk222 xk322 xk522 "ValueError.__new__"))
    (xt22 : tailB veB.tl xbm22 = true)
    (xs22 : PySem.W.findIn K (.ref X22) "__setattr__" = some (some (.builtin "object.__setattr__")))
    (xe_22 : PySem.W.subIn K (.ref X22) (.type "BaseException") = some true)
    (xy22 : PySem.W.typeIn K (.ref X22) = some (.type "type"))
    (xkp22 : PySem.W.keepIn K (.ref X22) = true)
    (xi22 : PySem.W.findIn K (.ref X22) "__init__" = some (some (.ref f51)))
    (xf22 : PySem.W.typeIn K (.ref f51) = some (.type "function"))
    (xm22 : PySem.W.mroIn K X22 (.ref X22) = some true)
    (xu22 : PySem.W.ks_superIn K X22 X22 "__init__" = some (some (.builtin "ValueError.__init__")))
    (xb22 : PySem.W.subIn K (.ref X22) (.type "ValueError") = some true)
    (l51 : K.lookup f51 = some ⟨oc51, od51, .func (PySem.W.fnX "__init__" "BadTurn.__init__" (defArgs s51) (defBody s51) (defScope s51) (kcl cc51) .none kV51 dc51 pm51 an51 (.ref cda51) ct51), sl51⟩)
    (c51 : PySem.W.codeIn K (.ref cda51) "BadTurn.__init__" = true)
    (cd51 : K.lookup cda51 = some ⟨ccl51, cdd51, .fields vs51, ccs51⟩)
    (v251 : vs51[2]? = some (.str file51 tf51))
    (fi51 : ((prg.main.file : Str) == file51) = true)
    (cc_51 : K.lookup cc51 = some ⟨cl51, cld51, .cell (some (.ref X22)), csl51⟩)
    (ci51 : PySem.W.clsIn K X22 = some cdD51)
    (k51 : PySem.W.keepIn K (.ref f51) = true)
    (xl23 : K.lookup X23 = some (excClassObj xnm23 xq23 X23 xN23 xbs23 xbm23 true xsn23 xsub23 xab23 xcol23 xdd23 xk023 xk123 xk223 xk323 xk523 "ValueError.__new__"))
    (xt23 : tailB veB.tl xbm23 = true)
    (xs23 : PySem.W.findIn K (.ref X23) "__setattr__" = some (some (.builtin "object.__setattr__")))
    (xe_23 : PySem.W.subIn K (.ref X23) (.type "BaseException") = some true)
    (xy23 : PySem.W.typeIn K (.ref X23) = some (.type "type"))
    (xkp23 : PySem.W.keepIn K (.ref X23) = true)
    (xi23 : PySem.W.findIn K (.ref X23) "__init__" = some (some (.ref f52)))
    (xf23 : PySem.W.typeIn K (.ref f52) = some (.type "function"))
    (xm23 : PySem.W.mroIn K X23 (.ref X23) = some true)
    (xu23 : PySem.W.ks_superIn K X23 X23 "__init__" = some (some (.builtin "ValueError.__init__")))
    (xb23 : PySem.W.subIn K (.ref X23) (.type "ValueError") = some true)
    (l52 : K.lookup f52 = some ⟨oc52, od52, .func (PySem.W.fnX "__init__" "OpenState.__init__" (defArgs s52) (defBody s52) (defScope s52) (kcl cc52) .none kV52 dc52 pm52 an52 (.ref cda52) ct52), sl52⟩)
    (c52 : PySem.W.codeIn K (.ref cda52) "OpenState.__init__" = true)
    (cd52 : K.lookup cda52 = some ⟨ccl52, cdd52, .fields vs52, ccs52⟩)
    (v252 : vs52[2]? = some (.str file52 tf52))
    (fi52 : ((prg.main.file : Str) == file52) = true)
    (cc_52 : K.lookup cc52 = some ⟨cl52, cld52, .cell (some (.ref X23)), csl52⟩)
    (ci52 : PySem.W.clsIn K X23 = some cdD52)
    (k52 : PySem.W.keepIn K (.ref f52) = true)
    (xl24 : K.lookup X24 = some (excClassObj xnm24 xq24 X24 xN24 xbs24 xbm24 true xsn24 xsub24 xab24 xcol24 xdd24 xk024 xk124 xk224 xk324 xk524 "ValueError.__new__"))
    (xt24 : tailB veB.tl xbm24 = true)
    (xs24 : PySem.W.findIn K (.ref X24) "__setattr__" = some (some (.builtin "object.__setattr__")))
    (xe_24 : PySem.W.subIn K (.ref X24) (.type "BaseException") = some true)
    (xy24 : PySem.W.typeIn K (.ref X24) = some (.type "type"))
    (xkp24 : PySem.W.keepIn K (.ref X24) = true)
    (xi24 : PySem.W.findIn K (.ref X24) "__init__" = some (some (.ref f53)))
    (xf24 : PySem.W.typeIn K (.ref f53) = some (.type "function"))
    (xm24 : PySem.W.mroIn K X24 (.ref X24) = some true)
    (xu24 : PySem.W.ks_superIn K X24 X24 "__init__" = some (some (.builtin "ValueError.__init__")))
    (xb24 : PySem.W.subIn K (.ref X24) (.type "ValueError") = some true)
    (l53 : K.lookup f53 = some ⟨oc53, od53, .func (PySem.W.fnX "__init__" "NothingDone.__init__" (defArgs s53) (defBody s53) (defScope s53) (kcl cc53) .none kV53 dc53 pm53 an53 (.ref cda53) ct53), sl53⟩)
    (c53 : PySem.W.codeIn K (.ref cda53) "NothingDone.__init__" = true)
    (cd53 : K.lookup cda53 = some ⟨ccl53, cdd53, .fields vs53, ccs53⟩)
    (v253 : vs53[2]? = some (.str file53 tf53))
    (fi53 : ((prg.main.file : Str) == file53) = true)
    (cc_53 : K.lookup cc53 = some ⟨cl53, cld53, .cell (some (.ref X24)), csl53⟩)
    (ci53 : PySem.W.clsIn K X24 = some cdD53)
    (k53 : PySem.W.keepIn K (.ref f53) = true)
    (xl3 : K.lookup X3 = some (excClassObj xnm3 xq3 X3 xN3 xbs3 xbm3 true xsn3 xsub3 xab3 xcol3 xdd3 xk03 xk13 xk23 xk33 xk53 "LookupError.__new__"))
    (xt3 : tailB luB.tl xbm3 = true)
    (xs3 : PySem.W.findIn K (.ref X3) "__setattr__" = some (some (.builtin "object.__setattr__")))
    (xe_3 : PySem.W.subIn K (.ref X3) (.type "BaseException") = some true)
    (xy3 : PySem.W.typeIn K (.ref X3) = some (.type "type"))
    (xkp3 : PySem.W.keepIn K (.ref X3) = true)
    (xi3 : PySem.W.findIn K (.ref X3) "__init__" = some (some (.ref f2)))
    (xf3 : PySem.W.typeIn K (.ref f2) = some (.type "function"))
    (xm3 : PySem.W.mroIn K X3 (.ref X3) = some true)
    (xu3 : PySem.W.ks_superIn K X3 X3 "__init__" = some (some (.builtin "LookupError.__init__")))
    (xb3 : PySem.W.subIn K (.ref X3) (.type "LookupError") = some true)
    (l2 : K.lookup f2 = some ⟨oc2, od2, .func (PySem.W.fnX "__init__" "UnknownMember.__init__" (defArgs s2) (defBody s2) (defScope s2) (kcl cc2) .none kV2 dc2 pm2 an2 (.ref cda2) ct2), sl2⟩)
    (c2 : PySem.W.codeIn K (.ref cda2) "UnknownMember.__init__" = true)
    (cd2 : K.lookup cda2 = some ⟨ccl2, cdd2, .fields vs2, ccs2⟩)
    (v22 : vs2[2]? = some (.str file2 tf2))
    (fi2 : ((prg.main.file : Str) == file2) = true)
    (cc_2 : K.lookup cc2 = some ⟨cl2, cld2, .cell (some (.ref X3)), csl2⟩)
    (ci2 : PySem.W.clsIn K X3 = some cdD2)
    (k2 : PySem.W.keepIn K (.ref f2) = true)
    (xl25 : K.lookup X25 = some (excClassObj xnm25 xq25 X25 xN25 xbs25 xbm25 true xsn25 xsub25 xab25 xcol25 xdd25 xk025 xk125 xk225 xk325 xk525 "LookupError.__new__"))
    (xt25 : tailB luB.tl xbm25 = true)
    (xs25 : PySem.W.findIn K (.ref X25) "__setattr__" = some (some (.builtin "object.__setattr__")))
    (xe_25 : PySem.W.subIn K (.ref X25) (.type "BaseException") = some true)
    (xy25 : PySem.W.typeIn K (.ref X25) = some (.type "type"))
    (xkp25 : PySem.W.keepIn K (.ref X25) = true)
    (xi25 : PySem.W.findIn K (.ref X25) "__init__" = some (some (.ref f54)))
    (xf25 : PySem.W.typeIn K (.ref f54) = some (.type "function"))
    (xm25 : PySem.W.mroIn K X25 (.ref X25) = some true)
    (xu25 : PySem.W.ks_superIn K X25 X25 "__init__" = some (some (.builtin "LookupError.__init__")))
    (xb25 : PySem.W.subIn K (.ref X25) (.type "LookupError") = some true)
    (l54 : K.lookup f54 = some ⟨oc54, od54, .func (PySem.W.fnX "__init__" "UnknownState.__init__" (defArgs s54) (defBody s54) (defScope s54) (kcl cc54) .none kV54 dc54 pm54 an54 (.ref cda54) ct54), sl54⟩)
    (c54 : PySem.W.codeIn K (.ref cda54) "UnknownState.__init__" = true)
    (cd54 : K.lookup cda54 = some ⟨ccl54, cdd54, .fields vs54, ccs54⟩)
    (v254 : vs54[2]? = some (.str file54 tf54))
    (fi54 : ((prg.main.file : Str) == file54) = true)
    (cc_54 : K.lookup cc54 = some ⟨cl54, cld54, .cell (some (.ref X25)), csl54⟩)
    (ci54 : PySem.W.clsIn K X25 = some cdD54)
    (k54 : PySem.W.keepIn K (.ref f54) = true)
    (xl26 : K.lookup X26 = some (excClassObj xnm26 xq26 X26 xN26 xbs26 xbm26 true xsn26 xsub26 xab26 xcol26 xdd26 xk026 xk126 xk226 xk326 xk526 "LookupError.__new__"))
    (xt26 : tailB luB.tl xbm26 = true)
    (xs26 : PySem.W.findIn K (.ref X26) "__setattr__" = some (some (.builtin "object.__setattr__")))
    (xe_26 : PySem.W.subIn K (.ref X26) (.type "BaseException") = some true)
    (xy26 : PySem.W.typeIn K (.ref X26) = some (.type "type"))
    (xkp26 : PySem.W.keepIn K (.ref X26) = true)
    (xi26 : PySem.W.findIn K (.ref X26) "__init__" = some (some (.ref f55)))
    (xf26 : PySem.W.typeIn K (.ref f55) = some (.type "function"))
    (xm26 : PySem.W.mroIn K X26 (.ref X26) = some true)
    (xu26 : PySem.W.ks_superIn K X26 X26 "__init__" = some (some (.builtin "LookupError.__init__")))
    (xb26 : PySem.W.subIn K (.ref X26) (.type "LookupError") = some true)
    (l55 : K.lookup f55 = some ⟨oc55, od55, .func (PySem.W.fnX "__init__" "NotTold.__init__" (defArgs s55) (defBody s55) (defScope s55) (kcl cc55) .none kV55 dc55 pm55 an55 (.ref cda55) ct55), sl55⟩)
    (c55 : PySem.W.codeIn K (.ref cda55) "NotTold.__init__" = true)
    (cd55 : K.lookup cda55 = some ⟨ccl55, cdd55, .fields vs55, ccs55⟩)
    (v255 : vs55[2]? = some (.str file55 tf55))
    (fi55 : ((prg.main.file : Str) == file55) = true)
    (cc_55 : K.lookup cc55 = some ⟨cl55, cld55, .cell (some (.ref X26)), csl55⟩)
    (ci55 : PySem.W.clsIn K X26 = some cdD55)
    (k55 : PySem.W.keepIn K (.ref f55) = true)
    (kb0 : ∀ d ∈ spXn, ∀ t ∈ tyB, PySem.W.kitOne K (tyVal (fun _ => 0) (fun c => xA0 X1 X9 X10 X11 X12 X13 X14 X15 X16 X17 X18 X19 X20 X21 X22 X23 X24 X3 X25 X26 X0 X2 (nrX c)) t) (spVal (fun _ => 0) (fun c => xA0 X1 X9 X10 X11 X12 X13 X14 X15 X16 X17 X18 X19 X20 X21 X22 X23 X24 X3 X25 X26 X0 X2 (nrX c)) (.xc d)) = some (tyIs isaT t (.xc d)))
    (kx0 : ∀ d ∈ spXn, ∀ c ∈ xnL, PySem.W.kitOne K (tyVal (fun _ => 0) (fun c => xA0 X1 X9 X10 X11 X12 X13 X14 X15 X16 X17 X18 X19 X20 X21 X22 X23 X24 X3 X25 X26 X0 X2 (nrX c)) (.xo c)) (spVal (fun _ => 0) (fun c => xA0 X1 X9 X10 X11 X12 X13 X14 X15 X16 X17 X18 X19 X20 X21 X22 X23 X24 X3 X25 X26 X0 X2 (nrX c)) (.xc d)) = some (tyIs isaT (.xo c) (.xc d)))
    (cg : PySem.W.specialIn K (.builtin "object.__class__") "__get__" = some (some (.builtin "getset_descriptor.__get__")))
    (ct : PySem.W.takesIn K (.builtin "object.__class__") = some true)
    (op : PySem.W.nsIn K PySem.cStatics "thirdparty.any" = some none)
    (bl_len : PySem.W.nsIn K mainGlobals "len" = some none)
    (bl_abs : PySem.W.nsIn K mainGlobals "abs" = some none)
    (bl_int : PySem.W.nsIn K mainGlobals "int" = some none)
    (bl_str : PySem.W.nsIn K mainGlobals "str" = some none)
    (bl_range : PySem.W.nsIn K mainGlobals "range" = some none)
    (bl_isinstance : PySem.W.nsIn K mainGlobals "isinstance" = some none)
    (bl_ValueError : PySem.W.nsIn K mainGlobals "ValueError" = some none)
    (bl_LookupError : PySem.W.nsIn K mainGlobals "LookupError" = some none)
    (bl_KeyError : PySem.W.nsIn K mainGlobals "KeyError" = some none)
    (bl_IndexError : PySem.W.nsIn K mainGlobals "IndexError" = some none)
    (bl_super : PySem.W.nsIn K mainGlobals "super" = some none) :
    ∃ fd : FuncData, (∀ (s : Shared) (v : Value), BindsTo s fd ⟨[v], []⟩ [("_law_script", v)]) ∧ ∀ base : Heap, K.In base → base.Ns mainGlobals mg → FnOk prg w K mg base (L2.CX prg w) 42 fa fd ["_law_script"] (spLaw K 63) := by
  have e := (PySem.W.mg_of X G0 aF21).symm.trans hfa
  cases e
  have F14 : Fun K "_law_source" "_law_source" s14 f14 _ := fun_mk (st := s14) l14 c14 k14
  have b14 := F14.binds (ps := psT 14) fun _ _ _ _ _ _ us hl => match us, hl with | [_], _ => rfl
  have F15 : Fun K "_law_pick" "_law_pick" s15 f15 _ := fun_mk (st := s15) l15 c15 k15
  have b15 := F15.binds (ps := psT 15) fun _ _ _ _ _ _ us hl => match us, hl with | [_, _], _ => rfl
  have F56 : Fun K "_law_word" "_law_word" s56 f56 _ := fun_mk (st := s56) l56 c56 k56
  have b56 := F56.binds (ps := psT 56) fun _ _ _ _ _ _ us hl => match us, hl with | [_], _ => rfl
  have F57 : Fun K "_law_plain" "_law_plain" s57 f57 _ := fun_mk (st := s57) l57 c57 k57
  have b57 := F57.binds (ps := psT 57) fun _ _ _ _ _ _ us hl => match us, hl with | [], _ => rfl
  have F58 : Fun K "_law_named" "_law_named" s58 f58 _ := fun_mk (st := s58) l58 c58 k58
  have b58 := F58.binds (ps := psT 58) fun _ _ _ _ _ _ us hl => match us, hl with | [_], _ => rfl
  have F59 : Fun K "_law_missing" "_law_missing" s59 f59 _ := fun_mk (st := s59) l59 c59 k59
  have b59 := F59.binds (ps := psT 59) fun _ _ _ _ _ _ us hl => match us, hl with | [_], _ => rfl
  have F60 : Fun K "_law_classes" "_law_classes" s60 f60 _ := fun_mk (st := s60) l60 c60 k60
  have b60 := F60.binds (ps := psT 60) fun _ _ _ _ _ _ us hl => match us, hl with | [_], _ => rfl
  have F21 : Fun K "law" "law" s21 f21 _ := fun_mk (st := s21) l21 c21 k21
  have b21 := F21.binds (ps := psT 21) fun _ _ _ _ _ _ us hl => match us, hl with | [_], _ => rfl
  have F1 : FunK K "__init__" "BadMonoid.__init__" s1 f1 X1 _ := ⟨⟨kV1, dc1, pm1, ct1, oc1, an1, od1, sl1, cc1, cda1, vs1, file1, tf1, ccl1, cl1, cdd1, cld1, ccs1, csl1, cdD1, rfl, l1, c1, cd1, v21, fi1, cc_1, ci1⟩, k1⟩
  have b1 := F1.binds (ps := psT 1) fun _ _ _ _ _ _ _ us hl => match us, hl with | [_], _ => rfl
  have XC1 : ExC K veB X1 := ⟨veB_ok, ⟨_, _, _, _, _, _, _, _, _, _, _, _, _, _, _, xl1, xt1⟩, xs1, xe_1, xy1, xkp1⟩
  have F38 : FunK K "__init__" "BadKind.__init__" s38 f38 X9 _ := ⟨⟨kV38, dc38, pm38, ct38, oc38, an38, od38, sl38, cc38, cda38, vs38, file38, tf38, ccl38, cl38, cdd38, cld38, ccs38, csl38, cdD38, rfl, l38, c38, cd38, v238, fi38, cc_38, ci38⟩, k38⟩
  have b38 := F38.binds (ps := psT 38) fun _ _ _ _ _ _ _ us hl => match us, hl with | [_], _ => rfl
  have XC9 : ExC K veB X9 := ⟨veB_ok, ⟨_, _, _, _, _, _, _, _, _, _, _, _, _, _, _, xl9, xt9⟩, xs9, xe_9, xy9, xkp9⟩
  have F39 : FunK K "__init__" "BadValue.__init__" s39 f39 X10 _ := ⟨⟨kV39, dc39, pm39, ct39, oc39, an39, od39, sl39, cc39, cda39, vs39, file39, tf39, ccl39, cl39, cdd39, cld39, ccs39, csl39, cdD39, rfl, l39, c39, cd39, v239, fi39, cc_39, ci39⟩, k39⟩
  have b39 := F39.binds (ps := psT 39) fun _ _ _ _ _ _ _ us hl => match us, hl with | [_], _ => rfl
  have XC10 : ExC K veB X10 := ⟨veB_ok, ⟨_, _, _, _, _, _, _, _, _, _, _, _, _, _, _, xl10, xt10⟩, xs10, xe_10, xy10, xkp10⟩
  have F40 : FunK K "__init__" "TooMany.__init__" s40 f40 X11 _ := ⟨⟨kV40, dc40, pm40, ct40, oc40, an40, od40, sl40, cc40, cda40, vs40, file40, tf40, ccl40, cl40, cdd40, cld40, ccs40, csl40, cdD40, rfl, l40, c40, cd40, v240, fi40, cc_40, ci40⟩, k40⟩
  have b40 := F40.binds (ps := psT 40) fun _ _ _ _ _ _ _ us hl => match us, hl with | [_], _ => rfl
  have XC11 : ExC K veB X11 := ⟨veB_ok, ⟨_, _, _, _, _, _, _, _, _, _, _, _, _, _, _, xl11, xt11⟩, xs11, xe_11, xy11, xkp11⟩
  have F41 : FunK K "__init__" "BadName.__init__" s41 f41 X12 _ := ⟨⟨kV41, dc41, pm41, ct41, oc41, an41, od41, sl41, cc41, cda41, vs41, file41, tf41, ccl41, cl41, cdd41, cld41, ccs41, csl41, cdD41, rfl, l41, c41, cd41, v241, fi41, cc_41, ci41⟩, k41⟩
  have b41 := F41.binds (ps := psT 41) fun _ _ _ _ _ _ _ us hl => match us, hl with | [_, _], _ => rfl
  have XC12 : ExC K veB X12 := ⟨veB_ok, ⟨_, _, _, _, _, _, _, _, _, _, _, _, _, _, _, xl12, xt12⟩, xs12, xe_12, xy12, xkp12⟩
  have F42 : FunK K "__init__" "TwiceTold.__init__" s42 f42 X13 _ := ⟨⟨kV42, dc42, pm42, ct42, oc42, an42, od42, sl42, cc42, cda42, vs42, file42, tf42, ccl42, cl42, cdd42, cld42, ccs42, csl42, cdD42, rfl, l42, c42, cd42, v242, fi42, cc_42, ci42⟩, k42⟩
  have b42 := F42.binds (ps := psT 42) fun _ _ _ _ _ _ _ us hl => match us, hl with | [_, _], _ => rfl
  have XC13 : ExC K veB X13 := ⟨veB_ok, ⟨_, _, _, _, _, _, _, _, _, _, _, _, _, _, _, xl13, xt13⟩, xs13, xe_13, xy13, xkp13⟩
  have F43 : FunK K "__init__" "NoStep.__init__" s43 f43 X14 _ := ⟨⟨kV43, dc43, pm43, ct43, oc43, an43, od43, sl43, cc43, cda43, vs43, file43, tf43, ccl43, cl43, cdd43, cld43, ccs43, csl43, cdD43, rfl, l43, c43, cd43, v243, fi43, cc_43, ci43⟩, k43⟩
  have b43 := F43.binds (ps := psT 43) fun _ _ _ _ _ _ _ us hl => match us, hl with | [_, _], _ => rfl
  have XC14 : ExC K veB X14 := ⟨veB_ok, ⟨_, _, _, _, _, _, _, _, _, _, _, _, _, _, _, xl14, xt14⟩, xs14, xe_14, xy14, xkp14⟩
  have F44 : FunK K "__init__" "NotClosed.__init__" s44 f44 X15 _ := ⟨⟨kV44, dc44, pm44, ct44, oc44, an44, od44, sl44, cc44, cda44, vs44, file44, tf44, ccl44, cl44, cdd44, cld44, ccs44, csl44, cdD44, rfl, l44, c44, cd44, v244, fi44, cc_44, ci44⟩, k44⟩
  have b44 := F44.binds (ps := psT 44) fun _ _ _ _ _ _ _ us hl => match us, hl with | [_, _], _ => rfl
  have XC15 : ExC K veB X15 := ⟨veB_ok, ⟨_, _, _, _, _, _, _, _, _, _, _, _, _, _, _, xl15, xt15⟩, xs15, xe_15, xy15, xkp15⟩
  have F45 : FunK K "__init__" "MixedKinds.__init__" s45 f45 X16 _ := ⟨⟨kV45, dc45, pm45, ct45, oc45, an45, od45, sl45, cc45, cda45, vs45, file45, tf45, ccl45, cl45, cdd45, cld45, ccs45, csl45, cdD45, rfl, l45, c45, cd45, v245, fi45, cc_45, ci45⟩, k45⟩
  have b45 := F45.binds (ps := psT 45) fun _ _ _ _ _ _ _ us hl => match us, hl with | [_], _ => rfl
  have XC16 : ExC K veB X16 := ⟨veB_ok, ⟨_, _, _, _, _, _, _, _, _, _, _, _, _, _, _, xl16, xt16⟩, xs16, xe_16, xy16, xkp16⟩
  have F46 : FunK K "__init__" "MixedSystems.__init__" s46 f46 X17 _ := ⟨⟨kV46, dc46, pm46, ct46, oc46, an46, od46, sl46, cc46, cda46, vs46, file46, tf46, ccl46, cl46, cdd46, cld46, ccs46, csl46, cdD46, rfl, l46, c46, cd46, v246, fi46, cc_46, ci46⟩, k46⟩
  have b46 := F46.binds (ps := psT 46) fun _ _ _ _ _ _ _ us hl => match us, hl with | [_], _ => rfl
  have XC17 : ExC K veB X17 := ⟨veB_ok, ⟨_, _, _, _, _, _, _, _, _, _, _, _, _, _, _, xl17, xt17⟩, xs17, xe_17, xy17, xkp17⟩
  have F47 : FunK K "__init__" "BadImages.__init__" s47 f47 X18 _ := ⟨⟨kV47, dc47, pm47, ct47, oc47, an47, od47, sl47, cc47, cda47, vs47, file47, tf47, ccl47, cl47, cdd47, cld47, ccs47, csl47, cdD47, rfl, l47, c47, cd47, v247, fi47, cc_47, ci47⟩, k47⟩
  have b47 := F47.binds (ps := psT 47) fun _ _ _ _ _ _ _ us hl => match us, hl with | [_], _ => rfl
  have XC18 : ExC K veB X18 := ⟨veB_ok, ⟨_, _, _, _, _, _, _, _, _, _, _, _, _, _, _, xl18, xt18⟩, xs18, xe_18, xy18, xkp18⟩
  have F48 : FunK K "__init__" "NotKept.__init__" s48 f48 X19 _ := ⟨⟨kV48, dc48, pm48, ct48, oc48, an48, od48, sl48, cc48, cda48, vs48, file48, tf48, ccl48, cl48, cdd48, cld48, ccs48, csl48, cdD48, rfl, l48, c48, cd48, v248, fi48, cc_48, ci48⟩, k48⟩
  have b48 := F48.binds (ps := psT 48) fun _ _ _ _ _ _ _ us hl => match us, hl with | [_, _], _ => rfl
  have XC19 : ExC K veB X19 := ⟨veB_ok, ⟨_, _, _, _, _, _, _, _, _, _, _, _, _, _, _, xl19, xt19⟩, xs19, xe_19, xy19, xkp19⟩
  have F49 : FunK K "__init__" "BadSaying.__init__" s49 f49 X20 _ := ⟨⟨kV49, dc49, pm49, ct49, oc49, an49, od49, sl49, cc49, cda49, vs49, file49, tf49, ccl49, cl49, cdd49, cld49, ccs49, csl49, cdD49, rfl, l49, c49, cd49, v249, fi49, cc_49, ci49⟩, k49⟩
  have b49 := F49.binds (ps := psT 49) fun _ _ _ _ _ _ _ us hl => match us, hl with | [_], _ => rfl
  have XC20 : ExC K veB X20 := ⟨veB_ok, ⟨_, _, _, _, _, _, _, _, _, _, _, _, _, _, _, xl20, xt20⟩, xs20, xe_20, xy20, xkp20⟩
  have F50 : FunK K "__init__" "BadBehaviour.__init__" s50 f50 X21 _ := ⟨⟨kV50, dc50, pm50, ct50, oc50, an50, od50, sl50, cc50, cda50, vs50, file50, tf50, ccl50, cl50, cdd50, cld50, ccs50, csl50, cdD50, rfl, l50, c50, cd50, v250, fi50, cc_50, ci50⟩, k50⟩
  have b50 := F50.binds (ps := psT 50) fun _ _ _ _ _ _ _ us hl => match us, hl with | [_], _ => rfl
  have XC21 : ExC K veB X21 := ⟨veB_ok, ⟨_, _, _, _, _, _, _, _, _, _, _, _, _, _, _, xl21, xt21⟩, xs21, xe_21, xy21, xkp21⟩
  have F51 : FunK K "__init__" "BadTurn.__init__" s51 f51 X22 _ := ⟨⟨kV51, dc51, pm51, ct51, oc51, an51, od51, sl51, cc51, cda51, vs51, file51, tf51, ccl51, cl51, cdd51, cld51, ccs51, csl51, cdD51, rfl, l51, c51, cd51, v251, fi51, cc_51, ci51⟩, k51⟩
  have b51 := F51.binds (ps := psT 51) fun _ _ _ _ _ _ _ us hl => match us, hl with | [_], _ => rfl
  have XC22 : ExC K veB X22 := ⟨veB_ok, ⟨_, _, _, _, _, _, _, _, _, _, _, _, _, _, _, xl22, xt22⟩, xs22, xe_22, xy22, xkp22⟩
  have F52 : FunK K "__init__" "OpenState.__init__" s52 f52 X23 _ := ⟨⟨kV52, dc52, pm52, ct52, oc52, an52, od52, sl52, cc52, cda52, vs52, file52, tf52, ccl52, cl52, cdd52, cld52, ccs52, csl52, cdD52, rfl, l52, c52, cd52, v252, fi52, cc_52, ci52⟩, k52⟩
  have b52 := F52.binds (ps := psT 52) fun _ _ _ _ _ _ _ us hl => match us, hl with | [_, _], _ => rfl
  have XC23 : ExC K veB X23 := ⟨veB_ok, ⟨_, _, _, _, _, _, _, _, _, _, _, _, _, _, _, xl23, xt23⟩, xs23, xe_23, xy23, xkp23⟩
  have F53 : FunK K "__init__" "NothingDone.__init__" s53 f53 X24 _ := ⟨⟨kV53, dc53, pm53, ct53, oc53, an53, od53, sl53, cc53, cda53, vs53, file53, tf53, ccl53, cl53, cdd53, cld53, ccs53, csl53, cdD53, rfl, l53, c53, cd53, v253, fi53, cc_53, ci53⟩, k53⟩
  have b53 := F53.binds (ps := psT 53) fun _ _ _ _ _ _ _ us hl => match us, hl with | [_], _ => rfl
  have XC24 : ExC K veB X24 := ⟨veB_ok, ⟨_, _, _, _, _, _, _, _, _, _, _, _, _, _, _, xl24, xt24⟩, xs24, xe_24, xy24, xkp24⟩
  have F2 : FunK K "__init__" "UnknownMember.__init__" s2 f2 X3 _ := ⟨⟨kV2, dc2, pm2, ct2, oc2, an2, od2, sl2, cc2, cda2, vs2, file2, tf2, ccl2, cl2, cdd2, cld2, ccs2, csl2, cdD2, rfl, l2, c2, cd2, v22, fi2, cc_2, ci2⟩, k2⟩
  have b2 := F2.binds (ps := psT 2) fun _ _ _ _ _ _ _ us hl => match us, hl with | [_, _], _ => rfl
  have XC3 : ExC K luB X3 := ⟨luB_ok, ⟨_, _, _, _, _, _, _, _, _, _, _, _, _, _, _, xl3, xt3⟩, xs3, xe_3, xy3, xkp3⟩
  have F54 : FunK K "__init__" "UnknownState.__init__" s54 f54 X25 _ := ⟨⟨kV54, dc54, pm54, ct54, oc54, an54, od54, sl54, cc54, cda54, vs54, file54, tf54, ccl54, cl54, cdd54, cld54, ccs54, csl54, cdD54, rfl, l54, c54, cd54, v254, fi54, cc_54, ci54⟩, k54⟩
  have b54 := F54.binds (ps := psT 54) fun _ _ _ _ _ _ _ us hl => match us, hl with | [_, _], _ => rfl
  have XC25 : ExC K luB X25 := ⟨luB_ok, ⟨_, _, _, _, _, _, _, _, _, _, _, _, _, _, _, xl25, xt25⟩, xs25, xe_25, xy25, xkp25⟩
  have F55 : FunK K "__init__" "NotTold.__init__" s55 f55 X26 _ := ⟨⟨kV55, dc55, pm55, ct55, oc55, an55, od55, sl55, cc55, cda55, vs55, file55, tf55, ccl55, cl55, cdd55, cld55, ccs55, csl55, cdD55, rfl, l55, c55, cd55, v255, fi55, cc_55, ci55⟩, k55⟩
  have b55 := F55.binds (ps := psT 55) fun _ _ _ _ _ _ _ us hl => match us, hl with | [_, _], _ => rfl
  have XC26 : ExC K luB X26 := ⟨luB_ok, ⟨_, _, _, _, _, _, _, _, _, _, _, _, _, _, _, xl26, xt26⟩, xs26, xe_26, xy26, xkp26⟩
  have mX1 : mg "BadMonoid" = some (.ref X1) := PySem.W.mg_of X G0 aX1
  have mX9 : mg "BadKind" = some (.ref X9) := PySem.W.mg_of X G0 aX9
  have mX10 : mg "BadValue" = some (.ref X10) := PySem.W.mg_of X G0 aX10
  have mX11 : mg "TooMany" = some (.ref X11) := PySem.W.mg_of X G0 aX11
  have mX12 : mg "BadName" = some (.ref X12) := PySem.W.mg_of X G0 aX12
  have mX13 : mg "TwiceTold" = some (.ref X13) := PySem.W.mg_of X G0 aX13
  have mX14 : mg "NoStep" = some (.ref X14) := PySem.W.mg_of X G0 aX14
  have mX15 : mg "NotClosed" = some (.ref X15) := PySem.W.mg_of X G0 aX15
  have mX16 : mg "MixedKinds" = some (.ref X16) := PySem.W.mg_of X G0 aX16
  have mX17 : mg "MixedSystems" = some (.ref X17) := PySem.W.mg_of X G0 aX17
  have mX18 : mg "BadImages" = some (.ref X18) := PySem.W.mg_of X G0 aX18
  have mX19 : mg "NotKept" = some (.ref X19) := PySem.W.mg_of X G0 aX19
  have mX20 : mg "BadSaying" = some (.ref X20) := PySem.W.mg_of X G0 aX20
  have mX21 : mg "BadBehaviour" = some (.ref X21) := PySem.W.mg_of X G0 aX21
  have mX22 : mg "BadTurn" = some (.ref X22) := PySem.W.mg_of X G0 aX22
  have mX23 : mg "OpenState" = some (.ref X23) := PySem.W.mg_of X G0 aX23
  have mX24 : mg "NothingDone" = some (.ref X24) := PySem.W.mg_of X G0 aX24
  have mX3 : mg "UnknownMember" = some (.ref X3) := PySem.W.mg_of X G0 aX3
  have mX25 : mg "UnknownState" = some (.ref X25) := PySem.W.mg_of X G0 aX25
  have mX26 : mg "NotTold" = some (.ref X26) := PySem.W.mg_of X G0 aX26
  have mX0 : mg "KindstepsError" = some (.ref X0) := PySem.W.mg_of X G0 aX0
  have mX2 : mg "NameMissing" = some (.ref X2) := PySem.W.mg_of X G0 aX2
  have mF14 : mg "_law_source" = some (.ref f14) := PySem.W.mg_of X G0 aF14
  have mF15 : mg "_law_pick" = some (.ref f15) := PySem.W.mg_of X G0 aF15
  have mF56 : mg "_law_word" = some (.ref f56) := PySem.W.mg_of X G0 aF56
  have mF57 : mg "_law_plain" = some (.ref f57) := PySem.W.mg_of X G0 aF57
  have mF58 : mg "_law_named" = some (.ref f58) := PySem.W.mg_of X G0 aF58
  have mF59 : mg "_law_missing" = some (.ref f59) := PySem.W.mg_of X G0 aF59
  have mF60 : mg "_law_classes" = some (.ref f60) := PySem.W.mg_of X G0 aF60
  have mF21 : mg "law" = some (.ref f21) := PySem.W.mg_of X G0 aF21
  have mB_len : mg "len" = none := PySem.W.mg_none_of X G0 bl_len
  have mB_abs : mg "abs" = none := PySem.W.mg_none_of X G0 bl_abs
  have mB_int : mg "int" = none := PySem.W.mg_none_of X G0 bl_int
  have mB_str : mg "str" = none := PySem.W.mg_none_of X G0 bl_str
  have mB_range : mg "range" = none := PySem.W.mg_none_of X G0 bl_range
  have mB_isinstance : mg "isinstance" = none := PySem.W.mg_none_of X G0 bl_isinstance
  have mB_ValueError : mg "ValueError" = none := PySem.W.mg_none_of X G0 bl_ValueError
  have mB_LookupError : mg "LookupError" = none := PySem.W.mg_none_of X G0 bl_LookupError
  have mB_KeyError : mg "KeyError" = none := PySem.W.mg_none_of X G0 bl_KeyError
  have mB_IndexError : mg "IndexError" = none := PySem.W.mg_none_of X G0 bl_IndexError
  have mB_super : mg "super" = none := PySem.W.mg_none_of X G0 bl_super
  exact ⟨_, fun s v => .of_eq rfl, fun base _ _ => law_of F14 F15 F56 F57 F58 F59 F60 F21 F1 b1 XC1 F38 b38 XC9 F39 b39 XC10 F40 b40 XC11 F41 b41 XC12 F42 b42 XC13 F43 b43 XC14 F44 b44 XC15 F45 b45 XC16 F46 b46 XC17 F47 b47 XC18 F48 b48 XC19 F49 b49 XC20 F50 b50 XC21 F51 b51 XC22 F52 b52 XC23 F53 b53 XC24 F2 b2 XC3 F54 b54 XC25 F55 b55 XC26 b14 b15 b56 b57 b58 b59 b60 b21 i14 i15 i56 i57 i58 i59 i60 i21 xcl1 xg1 xh1 xd1 xca1 xob1 xo1 xcl9 xg9 xh9 xd9 xca9 xob9 xo9 xcl10 xg10 xh10 xd10 xca10 xob10 xo10 xcl11 xg11 xh11 xd11 xca11 xob11 xo11 xcl12 xg12 xh12 xd12 xca12 xob12 xo12 xcl13 xg13 xh13 xd13 xca13 xob13 xo13 xcl14 xg14 xh14 xd14 xca14 xob14 xo14 xcl15 xg15 xh15 xd15 xca15 xob15 xo15 xcl16 xg16 xh16 xd16 xca16 xob16 xo16 xcl17 xg17 xh17 xd17 xca17 xob17 xo17 xcl18 xg18 xh18 xd18 xca18 xob18 xo18 xcl19 xg19 xh19 xd19 xca19 xob19 xo19 xcl20 xg20 xh20 xd20 xca20 xob20 xo20 xcl21 xg21 xh21 xd21 xca21 xob21 xo21 xcl22 xg22 xh22 xd22 xca22 xob22 xo22 xcl23 xg23 xh23 xd23 xca23 xob23 xo23 xcl24 xg24 xh24 xd24 xca24 xob24 xo24 xcl3 xg3 xh3 xd3 xca3 xob3 xo3 xcl25 xg25 xh25 xd25 xca25 xob25 xo25 xcl26 xg26 xh26 xd26 xca26 xob26 xo26 xcl0 xg0 xh0 xd0 xca0 xob0 xo0 xcl2 xg2 xh2 xd2 xca2 xob2 xo2 xe_0 xe_2 xe_1 xi1 xf1 xm1 xu1 xb1 xe_9 xi9 xf9 xm9 xu9 xb9 xe_10 xi10 xf10 xm10 xu10 xb10 xe_11 xi11 xf11 xm11 xu11 xb11 xe_12 xi12 xf12 xm12 xu12 xb12 xe_13 xi13 xf13 xm13 xu13 xb13 xe_14 xi14 xf14 xm14 xu14 xb14 xe_15 xi15 xf15 xm15 xu15 xb15 xe_16 xi16 xf16 xm16 xu16 xb16 xe_17 xi17 xf17 xm17 xu17 xb17 xe_18 xi18 xf18 xm18 xu18 xb18 xe_19 xi19 xf19 xm19 xu19 xb19 xe_20 xi20 xf20 xm20 xu20 xb20 xe_21 xi21 xf21 xm21 xu21 xb21 xe_22 xi22 xf22 xm22 xu22 xb22 xe_23 xi23 xf23 xm23 xu23 xb23 xe_24 xi24 xf24 xm24 xu24 xb24 xe_3 xi3 xf3 xm3 xu3 xb3 xe_25 xi25 xf25 xm25 xu25 xb25 xe_26 xi26 xf26 xm26 xu26 xb26 kb0 kx0 cg ct op mX1 mX9 mX10 mX11 mX12 mX13 mX14 mX15 mX16 mX17 mX18 mX19 mX20 mX21 mX22 mX23 mX24 mX3 mX25 mX26 mX0 mX2 mF14 mF15 mF56 mF57 mF58 mF59 mF60 mF21 mB_len mB_abs mB_int mB_str mB_range mB_isinstance mB_ValueError mB_LookupError mB_KeyError mB_IndexError mB_super tot⟩
theorem factsH (tot : ∀ ns : List Int, ns.length ≤ 63 → ∃ h', (G.ff 40).1 21 [.t (.scr ns)] [] = .ok (.t (.bl true)) h') {w : World} {K : PySem.W.Frag} {h : Heap} {mg : Str → Option Value} {fa : Addr} (X : K.In h) (G0 : h.Ns mainGlobals mg) (hfa : mg "law" = some (.ref fa)) (hb : fbB K = true) (ho : foK K = fvK) :
    ∃ fd : FuncData, (∀ (s : Shared) (v : Value), BindsTo s fd ⟨[v], []⟩ [("_law_script", v)]) ∧ ∀ base : Heap, K.In base → base.Ns mainGlobals mg → FnOk prg w K mg base (L2.CX prg w) 42 fa fd ["_law_script"] (spLaw K 63) := by
  unfold fbB at hb
  simp only [Bool.and_eq_true, decide_eq_true_eq] at hb
  obtain ⟨p_0, p_1, p_2, p_3, p_4, p_5, p_6, p_7, p_8, p_9, p_10, p_11, p_12, p_13, p_14, p_15, p_16, p_17, p_18, p_19⟩ := hb
  obtain ⟨aF14, aF15, aF56, aF57, aF58, aF59, aF60, aF21, b_14, k14, i14, b_15, k15, i15, b_56, k56, i56, b_57, k57, i57, b_58, k58, i58, b_59⟩ := p_0
  obtain ⟨k59, i59, b_60, k60, i60, b_21, k21, i21, aX1, aX9, aX10, aX11, aX12, aX13, aX14, aX15, aX16, aX17, aX18, aX19, aX20, aX21, aX22, aX23⟩ := p_1
  obtain ⟨aX24, aX3, aX25, aX26, aX0, aX2, xcl1, xg1, xh1, xd1, xca1, xob1, xo1, xcl9, xg9, xh9, xd9, xca9, xob9, xo9, xcl10, xg10, xh10, xd10⟩ := p_2
  obtain ⟨xca10, xob10, xo10, xcl11, xg11, xh11, xd11, xca11, xob11, xo11, xcl12, xg12, xh12, xd12, xca12, xob12, xo12, xcl13, xg13, xh13, xd13, xca13, xob13, xo13⟩ := p_3
  obtain ⟨xcl14, xg14, xh14, xd14, xca14, xob14, xo14, xcl15, xg15, xh15, xd15, xca15, xob15, xo15, xcl16, xg16, xh16, xd16, xca16, xob16, xo16, xcl17, xg17, xh17⟩ := p_4
  obtain ⟨xd17, xca17, xob17, xo17, xcl18, xg18, xh18, xd18, xca18, xob18, xo18, xcl19, xg19, xh19, xd19, xca19, xob19, xo19, xcl20, xg20, xh20, xd20, xca20, xob20⟩ := p_5
  obtain ⟨xo20, xcl21, xg21, xh21, xd21, xca21, xob21, xo21, xcl22, xg22, xh22, xd22, xca22, xob22, xo22, xcl23, xg23, xh23, xd23, xca23, xob23, xo23, xcl24, xg24⟩ := p_6
  obtain ⟨xh24, xd24, xca24, xob24, xo24, xcl3, xg3, xh3, xd3, xca3, xob3, xo3, xcl25, xg25, xh25, xd25, xca25, xob25, xo25, xcl26, xg26, xh26, xd26, xca26⟩ := p_7
  obtain ⟨xob26, xo26, xcl0, xg0, xh0, xd0, xca0, xob0, xo0, xcl2, xg2, xh2, xd2, xca2, xob2, xo2, xe_0, xe_2, bx_1, xs1, xe_1, xy1, xkp1, xi1⟩ := p_8
  obtain ⟨xf1, xm1, xu1, xb1, b_1, k1, bx_9, xs9, xe_9, xy9, xkp9, xi9, xf9, xm9, xu9, xb9, b_38, k38, bx_10, xs10, xe_10, xy10, xkp10, xi10⟩ := p_9
  obtain ⟨xf10, xm10, xu10, xb10, b_39, k39, bx_11, xs11, xe_11, xy11, xkp11, xi11, xf11, xm11, xu11, xb11, b_40, k40, bx_12, xs12, xe_12, xy12, xkp12, xi12⟩ := p_10
  obtain ⟨xf12, xm12, xu12, xb12, b_41, k41, bx_13, xs13, xe_13, xy13, xkp13, xi13, xf13, xm13, xu13, xb13, b_42, k42, bx_14, xs14, xe_14, xy14, xkp14, xi14⟩ := p_11
  obtain ⟨xf14, xm14, xu14, xb14, b_43, k43, bx_15, xs15, xe_15, xy15, xkp15, xi15, xf15, xm15, xu15, xb15, b_44, k44, bx_16, xs16, xe_16, xy16, xkp16, xi16⟩ := p_12
  obtain ⟨xf16, xm16, xu16, xb16, b_45, k45, bx_17, xs17, xe_17, xy17, xkp17, xi17, xf17, xm17, xu17, xb17, b_46, k46, bx_18, xs18, xe_18, xy18, xkp18, xi18⟩ := p_13
  obtain ⟨xf18, xm18, xu18, xb18, b_47, k47, bx_19, xs19, xe_19, xy19, xkp19, xi19, xf19, xm19, xu19, xb19, b_48, k48, bx_20, xs20, xe_20, xy20, xkp20, xi20⟩ := p_14
  obtain ⟨xf20, xm20, xu20, xb20, b_49, k49, bx_21, xs21, xe_21, xy21, xkp21, xi21, xf21, xm21, xu21, xb21, b_50, k50, bx_22, xs22, xe_22, xy22, xkp22, xi22⟩ := p_15
  obtain ⟨xf22, xm22, xu22, xb22, b_51, k51, bx_23, xs23, xe_23, xy23, xkp23, xi23, xf23, xm23, xu23, xb23, b_52, k52, bx_24, xs24, xe_24, xy24, xkp24, xi24⟩ := p_16
  obtain ⟨xf24, xm24, xu24, xb24, b_53, k53, bx_3, xs3, xe_3, xy3, xkp3, xi3, xf3, xm3, xu3, xb3, b_2, k2, bx_25, xs25, xe_25, xy25, xkp25, xi25⟩ := p_17
  obtain ⟨xf25, xm25, xu25, xb25, b_54, k54, bx_26, xs26, xe_26, xy26, xkp26, xi26, xf26, xm26, xu26, xb26, b_55, k55, kb0, kx0, cg, ct, op, bl_len⟩ := p_18
  obtain ⟨bl_abs, bl_int, bl_str, bl_range, bl_isinstance, bl_ValueError, bl_LookupError, bl_KeyError, bl_IndexError, bl_super⟩ := p_19
  unfold foK fvK at ho
  simp only [List.cons.injEq] at ho
  obtain ⟨e_14, e_15, e_56, e_57, e_58, e_59, e_60, e_21, e_1, e_38, e_39, e_40, e_41, e_42, e_43, e_44, e_45, e_46, e_47, e_48, e_49, e_50, e_51, e_52, e_53, e_2, e_54, e_55, _⟩ := ho
  obtain ⟨_, _, _, _, _, _, _, _, _, l14, c14⟩ := fnP e_14 b_14
  obtain ⟨_, _, _, _, _, _, _, _, _, l15, c15⟩ := fnP e_15 b_15
  obtain ⟨_, _, _, _, _, _, _, _, _, l56, c56⟩ := fnP e_56 b_56
  obtain ⟨_, _, _, _, _, _, _, _, _, l57, c57⟩ := fnP e_57 b_57
  obtain ⟨_, _, _, _, _, _, _, _, _, l58, c58⟩ := fnP e_58 b_58
  obtain ⟨_, _, _, _, _, _, _, _, _, l59, c59⟩ := fnP e_59 b_59
  obtain ⟨_, _, _, _, _, _, _, _, _, l60, c60⟩ := fnP e_60 b_60
  obtain ⟨_, _, _, _, _, _, _, _, _, l21, c21⟩ := fnP e_21 b_21
  obtain ⟨_, _, _, _, _, _, _, _, _, _, _, _, _, _, _, xl1, xt1⟩ := excP bx_1
  obtain ⟨_, _, _, _, _, _, _, _, _, _, _, _, _, _, _, _, _, _, _, _, l1, c1, cd1, v21, fi1, cc_1, ci1⟩ := cloP e_1 b_1
  obtain ⟨_, _, _, _, _, _, _, _, _, _, _, _, _, _, _, xl9, xt9⟩ := excP bx_9
  obtain ⟨_, _, _, _, _, _, _, _, _, _, _, _, _, _, _, _, _, _, _, _, l38, c38, cd38, v238, fi38, cc_38, ci38⟩ := cloP e_38 b_38
  obtain ⟨_, _, _, _, _, _, _, _, _, _, _, _, _, _, _, xl10, xt10⟩ := excP bx_10
  obtain ⟨_, _, _, _, _, _, _, _, _, _, _, _, _, _, _, _, _, _, _, _, l39, c39, cd39, v239, fi39, cc_39, ci39⟩ := cloP e_39 b_39
  obtain ⟨_, _, _, _, _, _, _, _, _, _, _, _, _, _, _, xl11, xt11⟩ := excP bx_11
  obtain ⟨_, _, _, _, _, _, _, _, _, _, _, _, _, _, _, _, _, _, _, _, l40, c40, cd40, v240, fi40, cc_40, ci40⟩ := cloP e_40 b_40
  obtain ⟨_, _, _, _, _, _, _, _, _, _, _, _, _, _, _, xl12, xt12⟩ := excP bx_12
  obtain ⟨_, _, _, _, _, _, _, _, _, _, _, _, _, _, _, _, _, _, _, _, l41, c41, cd41, v241, fi41, cc_41, ci41⟩ := cloP e_41 b_41
  obtain ⟨_, _, _, _, _, _, _, _, _, _, _, _, _, _, _, xl13, xt13⟩ := excP bx_13
  obtain ⟨_, _, _, _, _, _, _, _, _, _, _, _, _, _, _, _, _, _, _, _, l42, c42, cd42, v242, fi42, cc_42, ci42⟩ := cloP e_42 b_42
  obtain ⟨_, _, _, _, _, _, _, _, _, _, _, _, _, _, _, xl14, xt14⟩ := excP bx_14
  obtain ⟨_, _, _, _, _, _, _, _, _, _, _, _, _, _, _, _, _, _, _, _, l43, c43, cd43, v243, fi43, cc_43, ci43⟩ := cloP e_43 b_43
  obtain ⟨_, _, _, _, _, _, _, _, _, _, _, _, _, _, _, xl15, xt15⟩ := excP bx_15
  obtain ⟨_, _, _, _, _, _, _, _, _, _, _, _, _, _, _, _, _, _, _, _, l44, c44, cd44, v244, fi44, cc_44, ci44⟩ := cloP e_44 b_44
  obtain ⟨_, _, _, _, _, _, _, _, _, _, _, _, _, _, _, xl16, xt16⟩ := excP bx_16
  obtain ⟨_, _, _, _, _, _, _, _, _, _, _, _, _, _, _, _, _, _, _, _, l45, c45, cd45, v245, fi45, cc_45, ci45⟩ := cloP e_45 b_45
  obtain ⟨_, _, _, _, _, _, _, _, _, _, _, _, _, _, _, xl17, xt17⟩ := excP bx_17
  obtain ⟨_, _, _, _, _, _, _, _, _, _, _, _, _, _, _, _, _, _, _, _, l46, c46, cd46, v246, fi46, cc_46, ci46⟩ := cloP e_46 b_46
  obtain ⟨_, _, _, _, _, _, _, _, _, _, _, _, _, _, _, xl18, xt18⟩ := excP bx_18
  obtain ⟨_, _, _, _, _, _, _, _, _, _, _, _, _, _, _, _, _, _, _, _, l47, c47, cd47, v247, fi47, cc_47, ci47⟩ := cloP e_47 b_47
  obtain ⟨_, _, _, _, _, _, _, _, _, _, _, _, _, _, _, xl19, xt19⟩ := excP bx_19
  obtain ⟨_, _, _, _, _, _, _, _, _, _, _, _, _, _, _, _, _, _, _, _, l48, c48, cd48, v248, fi48, cc_48, ci48⟩ := cloP e_48 b_48
  obtain ⟨_, _, _, _, _, _, _, _, _, _, _, _, _, _, _, xl20, xt20⟩ := excP bx_20
  obtain ⟨_, _, _, _, _, _, _, _, _, _, _, _, _, _, _, _, _, _, _, _, l49, c49, cd49, v249, fi49, cc_49, ci49⟩ := cloP e_49 b_49
  obtain ⟨_, _, _, _, _, _, _, _, _, _, _, _, _, _, _, xl21, xt21⟩ := excP bx_21
  obtain ⟨_, _, _, _, _, _, _, _, _, _, _, _, _, _, _, _, _, _, _, _, l50, c50, cd50, v250, fi50, cc_50, ci50⟩ := cloP e_50 b_50
  obtain ⟨_, _, _, _, _, _, _, _, _, _, _, _, _, _, _, xl22, xt22⟩ := excP bx_22
  obtain ⟨_, _, _, _, _, _, _, _, _, _, _, _, _, _, _, _, _, _, _, _, l51, c51, cd51, v251, fi51, cc_51, ci51⟩ := cloP e_51 b_51
  obtain ⟨_, _, _, _, _, _, _, _, _, _, _, _, _, _, _, xl23, xt23⟩ := excP bx_23
  obtain ⟨_, _, _, _, _, _, _, _, _, _, _, _, _, _, _, _, _, _, _, _, l52, c52, cd52, v252, fi52, cc_52, ci52⟩ := cloP e_52 b_52
  obtain ⟨_, _, _, _, _, _, _, _, _, _, _, _, _, _, _, xl24, xt24⟩ := excP bx_24
  obtain ⟨_, _, _, _, _, _, _, _, _, _, _, _, _, _, _, _, _, _, _, _, l53, c53, cd53, v253, fi53, cc_53, ci53⟩ := cloP e_53 b_53
  obtain ⟨_, _, _, _, _, _, _, _, _, _, _, _, _, _, _, xl3, xt3⟩ := excP bx_3
  obtain ⟨_, _, _, _, _, _, _, _, _, _, _, _, _, _, _, _, _, _, _, _, l2, c2, cd2, v22, fi2, cc_2, ci2⟩ := cloP e_2 b_2
  obtain ⟨_, _, _, _, _, _, _, _, _, _, _, _, _, _, _, xl25, xt25⟩ := excP bx_25
  obtain ⟨_, _, _, _, _, _, _, _, _, _, _, _, _, _, _, _, _, _, _, _, l54, c54, cd54, v254, fi54, cc_54, ci54⟩ := cloP e_54 b_54
  obtain ⟨_, _, _, _, _, _, _, _, _, _, _, _, _, _, _, xl26, xt26⟩ := excP bx_26
  obtain ⟨_, _, _, _, _, _, _, _, _, _, _, _, _, _, _, _, _, _, _, _, l55, c55, cd55, v255, fi55, cc_55, ci55⟩ := cloP e_55 b_55
  exact all_mk tot X G0 hfa aF14 aF15 aF56 aF57 aF58 aF59 aF60 aF21 l14 c14 k14 i14 l15 c15 k15 i15 l56 c56 k56 i56 l57 c57 k57 i57 l58 c58 k58 i58 l59 c59 k59 i59 l60 c60 k60 i60 l21 c21 k21 i21 aX1 aX9 aX10 aX11 aX12 aX13 aX14 aX15 aX16 aX17 aX18 aX19 aX20 aX21 aX22 aX23 aX24 aX3 aX25 aX26 aX0 aX2 xcl1 xg1 xh1 xd1 xca1 xob1 xo1 xcl9 xg9 xh9 xd9 xca9 xob9 xo9 xcl10 xg10 xh10 xd10 xca10 xob10 xo10 xcl11 xg11 xh11 xd11 xca11 xob11 xo11 xcl12 xg12 xh12 xd12 xca12 xob12 xo12 xcl13 xg13 xh13 xd13 xca13 xob13 xo13 xcl14 xg14 xh14 xd14 xca14 xob14 xo14 xcl15 xg15 xh15 xd15 xca15 xob15 xo15 xcl16 xg16 xh16 xd16 xca16 xob16 xo16 xcl17 xg17 xh17 xd17 xca17 xob17 xo17 xcl18 xg18 xh18 xd18 xca18 xob18 xo18 xcl19 xg19 xh19 xd19 xca19 xob19 xo19 xcl20 xg20 xh20 xd20 xca20 xob20 xo20 xcl21 xg21 xh21 xd21 xca21 xob21 xo21 xcl22 xg22 xh22 xd22 xca22 xob22 xo22 xcl23 xg23 xh23 xd23 xca23 xob23 xo23 xcl24 xg24 xh24 xd24 xca24 xob24 xo24 xcl3 xg3 xh3 xd3 xca3 xob3 xo3 xcl25 xg25 xh25 xd25 xca25 xob25 xo25 xcl26 xg26 xh26 xd26 xca26 xob26 xo26 xcl0 xg0 xh0 xd0 xca0 xob0 xo0 xcl2 xg2 xh2 xd2 xca2 xob2 xo2 xe_0 xe_2 xl1 xt1 xs1 xe_1 xy1 xkp1 xi1 xf1 xm1 xu1 xb1 l1 c1 cd1 v21 fi1 cc_1 ci1 k1 xl9 xt9 xs9 xe_9 xy9 xkp9 xi9 xf9 xm9 xu9 xb9 l38 c38 cd38 v238 fi38 cc_38 ci38 k38 xl10 xt10 xs10 xe_10 xy10 xkp10 xi10 xf10 xm10 xu10 xb10 l39 c39 cd39 v239 fi39 cc_39 ci39 k39 xl11 xt11 xs11 xe_11 xy11 xkp11 xi11 xf11 xm11 xu11 xb11 l40 c40 cd40 v240 fi40 cc_40 ci40 k40 xl12 xt12 xs12 xe_12 xy12 xkp12 xi12 xf12 xm12 xu12 xb12 l41 c41 cd41 v241 fi41 cc_41 ci41 k41 xl13 xt13 xs13 xe_13 xy13 xkp13 xi13 xf13 xm13 xu13 xb13 l42 c42 cd42 v242 fi42 cc_42 ci42 k42 xl14 xt14 xs14 xe_14 xy14 xkp14 xi14 xf14 xm14 xu14 xb14 l43 c43 cd43 v243 fi43 cc_43 ci43 k43 xl15 xt15 xs15 xe_15 xy15 xkp15 xi15 xf15 xm15 xu15 xb15 l44 c44 cd44 v244 fi44 cc_44 ci44 k44 xl16 xt16 xs16 xe_16 xy16 xkp16 xi16 xf16 xm16 xu16 xb16 l45 c45 cd45 v245 fi45 cc_45 ci45 k45 xl17 xt17 xs17 xe_17 xy17 xkp17 xi17 xf17 xm17 xu17 xb17 l46 c46 cd46 v246 fi46 cc_46 ci46 k46 xl18 xt18 xs18 xe_18 xy18 xkp18 xi18 xf18 xm18 xu18 xb18 l47 c47 cd47 v247 fi47 cc_47 ci47 k47 xl19 xt19 xs19 xe_19 xy19 xkp19 xi19 xf19 xm19 xu19 xb19 l48 c48 cd48 v248 fi48 cc_48 ci48 k48 xl20 xt20 xs20 xe_20 xy20 xkp20 xi20 xf20 xm20 xu20 xb20 l49 c49 cd49 v249 fi49 cc_49 ci49 k49 xl21 xt21 xs21 xe_21 xy21 xkp21 xi21 xf21 xm21 xu21 xb21 l50 c50 cd50 v250 fi50 cc_50 ci50 k50 xl22 xt22 xs22 xe_22 xy22 xkp22 xi22 xf22 xm22 xu22 xb22 l51 c51 cd51 v251 fi51 cc_51 ci51 k51 xl23 xt23 xs23 xe_23 xy23 xkp23 xi23 xf23 xm23 xu23 xb23 l52 c52 cd52 v252 fi52 cc_52 ci52 k52 xl24 xt24 xs24 xe_24 xy24 xkp24 xi24 xf24 xm24 xu24 xb24 l53 c53 cd53 v253 fi53 cc_53 ci53 k53 xl3 xt3 xs3 xe_3 xy3 xkp3 xi3 xf3 xm3 xu3 xb3 l2 c2 cd2 v22 fi2 cc_2 ci2 k2 xl25 xt25 xs25 xe_25 xy25 xkp25 xi25 xf25 xm25 xu25 xb25 l54 c54 cd54 v254 fi54 cc_54 ci54 k54 xl26 xt26 xs26 xe_26 xy26 xkp26 xi26 xf26 xm26 xu26 xb26 l55 c55 cd55 v255 fi55 cc_55 ci55 k55 kb0 kx0 cg ct op bl_len bl_abs bl_int bl_str bl_range bl_isinstance bl_ValueError bl_LookupError bl_KeyError bl_IndexError bl_super
end MS
open PySem PySem.W PyProof.Rows in
set_option maxRecDepth 100000 in
set_option maxHeartbeats 0 in
theorem PySem.Challenge.cw_kindsteps_k91_errors_holds : PySem.Challenge.rw_kindsteps_k91_errors.Holds := by
  w_on; o_law
  refine HandSHeadRun.head_any (r := (PySem.W.OpenLaw.row PySem.Challenge.rw_kindsteps_k91_errors)) (q := view (PySem.W.OpenLaw.row PySem.Challenge.rw_kindsteps_k91_errors).prog [31]) (H := MS.hkF) (ob := MS.obF) (M := 20000) (loose := MS.nmH)
    (d := HandSHeadRun.topDef (PySem.W.OpenLaw.row PySem.Challenge.rw_kindsteps_k91_errors).prog 31) (kwd := []) (fun s => MS.obH_get s) (by kernel_rfl) (fun s => by kernel_rfl) MS.runH
    (by kernel_rfl) (by kernel_rfl) (by kernel_rfl) (by rfl) (by first | assumption | decide +kernel) (by decide +kernel) ⟨rfl, rfl, rfl, rfl, rfl, by decide +kernel⟩ ?hw ?hc
  case hw => w_witness2
  case hc =>
    refine MS.walkH (l := PySem.Challenge.rw_kindsteps_k91_errors) (n := 63) (k := 42) (x := "_law_script") rfl (by decide) (by kernel_rfl) ⟨rfl, by decide, by decide⟩ ?_
    intro w mg fa h Y G0 z
    obtain ⟨K, KX, hb, ho⟩ := Y
    have hn : (HandSHeadRun.topDef (PySem.W.OpenLaw.row PySem.Challenge.rw_kindsteps_k91_errors).prog 31).name = ("law" : PySem.Str) := by kernel_rfl
    rw [hn] at z
    obtain ⟨fd, b, hF⟩ := MS.factsH MS.tot KX G0 z hb ho
    exact ⟨K, fd, KX, b, hF⟩
