import PyProof.Rows.All
import Wide.All
import OpenK.AllK
import Wide.FinOn
import PyProof.EqAt
import PyProof.EqKinds
import PyProof.TupleCall
import HandS.ForMost
import HandS.Exc
import HandS.ExcInit
import HandS.TryOnly
import HandS.WordsExc
import HandS.TupAny
import HandS.TupMul
import HandS.Wide
import HandS.Gcd
import HandS.IsInst
import HandS.Zip
import HandS.Rev
import HandS.Deep
import HandS.CallSlots
import HandS.Style
import PyProof.Rows.InDataRows
import KE.GoesEnum
import HandS.Defaults
import HandS.ExcIs
import HandS.ExcField
import HandS.HeadHook2
import HandS.HeadWalk
import KE.KExcIs
import HandS.Codes
import HandS.Head0
import HandS.Head1
import HandS.Head2
import HandS.Head3
import HandS.HeadEnd
import HandS.HeadHook1
import HandS.Words
import HandS.Ends
import HandS.More
import PySem.Challenge.RW_wholeplanes_k00_errors
set_option Elab.async false
set_option linter.all false
set_option maxRecDepth 100000
set_option maxHeartbeats 4000000
/-! FpEval: values as plain data and an evaluator of a small functional part of Python (no heap, no addresses). -/
namespace Fp
open PySem

/-- an equation that simp does not take for one by unfolding -/
theorem nr {α : Sort _} {a b : α} (h : a = b) : a = b := h
/-- plain data; olst: a list that its holder alone has, inside a list of the same kind -/
inductive D where
  | non
  | bl (b : Bool)
  | int (i : Int)
  | str (x : Str)
  | tup (ds : List D)
  | lst (ds : List D)
  | olst (ds : List D)
  | dic (ks vs : List D)
  | exc (c : String) (d : D)
  | klst (ds : List D)
deriving Inhabited

/-- what a slot holds: nothing; a value that never changes; a list of its own; one that is only read for now; the k-th list handed in -/
inductive Sl where
  | no
  | val (d : D)
  | own (ds : List D)
  | lea (ds : List D)
  | lnk (k : Nat)
deriving Inhabited
/-- a list handed in: to be changed; only read; grown into a value -/
inductive Pst where
  | own (ds : List D)
  | lea (ds : List D)
  | frz (ds : List D)
deriving Inhabited
structure Env where
  sl : List Sl
  ps : List Pst
/-- where a list of one's own stands -/
inductive Loc where
  | s (i : Nat)
  | p (k : Nat)
deriving DecidableEq
/-- what an expression gives -/
inductive Rv where
  | val (d : D)
  | fresh (ds : List D)
  | loc (l : Loc)
inductive R (α : Type) where
  | ok (a : α) (e : Env)
  | ex (c : String) (d : D) (e : Env)
  | bad
def R.bind {α β : Type} : R α → (α → Env → R β) → R β
  | .ok a e, f => f a e
  | .ex c d e, _ => .ex c d e
  | .bad, _ => .bad
@[simp] theorem R.bind_ok {α β : Type} (a : α) (e : Env) (f : α → Env → R β) : (R.ok a e).bind f = f a e := nr rfl
@[simp] theorem R.bind_ex {α β : Type} (c : String) (d : D) (e : Env) (f : α → Env → R β) : (R.ex c d e : R α).bind f = .ex c d e := nr rfl
@[simp] theorem R.bind_bad {α β : Type} (f : α → Env → R β) : (R.bad : R α).bind f = .bad := nr rfl

def frz1 : D → D
  | .olst ds => .lst ds
  | d => d
def D.isO : D → Bool
  | .olst _ => true
  | _ => false

/-- a name's value -/
def Env.var (e : Env) (i : Nat) : R Rv :=
  match e.sl[i]? with
  | some (.val d) => .ok (.val d) e
  | some (.own _) => .ok (.loc (.s i)) e
  | some (.lea _) => .ok (.loc (.s i)) e
  | some (.lnk k) => match e.ps[k]? with
    | some (.own _) => .ok (.loc (.p k)) e
    | some (.lea _) => .ok (.loc (.p k)) e
    | some (.frz ds) => .ok (.val (.lst ds)) e
    | none => .bad
  | _ => .bad
/-- what stands at a place -/
def Env.at (e : Env) : Loc → Option Pst
  | .s i => match e.sl[i]? with
    | some (.own ds) => some (.own ds)
    | some (.lea ds) => some (.lea ds)
    | some (.val (.lst ds)) => some (.frz ds)
    | _ => none
  | .p k => e.ps[k]?
def Sl.ofP : Pst → Sl
  | .own ds => .own ds
  | .lea ds => .lea ds
  | .frz ds => .val (.lst ds)
def Env.put (e : Env) : Loc → Pst → Env
  | .s i, p => ⟨e.sl.set i (.ofP p), e.ps⟩
  | .p k, p => ⟨e.sl, e.ps.set k p⟩

/-- the content, read where it stands -/
def Env.peek (e : Env) : Rv → R D
  | .val d => .ok d e
  | .fresh ds => .ok (.lst (ds.map frz1)) e
  | .loc l => match e.at l with
    | some (.own ds) => .ok (.lst (ds.map frz1)) (e.put l (.own (ds.map frz1)))
    | some (.lea ds) => .ok (.lst ds) e
    | some (.frz ds) => .ok (.lst ds) e
    | none => .bad
/-- a value that never changes from now on -/
def Env.asVal (e : Env) : Rv → R D
  | .val d => .ok d e
  | .fresh ds => .ok (.lst (ds.map frz1)) e
  | .loc l => match e.at l with
    | some (.own ds) => .ok (.lst (ds.map frz1)) (e.put l (.frz (ds.map frz1)))
    | some (.frz ds) => .ok (.lst ds) e
    | _ => .bad
def Env.asVals (e : Env) : List Rv → R (List D)
  | [] => .ok [] e
  | r :: rs => (e.asVal r).bind fun d e => (e.asVals rs).bind fun ds e => .ok (d :: ds) e
def D.flat1 : D → Bool
  | .olst _ => false
  | _ => true
/-- an item of a new list of one's own: a new list without such within stays one's own -/
def Env.item (e : Env) : Rv → R D
  | .fresh ds => .ok (if ds.all D.flat1 then .olst ds else .lst (ds.map frz1)) e
  | r => e.asVal r
def Env.items (e : Env) : List Rv → R (List D)
  | [] => .ok [] e
  | r :: rs => (e.item r).bind fun d e => (e.items rs).bind fun ds e => .ok (d :: ds) e

inductive Bop where | add | sub | mul | fdiv | mod | pow
deriving DecidableEq
inductive Cop where | eq | ne | lt | le | gt | ge | is | isnot | isin | notin
deriving DecidableEq

def LIM : Nat := 16777216
def mulOk (i j : Int) : Bool :=
  !(decide (Builtin.Int.intBits i > shortFactorBits) && decide (Builtin.Int.intBits j > shortFactorBits) && Builtin.Int.intTooBig (Builtin.Int.intBits i + Builtin.Int.intBits j))
def fdivOk (i j : Int) : Bool := decide (j ≠ 0) && !(Builtin.divisionGoesByPylong i j)
def powOk (i j : Int) : Bool := decide (0 ≤ j ∧ j ≤ 1000000 ∧ i.natAbs < 2 ^ 64)

/-! ### equality of data -/
mutual
def D.toP : D → PyData
  | .non => .none
  | .bl b => .bool b
  | .int i => .int i
  | .str x => .str x
  | .tup ds => .tuple (D.toPs ds)
  | .lst ds => .list (D.toPs ds)
  | .olst ds => .list (D.toPs ds)
  | .dic _ _ => .dict []
  | .exc _ _ => .dict []
  | .klst _ => .dict []
def D.toPs : List D → List PyData
  | [] => []
  | d :: ds => D.toP d :: D.toPs ds
end
mutual
def D.pure : D → Bool
  | .tup ds => D.pures ds
  | .lst ds => D.pures ds
  | .olst _ => false
  | .dic _ _ => false
  | .exc _ _ => false
  | .klst _ => false
  | _ => true
def D.pures : List D → Bool
  | [] => true
  | d :: ds => D.pure d && D.pures ds
end
def D.eqOk (d : D) : Bool := d.pure && SeqAt.shaped d.toP
def D.eqv (d e : D) : Bool := PyData.eqv d.toP e.toP

/-! ### operations on values -/
def isSc : D → Bool
  | .non => true
  | .bl _ => true
  | .int _ => true
  | .str _ => true
  | _ => false
def arith (o : Bop) (i j : Int) : Option Int :=
  match o with
  | .add => some (i + j)
  | .sub => some (i - j)
  | .mul => if mulOk i j then some (i * j) else none
  | .fdiv => if fdivOk i j then some (i.fdiv j) else none
  | .mod => if j = 0 then none else some (i.fmod j)
  | .pow => if powOk i j then some (i ^ j.toNat) else none
/-- list + list, tuple + tuple, list * int, tuple * int, text + text -/
def opSeq (o : Bop) (x y : D) (e : Env) : R Rv :=
  match o, x, y with
  | .add, .lst xs, .lst ys => if xs.length + ys.length ≤ LIM then .ok (.fresh (xs ++ ys)) e else .bad
  | .add, .tup xs, .tup ys => if xs.length + ys.length ≤ LIM then .ok (.val (.tup (xs ++ ys))) e else .bad
  | .mul, .lst xs, .int k => if -(2 ^ 63) ≤ k ∧ k < 2 ^ 63 ∧ xs.length * k.toNat ≤ LIM then .ok (.fresh (List.replicate k.toNat xs).flatten) e else .bad
  | .mul, .tup xs, .int k => if -(2 ^ 63) ≤ k ∧ k ≤ 1000 ∧ xs.length ≤ 1000 then .ok (.val (.tup (List.replicate k.toNat xs).flatten)) e else .bad
  | .add, .str a, .str b => if a.length + b.length ≤ LIM then .ok (.val (.str (a ++ b))) e else .bad
  | _, _, _ => .bad
def opBin (o : Bop) (x y : Rv) (e : Env) : R Rv :=
  match x, y with
  | .val (.int i), .val (.int j) => match arith o i j with
    | some k => .ok (.val (.int k)) e
    | none => .bad
  | x, y => (e.peek x).bind fun x e => (e.peek y).bind fun y e => opSeq o x y e
def cmpI (o : Cop) (i j : Int) : Option Bool :=
  match o with
  | .eq => some (decide (i = j))
  | .ne => some (!decide (i = j))
  | .lt => some (decide (i < j))
  | .le => some (decide (i ≤ j))
  | .gt => some (decide (j < i))
  | .ge => some (decide (j ≤ i))
  | _ => none
def D.isNon : D → Bool
  | .non => true
  | _ => false
def cmpD (o : Cop) (x y : D) (e : Env) : R Bool :=
  match o, x, y with
  | .is, x, .non => .ok x.isNon e
  | .isnot, x, .non => .ok (!x.isNon) e
  | .eq, x, y => if x.eqOk && y.eqOk then .ok (x.eqv y) e else .bad
  | .ne, x, y => if x.eqOk && y.eqOk then .ok (!x.eqv y) e else .bad
  | .isin, x, .tup ys => if x.eqOk && (D.tup ys).eqOk then .ok (ys.any fun y => y.eqv x) e else .bad
  | .isin, x, .lst ys => if x.eqOk && (D.lst ys).eqOk then .ok (ys.any fun y => y.eqv x) e else .bad
  | .notin, x, .tup ys => if x.eqOk && (D.tup ys).eqOk then .ok (!ys.any fun y => y.eqv x) e else .bad
  | .notin, x, .lst ys => if x.eqOk && (D.lst ys).eqOk then .ok (!ys.any fun y => y.eqv x) e else .bad
  | _, _, _ => .bad
def opCmp (o : Cop) (x y : Rv) (e : Env) : R Bool :=
  match x, y with
  | .val (.int i), .val (.int j) => match cmpI o i j with
    | some b => .ok b e
    | none => .bad
  | x, y => (e.peek x).bind fun x e => (e.peek y).bind fun y e => cmpD o x y e
def R.blV : R Bool → R Rv
  | .ok b e => .ok (.val (.bl b)) e
  | .ex c d e => .ex c d e
  | .bad => .bad
def truth : D → Option Bool
  | .non => some false
  | .bl b => some b
  | .int i => some (i != 0)
  | .str x => if x.length ≤ LIM then some ((x.length : Int) != 0) else none
  | .tup ds => some (!ds.isEmpty)
  | .lst ds => some (!ds.isEmpty)
  | _ => none
def opTru (x : Rv) (e : Env) : R Bool :=
  match x with
  | .val (.bl b) => .ok b e
  | x => (e.peek x).bind fun d e => match truth d with
    | some b => .ok b e
    | none => .bad
/-- x[i] -/
def opIdx (x y : Rv) (e : Env) : R Rv :=
  match y with
  | .val (.int i) => match x with
    | .val (.tup ds) => match L2.atI ds i with | some d => .ok (.val d) e | none => .bad
    | .val (.lst ds) => match L2.atI ds i with | some d => .ok (.val d) e | none => .bad
    | .val (.str z) => if z.length ≤ LIM then match L2.atI z.cps.toList i with | some c => .ok (.val (.str ⟨#[c]⟩)) e | none => .bad else .bad
    | .fresh ds => match L2.atI ds i with | some d => .ok (.val (frz1 d)) e | none => .bad
    | .loc l => match e.at l with
      | some (.own ds) => match L2.ixN ds.length i with
        | some j => match ds[j]? with
          | some (.olst xs) => .ok (.val (.lst xs)) (e.put l (.own (ds.set j (.lst xs))))
          | some d => .ok (.val d) e
          | none => .bad
        | none => .bad
      | some (.lea ds) => match L2.atI ds i with | some d => .ok (.val d) e | none => .bad
      | some (.frz ds) => match L2.atI ds i with | some d => .ok (.val d) e | none => .bad
      | none => .bad
    | _ => .bad
  | _ => .bad
def cutD (xs : List D) (lo hi : Option Int) : List D := (xs.drop (HT.sIx xs.length 0 lo)).take (HT.sIx xs.length xs.length hi - HT.sIx xs.length 0 lo)

/-! ### the syntax -/
/-- a target: a name's slot, a tuple of targets -/
inductive Tg where
  | nm (i : Nat)
  | tp (ts : List Tg)
mutual
inductive Ex where
  | cst (d : D)
  | var (i : Nat)
  | glo (x : String)
  | bin (o : Bop) (a b : Ex)
  | neg (a : Ex)
  | not (a : Ex)
  | cmp (o : Cop) (a b : Ex)
  | chain (o o' : Cop) (a b c : Ex)
  | and (a b : Ex)
  | or (a b : Ex)
  | ite (c a b : Ex)
  | tup (es : List Ex)
  | lst (es : List Ex)
  | dic0
  | idx (a b : Ex)
  | slc (a : Ex) (lo hi : Option Ex)
  | rev (a : Ex)
  | sls (a lo st : Ex)
  | mov (i : Nat)
  | ine (i k : Nat)
  | ipop (i k : Nat)
  | call (f : String) (es : List Ex)
  | tcl (f : String) (es : List Ex)
  | callk (f : String) (es : List Ex) (ks : List (String × Ex))
  | blt (f : String) (es : List Ex)
  | isi (a : Ex) (cs : List String)
  | comp (x : Ex) (t : Tg) (s : Src) (c : Option Ex) (own : List Nat)
  | meth (m : String) (a : Ex) (es : List Ex)
  | valof (a : Ex)
  | ise (a : Ex) (c : String)
  | nev
/-- what a loop walks -/
inductive Src where
  | ov (a : Ex)
  | rng (a : Ex)
  | rng2 (a b : Ex)
  | enu (a : Ex)
  | zip (a b : Ex)
end
inductive Sm where
  | asg (t : Tg) (x : Ex)
  | par (is : List Nat) (xs : List Ex)
  | setI (b i x : Ex)
  | aug (i : Nat) (x : Ex)
  | augI (b i x : Ex)
  | ite (c : Ex) (a b : List Sm)
  | whl (c : Ex) (b : List Sm)
  | for_ (t : Tg) (s : Src) (b : List Sm)
  | ret (x : Ex)
  | retn
  | exp (x : Ex)
  | brk
  | cnt
  | pas
  | rai (c : String) (x : Ex)
  | kee (b : List Sm) (c : String) (i j : Nat)
  | nev
structure Fn where
  ps : List String
  n : Nat
  body : List Sm

/-- what a call gives: a value or a new list, and what became of the lists handed in -/
inductive CR where
  | ok (r : Rv) (ps : List Pst)
  | ex (c : String) (d : D) (ps : List Pst)
  | bad
/-- the surroundings: the defs, their parameters, the module's constants, the classes of errors -/
structure Ct where
  call : String → List Sl → List Pst → CR
  pars : String → Option (List String)
  glo : String → Option D
  sub : String → String → Bool

/-! ### targets -/
def Sl.ofRv (e : Env) (r : Rv) : R Sl :=
  match r with
  | .val d => .ok (.val d) e
  | .fresh ds => .ok (.own ds) e
  | .loc l => (e.asVal (.loc l)).bind fun d e => .ok (.val d) e
mutual
def bindD : Tg → D → Env → Option Env
  | .nm i, d, e => if i < e.sl.length then some ⟨e.sl.set i (.val d), e.ps⟩ else none
  | .tp ts, .tup ds, e => bindDs ts ds e
  | .tp _, _, _ => none
def bindDs : List Tg → List D → Env → Option Env
  | [], [], e => some e
  | t :: ts, d :: ds, e => match bindD t d e with
    | some e => bindDs ts ds e
    | none => none
  | _, _, _ => none
end
def bindT (t : Tg) (r : Rv) (e : Env) : R Unit :=
  match t with
  | .nm i => (Sl.ofRv e r).bind fun s e => if i < e.sl.length then .ok () ⟨e.sl.set i s, e.ps⟩ else .bad
  | .tp ts => (e.asVal r).bind fun d e => match bindD (.tp ts) d e with
    | some e => .ok () e
    | none => .bad

/-! ### calls -/
/-- the arguments' slots, the lists handed in (beginning with the k-th), whence they came -/
def mkArgs (e : Env) : List Rv → Nat → Option (List Sl × List Pst × List (Nat × Loc))
  | [], _ => some ([], [], [])
  | .val d :: rs, k => match mkArgs e rs k with
    | some (ss, ps, ls) => some (.val d :: ss, ps, ls)
    | none => none
  | .fresh ds :: rs, k => match mkArgs e rs (k + 1) with
    | some (ss, ps, ls) => some (.lnk k :: ss, .own ds :: ps, ls)
    | none => none
  | .loc l :: rs, k => match e.at l with
    | some (.frz ds) => match mkArgs e rs k with
      | some (ss, ps, ls) => some (.val (.lst ds) :: ss, ps, ls)
      | none => none
    | some p => match mkArgs e rs (k + 1) with
      | some (ss, ps, ls) => some (.lnk k :: ss, p :: ps, (k, l) :: ls)
      | none => none
    | none => none
def locsApart : List (Nat × Loc) → Bool
  | [] => true
  | (_, l) :: r => decide (∀ q ∈ r, q.2 ≠ l) && locsApart r
/-- the lists come back; one that is only read stays so -/
def backOk (old new : Pst) : Bool :=
  match new, old with
  | .lea _, .lea _ => true
  | .lea _, _ => false
  | _, .lea _ => false
  | _, _ => true
def putBack (e : Env) (ps : List Pst) : List (Nat × Loc) → Option Env
  | [] => some e
  | (k, l) :: r => match ps[k]?, e.at l with
    | some p, some p0 => if backOk p0 p then putBack (e.put l p) ps r else none
    | _, _ => none
def doCall (C : Ct) (f : String) (rs : List Rv) (e : Env) : R Rv :=
  match mkArgs e rs 0 with
  | some (ss, ps, ls) => if locsApart ls then
      match C.call f ss ps with
      | .ok (.loc _) _ => .bad
      | .ok r ps' => match putBack e ps' ls with
        | some e => .ok r e
        | none => .bad
      | .ex c d ps' => match putBack e ps' ls with
        | some e => .ex c d e
        | none => .bad
      | .bad => .bad
    else .bad
  | none => .bad
/-- the keywords' places in the parameters' order -/
def kwPerm (ps ks : List String) (n : Nat) : Option (List Nat) :=
  if ps.length = n + ks.length ∧ ks.Nodup ∧ ∀ k ∈ ks, k ∈ ps.drop n then some ((ps.drop n).map fun p => ks.idxOf p) else none
def Rv.old : Rv → Bool
  | .fresh _ => false
  | _ => true
def kwRvs (ps ks : List String) (rs ws : List Rv) : Option (List Rv) :=
  match kwPerm ps ks rs.length with
  | some js => if ws.length = ks.length ∧ ws.all Rv.old = true ∧ ∀ j ∈ js, j < ks.length then some (rs ++ js.map fun j => ws.getD j (.val .non)) else none
  | none => none

/-! ### builtins, methods, isinstance -/
def allBl : List D → Option (List Bool)
  | [] => some []
  | .bl b :: ds => match allBl ds with | some bs => some (b :: bs) | none => none
  | _ => none
def allInt : List D → Option (List Int)
  | [] => some []
  | .int b :: ds => match allInt ds with | some bs => some (b :: bs) | none => none
  | _ => none
def maxL : Int → List Int → Int
  | n, [] => n
  | n, m :: ns => maxL (max n m) ns
def minL : Int → List Int → Int
  | n, [] => n
  | n, m :: ns => minL (min n m) ns
def lcmOk (i j : Int) : Bool := decide (i.natAbs < 2 ^ 4000) && decide (j.natAbs < 2 ^ 4000)
def blt1 (f : String) (d : D) (e : Env) : R Rv :=
  match f, d with
  | "len", .tup ds => .ok (.val (.int ds.length)) e
  | "len", .lst ds => .ok (.val (.int ds.length)) e
  | "len", .klst ds => .ok (.val (.int ds.length)) e
  | "list", .klst ds => .ok (.fresh ds) e
  | "len", .str x => if x.length ≤ LIM then .ok (.val (.int x.length)) e else .bad
  | "abs", .int i => .ok (.val (.int (if i < 0 then -i else i))) e
  | "int", .int i => .ok (.val (.int i)) e
  | "int", .bl b => .ok (.val (.int (if b then 1 else 0))) e
  | "tuple", .tup ds => .ok (.val (.tup ds)) e
  | "tuple", .lst ds => .ok (.val (.tup ds)) e
  | "list", .tup ds => .ok (.fresh ds) e
  | "list", .lst ds => .ok (.fresh ds) e
  | "all", .lst ds => match allBl ds with | some bs => .ok (.val (.bl (bs.all id))) e | none => .bad
  | "any", .lst ds => match allBl ds with | some bs => .ok (.val (.bl (bs.any id))) e | none => .bad
  | "sum", .lst ds => match allInt ds with | some ns => .ok (.val (.int ns.sum)) e | none => .bad
  | "max", .lst ds => match allInt ds with | some (n :: ns) => .ok (.val (.int (maxL n ns))) e | _ => .bad
  | "min", .lst ds => match allInt ds with | some (n :: ns) => .ok (.val (.int (minL n ns))) e | _ => .bad
  | _, _ => .bad
def blt2 (f : String) (x y : D) (e : Env) : R Rv :=
  match f, x, y with
  | "min", .int i, .int j => .ok (.val (.int (if j < i then j else i))) e
  | "max", .int i, .int j => .ok (.val (.int (if j > i then j else i))) e
  | "gcd", .int i, .int j => .ok (.val (.int (Int.gcd i j))) e
  | "lcm", .int i, .int j => if lcmOk i j then .ok (.val (.int (Nat.lcm i.natAbs j.natAbs : Nat))) e else .bad
  | _, _, _ => .bad
def opBlt (f : String) (rs : List Rv) (e : Env) : R Rv :=
  match rs with
  | [x] => (e.peek x).bind fun d e => blt1 f d e
  | [x, y] => (e.asVal x).bind fun d e => (e.asVal y).bind fun d' e => blt2 f d d' e
  | _ => .bad
def isOne (C : Ct) (d : D) (c : String) : Option Bool :=
  match d with
  | .exc c' _ => none
  | .klst _ => none
  | _ => match c with
    | "int" => some (match d with | .int _ => true | .bl _ => true | _ => false)
    | "bool" => some (match d with | .bl _ => true | _ => false)
    | "str" => some (match d with | .str _ => true | _ => false)
    | "tuple" => some (match d with | .tup _ => true | _ => false)
    | "list" => some (match d with | .lst _ => true | _ => false)
    | _ => none
def isAny (C : Ct) (d : D) : List String → Option Bool
  | [] => some false
  | c :: cs => match isOne C d c with
    | some true => some true
    | some false => isAny C d cs
    | none => none
def Env.isLst (e : Env) : Rv → Bool
  | .loc l => match e.at l with
    | some _ => true
    | none => false
  | _ => false
def opApp (l : Loc) (rs : List Rv) (e : Env) : R Rv :=
  match rs with
  | [r] => (e.item r).bind fun d e => match e.at l with
    | some (.own ds) => if ds.length < LIM then .ok (.val .non) (e.put l (.own (ds ++ [d]))) else .bad
    | _ => .bad
  | _ => .bad
/-- the j-th item goes: as a new list or as a value -/
def takeAt (l : Loc) (ds : List D) (j : Nat) (e : Env) : R Rv :=
  match ds[j]? with
  | some (.olst xs) => .ok (.fresh xs) (e.put l (.own (ds.eraseIdx j)))
  | some d => .ok (.val d) (e.put l (.own (ds.eraseIdx j)))
  | none => .bad
def opPop (l : Loc) (rs : List Rv) (e : Env) : R Rv :=
  match e.at l with
  | some (.own ds) => match rs with
    | [] => takeAt l ds (ds.length - 1) e
    | [.val (.int i)] => if -(2 ^ 63) ≤ i ∧ i < 2 ^ 63 then match seqIndex? i ds.length with
      | some j => takeAt l ds j e
      | none => .bad else .bad
    | _ => .bad
  | _ => .bad
def opMeth (m : String) (x : Rv) (rs : List Rv) (e : Env) : R Rv :=
  match x with
  | .loc l => if m = "append" then opApp l rs e else if m = "pop" then opPop l rs e else .bad
  | _ => .bad
def opSlc (x : D) (lo hi : Option Int) (e : Env) : R Rv :=
  match x with
  | .tup ds => .ok (.val (.tup (cutD ds lo hi))) e
  | .lst ds => .ok (.fresh (cutD ds lo hi)) e
  | _ => .bad

/-- x[i::j] -/
def pickN {α : Type} (xs : List α) (i j : Int) : List α := (sliceRange (sliceBounds (some i) none (some j) xs.length).1 (sliceBounds (some i) none (some j) xs.length).2.1 (sliceBounds (some i) none (some j) xs.length).2.2).filterMap (xs[·]?)
def opStep (d : D) (i j : Int) (e : Env) : R Rv :=
  match d with
  | .klst ds => if 0 < j then .ok (.fresh (pickN ds i j)) e else .bad
  | .lst ds => if 0 < j then .ok (.fresh (pickN ds i j)) e else .bad
  | _ => .bad
/-- a slot's own list goes over -/
def Env.mov (e : Env) (i : Nat) : R Rv :=
  match e.sl[i]? with
  | some (.own ds) => .ok (.fresh ds) ⟨e.sl.set i .no, e.ps⟩
  | _ => e.var i
/-- item k of what stands in slot i, if it is a list of one's own within one -/
def Env.sub (e : Env) (i k : Nat) : Option (Loc × List D × List D) :=
  match e.var i with
  | .ok (.loc l) _ => match e.at l with
    | some (.own ds) => match ds[k]? with
      | some (.olst xs) => some (l, ds, xs)
      | _ => none
    | _ => none
  | _ => none
/-- x[k] != [] -/
def Env.ine (e : Env) (i k : Nat) : R Rv :=
  match e.sub i k with
  | some (_, _, xs) => if (D.lst xs).eqOk then .ok (.val (.bl (!(D.lst xs).eqv (.lst [])))) e else .bad
  | none => ((e.var i).bind fun x e => (opIdx x (.val (.int k)) e).bind fun y e => opCmp .ne y (.fresh []) e).blV
/-- x[k].pop(0) -/
def Env.ipop (e : Env) (i k : Nat) : R Rv :=
  match e.sub i k with
  | some (l, ds, x :: xs) => .ok (.val x) (e.put l (.own (ds.set k (.olst xs))))
  | _ => .bad

/-- all lists of one's own as if they were values -/
def iceS : Sl → Sl
  | .own ds => .val (.lst (ds.map frz1))
  | s => s
def iceP : Pst → Pst
  | .own ds => .frz (ds.map frz1)
  | p => p
def Env.ice (e : Env) : Env := ⟨e.sl.map iceS, e.ps.map iceP⟩
/-- what a call told that was asked so, if it is no object; else as it is -/
def iced (e : Env) (m n : R Rv) : R Rv :=
  match m with
  | .ok (.val d) _ => if isSc d then .ok (.val d) e else n
  | _ => n

/-! ### loops' sources -/
def small62 (j : Int) : Bool := decide (-(2 ^ 62) ≤ j ∧ j < 2 ^ 62)
def intsD (lo : Int) (n : Nat) : List D := (List.range n).map fun i => D.int (lo + (i : Nat))
def enums : List D → Nat → List D
  | [], _ => []
  | d :: ds, k => .tup [.int (k : Nat), d] :: enums ds (k + 1)
def zips : List D → List D → List D
  | x :: xs, y :: ys => .tup [x, y] :: zips xs ys
  | _, _ => []
def itemsOf : D → Option (List D)
  | .tup ds => some ds
  | .lst ds => some ds
  | _ => none
def Env.lease (e : Env) : Rv → R (D × Option Loc)
  | .loc l => match e.at l with
    | some (.own ds) => .ok (.lst (ds.map frz1), some l) (e.put l (.lea (ds.map frz1)))
    | some (.lea ds) => .ok (.lst ds, none) e
    | some (.frz ds) => .ok (.lst ds, none) e
    | none => .bad
  | r => (e.asVal r).bind fun d e => .ok (d, none) e
/-- fz: for good, as a value; else lent for the while of a comprehension -/
def Env.lend (fz : Bool) (e : Env) (r : Rv) : R (D × Option Loc) :=
  if fz then (e.asVal r).bind fun d e => .ok (d, none) e else e.lease r
def Env.unlease (e : Env) : List (Option Loc) → Env
  | [] => e
  | none :: r => e.unlease r
  | some l :: r => match e.at l with
    | some (.lea ds) => (e.put l (.own ds)).unlease r
    | _ => e.unlease r
/-- the block's own slots emptied; put back as they were -/
def wipeS (sl : List Sl) : List Nat → List Sl
  | [] => sl
  | i :: is => (wipeS sl is).set i .no
def backS (old new : List Sl) : List Nat → List Sl
  | [] => new
  | i :: is => (backS old new is).set i (old.getD i .no)
/-- those slots hold no list of one's own -/
def clearS (sl : List Sl) : List Nat → Bool
  | [] => true
  | i :: is => (match sl[i]? with | some (.own _) => false | some (.lea _) => false | some _ => true | none => false) && clearS sl is
def R.noex {α : Type} : R α → R α
  | .ex _ _ _ => .bad
  | r => r
/-- the turns of a comprehension: f binds, tests, gives an item or none -/
def compL (f : D → Env → R (Option D)) : List D → Env → R (List D)
  | [], e => .ok [] e
  | d :: ds, e => (f d e).bind fun o e => (compL f ds e).bind fun r e => .ok (match o with | some y => y :: r | none => r) e
/-- one turn -/
def compF (t : Tg) (c : Env → R Bool) (x : Env → R Rv) (own : List Nat) (d : D) (e : Env) : R (Option D) :=
  match bindD t d e with
  | some e => ((c e).bind fun b e => if b then (x e).bind fun r e => (e.item r).bind fun y e => .ok (some y) ⟨wipeS e.sl own, e.ps⟩ else .ok none ⟨wipeS e.sl own, e.ps⟩).noex
  | none => .bad

/-- isinstance of an error that was kept -/
def isE (sub : String → Bool) (x : Rv) (e : Env) : R Rv := match x with
  | .val (.exc c _) => .ok (.val (.bl (sub c))) e
  | _ => .bad
/-- its value -/
def valE (x : Rv) (e : Env) : R Rv := match x with
  | .val (.exc _ d) => .ok (.val d) e
  | _ => .bad
mutual
def evalE (C : Ct) : Ex → Env → R Rv
  | .cst d, e => .ok (.val d) e
  | .var i, e => e.var i
  | .glo x, e => match C.glo x with
    | some d => .ok (.val d) e
    | none => .bad
  | .bin o a b, e => (evalE C a e).bind fun x e => (evalE C b e).bind fun y e => opBin o x y e
  | .neg a, e => (evalE C a e).bind fun x e => match x with
    | .val (.int i) => .ok (.val (.int (-i))) e
    | _ => .bad
  | .not a, e => ((evalE C a e).bind fun x e => (opTru x e).bind fun b e => .ok (!b) e).blV
  | .cmp o a b, e => ((evalE C a e).bind fun x e => (evalE C b e).bind fun y e => opCmp o x y e).blV
  | .chain o o' a b c, e => ((evalE C a e).bind fun x e => (evalE C b e).bind fun y e => match x, y with
    | .val (.int i), .val (.int j) => match cmpI o i j with
      | some t => if t then (evalE C c e).bind fun z e => opCmp o' (.val (.int j)) z e else .ok false e
      | none => .bad
    | _, _ => .bad).blV
  | .and a b, e => (evalE C a e).bind fun x e => match x with
    | .val (.bl true) => evalE C b e
    | .val (.bl false) => .ok (.val (.bl false)) e
    | _ => .bad
  | .or a b, e => (evalE C a e).bind fun x e => match x with
    | .val (.bl true) => .ok (.val (.bl true)) e
    | .val (.bl false) => evalE C b e
    | _ => .bad
  | .ite c a b, e => (evalT C c e).bind fun t e => if t then evalE C a e else evalE C b e
  | .tup es, e => (evalEs C es e).bind fun rs e => (e.asVals rs).bind fun ds e => if ds.length ≤ LIM then .ok (.val (.tup ds)) e else .bad
  | .lst es, e => (evalEs C es e).bind fun rs e => (e.items rs).bind fun ds e => if ds.length ≤ LIM then .ok (.fresh ds) e else .bad
  | .dic0, e => .ok (.val (.dic [] [])) e
  | .idx a b, e => (evalE C a e).bind fun x e => (evalE C b e).bind fun y e => opIdx x y e
  | .slc a lo hi, e => (evalE C a e).bind fun x e => (evalO C lo e).bind fun l e => (evalO C hi e).bind fun h e => (e.peek x).bind fun d e => opSlc d l h e
  | .rev a, e => (evalE C a e).bind fun x e => (e.peek x).bind fun d e => match d with
    | .tup ds => .ok (.val (.tup ds.reverse)) e
    | .lst ds => .ok (.fresh ds.reverse) e
    | _ => .bad
  | .sls a lo st, e => (evalE C a e).bind fun x e => (evalE C lo e).bind fun y e => match y with
    | .val (.int i) => (evalE C st e).bind fun z e => match z with
      | .val (.int j) => (e.peek x).bind fun d e => opStep d i j e
      | _ => .bad
    | _ => .bad
  | .mov i, e => e.mov i
  | .ine i k, e => e.ine i k
  | .ipop i k, e => e.ipop i k
  | .call f es, e => (evalEs C es e).bind fun rs e => doCall C f rs e
  | .tcl f es, e => iced e ((evalEs C es e.ice).bind fun rs e => doCall C f rs e) ((evalEs C es e).bind fun rs e => doCall C f rs e)
  | .callk f es ks, e => (evalEs C es e).bind fun rs e => (evalKs C ks e).bind fun ws e => match C.pars f with
    | some ps => match kwRvs ps (ks.map (·.1)) rs ws with
      | some us => doCall C f us e
      | none => .bad
    | none => .bad
  | .blt f es, e => (evalEs C es e).bind fun rs e => opBlt f rs e
  | .isi a cs, e => (evalE C a e).bind fun x e => (e.peek x).bind fun d e => match isAny C d cs with
    | some b => .ok (.val (.bl b)) e
    | none => .bad
  | .comp x t s c own, e => (evalS C false s e).bind fun p e => if clearS e.sl own then (compL (compF t (match c with
      | none => fun e => .ok true e
      | some c => fun e => evalT C c e) (fun e => evalE C x e) own) p.1 ⟨wipeS e.sl own, e.ps⟩).bind fun ys e' => if ys.length ≤ LIM then .ok (.fresh ys) (Env.unlease ⟨backS e.sl e'.sl own, e'.ps⟩ p.2) else .bad else .bad
  | .meth m a es, e => (evalE C a e).bind fun x e => if e.isLst x then (evalEs C es e).bind fun rs e => opMeth m x rs e else .bad
  | .valof a, e => (evalE C a e).bind valE
  | .ise a c, e => (evalE C a e).bind (isE fun k => C.sub k c)
  | .nev, _ => .bad
def evalT (C : Ct) : Ex → Env → R Bool
  | .and a b, e => (evalT C a e).bind fun t e => if t then evalT C b e else .ok false e
  | .or a b, e => (evalT C a e).bind fun t e => if t then .ok true e else evalT C b e
  | .not a, e => (evalT C a e).bind fun t e => .ok (!t) e
  | x, e => (evalE C x e).bind fun r e => opTru r e
def evalEs (C : Ct) : List Ex → Env → R (List Rv)
  | [], e => .ok [] e
  | x :: xs, e => (evalE C x e).bind fun r e => (evalEs C xs e).bind fun rs e => .ok (r :: rs) e
def evalKs (C : Ct) : List (String × Ex) → Env → R (List Rv)
  | [], e => .ok [] e
  | (_, x) :: xs, e => (evalE C x e).bind fun r e => (evalKs C xs e).bind fun rs e => .ok (r :: rs) e
def evalO (C : Ct) : Option Ex → Env → R (Option Int)
  | none, e => .ok none e
  | some x, e => (evalE C x e).bind fun r e => match r with
    | .val (.int i) => .ok (some i) e
    | _ => .bad
def evalS (C : Ct) (fz : Bool) : Src → Env → R (List D × List (Option Loc))
  | .ov a, e => (evalE C a e).bind fun x e => (e.lend fz x).bind fun (d, l) e => match itemsOf d with
    | some ds => .ok (ds, [l]) e
    | none => .bad
  | .rng a, e => (evalE C a e).bind fun x e => match x with
    | .val (.int j) => if small62 j then .ok (intsD 0 j.toNat, []) e else .bad
    | _ => .bad
  | .rng2 a b, e => (evalE C a e).bind fun x e => (evalE C b e).bind fun y e => match x, y with
    | .val (.int i), .val (.int j) => if small62 i && small62 j then .ok (intsD i (j - i).toNat, []) e else .bad
    | _, _ => .bad
  | .enu a, e => (evalE C a e).bind fun x e => (e.lend fz x).bind fun (d, l) e => match itemsOf d with
    | some ds => .ok (enums ds 0, [l]) e
    | none => .bad
  | .zip a b, e => (evalE C a e).bind fun x e => (evalE C b e).bind fun y e => (e.lend fz x).bind fun (d, l) e => (e.lend fz y).bind fun (d', l') e => match d, d' with
    | .lst ds, .lst ds' => .ok (zips ds ds', [l, l']) e
    | .tup ds, .tup ds' => .ok (zips ds ds', [l, l']) e
    | _, _ => .bad
end

/-! ### statements -/
inductive SR where
  | nx (e : Env)
  | ret (r : Rv) (e : Env)
  | bk (e : Env)
  | ct (e : Env)
  | ex (c : String) (d : D) (e : Env)
  | bad
def R.st {α : Type} : R α → (α → Env → SR) → SR
  | .ok a e, f => f a e
  | .ex c d e, _ => .ex c d e
  | .bad, _ => .bad
@[simp] theorem R.st_ok {α : Type} (a : α) (e : Env) (f : α → Env → SR) : (R.ok a e).st f = f a e := nr rfl
@[simp] theorem R.st_ex {α : Type} (c : String) (d : D) (e : Env) (f : α → Env → SR) : (R.ex c d e : R α).st f = .ex c d e := nr rfl
@[simp] theorem R.st_bad {α : Type} (f : α → Env → SR) : (R.bad : R α).st f = .bad := nr rfl
def SR.andThen : SR → (Env → SR) → SR
  | .nx e, f => f e
  | r, _ => r
@[simp] theorem SR.andThen_nx (e : Env) (f : Env → SR) : (SR.nx e).andThen f = f e := nr rfl
@[simp] theorem SR.andThen_ret (r : Rv) (e : Env) (f : Env → SR) : (SR.ret r e).andThen f = .ret r e := nr rfl
@[simp] theorem SR.andThen_bk (e : Env) (f : Env → SR) : (SR.bk e).andThen f = .bk e := nr rfl
@[simp] theorem SR.andThen_ct (e : Env) (f : Env → SR) : (SR.ct e).andThen f = .ct e := nr rfl
@[simp] theorem SR.andThen_ex (c : String) (d : D) (e : Env) (f : Env → SR) : (SR.ex c d e).andThen f = .ex c d e := nr rfl
@[simp] theorem SR.andThen_bad (f : Env → SR) : SR.bad.andThen f = .bad := nr rfl
/-- behind a loop's turn -/
def SR.turn : SR → (Env → SR) → SR
  | .nx e, f => f e
  | .ct e, f => f e
  | .bk e, _ => .nx e
  | r, _ => r
@[simp] theorem SR.turn_nx (e : Env) (f : Env → SR) : (SR.nx e).turn f = f e := nr rfl
@[simp] theorem SR.turn_ct (e : Env) (f : Env → SR) : (SR.ct e).turn f = f e := nr rfl
@[simp] theorem SR.turn_bk (e : Env) (f : Env → SR) : (SR.bk e).turn f = .nx e := nr rfl
@[simp] theorem SR.turn_ret (r : Rv) (e : Env) (f : Env → SR) : (SR.ret r e).turn f = .ret r e := nr rfl
@[simp] theorem SR.turn_ex (c : String) (d : D) (e : Env) (f : Env → SR) : (SR.ex c d e).turn f = .ex c d e := nr rfl
@[simp] theorem SR.turn_bad (f : Env → SR) : SR.bad.turn f = .bad := nr rfl

def whileN (c : Env → R Bool) (b : Env → SR) : Nat → Env → SR
  | 0, _ => .bad
  | n + 1, e => (c e).st fun t e => if t then (b e).turn (whileN c b n) else .nx e
def forL (b : D → Env → SR) : List D → Env → SR
  | [], e => .nx e
  | d :: ds, e => (b d e).turn (forL b ds)
open Classical in
noncomputable def whileE (c : Env → R Bool) (b : Env → SR) (e : Env) : SR :=
  if h : ∃ n, whileN c b n e ≠ .bad then whileN c b (Classical.choose h) e else .bad
theorem SR.turn_mono {r : SR} {f g : Env → SR} (h : ∀ e, f e ≠ .bad → g e = f e) (hn : r.turn f ≠ .bad) : r.turn g = r.turn f := by
  cases r with
  | nx e => exact h e hn
  | ct e => exact h e hn
  | _ => rfl
theorem whileN_succ (c : Env → R Bool) (b : Env → SR) (n : Nat) (e : Env) : whileN c b (n + 1) e = (c e).st fun t e => if t then (b e).turn (whileN c b n) else .nx e := rfl
theorem whileN_mono {c : Env → R Bool} {b : Env → SR} : ∀ {n : Nat} {e : Env}, whileN c b n e ≠ .bad → whileN c b (n + 1) e = whileN c b n e
  | 0, e, h => absurd rfl h
  | n + 1, e, h => by
    rw [whileN_succ c b n e] at h
    rw [whileN_succ c b (n + 1) e, whileN_succ c b n e]
    generalize c e = r at h ⊢
    cases r with
    | ok t e' =>
      cases t with
      | true =>
        simp only [R.st_ok, if_true] at h ⊢
        have h' : (b e').turn (whileN c b n) ≠ .bad := h
        show (b e').turn (whileN c b (n + 1)) = (b e').turn (whileN c b n)
        exact SR.turn_mono (fun e q => whileN_mono q) h'
      | false => rfl
    | ex _ _ _ => rfl
    | bad => rfl
theorem whileN_le {c : Env → R Bool} {b : Env → SR} {n m : Nat} {e : Env} (h : whileN c b n e ≠ .bad) (hm : n ≤ m) : whileN c b m e = whileN c b n e := by
  induction m with
  | zero => rw [Nat.le_zero.mp hm]
  | succ m ih =>
    by_cases q : n = m + 1
    · rw [q]
    · have e1 := ih (by omega)
      rw [whileN_mono (by rw [e1]; exact h), e1]
theorem whileE_eq {c : Env → R Bool} {b : Env → SR} {n : Nat} {e : Env} (h : whileN c b n e ≠ .bad) : whileE c b e = whileN c b n e := by
  have hx : ∃ n, whileN c b n e ≠ .bad := ⟨n, h⟩
  unfold whileE
  rw [dif_pos hx]
  have hc := Classical.choose_spec hx
  rcases Nat.le_total n (Classical.choose hx) with q | q
  · exact whileN_le h q
  · exact (whileN_le hc q).symm
theorem whileE_some {c : Env → R Bool} {b : Env → SR} {e : Env} (h : whileE c b e ≠ .bad) : ∃ n, whileN c b n e = whileE c b e := by
  unfold whileE at h ⊢
  split
  · rename_i hx
    exact ⟨_, rfl⟩
  · rename_i hx
    rw [dif_neg hx] at h
    exact absurd rfl h
/-- one turn of a while -/
theorem whileE_unf {c : Env → R Bool} {b : Env → SR} {e : Env} {r : SR} (hr : r ≠ .bad) (h : ((c e).st fun t e => if t then (b e).turn (whileE c b) else .nx e) = r) : whileE c b e = r := by
  generalize hc : c e = q at h
  cases q with
  | bad => exact absurd h.symm hr
  | ex x d e' =>
    have e1 : whileN c b 1 e = .ex x d e' := by rw [whileN, hc]; rfl
    rw [whileE_eq (n := 1) (by rw [e1]; exact fun z => SR.noConfusion z), e1]
    exact h
  | ok t e' =>
    cases t with
    | false =>
      have e1 : whileN c b 1 e = .nx e' := by rw [whileN, hc]; rfl
      rw [whileE_eq (n := 1) (by rw [e1]; exact fun z => SR.noConfusion z), e1]
      exact h
    | true =>
      have h' : (b e').turn (whileE c b) = r := h
      have key : ∃ n, (b e').turn (whileN c b n) = r := by
        generalize b e' = s at h'
        cases s with
        | nx e2 =>
          have h2 : whileE c b e2 = r := h'
          obtain ⟨n, hn⟩ := whileE_some (c := c) (b := b) (e := e2) (by rw [h2]; exact hr)
          exact ⟨n, hn.trans h2⟩
        | ct e2 =>
          have h2 : whileE c b e2 = r := h'
          obtain ⟨n, hn⟩ := whileE_some (c := c) (b := b) (e := e2) (by rw [h2]; exact hr)
          exact ⟨n, hn.trans h2⟩
        | ret _ _ => exact ⟨0, h'⟩
        | bk _ => exact ⟨0, h'⟩
        | ex _ _ _ => exact ⟨0, h'⟩
        | bad => exact absurd h'.symm hr
      obtain ⟨n, hn⟩ := key
      have e1 : whileN c b (n + 1) e = r := by rw [whileN, hc]; exact hn
      rw [whileE_eq (n := n + 1) (by rw [e1]; exact hr), e1]

/-- b[i] = d -/
def setIx (x y : Rv) (d : D) (e : Env) : R Unit :=
  match x, y with
  | .loc l, .val (.int i) => match e.at l with
    | some (.own ds) => match L2.ixN ds.length i with
      | some j => .ok () (e.put l (.own (ds.set j d)))
      | none => .bad
    | _ => .bad
  | _, _ => .bad
def bindPar : List Nat → List Rv → Env → R Unit
  | [], [], e => .ok () e
  | i :: is, r :: rs, e => (Sl.ofRv e r).bind fun s e => (bindPar is rs e).bind fun _ e => if i < e.sl.length then .ok () ⟨e.sl.set i s, e.ps⟩ else .bad
  | _, _, _ => .bad
/-- try: .. except c as x: y = x, over what the body came to; x in slot i, y in slot j -/
def tryE (sub : String → Bool) (i j : Nat) (m : SR) : SR := match m with
  | .ex c d e => if sub c && decide (i < e.sl.length) && decide (j < e.sl.length) then .nx ⟨((e.sl.set i (.val (.exc c d))).set j (.val (.exc c d))).set i .no, e.ps⟩ else .bad
  | r => r
mutual
noncomputable def execS (C : Ct) : Sm → Env → SR
  | .asg t x, e => (evalE C x e).st fun r e => (bindT t r e).st fun _ e => .nx e
  | .par is xs, e => (evalEs C xs e).st fun rs e => (bindPar is rs e).st fun _ e => .nx e
  | .setI b i x, e => (evalE C x e).st fun r e => (evalE C b e).st fun y e => (evalE C i e).st fun z e => (e.item r).st fun d e => (setIx y z d e).st fun _ e => .nx e
  | .aug i x, e => (e.var i).st fun y e => match y with
    | .val (.int a) => (evalE C x e).st fun z e => match z with
      | .val (.int b) => if i < e.sl.length then .nx ⟨e.sl.set i (.val (.int (a + b))), e.ps⟩ else .bad
      | _ => .bad
    | _ => .bad
  | .augI b i x, e => (evalE C b e).st fun y e => (evalE C i e).st fun z e => (opIdx y z e).st fun u e => match u with
    | .val (.int a) => (evalE C x e).st fun v e => match v with
      | .val (.int c) => (setIx y z (.int (a + c)) e).st fun _ e => .nx e
      | _ => .bad
    | _ => .bad
  | .ite c a b, e => (evalT C c e).st fun t e => if t then execSs C a e else execSs C b e
  | .whl c b, e => whileE (fun e => evalT C c e) (fun e => execSs C b e) e
  | .for_ t s b, e => (evalS C true s e).st fun (ds, ls) e => forL (fun d e => match bindD t d e with
      | some e => execSs C b e
      | none => .bad) ds e
  | .ret x, e => (evalE C x e).st fun r e => .ret r e
  | .retn, e => .ret (.val .non) e
  | .exp x, e => (evalE C x e).st fun _ e => .nx e
  | .brk, e => .bk e
  | .cnt, e => .ct e
  | .pas, e => .nx e
  | .rai c x, e => (evalE C x e).st fun r e => (e.asVal r).st fun d e => .ex c d e
  | .kee b c i j, e => tryE (fun k => C.sub k c) i j (execSs C b e)
  | .nev, _ => .bad
noncomputable def execSs (C : Ct) : List Sm → Env → SR
  | [], e => .nx e
  | s :: ss, e => (execS C s e).andThen (execSs C ss)
end

/-! ### defs -/
def finish : SR → CR
  | .ret (.val d) e => .ok (.val d) e.ps
  | .ret (.fresh ds) e => .ok (.fresh ds) e.ps
  | .ret (.loc (.s i)) e => match e.at (.s i) with
    | some (.own ds) => .ok (.fresh ds) e.ps
    | some (.frz ds) => .ok (.val (.lst ds)) e.ps
    | _ => .bad
  | .ret (.loc (.p k)) e => match e.asVal (.loc (.p k)) with
    | .ok d e => .ok (.val d) e.ps
    | _ => .bad
  | .nx e => .ok (.val .non) e.ps
  | .ex c d e => .ex c d e.ps
  | _ => .bad
structure Tb where
  fns : String → Option Fn
  glo : String → Option D
  sub : String → String → Bool
noncomputable def callN (T : Tb) : Nat → String → List Sl → List Pst → CR
  | 0, _, _, _ => .bad
  | n + 1, f, ss, ps => match T.fns f with
    | some F => if ss.length = F.ps.length ∧ F.ps.length ≤ F.n then
        finish (execSs ⟨callN T n, fun f => (T.fns f).map (·.ps), T.glo, T.sub⟩ F.body ⟨ss ++ List.replicate (F.n - ss.length) .no, ps⟩)
      else .bad
    | none => .bad
noncomputable abbrev Tb.ct (T : Tb) (n : Nat) : Ct := ⟨callN T n, fun f => (T.fns f).map (·.ps), T.glo, T.sub⟩
end Fp
/-! FpRep: how data lies in the abstract heap: what never changes (F), what a def's slots have alone (fp). -/
namespace Fp
open PySem L2

structure Se where
  K : PySem.W.Frag
  cl : String → Option Addr
  pa : List Addr

/-- an error that was caught, kept as a value -/
def excH (C dx a : Addr) : HO := .ext fun h => ∃ (oe : Obj) (vs : Array Value), h.get? a = some oe ∧ Zc (.ref C) (some dx) oe ∧ oe.data = .fields vs

mutual
def Dat (S : Se) (F : Hp) : D → V → Prop
  | .non, v => v = .non
  | .bl b, v => v = .bl b
  | .int i, v => v = .int i
  | .str x, v => v = .str x
  | .tup ds, v => ∃ a vs, v = .ref a ∧ SqT S.K F a vs ∧ Dats S F ds vs
  | .lst ds, v => ∃ a vs, v = .ref a ∧ L2.Rd F a (.lst vs) ∧ Dats S F ds vs
  | .olst _, _ => False
  | .dic ks ws, v => ∃ a, v = .ref a ∧ ks = [] ∧ ws = [] ∧ F a = some (.dK [])
  | .exc c d, v => ∃ a C dx w, v = .ref a ∧ S.cl c = some C ∧ F a = some (excH C dx a) ∧ F dx = some (.xd [(("value" : Str), w)]) ∧ Dat S F d w
  | .klst ds, v => ∃ a vs, v = .ref a ∧ SqL S.K F a vs ∧ Dats S F ds vs
def Dats (S : Se) (F : Hp) : List D → List V → Prop
  | [], [] => True
  | d :: ds, v :: vs => Dat S F d v ∧ Dats S F ds vs
  | _, _ => False
end
section
variable {S : Se} {F F' H H' : Hp}
theorem Same.seqT {K : PySem.W.Frag} {a : Addr} {xs : List V} (e : Same H H') (h : SqT K H a xs) : SqT K H' a xs := by
  rcases h with (h | ⟨o, h⟩) | h
  · exact .inl (.inl (e _ _ h))
  · exact .inl (.inr ⟨o, e _ _ h⟩)
  · exact .inr h
theorem Same.sql {K : PySem.W.Frag} {a : Addr} {xs : List V} (e : Same H H') (h : SqL K H a xs) : SqL K H' a xs := by
  rcases h with (h | ⟨o, h⟩) | h
  · exact .inl (.inl (e _ _ h))
  · exact .inl (.inr ⟨o, e _ _ h⟩)
  · exact .inr h
theorem rdSame {a : Addr} {u : HO} (e : Same H H') (h : L2.Rd H a u) : L2.Rd H' a u := h.elim (fun q => .inl (e _ _ q)) fun ⟨o, q⟩ => .inr ⟨o, e _ _ q⟩
mutual
theorem Dat.mono (s : Same F F') : ∀ (d : D) (v : V), Dat S F d v → Dat S F' d v
  | .non, _, h => h
  | .bl _, _, h => h
  | .int _, _, h => h
  | .str _, _, h => h
  | .tup ds, v, h => by
    obtain ⟨a, vs, e, q, r⟩ := h
    exact ⟨a, vs, e, Same.seqT s q, Dats.mono s ds vs r⟩
  | .lst ds, v, h => by
    obtain ⟨a, vs, e, q, r⟩ := h
    exact ⟨a, vs, e, rdSame s q, Dats.mono s ds vs r⟩
  | .olst _, _, h => h
  | .dic _ _, _, h => by
    obtain ⟨a, e, e1, e2, q⟩ := h
    exact ⟨a, e, e1, e2, s _ _ q⟩
  | .exc c d, v, h => by
    obtain ⟨a, C, dx, w, e, ec, q1, q2, r⟩ := h
    exact ⟨a, C, dx, w, e, ec, s _ _ q1, s _ _ q2, Dat.mono s d w r⟩
  | .klst ds, v, h => by
    obtain ⟨a, vs, e, q, r⟩ := h
    exact ⟨a, vs, e, Same.sql s q, Dats.mono s ds vs r⟩
theorem Dats.mono (s : Same F F') : ∀ (ds : List D) (vs : List V), Dats S F ds vs → Dats S F' ds vs
  | [], [], h => h
  | d :: ds, v :: vs, h => ⟨Dat.mono s d v h.1, Dats.mono s ds vs h.2⟩
  | [], _ :: _, h => h
  | _ :: _, [], h => h
end
theorem Dats.nil_inv {vs : List V} (h : Dats S F [] vs) : vs = [] := by
  cases vs with
  | nil => rfl
  | cons _ _ => exact h.elim
theorem Dats.cons_inv {d : D} {ds : List D} {vs : List V} (h : Dats S F (d :: ds) vs) : ∃ v ws, vs = v :: ws ∧ Dat S F d v ∧ Dats S F ds ws := by
  cases vs with
  | nil => exact h.elim
  | cons v ws => exact ⟨v, ws, rfl, h.1, h.2⟩
theorem Dats.len : ∀ {ds : List D} {vs : List V}, Dats S F ds vs → ds.length = vs.length
  | [], vs, h => by rw [h.nil_inv]; rfl
  | d :: ds, vs, h => by
    obtain ⟨v, ws, rfl, _, r⟩ := h.cons_inv
    simp [r.len]
theorem Dats.get : ∀ {ds : List D} {vs : List V} {i : Nat} {d : D}, Dats S F ds vs → ds[i]? = some d → ∃ v, vs[i]? = some v ∧ Dat S F d v
  | [], _, _, _, _, e => by simp at e
  | x :: ds, vs, 0, d, h, e => by
    obtain ⟨v, ws, rfl, q, r⟩ := h.cons_inv
    simp at e
    subst e
    exact ⟨v, rfl, q⟩
  | x :: ds, vs, i + 1, d, h, e => by
    obtain ⟨v, ws, rfl, q, r⟩ := h.cons_inv
    simp at e
    obtain ⟨u, e1, r1⟩ := Dats.get (i := i) r e
    exact ⟨u, by simpa using e1, r1⟩
theorem Dats.app : ∀ {ds es : List D} {vs ws : List V}, Dats S F ds vs → Dats S F es ws → Dats S F (ds ++ es) (vs ++ ws)
  | [], es, vs, ws, h, q => by rw [h.nil_inv]; exact q
  | d :: ds, es, vs, ws, h, q => by
    obtain ⟨v, us, rfl, r, t⟩ := h.cons_inv
    exact ⟨r, t.app q⟩
theorem Dats.dropL : ∀ {ds : List D} {vs : List V} (n : Nat), Dats S F ds vs → Dats S F (ds.drop n) (vs.drop n)
  | _, _, 0, h => h
  | [], vs, n + 1, h => by rw [h.nil_inv]; simp; trivial
  | d :: ds, vs, n + 1, h => by
    obtain ⟨v, us, rfl, r, t⟩ := h.cons_inv
    exact t.dropL n
theorem Dats.takeL : ∀ {ds : List D} {vs : List V} (n : Nat), Dats S F ds vs → Dats S F (ds.take n) (vs.take n)
  | _, _, 0, h => by simp; trivial
  | [], vs, n + 1, h => by rw [h.nil_inv]; simp; trivial
  | d :: ds, vs, n + 1, h => by
    obtain ⟨v, us, rfl, r, t⟩ := h.cons_inv
    exact ⟨r, t.takeL n⟩
theorem Dats.cut {ds : List D} {vs : List V} (lo hi : Option Int) (h : Dats S F ds vs) : Dats S F (cutD ds lo hi) (cutV vs lo hi) := by
  unfold cutD cutV
  rw [h.len]
  exact (h.dropL _).takeL _
theorem Dats.rev : ∀ {ds : List D} {vs : List V}, Dats S F ds vs → Dats S F ds.reverse vs.reverse
  | [], vs, h => by rw [h.nil_inv]; trivial
  | d :: ds, vs, h => by
    obtain ⟨v, us, rfl, r, t⟩ := h.cons_inv
    rw [List.reverse_cons, List.reverse_cons]
    exact t.rev.app ⟨r, trivial⟩
theorem Dats.rep {ds : List D} {vs : List V} (h : Dats S F ds vs) : ∀ n : Nat, Dats S F (List.replicate n ds).flatten (List.replicate n vs).flatten
  | 0 => trivial
  | n + 1 => by
    rw [List.replicate_succ, List.replicate_succ, List.flatten_cons, List.flatten_cons]
    exact h.app (h.rep n)
theorem Dats.setI : ∀ {ds : List D} {vs : List V} {d : D} {v : V} (i : Nat), Dats S F ds vs → Dat S F d v → Dats S F (ds.set i d) (vs.set i v)
  | [], vs, _, _, _, h, _ => by rw [h.nil_inv]; simp; trivial
  | x :: ds, vs, d, v, 0, h, q => by
    obtain ⟨u, us, rfl, r, t⟩ := h.cons_inv
    exact ⟨q, t⟩
  | x :: ds, vs, d, v, i + 1, h, q => by
    obtain ⟨u, us, rfl, r, t⟩ := h.cons_inv
    exact ⟨r, t.setI i q⟩
theorem Dat.flat {d : D} {v : V} (h : Dat S F d v) : frz1 d = d := by
  cases d <;> first | rfl | exact h.elim
theorem Dats.flat : ∀ {ds : List D} {vs : List V}, Dats S F ds vs → ds.map frz1 = ds
  | [], _, _ => rfl
  | d :: ds, vs, h => by
    obtain ⟨u, us, rfl, r, t⟩ := h.cons_inv
    rw [List.map_cons, r.flat, t.flat]
theorem Dats.at {ds : List D} {vs : List V} {i : Int} {d : D} (h : Dats S F ds vs) (e : atI ds i = some d) : ∃ v, atI vs i = some v ∧ Dat S F d v := by
  unfold atI at e ⊢
  rw [← h.len]
  cases q : ixN ds.length i with
  | none => rw [q] at e; simp at e
  | some j =>
    rw [q] at e
    exact h.get (by simpa using e)
end

/-! ### lists of one's own -/
/-- an item of such a list; fp: the addresses that are had alone -/
def OwnI (S : Se) (F H : Hp) (d : D) (v : V) (fp : List Addr) : Prop :=
  match d with
  | .olst ds => ∃ a vs, v = .ref a ∧ fp = [a] ∧ H a = some (.lst vs) ∧ Dats S F ds vs
  | d => fp = [] ∧ Dat S F d v
def OwnIs (S : Se) (F H : Hp) : List D → List V → List Addr → Prop
  | [], vs, fp => vs = [] ∧ fp = []
  | d :: ds, vs, fp => ∃ v ws f g, vs = v :: ws ∧ fp = f ++ g ∧ OwnI S F H d v f ∧ OwnIs S F H ds ws g
def Own (S : Se) (F H : Hp) (a : Addr) (ds : List D) (fp : List Addr) : Prop := ∃ vs g, H a = some (.lst vs) ∧ fp = a :: g ∧ OwnIs S F H ds vs g
section
variable {S : Se} {F F' H H' : Hp}
theorem OwnI.mono {d : D} {v : V} {fp : List Addr} (s : Same F F') (k : ∀ x ∈ fp, H' x = H x) (h : OwnI S F H d v fp) : OwnI S F' H' d v fp := by
  cases d with
  | olst ds =>
    obtain ⟨a, vs, e, e1, q, r⟩ := h
    subst e1
    exact ⟨a, vs, e, rfl, by rw [k a (by simp)]; exact q, r.mono s⟩
  | _ => exact ⟨h.1, Dat.mono s _ _ h.2⟩
theorem OwnIs.mono (s : Same F F') : ∀ {ds : List D} {vs : List V} {fp : List Addr}, (∀ x ∈ fp, H' x = H x) → OwnIs S F H ds vs fp → OwnIs S F' H' ds vs fp
  | [], _, _, _, h => h
  | d :: ds, vs, fp, k, h => by
    obtain ⟨v, ws, f, g, e, rfl, q, r⟩ := h
    exact ⟨v, ws, f, g, e, rfl, q.mono s fun x hx => k x (List.mem_append_left _ hx), OwnIs.mono s (fun x hx => k x (List.mem_append_right _ hx)) r⟩
theorem Own.mono {a : Addr} {ds : List D} {fp : List Addr} (s : Same F F') (k : ∀ x ∈ fp, H' x = H x) (h : Own S F H a ds fp) : Own S F' H' a ds fp := by
  obtain ⟨vs, g, q, rfl, r⟩ := h
  exact ⟨vs, g, by rw [k a (by simp)]; exact q, rfl, r.mono s fun x hx => k x (by simp [hx])⟩
theorem OwnIs.len : ∀ {ds : List D} {vs : List V} {fp : List Addr}, OwnIs S F H ds vs fp → ds.length = vs.length
  | [], _, _, h => by rw [h.1]; rfl
  | d :: ds, vs, fp, h => by
    obtain ⟨v, ws, f, g, rfl, _, _, r⟩ := h
    simp [r.len]
theorem OwnIs.there : ∀ {ds : List D} {vs : List V} {fp : List Addr}, OwnIs S F H ds vs fp → ∀ x ∈ fp, ∃ us, H x = some (.lst us)
  | [], _, _, h, x, hx => by rw [h.2] at hx; simp at hx
  | d :: ds, vs, fp, h, x, hx => by
    obtain ⟨v, ws, f, g, _, rfl, q, r⟩ := h
    rcases List.mem_append.mp hx with hx | hx
    · cases d with
      | olst es =>
        obtain ⟨a, us, _, rfl, q, _⟩ := q
        obtain rfl : x = a := by simpa using hx
        exact ⟨us, q⟩
      | _ => rw [q.1] at hx; simp at hx
    · exact r.there x hx
theorem Own.there {a : Addr} {ds : List D} {fp : List Addr} (h : Own S F H a ds fp) : ∀ x ∈ fp, ∃ us, H x = some (.lst us) := by
  obtain ⟨vs, g, q, rfl, r⟩ := h
  intro x hx
  rcases List.mem_cons.mp hx with rfl | hx
  · exact ⟨vs, q⟩
  · exact r.there x hx
theorem OwnIs.of_dats : ∀ {ds : List D} {vs : List V}, Dats S F ds vs → OwnIs S F H ds vs []
  | [], vs, h => ⟨h.nil_inv, rfl⟩
  | d :: ds, vs, h => by
    obtain ⟨u, us, rfl, r, t⟩ := h.cons_inv
    refine ⟨u, us, [], [], rfl, rfl, ?_, OwnIs.of_dats t⟩
    cases d <;> first | exact ⟨rfl, r⟩ | exact r.elim
theorem Own.of_dats {a : Addr} {ds : List D} {vs : List V} (e : H a = some (.lst vs)) (h : Dats S F ds vs) : Own S F H a ds [a] := ⟨vs, [], e, rfl, .of_dats h⟩
theorem OwnIs.app : ∀ {ds es : List D} {vs ws : List V} {f g : List Addr}, OwnIs S F H ds vs f → OwnIs S F H es ws g → OwnIs S F H (ds ++ es) (vs ++ ws) (f ++ g)
  | [], es, vs, ws, f, g, h, q => by rw [h.1, h.2]; exact q
  | d :: ds, es, vs, ws, f, g, h, q => by
    obtain ⟨v, us, f1, g1, rfl, rfl, t, r⟩ := h
    exact ⟨v, us ++ ws, f1, g1 ++ g, rfl, by rw [List.append_assoc], t, r.app q⟩
theorem OwnIs.split : ∀ {ds es : List D} {vs : List V} {f : List Addr}, OwnIs S F H (ds ++ es) vs f → ∃ us ws f1 f2, vs = us ++ ws ∧ f = f1 ++ f2 ∧ OwnIs S F H ds us f1 ∧ OwnIs S F H es ws f2
  | [], es, vs, f, h => ⟨[], vs, [], f, rfl, rfl, ⟨rfl, rfl⟩, h⟩
  | d :: ds, es, vs, f, h => by
    obtain ⟨v, us, f1, g1, rfl, rfl, t, r⟩ := h
    obtain ⟨us', ws, a, b, rfl, rfl, r1, r2⟩ := r.split
    exact ⟨v :: us', ws, f1 ++ a, b, rfl, by rw [List.append_assoc], ⟨v, us', f1, a, rfl, rfl, t, r1⟩, r2⟩
/-- the nested lists become values: F grows by what stands at fp -/
def grow (F H : Hp) (A : List Addr) : Hp := fun x => if x ∈ A then H x else F x
theorem grow_nil (F H : Hp) : grow F H [] = F := by funext x; simp [grow]
theorem grow_in {F H : Hp} {A : List Addr} {x : Addr} (h : x ∈ A) : grow F H A x = H x := by simp [grow, h]
theorem grow_out {F H : Hp} {A : List Addr} {x : Addr} (h : x ∉ A) : grow F H A x = F x := by simp [grow, h]
theorem grow_same {A : List Addr} (off : ∀ x ∈ A, F x = none) : Same F (grow F H A) := fun b o e => by
  have : b ∉ A := fun z => by rw [off b z] at e; cases e
  rw [grow_out this]; exact e
theorem grow_sub {A : List Addr} (s : Same F H) : Same (grow F H A) H := fun b o e => by
  by_cases h : b ∈ A
  · rw [grow_in h] at e; exact e
  · rw [grow_out h] at e; exact s b o e
theorem OwnIs.frozen : ∀ {ds : List D} {vs : List V} {fp A : List Addr}, (∀ x ∈ fp, x ∈ A) → (∀ x ∈ A, F x = none) → OwnIs S F H ds vs fp → Dats S (grow F H A) (ds.map frz1) vs
  | [], vs, fp, A, _, _, h => by rw [h.1]; trivial
  | d :: ds, vs, fp, A, hA, off, h => by
    obtain ⟨v, us, f, g, rfl, rfl, t, r⟩ := h
    refine ⟨?_, r.frozen (fun x hx => hA x (List.mem_append_right _ hx)) off⟩
    cases d with
    | olst es =>
      obtain ⟨a, ws, rfl, rfl, q, w⟩ := t
      refine ⟨a, ws, rfl, .inl ?_, w.mono (grow_same off)⟩
      rw [grow_in (hA a (by simp))]; exact q
    | _ => exact Dat.mono (grow_same off) _ _ t.2
theorem Own.frozen {a : Addr} {ds : List D} {fp A : List Addr} (hA : ∀ x ∈ fp, x ∈ A) (off : ∀ x ∈ A, F x = none) (h : Own S F H a ds fp) : Dat S (grow F H A) (.lst (ds.map frz1)) (.ref a) := by
  obtain ⟨vs, g, q, rfl, r⟩ := h
  refine ⟨a, vs, rfl, .inl ?_, r.frozen (fun x hx => hA x (by simp [hx])) off⟩
  rw [grow_in (hA a (by simp))]; exact q
theorem OwnIs.get : ∀ {ds : List D} {vs : List V} {fp : List Addr} {i : Nat} {d : D}, OwnIs S F H ds vs fp → ds[i]? = some d → d.isO = false → ∃ v, vs[i]? = some v ∧ Dat S F d v
  | [], _, _, _, _, _, e, _ => by simp at e
  | x :: ds, vs, fp, 0, d, h, e, ho => by
    obtain ⟨v, us, f, g, rfl, rfl, t, r⟩ := h
    simp at e
    subst e
    refine ⟨v, rfl, ?_⟩
    cases x <;> first | exact t.2 | cases ho
  | x :: ds, vs, fp, i + 1, d, h, e, ho => by
    obtain ⟨v, us, f, g, rfl, rfl, t, r⟩ := h
    simp at e
    obtain ⟨u, e1, r1⟩ := OwnIs.get (i := i) r e ho
    exact ⟨u, by simpa using e1, r1⟩
end
end Fp
/-! FpWo: the slots of a def over the abstract heap, and what an evaluation may change. -/
namespace Fp
open PySem L2

/-- F: what never changes; H: all; fp: what a place has alone; lf: what is only read for now, and where -/
structure Wo where
  F : Hp
  H : Hp
  fp : Loc → List Addr
  lf : Addr → Option Loc
def Wo.le (w : Wo) (x : Addr) : Prop := w.lf x ≠ none
def Wo.has (w : Wo) (x : Addr) : Prop := ∃ l, x ∈ w.fp l
def SlRep (S : Se) (w : Wo) (l : Loc) (o : Option V) (s : Sl) (g : List Addr) : Prop :=
  match s with
  | .no => g = []
  | .val d => g = [] ∧ ∃ v, o = some v ∧ Dat S w.F d v
  | .own ds => ∃ a, o = some (.ref a) ∧ Own S w.F w.H a ds g
  | .lea ds => g = [] ∧ ∃ a vs, o = some (.ref a) ∧ w.H a = some (.lst vs) ∧ Dats S w.F ds vs ∧ w.lf a = some l
  | .lnk k => g = [] ∧ ∃ a, o = some (.ref a) ∧ S.pa[k]? = some a
def PsRep (S : Se) (w : Wo) (l : Loc) (a : Addr) (p : Pst) (g : List Addr) : Prop :=
  match p with
  | .own ds => Own S w.F w.H a ds g
  | .lea ds => g = [] ∧ ∃ vs, w.H a = some (.lst vs) ∧ Dats S w.F ds vs ∧ w.lf a = some l
  | .frz ds => g = [] ∧ Dat S w.F (.lst ds) (.ref a)
structure Rep (S : Se) (σ : St) (e : Env) (w : Wo) : Prop where
  sub : Same w.F w.H
  len : e.sl.length = σ.length
  plen : e.ps.length = S.pa.length
  slot : ∀ i s, e.sl[i]? = some s → SlRep S w (.s i) (σ[i]?).join s (w.fp (.s i))
  out : ∀ i, e.sl.length ≤ i → w.fp (.s i) = []
  par : ∀ k p, e.ps[k]? = some p → ∃ a, S.pa[k]? = some a ∧ PsRep S w (.p k) a p (w.fp (.p k))
  pout : ∀ k, e.ps.length ≤ k → w.fp (.p k) = []
  nd : ∀ l, (w.fp l).Nodup
  dis : ∀ l l' a, a ∈ w.fp l → a ∈ w.fp l' → l = l'
  off : ∀ x, w.has x → w.F x = none
  ale : ∀ x, w.has x → ¬ w.le x
  leh : ∀ x, w.le x → ∃ o, w.H x = some o
structure Step (w w' : Wo) : Prop where
  a : Same w.F w'.F
  b : ∀ x o, w.H x = some o → ¬ w.has x → w'.H x = some o
  c : ∀ x o, w.H x = some o → ¬ w.has x → ¬ w'.has x
  d : ∀ x o, w.H x = some o → ¬ w.has x → w.F x = none → w'.F x = none
  e : ∀ x o, w.H x = some o → ∃ o', w'.H x = some o'
  f : ∀ x o, w.H x = some o → ¬ w.has x → ¬ w.le x → ¬ w'.le x
  g : ∀ x l, w.lf x = some l → w'.lf x = some l
theorem Step.refl (w : Wo) : Step w w := ⟨Same.refl _, fun _ _ h _ => h, fun _ _ _ h => h, fun _ _ _ _ h => h, fun _ o h => ⟨o, h⟩, fun _ _ _ _ h => h, fun _ _ h => h⟩
theorem Step.trans {w w1 w2 : Wo} (p : Step w w1) (q : Step w1 w2) : Step w w2 where
  a := p.a.trans q.a
  b := fun x o h n => q.b x o (p.b x o h n) (p.c x o h n)
  c := fun x o h n => q.c x o (p.b x o h n) (p.c x o h n)
  d := fun x o h n z => q.d x o (p.b x o h n) (p.c x o h n) (p.d x o h n z)
  e := fun x o h => by
    obtain ⟨o', h'⟩ := p.e x o h
    exact q.e x o' h'
  f := fun x o h n z => q.f x o (p.b x o h n) (p.c x o h n) (p.f x o h n z)
  g := fun x l z => q.g x l (p.g x l z)
/-- addresses that the evaluation made, or that the slots had -/
def New (w : Wo) (q : List Addr) : Prop := ∀ x ∈ q, ∀ o, w.H x = some o → w.has x
theorem New.step {w w1 : Wo} {q : List Addr} (s : Step w w1) (n : New w1 q) : New w q := fun x hx o h => by
  obtain ⟨o', h'⟩ := s.e x o h
  have t := n x hx o' h'
  by_cases z : w.has x
  · exact z
  · exact absurd t (s.c x o h z)
theorem New.nil (w : Wo) : New w [] := fun _ h => by simp at h

/-- a value that is held meanwhile -/
def RvRep (S : Se) (σ : St) (w : Wo) (v : V) (r : Rv) (q : List Addr) : Prop :=
  match r with
  | .val d => q = [] ∧ Dat S w.F d v
  | .fresh ds => ∃ a, v = .ref a ∧ Own S w.F w.H a ds q ∧ q.Nodup ∧ ∀ x ∈ q, w.F x = none ∧ ¬ w.has x ∧ ¬ w.le x
  | .loc (.s i) => q = [] ∧ σ[i]? = some (some v)
  | .loc (.p k) => q = [] ∧ ∃ a, S.pa[k]? = some a ∧ v = .ref a
section
variable {S : Se} {σ : St} {e e' : Env} {w w' w0 : Wo} {v : V} {r : Rv} {q : List Addr} {l : Loc}
theorem RvRep.there (h : RvRep S σ w v r q) : ∀ x ∈ q, ∃ us, w.H x = some (.lst us) := by
  intro x hx
  match r, h with
  | .val d, h => rw [h.1] at hx; simp at hx
  | .fresh ds, h =>
    obtain ⟨a, _, o, _⟩ := h
    exact o.there x hx
  | .loc (.s i), h => rw [h.1] at hx; simp at hx
  | .loc (.p k), h => rw [h.1] at hx; simp at hx
theorem RvRep.off (h : RvRep S σ w v r q) : ∀ x ∈ q, w.F x = none ∧ ¬ w.has x ∧ ¬ w.le x := by
  intro x hx
  match r, h with
  | .val d, h => rw [h.1] at hx; simp at hx
  | .fresh ds, h =>
    obtain ⟨a, _, o, _, z⟩ := h
    exact z x hx
  | .loc (.s i), h => rw [h.1] at hx; simp at hx
  | .loc (.p k), h => rw [h.1] at hx; simp at hx
theorem RvRep.nd (h : RvRep S σ w v r q) : q.Nodup := by
  match r, h with
  | .val d, h => rw [h.1]; exact List.nodup_nil
  | .fresh ds, h =>
    obtain ⟨a, _, o, n, z⟩ := h
    exact n
  | .loc (.s i), h => rw [h.1]; exact List.nodup_nil
  | .loc (.p k), h => rw [h.1]; exact List.nodup_nil
/-- what is held stands when what it rests on stands -/
theorem RvRep.keep (sF : Same w.F w'.F) (k : ∀ x ∈ q, w'.H x = w.H x ∧ w'.F x = none ∧ ¬ w'.has x ∧ ¬ w'.le x) (h : RvRep S σ w v r q) : RvRep S σ w' v r q := by
  match r, h with
  | .val d, h => exact ⟨h.1, Dat.mono sF _ _ h.2⟩
  | .fresh ds, h =>
    obtain ⟨a, e, o, n, z⟩ := h
    exact ⟨a, e, o.mono sF fun x hx => (k x hx).1, n, fun x hx => (k x hx).2⟩
  | .loc (.s i), h => exact h
  | .loc (.p k), h => exact h
theorem RvRep.step (s : Step w w') (h : RvRep S σ w v r q) : RvRep S σ w' v r q := by
  refine h.keep s.a fun x hx => ?_
  obtain ⟨us, hu⟩ := h.there x hx
  obtain ⟨z1, z2, z3⟩ := h.off x hx
  exact ⟨by rw [s.b x _ hu z2, hu], s.d x _ hu z2 z1, s.c x _ hu z2, s.f x _ hu z2 z3⟩

/-- several held -/
def RvReps (S : Se) (σ : St) (w : Wo) : List V → List Rv → List Addr → Prop
  | vs, [], q => vs = [] ∧ q = []
  | vs, r :: rs, q => ∃ v ws f g, vs = v :: ws ∧ q = f ++ g ∧ RvRep S σ w v r f ∧ RvReps S σ w ws rs g
theorem RvReps.there : ∀ {rs : List Rv} {vs : List V} {q : List Addr}, RvReps S σ w vs rs q → ∀ x ∈ q, ∃ us, w.H x = some (.lst us)
  | [], _, _, h, x, hx => by rw [h.2] at hx; simp at hx
  | r :: rs, vs, q, h, x, hx => by
    obtain ⟨v, ws, f, g, _, rfl, h1, h2⟩ := h
    rcases List.mem_append.mp hx with hx | hx
    · exact h1.there x hx
    · exact h2.there x hx
theorem RvReps.off : ∀ {rs : List Rv} {vs : List V} {q : List Addr}, RvReps S σ w vs rs q → ∀ x ∈ q, w.F x = none ∧ ¬ w.has x ∧ ¬ w.le x
  | [], _, _, h, x, hx => by rw [h.2] at hx; simp at hx
  | r :: rs, vs, q, h, x, hx => by
    obtain ⟨v, ws, f, g, _, rfl, h1, h2⟩ := h
    rcases List.mem_append.mp hx with hx | hx
    · exact h1.off x hx
    · exact h2.off x hx
theorem RvReps.keep (sF : Same w.F w'.F) : ∀ {rs : List Rv} {vs : List V} {q : List Addr}, (∀ x ∈ q, w'.H x = w.H x ∧ w'.F x = none ∧ ¬ w'.has x ∧ ¬ w'.le x) → RvReps S σ w vs rs q → RvReps S σ w' vs rs q
  | [], _, _, _, h => h
  | r :: rs, vs, q, k, h => by
    obtain ⟨v, ws, f, g, e, rfl, h1, h2⟩ := h
    exact ⟨v, ws, f, g, e, rfl, h1.keep sF fun x hx => k x (List.mem_append_left _ hx), RvReps.keep sF (fun x hx => k x (List.mem_append_right _ hx)) h2⟩
theorem RvReps.step (s : Step w w') {rs : List Rv} {vs : List V} (h : RvReps S σ w vs rs q) : RvReps S σ w' vs rs q := by
  refine h.keep s.a fun x hx => ?_
  obtain ⟨us, hu⟩ := h.there x hx
  obtain ⟨z1, z2, z3⟩ := h.off x hx
  exact ⟨by rw [s.b x _ hu z2, hu], s.d x _ hu z2 z1, s.c x _ hu z2, s.f x _ hu z2 z3⟩
theorem RvReps.len : ∀ {rs : List Rv} {vs : List V} {q : List Addr}, RvReps S σ w vs rs q → rs.length = vs.length
  | [], _, _, h => by rw [h.1]; rfl
  | r :: rs, vs, q, h => by
    obtain ⟨v, ws, f, g, rfl, _, _, h2⟩ := h
    simp [h2.len]

/-! ### one place changed -/
def updL (fp : Loc → List Addr) (l : Loc) (g : List Addr) : Loc → List Addr := fun m => if m = l then g else fp m
theorem updL_same {fp : Loc → List Addr} {g : List Addr} : updL fp l g l = g := if_pos rfl
theorem updL_ne {fp : Loc → List Addr} {m : Loc} {g : List Addr} (h : m ≠ l) : updL fp l g m = fp m := if_neg h
/-- how a place holds its list -/
def PlRep (S : Se) (σ : St) (w : Wo) (l : Loc) (p : Pst) (g : List Addr) : Prop :=
  match l with
  | .s i => SlRep S w (.s i) (σ[i]?).join (.ofP p) g
  | .p k => ∃ a, S.pa[k]? = some a ∧ PsRep S w (.p k) a p g
theorem Rep.upd (R : Rep S σ e w) (l : Loc) (p p0 : Pst) {F' H' : Hp} {le' : Addr → Option Loc} {g : List Addr} (hl : e.at l = some p0)
    (sF : Same w.F F') (sub : Same F' H') (hH : ∀ x o, w.H x = some o → x ∉ w.fp l → H' x = some o) (hoff : ∀ x, w.has x → x ∉ w.fp l → F' x = none) (hle : ∀ x m, m ≠ l → w.lf x = some m → le' x = some m)
    (hg : g.Nodup) (hgo : ∀ x ∈ g, F' x = none ∧ le' x = none) (hgd : ∀ x ∈ g, x ∈ w.fp l ∨ ¬ w.has x) (hla : ∀ x, w.has x → x ∉ w.fp l → le' x = none) (hlh : ∀ x, le' x ≠ none → ∃ o, H' x = some o)
    (new : PlRep S σ ⟨F', H', updL w.fp l g, le'⟩ l p g) : Rep S σ (e.put l p) ⟨F', H', updL w.fp l g, le'⟩ := by
  have lea : ∀ x m, m ≠ l → w.lf x = some m → le' x = some m ∧ (∀ o, w.H x = some o → H' x = some o) := fun x m hm hx => ⟨hle x m hm hx, fun o ho => hH x o ho fun z => R.ale x ⟨l, z⟩ (by show w.lf x ≠ none; rw [hx]; exact fun z => nomatch z)⟩
  have other : ∀ m, m ≠ l → ∀ x ∈ w.fp m, x ∉ w.fp l := fun m hm x hx z => hm (R.dis m l x hx z)
  have keepS : ∀ {o : Option V} {s : Sl} {m : Loc}, m ≠ l → SlRep S w m o s (w.fp m) → SlRep S ⟨F', H', updL w.fp l g, le'⟩ m o s (w.fp m) := fun {o s m} hm h => by
    cases s with
    | no => exact h
    | val d =>
      obtain ⟨e1, v, e2, r⟩ := h
      exact ⟨e1, v, e2, Dat.mono sF _ _ r⟩
    | own ds =>
      obtain ⟨a, e1, r⟩ := h
      refine ⟨a, e1, r.mono sF fun x hx => ?_⟩
      obtain ⟨us, hu⟩ := r.there x hx
      show H' x = w.H x
      rw [hu]; exact hH x _ hu (other m hm x hx)
    | lea ds =>
      obtain ⟨e1, a, vs, e2, q, r, z⟩ := h
      exact ⟨e1, a, vs, e2, (lea a m hm z).2 _ q, r.mono sF, (lea a m hm z).1⟩
    | lnk k => exact h
  have keepP : ∀ {a : Addr} {s : Pst} {m : Loc}, m ≠ l → PsRep S w m a s (w.fp m) → PsRep S ⟨F', H', updL w.fp l g, le'⟩ m a s (w.fp m) := fun {a s m} hm h => by
    cases s with
    | own ds =>
      have r : Own S w.F w.H a ds (w.fp m) := h
      refine Own.mono (S := S) sF (fun x hx => ?_) r
      obtain ⟨us, hu⟩ := r.there x hx
      show H' x = w.H x
      rw [hu]; exact hH x _ hu (other m hm x hx)
    | lea ds =>
      obtain ⟨e1, vs, q, r, z⟩ := h
      exact ⟨e1, vs, (lea a m hm z).2 _ q, r.mono sF, (lea a m hm z).1⟩
    | frz ds => exact ⟨h.1, Dat.mono sF _ _ h.2⟩
  have hasL : ∀ x, (∃ m, x ∈ updL w.fp l g m) → x ∈ g ∨ (w.has x ∧ x ∉ w.fp l) := fun x ⟨m, hx⟩ => by
    by_cases hm : m = l
    · subst hm; rw [updL_same] at hx; exact .inl hx
    · rw [updL_ne hm] at hx; exact .inr ⟨⟨m, hx⟩, other m hm x hx⟩
  have slS : (e.put l p).sl.length = e.sl.length := by cases l <;> simp [Env.put]
  have psS : (e.put l p).ps.length = e.ps.length := by cases l <;> simp [Env.put]
  refine ⟨sub, slS.trans R.len, psS.trans R.plen, fun i s hs => ?_, fun i hi => ?_, fun k s hs => ?_, fun k hk => ?_, fun m => ?_, fun m m' a h1 h2 => ?_, fun x hx => ?_, fun x hx => ?_, hlh⟩
  · by_cases hm : Loc.s i = l
    · subst hm
      show SlRep S _ _ _ s (updL w.fp (.s i) g (.s i))
      rw [updL_same]
      have hi : i < e.sl.length := by
        rcases Nat.lt_or_ge i e.sl.length with z | z
        · exact z
        · have : e.sl[i]? = none := List.getElem?_eq_none_iff.mpr z
          simp [Env.at, this] at hl
      have e1 : s = .ofP p := by
        have : (e.sl.set i (.ofP p))[i]? = some s := hs
        rw [List.getElem?_set_self hi] at this
        exact (Option.some.inj this).symm
      rw [e1]
      exact new
    · show SlRep S _ _ _ s (updL w.fp l g (.s i))
      rw [updL_ne hm]
      refine keepS hm (R.slot i s ?_)
      cases l with
      | s j =>
        have : (e.sl.set j (.ofP p))[i]? = some s := hs
        rwa [List.getElem?_set_ne (fun z => hm (by rw [z]))] at this
      | p k => exact hs
  · have hm : Loc.s i ≠ l := fun z => by
      subst z
      have : e.sl[i]? = none := List.getElem?_eq_none_iff.mpr (by rw [← slS]; exact hi)
      simp [Env.at, this] at hl
    show updL w.fp l g (.s i) = []
    rw [updL_ne hm]
    exact R.out i (by rw [← slS]; exact hi)
  · by_cases hm : Loc.p k = l
    · subst hm
      show ∃ a, S.pa[k]? = some a ∧ PsRep S _ _ a s (updL w.fp (.p k) g (.p k))
      rw [updL_same]
      have hk : k < e.ps.length := by
        rcases Nat.lt_or_ge k e.ps.length with z | z
        · exact z
        · have : e.ps[k]? = none := List.getElem?_eq_none_iff.mpr z
          simp [Env.at, this] at hl
      have e1 : s = p := by
        have : (e.ps.set k p)[k]? = some s := hs
        rw [List.getElem?_set_self hk] at this
        exact (Option.some.inj this).symm
      rw [e1]
      exact new
    · show ∃ a, S.pa[k]? = some a ∧ PsRep S _ _ a s (updL w.fp l g (.p k))
      rw [updL_ne hm]
      have h' : e.ps[k]? = some s := by
        cases l with
        | s j => exact hs
        | p j =>
          have : (e.ps.set j p)[k]? = some s := hs
          rwa [List.getElem?_set_ne (fun z => hm (by rw [z]))] at this
      obtain ⟨a, ea, r⟩ := R.par k s h'
      exact ⟨a, ea, keepP hm r⟩
  · have hm : Loc.p k ≠ l := fun z => by
      subst z
      have : e.ps[k]? = none := List.getElem?_eq_none_iff.mpr (by rw [← psS]; exact hk)
      simp [Env.at, this] at hl
    show updL w.fp l g (.p k) = []
    rw [updL_ne hm]
    exact R.pout k (by rw [← psS]; exact hk)
  · show (updL w.fp l g m).Nodup
    by_cases hm : m = l
    · subst hm; rw [updL_same]; exact hg
    · rw [updL_ne hm]; exact R.nd m
  · have h1' : a ∈ updL w.fp l g m := h1
    have h2' : a ∈ updL w.fp l g m' := h2
    by_cases hm : m = l <;> by_cases hm' : m' = l
    · rw [hm, hm']
    · subst hm
      rw [updL_same] at h1'
      rw [updL_ne hm'] at h2'
      rcases hgd a h1' with z | z
      · exact absurd z (other m' hm' a h2')
      · exact absurd ⟨m', h2'⟩ z
    · subst hm'
      rw [updL_same] at h2'
      rw [updL_ne hm] at h1'
      rcases hgd a h2' with z | z
      · exact absurd z (other m hm a h1')
      · exact absurd ⟨m, h1'⟩ z
    · rw [updL_ne hm] at h1'
      rw [updL_ne hm'] at h2'
      exact R.dis m m' a h1' h2'
  · rcases hasL x hx with z | ⟨z1, z2⟩
    · exact (hgo x z).1
    · exact hoff x z1 z2
  · rcases hasL x hx with z | ⟨z1, z2⟩
    · exact fun y => y (hgo x z).2
    · exact fun y => y (hla x z1 z2)
end
end Fp
/-! FpGhost: steps that change nothing of the heap: a list of one's own is read, becomes a value, is lent. -/
namespace Fp
open PySem L2
/-- made since w0, or a slot's then -/
def new0 (w : Wo) (x : Addr) : Prop := ∀ o, w.H x = some o → w.has x
/-- from w to w' without a change of the heap; q: what of the held is given up -/
structure Gh (w w' : Wo) (q : List Addr) : Prop where
  h : w'.H = w.H
  a : Same w.F w'.F
  f : ∀ x, w.F x = none → ¬ w.has x → x ∉ q → w'.F x = none
  p : ∀ x, w'.has x → w.has x
  l : ∀ x, w'.le x → w.le x ∨ w.has x
  m : ∀ x l, w.lf x = some l → w'.lf x = some l
theorem Gh.refl (w : Wo) : Gh w w [] := ⟨rfl, Same.refl _, fun _ h _ _ => h, fun _ h => h, fun _ h => .inl h, fun _ _ h => h⟩
theorem Gh.mono {w w' : Wo} {q q' : List Addr} (g : Gh w w' q) (h : ∀ x ∈ q, x ∈ q') : Gh w w' q' := ⟨g.h, g.a, fun x a b c => g.f x a b fun z => c (h x z), g.p, g.l, g.m⟩
theorem Gh.trans {w w1 w2 : Wo} {q1 q2 : List Addr} (a : Gh w w1 q1) (b : Gh w1 w2 q2) : Gh w w2 (q1 ++ q2) where
  h := b.h.trans a.h
  a := a.a.trans b.a
  f := fun x e n hx => b.f x (a.f x e n fun z => hx (List.mem_append_left _ z)) (fun z => n (a.p x z)) fun z => hx (List.mem_append_right _ z)
  p := fun x z => a.p x (b.p x z)
  l := fun x z => (b.l x z).elim (fun z => a.l x z) fun z => .inr (a.p x z)
  m := fun x l z => b.m x l (a.m x l z)
section
variable {S : Se} {σ : St} {e e' : Env} {w w' w0 : Wo} {v : V} {r : Rv} {q q' : List Addr} {l : Loc}
theorem RvRep.gh (g : Gh w w' q') (d : ∀ x ∈ q, x ∉ q') (h : RvRep S σ w v r q) : RvRep S σ w' v r q := by
  refine h.keep g.a fun x hx => ?_
  obtain ⟨z1, z2, z3⟩ := h.off x hx
  exact ⟨by rw [g.h], g.f x z1 z2 (d x hx), fun z => z2 (g.p x z), fun z => (g.l x z).elim z3 z2⟩
theorem RvReps.gh (g : Gh w w' q') {rs : List Rv} {vs : List V} (d : ∀ x ∈ q, x ∉ q') (h : RvReps S σ w vs rs q) : RvReps S σ w' vs rs q := by
  refine h.keep g.a fun x hx => ?_
  obtain ⟨z1, z2, z3⟩ := h.off x hx
  exact ⟨by rw [g.h], g.f x z1 z2 (d x hx), fun z => z2 (g.p x z), fun z => (g.l x z).elim z3 z2⟩
theorem Step.gh (h0 : Step w0 w) (g : Gh w w' q) (n : New w0 q) : Step w0 w' where
  a := h0.a.trans g.a
  b := fun x o h z => by rw [g.h]; exact h0.b x o h z
  c := fun x o h z t => h0.c x o h z (g.p x t)
  d := fun x o h z t => g.f x (h0.d x o h z t) (h0.c x o h z) fun y => z (n x y o h)
  e := fun x o h => by rw [g.h]; exact h0.e x o h
  f := fun x o h z t y => (g.l x y).elim (h0.f x o h z t) (h0.c x o h z)
  g := fun x l z => g.m x l (h0.g x l z)

/-- what is read of a value: a list that may be one's own -/
def Red (S : Se) (w : Wo) (d : D) (v : V) : Prop :=
  match d with
  | .lst ds => ∃ a vs, v = .ref a ∧ L2.Rd w.H a (.lst vs) ∧ Dats S w.F ds vs
  | d => Dat S w.F d v
theorem Red.of {d : D} (s : Same w.F w.H) (h : Dat S w.F d v) : Red S w d v := by
  cases d with
  | lst ds =>
    obtain ⟨a, vs, e, q, r⟩ := h
    exact ⟨a, vs, e, rdSame s q, r⟩
  | _ => exact h
theorem Red.gh {d : D} (g : Gh w w' q) (h : Red S w d v) : Red S w' d v := by
  cases d with
  | lst ds =>
    obtain ⟨a, vs, e, q, r⟩ := h
    exact ⟨a, vs, e, by rw [g.h]; exact q, r.mono g.a⟩
  | _ => exact Dat.mono g.a _ _ h

theorem frzO {d : D} {v : V} {F H : Hp} (h : Dat S F d v) : OwnI S F H d v [] := by
  cases d <;> first | exact ⟨rfl, h⟩ | exact h.elim
/-- what a place's own list is -/
theorem PlRep.own {ds : List D} {g : List Addr} (h : PlRep S σ w l (.own ds) g) : ∃ a, RvRep S σ w (.ref a) (.loc l) [] ∧ Own S w.F w.H a ds g := by
  cases l with
  | s i =>
    obtain ⟨a, e, o⟩ := h
    refine ⟨a, ⟨rfl, ?_⟩, o⟩
    cases q : σ[i]? with
    | none => rw [q] at e; cases e
    | some y => rw [q] at e; simp at e; rw [e]
  | p k =>
    obtain ⟨a, e, o⟩ := h
    exact ⟨a, ⟨rfl, a, e, rfl⟩, o⟩
theorem Rep.at (R : Rep S σ e w) {p : Pst} (h : e.at l = some p) : PlRep S σ w l p (w.fp l) := by
  cases l with
  | s i =>
    unfold Env.at at h
    simp only at h
    split at h <;> first | cases h | skip
    · rename_i ds hs; exact R.slot i _ hs
    · rename_i ds hs; exact R.slot i _ hs
    · rename_i ds hs
      exact R.slot i _ hs
  | p k =>
    have h' : e.ps[k]? = some p := h
    exact R.par k p h'
theorem RvRep.loc_inj {v v' : V} {q q' : List Addr} (h : RvRep S σ w v (.loc l) q) (h' : RvRep S σ w v' (.loc l) q') : v = v' := by
  cases l with
  | s i =>
    have e := h.2.symm.trans h'.2
    simpa using e
  | p k =>
    obtain ⟨_, a, e1, rfl⟩ := h
    obtain ⟨_, b, e2, rfl⟩ := h'
    rw [e1] at e2
    cases e2
    rfl
/-- the address that a place's list has -/
def LocA (S : Se) (σ : St) (l : Loc) (a : Addr) : Prop :=
  match l with
  | .s i => σ[i]? = some (some (.ref a))
  | .p k => S.pa[k]? = some a
theorem RvRep.locA {a : Addr} (h : RvRep S σ w (.ref a) (.loc l) q) : LocA S σ l a := by
  cases l with
  | s i => exact h.2
  | p k =>
    obtain ⟨_, b, e, z⟩ := h
    cases z
    exact e
theorem LocA.join {i : Nat} {a : Addr} (h : σ[i]? = some (some (.ref a))) : (σ[i]?).join = some (V.ref a) := by rw [h]; rfl
theorem PlRep.mk_own {a : Addr} {ds : List D} {g : List Addr} (h : LocA S σ l a) (o : Own S w.F w.H a ds g) : PlRep S σ w l (.own ds) g := by
  cases l with
  | s i => exact ⟨a, LocA.join h, o⟩
  | p k => exact ⟨a, h, o⟩
theorem PlRep.mk_frz {a : Addr} {ds : List D} (h : LocA S σ l a) (o : Dat S w.F (.lst ds) (.ref a)) : PlRep S σ w l (.frz ds) [] := by
  cases l with
  | s i => exact ⟨rfl, .ref a, LocA.join h, o⟩
  | p k => exact ⟨a, h, rfl, o⟩
theorem PlRep.mk_lea {a : Addr} {ds : List D} {vs : List V} (h : LocA S σ l a) (o : w.H a = some (.lst vs)) (r : Dats S w.F ds vs) (z : w.lf a = some l) : PlRep S σ w l (.lea ds) [] := by
  cases l with
  | s i => exact ⟨rfl, a, vs, LocA.join h, o, r, z⟩
  | p k => exact ⟨a, h, rfl, vs, o, r, z⟩

/-- F grows at one place -/
theorem ghost_at (R : Rep S σ e w) {ds : List D} (hl : e.at l = some (.own ds)) {p : Pst} {A g : List Addr} {le' : Addr → Option Loc} (hA : ∀ x ∈ A, x ∈ w.fp l) (hg : ∀ x ∈ g, x ∈ w.fp l) (hgn : g.Nodup) (hag : ∀ x ∈ g, x ∉ A)
    (hle : ∀ x m, w.lf x = some m → le' x = some m) (hle2 : ∀ x, le' x ≠ none → w.le x ∨ x ∈ w.fp l) (hle3 : ∀ x ∈ g, le' x = none)
    (new : PlRep S σ ⟨grow w.F w.H A, w.H, updL w.fp l g, le'⟩ l p g) :
    Rep S σ (e.put l p) ⟨grow w.F w.H A, w.H, updL w.fp l g, le'⟩ ∧ Gh w ⟨grow w.F w.H A, w.H, updL w.fp l g, le'⟩ [] := by
  obtain ⟨a0, _, o⟩ := (R.at hl).own
  have offA : ∀ x ∈ A, w.F x = none := fun x hx => R.off x ⟨l, hA x hx⟩
  have sF : Same w.F (grow w.F w.H A) := grow_same offA
  refine ⟨R.upd l p _ hl sF (grow_sub R.sub) (fun x o h _ => h) (fun x hx hn => ?_) (fun x m _ => hle x m) hgn (fun x hx => ⟨?_, hle3 x hx⟩) (fun x hx => .inl (hg x hx)) (fun x hx hn => ?_) (fun x z => (hle2 x z).elim (R.leh x) fun z => let ⟨us, hu⟩ := o.there x z; ⟨_, hu⟩) new,
    rfl, sF, fun x e1 hn _ => ?_, fun x ⟨m, hx⟩ => ?_, fun x z => (hle2 x z).imp_right fun z => ⟨l, z⟩, hle⟩
  · rw [grow_out fun z => hn (hA x z)]
    exact R.off x hx
  · rw [grow_out (hag x hx)]
    exact R.off x ⟨l, hg x hx⟩
  · cases y : le' x with
    | none => rfl
    | some m =>
      rcases hle2 x (by rw [y]; exact fun z => nomatch z) with z | z
      · exact absurd z (R.ale x hx)
      · exact absurd z hn
  · show grow w.F w.H A x = none
    rw [grow_out fun z => hn ⟨l, hA x z⟩]
    exact e1
  · have hx' : x ∈ updL w.fp l g m := hx
    by_cases hm : m = l
    · subst hm; rw [updL_same] at hx'; exact ⟨m, hg x hx'⟩
    · rw [updL_ne hm] at hx'; exact ⟨m, hx'⟩
theorem Own.head {a : Addr} {ds : List D} {fp : List Addr} {F H : Hp} (o : Own S F H a ds fp) : ∃ g, fp = a :: g := by
  obtain ⟨vs, g, _, e, _⟩ := o
  exact ⟨g, e⟩
/-- reading a place's own list: what is nested in it becomes values -/
theorem ghost_read (R : Rep S σ e w) {ds : List D} (hl : e.at l = some (.own ds)) :
    ∃ w' a vs, Rep S σ (e.put l (.own (ds.map frz1))) w' ∧ Gh w w' [] ∧ LocA S σ l a ∧ w'.H a = some (.lst vs) ∧ Dats S w'.F (ds.map frz1) vs ∧ w'.fp = updL w.fp l [a] := by
  obtain ⟨a, ra, o⟩ := (R.at hl).own
  obtain ⟨vs, g, q, e1, os⟩ := o
  have nd : (a :: g).Nodup := by rw [← e1]; exact R.nd l
  have hA : ∀ x ∈ g, x ∈ w.fp l := fun x hx => by rw [e1]; exact List.mem_cons_of_mem _ hx
  have offA : ∀ x ∈ g, w.F x = none := fun x hx => R.off x ⟨l, hA x hx⟩
  have dd : Dats S (grow w.F w.H g) (ds.map frz1) vs := os.frozen (fun x hx => hx) offA
  have al : a ∈ w.fp l := by rw [e1]; simp
  obtain ⟨R', G⟩ := ghost_at R hl (p := .own (ds.map frz1)) (A := g) (g := [a]) (le' := w.lf) hA (fun x hx => by rw [List.mem_singleton.mp hx]; exact al) (by simp)
    (fun x hx => by rw [List.mem_singleton.mp hx]; exact (List.nodup_cons.mp nd).1) (fun x m z => z) (fun x z => .inl z) (fun x hx => by rw [List.mem_singleton.mp hx]; exact Classical.not_not.mp (R.ale a ⟨l, al⟩))
    (PlRep.mk_own ra.locA (Own.of_dats q dd))
  exact ⟨_, a, vs, R', G, ra.locA, q, dd, rfl⟩
theorem ghost_frz (R : Rep S σ e w) {ds : List D} (hl : e.at l = some (.own ds)) :
    ∃ w' a, Rep S σ (e.put l (.frz (ds.map frz1))) w' ∧ Gh w w' [] ∧ LocA S σ l a ∧ Dat S w'.F (.lst (ds.map frz1)) (.ref a) := by
  obtain ⟨a, ra, o⟩ := (R.at hl).own
  have offA : ∀ x ∈ w.fp l, w.F x = none := fun x hx => R.off x ⟨l, hx⟩
  have dd := o.frozen (fun x hx => hx) offA
  obtain ⟨R', G⟩ := ghost_at R hl (p := .frz (ds.map frz1)) (A := w.fp l) (g := []) (le' := w.lf) (fun x hx => hx) (fun x hx => by simp at hx) List.nodup_nil
    (fun x hx => by simp at hx) (fun x m z => z) (fun x z => .inl z) (fun x hx => by simp at hx)
    (PlRep.mk_frz ra.locA dd)
  exact ⟨_, a, R', G, ra.locA, dd⟩
theorem ghost_lea (R : Rep S σ e w) {ds : List D} (hl : e.at l = some (.own ds)) :
    ∃ w' a vs, Rep S σ (e.put l (.lea (ds.map frz1))) w' ∧ Gh w w' [] ∧ LocA S σ l a ∧ w'.H a = some (.lst vs) ∧ Dats S w'.F (ds.map frz1) vs ∧ w'.lf a = some l ∧ w'.F a = none ∧ w.has a ∧ ¬ w'.has a := by
  obtain ⟨a, ra, o⟩ := (R.at hl).own
  obtain ⟨vs, g, q, e1, os⟩ := o
  have nd : (a :: g).Nodup := by rw [← e1]; exact R.nd l
  have hA : ∀ x ∈ g, x ∈ w.fp l := fun x hx => by rw [e1]; exact List.mem_cons_of_mem _ hx
  have offA : ∀ x ∈ g, w.F x = none := fun x hx => R.off x ⟨l, hA x hx⟩
  have dd : Dats S (grow w.F w.H g) (ds.map frz1) vs := os.frozen (fun x hx => hx) offA
  have al : a ∈ w.fp l := by rw [e1]; simp
  obtain ⟨R', G⟩ := ghost_at R hl (p := .lea (ds.map frz1)) (A := g) (g := []) (le' := fun x => if x = a then some l else w.lf x) hA (fun x hx => by simp at hx) List.nodup_nil
    (fun x hx => by simp at hx) (fun x m z => by
      by_cases h : x = a
      · rw [h] at z
        exact absurd (show w.le a from fun y => by rw [z] at y; cases y) (R.ale a ⟨l, al⟩)
      · simp only [if_neg h]; exact z) (fun x z => by
      by_cases h : x = a
      · exact .inr (by rw [h]; exact al)
      · simp only [if_neg h] at z; exact .inl z) (fun x hx => by simp at hx)
    (PlRep.mk_lea ra.locA q dd (if_pos rfl))
  exact ⟨_, a, vs, R', G, ra.locA, q, dd, if_pos rfl, by
    show grow w.F w.H g a = none
    rw [grow_out (List.nodup_cons.mp nd).1]
    exact R.off a ⟨l, al⟩, ⟨l, al⟩, fun ⟨m, hm⟩ => by
    have hm' : a ∈ updL w.fp l [] m := hm
    by_cases z : m = l
    · rw [z, updL_same] at hm'; simp at hm'
    · rw [updL_ne z] at hm'; exact z (R.dis m l a hm' al)⟩
/-- a held new list becomes a value -/
theorem ghost_held (R : Rep S σ e w) {ds : List D} (r : RvRep S σ w v (.fresh ds) q) : ∃ w', Rep S σ e w' ∧ Gh w w' q ∧ Dat S w'.F (.lst (ds.map frz1)) v := by
  obtain ⟨a, rfl, o, nd, off⟩ := r
  have offA : ∀ x ∈ q, w.F x = none := fun x hx => (off x hx).1
  have sF : Same w.F (grow w.F w.H q) := grow_same offA
  refine ⟨⟨grow w.F w.H q, w.H, w.fp, w.lf⟩, ⟨grow_sub R.sub, R.len, R.plen, fun i s hs => ?_, R.out, fun k p hp => ?_, R.pout, R.nd, R.dis, fun x hx => ?_, R.ale, R.leh⟩, ⟨rfl, sF, fun x e1 _ hx => ?_, fun x h => h, fun x h => .inl h, fun x l h => h⟩, o.frozen (fun x hx => hx) offA⟩
  · have h := R.slot i s hs
    cases s with
    | no => exact h
    | val d => exact ⟨h.1, h.2.imp fun v z => ⟨z.1, Dat.mono sF _ _ z.2⟩⟩
    | own ds => exact h.imp fun a z => ⟨z.1, z.2.mono sF fun _ _ => rfl⟩
    | lea ds =>
      obtain ⟨e1, a, vs, e2, q, r, z⟩ := h
      exact ⟨e1, a, vs, e2, q, r.mono sF, z⟩
    | lnk k => exact h
  · obtain ⟨a, ea, h⟩ := R.par k p hp
    refine ⟨a, ea, ?_⟩
    cases p with
    | own ds => exact Own.mono (S := S) sF (fun _ _ => rfl) h
    | lea ds =>
      obtain ⟨e1, vs, q, r, z⟩ := h
      exact ⟨e1, vs, q, r.mono sF, z⟩
    | frz ds => exact ⟨h.1, Dat.mono sF _ _ h.2⟩
  · show grow w.F w.H q x = none
    rw [grow_out fun z => (off x z).2.1 hx]
    exact R.off x hx
  · show grow w.F w.H q x = none
    rw [grow_out hx]
    exact e1
theorem rvLoc {a : Addr} (h : LocA S σ l a) (r : RvRep S σ w v (.loc l) q) : v = .ref a := by
  cases l with
  | s i =>
    have h' : σ[i]? = some (some (.ref a)) := h
    have e := r.2.symm.trans h'
    simpa using e
  | p k =>
    have h' : S.pa[k]? = some a := h
    obtain ⟨_, b, e, rfl⟩ := r
    rw [h'] at e
    cases e
    rfl
theorem PlRep.rd (s : Same w.F w.H) {ds : List D} {p : Pst} {g : List Addr} (r : RvRep S σ w v (.loc l) q) (hp : p = .lea ds ∨ p = .frz ds) (h : PlRep S σ w l p g) : Red S w (.lst ds) v := by
  rcases hp with rfl | rfl
  · cases l with
    | s i =>
      obtain ⟨_, a, vs, e, q1, q2, _⟩ := h
      rw [r.2] at e
      have e' : v = .ref a := by simpa using e
      exact ⟨a, vs, e', .inl q1, q2⟩
    | p k =>
      obtain ⟨a, ea, _, vs, q1, q2, _⟩ := h
      obtain ⟨_, b, eb, rfl⟩ := r
      rw [ea] at eb
      cases eb
      exact ⟨a, vs, rfl, .inl q1, q2⟩
  · cases l with
    | s i =>
      obtain ⟨_, u, e, q1⟩ := h
      rw [r.2] at e
      have e' : v = u := by simpa using e
      rw [e']
      exact Red.of s q1
    | p k =>
      obtain ⟨a, ea, _, q1⟩ := h
      obtain ⟨_, b, eb, rfl⟩ := r
      rw [ea] at eb
      cases eb
      exact Red.of s q1
theorem PlRep.frzDat {ds : List D} {g : List Addr} (r : RvRep S σ w v (.loc l) q) (h : PlRep S σ w l (.frz ds) g) : Dat S w.F (.lst ds) v := by
  cases l with
  | s i =>
    obtain ⟨_, u, e, q1⟩ := h
    rw [r.2] at e
    have e' : v = u := by simpa using e
    rw [e']
    exact q1
  | p k =>
    obtain ⟨a, ea, _, q1⟩ := h
    obtain ⟨_, b, eb, rfl⟩ := r
    rw [ea] at eb
    cases eb
    exact q1
theorem peek_ok (R : Rep S σ e w) (r : RvRep S σ w v x q) {d : D} (h : e.peek x = .ok d e') : ∃ w', Rep S σ e' w' ∧ Gh w w' q ∧ Red S w' d v := by
  cases x with
  | val d0 =>
    obtain ⟨rfl, rd⟩ := r
    cases h
    exact ⟨w, R, Gh.refl w, Red.of R.sub rd⟩
  | fresh ds =>
    cases h
    obtain ⟨w', R', G, dd⟩ := ghost_held R r
    exact ⟨w', R', G, Red.of R'.sub dd⟩
  | loc l =>
    unfold Env.peek at h
    simp only at h
    cases hl : e.at l with
    | none => rw [hl] at h; cases h
    | some p =>
      rw [hl] at h
      cases p with
      | own ds =>
        cases h
        obtain ⟨w', a, vs, R', G, la, q1, dd, _⟩ := ghost_read R hl
        exact ⟨w', R', G.mono (by simp), a, vs, rvLoc la r, .inl q1, dd⟩
      | lea ds =>
        cases h
        exact ⟨w, R, (Gh.refl w).mono (by simp), (R.at hl).rd R.sub r (.inl rfl)⟩
      | frz ds =>
        cases h
        exact ⟨w, R, (Gh.refl w).mono (by simp), (R.at hl).rd R.sub r (.inr rfl)⟩
theorem asVal_ok (R : Rep S σ e w) (r : RvRep S σ w v x q) {d : D} (h : e.asVal x = .ok d e') : ∃ w', Rep S σ e' w' ∧ Gh w w' q ∧ Dat S w'.F d v := by
  cases x with
  | val d0 =>
    obtain ⟨rfl, rd⟩ := r
    cases h
    exact ⟨w, R, Gh.refl w, rd⟩
  | fresh ds =>
    cases h
    exact ghost_held R r
  | loc l =>
    unfold Env.asVal at h
    simp only at h
    cases hl : e.at l with
    | none => rw [hl] at h; cases h
    | some p =>
      rw [hl] at h
      cases p with
      | own ds =>
        cases h
        obtain ⟨w', a, R', G, la, dd⟩ := ghost_frz R hl
        refine ⟨w', R', G.mono (by simp), ?_⟩
        rw [rvLoc la r]
        exact dd
      | lea ds => cases h
      | frz ds =>
        cases h
        exact ⟨w, R, (Gh.refl w).mono (by simp), (R.at hl).frzDat r⟩
theorem peek_nx {x : Rv} : (∃ d e', e.peek x = .ok d e') ∨ e.peek x = .bad := by
  cases x with
  | val d0 => exact .inl ⟨_, _, rfl⟩
  | fresh ds => exact .inl ⟨_, _, rfl⟩
  | loc l =>
    unfold Env.peek
    simp only
    cases e.at l with
    | none => exact .inr rfl
    | some p => cases p <;> exact .inl ⟨_, _, rfl⟩
theorem asVal_nx {x : Rv} : (∃ d e', e.asVal x = .ok d e') ∨ e.asVal x = .bad := by
  cases x with
  | val d0 => exact .inl ⟨_, _, rfl⟩
  | fresh ds => exact .inl ⟨_, _, rfl⟩
  | loc l =>
    unfold Env.asVal
    simp only
    cases e.at l with
    | none => exact .inr rfl
    | some p => cases p <;> first | exact .inl ⟨_, _, rfl⟩ | exact .inr rfl
end
end Fp
/-! FpSem: the evaluator's steps as readings of the layer; several held values; new objects. -/
namespace Fp
open PySem L2
section
variable {S : Se} {σ : St} {e e' : Env} {w w' w0 w1 w2 : Wo} {v : V} {r : Rv} {q q' : List Addr} {l : Loc}

/-! ### new objects -/
theorem Rep.more (R : Rep S σ e w) {F' H' : Hp} (sF : Same w.F F') (sub : Same F' H') (hH : Same w.H H') (off : ∀ x, w.has x → F' x = none) : Rep S σ e ⟨F', H', w.fp, w.lf⟩ := by
  have lea : ∀ x, w.le x → (∀ o, w.H x = some o → H' x = some o) := fun x hx o ho => hH x o ho
  refine ⟨sub, R.len, R.plen, fun i s hs => ?_, R.out, fun k p hp => ?_, R.pout, R.nd, R.dis, off, R.ale, fun x z => let ⟨o, h⟩ := R.leh x z; ⟨o, hH x o h⟩⟩
  · have h := R.slot i s hs
    cases s with
    | no => exact h
    | val d =>
      obtain ⟨e1, v, e2, r⟩ := h
      exact ⟨e1, v, e2, Dat.mono sF _ _ r⟩
    | own ds =>
      obtain ⟨a, e1, r⟩ := h
      refine ⟨a, e1, r.mono sF fun x hx => ?_⟩
      obtain ⟨us, hu⟩ := r.there x hx
      show H' x = w.H x
      rw [hu]; exact hH x _ hu
    | lea ds =>
      obtain ⟨e1, a, vs, e2, q, r, z⟩ := h
      exact ⟨e1, a, vs, e2, hH _ _ q, r.mono sF, z⟩
    | lnk k => exact h
  · obtain ⟨a, ea, h⟩ := R.par k p hp
    refine ⟨a, ea, ?_⟩
    cases p with
    | own ds =>
      have r : Own S w.F w.H a ds (w.fp (.p k)) := h
      refine Own.mono (S := S) sF (fun x hx => ?_) r
      obtain ⟨us, hu⟩ := r.there x hx
      show H' x = w.H x
      rw [hu]; exact hH x _ hu
    | lea ds =>
      obtain ⟨e1, vs, q, r, z⟩ := h
      exact ⟨e1, vs, hH _ _ q, r.mono sF, z⟩
    | frz ds => exact ⟨h.1, Dat.mono sF _ _ h.2⟩
theorem sameUpd {H : Hp} {p : Addr} {o : HO} (h : H p = none) : Same H (upd H p o) := fun b x e => by
  rw [upd_ne (ne_of_none e h)]; exact e
theorem same_none {F H : Hp} (s : Same F H) {p : Addr} (h : H p = none) : F p = none := by
  cases e : F p with
  | none => rfl
  | some o => rw [s p o e] at h; cases h
theorem Rep.nofp (R : Rep S σ e w) {p : Addr} (h : w.H p = Option.none) : ¬ w.has p := fun ⟨l, hl⟩ => by
  cases l with
  | s i =>
    cases q : e.sl[i]? with
    | none => rw [R.out i (List.getElem?_eq_none_iff.mp q)] at hl; simp at hl
    | some s =>
      have z := R.slot i s q
      cases s with
      | own ds =>
        obtain ⟨a, _, o⟩ := z
        obtain ⟨us, hu⟩ := o.there p hl
        rw [h] at hu; cases hu
      | no => rw [show w.fp (.s i) = [] from z] at hl; simp at hl
      | val _ => rw [z.1] at hl; simp at hl
      | lea _ => rw [z.1] at hl; simp at hl
      | lnk _ => rw [z.1] at hl; simp at hl
  | p k =>
    cases q : e.ps[k]? with
    | none => rw [R.pout k (List.getElem?_eq_none_iff.mp q)] at hl; simp at hl
    | some s =>
      obtain ⟨a, _, z⟩ := R.par k s q
      cases s with
      | own ds =>
        have o : Own S w.F w.H a ds (w.fp (.p k)) := z
        obtain ⟨us, hu⟩ := o.there p hl
        rw [h] at hu; cases hu
      | lea _ => rw [z.1] at hl; simp at hl
      | frz _ => rw [z.1] at hl; simp at hl
theorem alloc_val (R : Rep S σ e w) {p : Addr} {o : HO} (hp : w.H p = none) : Rep S σ e ⟨upd w.F p o, upd w.H p o, w.fp, w.lf⟩ ∧ Step w ⟨upd w.F p o, upd w.H p o, w.fp, w.lf⟩ := by
  have fp : w.F p = none := same_none R.sub hp
  refine ⟨R.more (sameUpd fp) (fun b x z => ?_) (sameUpd hp) (fun x hx => ?_), sameUpd fp, fun x u h _ => ?_, fun x u h n => n, fun x u h n z => ?_, fun x u h => ⟨u, ?_⟩, fun x u h n z => z, fun x l z => z⟩
  · by_cases hb : b = p
    · subst hb; rw [upd_same] at z ⊢; exact z
    · rw [upd_ne hb] at z ⊢; exact R.sub b x z
  · rw [upd_ne fun z => R.nofp hp (by rw [← z]; exact hx)]
    exact R.off x hx
  · exact sameUpd hp x u h
  · show upd w.F p o x = none
    rw [upd_ne (ne_of_none h hp)]; exact z
  · exact sameUpd hp x u h
theorem alloc_new (R : Rep S σ e w) {p : Addr} {o : HO} (hp : w.H p = none) : Rep S σ e ⟨w.F, upd w.H p o, w.fp, w.lf⟩ ∧ Step w ⟨w.F, upd w.H p o, w.fp, w.lf⟩ := by
  refine ⟨R.more (Same.refl _) (fun b x z => sameUpd hp b x (R.sub b x z)) (sameUpd hp) (fun x hx => R.off x hx), Same.refl _, fun x u h _ => sameUpd hp x u h, fun x u h n => n, fun x u h n z => z, fun x u h => ⟨u, sameUpd hp x u h⟩, fun x u h n z => z, fun x l z => z⟩

/-! ### several items -/
theorem OwnI.gh {d : D} {v : V} {g : List Addr} (G : Gh w w' q) (h : OwnI S w.F w.H d v g) : OwnI S w'.F w'.H d v g := h.mono G.a fun x _ => by rw [G.h]
theorem OwnIs.gh {ds : List D} {vs : List V} {g : List Addr} (G : Gh w w' q) (h : OwnIs S w.F w.H ds vs g) : OwnIs S w'.F w'.H ds vs g := h.mono G.a fun x _ => by rw [G.h]
theorem OwnIs.of_flat : ∀ {ds : List D} {vs : List V} {g : List Addr} {F H : Hp}, ds.all D.flat1 = true → OwnIs S F H ds vs g → g = [] ∧ Dats S F ds vs
  | [], vs, g, _, _, _, h => ⟨h.2, by rw [h.1]; trivial⟩
  | d :: ds, vs, g, F, H, k, h => by
    obtain ⟨v, ws, f, g1, rfl, rfl, t, r⟩ := h
    simp only [List.all_cons, Bool.and_eq_true] at k
    obtain ⟨e1, r1⟩ := OwnIs.of_flat k.2 r
    cases d with
    | olst _ => exact absurd k.1 (by simp [D.flat1])
    | _ => exact ⟨by rw [t.1, e1]; rfl, t.2, r1⟩
/-- free of all: F, the slots, the leased -/
def Off (w : Wo) (q : List Addr) : Prop := ∀ x ∈ q, w.F x = none ∧ ¬ w.has x ∧ ¬ w.le x
theorem Off.gh (G : Gh w w' q') (d : ∀ x ∈ q, x ∉ q') (h : Off w q) : Off w' q := fun x hx => by
  obtain ⟨z1, z2, z3⟩ := h x hx
  exact ⟨G.f x z1 z2 (d x hx), fun z => z2 (G.p x z), fun z => (G.l x z).elim z3 z2⟩
theorem item_ok (R : Rep S σ e w) {x : Rv} (r : RvRep S σ w v x q) {d : D} (h : e.item x = .ok d e') :
    ∃ w' g, Rep S σ e' w' ∧ Gh w w' q ∧ OwnI S w'.F w'.H d v g ∧ (∀ y ∈ g, y ∈ q) ∧ g.Nodup ∧ Off w' g := by
  have val : ∀ {d}, e.asVal x = .ok d e' → ∃ w' g, Rep S σ e' w' ∧ Gh w w' q ∧ OwnI S w'.F w'.H d v g ∧ (∀ y ∈ g, y ∈ q) ∧ g.Nodup ∧ Off w' g := fun {d} h => by
    obtain ⟨w', R', G, dd⟩ := asVal_ok R r h
    exact ⟨w', [], R', G, frzO dd, by simp, List.nodup_nil, fun _ h => by simp at h⟩
  cases x with
  | val d0 => exact val h
  | loc l => exact val h
  | fresh ds =>
    unfold Env.item at h
    simp only at h
    cases hf : ds.all D.flat1 with
    | true =>
      rw [hf] at h
      simp at h
      obtain ⟨rfl, rfl⟩ := h
      obtain ⟨a, rfl, ⟨vs, g, q1, rfl, os⟩, nd, off⟩ := r
      obtain ⟨rfl, dd⟩ := OwnIs.of_flat hf os
      exact ⟨w, [a], R, (Gh.refl w).mono (by simp), ⟨a, vs, rfl, rfl, q1, dd⟩, fun y h => h, nd, off⟩
    | false =>
      rw [hf] at h
      simp at h
      obtain ⟨rfl, rfl⟩ := h
      obtain ⟨w', R', G, dd⟩ := ghost_held R r
      exact ⟨w', [], R', G, frzO dd, by simp, List.nodup_nil, fun _ h => by simp at h⟩
theorem asVals_ok : ∀ {rs : List Rv} {vs : List V} {q : List Addr} {e : Env} {w : Wo} {ds : List D}, Rep S σ e w → RvReps S σ w vs rs q → q.Nodup → e.asVals rs = .ok ds e' → ∃ w', Rep S σ e' w' ∧ Gh w w' q ∧ Dats S w'.F ds vs
  | [], vs, q, e, w, ds, R, r, _, h => by
    cases h
    obtain ⟨rfl, rfl⟩ := r
    exact ⟨w, R, Gh.refl w, trivial⟩
  | x :: rs, vs, q, e, w, ds, R, r, nd, h => by
    obtain ⟨v, ws, f, g, rfl, rfl, r1, r2⟩ := r
    unfold Env.asVals at h
    cases h1 : e.asVal x with
    | bad => rw [h1] at h; cases h
    | ex _ _ _ => rw [h1] at h; cases h
    | ok d e1 =>
      rw [h1, Fp.R.bind_ok] at h
      obtain ⟨w1, R1, G1, d1⟩ := asVal_ok R r1 h1
      have dis : ∀ x ∈ g, x ∉ f := fun x hx hf => (List.nodup_append.mp nd).2.2 x hf x hx rfl
      cases h2 : e1.asVals rs with
      | bad => rw [h2] at h; cases h
      | ex _ _ _ => rw [h2] at h; cases h
      | ok ds2 e2 =>
        rw [h2, Fp.R.bind_ok] at h
        cases h
        obtain ⟨w2, R2, G2, d2⟩ := asVals_ok R1 (r2.gh G1 dis) (List.nodup_append.mp nd).2.1 h2
        exact ⟨w2, R2, G1.trans G2, Dat.mono G2.a _ _ d1, d2⟩
theorem items_ok : ∀ {rs : List Rv} {vs : List V} {q : List Addr} {e : Env} {w : Wo} {ds : List D}, Rep S σ e w → RvReps S σ w vs rs q → q.Nodup → e.items rs = .ok ds e' →
    ∃ w' g, Rep S σ e' w' ∧ Gh w w' q ∧ OwnIs S w'.F w'.H ds vs g ∧ (∀ y ∈ g, y ∈ q) ∧ g.Nodup ∧ Off w' g
  | [], vs, q, e, w, ds, R, r, _, h => by
    cases h
    obtain ⟨rfl, rfl⟩ := r
    exact ⟨w, [], R, Gh.refl w, ⟨rfl, rfl⟩, by simp, List.nodup_nil, fun _ h => by simp at h⟩
  | x :: rs, vs, q, e, w, ds, R, r, nd, h => by
    obtain ⟨v, ws, f, g, rfl, rfl, r1, r2⟩ := r
    unfold Env.items at h
    have nd' := List.nodup_append.mp nd
    cases h1 : e.item x with
    | bad => rw [h1] at h; cases h
    | ex _ _ _ => rw [h1] at h; cases h
    | ok d e1 =>
      rw [h1, Fp.R.bind_ok] at h
      obtain ⟨w1, g1, R1, G1, d1, s1, n1, o1⟩ := item_ok R r1 h1
      have dis : ∀ x ∈ g, x ∉ f := fun x hx hf => nd'.2.2 x hf x hx rfl
      cases h2 : e1.items rs with
      | bad => rw [h2] at h; cases h
      | ex _ _ _ => rw [h2] at h; cases h
      | ok ds2 e2 =>
        rw [h2, Fp.R.bind_ok] at h
        cases h
        obtain ⟨w2, g2, R2, G2, d2, s2, n2, o2⟩ := items_ok R1 (r2.gh G1 dis) nd'.2.1 h2
        refine ⟨w2, g1 ++ g2, R2, G1.trans G2, ⟨v, ws, g1, g2, rfl, rfl, d1.gh G2, d2⟩, fun y hy => ?_, List.nodup_append.mpr ⟨n1, n2, fun a ha b hb => ?_⟩, fun y hy => ?_⟩
        · rcases List.mem_append.mp hy with hy | hy
          · exact List.mem_append_left _ (s1 y hy)
          · exact List.mem_append_right _ (s2 y hy)
        · exact fun z => dis b (s2 b hb) (z ▸ s1 a ha)
        · rcases List.mem_append.mp hy with hy | hy
          · exact o1.gh G2 (fun z hz hz2 => dis z hz2 (s1 z hz)) y hy
          · exact o2 y hy
end

/-! ### the readings -/
/-- from w0 on: what m ends in -/
def Good {α : Type} (S : Se) (W : WX) (σ : St) (w0 : Wo) (m : R α) (post : α → Env → Wo → Prop) : Prop :=
  match m with
  | .ok a e => ∀ w, Step w0 w → Rep S σ e w → post a e w
  | .ex c d e => ∀ C dx w u, S.cl c = some C → Step w0 w → Rep S σ e w → w.F dx = some (.xd [(("value" : Str), u)]) → Dat S w.F d u → W (.ref C) (some dx) σ w.H
  | .bad => False
def postR (S : Se) (σ : St) (w0 : Wo) (Q : VK) : Rv → Env → Wo → Prop := fun r _ w => ∀ v q, RvRep S σ w v r q → New w0 q → Q v w.H
def postB (Q : Bool → Hp → Prop) : Bool → Env → Wo → Prop := fun b _ w => Q b w.H
def postA (S : Se) (σ : St) (w0 : Wo) (Q : List V → Hp → Prop) : List Rv → Env → Wo → Prop := fun rs _ w => ∀ vs q, RvReps S σ w vs rs q → New w0 q → q.Nodup → Q vs w.H
def tE (S : Se) (W : WX) (ev : Env → R Rv) : TE := fun σ H Q => ∃ e w, w.H = H ∧ Rep S σ e w ∧ Good S W σ w (ev e) (postR S σ w Q)
def tT (S : Se) (W : WX) (ev : Env → R Bool) : TT := fun σ H Q => ∃ e w, w.H = H ∧ Rep S σ e w ∧ Good S W σ w (ev e) (postB Q)
def tA (S : Se) (W : WX) (ev : Env → R (List Rv)) : TA := fun σ H Q => ∃ e w, w.H = H ∧ Rep S σ e w ∧ Good S W σ w (ev e) (postA S σ w Q)
section
variable {S : Se} {W : WX} {σ : St} {e e' : Env} {w w' w0 w1 w2 : Wo} {v : V} {r : Rv} {q q' : List Addr} {l : Loc} {α β : Type}
theorem Good.mono {m : R α} {p p' : α → Env → Wo → Prop} (h : Good S W σ w0 m p) (k : ∀ a e w, Step w0 w → Rep S σ e w → p a e w → p' a e w) : Good S W σ w0 m p' := by
  cases m with
  | ok a e => exact fun w s R => k a e w s R (h w s R)
  | ex c d e => exact h
  | bad => exact h
theorem Good.bind {m : R α} {k : α → Env → R β} {p : β → Env → Wo → Prop} (h : Good S W σ w0 (m.bind k) p) : Good S W σ w0 m fun a e _ => Good S W σ w0 (k a e) p := by
  cases m with
  | ok a e => exact fun w s R => h
  | ex c d e => exact h
  | bad => exact h
theorem Good.base {m : R α} {p : α → Env → Wo → Prop} (s : Step w0 w1) (h : Good S W σ w0 m p) : Good S W σ w1 m fun a e w => Step w0 w ∧ p a e w := by
  cases m with
  | ok a e => exact fun w t R => ⟨s.trans t, h w (s.trans t) R⟩
  | ex c d e => exact fun C dx w u ec t => h C dx w u ec (s.trans t)
  | bad => exact h
/-- an expression, then what follows -/
theorem tE.one {ev : Env → R Rv} {k : Rv → Env → R α} {p : α → Env → Wo → Prop} {Q : VK} (hw : w.H = H) (R : Rep S σ e w) (g : Good S W σ w ((ev e).bind k) p)
    (h : ∀ v r q e w', Step w w' → Rep S σ e w' → RvRep S σ w' v r q → New w q → Good S W σ w (k r e) p → Q v w'.H) : tE S W ev σ H Q :=
  ⟨e, w, hw, R, g.bind.mono fun r e' w' s R' g' v q hr n => h v r q e' w' s R' hr n g'⟩
/-- .. in the middle of an evaluation from w0 on -/
theorem tE.on {ev : Env → R Rv} {k : Rv → Env → R α} {p : α → Env → Wo → Prop} {Q : VK} (s0 : Step w0 w) (R : Rep S σ e w) (g : Good S W σ w0 ((ev e).bind k) p)
    (h : ∀ v r q e w', Step w w' → Step w0 w' → Rep S σ e w' → RvRep S σ w' v r q → New w0 q → New w q → Good S W σ w0 (k r e) p → Q v w'.H) : tE S W ev σ w.H Q :=
  ⟨e, w, rfl, R, (g.bind.base s0).mono fun r e' w' s R' g' v q hr n => h v r q e' w' s g'.1 R' hr (n.step s0) n g'.2⟩
theorem apart {v1 v2 : V} {x y : Rv} {q1 q2 : List Addr} (h1 : RvRep S σ w v1 x q1) (n : New w q2) : ∀ z ∈ q1, z ∉ q2 := fun z hz h2 => by
  obtain ⟨us, hu⟩ := h1.there z hz
  exact (h1.off z hz).2.1 (n z h2 _ hu)
theorem aparts {vs : List V} {rs : List Rv} {q1 q2 : List Addr} (h1 : RvReps S σ w vs rs q1) (n : New w q2) : ∀ z ∈ q1, z ∉ q2 := fun z hz h2 => by
  obtain ⟨us, hu⟩ := h1.there z hz
  exact (h1.off z hz).2.1 (n z h2 _ hu)
/-- two expressions, then an operation -/
theorem tE.two {ea eb : Env → R Rv} {op : Rv → Rv → Env → R α} {p : Wo → α → Env → Wo → Prop} {H : Hp} {P : V → V → Hp → Prop}
    (h : ∃ e w, w.H = H ∧ Rep S σ e w ∧ Good S W σ w ((ea e).bind fun x e => (eb e).bind fun y e => op x y e) (p w))
    (fin : ∀ w0 w e x y v1 v2 q1 q2, Step w0 w → Rep S σ e w → RvRep S σ w v1 x q1 → RvRep S σ w v2 y q2 → (∀ z ∈ q1, z ∉ q2) → New w0 q1 → New w0 q2 → Good S W σ w0 (op x y e) (p w0) → P v1 v2 w.H) :
    tE S W ea σ H fun v1 H1 => tE S W eb σ H1 fun v2 H2 => P v1 v2 H2 := by
  obtain ⟨e, w, rfl, R, g⟩ := h
  refine tE.one rfl R g fun v1 x q1 e1 w1 s1 R1 r1 n1 g1 => ?_
  refine tE.on s1 R1 g1 fun v2 y q2 e2 w2 s2 s02 R2 r2 n2 n21 g2 => ?_
  exact fin w w2 e2 x y v1 v2 q1 q2 s02 R2 (r1.step s2) r2 (apart (v2 := v2) (y := y) r1 n21) n1 n2 g2
/-- the end: a value -/
theorem Good.val {d : D} {Q : VK} (g : Good S W σ w0 (.ok (.val d) e) (postR S σ w0 Q)) (s : Step w0 w) (R : Rep S σ e w) (h : Dat S w.F d v) : Q v w.H := g w s R v [] ⟨rfl, h⟩ (New.nil _)
/-- .. a new tuple -/
theorem Good.tup {ds : List D} {vs : List V} {Q : VK} (g : Good S W σ w0 (.ok (.val (.tup ds)) e) (postR S σ w0 Q)) (s : Step w0 w) (R : Rep S σ e w) (h : Dats S w.F ds vs) {p : Addr} (hp : w.H p = none) : Q (.ref p) (upd w.H p (.tup vs)) := by
  obtain ⟨R', s'⟩ := alloc_val R (o := .tup vs) hp
  refine g.val (w := ⟨upd w.F p (.tup vs), upd w.H p (.tup vs), w.fp, w.lf⟩) (s.trans s') R' ⟨p, vs, rfl, SqT.of upd_same, h.mono s'.a⟩
/-- .. a new list -/
theorem Good.new {ds : List D} {vs : List V} {Q : VK} (g : Good S W σ w0 (.ok (.fresh ds) e) (postR S σ w0 Q)) (s : Step w0 w) (R : Rep S σ e w) {f : List Addr} (h : OwnIs S w.F w.H ds vs f) (nd : f.Nodup) (off : Off w f) (nw : New w0 f) {p : Addr} (hp : w.H p = none) :
    Q (.ref p) (upd w.H p (.lst vs)) := by
  obtain ⟨R', s'⟩ := alloc_new R (o := .lst vs) hp
  have lp : ¬ w.le p := fun z => by
    obtain ⟨o, ho⟩ := R.leh p z
    rw [hp] at ho; cases ho
  have pf : p ∉ f := fun z => by
    obtain ⟨us, hu⟩ := h.there p z
    rw [hp] at hu; cases hu
  refine g ⟨w.F, upd w.H p (.lst vs), w.fp, w.lf⟩ (s.trans s') R' (.ref p) (p :: f) ⟨p, rfl, ⟨vs, f, upd_same, rfl, h.mono (Same.refl _) fun x hx => ?_⟩, List.nodup_cons.mpr ⟨pf, nd⟩, fun x hx => ?_⟩ fun x hx o ho => ?_
  · exact upd_ne fun z => pf (by rw [← z]; exact hx)
  · rcases List.mem_cons.mp hx with rfl | hx
    · exact ⟨same_none R.sub hp, R.nofp hp, lp⟩
    · exact off x hx
  · rcases List.mem_cons.mp hx with rfl | hx
    · obtain ⟨o', ho'⟩ := s.e x o ho
      rw [hp] at ho'; cases ho'
    · exact nw x hx o ho
end
end Fp
/-! FpOps: operators by values, where the layer's own are narrower. -/
namespace Fp
open PySem PySem.Spec PyProof.Rows L2
theorem LIM_eq : LIM = sizeLine := by rw [sizeLine_eq]; rfl
section
variable {X : Cx} {pins : List (Addr × Obj)} {σ : L2.St} {H : Hp} {s : Shared} {l b : Addr} {xs ys zs : List V}
theorem rdLst (I : Inv X pins σ H s) (hH : L2.Rd H l (.lst xs)) : xs.length ≤ sizeLine ∧ ∃ (its : List Value) (n : Nat), Vals xs its ∧ xs.length = its.length ∧ s.heap.get? l = some { cls := .type "list", data := .seq its.toArray n } := by
  obtain ⟨z, its, n, r, e⟩ := hH.ok I.hok
  exact ⟨z, its, n, r, r.length, e⟩
end
section
variable {X : Cx}
def rCatQ : R2 := fun x y H Q => ∃ l b xs zs, x = .ref l ∧ y = .ref b ∧ L2.Rd H l (.lst xs) ∧ L2.Rd H b (.lst zs) ∧ xs.length + zs.length ≤ sizeLine ∧ ∀ p, H p = none → Q (.ref p) (upd H p (.lst (xs ++ zs)))
theorem op_catQ : OpR X (binaryOp .Add) rCatQ := by
  intro pins s σ H x y v u Q I rx ry h
  obtain ⟨l, b, xs, zs, rfl, rfl, hH, hB, hz, q⟩ := h
  cases rx
  cases ry
  obtain ⟨z, its, n, r, hl, e⟩ := rdLst I hH
  obtain ⟨z2, its2, n2, r2, hl2, e2⟩ := rdLst I hB
  refine PySem.P.add_list e e2 ?_ (by rw [List.size_toArray, List.size_toArray]; omega)
  have ea : its.toArray ++ its2.toArray = (its ++ its2).toArray := by simp
  rw [ea]
  exact ⟨.ref _, _, I.lnew (t' := s.toks) (r.append r2) (by rw [List.length_append]; omega), rfl, q _ I.fresh⟩
def rRepQ : R2 := fun x y H Q => ∃ l k xs, x = .ref l ∧ y = .int k ∧ L2.Rd H l (.lst xs) ∧ -(2 ^ 63) ≤ k ∧ k < 2 ^ 63 ∧ xs.length * k.toNat ≤ sizeLine ∧
  ∀ p, H p = none → Q (.ref p) (upd H p (.lst (List.replicate k.toNat xs).flatten))
theorem foldl_reps (its : List Value) : ∀ (m : Nat), (List.foldl (fun x1 x2 => x1 ++ x2) #[] (List.replicate m its.toArray)) = (List.replicate m its).flatten.toArray := fun m => by
  have h := foldl_rep its m []
  rw [List.nil_append] at h
  exact h
theorem op_repQ : OpR X (binaryOp .Mult) rRepQ := by
  intro pins s σ H x y v u Q I rx ry h
  obtain ⟨l, k, xs, rfl, rfl, hH, h1, h2, hz, q⟩ := h
  cases rx
  obtain ⟨t, rfl⟩ := ry
  obtain ⟨z, its, n, r, hl, e⟩ := rdLst I hH
  have hlen : its.toArray.size * k.toNat ≤ sizeLine := by rw [List.size_toArray, ← hl]; exact hz
  have hcap : ¬ its.toArray.size * k.toNat > (2 ^ 63 - 1) / 8 := by
    have c : (sizeLine : Nat) ≤ (2 ^ 63 - 1) / 8 := by decide
    omega
  have hfit : ¬ (!Builtin.List.listFitsIndex k) = true := by rw [fitsIndex_both h1 h2]; exact Bool.false_ne_true
  have hlong : ¬ Builtin.List.listTooLong (its.toArray.size * k.toNat) = true := by rw [notLongL hlen]; exact Bool.false_ne_true
  have hnew : List.foldl (fun x1 x2 => x1 ++ x2) #[] (List.replicate (if its.toArray.isEmpty = true then 0 else k.toNat) its.toArray) = (List.replicate k.toNat its).flatten.toArray := by
    rw [foldl_reps]
    cases its with
    | nil => simp
    | cons a r' => rw [if_neg (by simp)]
  refine wpAny_binaryOp_repeat_ref (T := "list") (U := "int") (by decide) ⟨_, e, rfl⟩ (fun s' => typeIs_int s' k t) noFill_list_mul F.fills_int_mul F.slot_int_rmul repeat_list F.slot_int_index.lookup
    (call_meets F.slot_int_rmul (typeIs_int s k t) F.entry_int_rmul (F.args_int_rmul_2 _ _) (int___rmul___int_list k t l its.toArray n)
      ⟨e, rfl, ⟨_, e, rfl⟩, call_meets F.slot_list_mul ⟨_, e, rfl⟩ F.entry_list_mul (F.args_list_mul_2 _ _) (AutoListH.list___mul___list_int_3 l its.toArray n k t hfit hcap hlong) ⟨e, ?_⟩⟩)
  rw [hnew]
  exact ⟨.ref _, _, I.lnew (t' := s.toks) (r.rep k.toNat) (by rw [PyProof.Rows.lm_len_rep_flat, Nat.mul_comm]; exact hz), rfl, q _ I.fresh⟩
/-- t * 1, () * k: t itself -/
theorem tuple_mul_same (l : Addr) (items : Array Value) (n : Nat) (dd : Option Addr) (sl : Array (Option Value)) (x : Int) (u : Tok) (c0 : (decide (x < -(2 ^ 63)) || decide (x ≥ 2 ^ 63)) = false) (c1 : (items.isEmpty || x == 1) = true) :
    Meets (Builtin.«tuple.__mul__» ⟨[.ref l, .int x u], []⟩) (fun _ R s => s.heap.get? l = some { cls := .type "tuple", dict := dd, data := .seq items n, slots := sl } ∧ R (.ok (.ret (Value.ref l))) s) :=
  .of_wp fun prog w A R s h => by
    obtain ⟨hp, g, d, tk, os⟩ := s
    obtain ⟨hl, h⟩ := h
    have f1 := AutoSeq1.idx_int
    wp_walk using wpAny_loadPart' hl
    repeat (first
      | (refine wpAny_ite_false (decide_eq_false (by rw [c0]; exact Bool.false_ne_true)) ?_; wp_walk using wpAny_loadPart' hl)
      | (refine wpAny_ite_true (decide_eq_true (by rw [c1])) ?_; wp_walk using wpAny_loadPart' hl))
    exact ⟨_, rfl, h⟩
/-- t * k, k at most 0: a new empty tuple -/
theorem tuple_mul_none (l : Addr) (items : Array Value) (n : Nat) (dd : Option Addr) (sl : Array (Option Value)) (x : Int) (u : Tok) (c0 : (decide (x < -(2 ^ 63)) || decide (x ≥ 2 ^ 63)) = false) (c1 : (items.isEmpty || x == 1) = false) (c2 : (decide (x ≤ 0) || items.isEmpty) = true) :
    Meets (Builtin.«tuple.__mul__» ⟨[.ref l, .int x u], []⟩) (fun _ R s => s.heap.get? l = some { cls := .type "tuple", dict := dd, data := .seq items n, slots := sl } ∧
      R (.ok (.ret (Value.ref s.heap.objs.size))) { s with heap := s.heap.push { cls := Value.type "tuple", data := Data.seq #[] }, toks := s.toks }) :=
  .of_wp fun prog w A R s h => by
    obtain ⟨hp, g, d, tk, os⟩ := s
    obtain ⟨hl, h⟩ := h
    have f1 := AutoSeq1.idx_int
    wp_walk using wpAny_loadPart' hl
    repeat (first
      | (refine wpAny_ite_false (decide_eq_false (by rw [c0]; exact Bool.false_ne_true)) ?_; wp_walk using wpAny_loadPart' hl)
      | (refine wpAny_ite_false (decide_eq_false (by rw [c1]; exact Bool.false_ne_true)) ?_; wp_walk using wpAny_loadPart' hl)
      | (refine wpAny_ite_true (decide_eq_true (by rw [c2])) ?_; wp_walk using wpAny_loadPart' hl))
    exact ⟨_, rfl, h⟩
def rRepTQ (K : PySem.W.Frag) : R2 := fun x y H Q => ∃ l k xs, x = .ref l ∧ y = .int k ∧ SqT K H l xs ∧ -(2 ^ 63) ≤ k ∧ k ≤ 1000 ∧ xs.length ≤ 1000 ∧
  ((xs = [] ∨ k = 1) → Q (.ref l) H) ∧ (xs ≠ [] → k ≠ 1 → ∀ p, H p = none → Q (.ref p) (upd H p (.tup (List.replicate k.toNat xs).flatten)))
theorem op_repTQ : OpR X (binaryOp .Mult) (rRepTQ X.K) := by
  intro pins s σ H x y v u Q I rx ry h
  obtain ⟨l, k, xs, rfl, rfl, hT, h1, h2, hz, q1, q2⟩ := h
  by_cases hb : xs ≠ [] ∧ 2 ≤ k
  · exact op_repT pins s σ H _ _ v u Q I rx ry ⟨l, k, xs, rfl, rfl, hT, hb.1, hb.2, h2, hz, q2 hb.1 (by omega)⟩
  · cases rx
    obtain ⟨t, rfl⟩ := ry
    obtain ⟨its, r, ⟨⟨cls, dd, data, sl⟩, ho, hc, n, hd⟩, hs⟩ := I.tuple hT
    simp only at hc hd
    subst hc hd
    have hle : its.length = xs.length := r.length.symm
    have c0 : (decide (k < -(2 ^ 63)) || decide (k ≥ 2 ^ 63)) = false := by rw [decide_eq_false (by omega), decide_eq_false (by omega)] <;> rfl
    by_cases he : xs = [] ∨ k = 1
    · have c1 : (its.toArray.isEmpty || k == 1) = true := by
        rcases he with z | z
        · subst z
          have : its = [] := List.eq_nil_of_length_eq_zero hle
          rw [this] <;> rfl
        · rw [z]; simp
      refine wpAny_binaryOp_repeat_ref (T := "tuple") (U := "int") (by decide) ⟨_, ho, rfl⟩ (fun s' => typeIs_int s' k t) noFill_tuple_mul F.fills_int_mul F.slot_int_rmul repeat_tuple F.slot_int_index.lookup
        (call_meets F.slot_int_rmul (typeIs_int s k t) F.entry_int_rmul (F.args_int_rmul_2 _ _) (int_rmul_tuple k t l its.toArray n dd sl)
          ⟨ho, rfl, ⟨_, ho, rfl⟩, call_meets F.slot_tuple_mul ⟨_, ho, rfl⟩ F.entry_tuple_mul (F.args_tuple_mul_2 _ _) (tuple_mul_same l its.toArray n dd sl k t c0 c1) ⟨ho, ?_⟩⟩)
      exact ⟨.ref l, H, I, rfl, q1 he⟩
    · have hx : xs ≠ [] := fun z => he (.inl z)
      have hk1 : k ≠ 1 := fun z => he (.inr z)
      have hk : k ≤ 0 := by
        have : ¬ 2 ≤ k := fun z => hb ⟨hx, z⟩
        omega
      have hn : its ≠ [] := fun e => hx (by
        rw [e] at hle
        exact List.eq_nil_of_length_eq_zero hle.symm)
      have hi : its.toArray.isEmpty = false := by
        cases its with
        | nil => exact absurd rfl hn
        | cons a b => rfl
      have c1 : (its.toArray.isEmpty || k == 1) = false := by
        rw [hi, Bool.false_or]
        exact beq_eq_false_iff_ne.mpr hk1
      have c2 : (decide (k ≤ 0) || its.toArray.isEmpty) = true := by rw [decide_eq_true hk]; rfl
      refine wpAny_binaryOp_repeat_ref (T := "tuple") (U := "int") (by decide) ⟨_, ho, rfl⟩ (fun s' => typeIs_int s' k t) noFill_tuple_mul F.fills_int_mul F.slot_int_rmul repeat_tuple F.slot_int_index.lookup
        (call_meets F.slot_int_rmul (typeIs_int s k t) F.entry_int_rmul (F.args_int_rmul_2 _ _) (int_rmul_tuple k t l its.toArray n dd sl)
          ⟨ho, rfl, ⟨_, ho, rfl⟩, call_meets F.slot_tuple_mul ⟨_, ho, rfl⟩ F.entry_tuple_mul (F.args_tuple_mul_2 _ _) (tuple_mul_none l its.toArray n dd sl k t c0 c1 c2) ⟨ho, ?_⟩⟩)
      have h0 : k.toNat = 0 := by omega
      have qq := q2 hx hk1 s.heap.objs.size (I.hok.fresh (Nat.le_refl _))
      rw [h0] at qq
      refine ⟨.ref s.heap.objs.size, _, I.laid (t' := s.toks) (o := .tup []) (fun b ob q => Heap.get?_push_of_some _ q) (Nat.le_refl _) ?_, rfl, qq⟩
      exact ⟨Nat.zero_le _, [], .nil, IsTup.new _ _⟩
theorem mulOk_ok {i j : Int} (h : mulOk i j = true) : IntMulOk i j := by
  unfold IntMulOk
  intro z
  unfold mulOk at h
  rw [z] at h
  cases h
theorem fdivOk_ok {i j : Int} (h : fdivOk i j = true) : j ≠ 0 ∧ Builtin.divisionGoesByPylong i j = false := by
  unfold fdivOk at h
  simp only [Bool.and_eq_true, decide_eq_true_eq, Bool.not_eq_true'] at h
  exact h
theorem op_mulG : OpR X (binaryOp .Mult) (rI (fun i j => mulOk i j = true) fun i j => .int (i * j)) := opI fun _ _ _ _ _ _ _ hc q => mul_int q (mulOk_ok hc)
theorem op_fdivG : OpR X (binaryOp .FloorDiv) (rI (fun i j => fdivOk i j = true) fun i j => .int (i.fdiv j)) := opI fun _ _ _ _ _ _ _ hc q => floordiv_int (fdivOk_ok hc).1 q (.inl (fdivOk_ok hc).2)
end

/-! ### the evaluator's operators -/
def bopOf : Bop → Operator
  | .add => .Add
  | .sub => .Sub
  | .mul => .Mult
  | .fdiv => .FloorDiv
  | .mod => .Mod
  | .pow => .Pow
/-- what the layer is asked by values -/
def rBop (K : PySem.W.Frag) (o : Bop) : R2 := fun x y H Q =>
  (∃ i j k, x = .int i ∧ y = .int j ∧ arith o i j = some k ∧ Q (.int k) H) ∨
  match o with
  | .add => rCatQ x y H Q ∨ rCatA K x y H Q ∨ ∃ i j, x = .str i ∧ y = .str j ∧ i.length + j.length ≤ sizeLine ∧ Q (.str (i ++ j)) H
  | .mul => rRepQ x y H Q ∨ rRepTQ K x y H Q
  | _ => False
theorem op_bop {X : Cx} (o : Bop) : OpR X (binaryOp (bopOf o)) (rBop X.K o) := by
  intro pins s σ H x y v u Q I rx ry h
  rcases h with ⟨i, j, k, ex, ey, ea, q⟩ | h
  · cases o with
    | add =>
      cases ea
      exact op_add pins s σ H x y v u Q I rx ry ⟨i, j, ex, ey, q⟩
    | sub =>
      cases ea
      exact op_sub pins s σ H x y v u Q I rx ry ⟨i, j, ex, ey, q⟩
    | mul =>
      unfold arith at ea
      simp only at ea
      split at ea
      · rename_i hm
        cases ea
        exact op_mulG pins s σ H x y v u Q I rx ry ⟨i, j, ex, ey, hm, q⟩
      · cases ea
    | fdiv =>
      unfold arith at ea
      simp only at ea
      split at ea
      · rename_i hm
        cases ea
        exact op_fdivG pins s σ H x y v u Q I rx ry ⟨i, j, ex, ey, hm, q⟩
      · cases ea
    | mod =>
      unfold arith at ea
      simp only at ea
      split at ea
      · cases ea
      · rename_i hm
        cases ea
        exact op_modN pins s σ H x y v u Q I rx ry ⟨i, j, ex, ey, hm, q⟩
    | pow =>
      unfold arith at ea
      simp only at ea
      split at ea
      · rename_i hm
        cases ea
        exact op_pow pins s σ H x y v u Q I rx ry ⟨i, j, ex, ey, (show 0 ≤ j ∧ j ≤ 1000000 ∧ i.natAbs < 2 ^ 64 from of_decide_eq_true hm), q⟩
      · cases ea
  · cases o with
    | add =>
      rcases h with h | h | h
      · exact op_catQ pins s σ H x y v u Q I rx ry h
      · exact op_catA pins s σ H x y v u Q I rx ry h
      · exact op_add_str pins s σ H x y v u Q I rx ry h
    | mul =>
      rcases h with h | h
      · exact op_repQ pins s σ H x y v u Q I rx ry h
      · exact op_repTQ pins s σ H x y v u Q I rx ry h
    | _ => exact h.elim
end Fp
/-! FpExpr: expressions. -/
namespace Fp
open PySem PySem.Spec PyProof.Rows L2
theorem PE.imp {X : L2.Cx} {e : Expr} {t t' : TE} (h : PE X e t) (k : ∀ σ H Q, t' σ H Q → t σ H Q) : PE X e t' := ⟨fun pins s σ H Q I z => h.run pins s σ H Q I (k σ H Q z)⟩
theorem PT.imp {X : L2.Cx} {e : Expr} {t t' : TT} (h : PT X e t) (k : ∀ σ H Q, t' σ H Q → t σ H Q) : PT X e t' := ⟨fun pins s σ H Q I z => h.run pins s σ H Q I (k σ H Q z)⟩
theorem PA.imp {X : L2.Cx} {e : List Expr} {t t' : TA} (h : PA X e t) (k : ∀ σ H Q, t' σ H Q → t σ H Q) : PA X e t' := ⟨fun pos pins s σ H Q I z => h.run pos pins s σ H Q I (k σ H Q z)⟩
theorem PW.imp {X : L2.Cx} {e : Expr} {t t' : TT} (h : PW X e t) (k : ∀ σ H Q, t' σ H Q → t σ H Q) : PW X e t' := ⟨fun wh pins s σ H Q I z => h.run wh pins s σ H Q I (k σ H Q z)⟩
theorem OpR.imp {X : L2.Cx} {f : Value → Value → Sem Value} {r r' : R2} (h : OpR X f r) (k : ∀ x y H Q, r' x y H Q → r x y H Q) : OpR X f r' := fun pins s σ H x y v u Q I rx ry z => h pins s σ H x y v u Q I rx ry (k _ _ _ _ z)

section
variable {S : Se} {W : WX} {σ : L2.St} {e e' : Env} {w w' w0 w1 w2 : Wo} {v v1 v2 : V} {r x y : Rv} {q q1 q2 : List Addr} {α β : Type}
theorem mem_app_new {w : Wo} {a b : List Addr} (h1 : New w a) (h2 : New w b) : New w (a ++ b) := fun x hx => (List.mem_append.mp hx).elim (h1 x) (h2 x)
theorem peek1 (s0 : Step w0 w) (Re : Rep S σ e w) (r1 : RvRep S σ w v x q) (n1 : New w0 q) {k : D → Env → R α} {p : α → Env → Wo → Prop} (g : Good S W σ w0 ((e.peek x).bind k) p) :
    ∃ w' e' d, w'.H = w.H ∧ Gh w w' q ∧ Step w0 w' ∧ Rep S σ e' w' ∧ Red S w' d v ∧ Good S W σ w0 (k d e') p := by
  rcases peek_nx (e := e) (x := x) with ⟨d, e', h⟩ | h
  · rw [h, Fp.R.bind_ok] at g
    obtain ⟨w', R', G, rd⟩ := peek_ok Re r1 h
    exact ⟨w', e', d, G.h, G, s0.gh G n1, R', rd, g⟩
  · rw [h] at g
    exact g.elim
theorem asVal1 (s0 : Step w0 w) (Re : Rep S σ e w) (r1 : RvRep S σ w v x q) (n1 : New w0 q) {k : D → Env → R α} {p : α → Env → Wo → Prop} (g : Good S W σ w0 ((e.asVal x).bind k) p) :
    ∃ w' e' d, w'.H = w.H ∧ Gh w w' q ∧ Step w0 w' ∧ Rep S σ e' w' ∧ Dat S w'.F d v ∧ Good S W σ w0 (k d e') p := by
  rcases asVal_nx (e := e) (x := x) with ⟨d, e', h⟩ | h
  · rw [h, Fp.R.bind_ok] at g
    obtain ⟨w', R', G, rd⟩ := asVal_ok Re r1 h
    exact ⟨w', e', d, G.h, G, s0.gh G n1, R', rd, g⟩
  · rw [h] at g
    exact g.elim
theorem peek2 (s0 : Step w0 w) (Re : Rep S σ e w) (r1 : RvRep S σ w v1 x q1) (r2 : RvRep S σ w v2 y q2) (ap : ∀ z ∈ q1, z ∉ q2) (n1 : New w0 q1) (n2 : New w0 q2) {k : D → D → Env → R α} {p : α → Env → Wo → Prop}
    (g : Good S W σ w0 ((e.peek x).bind fun x e => (e.peek y).bind fun y e => k x y e) p) :
    ∃ w' e' d1 d2, w'.H = w.H ∧ Gh w w' (q1 ++ q2) ∧ Step w0 w' ∧ Rep S σ e' w' ∧ Red S w' d1 v1 ∧ Red S w' d2 v2 ∧ Good S W σ w0 (k d1 d2 e') p := by
  obtain ⟨wa, ea, d1, h1, G1, s1, R1, rd1, g1⟩ := peek1 s0 Re r1 n1 g
  obtain ⟨wb, eb, d2, h2, G2, s2, R2, rd2, g2⟩ := peek1 s1 R1 (r2.gh G1 fun z hz hz2 => ap z hz2 hz) n2 g1
  exact ⟨wb, eb, d1, d2, h2.trans h1, G1.trans G2, s2, R2, rd1.gh G2, rd2, g2⟩
theorem asVal2 (s0 : Step w0 w) (Re : Rep S σ e w) (r1 : RvRep S σ w v1 x q1) (r2 : RvRep S σ w v2 y q2) (ap : ∀ z ∈ q1, z ∉ q2) (n1 : New w0 q1) (n2 : New w0 q2) {k : D → D → Env → R α} {p : α → Env → Wo → Prop}
    (g : Good S W σ w0 ((e.asVal x).bind fun x e => (e.asVal y).bind fun y e => k x y e) p) :
    ∃ w' e' d1 d2, w'.H = w.H ∧ Gh w w' (q1 ++ q2) ∧ Step w0 w' ∧ Rep S σ e' w' ∧ Dat S w'.F d1 v1 ∧ Dat S w'.F d2 v2 ∧ Good S W σ w0 (k d1 d2 e') p := by
  obtain ⟨wa, ea, d1, h1, G1, s1, R1, rd1, g1⟩ := asVal1 s0 Re r1 n1 g
  obtain ⟨wb, eb, d2, h2, G2, s2, R2, rd2, g2⟩ := asVal1 s1 R1 (r2.gh G1 fun z hz hz2 => ap z hz2 hz) n2 g1
  exact ⟨wb, eb, d1, d2, h2.trans h1, G1.trans G2, s2, R2, Dat.mono G2.a _ _ rd1, rd2, g2⟩

theorem Red.int {i : Int} (h : Red S w (.int i) v) : v = .int i := h
theorem Red.tup {ds : List D} (s : Same w.F w.H) (h : Red S w (.tup ds) v) : ∃ a vs, v = .ref a ∧ SqT S.K w.H a vs ∧ Dats S w.F ds vs := by
  obtain ⟨a, vs, e, q, r⟩ := h
  exact ⟨a, vs, e, Same.seqT s q, r⟩
theorem Red.lst {ds : List D} (h : Red S w (.lst ds) v) : ∃ a vs, v = .ref a ∧ L2.Rd w.H a (.lst vs) ∧ Dats S w.F ds vs := h
theorem len0 {S : Se} {F : Hp} {ds : List D} {vs : List V} (h : Dats S F ds vs) : (ds = [] ↔ vs = []) := by
  have := h.len
  constructor
  · intro z; subst z; exact List.eq_nil_of_length_eq_zero (by simpa using this.symm)
  · intro z; subst z; exact List.eq_nil_of_length_eq_zero (by simpa using this)

/-! ### binary operators -/
theorem opBin_cases (o : Bop) (x y : Rv) (e : Env) : (∃ i j, x = .val (.int i) ∧ y = .val (.int j)) ∨ opBin o x y e = (e.peek x).bind fun x e => (e.peek y).bind fun y e => opSeq o x y e := by
  unfold opBin
  split
  · exact .inl ⟨_, _, rfl, rfl⟩
  · exact .inr rfl
theorem fin_bin {o : Bop} {Q : VK} (s0 : Step w0 w) (Re : Rep S σ e w) (r1 : RvRep S σ w v1 x q1) (r2 : RvRep S σ w v2 y q2) (ap : ∀ z ∈ q1, z ∉ q2) (n1 : New w0 q1) (n2 : New w0 q2)
    (g : Good S W σ w0 (opBin o x y e) (postR S σ w0 Q)) : rBop S.K o v1 v2 w.H Q := by
  rcases opBin_cases o x y e with ⟨i, j, rfl, rfl⟩ | h
  · have h1 : v1 = .int i := r1.2
    have h2 : v2 = .int j := r2.2
    unfold opBin at g
    simp only at g
    cases ha : arith o i j with
    | none => rw [ha] at g; exact g.elim
    | some k =>
      rw [ha] at g
      exact .inl ⟨i, j, k, h1, h2, ha, g.val s0 Re (v := .int k) rfl⟩
  · rw [h] at g
    obtain ⟨w', e', d1, d2, hH, G, s', R', rd1, rd2, g'⟩ := peek2 s0 Re r1 r2 ap n1 n2 g
    rw [← hH]
    unfold opSeq at g'
    split at g'
    · split at g'
      · rename_i hl
        obtain ⟨a, vs, rfl, h1, t1⟩ := rd1.lst
        obtain ⟨b, us, rfl, h2, t2⟩ := rd2.lst
        rw [LIM_eq, t1.len, t2.len] at hl
        exact .inr (.inl ⟨a, b, vs, us, rfl, rfl, h1, h2, hl, fun p hp => g'.new s' R' (.of_dats (t1.app t2)) List.nodup_nil (fun _ h => by simp at h) (New.nil _) hp⟩)
      · exact g'.elim
    · split at g'
      · rename_i hl
        obtain ⟨a, vs, rfl, h1, t1⟩ := rd1.tup R'.sub
        obtain ⟨b, us, rfl, h2, t2⟩ := rd2.tup R'.sub
        rw [LIM_eq, t1.len, t2.len] at hl
        refine .inr (.inr (.inl ⟨a, b, vs, us, rfl, rfl, h1, h2, hl, fun z => ?_, fun z z2 => ?_, fun z z2 p hp => g'.tup s' R' (t1.app t2) hp⟩))
        · have z' := (len0 t1).mpr z
          rw [z', List.nil_append] at g'
          exact g'.val s' R' rd2
        · have z' := (len0 t2).mpr z2
          rw [z', List.append_nil] at g'
          exact g'.val s' R' rd1
      · exact g'.elim
    · split at g'
      · rename_i xs k hl
        obtain ⟨a, vs, rfl, h1, t1⟩ := rd1.lst
        rw [LIM_eq, t1.len] at hl
        exact .inr (.inl ⟨a, k, vs, rfl, rd2, h1, hl.1, hl.2.1, hl.2.2, fun p hp => g'.new s' R' (.of_dats (t1.rep _)) List.nodup_nil (fun _ h => by simp at h) (New.nil _) hp⟩)
      · exact g'.elim
    · split at g'
      · rename_i xs k hl
        obtain ⟨a, vs, rfl, h1, t1⟩ := rd1.tup R'.sub
        rw [t1.len] at hl
        refine .inr (.inr ⟨a, k, vs, rfl, rd2, h1, hl.1, hl.2.1, hl.2.2, fun z => ?_, fun z1 z2 p hp => g'.tup s' R' (t1.rep _) hp⟩)
        have e1 : (List.replicate k.toNat xs).flatten = xs := by
          rcases z with z | z
          · rw [(len0 t1).mpr z]; simp
          · rw [z]; simp
        rw [e1] at g'
        exact g'.val s' R' rd1
      · exact g'.elim
    · split at g'
      · rename_i a b hl
        rw [LIM_eq] at hl
        exact .inr (.inr (.inr ⟨a, b, rd1, rd2, hl, g'.val s' R' (v := .str (a ++ b)) rfl⟩))
      · exact g'.elim
    · exact g'.elim
end
section
variable {X : L2.Cx} {S : Se} {W : WX} {a b c : Expr} {ea eb ec : Env → R Rv} {pos : Pos}
theorem s_bin (hK : S.K = X.K) (o : Bop) (ha : PE X a (tE S W ea)) (hb : PE X b (tE S W eb)) : PE X (.BinOp a (bopOf o) b pos) (tE S W fun e => (ea e).bind fun x e => (eb e).bind fun y e => opBin o x y e) :=
  PE.imp (pe_op (op_bop o) ha hb) fun σ H Q h => tE.two (p := fun w => postR S σ w Q) h fun w0 w e x y v1 v2 q1 q2 s R r1 r2 ap n1 n2 g => by
    rw [← hK]
    exact fin_bin s R r1 r2 ap n1 n2 g

/-! ### constants, names -/
theorem s_cst {x : Expr} {d : D} {v : V} (h : PE X x (tC v)) (hd : ∀ F, Dat S F d v) : PE X x (tE S W fun e => .ok (.val d) e) :=
  PE.imp h fun σ H Q ⟨e, w, hw, R, g⟩ => by
    rw [← hw]
    exact g.val (Step.refl w) R (hd _)
theorem s_var {x : Expr} {i : Nat} (h : PE X x (tVar i)) : PE X x (tE S W fun e => e.var i) :=
  PE.imp h fun σ H Q ⟨e, w, hw, R, g⟩ => by
    subst hw
    have done : ∀ {r v q}, σ[i]? = some (some v) → RvRep S σ w v r q → New w q → Good S W σ w (.ok r e) (postR S σ w Q) → ∃ v, σ[i]? = some (some v) ∧ Q v w.H := fun {r v q} h1 h2 h3 g => ⟨v, h1, g w (Step.refl w) R v q h2 h3⟩
    have get : ∀ {v : V}, (σ[i]?).join = some v → σ[i]? = some (some v) := fun {v} h => by
      cases q : σ[i]? with
      | none => rw [q] at h; cases h
      | some z => rw [q] at h; exact congrArg some h
    have g : Good S W σ w (e.var i) (postR S σ w Q) := g
    unfold Env.var at g
    cases hs : e.sl[i]? with
    | none => rw [hs] at g; exact g.elim
    | some s =>
      rw [hs] at g
      have r := R.slot i s hs
      cases s with
      | no => exact g.elim
      | val d =>
        obtain ⟨_, v, e1, rd⟩ := r
        exact done (get e1) (r := .val d) (q := []) ⟨rfl, rd⟩ (New.nil _) g
      | own ds =>
        obtain ⟨a, e1, _⟩ := r
        exact done (get e1) (r := .loc (.s i)) (q := []) ⟨rfl, get e1⟩ (New.nil _) g
      | lea ds =>
        obtain ⟨_, a, vs, e1, _⟩ := r
        exact done (get e1) (r := .loc (.s i)) (q := []) ⟨rfl, get e1⟩ (New.nil _) g
      | lnk k =>
        obtain ⟨_, a, e1, e2⟩ := r
        simp only at g
        cases hp : e.ps[k]? with
        | none => rw [hp] at g; exact g.elim
        | some p =>
          rw [hp] at g
          obtain ⟨b, e3, z⟩ := R.par k p hp
          rw [e2] at e3
          cases e3
          cases p with
          | own ds => exact done (get e1) (r := .loc (.p k)) (q := []) ⟨rfl, a, e2, rfl⟩ (New.nil _) g
          | lea ds => exact done (get e1) (r := .loc (.p k)) (q := []) ⟨rfl, a, e2, rfl⟩ (New.nil _) g
          | frz ds => exact done (get e1) (r := .val (.lst ds)) (q := []) ⟨rfl, z.2⟩ (New.nil _) g
theorem s_neg (ha : PE X a (tE S W ea)) : PE X (.UnaryOp .USub a pos) (tE S W fun e => (ea e).bind fun x e => match x with
    | .val (.int i) => .ok (.val (.int (-i))) e
    | _ => .bad) :=
  PE.imp (pe_un un_neg ha) fun σ H Q ⟨e, w, hw, R, g⟩ => tE.one hw R g fun v x q e w' s R' r n g => by
    split at g
    · rename_i i
      exact ⟨i, r.2, g.val s R' (v := .int (-i)) rfl⟩
    · exact g.elim
end
end Fp
/-! FpExpr2: comparisons, tests. -/
namespace Fp
open PySem PySem.Spec PyProof.Rows L2
mutual
theorem Dat.dp {S : Se} {F H : Hp} (s : Same F H) : ∀ (d : D) (v : V), Dat S F d v → d.pure = true → Dp S.K H v d.toP
  | .non, v, h, _ => by rw [show v = .non from h]; exact .non
  | .bl b, v, h, _ => by rw [show v = .bl b from h]; exact .bl b
  | .int i, v, h, _ => by rw [show v = .int i from h]; exact .int i
  | .str x, v, h, _ => by rw [show v = .str x from h]; exact .str x
  | .tup ds, v, h, p => by
    obtain ⟨a, vs, rfl, q, r⟩ := h
    exact .tup (Same.seqT s q) (Dats.dp s ds vs r p)
  | .lst ds, v, h, p => by
    obtain ⟨a, vs, rfl, q, r⟩ := h
    exact .lst (.inl (rdSame s q)) (Dats.dp s ds vs r p)
  | .olst _, _, h, _ => h.elim
  | .dic _ _, _, _, p => by cases p
  | .exc _ _, _, _, p => by cases p
  | .klst _, _, _, p => by cases p
theorem Dats.dp {S : Se} {F H : Hp} (s : Same F H) : ∀ (ds : List D) (vs : List V), Dats S F ds vs → D.pures ds = true → DpAll S.K H vs (D.toPs ds)
  | [], [], _, _ => .nil
  | d :: ds, v :: vs, h, p => by
    have p' : (d.pure && D.pures ds) = true := p
    rw [Bool.and_eq_true] at p'
    exact .cons (Dat.dp s d v h.1 p'.1) (Dats.dp s ds vs h.2 p'.2)
  | [], _ :: _, h, _ => h.elim
  | _ :: _, [], h, _ => h.elim
end
section
variable {S : Se} {W : WX} {σ : L2.St} {e e' : Env} {w w' w0 w1 w2 : Wo} {v v1 v2 : V} {r x y : Rv} {q q1 q2 : List Addr} {α β : Type}
theorem Red.dp (s : Same w.F w.H) {d : D} (h : Red S w d v) (p : d.pure = true) : Dp S.K w.H v d.toP := by
  cases d with
  | lst ds =>
    obtain ⟨a, vs, rfl, q, r⟩ := h
    exact .lst (.inl q) (r.dp s _ _ p)
  | _ => exact Dat.dp s _ _ h p
theorem Red.isN {d : D} (h : Red S w d v) : decide (v = .non) = d.isNon := by
  cases d with
  | non => rw [show v = .non from h]; rfl
  | bl b => rw [show v = .bl b from h]; rfl
  | int b => rw [show v = .int b from h]; rfl
  | str b => rw [show v = .str b from h]; rfl
  | tup ds => obtain ⟨a, vs, rfl, _⟩ := h; rfl
  | lst ds => obtain ⟨a, vs, rfl, _⟩ := h; rfl
  | olst ds => exact h.elim
  | dic ks ws => obtain ⟨a, rfl, _⟩ := h; rfl
  | exc c d => obtain ⟨a, _, _, _, rfl, _⟩ := h; rfl
  | klst ds => obtain ⟨a, _, rfl, _⟩ := h; rfl
theorem any_toPs (d : D) : ∀ ys : List D, (D.toPs ys).any (fun z => PyData.eqv z d.toP) = ys.any fun y => y.eqv d
  | [] => rfl
  | y :: ys => by
    show (PyData.eqv y.toP d.toP || (D.toPs ys).any _) = (y.eqv d || _)
    rw [any_toPs d ys]
    rfl
end
section
variable {X : L2.Cx}
def rInT (K : PySem.W.Frag) (neg : Bool) : R2 := fun x y H Q => ∃ d ds, Dp K H x d ∧ Dp K H y (.tuple ds) ∧ SeqAt.shaped d = true ∧ SeqAt.shaped (.tuple ds) = true ∧ Q (.bl (if neg then !ds.any fun z => PyData.eqv z d else ds.any fun z => PyData.eqv z d)) H
theorem op_inT (hu : X.A.units + 65 < cLine) : OpR X (compareOp .In) (rInT X.K false) := by
  intro pins s σ H x y v u Q I rx ry h
  obtain ⟨d, ds, hd, he, sd, se, q⟩ := h
  obtain ⟨as, r1⟩ := Dp.reads I d x v hd rx
  obtain ⟨bs, r2⟩ := Dp.reads I (.tuple ds) y u he ry
  exact SeqAt.in_tuple_reads r2 r1 (SeqAt.canLay_of_shaped se) (SeqAt.canLay_of_shaped sd) (room_in_shaped sd hu) ⟨.bl _, H, I, rfl, q⟩
theorem op_notInT (hu : X.A.units + 65 < cLine) : OpR X (compareOp .NotIn) (rInT X.K true) := by
  intro pins s σ H x y v u Q I rx ry h
  obtain ⟨d, ds, hd, he, sd, se, q⟩ := h
  obtain ⟨as, r1⟩ := Dp.reads I d x v hd rx
  obtain ⟨bs, r2⟩ := Dp.reads I (.tuple ds) y u he ry
  exact SeqAt.notIn_tuple_reads r2 r1 (SeqAt.canLay_of_shaped se) (SeqAt.canLay_of_shaped sd) (room_in_shaped sd hu) ⟨.bl _, H, I, rfl, q⟩
def copOf : Cop → CmpOp
  | .eq => .Eq
  | .ne => .NotEq
  | .lt => .Lt
  | .le => .LtE
  | .gt => .Gt
  | .ge => .GtE
  | .is => .Is
  | .isnot => .IsNot
  | .isin => .In
  | .notin => .NotIn
def rCop (K : PySem.W.Frag) (o : Cop) : R2 := fun x y H Q =>
  (∃ i j b, x = .int i ∧ y = .int j ∧ cmpI o i j = some b ∧ Q (.bl b) H) ∨
  match o with
  | .eq => rEqD K x y H Q
  | .ne => rNeD K x y H Q
  | .is => y = .non ∧ Q (.bl (decide (x = .non))) H
  | .isnot => y = .non ∧ Q (.bl (!decide (x = .non))) H
  | .isin => rInD K x y H Q ∨ rInT K false x y H Q
  | .notin => rNotInD K x y H Q ∨ rInT K true x y H Q
  | _ => False
theorem op_eqI : OpR X (compareOp .Eq) (rI0 fun i j => .bl (decide (i = j))) := opB0 fun _ _ _ _ _ _ _ q => eq_int (by rw [Bool.beq_eq_decide_eq]; exact q)
theorem op_neI : OpR X (compareOp .NotEq) (rI0 fun i j => .bl (!decide (i = j))) := opB0 fun _ _ _ _ _ _ _ q => ne_int (by rw [bne, Bool.beq_eq_decide_eq]; exact q)
theorem op_cop (hu : X.A.units + 65 < cLine) (o : Cop) : OpR X (compareOp (copOf o)) (rCop X.K o) := by
  intro pins s σ H x y v u Q I rx ry h
  rcases h with ⟨i, j, k, ex, ey, ea, q⟩ | h
  · cases o with
    | eq => cases ea; exact op_eqI pins s σ H x y v u Q I rx ry ⟨i, j, ex, ey, q⟩
    | ne => cases ea; exact op_neI pins s σ H x y v u Q I rx ry ⟨i, j, ex, ey, q⟩
    | lt => cases ea; exact op_lt pins s σ H x y v u Q I rx ry ⟨i, j, ex, ey, q⟩
    | le => cases ea; exact op_le pins s σ H x y v u Q I rx ry ⟨i, j, ex, ey, q⟩
    | gt => cases ea; exact op_gt pins s σ H x y v u Q I rx ry ⟨i, j, ex, ey, q⟩
    | ge => cases ea; exact op_ge pins s σ H x y v u Q I rx ry ⟨i, j, ex, ey, q⟩
    | _ => cases ea
  · cases o with
    | eq => exact op_eqD (by omega) pins s σ H x y v u Q I rx ry h
    | ne => exact op_neD (by omega) pins s σ H x y v u Q I rx ry h
    | is => exact op_isN pins s σ H x y v u Q I rx ry h
    | isnot => exact op_notN pins s σ H x y v u Q I rx ry h
    | isin =>
      rcases h with h | h
      · exact op_inD hu pins s σ H x y v u Q I rx ry h
      · exact op_inT hu pins s σ H x y v u Q I rx ry h
    | notin =>
      rcases h with h | h
      · exact op_notInD hu pins s σ H x y v u Q I rx ry h
      · exact op_notInT hu pins s σ H x y v u Q I rx ry h
    | _ => exact h.elim
end
section
variable {S : Se} {W : WX} {σ : L2.St} {e e' : Env} {w w' w0 w1 w2 : Wo} {v v1 v2 : V} {r x y : Rv} {q q1 q2 : List Addr} {α β : Type}
theorem Good.blV {m : R Bool} {Q : VK} (g : Good S W σ w0 m.blV (postR S σ w0 Q)) : Good S W σ w0 m fun b e w => Q (.bl b) w.H := by
  cases m with
  | ok b e => exact fun w s R => g w s R (.bl b) [] ⟨rfl, rfl⟩ (New.nil _)
  | ex c d e => exact g
  | bad => exact g
theorem opCmp_cases (o : Cop) (x y : Rv) (e : Env) : (∃ i j, x = .val (.int i) ∧ y = .val (.int j)) ∨ opCmp o x y e = (e.peek x).bind fun x e => (e.peek y).bind fun y e => cmpD o x y e := by
  unfold opCmp
  split
  · exact .inl ⟨_, _, rfl, rfl⟩
  · exact .inr rfl
theorem eqOk_both {d : D} (h : d.eqOk = true) : d.pure = true ∧ SeqAt.shaped d.toP = true := by
  unfold D.eqOk at h
  exact Bool.and_eq_true_iff.mp h
theorem fin_cmp {o : Cop} {Q : VK} (s0 : Step w0 w) (Re : Rep S σ e w) (r1 : RvRep S σ w v1 x q1) (r2 : RvRep S σ w v2 y q2) (ap : ∀ z ∈ q1, z ∉ q2) (n1 : New w0 q1) (n2 : New w0 q2)
    (g : Good S W σ w0 (opCmp o x y e) fun b e w => Q (.bl b) w.H) : rCop S.K o v1 v2 w.H Q := by
  rcases opCmp_cases o x y e with ⟨i, j, rfl, rfl⟩ | h
  · have h1 : v1 = .int i := r1.2
    have h2 : v2 = .int j := r2.2
    unfold opCmp at g
    simp only at g
    cases ha : cmpI o i j with
    | none => rw [ha] at g; exact g.elim
    | some k =>
      rw [ha] at g
      exact .inl ⟨i, j, k, h1, h2, ha, g w s0 Re⟩
  · rw [h] at g
    obtain ⟨w', e', d1, d2, hH, G, s', R', rd1, rd2, g'⟩ := peek2 s0 Re r1 r2 ap n1 n2 g
    rw [← hH]
    unfold cmpD at g'
    split at g'
    · have q := g' w' s' R'
      refine .inr ⟨rd2, ?_⟩
      rw [rd1.isN]
      exact q
    · have q := g' w' s' R'
      refine .inr ⟨rd2, ?_⟩
      rw [rd1.isN]
      exact q
    · split at g'
      · rename_i hh
        rw [Bool.and_eq_true] at hh
        obtain ⟨p1, z1⟩ := eqOk_both hh.1
        obtain ⟨p2, z2⟩ := eqOk_both hh.2
        exact .inr ⟨_, _, rd1.dp R'.sub p1, rd2.dp R'.sub p2, z1, z2, g' w' s' R'⟩
      · exact g'.elim
    · split at g'
      · rename_i hh
        rw [Bool.and_eq_true] at hh
        obtain ⟨p1, z1⟩ := eqOk_both hh.1
        obtain ⟨p2, z2⟩ := eqOk_both hh.2
        exact .inr ⟨_, _, rd1.dp R'.sub p1, rd2.dp R'.sub p2, z1, z2, g' w' s' R'⟩
      · exact g'.elim
    · split at g'
      · rename_i hh
        rw [Bool.and_eq_true] at hh
        obtain ⟨p1, z1⟩ := eqOk_both hh.1
        obtain ⟨p2, z2⟩ := eqOk_both hh.2
        refine .inr (.inr ⟨_, _, rd1.dp R'.sub p1, rd2.dp R'.sub p2, z1, z2, ?_⟩)
        rw [if_neg Bool.false_ne_true, any_toPs]
        exact g' w' s' R'
      · exact g'.elim
    · split at g'
      · rename_i hh
        rw [Bool.and_eq_true] at hh
        obtain ⟨p1, z1⟩ := eqOk_both hh.1
        obtain ⟨p2, z2⟩ := eqOk_both hh.2
        refine .inr (.inl ⟨_, _, rd1.dp R'.sub p1, rd2.dp R'.sub p2, z1, z2, ?_⟩)
        rw [any_toPs]
        exact g' w' s' R'
      · exact g'.elim
    · split at g'
      · rename_i hh
        rw [Bool.and_eq_true] at hh
        obtain ⟨p1, z1⟩ := eqOk_both hh.1
        obtain ⟨p2, z2⟩ := eqOk_both hh.2
        refine .inr (.inr ⟨_, _, rd1.dp R'.sub p1, rd2.dp R'.sub p2, z1, z2, ?_⟩)
        rw [if_pos rfl, any_toPs]
        exact g' w' s' R'
      · exact g'.elim
    · split at g'
      · rename_i hh
        rw [Bool.and_eq_true] at hh
        obtain ⟨p1, z1⟩ := eqOk_both hh.1
        obtain ⟨p2, z2⟩ := eqOk_both hh.2
        refine .inr (.inl ⟨_, _, rd1.dp R'.sub p1, rd2.dp R'.sub p2, z1, z2, ?_⟩)
        rw [any_toPs]
        exact g' w' s' R'
      · exact g'.elim
    · exact g'.elim
/-- a value's truth -/
theorem fin_tru {Q : Bool → Hp → Prop} (s0 : Step w0 w) (Re : Rep S σ e w) (r1 : RvRep S σ w v x q) (n1 : New w0 q) (g : Good S W σ w0 (opTru x e) (postB Q)) : ∃ k, TruV S.K v w.H k ∧ Q k w.H := by
  unfold opTru at g
  split at g
  · rename_i b
    have h1 : v = .bl b := r1.2
    exact ⟨b, by rw [h1]; exact rfl, g w s0 Re⟩
  · obtain ⟨w', e', d, hH, G, s', R', rd, g'⟩ := peek1 s0 Re r1 n1 g
    rw [← hH]
    cases ht : truth d with
    | none => rw [ht] at g'; exact g'.elim
    | some b =>
      rw [ht] at g'
      refine ⟨b, ?_, g' w' s' R'⟩
      cases d with
      | non => cases ht; rw [show v = .non from rd]; exact rfl
      | bl b' => cases ht; rw [show v = .bl b from rd]; exact rfl
      | int i => cases ht; rw [show v = .int i from rd]; exact rfl
      | str z =>
        unfold truth at ht
        simp only at ht
        split at ht
        · rename_i hl
          cases ht
          rw [LIM_eq] at hl
          rw [show v = .str z from rd]; exact ⟨hl, rfl⟩
        · cases ht
      | tup ds =>
        cases ht
        obtain ⟨a, vs, rfl, q1, t⟩ := rd.tup R'.sub
        have e1 : ds.isEmpty = vs.isEmpty := by
          have := t.len
          cases ds <;> cases vs <;> simp_all
        rw [e1]
        exact .inr (.inl ⟨vs, q1, rfl⟩)
      | lst ds =>
        cases ht
        obtain ⟨a, vs, rfl, q1, t⟩ := rd.lst
        have e1 : ds.isEmpty = vs.isEmpty := by
          have := t.len
          cases ds <;> cases vs <;> simp_all
        rw [e1]
        exact .inl ⟨vs, .inl q1, rfl⟩
      | _ => cases ht
end
end Fp
/-! FpExpr3: tests, displays, subscripts, slices. -/
namespace Fp
open PySem PySem.Spec PyProof.Rows L2
section
variable {S : Se} {W : WX} {σ : L2.St} {e e' : Env} {w w' w0 w1 w2 : Wo} {v v1 v2 : V} {r x y : Rv} {q q1 q2 : List Addr} {α β : Type}
theorem blV_tru (m : R Bool) : (m.blV.bind fun r e => opTru r e) = m := by
  cases m <;> rfl
theorem tE.of {ev : Env → R Rv} {H : Hp} {Q : VK} (hw : w.H = H) (R : Rep S σ e w) (g : Good S W σ w (ev e) (postR S σ w Q)) : tE S W ev σ H Q := ⟨e, w, hw, R, g⟩
/-- a test, then what follows -/
theorem tT.on {ev : Env → R Bool} {k : Bool → Env → R α} {p : α → Env → Wo → Prop} {Q : Bool → Hp → Prop} (s0 : Step w0 w) (R : Rep S σ e w) (g : Good S W σ w0 ((ev e).bind k) p)
    (h : ∀ b e w', Step w w' → Step w0 w' → Rep S σ e w' → Good S W σ w0 (k b e) p → Q b w'.H) : tT S W ev σ w.H Q :=
  ⟨e, w, rfl, R, (g.bind.base s0).mono fun b e' w' s R' g' => h b e' w' s g'.1 R' g'.2⟩
theorem tT.one {H : Hp} {ev : Env → R Bool} {k : Bool → Env → R α} {p : α → Env → Wo → Prop} {Q : Bool → Hp → Prop} (hw : w.H = H) (R : Rep S σ e w) (g : Good S W σ w ((ev e).bind k) p)
    (h : ∀ b e w', Step w w' → Rep S σ e w' → Good S W σ w (k b e) p → Q b w'.H) : tT S W ev σ H Q := by
  subst hw
  exact tT.on (Step.refl w) R g fun b e w' s _ R' g' => h b e w' s R' g'
theorem tA.on {ev : Env → R (List Rv)} {k : List Rv → Env → R α} {p : α → Env → Wo → Prop} {Q : List V → Hp → Prop} (s0 : Step w0 w) (R : Rep S σ e w) (g : Good S W σ w0 ((ev e).bind k) p)
    (h : ∀ vs rs q e w', Step w w' → Step w0 w' → Rep S σ e w' → RvReps S σ w' vs rs q → New w0 q → New w q → q.Nodup → Good S W σ w0 (k rs e) p → Q vs w'.H) : tA S W ev σ w.H Q :=
  ⟨e, w, rfl, R, (g.bind.base s0).mono fun rs e' w' s R' g' vs q hr n nd => h vs rs q e' w' s g'.1 R' hr (n.step s0) n nd g'.2⟩
theorem tA.one {H : Hp} {ev : Env → R (List Rv)} {k : List Rv → Env → R α} {p : α → Env → Wo → Prop} {Q : List V → Hp → Prop} (hw : w.H = H) (R : Rep S σ e w) (g : Good S W σ w ((ev e).bind k) p)
    (h : ∀ vs rs q e w', Step w w' → Rep S σ e w' → RvReps S σ w' vs rs q → New w q → q.Nodup → Good S W σ w (k rs e) p → Q vs w'.H) : tA S W ev σ H Q := by
  subst hw
  exact tA.on (Step.refl w) R g fun vs rs q e w' s _ R' hr n _ nd g' => h vs rs q e w' s R' hr n nd g'
/-- the rest of an evaluation from a later state -/
theorem tE.rest {ev : Env → R Rv} {Q : VK} (s0 : Step w0 w) (R : Rep S σ e w) (g : Good S W σ w0 (ev e) (postR S σ w0 Q)) : tE S W ev σ w.H Q :=
  ⟨e, w, rfl, R, (g.base s0).mono fun r e' w' s R' g' v q hr n => g'.2 v q hr (n.step s0)⟩
theorem tT.rest {ev : Env → R Bool} {Q : Bool → Hp → Prop} (s0 : Step w0 w) (R : Rep S σ e w) (g : Good S W σ w0 (ev e) (postB Q)) : tT S W ev σ w.H Q :=
  ⟨e, w, rfl, R, (g.base s0).mono fun r e' w' s R' g' => g'.2⟩
end
section
variable {X : L2.Cx} {S : Se} {W : WX} {a b c : Expr} {ea eb ec : Env → R Rv} {ta tb tc : Env → R Bool} {pos : Pos} {es rest : List Expr} {eas : Env → R (List Rv)}
theorem s_cmp (hK : S.K = X.K) (hu : X.A.units + 65 < cLine) (o : Cop) (ha : PE X a (tE S W ea)) (hb : PE X b (tE S W eb)) (hm : behindInMarks (copOf o) b = false) :
    PE X (.Compare a [copOf o] [b] pos) (tE S W fun e => ((ea e).bind fun x e => (eb e).bind fun y e => opCmp o x y e).blV) :=
  PE.imp (pe_cmpR (op_cop hu o) ha hb hm) fun σ H Q ⟨e, w, hw, R, g⟩ => tE.two (p := fun _ b e w => Q (.bl b) w.H) ⟨e, w, hw, R, g.blV⟩ fun w0 w e x y v1 v2 q1 q2 s R r1 r2 ap n1 n2 g => by
    rw [← hK]
    exact fin_cmp s R r1 r2 ap n1 n2 g
theorem t_cmp (hK : S.K = X.K) (hu : X.A.units + 65 < cLine) (o : Cop) (ha : PE X a (tE S W ea)) (hb : PE X b (tE S W eb)) (hm : behindInMarks (copOf o) b = false) :
    PT X (.Compare a [copOf o] [b] pos) (tT S W fun e => (ea e).bind fun x e => (eb e).bind fun y e => opCmp o x y e) :=
  PT.imp (pt_cmpR (op_cop hu o) ha hb hm) fun σ H Q h => by
    refine tE.two (P := fun v1 v2 H2 => rCop X.K o v1 v2 H2 fun x H' => ∃ k, x = .bl k ∧ Q k H') (p := fun _ => postB Q) h fun w0 w e x y v1 v2 q1 q2 s R r1 r2 ap n1 n2 g => ?_
    rw [← hK]
    exact fin_cmp s R r1 r2 ap n1 n2 (g.mono fun b e w _ _ h => ⟨b, rfl, h⟩)
theorem t_val (hK : S.K = X.K) (ha : PE X a (tE S W ea)) (he : ∀ whole, isTrue a X.env whole = (do let v ← whole; standAt a.pos; holding [v] (truthy v))) : PT X a (tT S W fun e => (ea e).bind fun r e => opTru r e) :=
  PT.imp (pt_truth ha he) fun σ H Q ⟨e, w, hw, R, g⟩ => tE.one hw R g fun v r q e w' s R' hr n g => by
    rw [← hK]
    exact fin_tru s R' hr n g
theorem t_not (ha : PT X a (tT S W ta)) : PT X (.UnaryOp .Not a pos) (tT S W fun e => (ta e).bind fun t e => .ok (!t) e) :=
  PT.imp (pt_not ha) fun σ H Q ⟨e, w, hw, R, g⟩ => tT.one hw R g fun b e w' s R' g => g w' s R'
theorem t_and1 (ha : PT X a (tT S W ta)) : PW X (.BoolOp .And [a] pos) (tT S W ta) := pw_and1 ha
theorem t_or1 (ha : PT X a (tT S W ta)) : PW X (.BoolOp .Or [a] pos) (tT S W ta) := pw_or1 ha
theorem t_and (ha : PT X a (tT S W ta)) (hb : PW X (.BoolOp .And (b :: rest) pos) (tT S W tb)) : PW X (.BoolOp .And (a :: b :: rest) pos) (tT S W fun e => (ta e).bind fun t e => if t then tb e else .ok false e) :=
  PW.imp (pw_and ha hb) fun σ H Q ⟨e, w, hw, R, g⟩ => tT.one (Q := fun c H1 => if c = true then tT S W tb σ H1 Q else Q false H1) hw R g fun t e w' s R' g => by
    cases t with
    | true => exact tT.rest s R' g
    | false => exact g w' s R'
theorem t_or (ha : PT X a (tT S W ta)) (hb : PW X (.BoolOp .Or (b :: rest) pos) (tT S W tb)) : PW X (.BoolOp .Or (a :: b :: rest) pos) (tT S W fun e => (ta e).bind fun t e => if t then .ok true e else tb e) :=
  PW.imp (pw_or ha hb) fun σ H Q ⟨e, w, hw, R, g⟩ => tT.one (Q := fun c H1 => if c = true then Q true H1 else tT S W tb σ H1 Q) hw R g fun t e w' s R' g => by
    cases t with
    | false => exact tT.rest s R' g
    | true => exact g w' s R'
theorem s_and (ha : PE X a (tE S W ea)) (hb : PE X (.BoolOp .And (b :: rest) pos) (tE S W eb)) : PE X (.BoolOp .And (a :: b :: rest) pos) (tE S W fun e => (ea e).bind fun x e => match x with
    | .val (.bl true) => eb e
    | .val (.bl false) => .ok (.val (.bl false)) e
    | _ => .bad) :=
  PE.imp (pe_and ha hb) fun σ H Q ⟨e, w, hw, R, g⟩ => tE.one hw R g fun v r q e w' s R' hr n g => by
    split at g
    · exact ⟨true, hr.2, tE.rest s R' g⟩
    · exact ⟨false, hr.2, g.val s R' (v := .bl false) rfl⟩
    · exact g.elim
theorem s_or (ha : PE X a (tE S W ea)) (hb : PE X (.BoolOp .Or (b :: rest) pos) (tE S W eb)) : PE X (.BoolOp .Or (a :: b :: rest) pos) (tE S W fun e => (ea e).bind fun x e => match x with
    | .val (.bl true) => .ok (.val (.bl true)) e
    | .val (.bl false) => eb e
    | _ => .bad) :=
  PE.imp (pe_or ha hb) fun σ H Q ⟨e, w, hw, R, g⟩ => tE.one hw R g fun v r q e w' s R' hr n g => by
    split at g
    · exact ⟨true, hr.2, g.val s R' (v := .bl true) rfl⟩
    · exact ⟨false, hr.2, tE.rest s R' g⟩
    · exact g.elim
/-- not x, x any value -/
theorem pe_notT {t : TE} (ha : PE X a t) : PE X (.UnaryOp .Not a pos) (fun σ H Q => t σ H fun x H1 => ∃ k, TruV X.K x H1 k ∧ Q (.bl (!k)) H1) := by
  refine ⟨fun pins s σ H Q I h => ?_⟩
  refine UnaryOp_ (thn (ha.run pins s σ H _ I h) fun v s1 ⟨x, H1, I1, r1, q1⟩ => ?_)
  refine not_of (thn (tru_ok pins s1 σ H1 x v (fun k H' => Q (.bl (!k)) H') I1 r1 q1) fun k s2 ⟨H2, I2, q2⟩ => ?_)
  exact ⟨.bl (!k), H2, I2, rfl, q2⟩
theorem s_not (hK : S.K = X.K) (ha : PE X a (tE S W ea)) : PE X (.UnaryOp .Not a pos) (tE S W fun e => ((ea e).bind fun x e => (opTru x e).bind fun b e => .ok (!b) e).blV) :=
  PE.imp (pe_notT ha) fun σ H Q ⟨e, w, hw, R, g⟩ => tE.one (p := fun b e w => Q (.bl b) w.H) hw R g.blV fun v r q e w' s R' hr n g => by
    rw [← hK]
    exact fin_tru s R' hr n (g.bind.mono fun b e w s R h => h w s R)
theorem s_ite (hc : PT X c (tT S W tc)) (ha : PE X a (tE S W ea)) (hb : PE X b (tE S W eb)) : PE X (.IfExp c a b pos) (tE S W fun e => (tc e).bind fun t e => if t then ea e else eb e) :=
  PE.imp (pe_ifExp hc ha hb) fun σ H Q ⟨e, w, hw, R, g⟩ => tT.one (Q := fun t H1 => if t = true then tE S W ea σ H1 Q else tE S W eb σ H1 Q) hw R g fun t e w' s R' g => by
    cases t with
    | true => exact tE.rest s R' g
    | false => exact tE.rest s R' g
/-! ### argument lists, displays -/
theorem s_nil : PA X [] (tA S W fun e => .ok [] e) := PA.imp pa_nil fun σ H Q ⟨e, w, hw, R, g⟩ => by
  subst hw
  exact g w (Step.refl w) R [] [] ⟨rfl, rfl⟩ (New.nil _) List.nodup_nil
theorem s_cons (ha : PE X a (tE S W ea)) (hr : PA X es (tA S W eas)) (hs : starEach (a :: es) X.env = (false, eval a X.env) :: starEach es X.env) :
    PA X (a :: es) (tA S W fun e => (ea e).bind fun r e => (eas e).bind fun rs e => .ok (r :: rs) e) :=
  PA.imp (pa_cons ha hr hs) fun σ H Q ⟨e, w, hw, R, g⟩ => tE.one hw R g fun v r q e w1 s R1 hr1 n1 g => tA.on s R1 g fun vs rs q2 e w2 s2 s02 R2 hr2 n2 n12 nd g =>
    g w2 s02 R2 (v :: vs) (q ++ q2) ⟨v, vs, q, q2, rfl, rfl, hr1.step s2, hr2⟩ (mem_app_new n1 n2) (List.nodup_append.mpr ⟨hr1.nd, nd, fun a ha b hb z => by
      subst z
      obtain ⟨us, hu⟩ := hr1.there a ha
      exact (hr1.off a ha).2.1 (n12 a hb _ hu)⟩)
theorem asVals_nx {e : Env} : ∀ {rs : List Rv}, (∃ ds e', e.asVals rs = .ok ds e') ∨ e.asVals rs = .bad
  | [] => .inl ⟨_, _, rfl⟩
  | r :: rs => by
    unfold Env.asVals
    rcases asVal_nx (e := e) (x := r) with ⟨d, e1, h⟩ | h
    · rw [h, Fp.R.bind_ok]
      rcases asVals_nx (e := e1) (rs := rs) with ⟨ds, e2, h2⟩ | h2
      · rw [h2]; exact .inl ⟨_, _, rfl⟩
      · rw [h2]; exact .inr rfl
    · rw [h]; exact .inr rfl
theorem item_nx {e : Env} {x : Rv} : (∃ d e', e.item x = .ok d e') ∨ e.item x = .bad := by
  cases x with
  | fresh ds => exact .inl ⟨_, _, rfl⟩
  | val d => exact asVal_nx (e := e) (x := .val d)
  | loc l => exact asVal_nx (e := e) (x := .loc l)
theorem items_nx {e : Env} : ∀ {rs : List Rv}, (∃ ds e', e.items rs = .ok ds e') ∨ e.items rs = .bad
  | [] => .inl ⟨_, _, rfl⟩
  | r :: rs => by
    unfold Env.items
    rcases item_nx (e := e) (x := r) with ⟨d, e1, h⟩ | h
    · rw [h, Fp.R.bind_ok]
      rcases items_nx (e := e1) (rs := rs) with ⟨ds, e2, h2⟩ | h2
      · rw [h2]; exact .inl ⟨_, _, rfl⟩
      · rw [h2]; exact .inr rfl
    · rw [h]; exact .inr rfl
theorem s_tup {k : Nat} (h : PA X es (tA S W eas)) : PE X (.Tuple es k pos) (tE S W fun e => (eas e).bind fun rs e => (e.asVals rs).bind fun ds e => if ds.length ≤ LIM then .ok (.val (.tup ds)) e else .bad) :=
  PE.imp (pe_tup h) fun σ H Q ⟨e, w, hw, R, g⟩ => tA.one hw R g fun vs rs q e w' s R' hr n nd g => by
    rcases asVals_nx (e := e) (rs := rs) with ⟨ds, e1, h1⟩ | h1
    · rw [h1, Fp.R.bind_ok] at g
      obtain ⟨w2, R2, G, dd⟩ := asVals_ok R' hr nd h1
      split at g
      · rename_i hl
        rw [LIM_eq, dd.len] at hl
        rw [← G.h]
        exact ⟨hl, fun p hp => g.tup (s.gh G n) R2 dd hp⟩
      · exact g.elim
    · rw [h1] at g; exact g.elim
theorem s_lst (h : PA X es (tA S W eas)) : PE X (.List es pos) (tE S W fun e => (eas e).bind fun rs e => (e.items rs).bind fun ds e => if ds.length ≤ LIM then .ok (.fresh ds) e else .bad) :=
  PE.imp (pe_lst h) fun σ H Q ⟨e, w, hw, R, g⟩ => tA.one hw R g fun vs rs q e w' s R' hr n nd g => by
    rcases items_nx (e := e) (rs := rs) with ⟨ds, e1, h1⟩ | h1
    · rw [h1, Fp.R.bind_ok] at g
      obtain ⟨w2, f, R2, G, dd, sub, nf, off⟩ := items_ok R' hr nd h1
      split at g
      · rename_i hl
        rw [LIM_eq, dd.len] at hl
        rw [← G.h]
        exact ⟨hl, fun p hp => g.new (s.gh G n) R2 dd nf off (fun x hx => n x (sub x hx)) hp⟩
      · exact g.elim
    · rw [h1] at g; exact g.elim

/-! ### subscripts -/
theorem fin_idx {σ : L2.St} {e : Env} {w w0 : Wo} {v1 v2 : V} {x y : Rv} {q1 q2 : List Addr} {Q : VK} (s0 : Step w0 w) (Re : Rep S σ e w) (r1 : RvRep S σ w v1 x q1) (r2 : RvRep S σ w v2 y q2) (n1 : New w0 q1)
    (g : Good S W σ w0 (opIdx x y e) (postR S σ w0 Q)) : rIx S.K v1 v2 w.H Q := by
  unfold opIdx at g
  split at g
  · rename_i i
    have h2 : v2 = .int i := r2.2
    split at g
    · rename_i ds
      cases ha : L2.atI ds i with
      | none => rw [ha] at g; exact g.elim
      | some d =>
        rw [ha] at g
        obtain ⟨a, vs, rfl, h1, t⟩ := Red.tup (v := v1) Re.sub r1.2
        obtain ⟨v, hv, dv⟩ := t.at ha
        exact .inr (.inl ⟨a, vs, i, v, rfl, h2, h1, hv, g.val s0 Re dv⟩)
    · rename_i ds
      cases ha : L2.atI ds i with
      | none => rw [ha] at g; exact g.elim
      | some d =>
        rw [ha] at g
        obtain ⟨a, vs, rfl, h1, t⟩ := Red.lst (v := v1) (Red.of Re.sub r1.2)
        obtain ⟨v, hv, dv⟩ := t.at ha
        exact .inl ⟨a, vs, i, v, rfl, h2, .inl h1, hv, g.val s0 Re dv⟩
    · rename_i z
      split at g
      · rename_i hl
        rw [LIM_eq] at hl
        cases ha : L2.atI z.cps.toList i with
        | none => rw [ha] at g; exact g.elim
        | some c =>
          rw [ha] at g
          exact .inr (.inr ⟨z, i, c, r1.2, h2, hl, ha, g.val s0 Re (v := .str ⟨#[c]⟩) rfl⟩)
      · exact g.elim
    · rename_i ds
      cases ha : L2.atI ds i with
      | none => rw [ha] at g; exact g.elim
      | some d =>
        rw [ha] at g
        obtain ⟨w', R', G, dd⟩ := ghost_held Re r1
        obtain ⟨a, vs, rfl, h1, t⟩ := Red.lst (v := v1) (Red.of R'.sub dd)
        have ha' : L2.atI (ds.map frz1) i = some (frz1 d) := by
          unfold L2.atI at ha ⊢
          rw [List.length_map]
          cases z : ixN ds.length i with
          | none => rw [z] at ha; simp at ha
          | some j => rw [z] at ha; simp at ha ⊢; exact ⟨d, ha, rfl⟩
        obtain ⟨v, hv, dv⟩ := t.at ha'
        rw [← G.h]
        exact .inl ⟨a, vs, i, v, rfl, h2, .inl h1, hv, g.val (s0.gh G n1) R' dv⟩
    · rename_i l
      cases hl : e.at l with
      | none => rw [hl] at g; exact g.elim
      | some p =>
        rw [hl] at g
        cases p with
        | own ds =>
          simp only at g
          cases hx : L2.ixN ds.length i with
          | none => rw [hx] at g; exact g.elim
          | some j =>
            rw [hx] at g
            simp only at g
            cases hj : ds[j]? with
            | none => rw [hj] at g; exact g.elim
            | some d =>
              rw [hj] at g
              obtain ⟨a, ra, o⟩ := (Re.at hl).own
              have e1 : v1 = .ref a := rvLoc ra.locA r1
              obtain ⟨vs, gg, q, eg, os⟩ := o
              have hx' : L2.ixN vs.length i = some j := by rw [← os.len]; exact hx
              by_cases hO : d.isO = true
              · cases d with
                | olst xs =>
                  -- the nested list becomes a value
                  have sp : ds = ds.take j ++ .olst xs :: ds.drop (j + 1) := by
                    have hj' : j < ds.length := (List.getElem?_eq_some_iff.mp hj).1
                    rw [List.getElem?_eq_getElem hj'] at hj
                    have e2 : ds[j] = .olst xs := Option.some.inj hj
                    rw [← e2]
                    exact (List.take_append_drop j ds).symm.trans (by rw [List.drop_eq_getElem_cons hj'])
                  have os' := os
                  rw [sp] at os'
                  obtain ⟨us, ws, f1, f2, ev, ef, o1, o2⟩ := os'.split
                  obtain ⟨v, ws', fa, fb, ew, ef2, oi, o3⟩ := o2
                  obtain ⟨b, bs, rfl, rfl, hb, db⟩ := oi
                  have nd : (w.fp l).Nodup := Re.nd l
                  rw [eg, ef, ef2] at nd
                  have bl : b ∈ w.fp l := by rw [eg, ef, ef2]; simp
                  have len1 : us.length = j := by
                    rw [← o1.len, List.length_take]
                    have : j < ds.length := (List.getElem?_eq_some_iff.mp hj).1
                    omega
                  have sF : Same w.F (grow w.F w.H [b]) := grow_same fun x hx => by rw [List.mem_singleton.mp hx]; exact Re.off b ⟨l, bl⟩
                  have dn : Dat S (grow w.F w.H [b]) (.lst xs) (.ref b) := ⟨b, bs, rfl, .inl (by rw [grow_in (by simp)]; exact hb), db.mono sF⟩
                  have hset : ds.set j (.lst xs) = ds.take j ++ .lst xs :: ds.drop (j + 1) := by
                    have hj' : j < ds.length := (List.getElem?_eq_some_iff.mp hj).1
                    rw [List.set_eq_take_append_cons_drop, if_pos hj']
                  have n3 : (f1 ++ fb).Nodup ∧ a ∉ f1 ++ fb ∧ b ∉ f1 ++ fb ∧ a ≠ b := by
                    rw [List.nodup_cons, List.nodup_append] at nd
                    simp only [List.mem_append, List.mem_cons, List.not_mem_nil, or_false, not_or, List.nodup_append, List.nodup_cons] at nd ⊢
                    obtain ⟨⟨m1, m2, m3⟩, d1, ⟨⟨_, _⟩, d2, d3⟩, d4⟩ := nd
                    refine ⟨⟨d1, d2, fun x hx y hy => d4 x hx y (.inr hy)⟩, ⟨m1, m3⟩, ⟨fun z => d4 b z b (.inl rfl) rfl, fun z => d3 b rfl b z rfl⟩, m2⟩
                  have onew : OwnIs S (grow w.F w.H [b]) w.H (ds.set j (.lst xs)) vs (f1 ++ fb) := by
                    rw [hset, ev, ew]
                    refine OwnIs.app (o1.mono sF fun _ _ => rfl) ⟨.ref b, ws', [], fb, rfl, rfl, ⟨rfl, dn⟩, o3.mono sF fun _ _ => rfl⟩
                  have al : a ∈ w.fp l := by rw [eg]; simp
                  have subf : ∀ x ∈ a :: (f1 ++ fb), x ∈ w.fp l := fun x hx => by
                    rw [eg, ef, ef2]
                    simp only [List.mem_cons, List.mem_append] at hx ⊢
                    rcases hx with hx | hx | hx
                    · exact .inl hx
                    · exact .inr (.inl hx)
                    · exact .inr (.inr (.inr hx))
                  obtain ⟨R', G⟩ := ghost_at Re hl (p := .own (ds.set j (.lst xs))) (A := [b]) (g := a :: (f1 ++ fb)) (le' := w.lf) (fun x hx => by rw [List.mem_singleton.mp hx]; exact bl) subf
                    (List.nodup_cons.mpr ⟨n3.2.1, n3.1⟩) (fun x hx z => by
                      rw [List.mem_singleton] at z
                      subst z
                      rcases List.mem_cons.mp hx with hx | hx
                      · exact n3.2.2.2 hx.symm
                      · exact n3.2.2.1 hx) (fun x m z => z) (fun x z => .inl z) (fun x hx => Classical.not_not.mp (Re.ale x ⟨l, subf x hx⟩))
                    (PlRep.mk_own ra.locA ⟨vs, f1 ++ fb, q, rfl, onew⟩)
                  have hv : vs[j]? = some (.ref b) := by
                    rw [ev, ew, List.getElem?_append_right (by omega), len1, Nat.sub_self]
                    rfl
                  refine .inl ⟨a, vs, i, .ref b, e1, h2, .inl (.inl q), by unfold L2.atI; rw [hx']; exact hv, ?_⟩
                  exact g.val (w := ⟨grow w.F w.H [b], w.H, updL w.fp l (a :: (f1 ++ fb)), w.lf⟩) (s0.gh G (New.nil _)) R' dn
                | _ => cases hO
              · have g' : Good S W σ w0 (.ok (.val d) e) (postR S σ w0 Q) := by
                  cases d <;> first | exact g | exact absurd rfl hO
                obtain ⟨v, hv, dv⟩ := os.get hj (by simpa using hO)
                exact .inl ⟨a, vs, i, v, e1, h2, .inl (.inl q), by unfold L2.atI; rw [hx']; exact hv, g'.val s0 Re dv⟩
        | lea ds =>
          simp only at g
          cases ha : L2.atI ds i with
          | none => rw [ha] at g; exact g.elim
          | some d =>
            rw [ha] at g
            obtain ⟨a, vs, e1, h1, t⟩ := Red.lst ((Re.at hl).rd Re.sub r1 (.inl rfl))
            obtain ⟨v, hv, dv⟩ := t.at ha
            exact .inl ⟨a, vs, i, v, e1, h2, .inl h1, hv, g.val s0 Re dv⟩
        | frz ds =>
          simp only at g
          cases ha : L2.atI ds i with
          | none => rw [ha] at g; exact g.elim
          | some d =>
            rw [ha] at g
            obtain ⟨a, vs, e1, h1, t⟩ := Red.lst ((Re.at hl).rd Re.sub r1 (.inr rfl))
            obtain ⟨v, hv, dv⟩ := t.at ha
            exact .inl ⟨a, vs, i, v, e1, h2, .inl h1, hv, g.val s0 Re dv⟩
    · exact g.elim
  · exact g.elim
theorem s_idx (hK : S.K = X.K) (ha : PE X a (tE S W ea)) (hb : PE X b (tE S W eb)) (hs : PlainIx b) : PE X (.Subscript a b pos) (tE S W fun e => (ea e).bind fun x e => (eb e).bind fun y e => opIdx x y e) :=
  PE.imp (pe_ix ix_seq ha hb hs) fun σ H Q h => tE.two (p := fun w => postR S σ w Q) h fun w0 w e x y v1 v2 q1 q2 s R r1 r2 ap n1 n2 g => by
    rw [← hK]
    exact fin_idx s R r1 r2 n1 g
end
end Fp
/-! FpExpr4: slices, builtins, isinstance. -/
namespace Fp
open PySem PySem.Spec PyProof.Rows L2
theorem PO.imp {X : L2.Cx} {e : Option Expr} {t t' : TO} (h : PO X e t) (k : ∀ σ H Q, t' σ H Q → t σ H Q) : PO X e t' := ⟨fun pins s σ H Q I z => h.run pins s σ H Q I (k σ H Q z)⟩
def tO (S : Se) (W : WX) (ev : Env → R (Option Int)) : TO := fun σ H Q => ∃ e w, w.H = H ∧ Rep S σ e w ∧ Good S W σ w (ev e) fun o _ w => Q o w.H
section
variable {S : Se} {W : WX} {σ : L2.St} {e e' : Env} {w w' w0 w1 w2 : Wo} {v v1 v2 : V} {r x y : Rv} {q q1 q2 : List Addr} {α β : Type}
theorem tO.on {ev : Env → R (Option Int)} {k : Option Int → Env → R α} {p : α → Env → Wo → Prop} {Q : Option Int → Hp → Prop} (s0 : Step w0 w) (R : Rep S σ e w) (g : Good S W σ w0 ((ev e).bind k) p)
    (h : ∀ b e w', Step w w' → Step w0 w' → Rep S σ e w' → Good S W σ w0 (k b e) p → Q b w'.H) : tO S W ev σ w.H Q :=
  ⟨e, w, rfl, R, (g.bind.base s0).mono fun b e' w' s R' g' => h b e' w' s g'.1 R' g'.2⟩
theorem cut_whole {ds : List D} {lo hi : Option Int} (h : HT.sIx ds.length 0 lo = 0 ∧ HT.sIx ds.length ds.length hi = ds.length) : cutD ds lo hi = ds := by
  unfold cutD
  rw [h.1, h.2]
  simp
end
section
variable {X : L2.Cx} {S : Se} {W : WX} {a b c : Expr} {ea eb ec : Env → R Rv} {pos p2 p : Pos} {es rest : List Expr} {eas : Env → R (List Rv)} {lo hi : Option Expr} {el eh : Env → R (Option Int)}
theorem s_none : PO X none (tO S W fun e => .ok none e) := PO.imp po_none fun σ H Q ⟨e, w, hw, R, g⟩ => by
  subst hw
  exact g w (Step.refl w) R
theorem s_some (ha : PE X a (tE S W ea)) : PO X (some a) (tO S W fun e => (ea e).bind fun r e => match r with
    | .val (.int i) => .ok (some i) e
    | _ => .bad) := PO.imp (po_some ha) fun σ H Q ⟨e, w, hw, R, g⟩ => tE.one hw R g fun v r q e w' s R' hr n g => by
  split at g
  · rename_i i
    exact ⟨i, hr.2, g w' s R'⟩
  · exact g.elim
theorem s_slc (hK : S.K = X.K) (ha : PE X a (tE S W ea)) (hl : PO X lo (tO S W el)) (hh : PO X hi (tO S W eh)) :
    PE X (.Subscript a (.Slice lo hi none p2) pos) (tE S W fun e => (ea e).bind fun x e => (el e).bind fun l e => (eh e).bind fun h e => (e.peek x).bind fun d e => opSlc d l h e) :=
  PE.imp (pe_slice (sl_list.or sl_tupA) ha hl hh) fun σ H Q ⟨e, w, hw, R, g⟩ => tE.one hw R g fun v r q e w1 s1 R1 r1 n1 g => tO.on s1 R1 g fun l e w2 s2 s02 R2 g => tO.on s02 R2 g fun h e w3 s3 s03 R3 g => by
    obtain ⟨w', e', d, hH, G, s', R', rd, g'⟩ := peek1 s03 R3 ((r1.step s2).step s3) n1 g
    rw [← hH, ← hK]
    cases d with
    | tup ds =>
      obtain ⟨a, vs, rfl, q1, t⟩ := rd.tup R'.sub
      refine .inr ⟨a, vs, rfl, q1, fun z => ?_, fun z p hp => g'.tup s' R' (t.cut l h) hp⟩
      rw [← t.len] at z
      have g2 : Good S W σ w (.ok (.val (.tup (cutD ds l h))) e') (postR S σ w Q) := g'
      rw [cut_whole z] at g2
      exact g2.val s' R' rd
    | lst ds =>
      obtain ⟨a, vs, rfl, q1, t⟩ := rd.lst
      exact .inl ⟨a, vs, rfl, .inl q1, fun p hp => g'.new s' R' (.of_dats (t.cut l h)) List.nodup_nil (fun _ h => by simp at h) (New.nil _) hp⟩
    | _ => exact g'.elim

/-! ### builtins -/
theorem RvReps.one {σ : L2.St} {w : Wo} {vs : List V} {x : Rv} {q : List Addr} (h : RvReps S σ w vs [x] q) : ∃ v, vs = [v] ∧ RvRep S σ w v x q := by
  obtain ⟨v, ws, f, g, rfl, rfl, r1, rfl, rfl⟩ := h
  exact ⟨v, rfl, by rw [List.append_nil]; exact r1⟩
theorem RvReps.two {σ : L2.St} {w : Wo} {vs : List V} {x y : Rv} {q : List Addr} (h : RvReps S σ w vs [x, y] q) : ∃ v u f g, vs = [v, u] ∧ q = f ++ g ∧ RvRep S σ w v x f ∧ RvRep S σ w u y g := by
  obtain ⟨v, ws, f, g, rfl, rfl, r1, r2⟩ := h
  obtain ⟨u, rfl, r3⟩ := r2.one
  exact ⟨v, u, f, g, rfl, rfl, r1, r3⟩
theorem RvReps.nil {σ : L2.St} {w : Wo} {vs : List V} {q : List Addr} (h : RvReps S σ w vs [] q) : vs = [] := h.1
theorem allBl_ok {F : Hp} : ∀ {ds : List D} {vs : List V} {bs : List Bool}, Dats S F ds vs → allBl ds = some bs → vs = bs.map V.bl
  | [], vs, bs, h, e => by cases e; rw [h.nil_inv]; rfl
  | d :: ds, vs, bs, h, e => by
    obtain ⟨v, ws, rfl, r, t⟩ := h.cons_inv
    cases d <;> simp only [allBl] at e <;> first | cases e | skip
    rename_i b
    cases q : allBl ds with
    | none => rw [q] at e; cases e
    | some cs =>
      rw [q] at e
      cases e
      rw [allBl_ok t q, show v = .bl b from r]
      rfl
theorem allInt_ok {F : Hp} : ∀ {ds : List D} {vs : List V} {bs : List Int}, Dats S F ds vs → allInt ds = some bs → vs = bs.map V.int
  | [], vs, bs, h, e => by cases e; rw [h.nil_inv]; rfl
  | d :: ds, vs, bs, h, e => by
    obtain ⟨v, ws, rfl, r, t⟩ := h.cons_inv
    cases d <;> simp only [allInt] at e <;> first | cases e | skip
    rename_i b
    cases q : allInt ds with
    | none => rw [q] at e; cases e
    | some cs =>
      rw [q] at e
      cases e
      rw [allInt_ok t q, show v = .int b from r]
      rfl
/-- a builtin of one argument, by its readings -/
theorem s_b1 {x : Expr} {f : String} {r : List V → Hp → VK → Prop} {es : List Expr} (h : PE X x (tCB r (tA S W eas)))
    (fin : ∀ (σ : L2.St) (w0 w : Wo) (e : Env) (d : D) (v : V) (Q : VK), Step w0 w → Rep S σ e w → Red S w d v → Good S W σ w0 (blt1 f d e) (postR S σ w0 Q) → r [v] w.H Q)
    (one : ∀ e rs e', eas e = .ok rs e' → rs.length = 1) : PE X x (tE S W fun e => (eas e).bind fun rs e => opBlt f rs e) :=
  PE.imp h fun σ H Q ⟨e, w, hw, R, g⟩ => by
    subst hw
    refine ⟨e, w, rfl, R, ?_⟩
    have g : Good S W σ w ((eas e).bind fun rs e => opBlt f rs e) (postR S σ w Q) := g
    cases he : eas e with
    | bad => rw [he] at g; exact g.elim
    | ex c d e1 => rw [he] at g; exact g
    | ok rs e1 =>
      rw [he] at g
      intro w1 s1 R1 vs q hr n nd
      have l := one _ _ _ he
      match rs, l with
      | [y], _ =>
        obtain ⟨v, rfl, r1⟩ := hr.one
        obtain ⟨w', e', d, hH, G, s', R', rd, g'⟩ := peek1 s1 R1 r1 n g
        rw [← hH]
        exact fin σ w w' e' d v Q s' R' rd g'
theorem s_b2 {x : Expr} {f : String} {r : List V → Hp → VK → Prop} {es : List Expr} (h : PE X x (tCB r (tA S W eas)))
    (fin : ∀ (σ : L2.St) (w0 w : Wo) (e : Env) (d d' : D) (v v' : V) (Q : VK), Step w0 w → Rep S σ e w → Dat S w.F d v → Dat S w.F d' v' → Good S W σ w0 (blt2 f d d' e) (postR S σ w0 Q) → r [v, v'] w.H Q)
    (two : ∀ e rs e', eas e = .ok rs e' → rs.length = 2) : PE X x (tE S W fun e => (eas e).bind fun rs e => opBlt f rs e) :=
  PE.imp h fun σ H Q ⟨e, w, hw, R, g⟩ => by
    subst hw
    refine ⟨e, w, rfl, R, ?_⟩
    have g : Good S W σ w ((eas e).bind fun rs e => opBlt f rs e) (postR S σ w Q) := g
    cases he : eas e with
    | bad => rw [he] at g; exact g.elim
    | ex c d e1 => rw [he] at g; exact g
    | ok rs e1 =>
      rw [he] at g
      intro w1 s1 R1 vs q hr n nd
      have l := two _ _ _ he
      match rs, l with
      | [y, z], _ =>
        obtain ⟨v, u, f1, g1, rfl, rfl, r1, r2⟩ := hr.two
        have nd' := List.nodup_append.mp nd
        obtain ⟨w', e', d, d', hH, G, s', R', rd, rd', g'⟩ := asVal2 s1 R1 r1 r2 (fun a ha hb => nd'.2.2 a ha a hb rfl) (fun a ha => n a (List.mem_append_left _ ha)) (fun a ha => n a (List.mem_append_right _ ha)) g
        rw [← hH]
        exact fin σ w w' e' d d' v u Q s' R' rd rd' g'
variable {es' : List Expr} (hK : S.K = X.K) (hc : X.calm = true) (h : PA X (a :: es) (tA S W eas)) (one : ∀ e rs e', eas e = .ok rs e' → rs.length = 1) (two : ∀ e rs e', eas e = .ok rs e' → rs.length = 2)
  (he : starEach (a :: es) X.env = (false, eval a X.env) :: starEach es X.env) (hpl : (backTo pos (starEach es X.env)).any (·.1) = false)
include h he hpl
theorem s_len (hK : S.K = X.K) (one : ∀ e rs e', eas e = .ok rs e' → rs.length = 1) (hg : Gl X "len") (hm : X.mg "len" = none) : PE X (.Call (.Name "len" p) (a :: es) [] pos) (tE S W fun e => (eas e).bind fun rs e => opBlt "len" rs e) :=
  s_b1 (es := a :: es) (pe_callB (call_len_seq.or call_len_str) hg hm PySem.boot_len h (by decide) (by decide) he hpl) (fun σ w0 w e d v Q s R rd g => by
    rw [← hK]
    cases d with
    | tup ds =>
      obtain ⟨a, vs, rfl, q1, t⟩ := rd.tup R.sub
      refine .inl ⟨a, vs, rfl, .inr q1, ?_⟩
      rw [← t.len]
      exact Good.val (S := S) (W := W) g s R (v := .int (ds.length : Int)) rfl
    | lst ds =>
      obtain ⟨a, vs, rfl, q1, t⟩ := rd.lst
      refine .inl ⟨a, vs, rfl, .inl (.inl q1), ?_⟩
      rw [← t.len]
      exact Good.val (S := S) (W := W) g s R (v := .int (ds.length : Int)) rfl
    | klst ds =>
      obtain ⟨a, vs, rfl, q1, t⟩ := rd
      refine .inl ⟨a, vs, rfl, .inl (Same.sql R.sub q1), ?_⟩
      rw [← t.len]
      exact Good.val (S := S) (W := W) g s R (v := .int (ds.length : Int)) rfl
    | str z =>
      have g' : Good S W σ w0 (if z.length ≤ LIM then .ok (.val (.int z.length)) e else .bad) (postR S σ w0 Q) := g
      split at g'
      · rename_i hl
        rw [LIM_eq] at hl
        refine .inr ⟨z, by rw [show v = .str z from rd], hl, g'.val s R (v := .int (z.length : Int)) rfl⟩
      · exact g'.elim
    | _ => exact g.elim) one
theorem s_abs (one : ∀ e rs e', eas e = .ok rs e' → rs.length = 1) (hg : Gl X "abs") (hm : X.mg "abs" = none) : PE X (.Call (.Name "abs" p) (a :: es) [] pos) (tE S W fun e => (eas e).bind fun rs e => opBlt "abs" rs e) :=
  s_b1 (es := a :: es) (pe_callB call_abs hg hm (by decide +kernel) h (by decide) (by decide) he hpl) (fun σ w0 w e d v Q s R rd g => by
    cases d with
    | int i => exact ⟨i, by rw [show v = .int i from rd], Good.val (S := S) (W := W) g s R (v := .int (if i < 0 then -i else i)) rfl⟩
    | _ => exact g.elim) one
theorem s_int (one : ∀ e rs e', eas e = .ok rs e' → rs.length = 1) (hg : Gl X "int") (hm : X.mg "int" = none) : PE X (.Call (.Name "int" p) (a :: es) [] pos) (tE S W fun e => (eas e).bind fun rs e => opBlt "int" rs e) :=
  s_b1 (es := a :: es) (pe_callTy call_int1 hg hm (by decide +kernel) h (by decide) (by decide) he hpl) (fun σ w0 w e d v Q s R rd g => by
    cases d with
    | int i => exact .inl ⟨i, by rw [show v = .int i from rd], Good.val (S := S) (W := W) g s R (v := .int i) rfl⟩
    | bl b => exact .inr ⟨b, by rw [show v = .bl b from rd], Good.val (S := S) (W := W) g s R (v := .int (if b then 1 else 0)) rfl⟩
    | _ => exact g.elim) one
theorem s_tuple (hK : S.K = X.K) (one : ∀ e rs e', eas e = .ok rs e' → rs.length = 1) (hg : Gl X "tuple") (hm : X.mg "tuple" = none) : PE X (.Call (.Name "tuple" p) (a :: es) [] pos) (tE S W fun e => (eas e).bind fun rs e => opBlt "tuple" rs e) :=
  s_b1 (es := a :: es) (pe_callTy call_tuple_of hg hm (by decide +kernel) h (by decide) (by decide) he hpl) (fun σ w0 w e d v Q s R rd g => by
    rw [← hK]
    cases d with
    | tup ds =>
      obtain ⟨a, vs, rfl, q1, t⟩ := rd.tup R.sub
      exact ⟨a, vs, rfl, .inr ⟨q1, Good.val (S := S) (W := W) g s R rd⟩⟩
    | lst ds =>
      obtain ⟨a, vs, rfl, q1, t⟩ := rd.lst
      exact ⟨a, vs, rfl, .inl ⟨.inl q1, fun l hl => Good.tup (S := S) (W := W) g s R t hl⟩⟩
    | _ => exact g.elim) one
theorem s_list (hK : S.K = X.K) (one : ∀ e rs e', eas e = .ok rs e' → rs.length = 1) (hg : Gl X "list") (hm : X.mg "list" = none) : PE X (.Call (.Name "list" p) (a :: es) [] pos) (tE S W fun e => (eas e).bind fun rs e => opBlt "list" rs e) :=
  s_b1 (es := a :: es) (pe_callTy call_list_of hg hm (by decide +kernel) h (by decide) (by decide) he hpl) (fun σ w0 w e d v Q s R rd g => by
    rw [← hK]
    cases d with
    | tup ds =>
      obtain ⟨a, vs, rfl, q1, t⟩ := rd.tup R.sub
      exact ⟨a, vs, rfl, .inr q1, fun l hl => Good.new (S := S) (W := W) g s R (.of_dats t) List.nodup_nil (fun _ h => by simp at h) (New.nil _) hl⟩
    | lst ds =>
      obtain ⟨a, vs, rfl, q1, t⟩ := rd.lst
      exact ⟨a, vs, rfl, .inl (.inl q1), fun l hl => Good.new (S := S) (W := W) g s R (.of_dats t) List.nodup_nil (fun _ h => by simp at h) (New.nil _) hl⟩
    | klst ds =>
      obtain ⟨a, vs, rfl, q1, t⟩ := rd
      exact ⟨a, vs, rfl, .inl (Same.sql R.sub q1), fun l hl => Good.new (S := S) (W := W) g s R (.of_dats t) List.nodup_nil (fun _ h => by simp at h) (New.nil _) hl⟩
    | _ => exact g.elim) one
theorem s_all (hK : S.K = X.K) (hc : X.calm = true) (one : ∀ e rs e', eas e = .ok rs e' → rs.length = 1) (hg : Gl X "all") (hm : X.mg "all" = none) : PE X (.Call (.Name "all" p) (a :: es) [] pos) (tE S W fun e => (eas e).bind fun rs e => opBlt "all" rs e) :=
  s_b1 (es := a :: es) (pe_callB (cr_all hc) hg hm (by decide +kernel) h (by decide) (by decide) he hpl) (fun σ w0 w e d v Q s R rd g => by
    rw [← hK]
    cases d with
    | lst ds =>
      obtain ⟨a, vs, rfl, q1, t⟩ := rd.lst
      have g' : Good S W σ w0 (match allBl ds with | some bs => .ok (.val (.bl (bs.all id))) e | none => .bad) (postR S σ w0 Q) := g
      cases hb : allBl ds with
      | none => rw [hb] at g'; exact g'.elim
      | some bs =>
        rw [hb] at g'
        exact ⟨a, bs, rfl, by rw [← allBl_ok t hb]; exact .inl q1, g'.val s R (v := .bl (bs.all id)) rfl⟩
    | _ => exact g.elim) one
theorem s_any (hK : S.K = X.K) (hc : X.calm = true) (one : ∀ e rs e', eas e = .ok rs e' → rs.length = 1) (hg : Gl X "any") (hm : X.mg "any" = none) : PE X (.Call (.Name "any" p) (a :: es) [] pos) (tE S W fun e => (eas e).bind fun rs e => opBlt "any" rs e) :=
  s_b1 (es := a :: es) (pe_callB (cr_any hc) hg hm (by decide +kernel) h (by decide) (by decide) he hpl) (fun σ w0 w e d v Q s R rd g => by
    rw [← hK]
    cases d with
    | lst ds =>
      obtain ⟨a, vs, rfl, q1, t⟩ := rd.lst
      have g' : Good S W σ w0 (match allBl ds with | some bs => .ok (.val (.bl (bs.any id))) e | none => .bad) (postR S σ w0 Q) := g
      cases hb : allBl ds with
      | none => rw [hb] at g'; exact g'.elim
      | some bs =>
        rw [hb] at g'
        exact ⟨a, bs, rfl, by rw [← allBl_ok t hb]; exact .inl q1, g'.val s R (v := .bl (bs.any id)) rfl⟩
    | _ => exact g.elim) one
theorem s_sum (hK : S.K = X.K) (hc : X.calm = true) (one : ∀ e rs e', eas e = .ok rs e' → rs.length = 1) (hg : Gl X "sum") (hm : X.mg "sum" = none) : PE X (.Call (.Name "sum" p) (a :: es) [] pos) (tE S W fun e => (eas e).bind fun rs e => opBlt "sum" rs e) :=
  s_b1 (es := a :: es) (pe_callB (cr_sum hc) hg hm (by decide +kernel) h (by decide) (by decide) he hpl) (fun σ w0 w e d v Q s R rd g => by
    rw [← hK]
    cases d with
    | lst ds =>
      obtain ⟨a, vs, rfl, q1, t⟩ := rd.lst
      have g' : Good S W σ w0 (match allInt ds with | some ns => .ok (.val (.int ns.sum)) e | none => .bad) (postR S σ w0 Q) := g
      cases hb : allInt ds with
      | none => rw [hb] at g'; exact g'.elim
      | some bs =>
        rw [hb] at g'
        exact ⟨a, bs, rfl, by rw [← allInt_ok t hb]; exact .inl q1, g'.val s R (v := .int bs.sum) rfl⟩
    | _ => exact g.elim) one
theorem s_min (hc : X.calm = true) (two : ∀ e rs e', eas e = .ok rs e' → rs.length = 2) (hg : Gl X "min") (hm : X.mg "min" = none) : PE X (.Call (.Name "min" p) (a :: es) [] pos) (tE S W fun e => (eas e).bind fun rs e => opBlt "min" rs e) :=
  s_b2 (es := a :: es) (pe_callB (call_min2 hc) hg hm (by decide +kernel) h (by decide) (by decide) he hpl) (fun σ w0 w e d d' v v' Q s R rd rd' g => by
    cases d with
    | int i => cases d' with
      | int j => exact ⟨i, j, by rw [show v = .int i from rd, show v' = .int j from rd'], Good.val (S := S) (W := W) g s R (v := .int (if j < i then j else i)) rfl⟩
      | _ => exact g.elim
    | _ => cases d' <;> exact g.elim) two
theorem s_max (hc : X.calm = true) (two : ∀ e rs e', eas e = .ok rs e' → rs.length = 2) (hg : Gl X "max") (hm : X.mg "max" = none) : PE X (.Call (.Name "max" p) (a :: es) [] pos) (tE S W fun e => (eas e).bind fun rs e => opBlt "max" rs e) :=
  s_b2 (es := a :: es) (pe_callB (call_max2 hc) hg hm (by decide +kernel) h (by decide) (by decide) he hpl) (fun σ w0 w e d d' v v' Q s R rd rd' g => by
    cases d with
    | int i => cases d' with
      | int j => exact ⟨i, j, by rw [show v = .int i from rd, show v' = .int j from rd'], Good.val (S := S) (W := W) g s R (v := .int (if j > i then j else i)) rfl⟩
      | _ => exact g.elim
    | _ => cases d' <;> exact g.elim) two
theorem s_gcd (two : ∀ e rs e', eas e = .ok rs e' → rs.length = 2) (hg : Gl X "gcd") (hm : X.mg "gcd" = some (.builtin "math.gcd")) : PE X (.Call (.Name "gcd" p) (a :: es) [] pos) (tE S W fun e => (eas e).bind fun rs e => opBlt "gcd" rs e) :=
  s_b2 (es := a :: es) (pe_callBfun cr_gcd hg hm h (by decide) he hpl) (fun σ w0 w e d d' v v' Q s R rd rd' g => by
    cases d with
    | int i => cases d' with
      | int j => exact ⟨i, j, by rw [show v = .int i from rd, show v' = .int j from rd'], Good.val (S := S) (W := W) g s R (v := .int (Int.gcd i j)) rfl⟩
      | _ => exact g.elim
    | _ => cases d' <;> exact g.elim) two
end
end Fp
/-! FpRev: t[::-1], math.lcm. -/
namespace Fp
open PySem PySem.Spec PyProof.Rows L2 HT
section
variable {prog : Program} {w : World} {A : Around} {E : Value → Shared → Prop} {s : Shared}
theorem adjust_rev (n : Nat) : Builtin.Slice.sliceAdjust none none (-1) (n : Int) = ((n : Int) - 1, -1) := by
  unfold Builtin.Slice.sliceAdjust
  simp
theorem places_rev (n : Nat) : Builtin.Slice.slicePlaces ((n : Int) - 1) (-1) (-1) = n := by
  unfold Builtin.Slice.slicePlaces
  simp
  omega
theorem sliceApplied_rev {sl : Addr} {vl vu vs : Value} {n : Nat} {Q : Int × Int × Nat → Shared → Prop} (hs : s.heap.IsSliceOf sl vl vu vs) (pl : IsPart vl none) (pu : IsPart vu none) (ps : IsPart vs (some (-1)))
    (h : Q ((n : Int) - 1, -1, n) s) : wpAny (model prog w) A (Builtin.Slice.sliceApplied (.ref sl) (pure (n : Int))) Q E s := by
  obtain ⟨os, hos, hcs, hds⟩ := id hs
  unfold Builtin.Slice.sliceApplied Builtin.Slice.sliceFields
  refine wpAny_bind (wpAny_bind (wpAny_field hos hds (x := vl) rfl (wpAny_bind (wpAny_field hos hds (x := vu) rfl (wpAny_bind (wpAny_field hos hds (x := vs) rfl (wpAny_pure ?_)))))))
  refine wpAny_bind (slicePart_ ps ?_)
  show wpAny _ _ (if ((-1 : Int) == 0) = true then _ else _) _ _ s
  rw [if_neg (by decide)]
  refine wpAny_bind (slicePart_ pl (wpAny_bind (slicePart_ pu (wpAny_bind (wpAny_pure ?_)))))
  show wpAny _ _ (match Builtin.Slice.sliceAdjust none none (-1) (n : Int) with | (lo, hi) => pure (lo, (-1 : Int), Builtin.Slice.slicePlaces lo hi (-1))) _ _ s
  rw [adjust_rev n]
  show wpAny _ _ (pure ((n : Int) - 1, (-1 : Int), Builtin.Slice.slicePlaces ((n : Int) - 1) (-1) (-1))) _ _ s
  rw [places_rev]
  exact wpAny_pure h
theorem fmap_congr {α β : Type} {f g : α → Option β} : ∀ {l : List α}, (∀ k ∈ l, f k = g k) → l.filterMap f = l.filterMap g
  | [], _ => rfl
  | a :: l, h => by
    rw [List.filterMap_cons, List.filterMap_cons, h a (List.mem_cons_self ..), fmap_congr fun k hk => h k (List.mem_cons_of_mem _ hk)]
theorem pick_rev (xs : Array Value) : ((List.range xs.size).filterMap fun (k : Nat) => xs[(((xs.size : Int) - 1) + (k : Int) * -1).toNat]?).toArray = xs.toList.reverse.toArray := by
  have e : ((List.range xs.size).filterMap fun (k : Nat) => xs[(((xs.size : Int) - 1) + (k : Int) * -1).toNat]?) = ((List.range xs.size).map fun k => xs.size - 1 - k).filterMap (xs[·]?) := by
    rw [List.filterMap_map]
    apply fmap_congr
    intro k hk
    have := List.mem_range.mp hk
    show _ = xs[xs.size - 1 - k]?
    congr 1
    omega
  rw [e, PySem.W.krv_range, List.filterMap_reverse, PySem.W.krv_all]
theorem getItem_tuple_rev {t sl : Addr} {items : Array Value} {vl vu vs : Value} {Q : Value → Shared → Prop} (ht : IsTup s.heap t items) (hs : s.heap.IsSliceOf sl vl vu vs) (pl : IsPart vl none) (pu : IsPart vu none) (ps : IsPart vs (some (-1)))
    (h : Q (.ref s.heap.objs.size) { s with heap := s.heap.push { cls := .type "tuple", data := .seq items.toList.reverse.toArray } })
    (hsz : items.size ≤ sizeLine) : wpAny (model prog w) A (getItem (.ref t) (.ref sl)) Q E s := by
  have htake : sizeOk (.seq items.toList.reverse.toArray) := by
    show items.toList.reverse.toArray.size ≤ sizeLine
    rw [List.size_toArray, List.length_reverse, Array.length_toList]
    exact hsz
  obtain ⟨os, hos, hcs, hds⟩ := id hs
  have hTs : s.TypeIs (.ref sl) "slice" := ⟨os, hos, hcs⟩
  unfold getItem
  try with_reducible refine wpAny_holding ?_
  first | refine wpAny_bind (wpAny_pure ?_) | skip
  refine wpAny_bind (wpAny_sequenceKey ht.typeIs (by decide) ?_)
  refine wpAny_bind (wpAny_callSpecial?_slot (name := Str.ofString "__getitem__") ht.typeIs PyProof.Rows.slot_tuple_getitem
    (wpAny_call_entry PyProof.Rows.slot_tuple_getitem ht.typeIs entry_tuple_getitem ?_ (args_tuple_getitem _ _)))
  show wpAny _ _ (Builtin.Tuple.tupleItemsOf (.ref t) >>= _) _ _ s
  refine wpAny_bind (tupleItemsOf_ ht ?_)
  refine wpAny_bind (wpAny_typeOf hTs ?_)
  rw [if_pos (by decide)]
  refine wpAny_bind (sliceApplied_rev (n := items.size) hs pl pu ps ?_)
  have hno : ¬ ((((items.size : Int) - 1) == 0 && (-1 : Int) == 1 && items.size == items.size) = true) := by
    intro q
    rw [Bool.and_eq_true, Bool.and_eq_true] at q
    exact absurd q.1.2 (by decide)
  show wpAny _ _ (if (((items.size : Int) - 1) == 0 && (-1 : Int) == 1 && items.size == items.size) = true then _ else _) _ _ s
  rw [if_neg hno, pick_rev]
  first
    | exact wpAny_bind (m := Builtin.Tuple.tupleExact _) (wpAny_newObj_type (wpAny_pure ⟨_, rfl, wpAny_pure h⟩) htake)
    | exact wpAny_bind (m := Builtin.Tuple.tupleExact _) (wpAny_newObj_type (wpAny_bind (wpAny_pure (wpAny_pure ⟨_, rfl, wpAny_pure h⟩))) htake)
    | exact wpAny_bind (wpAny_bind (m := Builtin.Tuple.tupleExact _) (wpAny_newObj_type (wpAny_pure (wpAny_pure ⟨_, rfl, wpAny_pure h⟩)) htake))
    | exact wpAny_bind (wpAny_bind (m := Builtin.Tuple.tupleExact _) (wpAny_newObj_type (wpAny_pure ⟨_, rfl, wpAny_pure h⟩) htake))
end
section
variable {X : Cx}
/-- x[::-1], a list or a tuple -/
def tRevA (K : PySem.W.Frag) (te : TE) : TE := fun σ H Q => te σ H fun x H1 => (∃ a xs, x = .ref a ∧ SqL K H1 a xs ∧ ∀ p, H1 p = none → Q (.ref p) (upd H1 p (.lst xs.reverse))) ∨ (∃ a xs, x = .ref a ∧ SqT K H1 a xs ∧ ∀ p, H1 p = none → Q (.ref p) (upd H1 p (.tup xs.reverse)))
theorem pe_revA {e : Expr} {te : TE} {k : Nat} {p1 p2 p3 pos : Pos} (he : PE X e te) : PE X (.Subscript e (.Slice none none (some (.UnaryOp .USub (.Constant (.int 1) k p1) p2)) p3) pos) (tRevA X.K te) := by
  refine ⟨fun pins s σ H Q I h => ?_⟩
  refine Subscript_ (thn (he.run pins s σ H _ I h) fun v s1 ⟨x, H1, I1, r1, q1⟩ => ?_)
  have hst : PO X (some (.UnaryOp .USub (.Constant (.int 1) k p1) p2)) (tPart (tUn (rU fun i => .int (-i)) (tC (.int 1)))) := po_some (pe_un un_neg pe_int)
  refine wpAny_Slice (thn (po_none.run pins s1 σ H1 (fun o H2 => o = none ∧ H2 = H1) I1 ⟨rfl, rfl⟩) fun vl s2 ⟨l, H2, I2, pl, el, e2⟩ => ?_)
  subst el e2
  refine thn (po_none.run pins s2 σ H2 (fun o H3 => o = none ∧ H3 = H2) I2 ⟨rfl, rfl⟩) fun vu s3 ⟨u, H3, I3, pu, eu, e3⟩ => ?_
  subst eu e3
  refine thn (hst.run pins s3 σ H3 (fun o H4 => o = some (-1) ∧ H4 = H3) I3 ⟨1, rfl, -1, rfl, rfl, rfl⟩) fun vs s4 ⟨o, H4, I4, ps, eo, e4⟩ => ?_
  subst eo e4
  have I5 : Inv X pins σ H4 { s4 with heap := s4.heap.push { cls := .type "slice", data := .fields #[vl, vu, vs] } } := I4.kept (t' := s4.toks) fun b ob q => Heap.get?_push_of_some _ q
  rcases q1 with ⟨a, xs, ex, hx, q⟩ | ⟨a, xs, ex, hx, q⟩
  · subst ex
    cases r1
    obtain ⟨its, r, ht, hz⟩ := I5.list hx
    have hlen := r.length
    show wpAny (model X.prog X.w) X.A (subscriptTail e (.Slice none none (some (.UnaryOp .USub (.Constant (.int 1) k p1) p2)) p3) (.ref a) (.ref s4.heap.objs.size)) (EP X pins σ Q) X.xe { s4 with heap := s4.heap.push { cls := .type "slice", data := .fields #[vl, vu, vs] } }
    refine tail_any (ops := [.ref a, .ref s4.heap.objs.size]) ht.isList.typeIs (PySem.slot_list_getitem.lookup) ?_ (by with_unfolding_all rfl)
    refine wpAny_getItem_list_slice ht.isList (Heap.IsSliceOf.new _ vl vu vs) pl pu ps (by decide) ?_ (by rw [List.size_toArray]; omega)
    rw [PySem.W.krv_pick]
    refine ⟨.ref _, _, I5.laid (t' := s4.toks) (o := .lst xs.reverse) (fun b ob q => Heap.get?_push_of_some _ q) (Nat.le_refl _) ?_, rfl, q _ (I5.hok.fresh (Nat.le_refl _))⟩
    exact ⟨by rw [List.length_reverse]; exact hz, _, 0, r.reverse, Heap.get?_push_size _ rfl⟩
  · subst ex
    cases r1
    obtain ⟨its, r, ht, hz⟩ := I5.tuple hx
    have hlen := r.length
    show wpAny (model X.prog X.w) X.A (subscriptTail e (.Slice none none (some (.UnaryOp .USub (.Constant (.int 1) k p1) p2)) p3) (.ref a) (.ref s4.heap.objs.size)) (EP X pins σ Q) X.xe { s4 with heap := s4.heap.push { cls := .type "slice", data := .fields #[vl, vu, vs] } }
    refine tail_any (ops := [.ref a, .ref s4.heap.objs.size]) ht.typeIs (PyProof.Rows.slot_tuple_getitem.lookup) ?_ (by with_unfolding_all rfl)
    refine getItem_tuple_rev ht (Heap.IsSliceOf.new _ vl vu vs) pl pu ps ?_ (by rw [List.size_toArray]; omega)
    refine ⟨.ref _, _, I5.laid (t' := s4.toks) (o := .tup xs.reverse) (fun b ob q => Heap.get?_push_of_some _ q) (Nat.le_refl _) ?_, rfl, q _ (I5.hok.fresh (Nat.le_refl _))⟩
    exact ⟨by rw [List.length_reverse]; exact hz, _, r.reverse, IsTup.new _ _⟩
/-! ### math.lcm -/
def rLcm : List V → Hp → VK → Prop := fun vs H Q => ∃ a b : Int, vs = [.int a, .int b] ∧ a.natAbs < 2 ^ 4000 ∧ b.natAbs < 2 ^ 4000 ∧ Q (.int ((Nat.lcm a.natAbs b.natAbs : Nat) : Int)) H
theorem log_le {n k : Nat} (h : n < 2 ^ k) : n.log2 ≤ k := by
  by_cases h0 : n = 0
  · subst h0
    simp
  · have := (Nat.log2_lt h0).mpr h
    omega
theorem cr_lcm : CallR X (.builtin "math.lcm") rLcm := by
  intro pins s σ H vs us Q I r h
  obtain ⟨a, b, rfl, ha, hb, q⟩ := h
  obtain ⟨t, u, rfl⟩ := Vals.int2 r
  have p1 : (1 : Nat) < 2 ^ 4000 := Nat.one_lt_two_pow (by decide)
  have h1 : (max 1 a.natAbs).log2 ≤ 4000 := log_le (by omega)
  have h2 : (max a.natAbs b.natAbs).log2 ≤ 4000 := log_le (by omega)
  have e1 : Nat.lcm 1 a.natAbs = a.natAbs := by simp
  have h3 : (((Nat.lcm 1 a.natAbs).lcm b.natAbs : Nat) : Int).natAbs.log2 < bitsLine := by
    rw [Int.natAbs_natCast, e1]
    have l1 : Nat.lcm a.natAbs b.natAbs ≤ a.natAbs * b.natAbs := by
      unfold Nat.lcm
      exact Nat.div_le_self _ _
    have l2 : a.natAbs * b.natAbs < 2 ^ 4000 * 2 ^ 4000 := Nat.mul_lt_mul'' ha hb
    rw [← Nat.pow_add] at l2
    have l3 := log_le (Nat.lt_of_le_of_lt l1 l2)
    have : bitsLine = 134217728 := by decide
    omega
  refine PySem.call_function_meets PySem.W.MGF.kind_lcm PySem.W.MGF.plain_lcm PySem.W.MGF.entry_lcm (PySem.W.MGF.args_lcm _ _) (PySem.W.mg_run_lcm a t b u (by omega) (by omega) h3).meets ?_
  rw [e1]
  exact ⟨.int _, H, I.tok _, ⟨_, rfl⟩, q⟩
end
section
variable {X : L2.Cx} {S : Se} {W : WX} {a : Expr} {es : List Expr} {pos p : Pos} {eas : Env → R (List Rv)} {ea : Env → R Rv}
theorem s_rev (hK : S.K = X.K) {k : Nat} {p1 p2 p3 : Pos} (ha : PE X a (tE S W ea)) : PE X (.Subscript a (.Slice none none (some (.UnaryOp .USub (.Constant (.int 1) k p1) p2)) p3) pos) (tE S W fun e => (ea e).bind fun x e => (e.peek x).bind fun d e => match d with
    | .tup ds => .ok (.val (.tup ds.reverse)) e
    | .lst ds => .ok (.fresh ds.reverse) e
    | _ => .bad) :=
  PE.imp (pe_revA ha) fun σ H Q ⟨e, w, hw, R, g⟩ => tE.one hw R g fun v r q e w1 s1 R1 r1 n1 g => by
    obtain ⟨w', e', d, hH, G, s', R', rd, g'⟩ := peek1 s1 R1 r1 n1 g
    rw [← hH, ← hK]
    cases d with
    | tup ds =>
      obtain ⟨a, vs, rfl, q1, t⟩ := rd.tup R'.sub
      exact .inr ⟨a, vs, rfl, q1, fun p hp => Good.tup (S := S) (W := W) g' s' R' t.rev hp⟩
    | lst ds =>
      obtain ⟨a, vs, rfl, q1, t⟩ := rd.lst
      exact .inl ⟨a, vs, rfl, .inl q1, fun p hp => Good.new (S := S) (W := W) g' s' R' (.of_dats t.rev) List.nodup_nil (fun _ h => by simp at h) (New.nil _) hp⟩
    | _ => exact g'.elim
theorem maxL_mem : ∀ (ns : List Int) (n : Int), maxL n ns ∈ n :: ns ∧ ∀ y ∈ n :: ns, y ≤ maxL n ns
  | [], n => ⟨by simp [maxL], fun y hy => by rw [List.mem_singleton.mp hy]; simp [maxL]⟩
  | m :: ns, n => by
    obtain ⟨h1, h2⟩ := maxL_mem ns (max n m)
    rw [maxL]
    refine ⟨?_, fun y hy => ?_⟩
    · rcases List.mem_cons.mp h1 with h | h
      · rw [h]
        rcases Int.le_total n m with q | q
        · rw [Int.max_eq_right q]; simp
        · rw [Int.max_eq_left q]; simp
      · simp [h]
    · have h3 := h2 (max n m) (List.mem_cons_self ..)
      rcases List.mem_cons.mp hy with rfl | hy
      · omega
      · rcases List.mem_cons.mp hy with rfl | hy
        · omega
        · exact h2 y (List.mem_cons_of_mem _ hy)
theorem minL_mem : ∀ (ns : List Int) (n : Int), minL n ns ∈ n :: ns ∧ ∀ y ∈ n :: ns, minL n ns ≤ y
  | [], n => ⟨by simp [minL], fun y hy => by rw [List.mem_singleton.mp hy]; simp [minL]⟩
  | m :: ns, n => by
    obtain ⟨h1, h2⟩ := minL_mem ns (min n m)
    rw [minL]
    refine ⟨?_, fun y hy => ?_⟩
    · rcases List.mem_cons.mp h1 with h | h
      · rw [h]
        rcases Int.le_total n m with q | q
        · rw [Int.min_eq_left q]; simp
        · rw [Int.min_eq_right q]; simp
      · simp [h]
    · have h3 := h2 (min n m) (List.mem_cons_self ..)
      rcases List.mem_cons.mp hy with rfl | hy
      · omega
      · rcases List.mem_cons.mp hy with rfl | hy
        · omega
        · exact h2 y (List.mem_cons_of_mem _ hy)
variable (hK : S.K = X.K) (hc : X.calm = true) (h : PA X (a :: es) (tA S W eas)) (one : ∀ e rs e', eas e = .ok rs e' → rs.length = 1) (two : ∀ e rs e', eas e = .ok rs e' → rs.length = 2)
  (he : starEach (a :: es) X.env = (false, eval a X.env) :: starEach es X.env) (hpl : (backTo pos (starEach es X.env)).any (·.1) = false)
include h he hpl
theorem s_maxL (hK : S.K = X.K) (hc : X.calm = true) (one : ∀ e rs e', eas e = .ok rs e' → rs.length = 1) (hg : Gl X "max") (hm : X.mg "max" = none) : PE X (.Call (.Name "max" p) (a :: es) [] pos) (tE S W fun e => (eas e).bind fun rs e => opBlt "max" rs e) :=
  s_b1 (es := a :: es) (pe_callB (cr_max hc) hg hm (by decide +kernel) h (by decide) (by decide) he hpl) (fun σ w0 w e d v Q s R rd g => by
    rw [← hK]
    cases d with
    | lst ds =>
      obtain ⟨a, vs, rfl, q1, t⟩ := rd.lst
      have g' : Good S W σ w0 (match allInt ds with | some (n :: ns) => .ok (.val (.int (maxL n ns))) e | _ => .bad) (postR S σ w0 Q) := g
      cases hb : allInt ds with
      | none => rw [hb] at g'; exact g'.elim
      | some bs =>
        rw [hb] at g'
        cases bs with
        | nil => exact g'.elim
        | cons n ns =>
          refine ⟨a, n :: ns, rfl, by rw [← allInt_ok t hb]; exact .inl q1, by simp, fun m h1 h2 => ?_⟩
          obtain ⟨k1, k2⟩ := maxL_mem ns n
          have e1 := h2 _ k1
          have e2 := k2 m h1
          have : m = maxL n ns := by omega
          rw [this]
          exact g'.val s R (v := .int (maxL n ns)) rfl
    | _ => exact g.elim) one
theorem s_minL (hK : S.K = X.K) (hc : X.calm = true) (one : ∀ e rs e', eas e = .ok rs e' → rs.length = 1) (hg : Gl X "min") (hm : X.mg "min" = none) : PE X (.Call (.Name "min" p) (a :: es) [] pos) (tE S W fun e => (eas e).bind fun rs e => opBlt "min" rs e) :=
  s_b1 (es := a :: es) (pe_callB (cr_min hc) hg hm (by decide +kernel) h (by decide) (by decide) he hpl) (fun σ w0 w e d v Q s R rd g => by
    rw [← hK]
    cases d with
    | lst ds =>
      obtain ⟨a, vs, rfl, q1, t⟩ := rd.lst
      have g' : Good S W σ w0 (match allInt ds with | some (n :: ns) => .ok (.val (.int (minL n ns))) e | _ => .bad) (postR S σ w0 Q) := g
      cases hb : allInt ds with
      | none => rw [hb] at g'; exact g'.elim
      | some bs =>
        rw [hb] at g'
        cases bs with
        | nil => exact g'.elim
        | cons n ns =>
          refine ⟨a, n :: ns, rfl, by rw [← allInt_ok t hb]; exact .inl q1, by simp, fun m h1 h2 => ?_⟩
          obtain ⟨k1, k2⟩ := minL_mem ns n
          have e1 := h2 _ k1
          have e2 := k2 m h1
          have : m = minL n ns := by omega
          rw [this]
          exact g'.val s R (v := .int (minL n ns)) rfl
    | _ => exact g.elim) one
theorem s_lcm (two : ∀ e rs e', eas e = .ok rs e' → rs.length = 2) (hg : Gl X "lcm") (hm : X.mg "lcm" = some (.builtin "math.lcm")) : PE X (.Call (.Name "lcm" p) (a :: es) [] pos) (tE S W fun e => (eas e).bind fun rs e => opBlt "lcm" rs e) :=
  s_b2 (es := a :: es) (pe_callBfun cr_lcm hg hm h (by decide) he hpl) (fun σ w0 w e d d' v v' Q s R rd rd' g => by
    cases d with
    | int i => cases d' with
      | int j =>
        have g' : Good S W σ w0 (if lcmOk i j then .ok (.val (.int (Nat.lcm i.natAbs j.natAbs : Nat))) e else .bad) (postR S σ w0 Q) := g
        split at g'
        · rename_i hl
          unfold lcmOk at hl
          simp only [Bool.and_eq_true, decide_eq_true_eq] at hl
          exact ⟨i, j, by rw [show v = .int i from rd, show v' = .int j from rd'], hl.1, hl.2, g'.val s R (v := .int (Nat.lcm i.natAbs j.natAbs : Nat)) rfl⟩
        · exact g'.elim
      | _ => exact g.elim
    | _ => cases d' <;> exact g.elim) two
end
end Fp
/-! FpCall: a def called: what it takes over, what comes back. -/
namespace Fp
open PySem PySem.Spec PyProof.Rows L2
/-- the surroundings alone: nothing handed in -/
abbrev Se.with (S : Se) (pa : List Addr) : Se := ⟨S.K, S.cl, pa⟩
mutual
theorem Dat.pa {S : Se} {pa : List Addr} {F : Hp} : ∀ (d : D) (v : V), Dat S F d v → Dat (S.with pa) F d v
  | .non, _, h => h
  | .bl _, _, h => h
  | .int _, _, h => h
  | .str _, _, h => h
  | .tup ds, v, h => by
    obtain ⟨a, vs, e, q, r⟩ := h
    exact ⟨a, vs, e, q, Dats.pa ds vs r⟩
  | .lst ds, v, h => by
    obtain ⟨a, vs, e, q, r⟩ := h
    exact ⟨a, vs, e, q, Dats.pa ds vs r⟩
  | .olst _, _, h => h
  | .dic _ _, _, h => h
  | .exc c d, v, h => by
    obtain ⟨a, C, dx, w, e, ec, q1, q2, r⟩ := h
    exact ⟨a, C, dx, w, e, ec, q1, q2, Dat.pa d w r⟩
  | .klst ds, v, h => by
    obtain ⟨a, vs, e, q, r⟩ := h
    exact ⟨a, vs, e, q, Dats.pa ds vs r⟩
theorem Dats.pa {S : Se} {pa : List Addr} {F : Hp} : ∀ (ds : List D) (vs : List V), Dats S F ds vs → Dats (S.with pa) F ds vs
  | [], [], h => h
  | d :: ds, v :: vs, h => ⟨Dat.pa d v h.1, Dats.pa ds vs h.2⟩
  | [], _ :: _, h => h
  | _ :: _, [], h => h
end
mutual
theorem Dat.unpa {S : Se} {pa : List Addr} {F : Hp} : ∀ (d : D) (v : V), Dat (S.with pa) F d v → Dat S F d v
  | .non, _, h => h
  | .bl _, _, h => h
  | .int _, _, h => h
  | .str _, _, h => h
  | .tup ds, v, h => by
    obtain ⟨a, vs, e, q, r⟩ := h
    exact ⟨a, vs, e, q, Dats.unpa ds vs r⟩
  | .lst ds, v, h => by
    obtain ⟨a, vs, e, q, r⟩ := h
    exact ⟨a, vs, e, q, Dats.unpa ds vs r⟩
  | .olst _, _, h => h
  | .dic _ _, _, h => h
  | .exc c d, v, h => by
    obtain ⟨a, C, dx, w, e, ec, q1, q2, r⟩ := h
    exact ⟨a, C, dx, w, e, ec, q1, q2, Dat.unpa d w r⟩
  | .klst ds, v, h => by
    obtain ⟨a, vs, e, q, r⟩ := h
    exact ⟨a, vs, e, q, Dats.unpa ds vs r⟩
theorem Dats.unpa {S : Se} {pa : List Addr} {F : Hp} : ∀ (ds : List D) (vs : List V), Dats (S.with pa) F ds vs → Dats S F ds vs
  | [], [], h => h
  | d :: ds, v :: vs, h => ⟨Dat.unpa d v h.1, Dats.unpa ds vs h.2⟩
  | [], _ :: _, h => h
  | _ :: _, [], h => h
end
section
variable {S : Se} {pz : List Addr} {F H : Hp}
theorem OwnI.pa {d : D} {v : V} {g : List Addr} (h : OwnI S F H d v g) : OwnI (S.with pz) F H d v g := by
  cases d with
  | olst ds =>
    obtain ⟨a, vs, e, e1, q, r⟩ := h
    exact ⟨a, vs, e, e1, q, Dats.pa _ _ r⟩
  | _ => exact ⟨h.1, Dat.pa _ _ h.2⟩
theorem OwnI.unpa {d : D} {v : V} {g : List Addr} (h : OwnI (S.with pz) F H d v g) : OwnI S F H d v g := by
  cases d with
  | olst ds =>
    obtain ⟨a, vs, e, e1, q, r⟩ := h
    exact ⟨a, vs, e, e1, q, Dats.unpa _ _ r⟩
  | _ => exact ⟨h.1, Dat.unpa _ _ h.2⟩
theorem OwnIs.pa : ∀ {ds : List D} {vs : List V} {g : List Addr}, OwnIs S F H ds vs g → OwnIs (S.with pz) F H ds vs g
  | [], _, _, h => h
  | d :: ds, vs, g, h => by
    obtain ⟨v, ws, f, g, e, e2, q, r⟩ := h
    exact ⟨v, ws, f, g, e, e2, q.pa, r.pa⟩
theorem OwnIs.unpa : ∀ {ds : List D} {vs : List V} {g : List Addr}, OwnIs (S.with pz) F H ds vs g → OwnIs S F H ds vs g
  | [], _, _, h => h
  | d :: ds, vs, g, h => by
    obtain ⟨v, ws, f, g, e, e2, q, r⟩ := h
    exact ⟨v, ws, f, g, e, e2, q.unpa, r.unpa⟩
theorem Own.pa {a : Addr} {ds : List D} {g : List Addr} (h : Own S F H a ds g) : Own (S.with pz) F H a ds g := by
  obtain ⟨vs, g, q, e, r⟩ := h
  exact ⟨vs, g, q, e, r.pa⟩
theorem Own.unpa {a : Addr} {ds : List D} {g : List Addr} (h : Own (S.with pz) F H a ds g) : Own S F H a ds g := by
  obtain ⟨vs, g, q, e, r⟩ := h
  exact ⟨vs, g, q, e, r.unpa⟩
theorem PsRep.pa {w : Wo} {l : Loc} {a : Addr} {p : Pst} {g : List Addr} (h : PsRep S w l a p g) : PsRep (S.with pz) w l a p g := by
  cases p with
  | own ds => exact Own.pa (S := S) h
  | lea ds =>
    obtain ⟨e, vs, q, r, z⟩ := h
    exact ⟨e, vs, q, Dats.pa _ _ r, z⟩
  | frz ds => exact ⟨h.1, Dat.pa _ _ h.2⟩
theorem PsRep.unpa {w : Wo} {l : Loc} {a : Addr} {p : Pst} {g : List Addr} (h : PsRep (S.with pz) w l a p g) : PsRep S w l a p g := by
  cases p with
  | own ds => exact Own.unpa (S := S) h
  | lea ds =>
    obtain ⟨e, vs, q, r, z⟩ := h
    exact ⟨e, vs, q, Dats.unpa _ _ r, z⟩
  | frz ds => exact ⟨h.1, Dat.unpa _ _ h.2⟩
end

/-! ### what a def promises -/
def GoodC (S : Se) (w0 : Wo) (m : CR) (Q : VK) (E : XK) : Prop :=
  match m with
  | .ok (.loc _) _ => False
  | .ok r ps => ∀ v w q, Step w0 w → Rep S [] ⟨[], ps⟩ w → RvRep S [] w v r q → New w0 q → Q v w.H
  | .ex c d ps => ∀ C dx w u, S.cl c = some C → Step w0 w → Rep S [] ⟨[], ps⟩ w → w.F dx = some (.xd [(("value" : Str), u)]) → Dat S w.F d u → E (.ref C) (some dx) w.H
  | .bad => False
/-- the promise of a def that the evaluator runs as m; vs: the parameters' values -/
def spF (S : Se) (m : List Sl → List Pst → CR) : Sp := fun vs H Q E => ∃ pa ss ps w, w.H = H ∧ ss.length = vs.length ∧ Rep (S.with pa) (vs.map some) ⟨ss, ps⟩ w ∧ (∀ s ∈ ss, (∃ d, s = .val d) ∨ ∃ k, s = .lnk k) ∧ GoodC (S.with pa) w (m ss ps) Q E

/-! ### the caller's side -/
section
variable {S : Se} {W : WX} {σ : L2.St} {e e' : Env} {w w' w0 w1 w2 : Wo} {v v1 v2 : V} {r x y : Rv} {q q1 q2 : List Addr}
/-- the lists handed in: their addresses and what each has alone -/
structure Handed (S : Se) (σ : L2.St) (e : Env) (w : Wo) (k : Nat) (vs : List V) (ss : List Sl) (ps : List Pst) (ls : List (Nat × Loc)) (q : List Addr) (pa : List Addr) (fl : List (List Addr)) : Prop where
  lens : ss.length = vs.length
  lenp : pa.length = ps.length
  lenf : fl.length = ps.length
  slot : ∀ (i : Nat) (s : Sl), ss[i]? = some s → ∃ v, vs[i]? = some v ∧ ((∃ d, s = Sl.val d ∧ Dat S w.F d v) ∨ ∃ (m : Nat) (a : Addr), s = Sl.lnk (k + m) ∧ pa[m]? = some a ∧ v = .ref a)
  par : ∀ (m : Nat) (p : Pst), ps[m]? = some p → ∃ (a : Addr) (g : List Addr), pa[m]? = some a ∧ fl[m]? = some g ∧ ((∃ l, (k + m, l) ∈ ls ∧ PsRep S w l a p g) ∨ ∃ ds, p = .own ds ∧ Own S w.F w.H a ds g)
  back : ∀ (j : Nat) (l : Loc), (j, l) ∈ ls → ∃ (m : Nat) (p : Pst) (a : Addr), j = k + m ∧ ps[m]? = some p ∧ pa[m]? = some a ∧ e.at l = some p ∧ LocA S σ l a ∧ fl[m]? = some (w.fp l)
  uniq : ∀ (j : Nat) (l l' : Loc), (j, l) ∈ ls → (j, l') ∈ ls → l = l'
  src : ∀ x ∈ fl.flatten, (∃ j l, (j, l) ∈ ls ∧ x ∈ w.fp l) ∨ x ∈ q
  nd : fl.flatten.Nodup
theorem PlRep.ps {l : Loc} {p : Pst} {g : List Addr} {v : V} (r : RvRep S σ w v (.loc l) q) (h : PlRep S σ w l p g) (hp : ∀ ds, p ≠ .frz ds) : ∃ a, v = .ref a ∧ LocA S σ l a ∧ PsRep S w l a p g := by
  cases p with
  | own ds =>
    obtain ⟨a, ra, o⟩ := h.own
    exact ⟨a, rvLoc ra.locA r, ra.locA, o⟩
  | lea ds =>
    cases l with
    | s i =>
      obtain ⟨e1, a, vs, e2, q1, q2, z⟩ := h
      have e3 : σ[i]? = some (some (.ref a)) := by
        cases qq : σ[i]? with
        | none => rw [qq] at e2; cases e2
        | some y => rw [qq] at e2; exact congrArg some e2
      exact ⟨a, rvLoc (l := .s i) e3 r, e3, e1, vs, q1, q2, z⟩
    | p k =>
      obtain ⟨a, ea, e1, vs, q1, q2, z⟩ := h
      exact ⟨a, rvLoc (l := .p k) ea r, ea, e1, vs, q1, q2, z⟩
  | frz ds => exact absurd rfl (hp ds)
theorem mkArgs_ok (Re : Rep S σ e w) : ∀ {rs : List Rv} {vs : List V} {q : List Addr} {k : Nat} {ss : List Sl} {ps : List Pst} {ls : List (Nat × Loc)}, RvReps S σ w vs rs q → q.Nodup → mkArgs e rs k = some (ss, ps, ls) → locsApart ls = true →
    ∃ pa fl, Handed S σ e w k vs ss ps ls q pa fl
  | [], vs, q, k, ss, ps, ls, h, nd, hm, ha => by
    obtain ⟨rfl, rfl⟩ := h
    cases hm
    exact ⟨[], [], rfl, rfl, rfl, fun i s h => by simp at h, fun m p h => by simp at h, fun j l h => by simp at h, fun j l l' h => by simp at h, fun x h => by simp at h, List.nodup_nil⟩
  | r :: rs, vs, q, k, ss, ps, ls, h, nd, hm, ha => by
    obtain ⟨v, ws, f, g, rfl, rfl, r1, r2⟩ := h
    have nd' := List.nodup_append.mp nd
    have val : ∀ {d : D} {ss' : List Sl} {ps' : List Pst} {ls' : List (Nat × Loc)}, mkArgs e rs k = some (ss', ps', ls') → Dat S w.F d v → locsApart ls' = true → ∃ pa fl, Handed S σ e w k (v :: ws) (.val d :: ss') ps' ls' (f ++ g) pa fl := fun {d ss' ps' ls'} h1 hd ha => by
      obtain ⟨pa, fl, Hd⟩ := mkArgs_ok Re r2 nd'.2.1 h1 ha
      refine ⟨pa, fl, by simp [Hd.lens], Hd.lenp, Hd.lenf, fun i s hs => ?_, Hd.par, Hd.back, Hd.uniq, fun x hx => (Hd.src x hx).imp_right fun z => List.mem_append_right _ z, Hd.nd⟩
      cases i with
      | zero =>
        simp at hs
        exact ⟨v, rfl, .inl ⟨d, hs.symm, hd⟩⟩
      | succ i =>
        simp at hs
        obtain ⟨u, hu, z⟩ := Hd.slot i s hs
        exact ⟨u, by simpa using hu, z⟩
    have link : ∀ {p : Pst} {a : Addr} {fp : List Addr} {ss' : List Sl} {ps' : List Pst} {ls' ls2 : List (Nat × Loc)}, mkArgs e rs (k + 1) = some (ss', ps', ls') → v = .ref a → locsApart ls' = true →
        ((ls2 = ls' ∧ (∃ ds, p = .own ds ∧ Own S w.F w.H a ds fp) ∧ ∀ x ∈ fp, x ∈ f) ∨ (∃ l, ls2 = (k, l) :: ls' ∧ e.at l = some p ∧ LocA S σ l a ∧ fp = w.fp l ∧ PsRep S w l a p fp ∧ ∀ j' l', (j', l') ∈ ls' → l' ≠ l)) → fp.Nodup →
        ∃ pa fl, Handed S σ e w k (v :: ws) (.lnk k :: ss') (p :: ps') ls2 (f ++ g) pa fl := fun {p a fp ss' ps' ls' ls2} h1 hv ha hls hnd => by
      obtain ⟨pa, fl, Hd⟩ := mkArgs_ok Re r2 nd'.2.1 h1 ha
      have more : ∀ z, z ∈ ls' → z ∈ ls2 := fun z hz => by
        rcases hls with ⟨e1, _⟩ | ⟨l, e1, _⟩
        · rw [e1]; exact hz
        · rw [e1]; exact List.mem_cons_of_mem _ hz
      refine ⟨a :: pa, fp :: fl, by simp [Hd.lens], by simp [Hd.lenp], by simp [Hd.lenf], fun i s hs => ?_, fun m p' hp' => ?_, fun j l hj => ?_, fun j l1 l2 hj1 hj2 => ?_, fun x hx => ?_, ?_⟩
      · cases i with
        | zero =>
          simp at hs
          exact ⟨v, rfl, .inr ⟨0, a, hs.symm, rfl, hv⟩⟩
        | succ i =>
          simp at hs
          obtain ⟨u, hu, z⟩ := Hd.slot i s hs
          refine ⟨u, by simpa using hu, z.imp_right fun ⟨m, b, e1, e2, e3⟩ => ⟨m + 1, b, ?_, by simpa using e2, e3⟩⟩
          rw [e1]; congr 1; omega
      · cases m with
        | zero =>
          simp at hp'
          subst hp'
          refine ⟨a, fp, rfl, rfl, ?_⟩
          rcases hls with ⟨_, z, _⟩ | ⟨l, e1, _, _, _, z, _⟩
          · exact .inr z
          · exact .inl ⟨l, by rw [e1]; simp, z⟩
        | succ m =>
          simp at hp'
          obtain ⟨b, g', e1, e2, e3⟩ := Hd.par m p' hp'
          exact ⟨b, g', by simpa using e1, by simpa using e2, e3.imp_left fun ⟨l, z1, z2⟩ => ⟨l, more _ (by rw [show k + (m + 1) = k + 1 + m by omega]; exact z1), z2⟩⟩
      · have cases2 : (j, l) ∈ ls' ∨ ((j, l) = (k, l) ∧ e.at l = some p ∧ LocA S σ l a ∧ fp = w.fp l) := by
          rcases hls with ⟨e1, _⟩ | ⟨l', e1, e2, e3, e4, _⟩
          · rw [e1] at hj; exact .inl hj
          · rw [e1] at hj
            rcases List.mem_cons.mp hj with z | z
            · cases z; exact .inr ⟨rfl, e2, e3, e4⟩
            · exact .inl z
        rcases cases2 with z | ⟨z, e1, e2, e3⟩
        · obtain ⟨m, p', b, e1, e2, e3, e4, e5, e6⟩ := Hd.back j l z
          exact ⟨m + 1, p', b, by omega, by simpa using e2, by simpa using e3, e4, e5, by simpa using e6⟩
        · cases z
          exact ⟨0, p, a, rfl, rfl, rfl, e1, e2, by rw [← e3]; rfl⟩
      · have far : ∀ l, (k, l) ∉ ls' := fun l z => by
          obtain ⟨m, p', b, e1, _⟩ := Hd.back k l z
          omega
        rcases hls with ⟨e1, _⟩ | ⟨l, e1, _⟩
        · rw [e1] at hj1 hj2
          exact Hd.uniq j l1 l2 hj1 hj2
        · rw [e1] at hj1 hj2
          rcases List.mem_cons.mp hj1 with z1 | z1 <;> rcases List.mem_cons.mp hj2 with z2 | z2
          · cases z1; cases z2; rfl
          · cases z1; exact absurd z2 (far l2)
          · cases z2; exact absurd z1 (far l1)
          · exact Hd.uniq j l1 l2 z1 z2
      · rw [List.flatten_cons] at hx
        rcases List.mem_append.mp hx with hx | hx
        · rcases hls with ⟨_, _, z⟩ | ⟨l, e1, e2, e3, e4, _⟩
          · exact .inr (List.mem_append_left _ (z x hx))
          · exact .inl ⟨k, l, by rw [e1]; simp, by rw [← e4]; exact hx⟩
        · rcases Hd.src x hx with ⟨j, l, z1, z2⟩ | z
          · exact .inl ⟨j, l, more _ z1, z2⟩
          · exact .inr (List.mem_append_right _ z)
      · rw [List.flatten_cons]
        refine List.nodup_append.mpr ⟨hnd, Hd.nd, fun x hx y hy z => ?_⟩
        subst z
        rcases hls with ⟨_, _, z⟩ | ⟨l, e1, e2, e3, e4, _, z3⟩
        · rcases Hd.src x hy with ⟨j', l', y1, y2⟩ | y
          · exact (r1.off x (z x hx)).2.1 ⟨l', y2⟩
          · exact nd'.2.2 x (z x hx) x y rfl
        · rw [e4] at hx
          rcases Hd.src x hy with ⟨j', l', y1, y2⟩ | y
          · exact z3 j' l' y1 (Re.dis l' l x y2 hx)
          · exact (r2.off x y).2.1 ⟨l, hx⟩
    cases r with
    | val d =>
      unfold mkArgs at hm
      cases h1 : mkArgs e rs k with
      | none => rw [h1] at hm; cases hm
      | some t =>
        obtain ⟨ss', ps', ls'⟩ := t
        rw [h1] at hm
        cases hm
        exact val h1 r1.2 ha
    | fresh ds =>
      unfold mkArgs at hm
      cases h1 : mkArgs e rs (k + 1) with
      | none => rw [h1] at hm; cases hm
      | some t =>
        obtain ⟨ss', ps', ls'⟩ := t
        rw [h1] at hm
        cases hm
        obtain ⟨a, rfl, o, nf, off⟩ := r1
        exact link (p := .own ds) (fp := f) h1 rfl ha (.inl ⟨rfl, ⟨ds, rfl, o⟩, fun x hx => hx⟩) nf
    | loc l =>
      unfold mkArgs at hm
      cases hl : e.at l with
      | none => rw [hl] at hm; cases hm
      | some p =>
        rw [hl] at hm
        have go : ∀ {ss' ps' ls'}, mkArgs e rs (k + 1) = some (ss', ps', ls') → (∀ ds, p ≠ .frz ds) → locsApart ((k, l) :: ls') = true → ∃ pa fl, Handed S σ e w k (v :: ws) (.lnk k :: ss') (p :: ps') ((k, l) :: ls') (f ++ g) pa fl := fun {ss' ps' ls'} h1 np ha => by
          have ha' : (decide (∀ q ∈ ls', q.2 ≠ l) && locsApart ls') = true := ha
          rw [Bool.and_eq_true, decide_eq_true_eq] at ha'
          obtain ⟨a, rfl, la, pr⟩ := (Re.at hl).ps r1 np
          exact link (fp := w.fp l) h1 rfl ha'.2 (.inr ⟨l, rfl, hl, la, rfl, pr, fun j' l' hj => ha'.1 (j', l') hj⟩) (Re.nd l)
        cases p with
        | frz ds =>
          simp only at hm
          cases h1 : mkArgs e rs k with
          | none => rw [h1] at hm; cases hm
          | some t =>
            obtain ⟨ss', ps', ls'⟩ := t
            rw [h1] at hm
            cases hm
            exact val h1 ((Re.at hl).frzDat r1) ha
        | own ds =>
          simp only at hm
          cases h1 : mkArgs e rs (k + 1) with
          | none => rw [h1] at hm; cases hm
          | some t =>
            obtain ⟨ss', ps', ls'⟩ := t
            rw [h1] at hm
            cases hm
            exact go h1 (fun _ z => by cases z) ha
        | lea ds =>
          simp only at hm
          cases h1 : mkArgs e rs (k + 1) with
          | none => rw [h1] at hm; cases hm
          | some t =>
            obtain ⟨ss', ps', ls'⟩ := t
            rw [h1] at hm
            cases hm
            exact go h1 (fun _ z => by cases z) ha

theorem flat_mem {fl : List (List Addr)} {x : Addr} {m : Nat} (h : x ∈ fl.getD m []) : x ∈ fl.flatten ∧ fl[m]? = some (fl.getD m []) := by
  cases q : fl[m]? with
  | none => rw [List.getD_eq_getElem?_getD, q] at h; simp at h
  | some g =>
    have e : fl.getD m [] = g := by rw [List.getD_eq_getElem?_getD, q]; rfl
    rw [e] at h ⊢
    exact ⟨List.mem_flatten.mpr ⟨g, List.mem_of_getElem? q, h⟩, rfl⟩
theorem flat_uniq : ∀ {fl : List (List Addr)} {m m' : Nat} {g g' : List Addr} {x : Addr}, fl.flatten.Nodup → fl[m]? = some g → fl[m']? = some g' → x ∈ g → x ∈ g' → m = m'
  | [], _, _, _, _, _, _, h, _, _, _ => by simp at h
  | f :: fl, 0, 0, _, _, _, _, _, _, _, _ => rfl
  | f :: fl, 0, m' + 1, g, g', x, nd, h, h', hx, hx' => by
    simp at h h'
    subst h
    rw [List.flatten_cons] at nd
    exact absurd rfl ((List.nodup_append.mp nd).2.2 x hx x (List.mem_flatten.mpr ⟨g', List.mem_of_getElem? h', hx'⟩))
  | f :: fl, m + 1, 0, g, g', x, nd, h, h', hx, hx' => by
    simp at h h'
    subst h'
    rw [List.flatten_cons] at nd
    exact absurd rfl ((List.nodup_append.mp nd).2.2 x hx' x (List.mem_flatten.mpr ⟨g, List.mem_of_getElem? h, hx⟩))
  | f :: fl, m + 1, m' + 1, g, g', x, nd, h, h', hx, hx' => by
    simp at h h'
    rw [List.flatten_cons] at nd
    rw [flat_uniq (List.nodup_append.mp nd).2.1 h h' hx hx']
theorem flat_nd : ∀ {fl : List (List Addr)} {m : Nat} {g : List Addr}, fl.flatten.Nodup → fl[m]? = some g → g.Nodup
  | [], _, _, _, h => by simp at h
  | f :: fl, 0, g, nd, h => by
    simp at h
    subst h
    rw [List.flatten_cons] at nd
    exact (List.nodup_append.mp nd).1
  | f :: fl, m + 1, g, nd, h => by
    simp at h
    rw [List.flatten_cons] at nd
    exact flat_nd (List.nodup_append.mp nd).2.1 h
theorem Rep.there (R : Rep S σ e w) {x : Addr} (h : w.has x) : ∃ o, w.H x = some o := by
  cases q : w.H x with
  | none => exact absurd h (R.nofp q)
  | some o => exact ⟨o, rfl⟩
/-- the place of a list handed in -/
def lkL : List (Nat × Loc) → Loc → Option Nat
  | [], _ => none
  | (k, l') :: r, l => if l' = l then some k else lkL r l
theorem lkL_cons (k : Nat) (l' : Loc) (r : List (Nat × Loc)) (l : Loc) : lkL ((k, l') :: r) l = if l' = l then some k else lkL r l := rfl
theorem lkL_mem : ∀ {ls : List (Nat × Loc)} {l : Loc} {k : Nat}, lkL ls l = some k → (k, l) ∈ ls
  | [], _, _, h => by cases h
  | (j, l') :: r, l, k, h => by
    unfold lkL at h
    split at h
    · rename_i z; cases h; rw [z]; exact List.mem_cons_self
    · exact List.mem_cons_of_mem _ (lkL_mem h)
theorem lkL_of : ∀ {ls : List (Nat × Loc)} {l : Loc} {k : Nat}, locsApart ls = true → (k, l) ∈ ls → lkL ls l = some k
  | [], _, _, _, h => by simp at h
  | (j, l') :: r, l, k, ha, h => by
    have ha' : (decide (∀ q ∈ r, q.2 ≠ l') && locsApart r) = true := ha
    rw [Bool.and_eq_true, decide_eq_true_eq] at ha'
    unfold lkL
    rcases List.mem_cons.mp h with z | z
    · cases z; rw [if_pos rfl]
    · rw [if_neg fun e => ha'.1 (k, l) z e.symm]
      exact lkL_of ha'.2 z
/-- the callee's world -/
abbrev inL (w : Wo) (ls : List (Nat × Loc)) : Addr → Option Loc := fun x => (w.lf x).map fun l => match lkL ls l with | some k => .p k | none => l
abbrev inW (w : Wo) (fl : List (List Addr)) (ls : List (Nat × Loc)) : Wo := ⟨w.F, w.H, fun l => match l with | .s _ => [] | .p m => fl.getD m [], inL w ls⟩
theorem inW_le {w : Wo} {fl : List (List Addr)} {ls : List (Nat × Loc)} {x : Addr} : (inW w fl ls).le x ↔ w.le x := by
  show inL w ls x ≠ none ↔ w.lf x ≠ none
  unfold inL
  cases w.lf x with
  | none => simp
  | some l => simp
theorem inW_has {w : Wo} {fl : List (List Addr)} {ls : List (Nat × Loc)} {x : Addr} : (inW w fl ls).has x ↔ x ∈ fl.flatten := by
  constructor
  · rintro ⟨l, hl⟩
    cases l with
    | s i => exact absurd (show x ∈ ([] : List Addr) from hl) (by simp)
    | p m => exact (flat_mem (show x ∈ fl.getD m [] from hl)).1
  · intro h
    obtain ⟨g, hg, hx⟩ := List.mem_flatten.mp h
    obtain ⟨m, hm⟩ := List.getElem?_of_mem hg
    exact ⟨.p m, by show x ∈ fl.getD m []; rw [List.getD_eq_getElem?_getD, hm]; exact hx⟩
theorem in_rep {rs : List Rv} {vs : List V} {ss : List Sl} {ps : List Pst} {ls : List (Nat × Loc)} {pa : List Addr} {fl : List (List Addr)} (Re : Rep S σ e w) (r : RvReps S σ w vs rs q) (Hd : Handed S σ e w 0 vs ss ps ls q pa fl) (ha : locsApart ls = true) :
    Rep (S.with pa) (vs.map some) ⟨ss, ps⟩ (inW w fl ls) := by
  have none : ∀ x ∈ fl.flatten, w.F x = none ∧ ¬ w.le x := fun x hx => by
    rcases Hd.src x hx with ⟨j, l, _, z⟩ | z
    · exact ⟨Re.off x ⟨l, z⟩, Re.ale x ⟨l, z⟩⟩
    · exact ⟨(r.off x z).1, (r.off x z).2.2⟩
  refine ⟨Re.sub, by simp [Hd.lens], Hd.lenp.symm, fun i s hs => ?_, fun i _ => rfl, fun m p hp => ?_, fun m hm => ?_, fun l => ?_, fun l l' x h1 h2 => ?_, fun x hx => (none x (inW_has.mp hx)).1, fun x hx z => (none x (inW_has.mp hx)).2 (inW_le.mp z), fun x z => Re.leh x (inW_le.mp z)⟩
  · obtain ⟨v, hv, z⟩ := Hd.slot i s hs
    have ej : ((vs.map some)[i]?).join = some v := by rw [List.getElem?_map, hv]; rfl
    rcases z with ⟨d, rfl, hd⟩ | ⟨m, a, rfl, ha, rfl⟩
    · exact ⟨rfl, v, ej, Dat.pa _ _ hd⟩
    · exact ⟨rfl, a, ej, by rw [Nat.zero_add]; exact ha⟩
  · obtain ⟨a, g, e1, e2, z⟩ := Hd.par m p hp
    refine ⟨a, e1, ?_⟩
    show PsRep (S.with pa) (inW w fl ls) (.p m) a p (fl.getD m [])
    have e3 : fl.getD m [] = g := by rw [List.getD_eq_getElem?_getD, e2]; rfl
    rw [e3]
    rcases z with ⟨l, hl, z⟩ | ⟨ds, rfl, z⟩
    · have z' := PsRep.pa (pz := pa) z
      cases p with
      | own ds => exact z'
      | lea ds =>
        obtain ⟨g1, us, q1, q2, q3⟩ := z'
        refine ⟨g1, us, q1, q2, ?_⟩
        show inL w ls a = some (.p m)
        unfold inL
        rw [q3]
        rw [Nat.zero_add] at hl
        simp [lkL_of ha hl]
      | frz ds => exact z'
    · exact Own.pa (S := S) z
  · show fl.getD m [] = []
    have : fl[m]? = Option.none := List.getElem?_eq_none_iff.mpr (by rw [Hd.lenf]; exact hm)
    rw [List.getD_eq_getElem?_getD, this]; rfl
  · cases l with
    | s i => exact List.nodup_nil
    | p m =>
      show (fl.getD m []).Nodup
      cases z : fl[m]? with
      | none => rw [List.getD_eq_getElem?_getD, z]; exact List.nodup_nil
      | some g =>
        rw [List.getD_eq_getElem?_getD, z]
        exact flat_nd Hd.nd z
  · cases l with
    | s i => exact absurd (show x ∈ ([] : List Addr) from h1) (by simp)
    | p m => cases l' with
      | s i => exact absurd (show x ∈ ([] : List Addr) from h2) (by simp)
      | p m' =>
        have a1 := flat_mem (show x ∈ fl.getD m [] from h1)
        have a2 := flat_mem (show x ∈ fl.getD m' [] from h2)
        rw [flat_uniq Hd.nd a1.2 a2.2 h1 h2]

theorem putBack_spec {ps' : List Pst} : ∀ {ls : List (Nat × Loc)} {e e2 : Env}, putBack e ps' ls = some e2 → locsApart ls = true → (∀ j l, (j, l) ∈ ls → ∃ p, e.at l = some p) →
    e2.sl.length = e.sl.length ∧ e2.ps.length = e.ps.length ∧
    (∀ i, e2.sl[i]? = match lkL ls (.s i) with | some k => (ps'[k]?).map Sl.ofP | none => e.sl[i]?) ∧
    (∀ i, e2.ps[i]? = match lkL ls (.p i) with | some k => ps'[k]? | none => e.ps[i]?) ∧
    (∀ j l, (j, l) ∈ ls → ∃ p p0, ps'[j]? = some p ∧ e.at l = some p0 ∧ backOk p0 p = true)
  | [], e, e2, h, _, _ => by
    cases h
    exact ⟨rfl, rfl, fun i => rfl, fun i => rfl, fun j l h => by simp at h⟩
  | (k, l) :: r, e, e2, h, ha, hat => by
    have ha' : (decide (∀ q ∈ r, q.2 ≠ l) && locsApart r) = true := ha
    rw [Bool.and_eq_true, decide_eq_true_eq] at ha'
    unfold putBack at h
    cases hp : ps'[k]? with
    | none => rw [hp] at h; cases h
    | some p =>
      rw [hp] at h
      obtain ⟨p0, hl0⟩ := hat k l List.mem_cons_self
      rw [hl0] at h
      simp only at h
      split at h
      case isFalse => cases h
      rename_i hok
      have hne : ∀ m, (∃ j, (j, m) ∈ r) → m ≠ l := fun m ⟨j, hj⟩ => ha'.1 (j, m) hj
      have hput : ∀ m, m ≠ l → (e.put l p).at m = e.at m := fun m nm => by
        cases m with
        | s i => cases l with
          | s i' => simp only [Env.at, Env.put]; rw [List.getElem?_set_ne (fun z => nm (by rw [z]))]
          | p k' => rfl
        | p i => cases l with
          | s i' => rfl
          | p k' => simp only [Env.at, Env.put]; rw [List.getElem?_set_ne (fun z => nm (by rw [z]))]
      have hat' : ∀ j m, (j, m) ∈ r → ∃ p', (e.put l p).at m = some p' := fun j m hj => by
        obtain ⟨p', q⟩ := hat j m (List.mem_cons_of_mem _ hj)
        exact ⟨p', (hput m (hne m ⟨j, hj⟩)).trans q⟩
      obtain ⟨l1, l2, s1, s2, s3⟩ := putBack_spec h ha'.2 hat'
      have no : lkL r l = none := by
        cases z : lkL r l with
        | none => rfl
        | some j => exact absurd rfl (ha'.1 (j, l) (lkL_mem z))
      refine ⟨l1.trans ?_, l2.trans ?_, fun i => ?_, fun i => ?_, fun j m hj => ?_⟩
      · cases l <;> simp [Env.put]
      · cases l <;> simp [Env.put]
      · rw [s1 i, lkL_cons]
        by_cases z : l = .s i
        · subst z
          rw [if_pos rfl, no]
          have hi : i < e.sl.length := by
            rcases Nat.lt_or_ge i e.sl.length with y | y
            · exact y
            · have : e.sl[i]? = none := List.getElem?_eq_none_iff.mpr y
              simp [Env.at, this] at hl0
          simp only [hp, Option.map_some]
          exact List.getElem?_set_self hi
        · rw [if_neg z]
          cases lkL r (.s i) with
          | some j => rfl
          | none =>
            cases l with
            | s i' => simp only [Env.put]; exact List.getElem?_set_ne fun y => z (by rw [y])
            | p k' => rfl
      · rw [s2 i, lkL_cons]
        by_cases z : l = .p i
        · subst z
          rw [if_pos rfl, no]
          have hi : i < e.ps.length := by
            rcases Nat.lt_or_ge i e.ps.length with y | y
            · exact y
            · have : e.ps[i]? = none := List.getElem?_eq_none_iff.mpr y
              simp [Env.at, this] at hl0
          simp only [hp]
          exact List.getElem?_set_self hi
        · rw [if_neg z]
          cases lkL r (.p i) with
          | some j => rfl
          | none =>
            cases l with
            | s i' => rfl
            | p k' => simp only [Env.put]; exact List.getElem?_set_ne fun y => z (by rw [y])
      · rcases List.mem_cons.mp hj with z | z
        · cases z; exact ⟨p, p0, hp, hl0, hok⟩
        · obtain ⟨p1, p2, h1, h2, h3⟩ := s3 j m z
          exact ⟨p1, p2, h1, by rw [← hput m (hne m ⟨j, z⟩)]; exact h2, h3⟩
/-- behind the call: the caller's world -/
abbrev outW (w w' : Wo) (ls : List (Nat × Loc)) : Wo := ⟨w'.F, w'.H, fun l => match lkL ls l with | some k => w'.fp (.p k) | none => w.fp l, w.lf⟩
theorem back_ok {rs : List Rv} {vs : List V} {ss : List Sl} {ps ps' : List Pst} {ls : List (Nat × Loc)} {pa : List Addr} {fl : List (List Addr)} {e2 : Env} (s0 : Step w0 w) (Re : Rep S σ e w) (r : RvReps S σ w vs rs q) (nw : New w0 q)
    (Hd : Handed S σ e w 0 vs ss ps ls q pa fl) (ha : locsApart ls = true) (st : Step (inW w fl ls) w') (R' : Rep (S.with pa) [] ⟨[], ps'⟩ w') (hb : putBack e ps' ls = some e2) :
    Step w0 (outW w w' ls) ∧ Rep S σ e2 (outW w w' ls) ∧ (∀ x, (outW w w' ls).has x → w'.has x ∨ (w.has x ∧ ¬ (inW w fl ls).has x)) ∧ ∀ x, w.le x → w'.le x := by
  have stay : ∀ l, lkL ls l = none → ∀ x ∈ w.fp l, ¬ (inW w fl ls).has x := fun l hl x hx z => by
    rcases Hd.src x (inW_has.mp z) with ⟨j, l', z1, z2⟩ | z
    · rw [Re.dis l l' x hx z2, lkL_of ha z1] at hl
      cases hl
    · exact (r.off x z).2.1 ⟨l, hx⟩
  have stayH : ∀ l, lkL ls l = none → ∀ x ∈ w.fp l, ∀ o, w.H x = some o → w'.H x = some o := fun l hl x hx o ho => st.b x o ho (stay l hl x hx)
  have has2 : ∀ x, (outW w w' ls).has x → w'.has x ∨ (w.has x ∧ ¬ (inW w fl ls).has x) := fun x ⟨l, hx⟩ => by
    have hx' : x ∈ (match lkL ls l with | some k => w'.fp (.p k) | none => w.fp l) := hx
    cases z : lkL ls l with
    | some k => rw [z] at hx'; exact .inl ⟨_, hx'⟩
    | none => rw [z] at hx'; exact .inr ⟨⟨l, hx'⟩, stay l z x hx'⟩
  have lea : ∀ x, w.le x → (∀ o, w.H x = some o → w'.H x = some o) := fun x hx o ho => st.b x o ho fun z => by
    rcases Hd.src x (inW_has.mp z) with ⟨j, l', z1, z2⟩ | z
    · exact Re.ale x ⟨l', z2⟩ hx
    · exact (r.off x z).2.2 hx
  have offIn : ∀ x o, w.H x = some o → ¬ w.has x → x ∉ q → ¬ (inW w fl ls).has x := fun x o ho hn hq z => by
    rcases Hd.src x (inW_has.mp z) with ⟨j, l', z1, z2⟩ | z
    · exact hn ⟨l', z2⟩
    · exact hq z
  obtain ⟨l1, l2, s1, s2, s3⟩ := putBack_spec hb ha fun j l hj => by
    obtain ⟨m, p, a, _, _, _, h, _⟩ := Hd.back j l hj
    exact ⟨p, h⟩
  have leW : ∀ x, w.le x → w'.le x := fun x z => by
    obtain ⟨l, hl⟩ := Option.ne_none_iff_exists'.mp (inW_le (fl := fl) (ls := ls) |>.mpr z)
    exact fun y => by rw [st.g x l hl] at y; cases y
  -- the lists handed in come back under the caller's places
  have come : ∀ {j l p a}, lkL ls l = some j → ps'[j]? = some p → LocA S σ l a → PsRep (S.with pa) w' (.p j) a p (w'.fp (.p j)) → PsRep S (outW w w' ls) l a p (w'.fp (.p j)) := fun {j l p a} hj hp la pr => by
    have pr' := PsRep.unpa pr
    cases p with
    | own ds => exact pr'
    | frz ds => exact pr'
    | lea ds =>
      obtain ⟨e1, us, q1, q2, z⟩ := pr'
      refine ⟨e1, us, q1, q2, ?_⟩
      obtain ⟨p1, p0, h1, h2, h3⟩ := s3 j l (lkL_mem hj)
      rw [hp] at h1
      cases h1
      cases p0 with
      | lea d0 =>
        have hR := Re.at h2
        cases l with
        | s i =>
          obtain ⟨_, b, _, f1, _, _, f2⟩ := hR
          have := LocA.join la
          rw [f1] at this
          cases this
          exact f2
        | p k =>
          obtain ⟨b, f1, _, _, _, _, f2⟩ := hR
          have la' : S.pa[k]? = some a := la
          rw [f1] at la'
          cases la'
          exact f2
      | own _ => cases h3
      | frz _ => cases h3
  have g2 : ∀ l, (outW w w' ls).fp l = match lkL ls l with | some k => w'.fp (.p k) | none => w.fp l := fun l => rfl
  have backA : ∀ {j l}, lkL ls l = some j → ∃ a, pa[j]? = some a ∧ LocA S σ l a := fun {j l} hj => by
    obtain ⟨m, p, a, e1, e2, e3, e4, e5, e6⟩ := Hd.back j l (lkL_mem hj)
    rw [Nat.zero_add] at e1
    subst e1
    exact ⟨a, e3, e5⟩
  have atL : ∀ {j l}, lkL ls l = some j → ∃ p, e.at l = some p := fun {j l} hj => by
    obtain ⟨m, p, a, _, _, _, h, _⟩ := Hd.back j l (lkL_mem hj)
    exact ⟨p, h⟩
  refine ⟨⟨s0.a.trans st.a, fun x o h n => ?_, fun x o h n z => ?_, fun x o h n z => ?_, fun x o h => ?_, fun x o h n z => s0.f x o h n z, fun x l z => s0.g x l z⟩, ⟨R'.sub, l1.trans Re.len, l2.trans Re.plen, fun i s hs => ?_, fun i hi => ?_, fun k p hp => ?_, fun k hk => ?_, fun l => ?_, fun l l' x h1 h2 => ?_, fun x hx => ?_, fun x hx z => ?_, fun x z => R'.leh x (leW x z)⟩, has2, leW⟩
  · have h1 := s0.b x o h n
    exact st.b x o h1 (offIn x o h1 (s0.c x o h n) fun z => n (nw x z o h))
  · have h1 := s0.b x o h n
    have h2 := s0.c x o h n
    have h3 := offIn x o h1 h2 fun z => n (nw x z o h)
    rcases has2 x z with y | y
    · exact st.c x o h1 h3 y
    · exact h2 y.1
  · have h1 := s0.b x o h n
    exact st.d x o h1 (offIn x o h1 (s0.c x o h n) fun z => n (nw x z o h)) (s0.d x o h n z)
  · obtain ⟨o', h'⟩ := s0.e x o h
    exact st.e x o' h'
  · rw [s1 i] at hs
    rw [g2]
    cases hj : lkL ls (.s i) with
    | some j =>
      have hs : (ps'[j]?).map Sl.ofP = some s := by rw [hj] at hs; exact hs
      show SlRep S (outW w w' ls) (.s i) (σ[i]?).join s (w'.fp (.p j))
      obtain ⟨a, ea, la⟩ := backA hj
      cases hp : ps'[j]? with
      | none => rw [hp] at hs; simp at hs
      | some p =>
        rw [hp] at hs
        have hs : s = Sl.ofP p := by simpa using hs.symm
        subst hs
        obtain ⟨b, eb, pr⟩ := R'.par j p hp
        rw [ea] at eb
        cases eb
        have pr' := come hj hp la pr
        have ej : (σ[i]?).join = some (V.ref a) := LocA.join la
        cases p with
        | own ds => exact ⟨a, ej, pr'⟩
        | lea ds =>
          obtain ⟨e1, us, q1, q2, z⟩ := pr'
          exact ⟨e1, a, us, ej, q1, q2, z⟩
        | frz ds => exact ⟨pr'.1, .ref a, ej, pr'.2⟩
    | none =>
      rw [hj] at hs
      have h := Re.slot i s hs
      cases s with
      | no => exact h
      | val d =>
        obtain ⟨e1, v, e2, rd⟩ := h
        exact ⟨e1, v, e2, Dat.mono st.a _ _ rd⟩
      | own ds =>
        obtain ⟨a, e1, o⟩ := h
        refine ⟨a, e1, o.mono st.a fun x hx => ?_⟩
        obtain ⟨us, hu⟩ := o.there x hx
        show w'.H x = w.H x
        rw [hu]; exact stayH _ hj x hx _ hu
      | lea ds =>
        obtain ⟨e1, a, us, e2, q1, q2, z⟩ := h
        exact ⟨e1, a, us, e2, lea a (fun y => by rw [z] at y; cases y) _ q1, q2.mono st.a, z⟩
      | lnk k => exact h
  · have hn : lkL ls (.s i) = none := by
      cases z : lkL ls (.s i) with
      | none => rfl
      | some j =>
        obtain ⟨p, hp⟩ := atL z
        have : e.sl[i]? = none := List.getElem?_eq_none_iff.mpr (by rw [← l1]; exact hi)
        simp [Env.at, this] at hp
    rw [g2, hn]
    exact Re.out i (by rw [← l1]; exact hi)
  · rw [s2 k] at hp
    rw [g2]
    cases hj : lkL ls (.p k) with
    | some j =>
      rw [hj] at hp
      obtain ⟨a, ea, la⟩ := backA hj
      obtain ⟨b, eb, pr⟩ := R'.par j p hp
      rw [ea] at eb
      cases eb
      exact ⟨a, la, come hj hp la pr⟩
    | none =>
      rw [hj] at hp
      obtain ⟨a, ea, h⟩ := Re.par k p hp
      refine ⟨a, ea, ?_⟩
      cases p with
      | own ds =>
        have o : Own S w.F w.H a ds (w.fp (.p k)) := h
        refine Own.mono (S := S) st.a (fun x hx => ?_) o
        obtain ⟨us, hu⟩ := o.there x hx
        show w'.H x = w.H x
        rw [hu]; exact stayH _ hj x hx _ hu
      | lea ds =>
        obtain ⟨e1, us, q1, q2, z⟩ := h
        exact ⟨e1, us, lea a (fun y => by rw [z] at y; cases y) _ q1, q2.mono st.a, z⟩
      | frz ds => exact ⟨h.1, Dat.mono st.a _ _ h.2⟩
  · have hn : lkL ls (.p k) = none := by
      cases z : lkL ls (.p k) with
      | none => rfl
      | some j =>
        obtain ⟨p, hp⟩ := atL z
        have : e.ps[k]? = none := List.getElem?_eq_none_iff.mpr (by rw [← l2]; exact hk)
        simp [Env.at, this] at hp
    rw [g2, hn]
    exact Re.pout k (by rw [← l2]; exact hk)
  · rw [g2]
    cases lkL ls l with
    | some k => exact R'.nd _
    | none => exact Re.nd l
  · rw [g2] at h1 h2
    cases hj : lkL ls l with
    | some j =>
      rw [hj] at h1
      cases hj' : lkL ls l' with
      | some j' =>
        rw [hj'] at h2
        have := R'.dis _ _ x h1 h2
        cases this
        exact Hd.uniq j l l' (lkL_mem hj) (lkL_mem hj')
      | none =>
        rw [hj'] at h2
        obtain ⟨o, ho⟩ := Re.there ⟨l', h2⟩
        exact absurd ⟨_, h1⟩ (st.c x o ho (stay l' hj' x h2))
    | none =>
      rw [hj] at h1
      cases hj' : lkL ls l' with
      | some j' =>
        rw [hj'] at h2
        obtain ⟨o, ho⟩ := Re.there ⟨l, h1⟩
        exact absurd ⟨_, h2⟩ (st.c x o ho (stay l hj x h1))
      | none =>
        rw [hj'] at h2
        exact Re.dis l l' x h1 h2
  · rcases has2 x hx with z | ⟨z1, z2⟩
    · exact R'.off x z
    · obtain ⟨o, ho⟩ := Re.there z1
      exact st.d x o ho z2 (Re.off x z1)
  · rcases has2 x hx with y | ⟨y1, y2⟩
    · exact R'.ale x y (leW x z)
    · obtain ⟨o, ho⟩ := Re.there y1
      exact Re.ale x y1 z
theorem fin_call {C : Ct} {f : String} {rs : List Rv} {vs : List V} {Q : VK} (s0 : Step w0 w) (Re : Rep S σ e w) (r : RvReps S σ w vs rs q) (nd : q.Nodup) (nw : New w0 q) (g : Good S W σ w0 (doCall C f rs e) (postR S σ w0 Q)) :
    spF S (C.call f) vs w.H Q (WE W σ) := by
  unfold doCall at g
  cases hm : mkArgs e rs 0 with
  | none => rw [hm] at g; exact g.elim
  | some t =>
    obtain ⟨ss, ps, ls⟩ := t
    rw [hm] at g
    simp only at g
    split at g
    · rename_i ha
      obtain ⟨pa, fl, Hd⟩ := mkArgs_ok Re r nd hm ha
      refine ⟨pa, ss, ps, inW w fl ls, rfl, Hd.lens, in_rep Re r Hd ha, fun s hs => ?_, ?_⟩
      · obtain ⟨i, hi⟩ := List.getElem?_of_mem hs
        obtain ⟨v, _, z⟩ := Hd.slot i s hi
        rcases z with ⟨d, z, _⟩ | ⟨m, a, z, _⟩
        · exact .inl ⟨d, z⟩
        · exact .inr ⟨_, z⟩
      · have res : ∀ {r : Rv} {ps' : List Pst} (_ : ∀ l, r ≠ .loc l) (_ : Good S W σ w0 (match putBack e ps' ls with | some e => .ok r e | none => .bad) (postR S σ w0 Q)) (v : V) (w' : Wo) (q' : List Addr), Step (inW w fl ls) w' → Rep (S.with pa) [] ⟨[], ps'⟩ w' → RvRep (S.with pa) [] w' v r q' → New (inW w fl ls) q' → Q v w'.H := fun {r0 ps'} nl g v w' q' st R' hr n' => by
          cases hb : putBack e ps' ls with
          | none => rw [hb] at g; exact g.elim
          | some e2 =>
            rw [hb] at g
            obtain ⟨s2, R2, has2, leW⟩ := back_ok s0 Re r nw Hd ha st R' hb
            have hr2 : RvRep S σ (outW w w' ls) v r0 q' := by
              cases r0 with
              | val d => exact ⟨hr.1, Dat.unpa _ _ hr.2⟩
              | fresh ds =>
                obtain ⟨a, e1, o, n, off⟩ := hr
                refine ⟨a, e1, o.unpa, n, fun x hx => ⟨(off x hx).1, fun z => ?_, fun z => (off x hx).2.2 (leW x z)⟩⟩
                rcases has2 x z with y | ⟨y1, y2⟩
                · exact (off x hx).2.1 y
                · obtain ⟨o', ho'⟩ := Re.there y1
                  exact y2 (n' x hx o' ho')
              | loc l => exact absurd rfl (nl l)
            refine g _ s2 R2 v q' hr2 fun x hx o ho => ?_
            obtain ⟨o', ho'⟩ := s0.e x o ho
            rcases Hd.src x (inW_has.mp (n' x hx o' ho')) with ⟨j, l, _, z⟩ | z
            · by_cases y : w0.has x
              · exact y
              · exact absurd ⟨l, z⟩ (s0.c x o ho y)
            · exact nw x z o ho
        cases hC : C.call f ss ps with
        | bad => rw [hC] at g; exact g.elim
        | ok r0 ps' =>
          rw [hC] at g
          cases r0 with
          | loc l => exact g.elim
          | val d => exact fun v w' q' => res (fun l z => by cases z) g v w' q'
          | fresh ds => exact fun v w' q' => res (fun l z => by cases z) g v w' q'
        | ex c d ps' =>
          rw [hC] at g
          simp only at g
          intro Ca dx w' u hc st R' hd du
          cases hb : putBack e ps' ls with
          | none => rw [hb] at g; exact g.elim
          | some e2 =>
            rw [hb] at g
            obtain ⟨s2, R2, has2, leW⟩ := back_ok s0 Re r nw Hd ha st R' hb
            exact g Ca dx (outW w w' ls) u hc s2 R2 hd (Dat.unpa _ _ du)
    · exact g.elim
end

/-! ### calls by name -/
section
variable {X : L2.Cx} {S : Se} {W : WX} {a b c : Expr} {ea eb ec : Env → R Rv} {pos p kpos : Pos} {es rest : List Expr} {eas : Env → R (List Rv)} {C : Ct} {f : String} {fa : Addr} {fd : FuncData} {ps : List Str} {k : Nat} {x : Str}
theorem s_call (F : FnOk X.prog X.w X.K X.mg X.base (L2.CX X.prog X.w) k fa fd ps (spF S (C.call f))) (hr : Room k X.A) (hg : Gl X x) (hm : X.mg x = some (.ref fa)) (hk : PySem.W.keepIn X.K (.ref fa) = true) (hb : Binds X.K fd ps []) (tk : Takes X W)
    (ha : PA X (a :: es) (tA S W eas)) (hdb : (x == ("__debug__" : Str)) = false) (he : starEach (a :: es) X.env = (false, eval a X.env) :: starEach es X.env) (hpl : (backTo pos (starEach es X.env)).any (·.1) = false) :
    PE X (.Call (.Name x p) (a :: es) [] pos) (tE S W fun e => (eas e).bind fun rs e => doCall C f rs e) :=
  PE.imp (pe_callS F hr hg hm hk hb (fun σ => passAt tk σ) ha hdb he hpl) fun σ H Q ⟨e, w, hw, R, g⟩ => tA.one hw R g fun vs rs q e w' s R' hr n nd g => fin_call s R' hr nd n g

/-- keywords: their values -/
theorem PK.imp {kws : List Keyword} {t t' : TA} (h : PK X kws t) (k : ∀ σ H Q, t' σ H Q → t σ H Q) : PK X kws t' := ⟨fun pos pins s σ H Q I z => h.run pos pins s σ H Q I (k σ H Q z)⟩
theorem s_knil : PK X [] (tA S W fun e => .ok [] e) := PK.imp pk_nil fun σ H Q ⟨e, w, hw, R, g⟩ => by
  subst hw
  exact g w (Step.refl w) R [] [] ⟨rfl, rfl⟩ (New.nil _) List.nodup_nil
theorem s_kcons {nm : Option Str} {kws : List Keyword} (ha : PE X a (tE S W ea)) (hr : PK X kws (tA S W eas)) : PK X (⟨nm, a, kpos⟩ :: kws) (tA S W fun e => (ea e).bind fun r e => (eas e).bind fun rs e => .ok (r :: rs) e) :=
  PK.imp (pk_cons ha hr) fun σ H Q ⟨e, w, hw, R, g⟩ => tE.one hw R g fun v r q e w1 s R1 hr1 n1 g => tA.on s R1 g fun vs rs q2 e w2 s2 s02 R2 hr2 n2 n12 nd g =>
    g w2 s02 R2 (v :: vs) (q ++ q2) ⟨v, vs, q, q2, rfl, rfl, hr1.step s2, hr2⟩ (mem_app_new n1 n2) (List.nodup_append.mpr ⟨hr1.nd, nd, fun a ha b hb z => by
      subst z
      obtain ⟨us, hu⟩ := hr1.there a ha
      exact (hr1.off a ha).2.1 (n12 a hb _ hu)⟩)
/-- how such a call binds: the positional values, then the keywords' values at the places js -/
structure KwB (K : PySem.W.Frag) (fd : FuncData) (ps ks : List Str) (n : Nat) (js : List Nat) : Prop where
  to : ∀ (s : Shared) (us ws : List Value), us.length = n → ws.length = ks.length → BindsTo s fd ⟨us, ks.zip ws⟩ (ps.zip (us ++ js.map fun j => ws.getD j .none))
  len : ps.length = n + js.length
  lt : ∀ j ∈ js, j < ks.length
theorem vals_getD {vs : List V} {us : List Value} (r : Vals vs us) {j : Nat} (h : j < vs.length) : RelV (vs.getD j .non) (us.getD j .none) := by
  have h1 : vs[j]? = some (vs.getD j .non) := by rw [List.getD_eq_getElem?_getD, List.getElem?_eq_getElem h]; rfl
  obtain ⟨u, hu, ru⟩ := r.get h1
  have : us.getD j .none = u := by rw [List.getD_eq_getElem?_getD, hu]; rfl
  rw [this]; exact ru
theorem vals_perm {vs : List V} {us : List Value} (r : Vals vs us) : ∀ {js : List Nat}, (∀ j ∈ js, j < vs.length) → Vals (js.map fun j => vs.getD j .non) (js.map fun j => us.getD j .none)
  | [], _ => .nil
  | j :: js, h => .cons (vals_getD r (h j (by simp))) (vals_perm r fun i hi => h i (by simp [hi]))
theorem run_fnKS {CX : CXT} {sp : Sp} {E : L2.St → XK} {ks : List Str} {n : Nat} {js : List Nat} {pins : List (Addr × Obj)} {σ : L2.St} {H : Hp} {s : Shared} {Q : VK} {us ws : List Value} {vs zs : List V} (F : FnOk X.prog X.w X.K X.mg X.base CX k fa fd ps sp) (hr : Room k X.A)
    (hb : KwB X.K fd ps ks n js) (hx : PassesAt CX X σ (E σ)) (I : Inv X pins σ H s) (r : Vals vs us) (rz : Vals zs ws) (hn : vs.length = n) (hz : zs.length = ks.length) (h : sp (vs ++ js.map fun j => zs.getD j .non) H Q (E σ)) :
    wpAny (model X.prog X.w) X.A (call (.ref fa) us (ks.zip ws)) (EP X pins σ Q) X.xe s := by
  have r2 : Vals (vs ++ js.map fun j => zs.getD j .non) (us ++ js.map fun j => ws.getD j .none) := r.append (vals_perm rz fun j hj => by rw [hz]; exact hb.lt j hj)
  have b := hb.to s us ws (r.length.symm.trans hn) (rz.length.symm.trans hz)
  refine wpAny_call (codeAny_mono (F.run X.A X.stack s H ⟨us, ks.zip ws⟩ _ _ Q (E σ) hr I.env0 b r2 h) fun r s' hq => ?_)
  cases r with
  | error e => exact hx pins H s e s' I hq
  | ok fl =>
    cases fl with
    | ret u => exact I.after hq
    | next => exact False.elim hq
    | brk => exact False.elim hq
    | cont => exact False.elim hq
def tCallKS (sp : Sp) (n m : Nat) (js : List Nat) (E : L2.St → XK) (t tk : TA) : TE := fun σ H Q => t σ H fun vs H1 => tk σ H1 fun zs H2 => vs.length = n ∧ zs.length = m ∧ sp (vs ++ js.map fun j => zs.getD j .non) H2 Q (E σ)
theorem pe_callKS {CX : CXT} {sp : Sp} {E : L2.St → XK} {ks : List Str} {n : Nat} {js : List Nat} {kws : List Keyword} {t tk : TA} (F : FnOk X.prog X.w X.K X.mg X.base CX k fa fd ps sp) (hr : Room k X.A) (hg : Gl X x) (hm : X.mg x = some (.ref fa)) (hk : PySem.W.keepIn X.K (.ref fa) = true)
    (hb : KwB X.K fd ps ks n js) (hx : ∀ σ, PassesAt CX X σ (E σ)) (ha : PA X (a :: es) t) (hkw : PK X kws tk) (hall : (backToKw pos (keywordEach kws X.env)).all (·.1.isSome) = true) (hks : (backToKw pos (keywordEach kws X.env)).filterMap (·.1) = ks)
    (hdb : (x == ("__debug__" : Str)) = false) (he : starEach (a :: es) X.env = (false, eval a X.env) :: starEach es X.env) (hpl : ((backTo pos (starEach (a :: es) X.env)).any (·.1) || (backToKw pos (keywordEach kws X.env)).any (·.1.isNone)) = false) :
    PE X (.Call (.Name x p) (a :: es) kws pos) (tCallKS sp n ks.length js E t tk) := by
  refine ⟨fun pins s σ H Q I h => ?_⟩
  refine wpAny_Call_Name_kw (ld_glob I hg hm ?_ hdb)
  refine PySem.W.callWith_KW (h₀ := X.base) I.ok.mod.kin hk hall (thn (ha.run pos pins s σ H _ I h) fun us s1 ⟨vs, H1, I1, r, q⟩ => ?_) hpl he
  refine thn (hkw.run pos pins s1 σ H1 _ I1 q) fun ws s2 ⟨zs, H2, I2, rz, hn, hz, q2⟩ => ⟨I2.kIn, ?_⟩
  rw [hks]
  exact run_fnKS F hr hb (hx σ) I2 r rz hn hz q2
theorem pe_callKS0 {CX : CXT} {sp : Sp} {E : L2.St → XK} {ks : List Str} {js : List Nat} {kws : List Keyword} {tk : TA} (F : FnOk X.prog X.w X.K X.mg X.base CX k fa fd ps sp) (hr : Room k X.A) (hg : Gl X x) (hm : X.mg x = some (.ref fa)) (hk : PySem.W.keepIn X.K (.ref fa) = true)
    (hb : KwB X.K fd ps ks 0 js) (hx : ∀ σ, PassesAt CX X σ (E σ)) (hkw : PK X kws tk) (hall : (backToKw pos (keywordEach kws X.env)).all (·.1.isSome) = true) (hks : (backToKw pos (keywordEach kws X.env)).filterMap (·.1) = ks)
    (hdb : (x == ("__debug__" : Str)) = false) (hpl : ((backTo pos (starEach [] X.env)).any (·.1) || (backToKw pos (keywordEach kws X.env)).any (·.1.isNone)) = false) :
    PE X (.Call (.Name x p) [] kws pos) (tCallKS sp 0 ks.length js E tNil tk) := by
  refine ⟨fun pins s σ H Q I h => ?_⟩
  refine wpAny_Call_Name_kw (ld_glob I hg hm ?_ hdb)
  refine PySem.W.callWith_KW0 (h₀ := X.base) I.ok.mod.kin hk hall (thn (hkw.run pos pins s σ H _ I h) fun ws s2 ⟨zs, H2, I2, rz, hn, hz, q2⟩ => ⟨I2.kIn, ?_⟩) hpl
  rw [hks]
  exact run_fnKS (us := []) (vs := []) F hr hb (hx σ) I2 .nil rz rfl hz q2
end
end Fp
/-! FpCall2: calls with keywords, isinstance. -/
namespace Fp
open PySem PySem.Spec PyProof.Rows L2
section
variable {S : Se} {W : WX} {σ : L2.St} {e e' : Env} {w w' w0 w1 w2 : Wo} {v : V} {r x y : Rv} {q q' : List Addr} {α β : Type}
theorem old_nil (h : RvRep S σ w v x q) (o : x.old = true) : q = [] := by
  cases x with
  | val d => exact h.1
  | fresh ds => cases o
  | loc l => cases l with
    | s i => exact h.1
    | p k => exact h.1
theorem olds : ∀ {ws : List Rv} {zs : List V} {q : List Addr}, RvReps S σ w zs ws q → ws.all Rv.old = true → q = [] ∧ ∀ j < ws.length, RvRep S σ w (zs.getD j .non) (ws.getD j (.val .non)) []
  | [], zs, q, h, _ => ⟨h.2, fun j hj => by simp at hj⟩
  | x :: ws, zs, q, h, o => by
    obtain ⟨v, us, f, g, rfl, rfl, r1, r2⟩ := h
    simp only [List.all_cons, Bool.and_eq_true] at o
    have e1 := old_nil r1 o.1
    obtain ⟨e2, r3⟩ := olds r2 o.2
    subst e1
    refine ⟨by rw [e2]; rfl, fun j hj => ?_⟩
    cases j with
    | zero => exact r1
    | succ j => exact r3 j (by simpa using hj)
theorem perm_reps {ws : List Rv} {zs : List V} (h : ∀ j < ws.length, RvRep S σ w (zs.getD j .non) (ws.getD j (.val .non)) []) : ∀ {js : List Nat}, (∀ j ∈ js, j < ws.length) → RvReps S σ w (js.map fun j => zs.getD j .non) (js.map fun j => ws.getD j (.val .non)) []
  | [], _ => ⟨rfl, rfl⟩
  | j :: js, k => ⟨_, _, [], [], rfl, rfl, h j (k j (by simp)), perm_reps h fun i hi => k i (by simp [hi])⟩
theorem RvReps.append : ∀ {rs ws : List Rv} {vs zs : List V} {q q' : List Addr}, RvReps S σ w vs rs q → RvReps S σ w zs ws q' → RvReps S σ w (vs ++ zs) (rs ++ ws) (q ++ q')
  | [], ws, vs, zs, q, q', h, h' => by rw [h.1, h.2]; exact h'
  | x :: rs, ws, vs, zs, q, q', h, h' => by
    obtain ⟨v, us, f, g, rfl, rfl, r1, r2⟩ := h
    exact ⟨v, us ++ zs, f, g ++ q', rfl, by rw [List.append_assoc], r1, r2.append h'⟩
theorem kw_fin {C : Ct} {f : String} {ps ks : List String} {js : List Nat} {m : Nat} {rs ws : List Rv} {vs zs : List V} {Q : VK} (hp : ∀ n, n = m → kwPerm ps ks n = some js) (s0 : Step w0 w) (Re : Rep S σ e w) (r : RvReps S σ w vs rs q) (nd : q.Nodup) (nw : New w0 q)
    (r' : RvReps S σ w zs ws q') (hm : rs.length = m) (g : Good S W σ w0 (match kwRvs ps ks rs ws with | some us => doCall C f us e | none => .bad) (postR S σ w0 Q)) :
    vs.length = m ∧ zs.length = ks.length ∧ spF S (C.call f) (vs ++ js.map fun j => zs.getD j .non) w.H Q (WE W σ) := by
  unfold kwRvs at g
  rw [hp _ hm] at g
  simp only at g
  split at g
  · rename_i us hus
    split at hus
    · rename_i hh
      cases hus
      obtain ⟨e1, r1⟩ := olds r' hh.2.1
      have r3 := r.append (perm_reps r1 (js := js) fun j hj => by rw [hh.1]; exact hh.2.2 j hj)
      rw [List.append_nil] at r3
      exact ⟨r.len.symm.trans hm, r'.len.symm.trans hh.1, fin_call s0 Re r3 nd nw g⟩
    · cases hus
  · exact g.elim
end
section
variable {X : L2.Cx} {S : Se} {W : WX} {a b c : Expr} {ea eb ec : Env → R Rv} {pos p kpos : Pos} {es rest : List Expr} {eas eks : Env → R (List Rv)} {C : Ct} {f : String} {fa : Addr} {fd : FuncData} {ps ks : List Str} {k : Nat} {x : Str} {kws : List Keyword} {n : Nat} {js : List Nat} {psS ksS : List String}
theorem s_callk (F : FnOk X.prog X.w X.K X.mg X.base (L2.CX X.prog X.w) k fa fd ps (spF S (C.call f))) (hr : Room k X.A) (hg : Gl X x) (hm : X.mg x = some (.ref fa)) (hk : PySem.W.keepIn X.K (.ref fa) = true) (hb : KwB X.K fd ps ks n js) (tk : Takes X W)
    (hl : ksS.length = ks.length) (hp : kwPerm psS ksS n = some js) (hn : ∀ e rs e', eas e = .ok rs e' → rs.length = n)
    (ha : PA X (a :: es) (tA S W eas)) (hkw : PK X kws (tA S W eks)) (hall : (backToKw pos (keywordEach kws X.env)).all (·.1.isSome) = true) (hks : (backToKw pos (keywordEach kws X.env)).filterMap (·.1) = ks)
    (hdb : (x == ("__debug__" : Str)) = false) (he : starEach (a :: es) X.env = (false, eval a X.env) :: starEach es X.env) (hpl : ((backTo pos (starEach (a :: es) X.env)).any (·.1) || (backToKw pos (keywordEach kws X.env)).any (·.1.isNone)) = false) :
    PE X (.Call (.Name x p) (a :: es) kws pos) (tE S W fun e => (eas e).bind fun rs e => (eks e).bind fun ws e => match kwRvs psS ksS rs ws with | some us => doCall C f us e | none => .bad) :=
  PE.imp (pe_callKS F hr hg hm hk hb (fun σ => passAt tk σ) ha hkw hall hks hdb he hpl) fun σ H Q ⟨e, w, hw, R, g⟩ => by
    subst hw
    refine ⟨e, w, rfl, R, ?_⟩
    have g : Good S W σ w ((eas e).bind fun rs e => (eks e).bind fun ws e => match kwRvs psS ksS rs ws with | some us => doCall C f us e | none => .bad) (postR S σ w Q) := g
    cases hea : eas e with
    | bad => rw [hea] at g; exact g.elim
    | ex c d e1 => rw [hea] at g; exact g
    | ok rs e1 =>
      rw [hea] at g
      intro w1 s1 R1 vs q hr1 n1 nd
      refine tA.on s1 R1 g fun zs ws q2 e2 w2 s2 s02 R2 hr2 n2 n12 nd2 g2 => ?_
      rw [← hl]
      exact kw_fin (fun m e => by rw [e]; exact hp) s02 R2 (hr1.step s2) nd n1 hr2 (hn _ _ _ hea) g2
theorem s_callk0 (F : FnOk X.prog X.w X.K X.mg X.base (L2.CX X.prog X.w) k fa fd ps (spF S (C.call f))) (hr : Room k X.A) (hg : Gl X x) (hm : X.mg x = some (.ref fa)) (hk : PySem.W.keepIn X.K (.ref fa) = true) (hb : KwB X.K fd ps ks 0 js) (tk : Takes X W)
    (hl : ksS.length = ks.length) (hp : kwPerm psS ksS 0 = some js)
    (hkw : PK X kws (tA S W eks)) (hall : (backToKw pos (keywordEach kws X.env)).all (·.1.isSome) = true) (hks : (backToKw pos (keywordEach kws X.env)).filterMap (·.1) = ks)
    (hdb : (x == ("__debug__" : Str)) = false) (hpl : ((backTo pos (starEach [] X.env)).any (·.1) || (backToKw pos (keywordEach kws X.env)).any (·.1.isNone)) = false) :
    PE X (.Call (.Name x p) [] kws pos) (tE S W fun e => (R.ok [] e).bind fun rs e => (eks e).bind fun ws e => match kwRvs psS ksS rs ws with | some us => doCall C f us e | none => .bad) :=
  PE.imp (pe_callKS0 F hr hg hm hk hb (fun σ => passAt tk σ) hkw hall hks hdb hpl) fun σ H Q ⟨e, w, hw, R, g⟩ => by
    subst hw
    have g : Good S W σ w ((eks e).bind fun ws e => match kwRvs psS ksS [] ws with | some us => doCall C f us e | none => .bad) (postR S σ w Q) := g
    refine tA.on (Step.refl w) R g fun zs ws q2 e2 w2 s2 s02 R2 hr2 n2 n12 nd2 g2 => ?_
    rw [← hl]
    exact kw_fin (vs := []) (rs := []) (q := []) (fun m e => by rw [e]; exact hp) s02 R2 ⟨rfl, rfl⟩ List.nodup_nil (New.nil _) hr2 rfl g2
end

/-! ### isinstance -/
/-- what a class is called, in the text and as a value -/
structure ClsOk (X : L2.Cx) (S : Se) (c : String) (cv : V) (cu : Value) : Prop where
  val : ClsV cv cu
/-- the value's type -/
def tyD (S : Se) : D → Option Value
  | .non => some (.type "NoneType")
  | .bl _ => some (.type "bool")
  | .int _ => some (.type "int")
  | .str _ => some (.type "str")
  | .tup _ => some (.type "tuple")
  | .lst _ => some (.type "list")
  | .dic _ _ => some (.type "dict")
  | _ => none
end Fp
/-! FpExpr5: constants, isinstance, chains, methods of lists. -/
namespace Fp
open PySem PySem.Spec PyProof.Rows L2
section
variable {S : Se} {W : WX} {σ : L2.St} {e e' : Env} {w w' w0 w1 w2 : Wo} {v v1 v2 : V} {r x y : Rv} {q q1 q2 : List Addr} {α β : Type} {l : Fp.Loc} {d : D}
/-- the value's type -/
theorem Red.ty (s : Same w.F w.H) {d : D} (h : Red S w d v) (t : String) (ht : (match d with | .non => "NoneType" | .bl _ => "bool" | .int _ => "int" | .str _ => "str" | .tup _ => "tuple" | .lst _ => "list" | .dic _ _ => "dict" | _ => "") = t) (hn : t ≠ "") : TyX S.K w.H v (.type t) := by
  subst ht
  cases d with
  | non => cases (show v = .non from h); exact .base .non
  | bl b => cases (show v = .bl b from h); exact .base (.bl b)
  | int i => cases (show v = .int i from h); exact .base (.int i)
  | str z => cases (show v = .str z from h); exact .base (.str z)
  | tup ds =>
    obtain ⟨a, vs, rfl, hq, _⟩ := h.tup s
    rcases hq with (hq | ⟨o, hq⟩) | ⟨o, its, n, h1, h2, _⟩
    · exact .base (.tup hq)
    · exact .fTuple hq
    · exact .kTuple h1 h2
  | lst ds =>
    obtain ⟨a, vs, rfl, hq, _⟩ := h.lst
    rcases hq with hq | ⟨o, hq⟩
    · exact .base (.lst hq)
    · exact .base (.frz hq)
  | dic ks vs =>
    obtain ⟨a, rfl, _, _, hq⟩ := h
    exact .base (.dK (s _ _ hq))
  | olst _ => exact absurd rfl hn
  | exc _ _ => exact absurd rfl hn
  | klst _ => exact absurd rfl hn
theorem isOne_cls {C : Ct} {d : D} {c : String} {b : Bool} (ho : isOne C d c = some b) : c = "int" ∨ c = "bool" ∨ c = "str" ∨ c = "tuple" ∨ c = "list" := by
  unfold isOne at ho
  split at ho
  · cases ho
  · cases ho
  · split at ho <;> first | (cases ho; done) | simp
theorem pureTy (s : Same w.F w.H) {d : D} (h : Red S w d v) : (∀ (C : Ct) (c : String), isOne C d c = none) ∨ ∃ t, TyX S.K w.H v t ∧ ∀ (C : Ct) (c : String) (b : Bool), isOne C d c = some b → PySem.W.kitOne S.K t (.type c) = some b := by
  have go : ∀ (t : String), TyX S.K w.H v (.type t) → (∀ (C : Ct) (c : String) (b : Bool), isOne C d c = some b → (c = "int" ∨ c = "bool" ∨ c = "str" ∨ c = "tuple" ∨ c = "list") → kitB t c = some b) → (∀ (C : Ct) (c : String), isOne C d c = none) ∨ ∃ t, TyX S.K w.H v t ∧ ∀ (C : Ct) (c : String) (b : Bool), isOne C d c = some b → PySem.W.kitOne S.K t (.type c) = some b :=
    fun t a b => .inr ⟨.type t, a, fun C c k ho => kit_ty (b C c k ho (isOne_cls ho))⟩
  cases d with
  | exc _ _ => exact .inl fun _ _ => rfl
  | klst _ => exact .inl fun _ _ => rfl
  | olst _ => exact h.elim
  | non => exact go "NoneType" (h.ty s _ rfl (by decide)) fun C c k ho hc => by rcases hc with rfl | rfl | rfl | rfl | rfl <;> cases ho <;> first | exact (show kitB _ _ = some true by decide +kernel) | exact (show kitB _ _ = some false by decide +kernel)
  | bl _ => exact go "bool" (h.ty s _ rfl (by decide)) fun C c k ho hc => by rcases hc with rfl | rfl | rfl | rfl | rfl <;> cases ho <;> first | exact (show kitB _ _ = some true by decide +kernel) | exact (show kitB _ _ = some false by decide +kernel)
  | int _ => exact go "int" (h.ty s _ rfl (by decide)) fun C c k ho hc => by rcases hc with rfl | rfl | rfl | rfl | rfl <;> cases ho <;> first | exact (show kitB _ _ = some true by decide +kernel) | exact (show kitB _ _ = some false by decide +kernel)
  | str _ => exact go "str" (h.ty s _ rfl (by decide)) fun C c k ho hc => by rcases hc with rfl | rfl | rfl | rfl | rfl <;> cases ho <;> first | exact (show kitB _ _ = some true by decide +kernel) | exact (show kitB _ _ = some false by decide +kernel)
  | tup _ => exact go "tuple" (h.ty s _ rfl (by decide)) fun C c k ho hc => by rcases hc with rfl | rfl | rfl | rfl | rfl <;> cases ho <;> first | exact (show kitB _ _ = some true by decide +kernel) | exact (show kitB _ _ = some false by decide +kernel)
  | lst _ => exact go "list" (h.ty s _ rfl (by decide)) fun C c k ho hc => by rcases hc with rfl | rfl | rfl | rfl | rfl <;> cases ho <;> first | exact (show kitB _ _ = some true by decide +kernel) | exact (show kitB _ _ = some false by decide +kernel)
  | dic _ _ => exact go "dict" (h.ty s _ rfl (by decide)) fun C c k ho hc => by rcases hc with rfl | rfl | rfl | rfl | rfl <;> cases ho <;> first | exact (show kitB _ _ = some true by decide +kernel) | exact (show kitB _ _ = some false by decide +kernel)
theorem kitAny_of {K : PySem.W.Frag} {t : Value} {C : Ct} {d : D} (h : ∀ (c : String) (b : Bool), isOne C d c = some b → PySem.W.kitOne K t (.type c) = some b) : ∀ {cs : List String} {b : Bool}, isAny C d cs = some b → PySem.W.kitAny K t (cs.map fun c => Value.type c) = some b
  | [], b, e => by cases e; rfl
  | c :: cs, b, e => by
    unfold isAny at e
    cases ho : isOne C d c with
    | none => rw [ho] at e; cases e
    | some k =>
      rw [ho] at e
      refine kitAny_cons (h c k ho) (fun z => ?_) (fun z => ?_)
      · subst z; exact kitAny_of h e
      · subst z; cases e; rfl
theorem fin_isi {C : Ct} {cs : List String} {Q : VK} (s0 : Step w0 w) (Re : Rep S σ e w) (rd : Red S w d v) (g : Good S W σ w0 (match isAny C d cs with | some b => .ok (.val (.bl b)) e | none => .bad) (postR S σ w0 Q)) (hne : cs ≠ []) :
    ∃ t b, TyX S.K w.H v t ∧ (∀ c k, isOne C d c = some k → PySem.W.kitOne S.K t (.type c) = some k) ∧ isAny C d cs = some b ∧ Q (.bl b) w.H := by
  cases hb : isAny C d cs with
  | none => rw [hb] at g; exact g.elim
  | some b =>
    rw [hb] at g
    have q := g.val s0 Re (v := .bl b) rfl
    rcases pureTy Re.sub rd with no | ⟨t, ht, k⟩
    · cases cs with
      | nil => exact absurd rfl hne
      | cons c cs =>
        unfold isAny at hb
        rw [no C c] at hb
        cases hb
    · exact ⟨t, b, ht, fun c k' => k C c k', rfl, q⟩
end

section
variable {X : L2.Cx} {S : Se} {W : WX} {a b c : Expr} {ea eb ec : Env → R Rv} {pos p pc pt : Pos} {es rest : List Expr} {eas : Env → R (List Rv)} {C : Ct}
theorem s_nev : PE X a (tE S W fun _ => .bad) := ⟨fun _ _ _ _ _ _ ⟨_, _, _, _, g⟩ => g.elim⟩
theorem Dat.free {F : Hp} {d : D} {v : V} (h : Dat S (fun _ => none) d v) : Dat S F d v := Dat.mono (fun _ _ z => by cases z) d v h
theorem s_glo {x : Str} {n : String} {v : V} {u : Value} {d : D} (hg : Gl X x) (hm : X.mg x = some u) (r : RelV v u) (hd : Dat S (fun _ => none) d v) (hdb : (x == ("__debug__" : Str)) = false) (hc : C.glo n = some d) :
    PE X (.Name x pos) (tE S W fun e => match C.glo n with | some d => .ok (.val d) e | none => .bad) :=
  PE.imp (pe_glob hg hm r hdb) fun σ H Q ⟨e, w, hw, R, g⟩ => by
    subst hw
    rw [hc] at g
    exact Good.val (S := S) (W := W) g (Step.refl w) R hd.free
theorem s_dic0 : PE X (.Dict [] [] pos) (tE S W fun e => .ok (.val (.dic [] [])) e) :=
  PE.imp pe_dnewK fun σ H Q ⟨e, w, hw, R, g⟩ => by
    subst hw
    intro p hp
    obtain ⟨R', s'⟩ := alloc_val R (o := .dK []) hp
    exact Good.val (S := S) (W := W) g s' R' (v := .ref p) ⟨p, rfl, rfl, rfl, upd_same⟩
/-- the classes' names, as a tuple's items -/
inductive ClsEs (X : L2.Cx) : List Expr → List String → Prop where
  | nil : ClsEs X [] []
  | cons {x : Str} {c : String} {p : Pos} {es : List Expr} {cs : List String} (hg : Gl X x) (hm : X.mg x = none) (hv : bootBuiltins x = some (.type c)) (hn : x ≠ "__name__") (hd : (x == ("__debug__" : Str)) = false)
      (hs : starEach (.Name x p :: es) X.env = (false, eval (.Name x p) X.env) :: starEach es X.env) (h : ClsEs X es cs) : ClsEs X (.Name x p :: es) (c :: cs)
theorem clsEs_pa {es : List Expr} {cs : List String} (h : ClsEs X es cs) : PA X es (fun _ H Q => Q (cs.map fun c => V.ty c) H) := by
  induction h with
  | nil => exact pa_nil
  | cons hg hm hv hn hd hs h ih => exact PA.imp (pa_cons (pe_bltn hg hm hv (v := V.ty _) rfl hn hd) ih hs) fun σ H Q z => z
theorem clsPair : ∀ (cs : List String), Paired ClsV (cs.map fun c => V.ty c) (cs.map fun c => Value.type c)
  | [] => .nil
  | c :: cs => .cons (.ty c) (clsPair cs)
theorem s_isi1 (hK : S.K = X.K) (ha : PE X a (tE S W ea)) {x : Str} {c : String} (hc : ClsEs X [.Name x pc] [c]) (hg : Gl X "isinstance") (hm : X.mg "isinstance" = none)
    (hs : starEach [a, .Name x pc] X.env = (false, eval a X.env) :: starEach [.Name x pc] X.env) (hpl : (backTo pos (starEach [.Name x pc] X.env)).any (·.1) = false) :
    PE X (.Call (.Name "isinstance" p) [a, .Name x pc] [] pos) (tE S W fun e => (ea e).bind fun x e => (e.peek x).bind fun d e => match isAny C d [c] with | some b => .ok (.val (.bl b)) e | none => .bad) :=
  PE.imp (pe_callB call_isi hg hm (by decide +kernel) (pa_cons ha (clsEs_pa hc) hs) (by decide) (by decide) hs hpl) fun σ H Q ⟨e, w, hw, R, g⟩ => tE.one hw R g fun v r q e w' s R' hr n g => by
    obtain ⟨w2, e2, d, hH, G, s2, R2, rd, g2⟩ := peek1 s R' hr n g
    obtain ⟨t, b, ht, hk, hb, qq⟩ := fin_isi s2 R2 rd g2 (by simp)
    rw [← hH, ← hK]
    have h1 : isOne C d c = some b := by
      unfold isAny at hb
      cases ho : isOne C d c with
      | none => rw [ho] at hb; cases hb
      | some k =>
        rw [ho] at hb
        cases k with
        | true => cases hb; rfl
        | false => cases hb; rfl
    exact ⟨v, .ty c, t, .type c, b, rfl, .ty c, ht, hk c b h1, qq⟩
theorem s_isiT (hK : S.K = X.K) (ha : PE X a (tE S W ea)) {cs : List String} {k : Nat} (hc : ClsEs X es cs) (hne : cs ≠ []) (hl : cs.length ≤ 1000) (hg : Gl X "isinstance") (hm : X.mg "isinstance" = none)
    (hs : starEach [a, .Tuple es k pt] X.env = (false, eval a X.env) :: starEach [.Tuple es k pt] X.env) (hs2 : starEach [.Tuple es k pt] X.env = (false, eval (.Tuple es k pt) X.env) :: starEach [] X.env) (hpl : (backTo pos (starEach [.Tuple es k pt] X.env)).any (·.1) = false) :
    PE X (.Call (.Name "isinstance" p) [a, .Tuple es k pt] [] pos) (tE S W fun e => (ea e).bind fun x e => (e.peek x).bind fun d e => match isAny C d cs with | some b => .ok (.val (.bl b)) e | none => .bad) :=
  PE.imp (pe_callB call_isiT hg hm (by decide +kernel) (pa_cons ha (pa_cons (pe_tup (clsEs_pa hc)) pa_nil hs2) hs) (by decide) (by decide) hs hpl) fun σ H Q ⟨e, w, hw, R, g⟩ => tE.one hw R g fun v r q e w' s R' hr n g => by
    obtain ⟨w2, e2, d, hH, G, s2, R2, rd, g2⟩ := peek1 s R' hr n g
    refine ⟨by rw [List.length_map, ← LIM_eq]; exact Nat.le_trans hl (by decide), fun pp hp => ?_⟩
    rw [← hH] at hp ⊢
    obtain ⟨R3, s3⟩ := alloc_val R2 (o := .tup (cs.map fun c => V.ty c)) hp
    have rd3 : Red S ⟨upd w2.F pp (.tup (cs.map fun c => V.ty c)), upd w2.H pp (.tup (cs.map fun c => V.ty c)), w2.fp, w2.lf⟩ d v := by
      cases d with
      | lst ds =>
        obtain ⟨a, vs, e1, q1, q2⟩ := rd
        exact ⟨a, vs, e1, rdSame (sameUpd hp) q1, q2.mono s3.a⟩
      | _ => exact Dat.mono s3.a _ _ rd
    obtain ⟨t, b, ht, hk, hb, qq⟩ := fin_isi (s2.trans s3) R3 rd3 g2 hne
    rw [← hK]
    exact ⟨v, pp, _, t, cs.map fun c => Value.type c, b, rfl, upd_same, clsPair cs, ht, kitAny_of hk hb, qq⟩
end
end Fp
/-! FpMeth: a place's own list is written; append, pop; chains. -/
namespace Fp
open PySem PySem.Spec PyProof.Rows L2
section
variable {S : Se} {W : WX} {σ : L2.St} {e e' : Env} {w w' w0 w1 w2 : Wo} {v v1 v2 : V} {r x y : Rv} {q q1 q2 : List Addr} {α β : Type} {l : Fp.Loc} {d : D}
theorem OwnIs.there2 {ds : List D} {vs : List V} {g : List Addr} {F H : Hp} (h : OwnIs S F H ds vs g) {a : Addr} (ha : H a = none) : a ∉ g := fun z => by
  obtain ⟨us, hu⟩ := h.there a z
  rw [ha] at hu; cases hu
/-- a place's own list is written -/
theorem own_write (Re : Rep S σ e w) (s0 : Step w0 w) {ds ds' : List D} {a : Addr} {vs vs' : List V} {g g' : List Addr} (hl : e.at l = some (.own ds)) (hH : w.H a = some (.lst vs)) (la : LocA S σ l a) (hfp : w.fp l = a :: g)
    (o' : OwnIs S w.F w.H ds' vs' g') (nd : g'.Nodup) (hg : ∀ x ∈ g', x ∈ g ∨ (w.F x = none ∧ ¬ w.has x ∧ ¬ w.le x)) (nw : New w0 g') :
    Step w0 ⟨w.F, upd w.H a (.lst vs'), updL w.fp l (a :: g'), w.lf⟩ ∧ Rep S σ (e.put l (.own ds')) ⟨w.F, upd w.H a (.lst vs'), updL w.fp l (a :: g'), w.lf⟩ := by
  have al : a ∈ w.fp l := by rw [hfp]; exact List.mem_cons_self
  have ah : w.has a := ⟨l, al⟩
  have nda : (a :: g).Nodup := by rw [← hfp]; exact Re.nd l
  have ag : a ∉ g' := fun z => (hg a z).elim (List.nodup_cons.mp nda).1 fun y => y.2.1 ah
  have hx : ∀ x, (∃ m, x ∈ updL w.fp l (a :: g') m) → w.has x ∨ x ∈ g' := fun x ⟨m, hm⟩ => by
    by_cases z : m = l
    · subst z
      rw [updL_same] at hm
      rcases List.mem_cons.mp hm with rfl | hm
      · exact .inl ah
      · exact .inr hm
    · rw [updL_ne z] at hm
      exact .inl ⟨m, hm⟩
  have ne : ∀ x o, w0.H x = some o → ¬ w0.has x → x ≠ a := fun x o h n z => s0.c x o h n (by rw [z]; exact ah)
  refine ⟨⟨s0.a, fun x o h n => ?_, fun x o h n z => ?_, fun x o h n z => s0.d x o h n z, fun x o h => ?_, fun x o h n z => s0.f x o h n z, fun x m z => s0.g x m z⟩, ?_⟩
  · show upd w.H a _ x = some o
    rw [upd_ne (ne x o h n)]
    exact s0.b x o h n
  · rcases hx x z with y | y
    · exact s0.c x o h n y
    · exact n (nw x y o h)
  · by_cases z : x = a
    · subst z
      exact ⟨_, upd_same⟩
    · obtain ⟨o2, h2⟩ := s0.e x o h
      exact ⟨o2, by show upd w.H a _ x = _; rw [upd_ne z]; exact h2⟩
  · have oo : OwnIs S w.F (upd w.H a (.lst vs')) ds' vs' g' := o'.mono (Same.refl _) fun x hx => upd_ne fun z => ag (by rw [← z]; exact hx)
    refine Re.upd l (.own ds') (.own ds) hl (Same.refl _) (fun b o z => ?_) (fun x o h n => ?_) (fun x h _ => Re.off x h) (fun x m _ z => z) (List.nodup_cons.mpr ⟨ag, nd⟩) (fun x h => ?_) (fun x h => ?_) (fun x h _ => Classical.not_not.mp (Re.ale x h)) (fun x z => ?_)
      (PlRep.mk_own la ⟨vs', g', upd_same, rfl, oo⟩)
    · have : b ≠ a := fun y => by rw [y, Re.off a ah] at z; cases z
      rw [upd_ne this]; exact Re.sub b o z
    · rw [upd_ne fun z => n (by rw [z]; exact al)]; exact h
    · rcases List.mem_cons.mp h with rfl | h
      · exact ⟨Re.off _ ah, Classical.not_not.mp (Re.ale _ ah)⟩
      · rcases hg x h with z | z
        · have : w.has x := ⟨l, by rw [hfp]; exact List.mem_cons_of_mem _ z⟩
          exact ⟨Re.off _ this, Classical.not_not.mp (Re.ale _ this)⟩
        · exact ⟨z.1, Classical.not_not.mp z.2.2⟩
    · rcases List.mem_cons.mp h with rfl | h
      · exact .inl al
      · rcases hg x h with z | z
        · exact .inl (by rw [hfp]; exact List.mem_cons_of_mem _ z)
        · exact .inr z.2.1
    · obtain ⟨o, ho⟩ := Re.leh x z
      by_cases y : x = a
      · subst y; exact ⟨_, upd_same⟩
      · exact ⟨o, by rw [upd_ne y]; exact ho⟩
/-- its address, items -/
theorem Rep.ownAt (Re : Rep S σ e w) {ds : List D} (hl : e.at l = some (.own ds)) : ∃ a vs g, w.H a = some (.lst vs) ∧ LocA S σ l a ∧ w.fp l = a :: g ∧ OwnIs S w.F w.H ds vs g ∧ g.Nodup ∧ (∀ x ∈ g, w.has x) ∧ a ∉ g := by
  obtain ⟨a, ra, vs, g, q, eg, os⟩ := (Re.at hl).own
  have nd := Re.nd l
  rw [eg] at nd
  exact ⟨a, vs, g, q, ra.locA, eg, os, (List.nodup_cons.mp nd).2, fun x hx => ⟨l, by rw [eg]; exact List.mem_cons_of_mem _ hx⟩, (List.nodup_cons.mp nd).1⟩
theorem Step.newHas (s0 : Step w0 w) {q : List Addr} (h : ∀ x ∈ q, w.has x) : New w0 q := fun x hx o ho => Classical.not_not.mp fun z => s0.c x o ho z (h x hx)
/-- an item is taken out: what it is -/
theorem OwnIs.take : ∀ {ds : List D} {vs : List V} {g : List Addr} {F H : Hp} {j : Nat} {d : D}, OwnIs S F H ds vs g → g.Nodup → ds[j]? = some d →
    ∃ v f g', vs[j]? = some v ∧ OwnI S F H d v f ∧ OwnIs S F H (ds.eraseIdx j) (vs.eraseIdx j) g' ∧ g'.Nodup ∧ (∀ x ∈ g', x ∈ g ∧ x ∉ f) ∧ ∀ x ∈ f, x ∈ g
  | [], _, _, _, _, _, _, _, _, e => by simp at e
  | x :: ds, vs, g, F, H, 0, d, h, nd, e => by
    obtain ⟨v, us, f, g1, rfl, rfl, t, r⟩ := h
    simp at e
    subst e
    have nd' := List.nodup_append.mp nd
    exact ⟨v, f, g1, rfl, t, r, nd'.2.1, fun y hy => ⟨List.mem_append_right _ hy, fun z => nd'.2.2 y z y hy rfl⟩, fun y hy => List.mem_append_left _ hy⟩
  | x :: ds, vs, g, F, H, j + 1, d, h, nd, e => by
    obtain ⟨v, us, f, g1, rfl, rfl, t, r⟩ := h
    simp at e
    have nd' := List.nodup_append.mp nd
    obtain ⟨u, f2, g2, e1, o2, r2, n2, k2, k3⟩ := OwnIs.take (j := j) r nd'.2.1 e
    refine ⟨u, f2, f ++ g2, by simpa using e1, o2, ⟨v, us.eraseIdx j, f, g2, rfl, rfl, t, r2⟩, List.nodup_append.mpr ⟨nd'.1, n2, fun a ha b hb z => nd'.2.2 a ha b (k2 b hb).1 z⟩, fun y hy => ?_, fun y hy => List.mem_append_right _ (k3 y hy)⟩
    rcases List.mem_append.mp hy with hy | hy
    · exact ⟨List.mem_append_left _ hy, fun z => nd'.2.2 y hy y (k3 y z) rfl⟩
    · exact ⟨List.mem_append_right _ (k2 y hy).1, (k2 y hy).2⟩
theorem eraseLast {α : Type} (xs : List α) : xs.eraseIdx (xs.length - 1) = xs.dropLast := by
  induction xs with
  | nil => rfl
  | cons a xs ih =>
    cases xs with
    | nil => rfl
    | cons b xs => 
      have := ih
      simp at this ⊢
      exact this
theorem fin_append (s0 : Step w0 w) (Re : Rep S σ e w) {rs : List Rv} {vs : List V} (r1 : RvRep S σ w v (.loc l) q1) (r2 : RvReps S σ w vs rs q) (nd : q.Nodup) (nw : New w0 q) {Q : VK}
    (g : Good S W σ w0 (opApp l rs e) (postR S σ w0 Q)) : rAppend v vs w.H Q := by
  unfold opApp at g
  match rs, r2 with
  | [], _ => exact g.elim
  | _ :: _ :: _, _ => exact g.elim
  | [r], ⟨u, us, f, g0, e1, e2, hr, h0, h1⟩ =>
    subst h0 h1 e1 e2
    simp only [List.append_nil] at nd nw
    simp only at g
    rcases item_nx (e := e) (x := r) with ⟨d, e1, h⟩ | h
    · rw [h, Fp.R.bind_ok] at g
      obtain ⟨w1, g1, R1, G, oi, sub, n1, off⟩ := item_ok Re hr h
      split at g
      · rename_i ds hl
        split at g
        · rename_i hlen
          obtain ⟨a, vs, gg, q1, la, hfp, os, n2, hh, ag⟩ := R1.ownAt hl
          have s1 := s0.gh G nw
          have dis : ∀ x ∈ gg, x ∉ g1 := fun x hx z => (off x z).2.1 (hh x hx)
          obtain ⟨s2, R2⟩ := own_write (g' := gg ++ (g1 ++ [])) (vs' := vs ++ [u]) (ds' := ds ++ [d]) R1 s1 hl q1 la hfp (os.app ⟨u, [], g1, [], rfl, rfl, oi, rfl, rfl⟩) (by rw [List.append_nil]; exact List.nodup_append.mpr ⟨n2, n1, fun x hx y hy z => dis x hx (z ▸ hy)⟩)
            (fun x hx => by
              rw [List.append_nil] at hx
              rcases List.mem_append.mp hx with hx | hx
              · exact .inl hx
              · exact .inr (off x hx)) (fun x hx => by
              rw [List.append_nil] at hx
              rcases List.mem_append.mp hx with hx | hx
              · exact s1.newHas hh x hx
              · exact nw x (sub x hx))
          rw [LIM_eq, os.len] at hlen
          refine ⟨a, vs, u, rvLoc la r1, rfl, by rw [← G.h]; exact q1, hlen, ?_⟩
          rw [← G.h]
          exact Good.val (S := S) (W := W) (v := .non) g s2 R2 rfl
        · exact g.elim
      · exact g.elim
    · rw [h] at g; exact g.elim
/-- an item goes: as a new list or as a value -/
theorem fin_take (s0 : Step w0 w) (Re : Rep S σ e w) {ds : List D} {j : Nat} {d : D} {Q : VK} (hl : e.at l = some (.own ds)) (hj : ds[j]? = some d) (r1 : RvRep S σ w v (.loc l) q1)
    (g : Good S W σ w0 (takeAt l ds j e) (postR S σ w0 Q)) :
    ∃ a vs y, v = .ref a ∧ w.H a = some (.lst vs) ∧ vs.length = ds.length ∧ vs[j]? = some y ∧ Q y (upd w.H a (.lst (vs.eraseIdx j))) := by
  unfold takeAt at g
  rw [hj] at g
  obtain ⟨a, vs, gg, q1, la, hfp, os, n2, hh, ag⟩ := Re.ownAt hl
  obtain ⟨y, f, g', hy, oi, os', n', k1, k2⟩ := os.take n2 hj
  obtain ⟨s2, R2⟩ := own_write (g' := g') Re s0 hl q1 la hfp os' n' (fun x hx => .inl (k1 x hx).1) (s0.newHas fun x hx => hh x (k1 x hx).1)
  refine ⟨a, vs, y, rvLoc la r1, q1, os.len.symm, hy, ?_⟩
  have vl : ∀ {d'}, Good S W σ w0 (.ok (.val d') (e.put l (.own (ds.eraseIdx j)))) (postR S σ w0 Q) → Dat S w.F d' y → Q y (upd w.H a (.lst (vs.eraseIdx j))) := fun g hd => g.val s2 R2 hd
  cases d with
  | olst xs =>
    obtain ⟨b, us, rfl, rfl, hb, du⟩ := oi
    have hbh : w.has b := hh b (k2 b (by simp))
    have ba : b ≠ a := fun z => ag (by rw [← z]; exact k2 b (by simp))
    refine g _ s2 R2 (.ref b) [b] ⟨b, rfl, ⟨us, [], by show upd w.H a _ b = _; rw [upd_ne ba]; exact hb, rfl, OwnIs.of_dats du⟩, by simp, fun x hx => ?_⟩ (s0.newHas fun x hx => by rw [List.mem_singleton.mp hx]; exact hbh)
    rw [List.mem_singleton.mp hx]
    refine ⟨Re.off b hbh, fun ⟨m, hm⟩ => ?_, Re.ale b hbh⟩
    have hm' : b ∈ updL w.fp l (a :: g') m := hm
    by_cases z : m = l
    · subst z
      rw [updL_same] at hm'
      rcases List.mem_cons.mp hm' with z | z
      · exact ba z
      · exact (k1 b z).2 (by simp)
    · rw [updL_ne z] at hm'
      exact z (Re.dis m l b hm' (by rw [hfp]; exact List.mem_cons_of_mem _ (k2 b (by simp))))
  | non => exact vl g oi.2
  | bl _ => exact vl g oi.2
  | int _ => exact vl g oi.2
  | str _ => exact vl g oi.2
  | tup _ => exact vl g oi.2
  | lst _ => exact vl g oi.2
  | dic _ _ => exact vl g oi.2
  | exc _ _ => exact vl g oi.2
  | klst _ => exact vl g oi.2
theorem fin_pop0 (s0 : Step w0 w) (Re : Rep S σ e w) (r1 : RvRep S σ w v (.loc l) q1) {Q : VK} (g : Good S W σ w0 (opPop l [] e) (postR S σ w0 Q)) : rPop v [] w.H Q := by
  unfold opPop at g
  split at g
  · rename_i ds hl
    simp only at g
    cases hj : ds[ds.length - 1]? with
    | none => unfold takeAt at g; rw [hj] at g; exact g.elim
    | some d =>
      obtain ⟨a, vs, y, e1, e2, e3, e4, q⟩ := fin_take s0 Re hl hj r1 g
      rw [← e3, eraseLast] at q
      exact ⟨a, vs, y, e1, rfl, e2, by rw [e3]; exact e4, q⟩
  · exact g.elim
theorem fin_pop1 (s0 : Step w0 w) (Re : Rep S σ e w) (r1 : RvRep S σ w v (.loc l) q1) {Q : VK} {i : Int} (g : Good S W σ w0 (opPop l [.val (.int i)] e) (postR S σ w0 Q)) : rPopAt v [.int i] w.H Q := by
  unfold opPop at g
  split at g
  · rename_i ds hl
    simp only at g
    split at g
    · rename_i hi
      cases hk : seqIndex? i ds.length with
      | none => rw [hk] at g; exact g.elim
      | some j =>
        rw [hk] at g
        simp only at g
        cases hj : ds[j]? with
        | none => unfold takeAt at g; rw [hj] at g; exact g.elim
        | some d =>
          obtain ⟨a, vs, y, e1, e2, e3, e4, q⟩ := fin_take s0 Re hl hj r1 g
          exact ⟨a, vs, i, j, y, e1, rfl, e2, hi.1, hi.2, by rw [e3]; exact hk, e4, q⟩
    · exact g.elim
  · exact g.elim
theorem Rep.isLst (Re : Rep S σ e w) (r1 : RvRep S σ w v x q) (h : e.isLst x = true) : tyV S.K "list" v w.H := by
  unfold Env.isLst at h
  split at h
  · rename_i l
    cases hl : e.at l with
    | none => rw [hl] at h; cases h
    | some p =>
      have hp := Re.at hl
      cases p with
      | own ds =>
        obtain ⟨a, vs, g, q1, la, _⟩ := Re.ownAt hl
        rw [rvLoc la r1]
        exact .inl ⟨rfl, vs, .inl (.inl q1)⟩
      | lea ds =>
        obtain ⟨a, vs, e1, h1, _⟩ := hp.rd Re.sub r1 (.inl rfl)
        rw [e1]
        exact .inl ⟨rfl, vs, .inl h1⟩
      | frz ds =>
        obtain ⟨a, vs, e1, h1, _⟩ := hp.rd Re.sub r1 (.inr rfl)
        rw [e1]
        exact .inl ⟨rfl, vs, .inl h1⟩
  · cases h
end
section
variable {X : L2.Cx} {S : Se} {W : WX} {a b c : Expr} {ea eb ec : Env → R Rv} {pos p apos pt : Pos} {es rest : List Expr} {eas : Env → R (List Rv)} {C : Ct}
theorem tA.len {σ : L2.St} {H : Hp} {w : Wo} {e : Env} : True := trivial
theorem s_append (hK : S.K = X.K) (ho : PE X a (tE S W ea)) (ha : PA X (b :: es) (tA S W eas))
    (hbase : attributeBase a "append" X.env (eval a X.env) = eval a X.env)
    (hfew : ((backTo pos (starEach (b :: es) X.env)).all (fun x => !x.1) && (backToKw pos (keywordEach [] X.env)).all (fun x => x.1.isSome) && decide ((b :: es).length + ([] : List Keyword).length + (if ([] : List Keyword).isEmpty then 0 else 1) < 30)) = true)
    (hline : (apos.endLine == pos.line) = true) (hs : starEach (b :: es) X.env = (false, eval b X.env) :: starEach es X.env) (hpl : (backTo pos (starEach es X.env)).any (·.1) = false) :
    PE X (.Call (.Attribute a "append" apos) (b :: es) [] pos) (tE S W fun e => (ea e).bind fun x e => if e.isLst x then (eas e).bind fun rs e => opMeth "append" x rs e else .bad) :=
  PE.imp (pe_bm PySem.F.plainAttrs_list PySem.F.slot_list_append PySem.F.type_list_append mt_append ho ha hbase hfew hline hs hpl) fun σ H Q ⟨e, w, hw, R, g⟩ => tE.one hw R g fun v r q e w' s R' hr n g => by
    by_cases hl : e.isLst r = true
    · rw [if_pos hl] at g
      refine ⟨by rw [← hK]; exact R'.isLst hr hl, tA.on s R' g fun vs rs q2 e w2 s2 s02 R2 hr2 n2 n12 nd g => ?_⟩
      cases r with
      | loc l => exact fin_append s02 R2 (hr.step s2) hr2 nd n2 g
      | val d => exact g.elim
      | fresh d => exact g.elim
    · rw [if_neg hl] at g
      exact g.elim
theorem s_pop1 (hK : S.K = X.K) (ho : PE X a (tE S W ea)) (ha : PA X (b :: es) (tA S W eas)) (hi : ∀ e rs e', eas e = .ok rs e' → ∃ r, rs = [r])
    (hbase : attributeBase a "pop" X.env (eval a X.env) = eval a X.env)
    (hfew : ((backTo pos (starEach (b :: es) X.env)).all (fun x => !x.1) && (backToKw pos (keywordEach [] X.env)).all (fun x => x.1.isSome) && decide ((b :: es).length + ([] : List Keyword).length + (if ([] : List Keyword).isEmpty then 0 else 1) < 30)) = true)
    (hline : (apos.endLine == pos.line) = true) (hs : starEach (b :: es) X.env = (false, eval b X.env) :: starEach es X.env) (hpl : (backTo pos (starEach es X.env)).any (·.1) = false) :
    PE X (.Call (.Attribute a "pop" apos) (b :: es) [] pos) (tE S W fun e => (ea e).bind fun x e => if e.isLst x then (eas e).bind fun rs e => opMeth "pop" x rs e else .bad) :=
  PE.imp (pe_bm PySem.F.plainAttrs_list PySem.F.slot_list_pop PySem.F.type_list_pop mt_popAt ho ha hbase hfew hline hs hpl) fun σ H Q ⟨e, w, hw, R, g⟩ => tE.one hw R g fun v r q e w' s R' hr n g => by
    by_cases hl : e.isLst r = true
    · rw [if_pos hl] at g
      refine ⟨by rw [← hK]; exact R'.isLst hr hl, ?_⟩
      have g : Good S W σ w ((eas e).bind fun rs e => opMeth "pop" r rs e) (postR S σ w Q) := g
      cases hea : eas e with
      | bad => rw [hea] at g; exact g.elim
      | ex c d e1 =>
        rw [hea] at g
        refine ⟨e, w', rfl, R', ?_⟩
        rw [hea]
        exact fun C dx w u ec t => g C dx w u ec (s.trans t)
      | ok rs e1 =>
        obtain ⟨r1, rfl⟩ := hi _ _ _ hea
        rw [hea] at g
        refine ⟨e, w', rfl, R', ?_⟩
        rw [hea]
        intro w2 s2 R2 vs q2 hr2 n2 nd
        have g : Good S W σ w (opMeth "pop" r [r1] e1) (postR S σ w Q) := g
        cases r with
        | loc l =>
          have g : Good S W σ w (opPop l [r1] e1) (postR S σ w Q) := g
          obtain ⟨u, us, f, g0, e1', e2', h1, h0, h0'⟩ := hr2
          subst h0 h0' e1' e2'
          cases r1 with
          | val d =>
            cases d with
            | int i =>
              obtain ⟨_, hi'⟩ := h1
              rw [show u = .int i from hi']
              exact fin_pop1 (s.trans s2) R2 (hr.step s2) g
            | _ =>
              unfold opPop at g
              split at g <;> exact g.elim
          | fresh d =>
            unfold opPop at g
            split at g <;> exact g.elim
          | loc d =>
            unfold opPop at g
            split at g <;> exact g.elim
        | val d => exact g.elim
        | fresh d => exact g.elim
    · rw [if_neg hl] at g
      exact g.elim
theorem s_pop0 (hK : S.K = X.K) (ho : PE X a (tE S W ea)) (hbase : attributeBase a "pop" X.env (eval a X.env) = eval a X.env) (hline : (apos.endLine == pos.line) = true) :
    PE X (.Call (.Attribute a "pop" apos) [] [] pos) (tE S W fun e => (ea e).bind fun x e => if e.isLst x then (R.ok [] e).bind fun rs e => opMeth "pop" x rs e else .bad) :=
  PE.imp (pe_bm0 PySem.F.plainAttrs_list PySem.F.slot_list_pop PySem.F.type_list_pop mt_pop ho hbase hline) fun σ H Q ⟨e, w, hw, R, g⟩ => tE.one hw R g fun v r q e w' s R' hr n g => by
    by_cases hl : e.isLst r = true
    · rw [if_pos hl] at g
      refine ⟨by rw [← hK]; exact R'.isLst hr hl, ?_⟩
      cases r with
      | loc l => exact fin_pop0 s R' hr g
      | val d => exact g.elim
      | fresh d => exact g.elim
    · rw [if_neg hl] at g
      exact g.elim
/-- a op1 b op2 c -/
theorem s_chain (hK : S.K = X.K) (hu : X.A.units + 65 < cLine) (o o' : Cop) (ha : PE X a (tE S W ea)) (hb : PE X b (tE S W eb)) (hc : PE X c (tE S W ec)) (hm : lastMarks [copOf o, copOf o'] [b, c] = false) :
    PE X (.Compare a [copOf o, copOf o'] [b, c] pos) (tE S W fun e => ((ea e).bind fun x e => (eb e).bind fun y e => match x, y with
    | .val (.int i), .val (.int j) => match cmpI o i j with
      | some t => if t then (ec e).bind fun z e => opCmp o' (.val (.int j)) z e else .ok false e
      | none => .bad
    | _, _ => .bad).blV) :=
  PE.imp (pe_chain (op_cop hu o) (op_cop hu o') ha hb hc hm) fun σ H Q ⟨e, w, hw, R, g⟩ => by
    refine tE.two (P := fun v1 v2 H2 => rCop X.K o v1 v2 H2 fun z H3 => ∃ k, z = .bl k ∧ (if k = true then tE S W ec σ H3 fun w' H4 => rCop X.K o' v2 w' H4 Q else Q (.bl false) H3)) (p := fun _ b e w => Q (.bl b) w.H) ⟨e, w, hw, R, g.blV⟩ fun w0 w e x y v1 v2 q1 q2 s R r1 r2 ap n1 n2 g => ?_
    split at g
    · rename_i i j
      obtain ⟨_, h1⟩ := r1
      obtain ⟨_, h2⟩ := r2
      cases hk : cmpI o i j with
      | none => rw [hk] at g; exact g.elim
      | some t =>
        rw [hk] at g
        refine .inl ⟨i, j, t, h1, h2, hk, t, rfl, ?_⟩
        cases t with
        | false => exact g w s R
        | true =>
          simp only [if_true] at g ⊢
          refine tE.on s R g fun v3 z q3 e3 w3 s3 s03 R3 r3 n3 n23 g3 => ?_
          rw [← hK]
          exact fin_cmp s03 R3 (x := .val (.int j)) (q1 := []) ⟨rfl, h2⟩ r3 (fun _ h => by simp at h) (New.nil _) n3 g3
    · exact g.elim
end
end Fp
/-! FpIter: enumerate over a tuple. -/
namespace Fp
open PySem PySem.Spec PyProof.Rows L2
theorem enumNew1 {v : Value} {o : Obj} {P : Heap → Prop} (B : Begins v o P) : Meets (Builtin.«enumerate.__new__» ⟨[.type "enumerate", v], []⟩) (fun _ G s => P s.heap ∧
    G (.ok (.ret (.ref (s.heap.push o).objs.size))) { s with heap := (s.heap.push o).push { cls := .type "enumerate", data := .fields #[.none, .bool false, .ref s.heap.objs.size, rawInt 0, .none, .none] } }) :=
  .of_wp fun pg wd Ar G sh hyp => by
    obtain ⟨hp, g, d, tk, os⟩ := sh; obtain ⟨hP, hyp⟩ := hyp
    have sb := sub_enumerate
    have go : ∀ {A' : Around} {E : Value → Shared → Prop} {Q : Value → Shared → Prop}, Q (.ref hp.objs.size) ⟨hp.push o, g, d, tk, os⟩ → wpAny (model pg wd) A' (pyIter v) Q E ⟨hp, g, d, tk, os⟩ := fun q => B.iter pg wd _ _ ⟨hp, g, d, tk, os⟩ _ hP q
    wp_walk using go
    refine wpAny_stack_any fun _ => wpAny_pure ?_
    split
    · rename_i c _ _ _ _ _
      cases (c == Value.type "enumerate") <;> (wp_walk using go; exact ⟨_, rfl, hyp⟩)
    · wp_walk using go; exact ⟨_, rfl, hyp⟩
theorem enumBegin {prog : Program} {w : World} {A : Around} {E : Value → Shared → Prop} {s : Shared} {v : Value} {o : Obj} {P : Heap → Prop} {Q : Value → Shared → Prop} (B : Begins v o P) (hP : P s.heap)
    (h : ∀ h', IsEnum h' (s.heap.objs.size + 1) s.heap.objs.size 0 .none → h'.get? s.heap.objs.size = some o → (∀ b o', s.heap.get? b = some o' → h'.get? b = some o') → Q (.ref (s.heap.objs.size + 1)) { s with heap := h' }) :
    wpAny (model prog w) A (call (.type "enumerate") [v]) Q E s := by
  refine callType_new F.called_enumerate (by decide) (F.typeCall_enumerate_1 _) (F.newCall_enumerate_1 _) (fun obj => F.args_object_init_2 obj _) F.entry_enumerate_new (enumNew1 B) ⟨hP, ?_⟩
  have sz : (s.heap.push o).objs.size = s.heap.objs.size + 1 := Heap.size_push ..
  have at_ := Heap.get?_push_size (s.heap.push o) (o := { cls := .type "enumerate", data := .fields #[.none, .bool false, .ref s.heap.objs.size, rawInt 0, .none, .none] }) rfl
  rw [sz] at at_
  show _ ∧ _
  rw [sz]
  exact ⟨⟨_, at_, rfl⟩, h _ at_ (Heap.get?_push_of_some _ (Heap.get?_push_size _ B.free)) fun b o' x => Heap.get?_push_of_some _ (Heap.get?_push_of_some _ x)⟩
/-- the tuple at a, each item in a new pair -/
def IteT (K : PySem.W.Frag) (a : Addr) : It :=
  ⟨fun i H => ∃ (xs : List V) (x : V), SqT K H a xs ∧ xs[i]? = some x, fun i H v H' => ∃ T x, v = .ref T ∧ H T = none ∧ H' = upd H T (.tup [.int (i : Nat), x]) ∧ ∀ xs, SqT K H a xs → xs[i]? = some x, fun i H => ∃ xs : List V, SqT K H a xs ∧ xs.length ≤ i⟩
theorem turnEnumT {P : Program} {w : World} {K : PySem.W.Frag} {elts : List Expr} {kk : Nat} {tpos : Pos} (a e it : Addr) :
    Turn P w K (.Tuple elts kk tpos) (IteT K a) [e, it] e (fun i h => (∃ old, IsEnum h e it ((i : Nat) : Int) old) ∧ h.IsTupleIter it a i ∧ e ≠ it) where
  mem := by simp
  obj := fun i h st b hb => by
    obtain ⟨⟨old, he⟩, ⟨o, ho, hc, hd⟩, _⟩ := st
    rcases (show b = e ∨ b = it by simpa using hb) with z | z
    · rw [z]; exact ⟨_, he, fun v q => nomatch q⟩
    · exact ⟨o, by rw [z]; exact ho, fun v q => by rw [hd] at q; cases q⟩
  keep := fun i h h' st k => let ⟨⟨old, he⟩, hi, hne⟩ := st; ⟨⟨old, k e (by simp) _ he⟩, hi.at fun o q => k it (by simp) o q, hne⟩
  item := by
    intro X hP hw hK hc i pins s σ H E I hf st hg
    subst hP hw hK
    obtain ⟨⟨old, he⟩, hit, hne⟩ := st
    obtain ⟨xs, x, hq, hx⟩ := hg
    obtain ⟨its, rv, p, hz⟩ := I.tuple hq
    obtain ⟨u, hu, ru⟩ := rv.get hx
    have hel : e < s.heap.objs.size := Heap.lt_size he
    have hil : it < s.heap.objs.size := by obtain ⟨_, q, _⟩ := hit; exact Heap.lt_size q
    have hT0 : s.heap.IsTuple a its.toArray := p
    have ai : a ≠ it := fun z => by
      obtain ⟨o1, h1, c1, _⟩ := hT0
      obtain ⟨o2, h2, c2, _⟩ := hit
      rw [z, h2] at h1; cases h1; rw [c2] at c1; exact absurd c1 (by decide)
    have ea : e ≠ a := fun z => by
      obtain ⟨o1, h1, c1, _⟩ := hT0
      have he' : s.heap.get? e = some _ := he
      rw [z, h1] at he'; cases he'; exact absurd (show Value.type "enumerate" = Value.type "tuple" from c1) (by decide)
    have hlt : i < its.toArray.size := by
      have := (List.getElem?_eq_some_iff.mp hu).1
      simpa using this
    refine wpAny_pyNext_enum_itemD (Draws.tuple (prog := X.prog) (w := X.w) (A := X.A.in1) (show X.A.in1.handled = none from I.ok.hd hc) it a ai its.toArray) he ⟨hit, hT0⟩ hlt hne (by simp [hne, ea]) fun x' h' tk hPx ho ⟨hit', _⟩ hT hsz hk => ?_
    have ex : x' = u := by
      have q : its.toArray[i]? = some x' := hPx
      have q2 : its.toArray[i]? = some u := by simpa using hu
      rw [q2] at q; cases q; rfl
    subst ex
    refine ⟨_, rfl, wpAny_letOwnedTupleGo_enum (s := { s with heap := h', toks := tk + 1 }) ho fun h'' he' sb => ?_⟩
    have hT2 : h''.get? s.heap.objs.size = some { cls := .type "tuple", data := .seq #[.int i tk, x'] } := (sb.2 _ (Nat.ne_of_gt hel)).trans hT
    have new : ObjOk X.prog X.w (upd H s.heap.objs.size (.tup [.int (i : Nat), x])) h'' s.heap.objs.size (.tup [.int (i : Nat), x]) :=
      ⟨by show 2 ≤ sizeLine; decide, [.int i tk, x'], .cons ⟨_, rfl⟩ (.cons ru .nil), ⟨_, hT2, rfl, _, rfl⟩⟩
    have I1 : Inv X pins σ (upd H s.heap.objs.size (.tup [.int (i : Nat), x])) { s with heap := h'', toks := tk + 1 } :=
      I.turnedNew (ch := [e, it]) (fun b ob hb q => (sb.2 b (fun z => hb (by simp [z]))).trans (hk b ob (fun z => hb (by simp [z])) (fun z => hb (by simp [z])) q)) hf (Nat.le_refl _) new
    refine ⟨.ref s.heap.objs.size, _, I1, rfl, ⟨_, x, rfl, I.hok.fresh (Nat.le_refl _), rfl, fun ys hy => by rw [I.tuple_inj hy hq]; exact hx⟩, ⟨⟨x', ?_⟩, hit'.at fun o q => (sb.2 it (Ne.symm hne)).trans q, hne⟩, fun b hb => ?_⟩
    · rw [show ((i + 1 : Nat) : Int) = (i : Int) + 1 by omega]; exact he'
    · have hb' : b < s.heap.objs.size := by
        rcases (show b = e ∨ b = it by simpa using hb) with z | z
        · rw [z]; exact hel
        · rw [z]; exact hil
      rw [upd_ne (Nat.ne_of_lt hb')]
      exact (hf b hb).1
  done := by
    intro X hP hw hK hc i pins s σ H E I hf st hg
    subst hP hw hK
    obtain ⟨⟨old, he⟩, hit, hne⟩ := st
    obtain ⟨xs, hq, hx⟩ := hg
    obtain ⟨its, rv, p, hz⟩ := I.tuple hq
    obtain ⟨f0, f1, f2, f3, f4, f5⟩ := hf it (by simp)
    have hl := rv.length
    have hT0 : s.heap.IsTuple a its.toArray := p
    have hT : s.TypeIs (.ref e) "enumerate" := ⟨_, he, rfl⟩
    unfold pyNext
    refine wpAny_bind (wpAny_attempt (wpAny_callSpecial?_slot (name := Str.ofString "__next__") hT F.slot_enumerate_next (wpAny_call_entry F.slot_enumerate_next hT F.entry_enumerate_next ?_ (F.args_enumerate_next_1 _))))
    show wpAny _ _ (field (.ref e) 2 >>= _) _ _ _
    refine wpAny_bind (wpAny_field he rfl (x := .ref it) rfl ?_)
    refine wpAny_bind (wpAny_nextOf_tuple_end (show X.A.in1.handled = none from I.ok.hd hc) hit hT0 (by simp; omega) fun h' y hx' ⟨o, ho, hcl⟩ => ?_)
    refine wpAny_bind (wpAny_isInstance (T := "StopIteration") (b := true) ⟨o, ho, hcl⟩ isSubtype_stop ?_)
    exact wpAny_pure ⟨rfl, I.turned (t' := s.toks) (fun b o hb q => hx' b o hb q) f0 f1 f3 f4 f5⟩
  self := fun A i s Q E st h => let ⟨⟨_, he⟩, _⟩ := st; wpAny_pyIter_enum he h
/-- enumerate over a list or a tuple -/
def iEnumA (K : PySem.W.Frag) (ta : TA) : TI := fun σ H R => ta σ H fun vs H1 => ∃ a xs, vs = [.ref a] ∧ ((SqL K H1 a xs ∧ R (Ite K a) H1) ∨ (SqT K H1 a xs ∧ R (IteT K a) H1))
theorem pi_enumA {X : Cx} {e : Expr} {ta : TA} {p pos tpos : Pos} {elts : List Expr} {kk : Nat} (hg : Gl X "enumerate") (hm : X.mg "enumerate" = none) (ha : PA X [e] ta) (hs : starEach [e] X.env = [(false, eval e X.env)]) :
    PI X (.Tuple elts kk tpos) (.Call (.Name "enumerate" p) [e] [] pos) (iEnumA X.K ta) := by
  refine ⟨fun pins s σ H G I h => Call_ (ld_blt I hg hm boot_enumerate (PyProof.Rows.callWith_type1 (thn (ha.run pos pins s σ H _ I h) fun us s1 ⟨vs, H1, I1, r1, q1⟩ => ?_) hs rfl))⟩
  obtain ⟨a, xs, ex, q1⟩ := q1
  subst ex
  have fresh : ∀ b, b ∈ [s1.heap.objs.size + 1, s1.heap.objs.size] → FpOk X pins H1 b := fun b hb => by
    have hle : s1.heap.objs.size ≤ b := by
      rcases (show b = s1.heap.objs.size + 1 ∨ b = s1.heap.objs.size by simpa using hb) with z | z
      · rw [z]; exact Nat.le_add_right _ _
      · rw [z]; exact Nat.le_refl _
    exact I1.fpOk hle (I1.hok.fresh hle)
  cases r1 with
  | cons r rr =>
    cases rr
    cases r
    rcases q1 with ⟨hq, q⟩ | ⟨hq, q⟩
    · obtain ⟨its, rv, p', hz⟩ := I1.list hq
      refine call_enumerate_list p'.isList fun h' he hit hsz hk => wpAny_pyIter_enum he ?_
      exact ⟨s1.heap.objs.size + 1, [s1.heap.objs.size + 1, s1.heap.objs.size], _, _, H1, rfl, I1.kept (t' := s1.toks) hk, turn_enum a (s1.heap.objs.size + 1) s1.heap.objs.size, ⟨⟨.none, he⟩, hit, Nat.succ_ne_self _⟩, fresh, q⟩
    · obtain ⟨its, rv, p', hz⟩ := I1.tuple hq
      have hT0 : s1.heap.IsTuple a its.toArray := p'
      refine enumBegin (begins_tuple a its.toArray) hT0 fun h' he hit hk => wpAny_pyIter_enum he ?_
      exact ⟨s1.heap.objs.size + 1, [s1.heap.objs.size + 1, s1.heap.objs.size], _, _, H1, rfl, I1.kept (t' := s1.toks) hk, turnEnumT a (s1.heap.objs.size + 1) s1.heap.objs.size, ⟨⟨.none, he⟩, ⟨_, hit, rfl, rfl⟩, Nat.succ_ne_self _⟩, fresh, q⟩
end Fp
/-! FpTgt: a slot is set; targets. -/
namespace Fp
open PySem PySem.Spec PyProof.Rows L2
section
variable {S : Se} {W : WX} {σ : L2.St} {e e' : Env} {w w' w0 w1 w2 : Wo} {v v1 v2 : V} {r x y : Rv} {q q1 q2 : List Addr} {l : Fp.Loc} {d : D}
theorem updL_has {i : Fp.Loc} {g : List Addr} {x : Addr} (h : ∃ m, x ∈ updL w.fp i g m) : x ∈ g ∨ w.has x := by
  obtain ⟨m, hm⟩ := h
  by_cases z : m = i
  · subst z; rw [updL_same] at hm; exact .inl hm
  · rw [updL_ne z] at hm; exact .inr ⟨m, hm⟩
/-- a slot is set anew -/
theorem Rep.setSl (Re : Rep S σ e w) {i : Nat} (hi : i < e.sl.length) {s : Sl} {o : Option V} {g : List Addr} (new : SlRep S ⟨w.F, w.H, updL w.fp (.s i) g, w.lf⟩ (.s i) o s g) (gn : g.Nodup) (gd : Off w g) :
    Rep S (σ.set i o) ⟨e.sl.set i s, e.ps⟩ ⟨w.F, w.H, updL w.fp (.s i) g, w.lf⟩ := by
  have keep : ∀ {o : Option V} {s : Sl} {m : Fp.Loc}, m ≠ .s i → SlRep S w m o s (w.fp m) → SlRep S ⟨w.F, w.H, updL w.fp (.s i) g, w.lf⟩ m o s (updL w.fp (.s i) g m) := fun {o s m} hm h => by
    rw [updL_ne hm]
    cases s <;> exact h
  refine ⟨Re.sub, by simp [Re.len], Re.plen, fun j s' hs => ?_, fun j hj => ?_, fun k p hp => ?_, fun k hk => ?_, fun m => ?_, fun m m' a h1 h2 => ?_, fun x hx => ?_, fun x hx z => ?_, Re.leh⟩
  · by_cases hj : j = i
    · subst hj
      have : (e.sl.set j s)[j]? = some s' := hs
      rw [List.getElem?_set_self hi] at this
      cases this
      rw [List.getElem?_set_self (by rw [← Re.len]; exact hi)]
      show SlRep S _ _ _ _ (updL w.fp (.s j) g (.s j))
      rw [updL_same]
      exact new
    · have : (e.sl.set i s)[j]? = some s' := hs
      rw [List.getElem?_set_ne (Ne.symm hj)] at this
      rw [List.getElem?_set_ne (Ne.symm hj)]
      exact keep (fun z => hj (by cases z; rfl)) (Re.slot j s' this)
  · have hj' : e.sl.length ≤ j := by simpa using hj
    have : (Loc.s j : Fp.Loc) ≠ .s i := fun z => by cases z; omega
    show updL w.fp (.s i) g (.s j) = []
    rw [updL_ne this]
    exact Re.out j hj'
  · obtain ⟨a, ea, h⟩ := Re.par k p hp
    refine ⟨a, ea, ?_⟩
    show PsRep S _ _ a p (updL w.fp (.s i) g (.p k))
    rw [updL_ne (fun z => by cases z)]
    cases p <;> exact h
  · show updL w.fp (.s i) g (.p k) = []
    rw [updL_ne (fun z => by cases z)]
    exact Re.pout k hk
  · show (updL w.fp (.s i) g m).Nodup
    by_cases hm : m = .s i
    · subst hm; rw [updL_same]; exact gn
    · rw [updL_ne hm]; exact Re.nd m
  · have h1' : a ∈ updL w.fp (.s i) g m := h1
    have h2' : a ∈ updL w.fp (.s i) g m' := h2
    by_cases hm : m = .s i <;> by_cases hm' : m' = .s i
    · rw [hm, hm']
    · subst hm
      rw [updL_same] at h1'
      rw [updL_ne hm'] at h2'
      exact absurd ⟨m', h2'⟩ (gd a h1').2.1
    · subst hm'
      rw [updL_same] at h2'
      rw [updL_ne hm] at h1'
      exact absurd ⟨m, h1'⟩ (gd a h2').2.1
    · rw [updL_ne hm] at h1'
      rw [updL_ne hm'] at h2'
      exact Re.dis m m' a h1' h2'
  · rcases updL_has hx with h | h
    · exact (gd x h).1
    · exact Re.off x h
  · rcases updL_has hx with h | h
    · exact (gd x h).2.2 z
    · exact Re.ale x h z
theorem Step.setSl (s0 : Step w0 w) {i : Fp.Loc} {g : List Addr} (n : New w0 g) : Step w0 ⟨w.F, w.H, updL w.fp i g, w.lf⟩ :=
  ⟨s0.a, s0.b, fun x o h z t => (updL_has t).elim (fun y => z (n x y o h)) (s0.c x o h z), s0.d, s0.e, s0.f, s0.g⟩
theorem Rep.setVal (Re : Rep S σ e w) {i : Nat} (hi : i < e.sl.length) (h : Dat S w.F d v) : Rep S (σ.set i (some v)) ⟨e.sl.set i (.val d), e.ps⟩ ⟨w.F, w.H, updL w.fp (.s i) [], w.lf⟩ :=
  Re.setSl hi ⟨rfl, v, rfl, h⟩ List.nodup_nil (fun _ z => by simp at z)
/-- what a value's slot is -/
theorem ofRv_ok (Re : Rep S σ e w) (r1 : RvRep S σ w v x q) {s : Sl} (h : Sl.ofRv e x = .ok s e') {i : Nat} (hi : i < e.sl.length) : ∃ w' g, w'.H = w.H ∧ Gh w w' q ∧ (∀ y ∈ g, y ∈ q) ∧ Rep S (σ.set i (some v)) ⟨e'.sl.set i s, e'.ps⟩ ⟨w'.F, w'.H, updL w'.fp (.s i) g, w'.lf⟩ ∧ Rep S σ e' w' ∧ i < e'.sl.length := by
  have len : ∀ {e' : Env} {w' : Wo}, Rep S σ e' w' → i < e'.sl.length := fun R' => by rw [R'.len, ← Re.len]; exact hi
  cases x with
  | val d =>
    cases h
    exact ⟨w, [], rfl, (Gh.refl w).mono (by simp), by simp, Re.setVal hi r1.2, Re, hi⟩
  | fresh ds =>
    cases h
    obtain ⟨a, rfl, o, nd, off⟩ := r1
    exact ⟨w, q, rfl, (Gh.refl w).mono (by simp), fun y hy => hy, Re.setSl hi ⟨a, rfl, o⟩ nd off, Re, hi⟩
  | loc l =>
    unfold Sl.ofRv at h
    simp only at h
    rcases asVal_nx (e := e) (x := .loc l) with ⟨d, e1, h1⟩ | h1
    · rw [h1] at h
      cases h
      obtain ⟨w', R', G, dd⟩ := asVal_ok Re r1 h1
      exact ⟨w', [], G.h, G, by simp, R'.setVal (len R') dd, R', len R'⟩
    · rw [h1] at h; cases h

/-! ### targets -/
mutual
def Tg.slots : Tg → List Nat
  | .nm i => [i]
  | .tp ts => Tg.slotss ts
def Tg.slotss : List Tg → List Nat
  | [] => []
  | t :: ts => Tg.slots t ++ Tg.slotss ts
end
/-- a value bound to a target -/
def gT (S : Se) (t : Tg) : TG := fun v σ H Q => ∃ e w d e', w.H = H ∧ Rep S σ e w ∧ Dat S w.F d v ∧ bindD t d e = some e' ∧
  ∀ σ' w', Step w w' → w'.H = H → Rep S σ' e' w' → (∀ j, j ∉ t.slots → σ'[j]? = σ[j]?) → σ'.length = σ.length → Q σ' H
def gTs (S : Se) (ts : List Tg) : TGs := fun vs σ H Q => ∃ e w ds e', w.H = H ∧ Rep S σ e w ∧ Dats S w.F ds vs ∧ bindDs ts ds e = some e' ∧
  ∀ σ' w', Step w w' → w'.H = H → Rep S σ' e' w' → (∀ j, j ∉ Tg.slotss ts → σ'[j]? = σ[j]?) → σ'.length = σ.length → Q σ' H
end
section
variable {X : L2.Cx} {S : Se} {pos : Pos}
theorem PG.imp {tg : Expr} {t t' : TG} (h : PG X tg t) (k : ∀ v σ H Q, t' v σ H Q → t v σ H Q) : PG X tg t' := ⟨fun pins s σ H v u Q I r z => h.run pins s σ H v u Q I r (k v σ H Q z)⟩
theorem PGs.imp {ts : List Expr} {t t' : TGs} (h : PGs X ts t) (k : ∀ v σ H Q, t' v σ H Q → t v σ H Q) : PGs X ts t' := ⟨fun pins s σ H v u Q I r z => h.run pins s σ H v u Q I r (k v σ H Q z)⟩
theorem g_nm {i : Nat} {x : Str} (hN : X.N.Nodup) (hi : X.N[i]? = some x) (hx : L2.Loc X.env.scope x) (hf : X.fn x = true ∨ X.env.scope.names.lookup x = some .local) : PG X (.Name x pos) (gT S (.nm i)) :=
  PG.imp (pg_name hN hi hx hf) fun v σ H Q ⟨e, w, d, e', hw, Re, hd, hb, k⟩ => by
    unfold bindD at hb
    split at hb
    · rename_i hlt
      cases hb
      refine k _ _ ((Step.refl w).setSl (i := .s i) (New.nil _)) hw (Re.setVal hlt hd) (fun j hj => ?_) (by simp)
      exact List.getElem?_set_ne fun z => hj (by simp [Tg.slots, z])
    · cases hb
theorem gs_nil : PGs X [] (gTs S []) := PGs.imp pgs_nil fun vs σ H Q ⟨e, w, ds, e', hw, Re, hd, hb, k⟩ => by
  cases ds with
  | nil =>
    cases hb
    exact ⟨hd.nil_inv, k σ w (Step.refl w) hw Re (fun _ _ => rfl) rfl⟩
  | cons _ _ => cases hb
theorem gs_cons {tg : Expr} {tgs : List Expr} {t : Tg} {ts : List Tg} (h1 : PG X tg (gT S t)) (h2 : PGs X tgs (gTs S ts)) (hs : (assignEach (tg :: tgs) X.env).map (·.2) = assign tg X.env :: (assignEach tgs X.env).map (·.2)) : PGs X (tg :: tgs) (gTs S (t :: ts)) :=
  PGs.imp (pgs_cons h1 h2 hs) fun vs σ H Q ⟨e, w, ds, e', hw, Re, hd, hb, k⟩ => by
    cases ds with
    | nil => cases hb
    | cons d ds =>
      obtain ⟨v, us, rfl, hv, hus⟩ := hd.cons_inv
      unfold bindDs at hb
      cases h1 : bindD t d e with
      | none => rw [h1] at hb; cases hb
      | some e1 =>
        rw [h1] at hb
        refine ⟨v, us, rfl, e, w, d, e1, hw, Re, hv, h1, fun σ1 w1 s1 e1H R1 k1 l1 => ⟨e1, w1, ds, e', e1H, R1, hus.mono s1.a, hb, fun σ2 w2 s2 e2H R2 k2 l2 => ?_⟩⟩
        refine k σ2 w2 (s1.trans s2) e2H R2 (fun j hj => ?_) (l2.trans l1)
        have hj' : j ∉ t.slots ∧ j ∉ Tg.slotss ts := by simpa [Tg.slotss] using hj
        exact (k2 j hj'.2).trans (k1 j hj'.1)
theorem bindDs_len : ∀ {ts : List Tg} {ds : List D} {e e' : Env}, bindDs ts ds e = some e' → ds.length = ts.length
  | [], [], _, _, _ => rfl
  | [], _ :: _, _, _, h => by cases h
  | _ :: _, [], _, _, h => by cases h
  | t :: ts, d :: ds, e, e', h => by
    unfold bindDs at h
    split at h
    · simp [bindDs_len h]
    · cases h
theorem g_tp (hK : S.K = X.K) (hc : X.calm = true) {es : List Expr} {ts : List Tg} {k : Nat} (h : PGs X es (gTs S ts)) (hn : (assignEach es X.env).length = ts.length) (hst : (assignEach es X.env).findIdx? (·.1) = none) : PG X (.Tuple es k pos) (gT S (.tp ts)) :=
  PG.imp (pg_tup hc h hn hst) fun v σ H Q ⟨e, w, d, e', hw, Re, hd, hb, k⟩ => by
    cases d with
    | tup ds =>
      unfold bindD at hb
      obtain ⟨a, vs, rfl, hq, hds⟩ := Red.tup (v := v) Re.sub hd
      subst hw
      exact ⟨a, vs, rfl, by rw [← hK]; exact hq, by rw [← hds.len]; exact bindDs_len hb, e, w, ds, e', rfl, Re, hds, hb, k⟩
    | _ => unfold bindD at hb; cases hb
end
end Fp
/-! FpSrc: what a loop walks. -/
namespace Fp
open PySem PySem.Spec PyProof.Rows L2
section
variable {S : Se} {W : WX} {σ : L2.St} {e e' : Env} {w w' w0 w1 w2 : Wo} {v v1 v2 : V} {r x y : Rv} {q q1 q2 : List Addr} {l : Fp.Loc} {d : D} {α : Type}
/-- a list or tuple that stands while it is walked -/
def Hold (S : Se) (w : Wo) (d : D) (v : V) : Prop := Dat S w.F d v ∨ ∃ ds a vs, d = .lst ds ∧ v = .ref a ∧ w.H a = some (.lst vs) ∧ ¬ w.has a ∧ w.le a ∧ Dats S w.F ds vs
theorem Hold.gh (g : Gh w w' q) (h : Hold S w d v) : Hold S w' d v := by
  rcases h with h | ⟨ds, a, vs, e1, e2, e3, e4, e5, e6⟩
  · exact .inl (Dat.mono g.a _ _ h)
  · refine .inr ⟨ds, a, vs, e1, e2, by rw [g.h]; exact e3, fun z => e4 (g.p a z), ?_, e6.mono g.a⟩
    obtain ⟨m, hm⟩ := Option.ne_none_iff_exists'.mp e5
    show w'.lf a ≠ none
    rw [g.m a m hm]; exact fun z => nomatch z
/-- what was lent since w0 -/
def LsOk (S : Se) (σ : L2.St) (w0 w : Wo) (ls : List (Option Fp.Loc)) : Prop := ∀ l, some l ∈ ls → ∃ a, LocA S σ l a ∧ w.lf a = some l ∧ w.F a = none ∧ ¬ w.has a ∧ w0.lf a = none ∧ New w0 [a] ∧ ∃ vs, w.H a = some (.lst vs)
theorem LsOk.step (s : Step w w') {ls : List (Option Fp.Loc)} (h : LsOk S σ w0 w ls) : LsOk S σ w0 w' ls := fun l hl => by
  obtain ⟨a, h1, h2, h3, h4, h5, h6, vs, h7⟩ := h l hl
  exact ⟨a, h1, s.g a l h2, s.d a _ h7 h4 h3, s.c a _ h7 h4, h5, h6, vs, s.b a _ h7 h4⟩
theorem LsOk.gh (g : Gh w w' q) (hq : ∀ y ∈ q, ¬ w.le y) {ls : List (Option Fp.Loc)} (h : LsOk S σ w0 w ls) : LsOk S σ w0 w' ls := fun l hl => by
  obtain ⟨a, h1, h2, h3, h4, h5, h6, vs, h7⟩ := h l hl
  exact ⟨a, h1, g.m a l h2, g.f a h3 h4 (fun z => hq a z (by show w.lf a ≠ none; rw [h2]; exact fun z => nomatch z)), fun z => h4 (g.p a z), h5, h6, vs, by rw [g.h]; exact h7⟩
theorem LsOk.nil : LsOk S σ w0 w [] := fun l h => by simp at h
theorem LsOk.none : LsOk S σ w0 w [none] := fun l h => by simp at h
theorem LsOk.app {l1 l2 : List (Option Fp.Loc)} (h1 : LsOk S σ w0 w l1) (h2 : LsOk S σ w0 w l2) : LsOk S σ w0 w (l1 ++ l2) := fun l h => (List.mem_append.mp h).elim (h1 l) (h2 l)
theorem lend_nx {fz : Bool} : (∃ p e', e.lend fz x = .ok p e') ∨ e.lend fz x = .bad := by
  have val : (∃ p e', ((e.asVal x).bind fun d e => R.ok (d, (none : Option Fp.Loc)) e) = .ok p e') ∨ ((e.asVal x).bind fun d e => R.ok (d, (none : Option Fp.Loc)) e) = .bad := by
    rcases asVal_nx (e := e) (x := x) with ⟨d, e1, h⟩ | h
    · rw [h]; exact .inl ⟨_, _, rfl⟩
    · rw [h]; exact .inr rfl
  unfold Env.lend
  split
  · exact val
  · unfold Env.lease
    cases x with
    | loc l =>
      simp only
      cases e.at l with
      | none => exact .inr rfl
      | some p => cases p <;> exact .inl ⟨_, _, rfl⟩
    | val _ => exact val
    | fresh _ => exact val
theorem lend_ok (Re : Rep S σ e w) (s0 : Step w0 w) (r1 : RvRep S σ w v x q) {fz : Bool} {p : D × Option Fp.Loc} (h : e.lend fz x = .ok p e') :
    ∃ w', w'.H = w.H ∧ Gh w w' q ∧ Rep S σ e' w' ∧ LsOk S σ w0 w' [p.2] ∧ Hold S w' p.1 v := by
  have val : ∀ {p}, ((e.asVal x).bind fun d e => R.ok (d, (none : Option Fp.Loc)) e) = .ok p e' → ∃ w', w'.H = w.H ∧ Gh w w' q ∧ Rep S σ e' w' ∧ LsOk S σ w0 w' [p.2] ∧ Hold S w' p.1 v := fun {p} h => by
    rcases asVal_nx (e := e) (x := x) with ⟨d, e1, h1⟩ | h1
    · rw [h1] at h
      cases h
      obtain ⟨w', R', G, dd⟩ := asVal_ok Re r1 h1
      exact ⟨w', G.h, G, R', LsOk.none, .inl dd⟩
    · rw [h1] at h; cases h
  unfold Env.lend at h
  split at h
  · exact val h
  · unfold Env.lease at h
    cases x with
    | val _ => exact val h
    | fresh _ => exact val h
    | loc l =>
      simp only at h
      cases hl : e.at l with
      | none => rw [hl] at h; cases h
      | some p0 =>
        rw [hl] at h
        cases p0 with
        | own ds =>
          cases h
          obtain ⟨w', a, vs, R', G, la, q1, dd, lf1, f1, has1, has2⟩ := ghost_lea Re hl
          have hle : w'.le a := by show w'.lf a ≠ none; rw [lf1]; exact fun z => nomatch z
          refine ⟨w', G.h, G.mono (by simp), R', fun l' hl' => ?_, .inr ⟨_, a, vs, rfl, rvLoc la r1, q1, has2, hle, dd⟩⟩
          obtain rfl : l' = l := by simpa using hl'
          refine ⟨a, la, lf1, f1, has2, ?_, s0.newHas fun y hy => by rw [List.mem_singleton.mp hy]; exact has1, vs, q1⟩
          cases z : w0.lf a with
          | none => rfl
          | some m => exact absurd (show w.le a by show w.lf a ≠ none; rw [s0.g a m z]; exact fun z => nomatch z) (Re.ale a has1)
        | lea ds =>
          cases h
          refine ⟨w, rfl, (Gh.refl w).mono (by simp), Re, LsOk.none, .inr ?_⟩
          have hp := Re.at hl
          cases l with
          | s i =>
            obtain ⟨_, a, vs, e1, q1, dd, lf1⟩ := hp
            have hle : w.le a := by show w.lf a ≠ none; rw [lf1]; exact fun z => nomatch z
            have ev : v = .ref a := by
              have z := r1.2
              rw [z] at e1
              simpa using e1
            exact ⟨_, a, vs, rfl, ev, q1, fun z => Re.ale a z hle, hle, dd⟩
          | p k =>
            obtain ⟨a, ea, _, vs, q1, dd, lf1⟩ := hp
            have hle : w.le a := by show w.lf a ≠ none; rw [lf1]; exact fun z => nomatch z
            exact ⟨_, a, vs, rfl, rvLoc (l := .p k) ea r1, q1, fun z => Re.ale a z hle, hle, dd⟩
        | frz ds =>
          cases h
          exact ⟨w, rfl, (Gh.refl w).mono (by simp), Re, LsOk.none, .inl ((Re.at hl).frzDat r1)⟩
/-- items by the turn -/
structure Snap (S : Se) (w1 : Wo) (J : It) (ds : List D) : Prop where
  go : ∀ (i : Nat) (w : Wo), Step w1 w → Same w.F w.H → i < ds.length → J.go i w.H
  stop : ∀ (i : Nat) (w : Wo), Step w1 w → Same w.F w.H → ds.length ≤ i → J.stop i w.H
  yld : ∀ (i : Nat) (w : Wo) (σ : L2.St) (e : Env) (x : V) (H' : Hp) (d : D), Step w1 w → Rep S σ e w → ds[i]? = some d → J.yld i w.H x H' → ∃ w', w'.H = H' ∧ Step w w' ∧ Rep S σ e w' ∧ Dat S w'.F d x
theorem Hold.list {ds : List D} (s1 : Same w1.F w1.H) (h : Hold S w1 (.lst ds) v) : ∃ a vs, v = .ref a ∧ Dats S w1.F ds vs ∧ ∀ w, Step w1 w → Same w.F w.H → SqL S.K w.H a vs := by
  rcases h with ⟨a, vs, e1, q, r⟩ | ⟨_, a, vs, e0, e1, e2, e3, e4, e5⟩
  · exact ⟨a, vs, e1, r, fun w s sw => .inl (rdSame (s.a.trans sw) q)⟩
  · cases e0
    exact ⟨a, vs, e1, e5, fun w s sw => .inl (.inl (s.b a _ e2 e3))⟩
theorem Hold.tup {ds : List D} (h : Hold S w1 (.tup ds) v) : ∃ a vs, v = .ref a ∧ Dats S w1.F ds vs ∧ ∀ w, Step w1 w → Same w.F w.H → SqT S.K w.H a vs := by
  rcases h with ⟨a, vs, e1, q, r⟩ | ⟨_, a, vs, e0, _⟩
  · exact ⟨a, vs, e1, r, fun w s sw => Same.seqT (s.a.trans sw) q⟩
  · cases e0
theorem get_some {α : Type} {xs : List α} {i : Nat} (h : i < xs.length) : ∃ x, xs[i]? = some x := ⟨xs[i], by simp [h]⟩
theorem snap_list {ds : List D} {a : Addr} {vs : List V} (dd : Dats S w1.F ds vs) (h : ∀ w, Step w1 w → Same w.F w.H → SqL S.K w.H a vs) : Snap S w1 (Itl S.K a) ds where
  go := fun i w s sw hi => let ⟨x, hx⟩ := get_some (xs := vs) (by rw [← dd.len]; exact hi); ⟨vs, x, h w s sw, hx⟩
  stop := fun i w s sw hi => ⟨vs, h w s sw, by rw [← dd.len]; exact hi⟩
  yld := fun i w σ e x H' d s Re hd ⟨e1, hy⟩ => by
    subst e1
    obtain ⟨u, hu, du⟩ := dd.get hd
    have := hy vs (h w s Re.sub)
    rw [hu] at this
    cases this
    exact ⟨w, rfl, Step.refl w, Re, Dat.mono s.a _ _ du⟩
theorem snap_tup {ds : List D} {a : Addr} {vs : List V} (dd : Dats S w1.F ds vs) (h : ∀ w, Step w1 w → Same w.F w.H → SqT S.K w.H a vs) : Snap S w1 (Itt S.K a) ds where
  go := fun i w s sw hi => let ⟨x, hx⟩ := get_some (xs := vs) (by rw [← dd.len]; exact hi); ⟨vs, x, h w s sw, hx⟩
  stop := fun i w s sw hi => ⟨vs, h w s sw, by rw [← dd.len]; exact hi⟩
  yld := fun i w σ e x H' d s Re hd ⟨e1, hy⟩ => by
    subst e1
    obtain ⟨u, hu, du⟩ := dd.get hd
    have := hy vs (h w s Re.sub)
    rw [hu] at this
    cases this
    exact ⟨w, rfl, Step.refl w, Re, Dat.mono s.a _ _ du⟩
theorem intsD_len (lo : Int) (n : Nat) : (intsD lo n).length = n := by simp [intsD]
theorem snap_range (lo : Int) (n : Nat) : Snap S w1 (Itr lo n) (intsD lo n) where
  go := fun i w s sw hi => by rw [intsD_len] at hi; exact hi
  stop := fun i w s sw hi => by rw [intsD_len] at hi; exact hi
  yld := fun i w σ e x H' d s Re hd ⟨e1, hy⟩ => by
    subst e1 hy
    have hi : i < n := by
      have := (List.getElem?_eq_some_iff.mp hd).1
      rwa [intsD_len] at this
    have : d = .int (lo + (i : Nat)) := by
      simp [intsD, hi] at hd
      exact hd.symm
    rw [this]
    exact ⟨w, rfl, Step.refl w, Re, rfl⟩
theorem enums_len : ∀ (ds : List D) (k : Nat), (enums ds k).length = ds.length
  | [], _ => rfl
  | d :: ds, k => by simp [enums, enums_len ds]
theorem enums_get : ∀ {ds : List D} {k i : Nat} {d : D}, (enums ds k)[i]? = some d → ∃ d', ds[i]? = some d' ∧ d = .tup [.int ((k + i : Nat) : Int), d']
  | [], _, _, _, h => by simp [enums] at h
  | x :: ds, k, 0, d, h => by
    simp [enums] at h
    exact ⟨x, rfl, h.symm⟩
  | x :: ds, k, i + 1, d, h => by
    simp [enums] at h
    obtain ⟨d', h1, h2⟩ := enums_get h
    exact ⟨d', by simpa using h1, by rw [h2, show k + 1 + i = k + (i + 1) by omega]⟩
theorem snap_enumL {ds : List D} {a : Addr} {vs : List V} (dd : Dats S w1.F ds vs) (h : ∀ w, Step w1 w → Same w.F w.H → SqL S.K w.H a vs) : Snap S w1 (Ite S.K a) (enums ds 0) where
  go := fun i w s sw hi => let ⟨x, hx⟩ := get_some (xs := vs) (by rw [← dd.len, ← enums_len ds 0]; exact hi); ⟨vs, x, h w s sw, hx⟩
  stop := fun i w s sw hi => ⟨vs, h w s sw, by rw [← dd.len, ← enums_len ds 0]; exact hi⟩
  yld := fun i w σ e x H' d s Re hd ⟨T, z, e1, hT, e2, hy⟩ => by
    subst e1 e2
    obtain ⟨d', hd', rfl⟩ := enums_get hd
    obtain ⟨u, hu, du⟩ := dd.get hd'
    have := hy vs (h w s Re.sub)
    rw [hu] at this
    cases this
    obtain ⟨R', s'⟩ := alloc_val Re (o := .tup [.int (i : Nat), z]) hT
    exact ⟨_, rfl, s', R', T, _, rfl, SqT.of upd_same, by show V.int (i : Nat) = V.int ((0 + i : Nat) : Int); rw [Nat.zero_add], Dat.mono (s.trans s').a _ _ du, trivial⟩
theorem snap_enumT {ds : List D} {a : Addr} {vs : List V} (dd : Dats S w1.F ds vs) (h : ∀ w, Step w1 w → Same w.F w.H → SqT S.K w.H a vs) : Snap S w1 (IteT S.K a) (enums ds 0) where
  go := fun i w s sw hi => let ⟨x, hx⟩ := get_some (xs := vs) (by rw [← dd.len, ← enums_len ds 0]; exact hi); ⟨vs, x, h w s sw, hx⟩
  stop := fun i w s sw hi => ⟨vs, h w s sw, by rw [← dd.len, ← enums_len ds 0]; exact hi⟩
  yld := fun i w σ e x H' d s Re hd ⟨T, z, e1, hT, e2, hy⟩ => by
    subst e1 e2
    obtain ⟨d', hd', rfl⟩ := enums_get hd
    obtain ⟨u, hu, du⟩ := dd.get hd'
    have := hy vs (h w s Re.sub)
    rw [hu] at this
    cases this
    obtain ⟨R', s'⟩ := alloc_val Re (o := .tup [.int (i : Nat), z]) hT
    exact ⟨_, rfl, s', R', T, _, rfl, SqT.of upd_same, by show V.int (i : Nat) = V.int ((0 + i : Nat) : Int); rw [Nat.zero_add], Dat.mono (s.trans s').a _ _ du, trivial⟩
theorem zips_len : ∀ (ds es : List D), (zips ds es).length = min ds.length es.length
  | [], _ => by simp [zips]
  | _ :: _, [] => by simp [zips]
  | d :: ds, c :: es => by simp [zips, zips_len ds es, Nat.succ_min_succ]
theorem zips_get : ∀ {ds es : List D} {i : Nat} {d : D}, (zips ds es)[i]? = some d → ∃ x y, ds[i]? = some x ∧ es[i]? = some y ∧ d = .tup [x, y]
  | [], _, _, _, h => by simp [zips] at h
  | _ :: _, [], _, _, h => by simp [zips] at h
  | x :: ds, y :: es, 0, d, h => by
    simp [zips] at h
    exact ⟨x, y, rfl, rfl, h.symm⟩
  | x :: ds, y :: es, i + 1, d, h => by
    simp [zips] at h
    obtain ⟨a, b, h1, h2, h3⟩ := zips_get h
    exact ⟨a, b, by simpa using h1, by simpa using h2, h3⟩
theorem snap_zipL {ds es : List D} {a b : Addr} {vs us : List V} (dd : Dats S w1.F ds vs) (de : Dats S w1.F es us) (h : ∀ w, Step w1 w → Same w.F w.H → SqL S.K w.H a vs) (h' : ∀ w, Step w1 w → Same w.F w.H → SqL S.K w.H b us) : Snap S w1 (Itz S.K a b) (zips ds es) where
  go := fun i w s sw hi => by
    rw [zips_len, dd.len, de.len] at hi
    obtain ⟨x, hx⟩ := get_some (xs := vs) (i := i) (by omega)
    obtain ⟨y, hy⟩ := get_some (xs := us) (i := i) (by omega)
    exact ⟨vs, us, x, y, h w s sw, h' w s sw, hx, hy⟩
  stop := fun i w s sw hi => by
    rw [zips_len, dd.len, de.len] at hi
    exact ⟨vs, us, h w s sw, h' w s sw, by omega⟩
  yld := fun i w σ e x H' d s Re hd ⟨T, z1, z2, e1, hT, e2, hy1, hy2⟩ => by
    subst e1 e2
    obtain ⟨d1, d2, hd1, hd2, rfl⟩ := zips_get hd
    obtain ⟨u1, hu1, du1⟩ := dd.get hd1
    obtain ⟨u2, hu2, du2⟩ := de.get hd2
    have t1 := hy1 vs (h w s Re.sub)
    have t2 := hy2 us (h' w s Re.sub)
    rw [hu1] at t1
    rw [hu2] at t2
    cases t1
    cases t2
    obtain ⟨R', s'⟩ := alloc_val Re (o := .tup [z1, z2]) hT
    exact ⟨_, rfl, s', R', T, _, rfl, SqT.of upd_same, Dat.mono (s.trans s').a _ _ du1, Dat.mono (s.trans s').a _ _ du2, trivial⟩
theorem snap_zipT {ds es : List D} {a b : Addr} {vs us : List V} (dd : Dats S w1.F ds vs) (de : Dats S w1.F es us) (h : ∀ w, Step w1 w → Same w.F w.H → SqT S.K w.H a vs) (h' : ∀ w, Step w1 w → Same w.F w.H → SqT S.K w.H b us) : Snap S w1 (RZ.ItzT S.K a b) (zips ds es) where
  go := fun i w s sw hi => by
    rw [zips_len, dd.len, de.len] at hi
    obtain ⟨x, hx⟩ := get_some (xs := vs) (i := i) (by omega)
    obtain ⟨y, hy⟩ := get_some (xs := us) (i := i) (by omega)
    exact ⟨vs, us, x, y, h w s sw, h' w s sw, hx, hy⟩
  stop := fun i w s sw hi => by
    rw [zips_len, dd.len, de.len] at hi
    exact ⟨vs, us, h w s sw, h' w s sw, by omega⟩
  yld := fun i w σ e x H' d s Re hd ⟨T, z1, z2, e1, hT, e2, hy1, hy2⟩ => by
    subst e1 e2
    obtain ⟨d1, d2, hd1, hd2, rfl⟩ := zips_get hd
    obtain ⟨u1, hu1, du1⟩ := dd.get hd1
    obtain ⟨u2, hu2, du2⟩ := de.get hd2
    have t1 := hy1 vs (h w s Re.sub)
    have t2 := hy2 us (h' w s Re.sub)
    rw [hu1] at t1
    rw [hu2] at t2
    cases t1
    cases t2
    obtain ⟨R', s'⟩ := alloc_val Re (o := .tup [z1, z2]) hT
    exact ⟨_, rfl, s', R', T, _, rfl, SqT.of upd_same, Dat.mono (s.trans s').a _ _ du1, Dat.mono (s.trans s').a _ _ du2, trivial⟩
/-- a source's reading -/
def iS (S : Se) (W : WX) (ev : Env → Fp.R (List D × List (Option Fp.Loc))) : TI := fun σ H Q => ∃ e w, w.H = H ∧ Rep S σ e w ∧ Good S W σ w (ev e) fun p _ w' => ∀ J, Snap S w' J p.1 → LsOk S σ w w' p.2 → Q J w'.H
theorem lend1 (s0 : Step w0 w) (Re : Rep S σ e w) (r1 : RvRep S σ w v x q) (n1 : New w0 q) {fz : Bool} {k : D × Option Fp.Loc → Env → Fp.R α} {p : α → Env → Wo → Prop} (g : Good S W σ w0 ((e.lend fz x).bind k) p) :
    ∃ w' e' d, w'.H = w.H ∧ Gh w w' q ∧ Step w0 w' ∧ Rep S σ e' w' ∧ LsOk S σ w0 w' [d.2] ∧ Hold S w' d.1 v ∧ Good S W σ w0 (k d e') p := by
  rcases lend_nx (e := e) (x := x) (fz := fz) with ⟨d, e', h⟩ | h
  · rw [h, Fp.R.bind_ok] at g
    obtain ⟨w', hH, G, R', ls, hd⟩ := lend_ok Re s0 r1 h
    exact ⟨w', e', d, hH, G, s0.gh G n1, R', ls, hd, g⟩
  · rw [h] at g
    exact g.elim
end
section
variable {X : L2.Cx} {S : Se} {W : WX} {a b c tg : Expr} {ea eb ec : Env → Fp.R Rv} {pos p pc pt : Pos} {es rest : List Expr} {eas : Env → Fp.R (List Rv)}
theorem PI.imp {tg it : Expr} {t t' : TI} (h : PI X tg it t) (k : ∀ σ H Q, t' σ H Q → t σ H Q) : PI X tg it t' := ⟨fun pins s σ H Q I z => h.run pins s σ H Q I (k σ H Q z)⟩
def iSeq (K : PySem.W.Frag) (tl : TE) : TI := fun σ H Q => tl σ H fun x H1 => ∃ a xs, x = .ref a ∧ ((SqL K H1 a xs ∧ Q (Itl K a) H1) ∨ (SqT K H1 a xs ∧ Q (Itt K a) H1))
theorem pi_seq {l : Expr} {tl : TE} (hl : PE X l tl) : PI X tg l (iSeq X.K tl) := by
  refine ⟨fun pins s σ H Q I h => thn (hl.run pins s σ H _ I h) fun v s1 ⟨x, H1, I1, r1, a, xs, ex, q1⟩ => ?_⟩
  subst ex
  cases r1
  have fresh : ∀ b ∈ [s1.heap.objs.size], FpOk X pins H1 b := fun b hb => by
    rw [List.mem_singleton.mp hb]
    exact I1.fpOk (Nat.le_refl _) (I1.hok.fresh (Nat.le_refl _))
  rcases q1 with ⟨hq, q⟩ | ⟨hq, q⟩
  · obtain ⟨its, rv, p, hz⟩ := I1.list hq
    refine wpAny_pyIter_list p.isList ?_
    exact ⟨s1.heap.objs.size, [s1.heap.objs.size], _, _, H1, rfl, I1.kept (t' := s1.toks) fun b o e => Heap.get?_push_of_some _ e, turn_list a _, ⟨_, Heap.get?_push_size _ rfl, rfl, rfl⟩, fresh, q⟩
  · obtain ⟨its, rv, p, hz⟩ := I1.tuple hq
    refine wpAny_pyIter_tuple (show s1.heap.IsTuple a its.toArray from p) ?_
    exact ⟨s1.heap.objs.size, [s1.heap.objs.size], _, _, H1, rfl, I1.kept (t' := s1.toks) fun b o e => Heap.get?_push_of_some _ e, turn_tuple a _, ⟨_, Heap.get?_push_size _ rfl, rfl, rfl⟩, fresh, q⟩
theorem src_ov (hK : S.K = X.K) (ha : PE X a (tE S W ea)) (fz : Bool) : PI X tg a (iS S W fun e => (ea e).bind fun x e => (e.lend fz x).bind fun (d, l) e => match itemsOf d with
    | some ds => .ok (ds, [l]) e
    | none => .bad) :=
  PI.imp (pi_seq ha) fun σ H Q ⟨e, w, hw, R, g⟩ => tE.one hw R g fun v r q e w' s R' hr n g => by
    obtain ⟨w2, e2, ⟨d, l⟩, hH, G, s2, R2, ls, hd, g2⟩ := lend1 s R' hr n g
    rw [← hH, ← hK]
    cases d with
    | lst ds =>
      obtain ⟨a, vs, rfl, dd, hh⟩ := Hold.list R2.sub hd
      exact ⟨a, vs, rfl, .inl ⟨hh w2 (Step.refl w2) R2.sub, g2 w2 s2 R2 _ (snap_list dd hh) ls⟩⟩
    | tup ds =>
      obtain ⟨a, vs, rfl, dd, hh⟩ := Hold.tup hd
      exact ⟨a, vs, rfl, .inr ⟨hh w2 (Step.refl w2) R2.sub, g2 w2 s2 R2 _ (snap_tup dd hh) ls⟩⟩
    | _ => exact g2.elim
theorem src_rng (ha : PA X [a] (tA S W fun e => (ea e).bind fun x e => (Fp.R.ok [] e).bind fun rs e => .ok (x :: rs) e)) (hg : Gl X "range") (hm : X.mg "range" = none) (hs : starEach [a] X.env = [(false, eval a X.env)]) :
    PI X tg (.Call (.Name "range" p) [a] [] pos) (iS S W fun e => (ea e).bind fun x e => match x with
    | .val (.int j) => if small62 j then .ok (intsD 0 j.toNat, []) e else .bad
    | _ => .bad) :=
  PI.imp (pi_range1 hg hm ha hs) fun σ H Q ⟨e, w, hw, R, g⟩ => by
    subst hw
    refine ⟨e, w, rfl, R, ?_⟩
    dsimp only
    have g : Good S W σ w ((ea e).bind fun x e => match x with
    | .val (.int j) => if small62 j then Fp.R.ok (intsD 0 j.toNat, ([] : List (Option Fp.Loc))) e else .bad
    | _ => .bad) _ := g
    cases he : ea e with
    | bad => rw [he] at g; exact g.elim
    | ex c d e1 => rw [he] at g; exact g
    | ok r e1 =>
      rw [he] at g
      intro w1 s1 R1 vs q ⟨u, us, f, g0, e1', e2', h1, h0, h0'⟩ n nd
      subst h0 h0' e1' e2'
      cases r with
      | val d => cases d with
        | int j =>
          have g : Good S W σ w (if small62 j then Fp.R.ok (intsD 0 j.toNat, ([] : List (Option Fp.Loc))) e1 else .bad) _ := g
          split at g
          · rename_i hj
            unfold small62 at hj
            rw [decide_eq_true_eq] at hj
            exact ⟨j, by rw [show u = .int j from h1.2], hj.1, hj.2, g w1 s1 R1 _ (snap_range 0 j.toNat) LsOk.nil⟩
          · exact g.elim
        | _ => exact g.elim
      | fresh _ => exact g.elim
      | loc _ => exact g.elim
theorem src_rng2 (ha : PA X [a, b] (tA S W fun e => (ea e).bind fun x e => ((eb e).bind fun y e => (Fp.R.ok [] e).bind fun rs e => .ok (y :: rs) e).bind fun rs e => .ok (x :: rs) e)) (hg : Gl X "range") (hm : X.mg "range" = none)
    (hs : starEach [a, b] X.env = [(false, eval a X.env), (false, eval b X.env)]) (hs2 : starEach [b] X.env = [(false, eval b X.env)]) :
    PI X tg (.Call (.Name "range" p) [a, b] [] pos) (iS S W fun e => (ea e).bind fun x e => (eb e).bind fun y e => match x, y with
    | .val (.int i), .val (.int j) => if small62 i && small62 j then .ok (intsD i (j - i).toNat, []) e else .bad
    | _, _ => .bad) :=
  PI.imp (pi_range2 hg hm ha hs hs2) fun σ H Q ⟨e, w, hw, R, g⟩ => by
    subst hw
    refine ⟨e, w, rfl, R, ?_⟩
    dsimp only
    have g : Good S W σ w ((ea e).bind fun x e => (eb e).bind fun y e => match x, y with
    | .val (.int i), .val (.int j) => if small62 i && small62 j then Fp.R.ok (intsD i (j - i).toNat, ([] : List (Option Fp.Loc))) e else .bad
    | _, _ => .bad) _ := g
    cases he : ea e with
    | bad => rw [he] at g; exact g.elim
    | ex c d e1 => rw [he] at g; exact g
    | ok r e1 =>
      rw [he, Fp.R.bind_ok] at g
      rw [Fp.R.bind_ok]
      cases he2 : eb e1 with
      | bad => rw [he2] at g; exact g.elim
      | ex c d e2 => rw [he2] at g; exact g
      | ok r2 e2 =>
        rw [he2] at g
        intro w1 s1 R1 vs q hr n nd
        obtain ⟨u, us, f, g0, e1', e2', h1, u2, us2, f2, g02, e3', e4', h2, h0, h0'⟩ := hr
        subst h0 h0' e3' e4' e1' e2'
        have g : Good S W σ w (match r, r2 with
          | .val (.int i), .val (.int j) => if small62 i && small62 j then Fp.R.ok (intsD i (j - i).toNat, ([] : List (Option Fp.Loc))) e2 else .bad
          | _, _ => .bad) _ := g
        split at g
        · rename_i i j _
          split at g
          · rename_i hj
            unfold small62 at hj
            rw [Bool.and_eq_true, decide_eq_true_eq, decide_eq_true_eq] at hj
            exact ⟨i, j, by rw [show u = .int i from h1.2, show u2 = .int j from h2.2], ⟨hj.1.1, hj.1.2, hj.2.1, hj.2.2⟩, g w1 s1 R1 _ (snap_range i (j - i).toNat) LsOk.nil⟩
          · exact g.elim
        · exact g.elim
theorem src_enu {elts : List Expr} {kk : Nat} {tpos : Pos} (hK : S.K = X.K) (ha : PA X [a] (tA S W fun e => (ea e).bind fun x e => (Fp.R.ok [] e).bind fun rs e => .ok (x :: rs) e)) (fz : Bool) (hg : Gl X "enumerate") (hm : X.mg "enumerate" = none) (hs : starEach [a] X.env = [(false, eval a X.env)]) :
    PI X (.Tuple elts kk tpos) (.Call (.Name "enumerate" p) [a] [] pos) (iS S W fun e => (ea e).bind fun x e => (e.lend fz x).bind fun (d, l) e => match itemsOf d with
    | some ds => .ok (enums ds 0, [l]) e
    | none => .bad) :=
  PI.imp (pi_enumA hg hm ha hs) fun σ H Q ⟨e, w, hw, R, g⟩ => by
    subst hw
    refine ⟨e, w, rfl, R, ?_⟩
    dsimp only
    have g : Good S W σ w ((ea e).bind fun x e => (e.lend fz x).bind fun (d, l) e => match itemsOf d with
    | some ds => Fp.R.ok (enums ds 0, [l]) e
    | none => .bad) _ := g
    cases he : ea e with
    | bad => rw [he] at g; exact g.elim
    | ex c d e1 => rw [he] at g; exact g
    | ok r e1 =>
      rw [he] at g
      intro w1 s1 R1 vs q ⟨u, us, f, g0, e1', e2', h1, h0, h0'⟩ n nd
      subst h0 h0' e1' e2'
      rw [List.append_nil] at n nd
      obtain ⟨w2, e2, ⟨d, l⟩, hH, G, s2, R2, ls, hd, g2⟩ := lend1 s1 R1 h1 n g
      rw [← hH, ← hK]
      cases d with
      | lst ds =>
        obtain ⟨a, vs, rfl, dd, hh⟩ := Hold.list R2.sub hd
        exact ⟨a, vs, rfl, .inl ⟨hh w2 (Step.refl w2) R2.sub, g2 w2 s2 R2 _ (snap_enumL dd hh) ls⟩⟩
      | tup ds =>
        obtain ⟨a, vs, rfl, dd, hh⟩ := Hold.tup hd
        exact ⟨a, vs, rfl, .inr ⟨hh w2 (Step.refl w2) R2.sub, g2 w2 s2 R2 _ (snap_enumT dd hh) ls⟩⟩
      | _ => exact g2.elim
theorem src_zip {elts : List Expr} {kk : Nat} {tpos : Pos} (hK : S.K = X.K) (ha : PA X [a, b] (tA S W fun e => (ea e).bind fun x e => ((eb e).bind fun y e => (Fp.R.ok [] e).bind fun rs e => .ok (y :: rs) e).bind fun rs e => .ok (x :: rs) e)) (fz : Bool) (hg : Gl X "zip") (hm : X.mg "zip" = none)
    (hs : starEach [a, b] X.env = (false, eval a X.env) :: starEach [b] X.env) (hpl : (backTo pos (starEach [b] X.env)).any (·.1) = false) :
    PI X (.Tuple elts kk tpos) (.Call (.Name "zip" p) [a, b] [] pos) (iS S W fun e => (ea e).bind fun x e => (eb e).bind fun y e => (e.lend fz x).bind fun (d, l) e => (e.lend fz y).bind fun (d', l') e => match d, d' with
    | .lst ds, .lst ds' => .ok (zips ds ds', [l, l']) e
    | .tup ds, .tup ds' => .ok (zips ds ds', [l, l']) e
    | _, _ => .bad) :=
  PI.imp (RZ.pi_zipA hg hm ha hs hpl) fun σ H Q ⟨e, w, hw, R, g⟩ => by
    subst hw
    refine ⟨e, w, rfl, R, ?_⟩
    dsimp only
    have g : Good S W σ w ((ea e).bind fun x e => (eb e).bind fun y e => (e.lend fz x).bind fun (d, l) e => (e.lend fz y).bind fun (d', l') e => match d, d' with
    | .lst ds, .lst ds' => Fp.R.ok (zips ds ds', [l, l']) e
    | .tup ds, .tup ds' => .ok (zips ds ds', [l, l']) e
    | _, _ => .bad) _ := g
    cases he : ea e with
    | bad => rw [he] at g; exact g.elim
    | ex c d e1 => rw [he] at g; exact g
    | ok r e1 =>
      rw [he, Fp.R.bind_ok] at g
      rw [Fp.R.bind_ok]
      cases he2 : eb e1 with
      | bad => rw [he2] at g; exact g.elim
      | ex c d e2 => rw [he2] at g; exact g
      | ok r2 e2 =>
        rw [he2] at g
        intro w1 s1 R1 vs q hr n nd
        obtain ⟨u, us, f, g0, e1', e2', h1, u2, us2, f2, g02, e3', e4', h2, h0, h0'⟩ := hr
        subst h0 h0' e3' e4' e1' e2'
        rw [List.append_nil] at n nd
        have nd' := List.nodup_append.mp nd
        obtain ⟨w2, e3, ⟨d, l⟩, hH, G, s2, R2, ls, hd, g2⟩ := lend1 s1 R1 h1 (fun x hx => n x (List.mem_append_left _ hx)) g
        have h2' := h2.gh G fun x hx hx' => nd'.2.2 x hx' x hx rfl
        obtain ⟨w3, e4, ⟨d', l'⟩, hH3, G3, s3, R3, ls3, hd3, g3⟩ := lend1 s2 R2 h2' (fun x hx => n x (List.mem_append_right _ hx)) g2
        have hd' := hd.gh G3
        have ls' := (ls.gh G3 fun y hy => (h2'.off y hy).2.2).app ls3
        rw [← hH, ← hH3, ← hK]
        cases d with
        | lst ds =>
          cases d' with
          | lst ds' =>
            obtain ⟨a, vs, rfl, dd, hh⟩ := Hold.list R3.sub hd'
            obtain ⟨a', vs', rfl, dd', hh'⟩ := Hold.list R3.sub hd3
            exact ⟨a, a', vs, vs', rfl, .inl ⟨hh w3 (Step.refl w3) R3.sub, hh' w3 (Step.refl w3) R3.sub, g3 w3 s3 R3 _ (snap_zipL dd dd' hh hh') ls'⟩⟩
          | _ => exact g3.elim
        | tup ds =>
          cases d' with
          | tup ds' =>
            obtain ⟨a, vs, rfl, dd, hh⟩ := Hold.tup hd'
            obtain ⟨a', vs', rfl, dd', hh'⟩ := Hold.tup hd3
            exact ⟨a, a', vs, vs', rfl, .inr ⟨hh w3 (Step.refl w3) R3.sub, hh' w3 (Step.refl w3) R3.sub, g3 w3 s3 R3 _ (snap_zipT dd dd' hh hh') ls'⟩⟩
          | _ => exact g3.elim
        | _ => exact g3.elim
end
end Fp
/-! FpComp: list comprehensions. -/
namespace Fp
open PySem PySem.Spec PyProof.Rows L2
section
variable {S : Se} {W : WX} {σ σ2 : L2.St} {e e' e1 e2 : Env} {w w' w0 w1 w2 : Wo} {v v1 v2 : V} {r x y : Rv} {q q1 q2 : List Addr} {l : Fp.Loc} {d : D} {α : Type}
theorem wo_same (h : w.fp l = []) : (⟨w.F, w.H, updL w.fp l [], w.lf⟩ : Wo) = w := by
  have : updL w.fp l [] = w.fp := by
    funext m
    by_cases z : m = l
    · subst z; rw [updL_same, h]
    · rw [updL_ne z]
  rw [this]
/-- w' is w but for slots that hold no list any more -/
structure Drop (w w' : Wo) : Prop where
  F : w'.F = w.F
  H : w'.H = w.H
  lf : w'.lf = w.lf
  has : ∀ x, w'.has x → w.has x
theorem Drop.refl (w : Wo) : Drop w w := ⟨rfl, rfl, rfl, fun _ h => h⟩
theorem Drop.trans (a : Drop w w1) (b : Drop w1 w2) : Drop w w2 := ⟨b.F.trans a.F, b.H.trans a.H, b.lf.trans a.lf, fun x h => a.has x (b.has x h)⟩
theorem Drop.step (a : Drop w w1) (s : Step w0 w) : Step w0 w1 where
  a := by rw [a.F]; exact s.a
  b := by rw [a.H]; exact s.b
  c := fun x o h n z => s.c x o h n (a.has x z)
  d := by rw [a.F]; exact s.d
  e := by rw [a.H]; exact s.e
  f := fun x o h n z y => s.f x o h n z (by show w.lf x ≠ none; rw [← a.lf]; exact y)
  g := by rw [a.lf]; exact s.g
theorem Drop.rv (a : Drop w w1) (h : RvRep S σ w v x q) : RvRep S σ w1 v x q := h.keep (by rw [a.F]; exact Same.refl _) fun y hy => by
  obtain ⟨z1, z2, z3⟩ := h.off y hy
  exact ⟨by rw [a.H], by rw [a.F]; exact z1, fun z => z2 (a.has y z), fun z => z3 (by show w.lf y ≠ none; rw [← a.lf]; exact z)⟩
theorem RvRep.fresh_any {ds : List D} (h : RvRep S σ w v (.fresh ds) q) : RvRep S σ2 w v (.fresh ds) q := h
theorem setSl_drop {i : Nat} : Drop w ⟨w.F, w.H, updL w.fp (.s i) [], w.lf⟩ := ⟨rfl, rfl, rfl, fun x h => (updL_has h).elim (fun z => by simp at z) id⟩
theorem wipeS_len (sl : List Sl) : ∀ own : List Nat, (wipeS sl own).length = sl.length
  | [] => rfl
  | i :: is => by simp [wipeS, wipeS_len sl is]
/-- the block's own slots forgotten -/
theorem wipe_any (Re : Rep S σ e w) : ∀ {own : List Nat}, (∀ i ∈ own, i < e.sl.length) → ∃ w', Drop w w' ∧ Rep S (wipe σ own) ⟨wipeS e.sl own, e.ps⟩ w'
  | [], _ => ⟨w, Drop.refl w, Re⟩
  | i :: is, h => by
    obtain ⟨w1, d1, R1⟩ := wipe_any Re (own := is) fun j hj => h j (List.mem_cons_of_mem _ hj)
    have hi : i < (wipeS e.sl is).length := by rw [wipeS_len]; exact h i List.mem_cons_self
    exact ⟨_, d1.trans setSl_drop, R1.setSl (s := .no) (o := none) (g := []) hi rfl List.nodup_nil fun _ z => by simp at z⟩
theorem clear_mem {sl : List Sl} : ∀ {own : List Nat}, clearS sl own = true → ∀ i ∈ own, ∃ s, sl[i]? = some s ∧ (∀ ds, s ≠ .own ds) ∧ ∀ ds, s ≠ .lea ds
  | [], _, i, h => by simp at h
  | j :: is, h, i, hi => by
    unfold clearS at h
    rw [Bool.and_eq_true] at h
    rcases List.mem_cons.mp hi with rfl | hi
    · obtain ⟨h1, _⟩ := h
      cases hs : sl[i]? with
      | none => rw [hs] at h1; cases h1
      | some s =>
        rw [hs] at h1
        cases s with
        | own _ => cases h1
        | lea _ => cases h1
        | no => exact ⟨_, rfl, fun _ z => (by cases z), fun _ z => (by cases z)⟩
        | val _ => exact ⟨_, rfl, fun _ z => (by cases z), fun _ z => (by cases z)⟩
        | lnk _ => exact ⟨_, rfl, fun _ z => (by cases z), fun _ z => (by cases z)⟩
    · exact clear_mem h.2 i hi
theorem Rep.fpNil (Re : Rep S σ e w) {i : Nat} {s : Sl} (hs : e.sl[i]? = some s) (h : ∀ ds, s ≠ .own ds) : w.fp (.s i) = [] := by
  have z := Re.slot i s hs
  cases s with
  | own ds => exact absurd rfl (h ds)
  | no => exact z
  | val _ => exact z.1
  | lea _ => exact z.1
  | lnk _ => exact z.1
theorem wipeS_get (sl : List Sl) {i : Nat} {s : Sl} : ∀ {own : List Nat}, (wipeS sl own)[i]? = some s → s = .no ∨ sl[i]? = some s
  | [], h => .inr h
  | j :: is, h => by
    unfold wipeS at h
    by_cases z : j = i
    · subst z
      by_cases hl : j < (wipeS sl is).length
      · rw [List.getElem?_set_self hl] at h
        cases h; exact .inl rfl
      · rw [List.getElem?_eq_none (by simpa using hl)] at h; cases h
    · rw [List.getElem?_set_ne z] at h
      exact wipeS_get sl h
theorem wipe_clear (Re : Rep S σ e w) : ∀ {own : List Nat}, clearS e.sl own = true → Rep S (wipe σ own) ⟨wipeS e.sl own, e.ps⟩ w
  | [], _ => Re
  | i :: is, h => by
    have h2 : clearS e.sl is = true := by unfold clearS at h; rw [Bool.and_eq_true] at h; exact h.2
    have R1 := wipe_clear Re h2
    obtain ⟨s, hs, n1, n2⟩ := clear_mem h i List.mem_cons_self
    have hi : i < (wipeS e.sl is).length := by rw [wipeS_len]; exact (List.getElem?_eq_some_iff.mp hs).1
    have R2 := R1.setSl (s := .no) (o := none) (g := []) hi rfl List.nodup_nil fun _ z => by simp at z
    rw [wo_same] at R2
    · exact R2
    · obtain ⟨s2, hs2⟩ := get_some hi
      refine R1.fpNil hs2 fun ds z => ?_
      rcases wipeS_get e.sl hs2 with y | y
      · rw [y] at z; cases z
      · rw [hs] at y; cases y; exact n1 ds z
theorem wipe_get (σ : L2.St) {j : Nat} : ∀ {own : List Nat}, j ∉ own → (wipe σ own)[j]? = σ[j]?
  | [], _ => rfl
  | i :: is, h => by
    unfold wipe
    rw [List.getElem?_set_ne fun z => h (by rw [z]; exact List.mem_cons_self)]
    exact wipe_get σ fun z => h (List.mem_cons_of_mem _ z)
theorem wipe_in (σ : L2.St) {j : Nat} : ∀ {own : List Nat}, j ∈ own → j < σ.length → (wipe σ own)[j]? = some none
  | [], h, _ => by simp at h
  | i :: is, h, hj => by
    unfold wipe
    by_cases z : i = j
    · subst z
      exact List.getElem?_set_self (by rw [wipe_length]; exact hj)
    · rw [List.getElem?_set_ne z]
      exact wipe_in σ ((List.mem_cons.mp h).resolve_left fun y => z y.symm) hj
theorem wipe_eq {own sl : List Nat} (hs : ∀ j ∈ sl, j ∈ own) (h : ∀ j, j ∉ sl → σ2[j]? = (wipe σ own)[j]?) (hl : σ2.length = (wipe σ own).length) : wipe σ2 own = wipe σ own := by
  have hl' : σ2.length = σ.length := by rw [hl, wipe_length]
  refine List.ext_getElem? fun j => ?_
  by_cases hj : j ∈ own
  · by_cases hlt : j < σ.length
    · rw [wipe_in σ hj hlt, wipe_in σ2 hj (by rw [hl']; exact hlt)]
    · rw [List.getElem?_eq_none (by rw [wipe_length, hl']; omega), List.getElem?_eq_none (by rw [wipe_length]; omega)]
  · rw [wipe_get σ2 hj, h j fun z => hj (hs j z)]
/-- the slots as they were, put back -/
def backV (σ σ2 : L2.St) : List Nat → L2.St
  | [] => σ2
  | i :: is => (backV σ σ2 is).set i (σ[i]?).join
theorem backV_len (σ σ2 : L2.St) : ∀ own : List Nat, (backV σ σ2 own).length = σ2.length
  | [] => rfl
  | i :: is => by simp [backV, backV_len σ σ2 is]
theorem backV_get (σ σ2 : L2.St) {j : Nat} : ∀ {own : List Nat}, σ2.length = σ.length → (backV σ σ2 own)[j]? = if j ∈ own then σ[j]? else σ2[j]?
  | [], _ => by simp [backV]
  | i :: is, hl => by
    unfold backV
    by_cases z : i = j
    · subst z
      rw [if_pos List.mem_cons_self]
      by_cases hj : i < σ.length
      · rw [List.getElem?_set_self (by rw [backV_len, hl]; exact hj)]
        simp [hj]
      · rw [List.getElem?_eq_none (by rw [List.length_set, backV_len, hl]; omega), List.getElem?_eq_none (by omega)]
    · rw [List.getElem?_set_ne z, backV_get σ σ2 hl]
      have : (j ∈ i :: is) ↔ j ∈ is := by simp [Ne.symm z]
      simp only [this]
theorem backV_wipe {own : List Nat} : backV σ (wipe σ own) own = σ := by
  refine List.ext_getElem? fun j => ?_
  rw [backV_get σ _ (wipe_length σ own)]
  split
  · rfl
  · rename_i h; exact wipe_get σ h
theorem backS_len (old new : List Sl) : ∀ own : List Nat, (backS old new own).length = new.length
  | [] => rfl
  | i :: is => by simp [backS, backS_len old new is]
theorem back_rep (R1 : Rep S σ e1 w1) (s : Same w1.F w2.F) (R2 : Rep S σ2 e2 w2) (hl : e1.sl.length = e2.sl.length) : ∀ {own : List Nat}, clearS e1.sl own = true → ∃ w3, Drop w2 w3 ∧ Rep S (backV σ σ2 own) ⟨backS e1.sl e2.sl own, e2.ps⟩ w3
  | [], _ => ⟨w2, Drop.refl w2, R2⟩
  | i :: is, h => by
    have h2 : clearS e1.sl is = true := by unfold clearS at h; rw [Bool.and_eq_true] at h; exact h.2
    obtain ⟨w3, d3, R3⟩ := back_rep R1 s R2 hl h2
    obtain ⟨sl, hs, n1, n2⟩ := clear_mem h i List.mem_cons_self
    have hi1 := (List.getElem?_eq_some_iff.mp hs).1
    have hi : i < (backS e1.sl e2.sl is).length := by rw [backS_len, ← hl]; exact hi1
    have hg : e1.sl.getD i .no = sl := by rw [List.getD_eq_getElem?_getD, hs]; rfl
    have z := R1.slot i sl hs
    refine ⟨_, d3.trans (setSl_drop (i := i)), ?_⟩
    show Rep S ((backV σ σ2 is).set i (σ[i]?).join) ⟨(backS e1.sl e2.sl is).set i (e1.sl.getD i .no), e2.ps⟩ _
    rw [hg]
    refine R3.setSl (s := sl) (g := []) hi ?_ List.nodup_nil fun _ z => by simp at z
    cases sl with
    | own ds => exact absurd rfl (n1 ds)
    | lea ds => exact absurd rfl (n2 ds)
    | no => rfl
    | val d =>
      obtain ⟨_, v, hv, dv⟩ := z
      exact ⟨rfl, v, hv, by show Dat S w3.F d v; rw [d3.F]; exact Dat.mono s _ _ dv⟩
    | lnk k =>
      obtain ⟨_, a, ha, hk⟩ := z
      exact ⟨rfl, a, ha, hk⟩
/-- what was lent is had alone again -/
theorem unlease_ok (s0 : Step w0 w) : ∀ {ls : List (Option Fp.Loc)} {e : Env} {w : Wo}, Step w0 w → Rep S σ e w → (∀ l ds, some l ∈ ls → e.at l = some (.lea ds) → ∃ a, LocA S σ l a ∧ w.lf a = some l ∧ w.F a = none ∧ ¬ w.has a ∧ w0.lf a = none ∧ New w0 [a]) →
    ∃ w', Step w0 w' ∧ Rep S σ (e.unlease ls) w' ∧ w'.H = w.H ∧ w'.F = w.F ∧ (∀ x, w'.has x → w.has x ∨ w.le x) ∧ ∀ x, w'.le x → w.le x
  | [], e, w, s, Re, _ => ⟨w, s, Re, rfl, rfl, fun _ h => .inl h, fun _ h => h⟩
  | none :: ls, e, w, s, Re, h => unlease_ok s0 (ls := ls) s Re fun l ds hl => h l ds (List.mem_cons_of_mem _ hl)
  | some l :: ls, e, w, s, Re, h => by
    unfold Env.unlease
    split
    · rename_i ds hl
      obtain ⟨a, la, lf1, f1, nh, l0, nw⟩ := h l ds List.mem_cons_self hl
      have hle : w.le a := by show w.lf a ≠ none; rw [lf1]; exact fun z => nomatch z
      have hp : ∃ vs, w.H a = some (.lst vs) ∧ Dats S w.F ds vs := by
        have hp := Re.at hl
        cases l with
        | s i =>
          obtain ⟨_, b, vs, e1, q1, dd, _⟩ := hp
          have := LocA.join la
          rw [this] at e1
          cases e1
          exact ⟨vs, q1, dd⟩
        | p k =>
          obtain ⟨b, eb, _, vs, q1, dd, _⟩ := hp
          have la' : S.pa[k]? = some a := la
          rw [la'] at eb
          cases eb
          exact ⟨vs, q1, dd⟩
      obtain ⟨vs, q1, dd⟩ := hp
      have fpl : w.fp l = [] := by
        have hp := Re.at hl
        cases l with
        | s i => exact hp.1
        | p k =>
          obtain ⟨b, eb, h1, _⟩ := hp
          exact h1
      have R1 : Rep S σ (e.put l (.own ds)) ⟨w.F, w.H, updL w.fp l [a], fun x => if x = a then none else w.lf x⟩ := by
        refine Re.upd l (.own ds) (.lea ds) hl (Same.refl _) Re.sub (fun x o h _ => h) (fun x h _ => Re.off x h) (fun x m hm z => ?_) (by simp) (fun x hx => ?_) (fun x hx => .inr ?_) (fun x hx _ => ?_) (fun x z => ?_) (PlRep.mk_own la (Own.of_dats q1 dd))
        · by_cases y : x = a
          · rw [y, lf1] at z; cases z; exact absurd rfl hm
          · rw [if_neg y]; exact z
        · rw [List.mem_singleton.mp hx]; exact ⟨f1, if_pos rfl⟩
        · rw [List.mem_singleton.mp hx]; exact nh
        · by_cases y : x = a
          · rw [if_pos y]
          · rw [if_neg y]; exact Classical.not_not.mp (Re.ale x hx)
        · by_cases y : x = a
          · rw [y]; exact ⟨_, q1⟩
          · exact Re.leh x (by intro t; rw [if_neg y] at z; exact z t)
      have hx1 : ∀ x, (∃ m, x ∈ updL w.fp l [a] m) → w.has x ∨ x = a := fun x hx => (updL_has hx).symm.imp id fun z => List.mem_singleton.mp z
      have s1 : Step w0 ⟨w.F, w.H, updL w.fp l [a], fun x => if x = a then none else w.lf x⟩ := by
        refine ⟨s.a, s.b, fun x o h1 n z => ?_, s.d, s.e, fun x o h1 n z y => ?_, fun x m z => ?_⟩
        · rcases hx1 x z with t | t
          · exact s.c x o h1 n t
          · exact n (nw x (by simp [t]) o h1)
        · by_cases t : x = a
          · exact y (if_pos t)
          · exact s.f x o h1 n z (fun u => y ((if_neg t).trans u))
        · by_cases t : x = a
          · rw [t, l0] at z; cases z
          · exact (if_neg t).trans (s.g x m z)
      obtain ⟨w', s', R', hH, hF, hh, hl'⟩ := unlease_ok s0 (ls := ls) s1 R1 fun l' ds' hm hat => by
        by_cases t : l' = l
        · subst t
          have : (e.put l' (.own ds)).at l' = some (.own ds) := by
            cases l' with
            | s i =>
              have hi : i < e.sl.length := by
                rcases Nat.lt_or_ge i e.sl.length with z | z
                · exact z
                · have : e.sl[i]? = none := List.getElem?_eq_none_iff.mpr z
                  simp [Env.at, this] at hl
              simp [Env.at, Env.put, Sl.ofP, hi]
            | p k =>
              have hk : k < e.ps.length := by
                rcases Nat.lt_or_ge k e.ps.length with z | z
                · exact z
                · have : e.ps[k]? = none := List.getElem?_eq_none_iff.mpr z
                  simp [Env.at, this] at hl
              simp [Env.at, Env.put, hk]
          rw [this] at hat; cases hat
        · have : (e.put l (.own ds)).at l' = e.at l' := by
            cases l' with
            | s i => cases l with
              | s j => simp only [Env.at, Env.put]; rw [List.getElem?_set_ne (fun z => t (by rw [z]))]
              | p k => rfl
            | p i => cases l with
              | s j => rfl
              | p k => simp only [Env.at, Env.put]; rw [List.getElem?_set_ne (fun z => t (by rw [z]))]
          rw [this] at hat
          obtain ⟨a', la', lf', f', nh', l0', nw'⟩ := h l' ds' (List.mem_cons_of_mem _ hm) hat
          have ne : a' ≠ a := fun z => t (by rw [z, lf1] at lf'; exact (Option.some.inj lf').symm)
          refine ⟨a', la', (if_neg ne).trans lf', f', fun z => ?_, l0', nw'⟩
          rcases hx1 a' z with y | y
          · exact nh' y
          · exact ne y
      refine ⟨w', s', R', hH, hF, fun x hx => ?_, fun x hx z => ?_⟩
      · rcases hh x hx with z | z
        · rcases hx1 x z with y | y
          · exact .inl y
          · exact .inr (by rw [y]; exact hle)
        · exact .inr fun y => z (by
            show (if x = a then none else w.lf x) = none
            split
            · rfl
            · exact y)
      · refine hl' x hx ?_
        show (if x = a then none else w.lf x) = none
        split
        · rfl
        · exact z
    · exact unlease_ok s0 (ls := ls) s Re fun l' ds' hl' => h l' ds' (List.mem_cons_of_mem _ hl')
/-- a held new list is written -/
theorem held_write (Re : Rep S σ e w) (s0 : Step w0 w) {a : Addr} (hF : w.F a = none) (hh : ¬ w.has a) (hl : ¬ w.le a) (h0 : w0.H a = none) {o : HO} : Rep S σ e ⟨w.F, upd w.H a o, w.fp, w.lf⟩ ∧ Step w0 ⟨w.F, upd w.H a o, w.fp, w.lf⟩ := by
  have ne : ∀ x, w.has x → x ≠ a := fun x hx z => hh (by rw [← z]; exact hx)
  have nl : ∀ x, w.le x → x ≠ a := fun x hx z => hl (by rw [← z]; exact hx)
  refine ⟨⟨fun b u z => ?_, Re.len, Re.plen, fun i s hs => ?_, Re.out, fun k p hp => ?_, Re.pout, Re.nd, Re.dis, Re.off, Re.ale, fun x z => ?_⟩, ⟨s0.a, fun x u h n => ?_, s0.c, s0.d, fun x u h => ?_, s0.f, s0.g⟩⟩
  · show upd w.H a o b = some u
    rw [upd_ne fun y => by rw [y, hF] at z; cases z]
    exact Re.sub b u z
  · have h := Re.slot i s hs
    cases s with
    | no => exact h
    | val d => exact h
    | own ds =>
      obtain ⟨b, e1, r⟩ := h
      exact ⟨b, e1, r.mono (Same.refl _) fun x hx => upd_ne (ne x ⟨_, hx⟩)⟩
    | lea ds =>
      obtain ⟨e1, b, vs, e2, q, r, z⟩ := h
      exact ⟨e1, b, vs, e2, by show upd w.H a o b = _; rw [upd_ne (nl b (by show w.lf b ≠ none; rw [z]; exact fun y => nomatch y))]; exact q, r, z⟩
    | lnk k => exact h
  · obtain ⟨b, eb, h⟩ := Re.par k p hp
    refine ⟨b, eb, ?_⟩
    cases p with
    | own ds =>
      have r : Own S w.F w.H b ds (w.fp (.p k)) := h
      exact Own.mono (S := S) (Same.refl _) (fun x hx => upd_ne (ne x ⟨_, hx⟩)) r
    | lea ds =>
      obtain ⟨e1, vs, q, r, z⟩ := h
      exact ⟨e1, vs, by show upd w.H a o b = _; rw [upd_ne (nl b (by show w.lf b ≠ none; rw [z]; exact fun y => nomatch y))]; exact q, r, z⟩
    | frz ds => exact h
  · obtain ⟨u, hu⟩ := Re.leh x z
    exact ⟨u, by show upd w.H a o x = some u; rw [upd_ne (nl x z)]; exact hu⟩
  · show upd w.H a o x = some u
    rw [upd_ne (ne_of_none h h0)]
    exact s0.b x u h n
  · obtain ⟨u', h'⟩ := s0.e x u h
    exact ⟨u', by show upd w.H a o x = some u'; rw [upd_ne (ne_of_none h h0)]; exact h'⟩
end
end Fp
/-! FpComp2: list comprehensions: the rule. -/
namespace Fp
open PySem PySem.Spec PyProof.Rows L2
/-- no error at all -/
abbrev W0 : WX := fun _ _ _ _ => False
theorem takes0 (X : L2.Cx) : Takes X W0 := fun u s' x => by
  obtain ⟨_, _, _, _, _, _, _, _, _, _, _, _, _, _, _, _, h⟩ := x
  exact h.elim
section
variable {S : Se} {W : WX} {σ σ2 : L2.St} {e e' e1 e2 : Env} {w w' w0 w1 w2 : Wo} {v v1 v2 : V} {r x y : Rv} {q q1 q2 : List Addr} {l : Fp.Loc} {d : D} {α β : Type}
theorem bind_inv {m : Fp.R α} {k : α → Env → Fp.R β} {b : β} (h : m.bind k = .ok b e') : ∃ a e, m = .ok a e ∧ k a e = .ok b e' := by
  cases m with
  | ok a e => exact ⟨a, e, rfl, h⟩
  | ex _ _ _ => cases h
  | bad => cases h
theorem noex_inv {m : Fp.R α} {b : α} (h : m.noex = .ok b e') : m = .ok b e' := by
  cases m with
  | ok a e => exact h
  | ex _ _ _ => cases h
  | bad => cases h
theorem compF_nx {t : Tg} {c : Env → Fp.R Bool} {ex : Env → Fp.R Rv} {own : List Nat} {s : String} {d' : D} : compF t c ex own d e ≠ .ex s d' e' := by
  unfold compF
  split
  · rename_i e1 _
    generalize ((c e1).bind fun b e => if b then (ex e).bind fun r e => (e.item r).bind fun y e => Fp.R.ok (some y) ⟨wipeS e.sl own, e.ps⟩ else .ok none ⟨wipeS e.sl own, e.ps⟩) = m
    cases m <;> exact fun z => by cases z
  · exact fun z => by cases z
theorem compL_nx {f : D → Env → Fp.R (Option D)} (hf : ∀ d e s d' e', f d e ≠ .ex s d' e') {s : String} {d' : D} : ∀ {ds : List D} {e e' : Env}, compL f ds e ≠ .ex s d' e'
  | [], e, e', h => by cases h
  | d :: ds, e, e', h => by
    unfold compL at h
    cases h1 : f d e with
    | bad => rw [h1] at h; cases h
    | ex a b c => exact hf _ _ _ _ _ h1
    | ok o e1 =>
      rw [h1, Fp.R.bind_ok] at h
      cases h2 : compL f ds e1 with
      | bad => rw [h2] at h; cases h
      | ex a b c => exact compL_nx hf h2
      | ok r e2 => rw [h2] at h; cases h
end
section
variable {X : L2.Cx} {S : Se} {W : WX} {elt tg iter : Expr} {ifs : List Expr} {scope : Scope} {own : List (Str × Nat)} {pos : Pos} {es : Env → Fp.R (List D × List (Option Fp.Loc))} {ct : Env → Fp.R Bool} {ex : Env → Fp.R Rv} {t : Tg}
/-- the comprehension as a reading -/
theorem comp_core (htS : ∀ j ∈ t.slots, j ∈ own.map (·.2)) {σ : L2.St} {H : Hp} {Q : VK}
    (h : tE S W (fun e => (es e).bind fun p e => if clearS e.sl (own.map (·.2)) then (compL (compF t ct ex (own.map (·.2))) p.1 ⟨wipeS e.sl (own.map (·.2)), e.ps⟩).bind fun ys e' => if ys.length ≤ LIM then .ok (.fresh ys) (Env.unlease ⟨backS e.sl e'.sl (own.map (·.2)), e'.ps⟩ p.2) else .bad else .bad) σ H Q) :
    tLc (iS S W es) (gT S t) (tT S W0 ct) (tE S W0 ex) (own.map (·.2)) σ H Q := by
  generalize own.map (·.2) = ow at *
  obtain ⟨e0, w0, hw, R0, g⟩ := h
  subst hw
  refine ⟨e0, w0, rfl, R0, ?_⟩
  have g : Good S W σ w0 ((es e0).bind _) (postR S σ w0 Q) := g
  refine g.bind.mono fun p e1 w1 s1 R1 g J sn ls L hD => ?_
  obtain ⟨items, lss⟩ := p
  have g : Good S W σ w0 (if clearS e1.sl ow then (compL (compF t ct ex ow) items ⟨wipeS e1.sl ow, e1.ps⟩).bind fun ys e' => if ys.length ≤ LIM then .ok (.fresh ys) (Env.unlease ⟨backS e1.sl e'.sl ow, e'.ps⟩ lss) else .bad else .bad) (postR S σ w0 Q) := g
  split at g
  case isFalse => exact g.elim
  rename_i hclr
  obtain ⟨rr, ee, hcomp⟩ : ∃ rr ee, compL (compF t ct ex ow) items ⟨wipeS e1.sl ow, e1.ps⟩ = .ok rr ee := by
    cases hc : compL (compF t ct ex ow) items ⟨wipeS e1.sl ow, e1.ps⟩ with
    | ok r e => exact ⟨r, e, rfl⟩
    | ex a b c => exact absurd hc (compL_nx fun d e s d' e' => compF_nx)
    | bad => rw [hc] at g; exact g.elim
  rw [hcomp, Fp.R.bind_ok] at g
  split at g
  case isFalse => exact g.elim
  rename_i hlen
  have D0 : w0.H L = none := by
    cases z : w0.H L with
    | none => rfl
    | some o =>
      obtain ⟨o', h'⟩ := s1.e L o z
      rw [hD] at h'; cases h'
  have snX := sn
  -- the invariant
  refine ⟨fun i m H => m = items.length - i ∧ i ≤ items.length ∧ ∃ (e : Env) (w : Wo) (ys r : List D) (q : List Addr), w.H = H ∧ Rep S (wipe σ ow) e w ∧ Step w1 w ∧ RvRep S σ w (.ref L) (.fresh ys) q ∧ New w0 q ∧ compL (compF t ct ex ow) (items.drop i) e = .ok r ee ∧ ys ++ r = rr, ⟨items.length, rfl, Nat.zero_le _, ?_⟩, ?_⟩
  · -- the beginning
    have Rw := wipe_clear R1 hclr
    have off : w1.F L = none ∧ ¬ w1.has L ∧ ¬ w1.le L := ⟨same_none R1.sub hD, R1.nofp hD, fun z => by obtain ⟨o, ho⟩ := R1.leh L z; rw [hD] at ho; cases ho⟩
    obtain ⟨Rn, sn2⟩ := held_write Rw (Step.refl w1) (o := .lst []) off.1 off.2.1 off.2.2 hD
    refine ⟨_, ⟨w1.F, upd w1.H L (.lst []), w1.fp, w1.lf⟩, [], rr, [L], rfl, Rn, sn2, ⟨L, rfl, ⟨[], [], upd_same, rfl, rfl, rfl⟩, by simp, fun x hx => by rw [List.mem_singleton.mp hx]; exact off⟩, (fun x hx o ho => by rw [List.mem_singleton.mp hx, D0] at ho; cases ho), hcomp, rfl⟩
  · rintro i m H ⟨rfl, hi, e, w, ys, r, q, rfl, Re, s, hr, nw, hc, hys⟩
    by_cases hlt : i < items.length
    · -- a turn
      obtain ⟨d, hd⟩ := get_some hlt
      have hdrop : items.drop i = d :: items.drop (i + 1) := by
        rw [List.drop_eq_getElem_cons hlt]
        congr 1
        rw [List.getElem?_eq_getElem hlt] at hd
        exact Option.some.inj hd
      rw [hdrop] at hc
      unfold compL at hc
      obtain ⟨o, e2, hf, hca⟩ := bind_inv hc
      obtain ⟨r2, e3, hcb, he⟩ := bind_inv hca
      clear hc hca
      injection he with he1 he2
      subst he2
      refine .inr ⟨sn.go i w s Re.sub hlt, fun H => ∃ (e : Env) (w : Wo) (ys r : List D) (q : List Addr), w.H = H ∧ Rep S (wipe σ ow) e w ∧ Step w1 w ∧ RvRep S σ w (.ref L) (.fresh ys) q ∧ New w0 q ∧ compL (compF t ct ex ow) (items.drop (i + 1)) e = .ok r e3 ∧ ys ++ r = rr, fun H' h' => ⟨items.length - (i + 1), by omega, rfl, hlt, h'⟩, fun x H' hy => ?_⟩
      obtain ⟨wy, rfl, sy, Ry, dx⟩ := sn.yld i w _ e x H' d s Re hd hy
      have hry := hr.step sy
      unfold compF at hf
      split at hf
      case h_2 => cases hf
      rename_i eb hb
      have hf := noex_inv hf
      obtain ⟨b, ec, hct, hf⟩ := bind_inv hf
      refine ⟨e, wy, d, eb, rfl, Ry, dx, hb, fun σ2 wt st hH Rt ag ln => ⟨wipe_eq (σ := σ) htS ag ln, eb, wt, hH, Rt, ?_⟩⟩
      rw [hct]
      intro wc sc Rc
      have hrc := (hry.step st).step sc
      have s1c := ((s.trans sy).trans st).trans sc
      have fin : ∀ {e4 : Env} {w4 : Wo} {ys4 : List D} {q4 : List Addr}, Rep S σ2 e4 w4 → Step w1 w4 → RvRep S σ w4 (.ref L) (.fresh ys4) q4 → New w0 q4 → (⟨wipeS e4.sl ow, e4.ps⟩ : Env) = e2 → ys4 ++ r2 = rr →
          ∃ (e : Env) (w : Wo) (ys r : List D) (q : List Addr), w.H = w4.H ∧ Rep S (wipe σ ow) e w ∧ Step w1 w ∧ RvRep S σ w (.ref L) (.fresh ys) q ∧ New w0 q ∧ compL (compF t ct ex ow) (items.drop (i + 1)) e = .ok r e3 ∧ ys ++ r = rr := fun {e4 w4 ys4 q4} R4 s4 h4 n4 he4 hy4 => by
        have lenE : e4.sl.length = e1.sl.length := by rw [R4.len, ln, wipe_length, R1.len]
        obtain ⟨w5, d5, R5⟩ := wipe_any R4 (own := ow) fun j hj => by
          obtain ⟨s, hs, _⟩ := clear_mem hclr j hj
          rw [lenE]
          exact (List.getElem?_eq_some_iff.mp hs).1
        rw [wipe_eq (σ := σ) htS ag ln, he4] at R5
        exact ⟨e2, w5, ys4, r2, q4, d5.H, R5, d5.step s4, d5.rv h4, n4, hcb, hy4⟩
      cases b with
      | false =>
        simp only [Bool.false_eq_true, if_false] at hf ⊢
        injection hf with hf1 hf2
        subst hf1
        simp only at he1
        exact fin Rc s1c hrc nw hf2 (by rw [he1]; exact hys)
      | true =>
        simp only [if_true] at hf ⊢
        obtain ⟨rv, ed, hex, hf⟩ := bind_inv hf
        obtain ⟨yv, ei, hit, hf⟩ := bind_inv hf
        injection hf with hf1 hf2
        subst hf1
        simp only at he1
        refine ⟨ec, wc, rfl, Rc, ?_⟩
        rw [hex]
        intro w4 s4 R4 yy q4 hr4 n4
        have hrD := hrc.step s4
        obtain ⟨w5, g5, R5, G5, oi, sub5, nd5, off5⟩ := item_ok R4 hr4 hit
        have ap : ∀ z ∈ q, z ∉ q4 := apart (v2 := yy) (y := rv) hrc n4
        have hr5 := hrD.gh G5 ap
        obtain ⟨aD, eD, ⟨vs, gD, hvs, eq, os⟩, ndq, offq⟩ := hr5
        cases eD
        have aq : L ∈ q := by rw [eq]; exact List.mem_cons_self
        obtain ⟨f1, f2, f3⟩ := offq L aq
        have lenys : vs.length = ys.length := os.len.symm
        have hlim : ys.length < LIM := by
          have : (ys ++ r).length ≤ LIM := by rw [hys]; exact hlen
          rw [← he1] at this
          simp at this
          omega
        refine ⟨vs, by rw [← G5.h]; exact hvs, by rw [lenys, ← LIM_eq]; exact hlim, ?_⟩
        rw [← G5.h]
        have hD1 : w1.H L = none := hD
        have s15 : Step w1 w5 := (s1c.trans s4).gh G5 fun x hx o ho => by
          have := n4 x hx
          cases hz : wc.H x with
          | none =>
            obtain ⟨o', h'⟩ := s1c.e x o ho
            rw [hz] at h'; cases h'
          | some u =>
            have hh := this u hz
            exact Classical.not_not.mp fun n => s1c.c x o ho n hh
        obtain ⟨R6, s6⟩ := held_write R5 s15 (o := .lst (vs ++ [yy])) f1 f2 f3 hD1
        have Dg : L ∉ gD := by rw [eq] at ndq; exact (List.nodup_cons.mp ndq).1
        have Dg5 : L ∉ g5 := fun z => ap L aq (sub5 L z)
        have dis : ∀ z ∈ gD, z ∉ g5 := fun z hz hz5 => ap z (by rw [eq]; exact List.mem_cons_of_mem _ hz) (sub5 z hz5)
        have o6 : OwnIs S w5.F (upd w5.H L (.lst (vs ++ [yy]))) (ys ++ [yv]) (vs ++ [yy]) (gD ++ g5) := by
          have z := os.app (es := [yv]) (ws := [yy]) (g := g5) ⟨yy, [], g5, [], rfl, (List.append_nil _).symm, oi, rfl, rfl⟩
          exact z.mono (Same.refl _) fun x hx => upd_ne fun y => by
            rw [y] at hx
            exact (List.mem_append.mp hx).elim Dg Dg5
        refine fin R6 s6 (q4 := L :: (gD ++ g5)) ⟨L, rfl, ⟨vs ++ [yy], gD ++ g5, upd_same, rfl, o6⟩, ?_, fun x hx => ?_⟩ (fun x hx => ?_) hf2 (by rw [List.append_assoc]; show ys ++ (yv :: r2) = rr; rw [he1]; exact hys)
        · refine List.nodup_cons.mpr ⟨fun z => (List.mem_append.mp z).elim Dg Dg5, List.nodup_append.mpr ⟨?_, nd5, fun x hx y hy z => dis x hx (z ▸ hy)⟩⟩
          rw [eq] at ndq
          exact (List.nodup_cons.mp ndq).2
        · rcases List.mem_cons.mp hx with z | hx
          · rw [z]; exact ⟨f1, f2, f3⟩
          · rcases List.mem_append.mp hx with hx | hx
            · exact offq x (by rw [eq]; exact List.mem_cons_of_mem _ hx)
            · exact off5 x hx
        · have nq4 : New w0 q4 := n4.step (s1.trans s1c)
          rcases List.mem_cons.mp hx with z | hx
          · rw [z]; exact nw L aq
          · rcases List.mem_append.mp hx with hx | hx
            · exact nw x (by rw [eq]; exact List.mem_cons_of_mem _ hx)
            · exact nq4 x (sub5 x hx)
    · -- the end
      have ei : i = items.length := by omega
      subst ei
      rw [List.drop_length] at hc
      injection hc with hc1 hc2
      subst hc1 hc2
      rw [List.append_nil] at hys
      subst hys
      refine .inl ⟨sn.stop _ w s Re.sub (Nat.le_refl _), ?_⟩
      have s0w := s1.trans s
      have hl2 : e1.sl.length = e.sl.length := by rw [R1.len, Re.len, wipe_length]
      obtain ⟨w3, d3, R3⟩ := back_rep R1 s.a Re hl2 hclr
      rw [backV_wipe] at R3
      have ls3 := ls.step s
      obtain ⟨w4, s4, R4, hH4, hF4, hh4, hl4⟩ := unlease_ok (ls := lss) (d3.step s0w) (d3.step s0w) R3 fun l ds hl hat => by
        obtain ⟨a, h1, h2, h3, h4, h5, h6, vs, h7⟩ := ls3 l hl
        exact ⟨a, h1, by rw [d3.lf]; exact h2, by rw [d3.F]; exact h3, fun z => h4 (d3.has a z), h5, h6⟩
      have hr3 := d3.rv hr
      have e4 : w4.H = w.H := hH4.trans d3.H
      rw [← e4]
      refine g w4 s4 R4 _ q (hr3.keep (by rw [hF4]; exact Same.refl _) fun x hx => ?_) nw
      obtain ⟨z1, z2, z3⟩ := hr3.off x hx
      exact ⟨by rw [hH4], by rw [hF4]; exact z1, fun z => (hh4 x z).elim z2 z3, fun z => z3 (hl4 x z)⟩
theorem s_comp (hc : X.calm = true) (hN : X.N.Nodup) (hi : PI X tg iter (iS S W es)) (ok : BlkOk X.N X.env.scope scope own) (htS : ∀ j ∈ t.slots, j ∈ own.map (·.2))
    (hg : ∀ (s : Shared) (H : Hp) (C : Addr) (cl : List (Str × Addr)) (fp : List Addr), PG (X.blk s H scope (compEnvC scope cl C X.env) fp) tg (gT S t)) (ht : ∀ (s : Shared) (H : Hp) (C : Addr) (cl : List (Str × Addr)) (fp : List Addr), PTs (X.blk s H scope (compEnvC scope cl C X.env) fp) ifs (tT S W0 ct))
    (he : ∀ (s : Shared) (H : Hp) (C : Addr) (cl : List (Str × Addr)) (fp : List Addr), PE (X.blk s H scope (compEnvC scope cl C X.env) fp) elt (tE S W0 ex)) (hs : ∀ x, foldedSetIterable iter X.env x = pure x) :
    PE X (.ListComp elt [⟨tg, iter, ifs, 0⟩] scope pos) (tE S W fun e => (es e).bind fun p e => if clearS e.sl (own.map (·.2)) then (compL (compF t ct ex (own.map (·.2))) p.1 ⟨wipeS e.sl (own.map (·.2)), e.ps⟩).bind fun ys e' => if ys.length ≤ LIM then .ok (.fresh ys) (Env.unlease ⟨backS e.sl e'.sl (own.map (·.2)), e'.ps⟩ p.2) else .bad else .bad) :=
  PE.imp (pe_lc hc hN hi ok hg ht he hs) fun σ H Q h => comp_core htS h
theorem PTs.imp {X : L2.Cx} {cs : List Expr} {t t' : TT} (h : PTs X cs t) (k : ∀ σ H Q, t' σ H Q → t σ H Q) : PTs X cs t' := ⟨fun pins s σ H Q I z => h.run pins s σ H Q I (k σ H Q z)⟩
theorem ts_nil : PTs X [] (tT S W fun e => .ok true e) := PTs.imp pts_nil fun σ H Q ⟨e, w, hw, R, g⟩ => by
  subst hw
  exact g w (Step.refl w) R
end
end Fp
/-! FpStmt: statements. -/
namespace Fp
open PySem PySem.Spec PyProof.Rows L2
/-- what a statement is to reach -/
def GS (S : Se) (W : WX) (w0 : Wo) (m : SR) (E : Ends) : Prop :=
  match m with
  | .nx e => ∀ σ w, Step w0 w → Rep S σ e w → E.nx σ w.H
  | .bk e => ∀ σ w, Step w0 w → Rep S σ e w → E.bk σ w.H
  | .ct e => ∀ σ w, Step w0 w → Rep S σ e w → E.ct σ w.H
  | .ret r e => ∀ σ w v q, Step w0 w → Rep S σ e w → RvRep S σ w v r q → New w0 q → E.rt v w.H
  | .ex c d e => ∀ σ C dx w u, S.cl c = some C → Step w0 w → Rep S σ e w → w.F dx = some (.xd [(("value" : Str), u)]) → Dat S w.F d u → W (.ref C) (some dx) σ w.H
  | .bad => False
def tSm (S : Se) (W : WX) (ev : Env → SR) : TS := fun E σ H => ∃ e w, w.H = H ∧ Rep S σ e w ∧ GS S W w (ev e) E
section
variable {S : Se} {W : WX} {σ σ2 : L2.St} {e e' e1 e2 : Env} {w w' w0 w1 w2 : Wo} {v v1 v2 : V} {r x y : Rv} {q q1 q2 : List Addr} {l : Fp.Loc} {d : D} {α β : Type} {E E' : Ends}
theorem GS.base (s : Step w0 w1) {m : SR} (g : GS S W w0 m E) : GS S W w1 m E := by
  cases m with
  | nx e => exact fun σ w t => g σ w (s.trans t)
  | bk e => exact fun σ w t => g σ w (s.trans t)
  | ct e => exact fun σ w t => g σ w (s.trans t)
  | ret r e => exact fun σ w v q t R h n => g σ w v q (s.trans t) R h (n.step s)
  | ex c d e => exact fun σ C dx w u hc t => g σ C dx w u hc (s.trans t)
  | bad => exact g
theorem GS.st {m : Fp.R α} {k : α → Env → SR} (g : GS S W w0 (m.st k) E) : Good S W σ w0 m fun a e _ => GS S W w0 (k a e) E := by
  cases m with
  | ok a e => exact fun w s R => g
  | ex c d e => exact g σ
  | bad => exact g
/-- an expression, then the rest -/
theorem tE.st {ev : Env → Fp.R Rv} {k : Rv → Env → SR} {Q : VK} {H : Hp} (hw : w.H = H) (R : Rep S σ e w) (g : GS S W w ((ev e).st k) E)
    (h : ∀ v r q e w', Step w w' → Rep S σ e w' → RvRep S σ w' v r q → New w q → GS S W w (k r e) E → Q v w'.H) : tE S W ev σ H Q :=
  ⟨e, w, hw, R, g.st.mono fun r e' w' s R' g' v q hr n => h v r q e' w' s R' hr n g'⟩
theorem tT.st {ev : Env → Fp.R Bool} {k : Bool → Env → SR} {Q : Bool → Hp → Prop} {H : Hp} (hw : w.H = H) (R : Rep S σ e w) (g : GS S W w ((ev e).st k) E)
    (h : ∀ b e w', Step w w' → Rep S σ e w' → GS S W w (k b e) E → Q b w'.H) : tT S W ev σ H Q :=
  ⟨e, w, hw, R, g.st.mono fun r e' w' s R' g' => h r e' w' s R' g'⟩
theorem tA.st {ev : Env → Fp.R (List Rv)} {k : List Rv → Env → SR} {Q : List V → Hp → Prop} {H : Hp} (hw : w.H = H) (R : Rep S σ e w) (g : GS S W w ((ev e).st k) E)
    (h : ∀ vs rs q e w', Step w w' → Rep S σ e w' → RvReps S σ w' vs rs q → New w q → q.Nodup → GS S W w (k rs e) E → Q vs w'.H) : tA S W ev σ H Q :=
  ⟨e, w, hw, R, g.st.mono fun rs e' w' s R' g' vs q hr n nd => h vs rs q e' w' s R' hr n nd g'⟩
/-- further on in one expression after another -/
theorem tE.st2 {ev : Env → Fp.R Rv} {k : Rv → Env → SR} {Q : VK} (s0 : Step w0 w) (R : Rep S σ e w) (g : GS S W w0 ((ev e).st k) E)
    (h : ∀ v r q e w', Step w w' → Step w0 w' → Rep S σ e w' → RvRep S σ w' v r q → New w0 q → New w q → GS S W w0 (k r e) E → Q v w'.H) : tE S W ev σ w.H Q :=
  ⟨e, w, rfl, R, (g.st.base s0).mono fun r e' w' s R' g' v q hr n => h v r q e' w' s g'.1 R' hr (n.step s0) n g'.2⟩

theorem tT.st2 {ev : Env → Fp.R Bool} {k : Bool → Env → SR} {Q : Bool → Hp → Prop} (s0 : Step w0 w) (R : Rep S σ e w) (g : GS S W w0 ((ev e).st k) E)
    (h : ∀ b e w', Step w w' → Step w0 w' → Rep S σ e w' → GS S W w0 (k b e) E → Q b w'.H) : tT S W ev σ w.H Q :=
  ⟨e, w, rfl, R, (g.st.base s0).mono fun b e' w' s R' g' => h b e' w' s g'.1 R' g'.2⟩
/-- a turn of a loop -/
theorem GS.turn {m : SR} {k : Env → SR} {N : L2.St → Hp → Prop} (s0 : Step w0 w) (g : GS S W w0 (m.turn k) E) (h : ∀ σ e w', Step w w' → Rep S σ e w' → GS S W w0 (k e) E → N σ w'.H) : GS S W w m { E with nx := N, ct := N, bk := E.nx } := by
  cases m with
  | nx e => exact fun σ w' s R => h σ e w' s R g
  | ct e => exact fun σ w' s R => h σ e w' s R g
  | bk e => exact fun σ w' s R => g σ w' (s0.trans s) R
  | ret r e => exact fun σ w' v q s R hr n => g σ w' v q (s0.trans s) R hr (n.step s0)
  | ex c d e => exact fun σ C dx w' u hc s => g σ C dx w' u hc (s0.trans s)
  | bad => exact g
/-! ### several names at once -/
/-- a slot's coming content -/
def SlNew (S : Se) (w : Wo) (s : Sl) (v : V) (g : List Addr) : Prop := (∃ d, s = .val d ∧ g = [] ∧ Dat S w.F d v) ∨ ∃ ds a, s = .own ds ∧ v = .ref a ∧ Own S w.F w.H a ds g ∧ g.Nodup ∧ Off w g
theorem SlNew.gh (G : Gh w w' q) {s : Sl} {g : List Addr} (d : ∀ x ∈ g, x ∉ q) (h : SlNew S w s v g) : SlNew S w' s v g := by
  rcases h with ⟨d0, e1, e2, h⟩ | ⟨ds, a, e1, e2, o, n, off⟩
  · exact .inl ⟨d0, e1, e2, Dat.mono G.a _ _ h⟩
  · exact .inr ⟨ds, a, e1, e2, o.mono G.a (fun x _ => by rw [G.h]), n, off.gh G d⟩
theorem SlNew.set {s : Sl} {g g' : List Addr} {i : Fp.Loc} (d : ∀ x ∈ g, x ∉ g') (h : SlNew S w s v g) : SlNew S ⟨w.F, w.H, updL w.fp i g', w.lf⟩ s v g := by
  rcases h with h | ⟨ds, a, e1, e2, o, n, off⟩
  · exact .inl h
  · exact .inr ⟨ds, a, e1, e2, o, n, fun x hx => ⟨(off x hx).1, fun z => (updL_has z).elim (d x hx) (off x hx).2.1, (off x hx).2.2⟩⟩
theorem SlNew.put (Re : Rep S σ e w) {s : Sl} {g : List Addr} (h : SlNew S w s v g) {i : Nat} (hi : i < e.sl.length) : Rep S (σ.set i (some v)) ⟨e.sl.set i s, e.ps⟩ ⟨w.F, w.H, updL w.fp (.s i) g, w.lf⟩ := by
  rcases h with ⟨d, rfl, rfl, h⟩ | ⟨ds, a, rfl, rfl, o, n, off⟩
  · exact Re.setVal hi h
  · exact Re.setSl hi ⟨a, rfl, o⟩ n off
theorem ofRv_new (Re : Rep S σ e w) (r1 : RvRep S σ w v x q) {s : Sl} (h : Sl.ofRv e x = .ok s e') : ∃ w' g, Rep S σ e' w' ∧ Gh w w' q ∧ (∀ y ∈ g, y ∈ q) ∧ SlNew S w' s v g := by
  cases x with
  | val d => cases h; exact ⟨w, [], Re, (Gh.refl w).mono (by simp), by simp, .inl ⟨d, rfl, rfl, r1.2⟩⟩
  | fresh ds =>
    cases h
    obtain ⟨a, rfl, o, nd, off⟩ := r1
    exact ⟨w, q, Re, (Gh.refl w).mono (by simp), fun y hy => hy, .inr ⟨ds, a, rfl, rfl, o, nd, off⟩⟩
  | loc l =>
    unfold Sl.ofRv at h
    simp only at h
    rcases asVal_nx (e := e) (x := .loc l) with ⟨d, e1, h1⟩ | h1
    · rw [h1] at h
      cases h
      obtain ⟨w', R', G, dd⟩ := asVal_ok Re r1 h1
      exact ⟨w', [], R', G, by simp, .inl ⟨d, rfl, rfl, dd⟩⟩
    · rw [h1] at h; cases h
theorem ofRv_nx {e : Env} {x : Rv} : (∃ s e', Sl.ofRv e x = .ok s e') ∨ Sl.ofRv e x = .bad := by
  cases x with
  | val d => exact .inl ⟨_, _, rfl⟩
  | fresh ds => exact .inl ⟨_, _, rfl⟩
  | loc l =>
    unfold Sl.ofRv
    simp only
    rcases asVal_nx (e := e) (x := .loc l) with ⟨d, e1, h1⟩ | h1
    · rw [h1]; exact .inl ⟨_, _, rfl⟩
    · rw [h1]; exact .inr rfl
theorem bindPar_nx : ∀ {is : List Nat} {rs : List Rv} {e : Env}, (∃ e', bindPar is rs e = .ok () e') ∨ bindPar is rs e = .bad
  | [], [], e => .inl ⟨_, rfl⟩
  | [], _ :: _, e => .inr rfl
  | _ :: _, [], e => .inr rfl
  | i :: is, r :: rs, e => by
    unfold bindPar
    rcases ofRv_nx (e := e) (x := r) with ⟨s, e1, h1⟩ | h1
    · rw [h1, Fp.R.bind_ok]
      rcases bindPar_nx (is := is) (rs := rs) (e := e1) with ⟨e2, h2⟩ | h2
      · rw [h2, Fp.R.bind_ok]
        split
        · exact .inl ⟨_, rfl⟩
        · exact .inr rfl
      · rw [h2]; exact .inr rfl
    · rw [h1]; exact .inr rfl
def setAll (σ : L2.St) : List Nat → List V → L2.St
  | i :: is, v :: vs => (setAll σ is vs).set i (some v)
  | _, _ => σ
theorem bindPar_ok : ∀ {is : List Nat} {rs : List Rv} {vs : List V} {q : List Addr} {e e' : Env} {w : Wo}, Rep S σ e w → RvReps S σ w vs rs q → q.Nodup → bindPar is rs e = .ok () e' →
    ∃ w', w'.H = w.H ∧ Rep S (setAll σ is vs) e' w' ∧ (∀ w0, Step w0 w → New w0 q → Step w0 w') ∧ ∀ s v g, SlNew S w s v g → (∀ x ∈ g, x ∉ q) → SlNew S w' s v g
  | [], [], vs, q, e, e', w, Re, r, nd, h => by
    cases h
    obtain ⟨rfl, rfl⟩ := r
    exact ⟨w, rfl, Re, fun _ s _ => s, fun _ _ _ h _ => h⟩
  | [], _ :: _, vs, q, e, e', w, Re, r, nd, h => by cases h
  | _ :: _, [], vs, q, e, e', w, Re, r, nd, h => by cases h
  | i :: is, x :: rs, vs, q, e, e', w, Re, r, nd, h => by
    obtain ⟨v, us, f, g, rfl, rfl, r1, r2⟩ := r
    have nd' := List.nodup_append.mp nd
    have dis : ∀ x ∈ g, x ∉ f := fun x hx hf => nd'.2.2 x hf x hx rfl
    unfold bindPar at h
    rcases ofRv_nx (e := e) (x := x) with ⟨s, e1, h1⟩ | h1
    · rw [h1, Fp.R.bind_ok] at h
      obtain ⟨w1, gs, R1, G1, sub, new⟩ := ofRv_new Re r1 h1
      rcases bindPar_nx (is := is) (rs := rs) (e := e1) with ⟨e2, h2⟩ | h2
      · rw [h2, Fp.R.bind_ok] at h
        split at h
        · rename_i hi
          cases h
          obtain ⟨w2, hH, R2, st, keep⟩ := bindPar_ok R1 (r2.gh G1 dis) nd'.2.1 h2
          have new2 := keep s v gs new fun x hx hg => dis x hg (sub x hx)
          refine ⟨⟨w2.F, w2.H, updL w2.fp (.s i) gs, w2.lf⟩, hH.trans G1.h, new2.put R2 hi, fun w0 s0 n0 => ?_, fun s' v' g' h' d' => ?_⟩
          · have s1 := s0.gh G1 fun x hx => n0 x (List.mem_append_left _ hx)
            exact (st w0 s1 fun x hx => n0 x (List.mem_append_right _ hx)).setSl (i := .s i) fun x hx => n0 x (List.mem_append_left _ (sub x hx))
          · refine (keep s' v' g' (h'.gh G1 fun x hx hf => d' x hx (List.mem_append_left _ hf)) fun x hx hg => d' x hx (List.mem_append_right _ hg)).set fun x hx hs => d' x hx (List.mem_append_left _ (sub x hs))
        · cases h
      · rw [h2] at h; cases h
    · rw [h1] at h; cases h
end
section
variable {X : L2.Cx} {S : Se} {W : WX} {a b c tg : Expr} {ea eb ec : Env → Fp.R Rv} {tc : Env → Fp.R Bool} {pos p p' pc pt : Pos} {es rest : List Expr} {eas : Env → Fp.R (List Rv)} {st : Stmt} {sts body orelse : List Stmt} {m n : Env → SR}
theorem PS.imp {st : Stmt} {t t' : TS} (h : PS X st t) (k : ∀ D σ H, t' D σ H → t D σ H) : PS X st t' := ⟨fun pins s σ H D I z => h.run pins s σ H D I (k D σ H z)⟩
theorem PSs.imp {st : List Stmt} {t t' : TS} (h : PSs X st t) (k : ∀ D σ H, t' D σ H → t D σ H) : PSs X st t' := ⟨fun pins s σ H D I z => h.run pins s σ H D I (k D σ H z)⟩
theorem st_nil : PSs X [] (tSm S W fun e => .nx e) := PSs.imp pss_nil fun D σ H ⟨e, w, hw, R, g⟩ => by
  subst hw
  exact g σ w (Step.refl w) R
theorem st_cons (h1 : PS X st (tSm S W m)) (h2 : PSs X sts (tSm S W n)) : PSs X (st :: sts) (tSm S W fun e => (m e).andThen n) :=
  PSs.imp (pss_cons h1 h2) fun D σ H ⟨e, w, hw, R, g⟩ => by
    refine ⟨e, w, hw, R, ?_⟩
    have g : GS S W w ((m e).andThen n) D := g
    cases hm : m e with
    | nx e1 =>
      rw [hm] at g
      exact fun σ w' s R' => ⟨e1, w', rfl, R', g.base s⟩
    | bk _ => rw [hm] at g; exact g
    | ct _ => rw [hm] at g; exact g
    | ret _ _ => rw [hm] at g; exact g
    | ex _ _ _ => rw [hm] at g; exact g
    | bad => rw [hm] at g; exact g
theorem st_nev : PS X st (tSm S W fun _ => .bad) := ⟨fun _ _ _ _ _ _ ⟨_, _, _, _, g⟩ => g.elim⟩
theorem st_pas : PS X (.Pass pos) (tSm S W fun e => .nx e) := PS.imp ps_pass fun D σ H ⟨e, w, hw, R, g⟩ => by
  subst hw
  exact g σ w (Step.refl w) R
theorem st_doc {x : Str} {j : Nat} : PS X (.Expr (.Constant (.str x) j p) pos) (tSm S W fun e => .nx e) := PS.imp ps_doc fun D σ H ⟨e, w, hw, R, g⟩ => by
  subst hw
  exact g σ w (Step.refl w) R
theorem st_brk : PS X (.Break pos) (tSm S W fun e => .bk e) := PS.imp ps_break fun D σ H ⟨e, w, hw, R, g⟩ => by
  subst hw
  exact g σ w (Step.refl w) R
theorem st_cnt : PS X (.Continue pos) (tSm S W fun e => .ct e) := PS.imp ps_continue fun D σ H ⟨e, w, hw, R, g⟩ => by
  subst hw
  exact g σ w (Step.refl w) R
theorem st_exp (ha : PE X a (tE S W ea)) (hs : swapsWith a none pos.line X.env = pure false) : PS X (.Expr a pos) (tSm S W fun e => (ea e).st fun _ e => .nx e) :=
  PS.imp (ps_expr ha hs) fun D σ H ⟨e, w, hw, R, g⟩ => tE.st hw R g fun v r q e w' s R' hr n g => g σ w' s R'
theorem st_ret (ha : PE X a (tE S W ea)) : PS X (.Return (some a) pos) (tSm S W fun e => (ea e).st fun r e => .ret r e) :=
  PS.imp (ps_ret ha) fun D σ H ⟨e, w, hw, R, g⟩ => tE.st hw R g fun v r q e w' s R' hr n g => g σ w' v q s R' hr n
theorem st_retn : PS X (.Return none pos) (tSm S W fun e => .ret (.val .non) e) := PS.imp ps_retN fun D σ H ⟨e, w, hw, R, g⟩ => by
  subst hw
  exact g σ w .non [] (Step.refl w) R ⟨rfl, rfl⟩ (New.nil _)
theorem st_if (hc : PT X c (tT S W tc)) (ha : PSs X sts (tSm S W m)) (hb : PSs X orelse (tSm S W n)) : PS X (.If c sts orelse pos) (tSm S W fun e => (tc e).st fun t e => if t then m e else n e) :=
  PS.imp (ps_if hc ha hb) fun D σ H ⟨e, w, hw, R, g⟩ => tT.st (Q := fun b H1 => if b = true then tSm S W m D σ H1 else tSm S W n D σ H1) hw R g fun t e w' s R' g => by
    cases t with
    | true => exact ⟨e, w', rfl, R', g.base s⟩
    | false => exact ⟨e, w', rfl, R', g.base s⟩
/-- name = .. -/
theorem set_core {i : Nat} {σ : L2.St} {e : Env} {w w0 : Wo} {v : V} {r : Rv} {q : List Addr} {D : Ends} (s : Step w0 w) (R : Rep S σ e w) (hr : RvRep S σ w v r q) (n : New w0 q) (g : GS S W w0 ((bindT (.nm i) r e).st fun _ e => .nx e) D) : D.nx (σ.set i (some v)) w.H := by
  unfold bindT at g
  simp only at g
  rcases ofRv_nx (e := e) (x := r) with ⟨sl, e1, h1⟩ | h1
  · rw [h1, Fp.R.bind_ok] at g
    obtain ⟨w1, gs, R1, G1, sub, new⟩ := ofRv_new R hr h1
    split at g
    · rename_i hi
      have := g _ _ ((s.gh G1 n).setSl (i := .s i) fun x hx => n x (sub x hx)) (new.put R1 hi)
      rw [← G1.h]
      exact this
    · exact g.elim
  · rw [h1] at g; exact g.elim
theorem st_set {i : Nat} {x : Str} (hN : X.N.Nodup) (hi : X.N[i]? = some x) (hx : L2.Loc X.env.scope x) (hf : X.fn x = true ∨ X.env.scope.names.lookup x = some .local) (ha : PE X a (tE S W ea)) (hs : swapsWith a (some (.Name x p')) pos.line X.env = pure false) :
    PS X (.Assign [.Name x p'] a pos) (tSm S W fun e => (ea e).st fun r e => (bindT (.nm i) r e).st fun _ e => .nx e) :=
  PS.imp (ps_set hN hi hx ha hs hf) fun D σ H ⟨e, w, hw, R, g⟩ => tE.st hw R g fun v r q e w' s R' hr n g => set_core s R' hr n g
/-- (a, b) = .. -/
theorem st_tup {ts : List Tg} {tgs : List Expr} {k : Nat} (hg : PG X (.Tuple tgs k pt) (gT S (.tp ts))) (ha : PE X a (tE S W ea)) (hs : swapsWithSole [.Tuple tgs k pt] a pos.line X.env = pure false) (hw : swappedStores [.Tuple tgs k pt] a X.env = pure none)
    (h1 : (assignEach [.Tuple tgs k pt] X.env).map (·.2) = [assign (.Tuple tgs k pt) X.env]) : PS X (.Assign [.Tuple tgs k pt] a pos) (tSm S W fun e => (ea e).st fun r e => (bindT (.tp ts) r e).st fun _ e => .nx e) :=
  PS.imp (ps_asg ha hg hs hw h1) fun D σ H ⟨e, w, hw, R, g⟩ => tE.st hw R g fun v r q e w' s R' hr n g => by
    unfold bindT at g
    simp only at g
    rcases asVal_nx (e := e) (x := r) with ⟨d, e1, h⟩ | h
    · rw [h, Fp.R.bind_ok] at g
      obtain ⟨w1, R1, G1, dd⟩ := asVal_ok R' hr h
      cases hb : bindD (.tp ts) d e1 with
      | none => rw [hb] at g; exact g.elim
      | some e2 =>
        rw [hb] at g
        rw [← G1.h]
        refine ⟨e1, w1, d, e2, rfl, R1, dd, hb, fun σ2 w2 s2 hH R2 _ _ => ?_⟩
        rw [← hH]
        exact g σ2 w2 ((s.gh G1 n).trans s2) R2
    · rw [h] at g; exact g.elim
/-- a, b = x, y -/
theorem par_core {is : List Nat} {σ : L2.St} {e : Env} {w w0 : Wo} {vs : List V} {rs : List Rv} {q : List Addr} {D : Ends} (s : Step w0 w) (R : Rep S σ e w) (hr : RvReps S σ w vs rs q) (n : New w0 q) (nd : q.Nodup) (g : GS S W w0 ((bindPar is rs e).st fun _ e => .nx e) D) :
    rs.length = is.length ∧ D.nx (setAll σ is vs) w.H := by
  have lenP : ∀ {is : List Nat} {rs : List Rv} {e e' : Env}, bindPar is rs e = .ok () e' → rs.length = is.length := by
    intro is
    induction is with
    | nil =>
      intro rs e e' h
      cases rs with
      | nil => rfl
      | cons _ _ => cases h
    | cons i is ih =>
      intro rs e e' h
      cases rs with
      | nil => cases h
      | cons r rs =>
        unfold bindPar at h
        obtain ⟨s, e1, _, h⟩ := bind_inv h
        obtain ⟨_, e2, h2, _⟩ := bind_inv h
        simp [ih h2]
  rcases bindPar_nx (is := is) (rs := rs) (e := e) with ⟨e1, h1⟩ | h1
  · rw [h1] at g
    obtain ⟨w1, hH, R1, st, _⟩ := bindPar_ok R hr nd h1
    refine ⟨lenP h1, ?_⟩
    rw [← hH]
    exact g _ w1 (st w0 s n) R1
  · rw [h1] at g; exact g.elim
theorem st_par2 {i j : Nat} {x y : Str} {px py : Pos} {kt k2 : Nat} {pt2 : Pos} (hc : X.calm = true) (hN : X.N.Nodup) (hi : X.N[i]? = some x) (hj : X.N[j]? = some y) (hij : i ≠ j)
    (hx : X.env.scope.names.lookup x = some .local) (hy : X.env.scope.names.lookup y = some .local) (ha : PA X [a, b] (tA S W eas))
    (hw : swappedStores [.Tuple [.Name x px, .Name y py] kt pt] (.Tuple [a, b] k2 pt2) X.env = pure (some [x, y])) (hs : swapsWithSole [.Tuple [.Name x px, .Name y py] kt pt] (.Tuple [a, b] k2 pt2) pos.line X.env = pure false) :
    PS X (.Assign [.Tuple [.Name x px, .Name y py] kt pt] (.Tuple [a, b] k2 pt2) pos) (tSm S W fun e => (eas e).st fun rs e => (bindPar [i, j] rs e).st fun _ e => .nx e) :=
  PS.imp (ps_par hc hN hi hj hij hx hy ha hw hs) fun D σ H ⟨e, w, hw, R, g⟩ => tA.st hw R g fun vs rs q e w' s R' hr n nd g => by
    obtain ⟨l, h⟩ := par_core s R' hr n nd g
    have l2 := hr.len
    match vs, l2, h with
    | [], l2, h => rw [l] at l2; cases l2
    | [_], l2, h => rw [l] at l2; cases l2
    | _ :: _ :: _ :: _, l2, h => rw [l] at l2; simp at l2
    | [v, u], l2, h => exact ⟨v, u, rfl, by rw [List.set_comm _ _ hij]; exact h⟩
theorem st_par3 {i j k : Nat} {x y z : Str} {px py pz : Pos} {kt k2 : Nat} {pt2 : Pos} (hc : X.calm = true) (hN : X.N.Nodup) (hi : X.N[i]? = some x) (hj : X.N[j]? = some y) (hk : X.N[k]? = some z) (hij : i ≠ j) (hik : i ≠ k) (hjk : j ≠ k)
    (hx : X.env.scope.names.lookup x = some .local) (hy : X.env.scope.names.lookup y = some .local) (hz : X.env.scope.names.lookup z = some .local) (ha : PA X [a, b, c] (tA S W eas))
    (hw : swappedStores [.Tuple [.Name x px, .Name y py, .Name z pz] kt pt] (.Tuple [a, b, c] k2 pt2) X.env = pure (some [x, y, z])) (hs : swapsWithSole [.Tuple [.Name x px, .Name y py, .Name z pz] kt pt] (.Tuple [a, b, c] k2 pt2) pos.line X.env = pure false) :
    PS X (.Assign [.Tuple [.Name x px, .Name y py, .Name z pz] kt pt] (.Tuple [a, b, c] k2 pt2) pos) (tSm S W fun e => (eas e).st fun rs e => (bindPar [i, j, k] rs e).st fun _ e => .nx e) :=
  PS.imp (ps_par3 hc hN hi hj hk hij hik hjk hx hy hz ha hw hs) fun D σ H ⟨e, w, hw, R, g⟩ => tA.st hw R g fun vs rs q e w' s R' hr n nd g => by
    obtain ⟨l, h⟩ := par_core s R' hr n nd g
    have l2 := hr.len
    match vs, l2, h with
    | [], l2, h => rw [l] at l2; cases l2
    | [_], l2, h => rw [l] at l2; cases l2
    | [_, _], l2, h => rw [l] at l2; cases l2
    | _ :: _ :: _ :: _ :: _, l2, h => rw [l] at l2; simp at l2
    | [v, u, t], l2, h =>
      refine ⟨v, u, t, rfl, ?_⟩
      have h : D.nx (((σ.set k (some t)).set j (some u)).set i (some v)) w'.H := h
      rw [List.set_comm (some u) (some v) (Ne.symm hij), List.set_comm (some t) (some v) (Ne.symm hik), List.set_comm (some t) (some u) (Ne.symm hjk)] at h
      exact h
/-! ### loops -/
theorem st_while (hp : PassesOwn (model X.prog X.w) X.A X.env X.xe) (hc : PT X c (tT S W tc)) (hb : PSs X body (tSm S W m)) : PS X (.While c body [] pos) (tSm S W fun e => whileE tc m e) :=
  PS.imp (ps_while hp hc hb) fun D σ H ⟨e, w, hw, R, g⟩ => by
    have g : GS S W w (whileE tc m e) D := g
    obtain ⟨k, hk⟩ := whileE_some (c := tc) (b := m) (e := e) fun z => by rw [z] at g; exact g
    rw [← hk] at g
    refine ⟨fun k σ H => ∃ e w', w'.H = H ∧ Rep S σ e w' ∧ Step w w' ∧ GS S W w (whileN tc m k e) D, ⟨k, e, w, hw, R, Step.refl w, g⟩, ?_⟩
    rintro k σ H ⟨e, w1, rfl, R1, s1, g⟩
    cases k with
    | zero => exact g.elim
    | succ k =>
      rw [whileN_succ] at g
      refine tT.st2 s1 R1 g fun t e w2 s2 s02 R2 g => ?_
      cases t with
      | false => exact g σ w2 s02 R2
      | true =>
        simp only [if_true] at g ⊢
        exact ⟨fun σ H => ∃ e w', w'.H = H ∧ Rep S σ e w' ∧ Step w w' ∧ GS S W w (whileN tc m k e) D, fun σ' H' h => ⟨k, Nat.lt_succ_self k, h⟩, e, w2, rfl, R2, g.turn s02 fun σ e w' s R' g' => ⟨e, w', rfl, R', s02.trans s, g'⟩⟩
theorem st_for {es : Env → Fp.R (List D × List (Option Fp.Loc))} {t : Tg} {it : Expr} (hp : PassesOwn (model X.prog X.w) X.A X.env X.xe) (hc : X.calm = true) (hi : PI X tg it (iS S W es)) (hg : PG X tg (gT S t)) (hb : PSs X body (tSm S W m)) (hs : ∀ x, foldedSetIterable it X.env x = pure x) :
    PS X (.For tg it body [] pos) (tSm S W fun e => (es e).st fun p e => forL (fun d e => match bindD t d e with
      | some e => m e
      | none => .bad) p.1 e) :=
  PS.imp (ps_for hp hc hi hg hb hs) fun D σ H ⟨e0, w0, hw, R0, g⟩ => by
    subst hw
    refine ⟨e0, w0, rfl, R0, ?_⟩
    have g : GS S W w0 ((es e0).st fun p e => forL (fun d e => match bindD t d e with
      | some e => m e
      | none => .bad) p.1 e) D := g
    refine g.st.mono fun p e1 w1 s1 R1 g J sn ls => ?_
    obtain ⟨items, lss⟩ := p
    refine ⟨fun i k σ H => k = items.length - i ∧ i ≤ items.length ∧ ∃ e w, w.H = H ∧ Rep S σ e w ∧ Step w1 w ∧ GS S W w0 (forL (fun d e => match bindD t d e with
      | some e => m e
      | none => .bad) (items.drop i) e) D, ⟨items.length, rfl, Nat.zero_le _, e1, w1, rfl, R1, Step.refl w1, g⟩, ?_⟩
    rintro i k σ H ⟨rfl, hi, e, w, rfl, Re, s, g⟩
    by_cases hlt : i < items.length
    · obtain ⟨d, hd⟩ := get_some hlt
      have hdrop : items.drop i = d :: items.drop (i + 1) := by
        rw [List.drop_eq_getElem_cons hlt]
        congr 1
        rw [List.getElem?_eq_getElem hlt] at hd
        exact Option.some.inj hd
      rw [hdrop] at g
      refine .inr ⟨sn.go i w s Re.sub hlt, fun σ H => ∃ e w, w.H = H ∧ Rep S σ e w ∧ Step w1 w ∧ GS S W w0 (forL (fun d e => match bindD t d e with
        | some e => m e
        | none => .bad) (items.drop (i + 1)) e) D, fun σ' H' h => ⟨items.length - (i + 1), by omega, rfl, hlt, h⟩, fun x H' hy => ?_⟩
      obtain ⟨wy, rfl, sy, Ry, dx⟩ := sn.yld i w _ e x H' d s Re hd hy
      unfold forL at g
      cases hb : bindD t d e with
      | none => rw [hb] at g; exact g.elim
      | some eb =>
        rw [hb] at g
        refine ⟨e, wy, d, eb, rfl, Ry, dx, hb, fun σ2 wt st hH Rt _ _ => ⟨eb, wt, hH, Rt, ?_⟩⟩
        have s1t := (s.trans sy).trans st
        exact g.turn (s1.trans s1t) fun σ e w' s' R' g' => ⟨e, w', rfl, R', s1t.trans s', g'⟩
    · have ei : i = items.length := by omega
      subst ei
      rw [List.drop_length] at g
      exact .inl ⟨sn.stop _ w s Re.sub (Nat.le_refl _), g σ w (s1.trans s) Re⟩
end
end Fp
/-! FpStmt2: stores into lists, +=, a comprehension on a name's own line. -/
namespace Fp
open PySem PySem.Spec PyProof.Rows L2
section
variable {S : Se} {W : WX} {σ σ2 : L2.St} {e e' e1 e2 : Env} {w w' w0 w1 w2 : Wo} {v v1 v2 : V} {r x y : Rv} {q q1 q2 : List Addr} {l : Fp.Loc} {d : D} {α β : Type} {E E' : Ends}
/-- an item is put in another's place -/
theorem OwnIs.put : ∀ {ds : List D} {vs : List V} {g gn : List Addr} {F H : Hp} {j : Nat} {d : D} {v : V}, OwnIs S F H ds vs g → g.Nodup → OwnI S F H d v gn → j < ds.length →
    ∃ g1 g2, OwnIs S F H (ds.set j d) (vs.set j v) (g1 ++ gn ++ g2) ∧ (∀ x ∈ g1, x ∈ g) ∧ (∀ x ∈ g2, x ∈ g) ∧ (g1 ++ g2).Nodup
  | [], _, _, _, _, _, _, _, _, _, _, _, h => by simp at h
  | x :: ds, vs, g, gn, F, H, 0, d, v, h, nd, o, _ => by
    obtain ⟨u, us, f, g', rfl, rfl, t, r⟩ := h
    exact ⟨[], g', ⟨v, us, gn, g', rfl, rfl, o, r⟩, fun _ h => by simp at h, fun y hy => List.mem_append_right _ hy, (List.nodup_append.mp nd).2.1⟩
  | x :: ds, vs, g, gn, F, H, j + 1, d, v, h, nd, o, hj => by
    obtain ⟨u, us, f, g', rfl, rfl, t, r⟩ := h
    have nd' := List.nodup_append.mp nd
    obtain ⟨g1, g2, r2, k1, k2, n2⟩ := OwnIs.put (j := j) r nd'.2.1 o (by simpa using hj)
    refine ⟨f ++ g1, g2, ⟨u, us.set j v, f, g1 ++ gn ++ g2, rfl, by simp, t, r2⟩, fun y hy => ?_, fun y hy => List.mem_append_right _ (k2 y hy), ?_⟩
    · rcases List.mem_append.mp hy with hy | hy
      · exact List.mem_append_left _ hy
      · exact List.mem_append_right _ (k1 y hy)
    · rw [List.append_assoc]
      refine List.nodup_append.mpr ⟨nd'.1, n2, fun a ha b hb z => ?_⟩
      rcases List.mem_append.mp hb with hb | hb
      · exact nd'.2.2 a ha b (k1 b hb) z
      · exact nd'.2.2 a ha b (k2 b hb) z
theorem setIx_ok (s0 : Step w0 w) (Re : Rep S σ e w) (r1 : ∀ l, x = .loc l → RvRep S σ w v1 (.loc l) []) (r2 : ∀ i, y = .val (.int i) → v2 = .int i) {gn : List Addr} (oi : OwnI S w.F w.H d v gn) (ndn : gn.Nodup) (off : Off w gn) (nw : New w0 gn) (h : setIx x y d e = .ok () e') :
    ∃ p xs k j w', v1 = .ref p ∧ v2 = .int k ∧ w.H p = some (.lst xs) ∧ ixN xs.length k = some j ∧ w'.H = upd w.H p (.lst (xs.set j v)) ∧ Step w0 w' ∧ Rep S σ e' w' := by
  unfold setIx at h
  split at h
  · rename_i l i
    split at h
    · rename_i ds hl
      cases hj : ixN ds.length i with
      | none => rw [hj] at h; cases h
      | some j =>
        rw [hj] at h
        injection h with _ h
        obtain ⟨a, vs, gg, q0, la, hfp, os, n2, hh, ag⟩ := Re.ownAt hl
        have hjl : j < ds.length := (ixN_seq hj).2.1
        obtain ⟨g1, g2, o2, k1, k2, n12⟩ := os.put n2 oi hjl
        have dis : ∀ z ∈ gn, z ∉ gg := fun z hz h => (off z hz).2.1 (hh z h)
        have n12' := List.nodup_append.mp n12
        obtain ⟨s2, R2⟩ := own_write (g' := g1 ++ gn ++ g2) (ds' := ds.set j d) (vs' := vs.set j v) Re s0 hl q0 la hfp o2
          (List.nodup_append.mpr ⟨List.nodup_append.mpr ⟨n12'.1, ndn, fun a ha b hb z => dis b hb (z ▸ k1 a ha)⟩, n12'.2.1, fun a ha b hb z => by
            rcases List.mem_append.mp ha with ha | ha
            · exact n12'.2.2 a ha b hb z
            · exact dis a ha (z ▸ k2 b hb)⟩)
          (fun z hz => by
            rcases List.mem_append.mp hz with hz | hz
            · rcases List.mem_append.mp hz with hz | hz
              · exact .inl (k1 z hz)
              · exact .inr (off z hz)
            · exact .inl (k2 z hz))
          (fun z hz => by
            rcases List.mem_append.mp hz with hz | hz
            · rcases List.mem_append.mp hz with hz | hz
              · exact s0.newHas hh z (k1 z hz)
              · exact nw z hz
            · exact s0.newHas hh z (k2 z hz))
        rw [h] at R2
        exact ⟨a, vs, i, j, _, rvLoc la (r1 _ rfl), r2 _ rfl, q0, by rw [← os.len]; exact hj, rfl, s2, R2⟩
    · cases h
  · cases h
theorem RvRep.toLoc (h : RvRep S σ w v x q) : ∀ l, x = .loc l → ∀ w', RvRep S σ w' v (.loc l) [] := fun l e w' => by
  subst e
  cases l with
  | s i => exact ⟨rfl, h.2⟩
  | p k => exact ⟨rfl, h.2⟩
theorem RvRep.toInt (h : RvRep S σ w v x q) : ∀ i, x = .val (.int i) → v = .int i := fun i e => by
  subst e
  exact h.2
theorem setIx_nx {x y : Rv} {d : D} {e : Env} : (∃ e', setIx x y d e = .ok () e') ∨ setIx x y d e = .bad := by
  unfold setIx
  split
  · split
    · split
      · exact .inl ⟨_, rfl⟩
      · exact .inr rfl
    · exact .inr rfl
  · exact .inr rfl
end
section
variable {X : L2.Cx} {S : Se} {W : WX} {a b c tg : Expr} {ea eb ec : Env → Fp.R Rv} {pos p p' pc pt : Pos}
/-- b[i] = x -/
theorem st_setI (ha : PE X a (tE S W ea)) (hb : PE X b (tE S W eb)) (hc : PE X c (tE S W ec)) (hs : swapsWithSole [.Subscript b c pt] a pos.line X.env = pure false) (hw : swappedStores [.Subscript b c pt] a X.env = pure none)
    (h1 : (assignEach [.Subscript b c pt] X.env).map (·.2) = [assign (.Subscript b c pt) X.env]) (h2 : ∀ v, assign (.Subscript b c pt) X.env v = (do
      let ov ← holding [v] (eval b X.env)
      let iv ← holding [v, ov] (eval c X.env)
      standAt pt
      holding [v, ov, iv] (setItem ov iv v)
      release [v, ov, iv] [])) :
    PS X (.Assign [.Subscript b c pt] a pos) (tSm S W fun e => (ea e).st fun r e => (eb e).st fun y e => (ec e).st fun z e => (e.item r).st fun d e => (setIx y z d e).st fun _ e => .nx e) :=
  PS.imp (ps_asg ha (pg_sub hb hc set_list h2) hs hw h1) fun D σ H ⟨e, w, hw, R, g⟩ => tE.st hw R g fun v r q e1 w1 s1 R1 r1 n1 g => tE.st2 s1 R1 g fun v2 y q2 e2 w2 s2 s02 R2 r2 n2 n12 g => tE.st2 s02 R2 g fun v3 z q3 e3 w3 s3 s03 R3 r3 n3 n23 g => by
    have r1' := (r1.step s2).step s3
    rcases item_nx (e := e3) (x := r) with ⟨d, e4, h⟩ | h
    · rw [h] at g
      obtain ⟨w4, gn, R4, G, oi, sub, nd, off⟩ := item_ok R3 r1' h
      have g : GS S W w ((setIx y z d e4).st fun _ e => .nx e) D := g
      rcases setIx_nx (x := y) (y := z) (d := d) (e := e4) with ⟨e5, h5⟩ | h5
      · rw [h5] at g
        obtain ⟨pa, xs, k, j, w5, e6, e7, e8, e9, e10, s5, R5⟩ := setIx_ok (s03.gh G n1) R4 (fun l hl => r2.toLoc l hl w4) r3.toInt oi nd off (fun x hx => n1 x (sub x hx)) h5
        refine ⟨pa, xs, k, j, e6, e7, by rw [← G.h]; exact e8, e9, ?_⟩
        rw [← G.h, ← e10]
        exact g σ w5 s5 R5
      · rw [h5] at g; exact g.elim
    · rw [h] at g; exact g.elim
/-- name += x -/
theorem st_aug {i : Nat} {x : Str} (hN : X.N.Nodup) (hi : X.N[i]? = some x) (hx : L2.Loc X.env.scope x) (hf : X.fn x = true ∨ X.env.scope.names.lookup x = some .local) (ha : PE X a (tE S W ea)) :
    PS X (.AugAssign (.Name x p') .Add a pos) (tSm S W fun e => (e.var i).st fun y e => match y with
    | .val (.int a) => (ea e).st fun z e => match z with
      | .val (.int b) => if i < e.sl.length then .nx ⟨e.sl.set i (.val (.int (a + b))), e.ps⟩ else .bad
      | _ => .bad
    | _ => .bad) :=
  PS.imp (ps_aug hN hi hx ha ip_add hf) fun D σ H ⟨e, w, hw, R, g⟩ => by
    subst hw
    have g : GS S W w ((e.var i).st fun y e => match y with
      | .val (.int a) => (ea e).st fun z e => match z with
        | .val (.int b) => if i < e.sl.length then .nx ⟨e.sl.set i (.val (.int (a + b))), e.ps⟩ else .bad
        | _ => .bad
      | _ => .bad) D := g
    unfold Env.var at g
    cases hs : e.sl[i]? with
    | none => rw [hs] at g; exact g.elim
    | some sl =>
      rw [hs] at g
      have h0 := R.slot i sl hs
      have bad : ∀ {l : Fp.Loc}, ¬ GS S W w ((Fp.R.ok (Rv.loc l) e).st fun y e => match y with
        | .val (.int a) => (ea e).st fun z e => match z with
          | .val (.int b) => if i < e.sl.length then .nx ⟨e.sl.set i (.val (.int (a + b))), e.ps⟩ else .bad
          | _ => .bad
        | _ => .bad) D := fun h => h
      cases sl with
      | no => exact g.elim
      | own ds => exact (bad g).elim
      | lea ds => exact (bad g).elim
      | lnk k =>
        simp only at g
        cases hp : e.ps[k]? with
        | none => rw [hp] at g; exact g.elim
        | some pp =>
          rw [hp] at g
          cases pp with
          | own ds => exact (bad g).elim
          | lea ds => exact (bad g).elim
          | frz ds => exact g.elim
      | val d =>
        cases d with
        | int m =>
          obtain ⟨_, v, hv, hd⟩ := h0
          have hv' : σ[i]? = some (some (.int m)) := by
            cases z : σ[i]? with
            | none => rw [z] at hv; cases hv
            | some t => rw [z] at hv; rw [show t = some v from hv, show v = V.int m from hd]
          refine ⟨.int m, hv', tE.st rfl R g fun v2 r q e1 w1 s1 R1 r1 n1 g => ?_⟩
          cases r with
          | val d2 =>
            cases d2 with
            | int m2 =>
              have g : GS S W w (if i < e1.sl.length then .nx ⟨e1.sl.set i (.val (.int (m + m2))), e1.ps⟩ else .bad) D := g
              split at g
              · rename_i hlt
                exact ⟨m, m2, rfl, r1.2, g _ ⟨w1.F, w1.H, updL w1.fp (.s i) [], w1.lf⟩ (s1.setSl (i := .s i) (New.nil _)) (R1.setVal (d := .int (m + m2)) hlt (v := .int (m + m2)) rfl)⟩
              · exact g.elim
            | _ => exact g.elim
          | fresh _ => exact g.elim
          | loc _ => exact g.elim
        | _ => exact g.elim
/-- o[i], by values -/
theorem get_any : PGet X (rIx X.K) := by
  intro pins s σ H o i ov iv G I ro ri h
  rcases h with ⟨p, xs, k, z, rfl, rfl, hq, he, q⟩ | ⟨p, xs, k, z, rfl, rfl, hq, he, q⟩ | ⟨z, k, c, rfl, rfl, hz, he, q⟩
  · cases ro
    obtain ⟨t, rfl⟩ := ri
    obtain ⟨its, r, pl, hz⟩ := I.list hq
    obtain ⟨j, h1, h2, h3, h4, h5⟩ := atI_get he
    obtain ⟨u, eu, ru⟩ := r.get h2
    have hl := r.length
    have hn := line63
    have fin : EP X pins σ G u s := ⟨z, H, I, ru, q⟩
    by_cases h0 : 0 ≤ k
    · have hj : k.toNat = j := by
        rw [seqIndex_of h0 h5] at h1
        exact Option.some.inj h1
      exact wpAny_getItem_list pl.isList h0 (by omega) (by rw [hj]; simpa using eu) fin
    · have hj : (k + (its.toArray.size : Int)).toNat = j := by
        rw [seqIndex_neg (by omega) h4] at h1
        rw [List.size_toArray, ← hl]
        exact Option.some.inj h1
      exact wpAny_getItem_list_neg pl.isList (by omega) (by rw [List.size_toArray] <;> omega) (by omega) (by rw [hj]; simpa using eu) fin
  · cases ro
    obtain ⟨t, rfl⟩ := ri
    obtain ⟨its, r, pl, hz⟩ := I.tuple hq
    obtain ⟨j, h1, h2, h3, h4, h5⟩ := atI_get he
    obtain ⟨u, eu, ru⟩ := r.get h2
    have hl := r.length
    have hn := line63
    exact getItem_tuple (j := j) pl (by omega) (by omega) (by rw [List.size_toArray, ← hl]; exact h1) (by simpa using eu) ⟨z, H, I, ru, q⟩
  · obtain ⟨t, rfl⟩ := ro
    obtain ⟨t', rfl⟩ := ri
    obtain ⟨j, h1, h2, h3, h4, h5⟩ := atI_get he
    have hl : z.cps.toList.length = z.length := by simp [Str.length]
    rw [hl] at h1 h4 h5
    have hn := line63
    exact getItem_str (c := c) (by rw [decide_eq_false (by omega), decide_eq_false (by omega), Bool.or_false]) (by rw [h1]; simpa using h2) ⟨.str ⟨#[c]⟩, H, I.tok _, ⟨_, rfl⟩, q⟩
theorem idx_nx {x y : Rv} {e : Env} : (∃ r e', opIdx x y e = .ok r e') ∨ opIdx x y e = .bad := by
  unfold opIdx
  repeat' split
  all_goals first
    | exact .inl ⟨_, _, rfl⟩
    | exact .inr rfl
/-- b[i] += x -/
theorem st_augI (hK : S.K = X.K) (hb : PE X b (tE S W eb)) (hc : PE X c (tE S W ec)) (ha : PE X a (tE S W ea)) (h2 : ∀ ov iv new, augStore c ov iv new = (do holding [new, ov, iv] (setItem ov iv new); release [new, ov, iv] []; pure .next)) :
    PS X (.AugAssign (.Subscript b c pt) .Add a pos) (tSm S W fun e => (eb e).st fun y e => (ec e).st fun z e => (opIdx y z e).st fun u e => match u with
    | .val (.int a) => (ea e).st fun v e => match v with
      | .val (.int c) => (setIx y z (.int (a + c)) e).st fun _ e => .nx e
      | _ => .bad
    | _ => .bad) :=
  PS.imp (ps_augS hb hc get_any ha ip_add set_list h2) fun D σ H ⟨e, w, hw, R, g⟩ => tE.st hw R g fun v y q e1 w1 s1 R1 r1 n1 g => tE.st2 s1 R1 g fun v2 z q2 e2 w2 s2 s02 R2 r2 n2 n12 g => by
    have r1' := r1.step s2
    have gg : Good S W σ w (opIdx y z e2) (postR S σ w fun x H3 => tE S W ea σ H3 fun y1 H4 => ipI (fun i j => i + j) x y1 H4 fun z1 H5 => rSetL v v2 z1 H5 fun H6 => D.nx σ H6) := by
      rcases idx_nx (x := y) (y := z) (e := e2) with ⟨u, e3, h3⟩ | h3
      · rw [h3] at g ⊢
        intro w3 s3 R3 x q3 r3 n3
        rw [Fp.R.st_ok] at g
        cases u with
        | val d =>
          cases d with
          | int m =>
            have ex : x = .int m := r3.2
            subst ex
            refine tE.st2 s3 R3 g fun y1 t q4 e4 w4 s4 s04 R4 r4 n4 n34 g => ?_
            cases t with
            | val d2 =>
              cases d2 with
              | int m2 =>
                refine ⟨m, m2, rfl, r4.2, ?_⟩
                have g : GS S W w ((setIx y z (.int (m + m2)) e4).st fun _ e => .nx e) D := g
                rcases setIx_nx (x := y) (y := z) (d := .int (m + m2)) (e := e4) with ⟨e5, h5⟩ | h5
                · rw [h5] at g
                  obtain ⟨pa, xs, k, j, w5, e6, e7, e8, e9, e10, s5, R5⟩ := setIx_ok (v := .int (m + m2)) (d := .int (m + m2)) (gn := []) s04 R4 (fun l hl => r1.toLoc l hl w4) r2.toInt ⟨rfl, rfl⟩ List.nodup_nil (fun _ h => by simp at h) (New.nil _) h5
                  refine ⟨pa, xs, k, j, e6, e7, e8, e9, ?_⟩
                  rw [← e10]
                  exact g σ w5 s5 R5
                · rw [h5] at g; exact g.elim
              | _ => exact g.elim
            | fresh _ => exact g.elim
            | loc _ => exact g.elim
          | _ => exact g.elim
        | fresh _ => exact g.elim
        | loc _ => exact g.elim
      · rw [h3] at g; exact g.elim
    rw [← hK]
    exact fin_idx s02 R2 r1' r2 n1 gg
/-- name = [..] on one line -/
theorem st_setLc {elt iter : Expr} {ifs : List Expr} {scope : Scope} {own : List (Str × Nat)} {es : Env → Fp.R (List D × List (Option Fp.Loc))} {ct : Env → Fp.R Bool} {ex : Env → Fp.R Rv} {t : Tg} {spos : Pos} {i : Nat} {y : Str}
    (hc : X.calm = true) (hN : X.N.Nodup) (hy : X.N[i]? = some y) (hyl : X.env.scope.names.lookup y = some .local) (hsw : swapsWith (.ListComp elt [⟨tg, iter, ifs, 0⟩] scope pos) (some (.Name y p')) spos.line X.env = pure true)
    (hi : PI X tg iter (iS S W es)) (ok : BlkOk X.N X.env.scope scope own) (htS : ∀ j ∈ t.slots, j ∈ own.map (·.2))
    (hg : ∀ (s : Shared) (H : Hp) (C : Addr) (cl : List (Str × Addr)) (fp : List Addr), PG (X.blk s H scope (compEnvC scope cl C X.env) fp) tg (gT S t)) (ht : ∀ (s : Shared) (H : Hp) (C : Addr) (cl : List (Str × Addr)) (fp : List Addr), PTs (X.blk s H scope (compEnvC scope cl C X.env) fp) ifs (tT S W0 ct))
    (he : ∀ (s : Shared) (H : Hp) (C : Addr) (cl : List (Str × Addr)) (fp : List Addr), PE (X.blk s H scope (compEnvC scope cl C X.env) fp) elt (tE S W0 ex)) (hs : ∀ x, foldedSetIterable iter X.env x = pure x) :
    PS X (.Assign [.Name y p'] (.ListComp elt [⟨tg, iter, ifs, 0⟩] scope pos) spos) (tSm S W fun e => ((es e).bind fun p e => if clearS e.sl (own.map (·.2)) then (compL (compF t ct ex (own.map (·.2))) p.1 ⟨wipeS e.sl (own.map (·.2)), e.ps⟩).bind fun ys e' => if ys.length ≤ LIM then .ok (.fresh ys) (Env.unlease ⟨backS e.sl e'.sl (own.map (·.2)), e'.ps⟩ p.2) else .bad else .bad).st fun r e => (bindT (.nm i) r e).st fun _ e => .nx e) :=
  PS.imp (ps_setLc hc hN hy hyl hsw hi ok hg ht he hs) fun D σ H ⟨e, w, hw, R, g⟩ => comp_core htS (tE.st hw R g fun v r q e w' s R' hr n g => set_core s R' hr n g)
end
end Fp
/-! FpFn: defs keep what the evaluator says. -/
namespace Fp
open PySem PySem.Spec PyProof.Rows L2
section
variable {S : Se} {W : WX} {σ σ2 : L2.St} {e e' e1 e2 : Env} {w w' w0 w1 w2 : Wo} {v v1 v2 : V} {r x y : Rv} {q q1 q2 : List Addr} {l : Fp.Loc} {d : D} {E E' : Ends}
/-- the def's slots are gone -/
theorem drop_slots (Re : Rep S σ e w) : ∃ w', Drop w w' ∧ Rep S [] ⟨[], e.ps⟩ w' ∧ ∀ x, w'.has x → ∃ k, x ∈ w.fp (.p k) := by
  have hp : ∀ x, (∃ m : Fp.Loc, x ∈ (fun l : Fp.Loc => match l with | .s _ => ([] : List Addr) | .p k => w.fp (.p k)) m) → ∃ k, x ∈ w.fp (.p k) := fun x ⟨m, hm⟩ => by
    cases m with
    | s i => exact absurd (show x ∈ ([] : List Addr) from hm) (by simp)
    | p k => exact ⟨k, hm⟩
  refine ⟨⟨w.F, w.H, fun l => match l with | .s _ => [] | .p k => w.fp (.p k), w.lf⟩, ⟨rfl, rfl, rfl, fun x h => let ⟨k, hk⟩ := hp x h; ⟨.p k, hk⟩⟩, ⟨Re.sub, rfl, Re.plen, fun i s h => by simp at h, fun i _ => rfl, fun k p h => ?_, fun k h => Re.pout k h, fun l => ?_, fun l l' a h1 h2 => ?_, fun x hx => ?_, fun x hx => ?_, Re.leh⟩, hp⟩
  · obtain ⟨a, ea, z⟩ := Re.par k p h
    refine ⟨a, ea, ?_⟩
    cases p <;> exact z
  · cases l with
    | s i => exact List.nodup_nil
    | p k => exact Re.nd (.p k)
  · cases l with
    | s i => exact absurd (show a ∈ ([] : List Addr) from h1) (by simp)
    | p k => cases l' with
      | s i => exact absurd (show a ∈ ([] : List Addr) from h2) (by simp)
      | p k' => exact Re.dis _ _ a h1 h2
  · obtain ⟨k, hk⟩ := hp x hx
    exact Re.off x ⟨_, hk⟩
  · obtain ⟨k, hk⟩ := hp x hx
    exact Re.ale x ⟨_, hk⟩
/-- the def's slots as it begins -/
theorem start_rep {vs : List V} {ss : List Sl} {ps : List Pst} {N : List Str} (Re : Rep S (vs.map some) ⟨ss, ps⟩ w) (hl : ss.length ≤ N.length) : Rep S (start N vs) ⟨ss ++ List.replicate (N.length - ss.length) .no, ps⟩ w := by
  have hv : ss.length = vs.length := by have := Re.len; simpa using this
  refine ⟨Re.sub, by simp [L2.start, hv], Re.plen, fun i s h => ?_, fun i h => ?_, Re.par, Re.pout, Re.nd, Re.dis, Re.off, Re.ale, Re.leh⟩
  · by_cases hi : i < ss.length
    · have h1 : ss[i]? = some s := by
        have : (ss ++ List.replicate (N.length - ss.length) Sl.no)[i]? = some s := h
        rwa [List.getElem?_append_left hi] at this
      have h2 : (start N vs)[i]? = (vs.map some)[i]? := List.getElem?_append_left (by simp; omega)
      rw [h2]
      exact Re.slot i s h1
    · have : (ss ++ List.replicate (N.length - ss.length) Sl.no)[i]? = some s := h
      rw [List.getElem?_append_right (by omega), List.getElem?_replicate] at this
      split at this
      · cases this
        exact Re.out i (by show ss.length ≤ i; omega)
      · cases this
  · exact Re.out i (by
      have : ss.length ≤ (ss ++ List.replicate (N.length - ss.length) Sl.no).length := by simp
      exact Nat.le_trans this h)
/-- the body's end is the call's end -/
theorem fin_body {m : SR} {Q : VK} {E : XK} (g : GoodC S w (finish m) Q E) : GS S (fun c d _ H => E c d H) w m { nx := fun _ H => Q .non H, rt := Q } := by
  have vals : ∀ {d : D} {ps : List Pst}, GoodC S w (.ok (.val d) ps) Q E → ∀ {σ e w' v}, e.ps = ps → Step w w' → Rep S σ e w' → Dat S w'.F d v → Q v w'.H := fun {d ps} g {σ e w' v} hp s R hd => by
    obtain ⟨w2, dr, R2, _⟩ := drop_slots R
    rw [← dr.H]
    rw [hp] at R2
    exact g v w2 [] (dr.step s) R2 ⟨rfl, by rw [dr.F]; exact hd⟩ (New.nil _)
  cases m with
  | nx e => exact fun σ w' s R => vals (d := .non) g rfl s R (v := .non) rfl
  | bk e => exact g.elim
  | ct e => exact g.elim
  | bad => exact g.elim
  | ex c d e =>
    intro σ C dx w' u hc s R hd du
    obtain ⟨w2, dr, R2, _⟩ := drop_slots R
    show E (.ref C) (some dx) w'.H
    rw [← dr.H]
    exact g C dx w2 u hc (dr.step s) R2 (by rw [dr.F]; exact hd) (by rw [dr.F]; exact du)
  | ret r e =>
    intro σ w' v q s R hr n
    cases r with
    | val d => exact vals g rfl s R hr.2
    | fresh ds =>
      obtain ⟨w2, dr, R2, _⟩ := drop_slots R
      have g : GoodC S w (.ok (.fresh ds) e.ps) Q E := g
      show Q v w'.H
      rw [← dr.H]
      exact g v w2 q (dr.step s) R2 (dr.rv (S := S) (σ := []) hr) n
    | loc l =>
      cases l with
      | s i =>
        unfold finish at g
        simp only at g
        cases hl : e.at (.s i) with
        | none => rw [hl] at g; exact g.elim
        | some p =>
          rw [hl] at g
          cases p with
          | lea ds => exact g.elim
          | frz ds => exact vals g rfl s R ((R.at hl).frzDat hr)
          | own ds =>
            obtain ⟨a, vs, gg, q0, la, hfp, os, n2, hh, ag⟩ := R.ownAt hl
            obtain ⟨w2, dr, R2, hp⟩ := drop_slots R
            have ha : w'.has a := ⟨.s i, by rw [hfp]; exact List.mem_cons_self⟩
            have hall : ∀ x ∈ a :: gg, w'.has x ∧ x ∈ w'.fp (.s i) := fun x hx => ⟨⟨.s i, by rw [hfp]; exact hx⟩, by rw [hfp]; exact hx⟩
            show Q v w'.H
            rw [← dr.H]
            refine g v w2 (a :: gg) (dr.step s) R2 ⟨a, rvLoc la hr, ⟨vs, gg, by rw [dr.H]; exact q0, rfl, by rw [dr.F, dr.H]; exact os⟩, List.nodup_cons.mpr ⟨ag, n2⟩, fun x hx => ?_⟩ (s.newHas fun x hx => (hall x hx).1)
            obtain ⟨h1, h2⟩ := hall x hx
            refine ⟨by rw [dr.F]; exact R.off x h1, fun z => ?_, fun z => R.ale x h1 (by show w'.lf x ≠ none; rw [← dr.lf]; exact z)⟩
            obtain ⟨k, hk⟩ := hp x z
            have := R.dis _ _ x hk h2
            cases this
      | p k =>
        unfold finish at g
        simp only at g
        rcases asVal_nx (e := e) (x := .loc (.p k)) with ⟨d, e1, h⟩ | h
        · rw [h] at g
          obtain ⟨w1, R1, G1, dd⟩ := asVal_ok R hr h
          show Q v w'.H
          rw [← G1.h]
          exact vals g rfl (s.gh G1 n) R1 dd
        · rw [h] at g; exact g.elim
end
section
variable {P : Program} {w : World} {K : PySem.W.Frag} {mg : Str → Option Value} {base : Heap} {x qual : Str} {params : Arguments} {body : List Stmt} {scope : Scope} {fa : Addr} {fd : FuncData} {N ps : List Str} {T : Tb} {n : Nat} {f : String} {F : Fn} {S : Se}
/-- THE RULE: a def whose body the evaluator runs -/
theorem fn_ok (FD : FunD K x qual params body scope [] [] fa fd) (Sc : FnScope N ps scope) (hT : T.fns f = some F) (hl : F.ps.length = ps.length) (hn : N.length = F.n)
    (hbody : ∀ (cdv : Value) (A : Around) (outer : List PySem.Env) (s : Shared) (H : Hp) (E : XK) (pa : List Addr), Room (n + 2) (A.deeper (envOfC qual scope s.heap.objs.size fa cdv)) →
      PSs (cxOf (L2.CX P w) P w K mg base N qual scope fa cdv A outer s H E) body (tSm (S.with pa) (fun c d _ H => E c d H) (execSs (T.ct n) F.body))) :
    FnOk P w K mg base (L2.CX P w) (n + 3) fa fd ps (spF S (callN T (n + 1) f)) := by
  have open_ : ∀ {vs H Q E}, spF S (callN T (n + 1) f) vs H Q E → ∃ pa ss pst w0, w0.H = H ∧ ss.length = vs.length ∧ Rep (S.with pa) (vs.map some) ⟨ss, pst⟩ w0 ∧ ss.length = F.ps.length ∧ F.ps.length ≤ F.n ∧
      GoodC (S.with pa) w0 (finish (execSs (T.ct n) F.body ⟨ss ++ List.replicate (F.n - ss.length) .no, pst⟩)) Q E := fun {vs H Q E} h => by
    obtain ⟨pa, ss, pst, w0, e1, e2, R, _, g⟩ := h
    unfold callN at g
    rw [hT] at g
    simp only at g
    split at g
    · rename_i hh
      exact ⟨pa, ss, pst, w0, e1, e2, R, hh.1, hh.2, g⟩
    · exact g.elim
  refine FD.ok Sc (fun vs H Q E h => ?_) (fun cdv A outer s H vs Q E hr h => ?_)
  · obtain ⟨pa, ss, pst, w0, e1, e2, R, e3, e4, g⟩ := open_ h
    rw [← e2, e3, hl]
  · obtain ⟨pa, ss, pst, w0, e1, e2, R, e3, e4, g⟩ := open_ h
    refine ⟨_, hbody cdv A outer s H E pa hr, ?_⟩
    refine ⟨⟨ss ++ List.replicate (F.n - ss.length) .no, pst⟩, w0, e1, ?_, fin_body g⟩
    rw [← hn]
    exact start_rep R (by rw [e3, hn]; exact e4)
theorem fn_zero : FnOk P w K mg base (L2.CX P w) 2 fa fd ps (spF S (callN T 0 f)) := by
  have no : ∀ {vs H Q E}, ¬ spF S (callN T 0 f) vs H Q E := fun {vs H Q E} ⟨_, _, _, _, _, _, _, _, g⟩ => g
  exact ⟨fun vs H Q E h => (no h).elim, fun A outer s H args us vs Q E hr e0 hb r h => (no h).elim⟩
end
end Fp
/-! FpTr: the text led over into the evaluator's syntax. -/
namespace Fp
open PySem
/-- the names of the module: defs, constants, calls by keyword that are proved to bind -/
structure Gt where
  fns : List (Str × String)
  glo : List (Str × String)
  kws : List (String × List String × Nat)
  pars : String → Option (List String)
  gcd : Bool
  lcm : Bool
  ice : List Str
  errs : List (Str × String)
def isStar : Expr → Bool
  | .Starred _ _ => true
  | _ => false
def isTup : Expr → Bool
  | .Tuple _ _ _ => true
  | _ => false
def isSet : Expr → Bool
  | .Set _ _ _ => true
  | _ => false
def isSlice : Expr → Bool
  | .Slice _ _ _ _ => true
  | _ => false
/-- [::-1] -/
def isRev : Expr → Bool
  | .Slice none none (some (.UnaryOp .USub (.Constant (.int 1) _ _) _)) _ => true
  | _ => false
def isComp : Expr → Bool
  | .ListComp _ _ _ _ => true
  | .SetComp _ _ _ _ => true
  | .DictComp _ _ _ _ _ => true
  | _ => false
def plainO : Expr → Bool
  | .Name _ _ => true
  | .Subscript _ _ _ => true
  | .Attribute _ _ _ => true
  | _ => false
def noStar (es : List Expr) : Bool := es.all fun e => !isStar e
def visB (sc : Scope) (x : Str) : Bool :=
  match sc.names.lookup x with
  | some .local => true
  | some .cell => true
  | some .free => true
  | _ => false
def locB (sc : Scope) (x : Str) : Bool :=
  match sc.names.lookup x with
  | some .local => true
  | some .cell => true
  | _ => false
def localB (sc : Scope) (x : Str) : Bool :=
  match sc.names.lookup x with
  | some .local => true
  | _ => false
def glB (sc : Scope) (x : Str) : Bool :=
  match sc.names.lookup x with
  | some .globalImplicit => true
  | _ => false
def bopIs : Operator → Option Bop
  | .Add => some .add
  | .Sub => some .sub
  | .Mult => some .mul
  | .FloorDiv => some .fdiv
  | .Mod => some .mod
  | .Pow => some .pow
  | _ => none
def copIs : CmpOp → Option Cop
  | .Eq => some .eq
  | .NotEq => some .ne
  | .Lt => some .lt
  | .LtE => some .le
  | .Gt => some .gt
  | .GtE => some .ge
  | .Is => some .is
  | .IsNot => some .isnot
  | .In => some .isin
  | .NotIn => some .notin
def blt1N : List (Str × String) := [("len", "len"), ("abs", "abs"), ("int", "int"), ("tuple", "tuple"), ("list", "list"), ("all", "all"), ("any", "any"), ("sum", "sum"), ("min", "min"), ("max", "max")]
def blt2N : List (Str × String) := [("min", "min"), ("max", "max")]
def clsN : List (Str × String) := [("int", "int"), ("bool", "bool"), ("str", "str"), ("tuple", "tuple"), ("list", "list")]
/-- the builtins that the module must not hide -/
def bltAll : List Str := ["len", "abs", "int", "tuple", "list", "all", "any", "sum", "min", "max", "bool", "str", "isinstance", "range", "enumerate", "zip"]
def dbg (x : Str) : Bool := (x == ("__debug__" : Str)) || (x == ("__classdict__" : Str))
def clsOf (sc : Scope) : List Expr → Option (List String)
  | [] => some []
  | .Name x _ :: es => if glB sc x && !dbg x then match clsN.lookup x, clsOf sc es with
    | some c, some cs => some (c :: cs)
    | _, _ => none else none
  | _ => none
/-- the classes of own errors, ValueError beside them -/
def errOf (G : Gt) (sc : Scope) (x : Str) : Option String := if glB sc x && !dbg x && !G.errs.isEmpty then (if x == ("ValueError" : Str) then some "ValueError" else G.errs.lookup x) else none
/-- isinstance -/
def isiEx (G : Gt) (sc : Scope) (y : Ex) (c : Expr) : Ex :=
  match c with
  | .Tuple cs _ _ => if noStar cs then match clsOf sc cs with
    | some (c :: cs) => if cs.length < 900 then .isi y (c :: cs) else .nev
    | _ => .nev else .nev
  | .Name x q => match errOf G sc x with
    | some k => .ise y k
    | none => match clsOf sc [.Name x q] with
      | some [c] => .isi y [c]
      | _ => .nev
  | _ => .nev
def ownOf (N : List Str) (scope : Scope) : List (Str × Nat) := scope.names.filterMap fun y => match y.2 with
  | .local => (N.idxOf? y.1).map fun i => (y.1, i)
  | .cell => (N.idxOf? y.1).map fun i => (y.1, i)
  | _ => none
def kwNames : List Keyword → Option (List Str)
  | [] => some []
  | ⟨some x, _, _⟩ :: ks => (kwNames ks).map (x :: ·)
  | _ => none
/-- a keyword's name as the evaluator has it -/
def kwStr (ps : List String) (x : Str) : Option String := ps.find? fun p => decide (Str.ofString p = x)
def kwStrs (ps : List String) : List Str → Option (List String)
  | [] => some []
  | x :: xs => match kwStr ps x, kwStrs ps xs with
    | some p, some q => some (p :: q)
    | _, _ => none

/-- x[k] != [] -/
def ineOf (N : List Str) (sc : Scope) (o : Cop) (a b : Expr) : Option (Nat × Nat) :=
  match o, a, b with
  | .ne, .Subscript (.Name x _) (.Constant (.int k) _ _) _, .List [] _ => if !dbg x && visB sc x && decide (0 ≤ k) then (N.idxOf? x).map fun i => (i, k.toNat) else none
  | _, _, _ => none
/-- x[k].pop(0) -/
def ipopOf (N : List Str) (sc : Scope) (o a : Expr) : Option (Nat × Nat) :=
  match o, a with
  | .Subscript (.Name x _) (.Constant (.int k) _ _) _, .Constant (.int 0) _ _ => if !dbg x && visB sc x && decide (0 ≤ k) then (N.idxOf? x).map fun i => (i, k.toNat) else none
  | _, _ => none
/-- a list is handed in that holds a name's list -/
def iceArg (G : Gt) (es : List Expr) : Bool := es.any fun e => match e with
  | .List xs _ => xs.any fun x => match x with
    | .Name y _ => decide (y ∈ G.ice)
    | _ => false
  | _ => false
def movOf (N : List Str) (sc : Scope) : Expr → Option Nat
  | .Name x _ => if !dbg x && visB sc x then N.idxOf? x else none
  | _ => none

mutual
def trTg (N : List Str) (sc : Scope) (fnc : Str → Bool) : Nat → Expr → Option Tg
  | 0, _ => none
  | n + 1, .Name x _ => match N.idxOf? x with
    | some i => if locB sc x && (fnc x || localB sc x) then some (.nm i) else none
    | none => none
  | n + 1, .Tuple es _ _ => if noStar es then (trTgs N sc fnc n es).map .tp else none
  | _ + 1, _ => none
def trTgs (N : List Str) (sc : Scope) (fnc : Str → Bool) : Nat → List Expr → Option (List Tg)
  | _, [] => some []
  | 0, _ :: _ => none
  | n + 1, e :: es => match trTg N sc fnc n e, trTgs N sc fnc n es with
    | some t, some ts => some (t :: ts)
    | _, _ => none
end
mutual
def trE (G : Gt) (N : List Str) : Nat → Scope → Expr → Ex
  | 0, _, _ => .nev
  | n + 1, sc, e => match e with
    | .Constant (.int i) _ _ => .cst (.int i)
    | .Constant (.bool b) _ _ => .cst (.bl b)
    | .Constant .none _ _ => .cst .non
    | .Constant (.str x) _ _ => .cst (.str x)
    | .Name x _ => if dbg x then .nev else if visB sc x then match N.idxOf? x with
        | some i => .var i
        | none => .nev
      else if glB sc x then match G.glo.lookup x with
        | some c => .glo c
        | none => .nev
      else .nev
    | .BinOp a o b _ => match bopIs o with
      | some o => .bin o (trE G N n sc a) (trE G N n sc b)
      | none => .nev
    | .UnaryOp .USub a _ => .neg (trE G N n sc a)
    | .UnaryOp .Not a _ => .not (trE G N n sc a)
    | .BoolOp .And es _ => trAnd G N n sc es
    | .BoolOp .Or es _ => trOr G N n sc es
    | .IfExp c a b _ => .ite (trT G N n sc c) (trE G N n sc a) (trE G N n sc b)
    | .Compare a [o] [b] _ => if isSet b then .nev else match copIs o with
      | some o => match ineOf N sc o a b with
        | some p => .ine p.1 p.2
        | none => .cmp o (trE G N n sc a) (trE G N n sc b)
      | none => .nev
    | .Compare a [o, o'] [b, c] _ => if isSet c then .nev else match copIs o, copIs o' with
      | some o, some o' => .chain o o' (trE G N n sc a) (trE G N n sc b) (trE G N n sc c)
      | _, _ => .nev
    | .Tuple es _ _ => if noStar es then .tup (trEs G N n sc es) else .nev
    | .List es _ => if noStar es then .lst (trEs G N n sc es) else .nev
    | .Dict [] [] _ => .dic0
    | .Subscript a (.Slice lo hi none _) _ => .slc (trE G N n sc a) (trO G N n sc lo) (trO G N n sc hi)
    | .Subscript a (.Slice (some lo) none (some st) _) _ => .sls (trE G N n sc a) (trE G N n sc lo) (trE G N n sc st)
    | .Subscript a b _ => if isRev b then .rev (trE G N n sc a) else if isSlice b then .nev else .idx (trE G N n sc a) (trE G N n sc b)
    | .ListComp x [⟨tg, it, ifs, 0⟩] scope _ => if isSet it then .nev else if L2.blkC N sc scope (ownOf N scope) then
        match trTg N (L2.relS scope sc) (fun y => scope.names.lookup y == some .cell) n tg, ifs with
        | some t, [] => if t.slots.all fun j => decide (j ∈ (ownOf N scope).map (·.2)) then .comp (trE G N n (L2.relS scope sc) x) t (trSrc G N n sc tg it) none ((ownOf N scope).map (·.2)) else .nev
        | some t, [c] => if t.slots.all fun j => decide (j ∈ (ownOf N scope).map (·.2)) then .comp (trE G N n (L2.relS scope sc) x) t (trSrc G N n sc tg it) (some (trT G N n (L2.relS scope sc) c)) ((ownOf N scope).map (·.2)) else .nev
        | _, _ => .nev
      else .nev
    | .Attribute a m _ => if m == "value" && plainO a then .valof (trE G N n sc a) else .nev
    | .Call (.Attribute o m ap) es [] p => if plainO o && noStar es && (ap.endLine == p.line) then
        if m == "append" then match es with
          | [a] => .meth "append" (trE G N n sc o) [trE G N n sc a]
          | _ => .nev
        else if m == "pop" then match es with
          | [] => .meth "pop" (trE G N n sc o) []
          | [a] => match ipopOf N sc o a with
            | some p => .ipop p.1 p.2
            | none => .meth "pop" (trE G N n sc o) [trE G N n sc a]
          | _ => .nev
        else .nev
      else .nev
    | .Call (.Name x _) es [] _ => if dbg x || !glB sc x || !noStar es then .nev else match G.fns.lookup x with
      | some f => match es with
        | [] => .nev
        | a :: es => if iceArg G (a :: es) then .tcl f (trEs G N n sc (a :: es)) else .call f (trEs G N n sc (a :: es))
      | none => match blt1N.lookup x, blt2N.lookup x, es with
        | some b, _, [a] => .blt b [trE G N n sc a]
        | _, some b, [a, c] => .blt b [trE G N n sc a, trE G N n sc c]
        | _, _, [a, c] => if x == "gcd" then (if G.gcd then .blt "gcd" [trE G N n sc a, trE G N n sc c] else .nev)
          else if x == "lcm" then (if G.lcm then .blt "lcm" [trE G N n sc a, trE G N n sc c] else .nev)
          else if x == "isinstance" then isiEx G sc (trE G N n sc a) c
          else .nev
        | _, _, _ => .nev
    | .Call (.Name x _) es (k :: ks) _ => if dbg x || !glB sc x || !noStar es then .nev else match G.fns.lookup x with
      | some f => match G.pars f, kwNames (k :: ks) with
        | some ps, some xs => match kwStrs ps xs with
          | some ys => if decide ((f, ys, es.length) ∈ G.kws) && (kwPerm ps ys es.length).isSome && decide ((trKs G N n sc ys (k :: ks)).map (·.1) = ys) then .callk f (trEs G N n sc es) (trKs G N n sc ys (k :: ks)) else .nev
          | none => .nev
        | _, _ => .nev
      | none => .nev
    | _ => .nev
/-- and, or: the first, the rest -/
def trAnd (G : Gt) (N : List Str) : Nat → Scope → List Expr → Ex
  | _, _, [] => .nev
  | 0, _, _ => .nev
  | n + 1, sc, [a] => trE G N n sc a
  | n + 1, sc, a :: b :: es => .and (trE G N n sc a) (trAnd G N n sc (b :: es))
def trOr (G : Gt) (N : List Str) : Nat → Scope → List Expr → Ex
  | _, _, [] => .nev
  | 0, _, _ => .nev
  | n + 1, sc, [a] => trE G N n sc a
  | n + 1, sc, a :: b :: es => .or (trE G N n sc a) (trOr G N n sc (b :: es))
/-- a test -/
def trT (G : Gt) (N : List Str) : Nat → Scope → Expr → Ex
  | 0, _, _ => .nev
  | n + 1, sc, e => match e with
    | .UnaryOp .Not a _ => .not (trT G N n sc a)
    | .BoolOp .And es _ => trTAnd G N n sc es
    | .BoolOp .Or es _ => trTOr G N n sc es
    | .IfExp _ _ _ _ => .nev
    | .Compare a [o] [b] _ => if isSet b then .nev else match copIs o with
      | some o => match ineOf N sc o a b with
        | some p => .ine p.1 p.2
        | none => .cmp o (trE G N n sc a) (trE G N n sc b)
      | none => .nev
    | .Compare _ _ _ _ => .nev
    | e => match trE G N n sc e with
      | .and _ _ => .nev
      | .or _ _ => .nev
      | .not _ => .nev
      | x => x
def trTAnd (G : Gt) (N : List Str) : Nat → Scope → List Expr → Ex
  | _, _, [] => .nev
  | 0, _, _ => .nev
  | n + 1, sc, [a] => trT G N n sc a
  | n + 1, sc, a :: b :: es => .and (trT G N n sc a) (trTAnd G N n sc (b :: es))
def trTOr (G : Gt) (N : List Str) : Nat → Scope → List Expr → Ex
  | _, _, [] => .nev
  | 0, _, _ => .nev
  | n + 1, sc, [a] => trT G N n sc a
  | n + 1, sc, a :: b :: es => .or (trT G N n sc a) (trTOr G N n sc (b :: es))
def trEs (G : Gt) (N : List Str) : Nat → Scope → List Expr → List Ex
  | _, _, [] => []
  | 0, _, _ :: _ => [.nev]
  | n + 1, sc, a :: es => trE G N n sc a :: trEs G N n sc es
def trKs (G : Gt) (N : List Str) : Nat → Scope → List String → List Keyword → List (String × Ex)
  | _, _, _, [] => []
  | 0, _, _, _ :: _ => [("", .nev)]
  | n + 1, sc, y :: ys, k :: ks => (y, trE G N n sc k.value) :: trKs G N n sc ys ks
  | n + 1, sc, [], k :: ks => [("", .nev)]
def trO (G : Gt) (N : List Str) : Nat → Scope → Option Expr → Option Ex
  | _, _, none => none
  | 0, _, some _ => some .nev
  | n + 1, sc, some a => some (trE G N n sc a)
def trSrc (G : Gt) (N : List Str) : Nat → Scope → Expr → Expr → Src
  | 0, _, _, _ => .ov .nev
  | n + 1, sc, tg, e => match e with
    | .Call (.Name x _) es [] _ => if dbg x || !glB sc x || !noStar es then .ov .nev
      else if x == "range" then match es with
        | [a] => .rng (trE G N n sc a)
        | [a, b] => .rng2 (trE G N n sc a) (trE G N n sc b)
        | _ => .ov .nev
      else if x == "enumerate" then match es with
        | [a] => if isTup tg then .enu (trE G N n sc a) else .ov .nev
        | _ => .ov .nev
      else if x == "zip" then match es with
        | [a, b] => if isTup tg then .zip (trE G N n sc a) (trE G N n sc b) else .ov .nev
        | _ => .ov .nev
      else .ov (trE G N n sc e)
    | e => .ov (trE G N n sc e)
end
/-- whether a comprehension is stored on its own line by the swap -/
def lcSwap (sc : Scope) (y : Str) (py : Pos) (scope : Scope) (pos : Pos) : Bool := localB sc y && (py.line == pos.line) && !(scope.names.any fun p => p.1 == y && (p.2 == .local || p.2 == .cell))
def parOk (sc : Scope) (l : Nat) : List Expr → Option (List Str)
  | [] => some []
  | .Name x p :: es => if localB sc x && (p.line == l) then (parOk sc l es).map (x :: ·) else none
  | _ => none
def lineOf : List Expr → Nat
  | e :: _ => e.pos.line
  | [] => 0
/-- the items of a list that is returned: the last one's own list goes over -/
def trMs (G : Gt) (N : List Str) : Nat → Scope → List Expr → List Ex
  | _, _, [] => []
  | 0, _, _ :: _ => [.nev]
  | n + 1, sc, [a] => [match movOf N sc a with
    | some i => .mov i
    | none => trE G N n sc a]
  | n + 1, sc, a :: b :: es => trE G N n sc a :: trMs G N n sc (b :: es)
mutual
def trS (G : Gt) (N : List Str) : Nat → Scope → Stmt → Sm
  | 0, _, _ => .nev
  | n + 1, sc, s => match s with
    | .Assign [.Name x p] a pos => match N.idxOf? x with
      | some i => if locB sc x then (match a with
        | .ListComp _ _ scope q => if lcSwap sc x p scope q then .asg (.nm i) (trE G N (n + 1) sc a) else .asg (.nm i) (trE G N n sc a)
        | _ => if isComp a then .nev else .asg (.nm i) (trE G N n sc a)) else .nev
      | none => .nev
    | .Assign [.Tuple ts _ _] a _ => if isComp a then .nev else match a with
      | .Tuple vs _ _ => if vs.all (foldedForSure 8) || decide (3 < ts.length) then (match trTg N sc (fun _ => true) n (.Tuple ts 0 ⟨0, 0, 0, 0⟩) with
          | some t => .asg t (trE G N n sc a)
          | none => .nev)
        else match ts with
          | [.Name x p, .Name y q] => if localB sc x && localB sc y && (p.line == q.line) && decide (x ≠ y) then
              (if noStar vs && !(vs.all (constantsAlone 8)) then match vs with
                | [a, b] => match N.idxOf? x, N.idxOf? y with
                  | some i, some j => .par [i, j] [trE G N n sc a, trE G N n sc b]
                  | _, _ => .nev
                | _ => .nev else .nev)
            else match trTg N sc (fun _ => true) n (.Tuple ts 0 ⟨0, 0, 0, 0⟩) with
              | some t => .asg t (trE G N n sc a)
              | none => .nev
          | [.Name x p, .Name y q, .Name z r] => if localB sc x && localB sc y && localB sc z && (p.line == q.line) && (p.line == r.line) then
              (if noStar vs && !(vs.all (constantsAlone 8)) && decide (x ≠ y) && decide (x ≠ z) && decide (y ≠ z) then match vs with
                | [a, b, c] => match N.idxOf? x, N.idxOf? y, N.idxOf? z with
                  | some i, some j, some k => .par [i, j, k] [trE G N n sc a, trE G N n sc b, trE G N n sc c]
                  | _, _, _ => .nev
                | _ => .nev else .nev)
            else match trTg N sc (fun _ => true) n (.Tuple ts 0 ⟨0, 0, 0, 0⟩) with
              | some t => .asg t (trE G N n sc a)
              | none => .nev
          | _ => .nev
      | a => match trTg N sc (fun _ => true) n (.Tuple ts 0 ⟨0, 0, 0, 0⟩) with
          | some t => .asg t (trE G N n sc a)
          | none => .nev
    | .Assign [.Subscript b c _] a _ => if isSlice c then .nev else .setI (trE G N n sc b) (trE G N n sc c) (trE G N n sc a)
    | .AugAssign (.Name x _) .Add a _ => match N.idxOf? x with
      | some i => if locB sc x then .aug i (trE G N n sc a) else .nev
      | none => .nev
    | .AugAssign (.Subscript b c _) .Add a _ => if isSlice c then .nev else .augI (trE G N n sc b) (trE G N n sc c) (trE G N n sc a)
    | .If c a b _ => .ite (trT G N n sc c) (trSs G N n sc a) (trSs G N n sc b)
    | .While c b [] _ => .whl (trT G N n sc c) (trSs G N n sc b)
    | .For tg it b [] _ => if isSet it then .nev else match trTg N sc (fun _ => true) n tg with
      | some t => .for_ t (trSrc G N n sc tg it) (trSs G N n sc b)
      | none => .nev
    | .Return (some (.List es _)) _ => if noStar es then .ret (.lst (trMs G N n sc es)) else .nev
    | .Return (some a) _ => .ret (trE G N n sc a)
    | .Return none _ => .retn
    | .Expr (.Constant (.str _) _ _) _ => .pas
    | .Expr a _ => if isComp a then .nev else .exp (trE G N n sc a)
    | .Raise (some (.Call (.Name x _) [a] [] _)) none _ => if dbg x || !glB sc x || !noStar [a] then .nev else match G.errs.lookup x with
      | some k => .rai k (trE G N n sc a)
      | none => .nev
    | .Raise (some (.Call (.Name x _) [] [⟨some y, a, _⟩] _)) none _ => if dbg x || !glB sc x || !(y == "value") then .nev else match G.errs.lookup x with
      | some k => .rai k (trE G N n sc a)
      | none => .nev
    | .Try b [.ExceptHandler (some (.Name x _)) (some y) [.Assign [.Name z _] (.Name u _) _] _] [] [] _ => if dbg x || !glB sc x || dbg y || !(u == y) || !localB sc y || !localB sc z then .nev else match G.errs.lookup x, N.idxOf? y, N.idxOf? z with
      | some k, some i, some j => .kee (trSs G N n sc b) k i j
      | _, _, _ => .nev
    | .Pass _ => .pas
    | .Break _ => .brk
    | .Continue _ => .cnt
    | _ => .nev
def trSs (G : Gt) (N : List Str) : Nat → Scope → List Stmt → List Sm
  | _, _, [] => []
  | 0, _, _ :: _ => [.nev]
  | n + 1, sc, s :: ss => trS G N n sc s :: trSs G N n sc ss
end
-- the names of the blocks within
mutual
def colE : Nat → Expr → List Str
  | 0, _ => []
  | n + 1, e => match e with
    | .BoolOp _ es _ => colEs n es
    | .BinOp a _ b _ => colE n a ++ colE n b
    | .UnaryOp _ a _ => colE n a
    | .IfExp a b c _ => colE n a ++ colE n b ++ colE n c
    | .Compare a _ es _ => colE n a ++ colEs n es
    | .Tuple es _ _ => colEs n es
    | .List es _ => colEs n es
    | .Subscript a b _ => colE n a ++ colE n b
    | .Slice a b _ _ => colEs n (a.toList ++ b.toList)
    | .Attribute a _ _ => colE n a
    | .Call f es ks _ => colE n f ++ colEs n es ++ colEs n (ks.map fun k => k.value)
    | .ListComp x gs scope _ => (scope.names.filterMap fun y => match y.2 with
      | .local => some y.1
      | .cell => some y.1
      | _ => none) ++ colE n x ++ colEs n (gs.flatMap fun g => g.iter :: g.ifs)
    | _ => []
def colEs : Nat → List Expr → List Str
  | _, [] => []
  | 0, _ => []
  | n + 1, e :: es => colE n e ++ colEs n es
end
mutual
def colS : Nat → Stmt → List Str
  | 0, _ => []
  | n + 1, s => match s with
    | .Assign ts a _ => colEs n ts ++ colE n a
    | .AugAssign t _ a _ => colE n t ++ colE n a
    | .If c a b _ => colE n c ++ colSs n a ++ colSs n b
    | .While c a b _ => colE n c ++ colSs n a ++ colSs n b
    | .For _ it a b _ => colE n it ++ colSs n a ++ colSs n b
    | .Return (some a) _ => colE n a
    | .Expr a _ => colE n a
    | .Try b _ _ _ _ => colSs n b
    | .Raise (some a) _ _ => colE n a
    | _ => []
def colSs : Nat → List Stmt → List Str
  | _, [] => []
  | 0, _ => []
  | n + 1, s :: ss => colS n s ++ colSs n ss
end
def namesOf (ps : List Str) (sc : Scope) (body : List Stmt) : List Str := (ps ++ (sc.names.filterMap fun y => match y.2 with
  | .local => some y.1
  | .cell => some y.1
  | _ => none) ++ colSs 200 body).eraseDups
end Fp
/-! FpEq: the evaluator's equations; what the text's helpers do at plain expressions. -/
namespace Fp
open PySem PySem.Spec PyProof.Rows L2
section
variable {C : Ct} {a b c : Ex} {es : List Ex}
theorem ev_nev : evalE C .nev = fun _ => .bad := by funext e; rw [evalE]
theorem ev_cst {d : D} : evalE C (.cst d) = fun e => .ok (.val d) e := by funext e; rw [evalE]
theorem ev_var {i : Nat} : evalE C (.var i) = fun e => e.var i := by funext e; rw [evalE]
theorem ev_glo {x : String} : evalE C (.glo x) = fun e => match C.glo x with | some d => .ok (.val d) e | none => .bad := by funext e; rw [evalE] <;> rfl
theorem ev_bin {o : Bop} : evalE C (.bin o a b) = fun e => (evalE C a e).bind fun x e => (evalE C b e).bind fun y e => opBin o x y e := by funext e; rw [evalE]
theorem ev_neg : evalE C (.neg a) = fun e => (evalE C a e).bind fun x e => match x with
    | .val (.int i) => .ok (.val (.int (-i))) e
    | _ => .bad := by funext e; rw [evalE] <;> rfl
theorem ev_not : evalE C (.not a) = fun e => ((evalE C a e).bind fun x e => (opTru x e).bind fun b e => .ok (!b) e).blV := by funext e; rw [evalE]
theorem ev_cmp {o : Cop} : evalE C (.cmp o a b) = fun e => ((evalE C a e).bind fun x e => (evalE C b e).bind fun y e => opCmp o x y e).blV := by funext e; rw [evalE]
theorem ev_chain {o o' : Cop} : evalE C (.chain o o' a b c) = fun e => ((evalE C a e).bind fun x e => (evalE C b e).bind fun y e => match x, y with
    | .val (.int i), .val (.int j) => match cmpI o i j with
      | some t => if t then (evalE C c e).bind fun z e => opCmp o' (.val (.int j)) z e else .ok false e
      | none => .bad
    | _, _ => .bad).blV := by funext e; rw [evalE] <;> rfl
theorem ev_and : evalE C (.and a b) = fun e => (evalE C a e).bind fun x e => match x with
    | .val (.bl true) => evalE C b e
    | .val (.bl false) => .ok (.val (.bl false)) e
    | _ => .bad := by funext e; rw [evalE] <;> rfl
theorem ev_or : evalE C (.or a b) = fun e => (evalE C a e).bind fun x e => match x with
    | .val (.bl true) => .ok (.val (.bl true)) e
    | .val (.bl false) => evalE C b e
    | _ => .bad := by funext e; rw [evalE] <;> rfl
theorem ev_ite : evalE C (.ite c a b) = fun e => (evalT C c e).bind fun t e => if t then evalE C a e else evalE C b e := by funext e; rw [evalE]
theorem ev_tup : evalE C (.tup es) = fun e => (evalEs C es e).bind fun rs e => (e.asVals rs).bind fun ds e => if ds.length ≤ LIM then .ok (.val (.tup ds)) e else .bad := by funext e; rw [evalE]
theorem ev_lst : evalE C (.lst es) = fun e => (evalEs C es e).bind fun rs e => (e.items rs).bind fun ds e => if ds.length ≤ LIM then .ok (.fresh ds) e else .bad := by funext e; rw [evalE]
theorem ev_dic0 : evalE C .dic0 = fun e => .ok (.val (.dic [] [])) e := by funext e; rw [evalE]
theorem ev_idx : evalE C (.idx a b) = fun e => (evalE C a e).bind fun x e => (evalE C b e).bind fun y e => opIdx x y e := by funext e; rw [evalE]
theorem ev_slc {lo hi : Option Ex} : evalE C (.slc a lo hi) = fun e => (evalE C a e).bind fun x e => (evalO C lo e).bind fun l e => (evalO C hi e).bind fun h e => (e.peek x).bind fun d e => opSlc d l h e := by funext e; rw [evalE]
theorem ev_rev : evalE C (.rev a) = fun e => (evalE C a e).bind fun x e => (e.peek x).bind fun d e => match d with
    | .tup ds => .ok (.val (.tup ds.reverse)) e
    | .lst ds => .ok (.fresh ds.reverse) e
    | _ => .bad := by funext e; rw [evalE] <;> rfl
theorem ev_tcl {f : String} : evalE C (.tcl f es) = fun e => iced e ((fun e => (evalEs C es e).bind fun rs e => doCall C f rs e) e.ice) ((fun e => (evalEs C es e).bind fun rs e => doCall C f rs e) e) := by funext e; rw [evalE]
theorem ev_sls : evalE C (.sls a b c) = fun e => (evalE C a e).bind fun x e => (evalE C b e).bind fun y e => match y with
    | .val (.int i) => (evalE C c e).bind fun z e => match z with
      | .val (.int j) => (e.peek x).bind fun d e => opStep d i j e
      | _ => .bad
    | _ => .bad := by funext e; rw [evalE] <;> rfl
theorem ev_mov {i : Nat} : evalE C (.mov i) = fun e => e.mov i := by funext e; rw [evalE]
theorem ev_ine {i k : Nat} : evalE C (.ine i k) = fun e => e.ine i k := by funext e; rw [evalE]
theorem ev_ipop {i k : Nat} : evalE C (.ipop i k) = fun e => e.ipop i k := by funext e; rw [evalE]
theorem ev_valof : evalE C (.valof a) = fun e => (evalE C a e).bind valE := by funext e; rw [evalE]
theorem ev_ise {c : String} : evalE C (.ise a c) = fun e => (evalE C a e).bind (isE fun k => C.sub k c) := by funext e; rw [evalE]
theorem ev_call {f : String} : evalE C (.call f es) = fun e => (evalEs C es e).bind fun rs e => doCall C f rs e := by funext e; rw [evalE]
theorem ev_callk {f : String} {ks : List (String × Ex)} {ps : List String} (h : C.pars f = some ps) : evalE C (.callk f es ks) = fun e => (evalEs C es e).bind fun rs e => (evalKs C ks e).bind fun ws e => match kwRvs ps (ks.map (·.1)) rs ws with
      | some us => doCall C f us e
      | none => .bad := by funext e; rw [evalE, h] <;> rfl
theorem ev_blt {f : String} : evalE C (.blt f es) = fun e => (evalEs C es e).bind fun rs e => opBlt f rs e := by funext e; rw [evalE]
theorem ev_isi {cs : List String} : evalE C (.isi a cs) = fun e => (evalE C a e).bind fun x e => (e.peek x).bind fun d e => match isAny C d cs with
    | some b => .ok (.val (.bl b)) e
    | none => .bad := by funext e; rw [evalE] <;> rfl
theorem ev_comp {t : Tg} {s : Src} {k : Option Ex} {own : List Nat} : evalE C (.comp a t s k own) = fun e => (evalS C false s e).bind fun p e => if clearS e.sl own then (compL (compF t (match k with
      | none => fun e => .ok true e
      | some c => fun e => evalT C c e) (fun e => evalE C a e) own) p.1 ⟨wipeS e.sl own, e.ps⟩).bind fun ys e' => if ys.length ≤ LIM then .ok (.fresh ys) (Env.unlease ⟨backS e.sl e'.sl own, e'.ps⟩ p.2) else .bad else .bad := by
  funext e
  cases k <;> rw [evalE]
theorem ev_meth {m : String} : evalE C (.meth m a es) = fun e => (evalE C a e).bind fun x e => if e.isLst x then (evalEs C es e).bind fun rs e => opMeth m x rs e else .bad := by funext e; rw [evalE]
theorem et_and : evalT C (.and a b) = fun e => (evalT C a e).bind fun t e => if t then evalT C b e else .ok false e := by funext e; rw [evalT]
theorem et_or : evalT C (.or a b) = fun e => (evalT C a e).bind fun t e => if t then .ok true e else evalT C b e := by funext e; rw [evalT]
theorem et_not : evalT C (.not a) = fun e => (evalT C a e).bind fun t e => .ok (!t) e := by funext e; rw [evalT]
theorem et_val (h1 : ∀ x y, a ≠ .and x y) (h2 : ∀ x y, a ≠ .or x y) (h3 : ∀ x, a ≠ .not x) : evalT C a = fun e => (evalE C a e).bind fun r e => opTru r e := by
  funext e
  cases a <;> first | exact absurd rfl (h1 _ _) | exact absurd rfl (h2 _ _) | exact absurd rfl (h3 _) | (rw [evalT] <;> first | (intro _ _ h; cases h) | (intro _ h; cases h))
theorem et_cmp {o : Cop} : evalT C (.cmp o a b) = fun e => (evalE C a e).bind fun x e => (evalE C b e).bind fun y e => opCmp o x y e := by
  rw [et_val (fun _ _ h => by cases h) (fun _ _ h => by cases h) (fun _ h => by cases h), ev_cmp]
  funext e
  exact blV_tru _
theorem es_nil : evalEs C [] = fun e => .ok [] e := by funext e; rw [evalEs]
theorem es_cons : evalEs C (a :: es) = fun e => (evalE C a e).bind fun r e => (evalEs C es e).bind fun rs e => .ok (r :: rs) e := by funext e; rw [evalEs]
theorem ek_nil : evalKs C [] = fun e => .ok [] e := by funext e; rw [evalKs]
theorem ek_cons {n : String} {ks : List (String × Ex)} : evalKs C ((n, a) :: ks) = fun e => (evalE C a e).bind fun r e => (evalKs C ks e).bind fun rs e => .ok (r :: rs) e := by funext e; rw [evalKs]
theorem eo_none : evalO C none = fun e => .ok none e := by funext e; rw [evalO]
theorem eo_some : evalO C (some a) = fun e => (evalE C a e).bind fun r e => match r with
    | .val (.int i) => .ok (some i) e
    | _ => .bad := by funext e; rw [evalO] <;> rfl
variable {fz : Bool}
theorem er_ov : evalS C fz (.ov a) = fun e => (evalE C a e).bind fun x e => (e.lend fz x).bind fun (d, l) e => match itemsOf d with
    | some ds => .ok (ds, [l]) e
    | none => .bad := by funext e; rw [evalS] <;> rfl
theorem er_rng : evalS C fz (.rng a) = fun e => (evalE C a e).bind fun x e => match x with
    | .val (.int j) => if small62 j then .ok (intsD 0 j.toNat, []) e else .bad
    | _ => .bad := by funext e; rw [evalS] <;> rfl
theorem er_rng2 : evalS C fz (.rng2 a b) = fun e => (evalE C a e).bind fun x e => (evalE C b e).bind fun y e => match x, y with
    | .val (.int i), .val (.int j) => if small62 i && small62 j then .ok (intsD i (j - i).toNat, []) e else .bad
    | _, _ => .bad := by funext e; rw [evalS] <;> rfl
theorem er_enu : evalS C fz (.enu a) = fun e => (evalE C a e).bind fun x e => (e.lend fz x).bind fun (d, l) e => match itemsOf d with
    | some ds => .ok (enums ds 0, [l]) e
    | none => .bad := by funext e; rw [evalS] <;> rfl
theorem er_zip : evalS C fz (.zip a b) = fun e => (evalE C a e).bind fun x e => (evalE C b e).bind fun y e => (e.lend fz x).bind fun (d, l) e => (e.lend fz y).bind fun (d', l') e => match d, d' with
    | .lst ds, .lst ds' => .ok (zips ds ds', [l, l']) e
    | .tup ds, .tup ds' => .ok (zips ds ds', [l, l']) e
    | _, _ => .bad := by funext e; rw [evalS] <;> rfl
end
/-! ### the text's helpers -/
section
variable {env : PySem.Env} {a b c : Expr} {es : List Expr} {pos : Pos}
theorem star_cons (h : isStar a = false) : starEach (a :: es) env = (false, eval a env) :: starEach es env := by
  cases a <;> first | rfl | cases h
theorem noStar_cons (h : noStar (a :: es) = true) : isStar a = false ∧ noStar es = true := by
  unfold noStar at h ⊢
  simpa using h
theorem noStar_pl : ∀ {es : List Expr}, noStar es = true → (backTo pos (starEach es env)).any (·.1) = false
  | [], _ => rfl
  | a :: es, h => by
    obtain ⟨h1, h2⟩ := noStar_cons h
    rw [star_cons h1]
    show (false || (backTo pos (starEach es env)).any (·.1)) = false
    rw [noStar_pl h2]
    rfl
theorem assign_cons (h : isStar a = false) : assignEach (a :: es) env = (false, assign a env) :: assignEach es env := by
  cases a <;> first | rfl | cases h
theorem assign_len : ∀ {es : List Expr}, noStar es = true → (assignEach es env).length = es.length
  | [], _ => rfl
  | a :: es, h => by
    obtain ⟨h1, h2⟩ := noStar_cons h
    rw [assign_cons h1, List.length_cons, List.length_cons, assign_len h2]
theorem assign_find : ∀ {es : List Expr}, noStar es = true → (assignEach es env).findIdx? (·.1) = none
  | [], _ => rfl
  | a :: es, h => by
    obtain ⟨h1, h2⟩ := noStar_cons h
    rw [assign_cons h1, List.findIdx?_cons, assign_find h2]
    rfl
theorem fold_iter (h : isSet a = false) (x : Value) : foldedSetIterable a env x = pure x := by
  cases a <;> first | rfl | cases h
theorem behind (h : isSet a = false) (op : CmpOp) : behindInMarks op a = false := by
  cases a <;> first | rfl | cases h
theorem plainIx (h : isSlice b = false) : PlainIx b := fun o i => by
  cases b <;> first | rfl | cases h
theorem aug_store (h : isSlice c = false) (ov iv new : Value) : augStore c ov iv new = (do holding [new, ov, iv] (setItem ov iv new); release [new, ov, iv] []; pure .next) := by
  cases c <;> first | rfl | cases h
theorem attr_base {m : Str} {whole : Sem Value} (h : plainO a = true) : attributeBase a m env whole = whole := by
  cases a <;> first | rfl | cases h
theorem swap_none {l : Nat} {t : Option Expr} (h : isComp a = false) : swapsWith a t l env = pure false := by
  cases a <;> first | rfl | cases h
theorem swap_sole {l : Nat} {t : Expr} (h : isComp a = false) : swapsWithSole [t] a l env = pure false := swap_none h
theorem vis_of {sc : Scope} {x : Str} (h : visB sc x = true) : Vis sc x := by
  unfold visB at h
  unfold Vis
  split at h <;> simp_all
theorem loc_of {sc : Scope} {x : Str} (h : locB sc x = true) : L2.Loc sc x := by
  unfold locB at h
  unfold L2.Loc
  split at h <;> simp_all
theorem local_of {sc : Scope} {x : Str} (h : localB sc x = true) : sc.names.lookup x = some .local := by
  unfold localB at h
  split at h <;> simp_all
theorem gl_of {sc : Scope} {x : Str} (h : glB sc x = true) : sc.names.lookup x = some .globalImplicit := by
  unfold glB at h
  split at h <;> simp_all
theorem dbg_of {x : Str} (h : dbg x = false) : (x == ("__debug__" : Str)) = false ∧ (x == ("__classdict__" : Str)) = false := by
  unfold dbg at h
  simpa using h
theorem idx_get {N : List Str} {x : Str} {i : Nat} (h : N.idxOf? x = some i) : N[i]? = some x := by
  unfold List.idxOf? at h
  rw [List.findIdx?_eq_some_iff_getElem] at h
  obtain ⟨hlt, h1, _⟩ := h
  rw [List.getElem?_eq_getElem hlt]
  congr 1
  exact eq_of_beq h1
end
end Fp
/-! FpNest: a slice with a step; a slot's own list goes over; a list within a list of one's own is asked and popped. -/
namespace Fp
open PySem PySem.Spec PyProof.Rows L2 HT
theorem Vals.pickF {xs : List V} {us : List Value} (r : Vals xs us) : ∀ is : List Nat, Vals (is.filterMap (xs[·]?)) (is.filterMap (us[·]?))
  | [] => .nil
  | i :: is => by
    rw [List.filterMap_cons, List.filterMap_cons]
    have ih := Vals.pickF r is
    cases h : xs[i]? with
    | none =>
      have : us[i]? = none := by
        rw [List.getElem?_eq_none_iff] at h ⊢
        rw [← r.length]; exact h
      rw [this]
      exact ih
    | some x =>
      obtain ⟨u, h1, h2⟩ := r.get h
      rw [h1]
      exact .cons h2 ih
theorem Dats.pickF {S : Se} {F : Hp} {ds : List D} {vs : List V} (h : Dats S F ds vs) : ∀ is : List Nat, Dats S F (is.filterMap (ds[·]?)) (is.filterMap (vs[·]?))
  | [] => trivial
  | i :: is => by
    rw [List.filterMap_cons, List.filterMap_cons]
    have ih := Dats.pickF h is
    cases e : ds[i]? with
    | none =>
      have : vs[i]? = none := by
        rw [List.getElem?_eq_none_iff] at e ⊢
        rw [← h.len]; exact e
      rw [this]
      exact ih
    | some x =>
      obtain ⟨u, h1, h2⟩ := h.get e
      rw [h1]
      exact ⟨h2, ih⟩
theorem pickN_len {α : Type} (xs : List α) {i j : Int} (hj : 0 < j) : (pickN xs i j).length ≤ xs.length := by
  unfold pickN
  refine Nat.le_trans (List.length_filterMap_le _ _) ?_
  refine sliceRange_length_le _ _ _ _ (fun _ => ?_) (fun z => ?_)
  · unfold sliceBounds
    simp only [Option.getD_some, gt_iff_lt, hj, if_true]
    omega
  · exact absurd hj z
section
variable {X : Cx} {a b c : Expr} {ta tb tc : TE} {p pos : Pos}
/-- x[i::j], a list -/
def tStep (K : PySem.W.Frag) (ta tb tc : TE) : TE := fun σ H Q => ta σ H fun x H1 => tPart tb σ H1 fun i H2 => tPart tc σ H2 fun j H3 => ∃ a xs i' j', x = .ref a ∧ i = some i' ∧ j = some j' ∧ 0 < j' ∧ SqL K H3 a xs ∧ ∀ p, H3 p = none → Q (.ref p) (upd H3 p (.lst (pickN xs i' j')))
theorem pe_step (ha : PE X a ta) (hb : PE X b tb) (hc : PE X c tc) : PE X (.Subscript a (.Slice (some b) none (some c) p) pos) (tStep X.K ta tb tc) := by
  refine ⟨fun pins s σ H Q I h => ?_⟩
  have hv : ∀ {x : V} {v : Value}, RelV x v → ∀ {a : Addr}, x = .ref a → v = .ref a := fun r a e => by subst e; cases r; rfl
  refine Subscript_ (thn (ha.run pins s σ H _ I h) fun v s1 ⟨x, H1, I1, r1, q1⟩ => ?_)
  have r1' := r1
  refine wpAny_Slice (thn ((po_some hb).run pins s1 σ H1 _ I1 q1) fun vl s2 ⟨l, H2, I2, pl, q2⟩ => ?_)
  refine thn (po_none.run pins s2 σ H2 (fun o H3 => o = none ∧ H3 = H2) I2 ⟨rfl, rfl⟩) fun vu s3 ⟨u, H3, I3, pu, eu, e3⟩ => ?_
  subst eu e3
  refine thn ((po_some hc).run pins s3 σ H3 _ I3 q2) fun vs s4 ⟨o, H4, I4, ps, q4⟩ => ?_
  obtain ⟨ad, xs, i', j', rfl, rfl, rfl, h0, hx, q⟩ := q4
  cases r1'
  have I5 : Inv X pins σ H4 { s4 with heap := s4.heap.push { cls := .type "slice", data := .fields #[vl, vu, vs] } } := I4.kept (t' := s4.toks) fun b ob q => Heap.get?_push_of_some _ q
  obtain ⟨its, r, ht, hz⟩ := I5.list hx
  have hlen := r.length
  show wpAny (model X.prog X.w) X.A (subscriptTail a (.Slice (some b) none (some c) p) (.ref ad) (.ref s4.heap.objs.size)) (EP X pins σ Q) X.xe { s4 with heap := s4.heap.push { cls := .type "slice", data := .fields #[vl, vu, vs] } }
  refine tail_any (ops := [.ref ad, .ref s4.heap.objs.size]) ht.isList.typeIs (PySem.slot_list_getitem.lookup) ?_ (by with_unfolding_all rfl)
  refine wpAny_getItem_list_slice ht.isList (Heap.IsSliceOf.new _ vl vu vs) pl pu ps (by intro z; cases z; exact absurd h0 (by decide)) ?_ (by rw [List.size_toArray]; omega)
  have e1 : slicePick its.toArray (some i') none (some j') = ((sliceRange (sliceBounds (some i') none (some j') xs.length).1 (sliceBounds (some i') none (some j') xs.length).2.1 (sliceBounds (some i') none (some j') xs.length).2.2).filterMap (its[·]?)).toArray := by
    unfold slicePick
    rw [List.size_toArray, ← hlen]
    simp
  rw [e1]
  refine ⟨.ref _, _, I5.laid (t' := s4.toks) (o := .lst (pickN xs i' j')) (fun b ob q => Heap.get?_push_of_some _ q) (Nat.le_refl _) ?_, rfl, q _ (I5.hok.fresh (Nat.le_refl _))⟩
  exact ⟨Nat.le_trans (pickN_len xs h0) hz, _, 0, Vals.pickF r _, Heap.get?_push_size _ rfl⟩
end
theorem PE.or {X : L2.Cx} {e : Expr} {t t' : TE} (h : PE X e t) (h' : PE X e t') : PE X e (fun σ H Q => t σ H Q ∨ t' σ H Q) := ⟨fun pins s σ H Q I z => z.elim (h.run pins s σ H Q I) (h'.run pins s σ H Q I)⟩
section
variable {X : L2.Cx} {S : Se} {W : WX} {a b c : Expr} {pos p p2 : Pos} {ea eb ec : Env → R Rv}
theorem Red.klst {w : Wo} {v : V} {ds : List D} (s : Same w.F w.H) (h : Red S w (.klst ds) v) : ∃ a vs, v = .ref a ∧ SqL S.K w.H a vs ∧ Dats S w.F ds vs := by
  obtain ⟨a, vs, e, q, r⟩ := h
  exact ⟨a, vs, e, Same.sql s q, r⟩
theorem s_step (hK : S.K = X.K) (ha : PE X a (tE S W ea)) (hb : PE X b (tE S W eb)) (hc : PE X c (tE S W ec)) : PE X (.Subscript a (.Slice (some b) none (some c) p) pos) (tE S W fun e => (ea e).bind fun x e => (eb e).bind fun y e => match y with
    | .val (.int i) => (ec e).bind fun z e => match z with
      | .val (.int j) => (e.peek x).bind fun d e => opStep d i j e
      | _ => .bad
    | _ => .bad) :=
  PE.imp (pe_step ha hb hc) fun σ H Q ⟨e, w, hw, R, g⟩ => tE.one hw R g fun v r q e w1 s1 R1 r1 n1 g => tE.on s1 R1 g fun v2 y q2 e2 w2 s2 s02 R2 r2 n2 _ g => by
    split at g
    · rename_i i
      refine ⟨i, r2.2, tE.on s02 R2 g fun v3 z q3 e3 w3 s3 s03 R3 r3 n3 _ g => ?_⟩
      split at g
      · rename_i j
        refine ⟨j, r3.2, ?_⟩
        obtain ⟨w', e', d, hH, G, s', R', rd, g'⟩ := peek1 s03 R3 ((r1.step s2).step s3) n1 g
        rw [← hH, ← hK]
        have fin : ∀ {a : Addr} {vs : List V} {ds : List D}, v = .ref a → SqL S.K w'.H a vs → Dats S w'.F ds vs → Good S W σ w (if 0 < j then .ok (.fresh (pickN ds i j)) e' else .bad) (postR S σ w Q) →
            ∃ a xs i' j', v = .ref a ∧ some i = some i' ∧ some j = some j' ∧ 0 < j' ∧ SqL S.K w'.H a xs ∧ ∀ p, w'.H p = none → Q (.ref p) (upd w'.H p (.lst (pickN xs i' j'))) := fun {a vs ds} e1 q1 t g' => by
          split at g'
          · rename_i h0
            have t' : Dats S w'.F (pickN ds i j) (pickN vs i j) := by
              unfold pickN
              rw [t.len]
              exact t.pickF _
            exact ⟨a, vs, i, j, e1, rfl, rfl, h0, q1, fun p hp => g'.new s' R' (.of_dats t') List.nodup_nil (fun _ h => by simp at h) (New.nil _) hp⟩
          · exact g'.elim
        cases d with
        | klst ds =>
          obtain ⟨a, vs, e1, q1, t⟩ := Red.klst R'.sub rd
          exact fin e1 q1 t g'
        | lst ds =>
          obtain ⟨a, vs, e1, q1, t⟩ := rd.lst
          exact fin e1 (.inl q1) t g'
        | _ => exact g'.elim
      · exact g.elim
    · exact g.elim
/-! ### a slot's own list goes over -/
theorem s_mov {x : Expr} {i : Nat} (h : PE X x (tVar i)) : PE X x (tE S W fun e => e.mov i) :=
  PE.imp (PE.or h (s_var (S := S) (W := W) h)) fun σ H Q ⟨e, w, hw, R, g⟩ => by
    subst hw
    have g : Good S W σ w (e.mov i) (postR S σ w Q) := g
    unfold Env.mov at g
    split at g
    · rename_i ds hs
      obtain ⟨a, ea, o⟩ := R.slot i _ hs
      have hv : σ[i]? = some (some (.ref a)) := by
        cases q : σ[i]? with
        | none => rw [q] at ea; cases ea
        | some z => rw [q] at ea; exact congrArg some ea
      refine .inl ⟨.ref a, hv, ?_⟩
      have hi : i < e.sl.length := (List.getElem?_eq_some_iff.mp hs).1
      have has : ∀ x, (∃ l, x ∈ updL w.fp (.s i) [] l) → w.has x ∧ x ∉ w.fp (.s i) := fun x ⟨l, hl⟩ => by
        by_cases z : l = .s i
        · subst z
          rw [updL_same] at hl
          simp at hl
        · rw [updL_ne z] at hl
          exact ⟨⟨l, hl⟩, fun y => z (R.dis _ _ x hl y)⟩
      have ih : ∀ x ∈ w.fp (.s i), w.has x := fun x hx => ⟨_, hx⟩
      have st : Step w ⟨w.F, w.H, updL w.fp (.s i) [], w.lf⟩ := ⟨Same.refl _, fun _ _ h _ => h, fun x o h n z => n (has x z).1, fun _ _ _ _ h => h, fun _ o h => ⟨o, h⟩, fun _ _ _ _ h => h, fun _ _ h => h⟩
      have R' : Rep S σ ⟨e.sl.set i .no, e.ps⟩ ⟨w.F, w.H, updL w.fp (.s i) [], w.lf⟩ := by
        have keepS : ∀ {o : Option V} {s : Sl} {l : Fp.Loc} {f : List Addr}, SlRep S w l o s f → SlRep S ⟨w.F, w.H, updL w.fp (.s i) [], w.lf⟩ l o s f := fun {o s l f} h => by
          cases s <;> exact h
        have keepP : ∀ {o : Addr} {s : Pst} {l : Fp.Loc} {f : List Addr}, PsRep S w l o s f → PsRep S ⟨w.F, w.H, updL w.fp (.s i) [], w.lf⟩ l o s f := fun {o s l f} h => by
          cases s <;> exact h
        refine ⟨R.sub, by simpa using R.len, R.plen, fun j s hj => ?_, fun j hj => ?_, fun k p hp => ?_, fun k hk => ?_, fun l => ?_, fun l l' x h1 h2 => ?_, fun x hx => R.off x (has x hx).1, fun x hx => R.ale x (has x hx).1, R.leh⟩
        · by_cases z : j = i
          · subst z
            have : s = .no := by
              have hj' : (e.sl.set j .no)[j]? = some s := hj
              rw [List.getElem?_set_self hi] at hj'
              exact (Option.some.inj hj').symm
            subst this
            exact updL_same
          · have hj' : (e.sl.set i .no)[j]? = some s := hj
            rw [List.getElem?_set_ne (fun y => z y.symm)] at hj'
            have := R.slot j s hj'
            show SlRep S _ _ _ s (updL w.fp (.s i) [] (.s j))
            rw [updL_ne (fun y => z (by cases y; rfl))]
            exact keepS this
        · have hj' : e.sl.length ≤ j := by simpa using hj
          show updL w.fp (.s i) [] (.s j) = []
          rw [updL_ne (fun y => by cases y; omega)]
          exact R.out j hj'
        · obtain ⟨a, e1, h1⟩ := R.par k p hp
          refine ⟨a, e1, ?_⟩
          show PsRep S _ _ _ p (updL w.fp (.s i) [] (.p k))
          rw [updL_ne (fun y => by cases y)]
          exact keepP h1
        · show updL w.fp (.s i) [] (.p k) = []
          rw [updL_ne (fun y => by cases y)]
          exact R.pout k hk
        · show (updL w.fp (.s i) [] l).Nodup
          by_cases z : l = .s i
          · rw [z, updL_same]; exact List.nodup_nil
          · rw [updL_ne z]; exact R.nd l
        · have h1' : x ∈ updL w.fp (.s i) [] l := h1
          have h2' : x ∈ updL w.fp (.s i) [] l' := h2
          by_cases z : l = .s i
          · rw [z, updL_same] at h1'; simp at h1'
          · by_cases z' : l' = .s i
            · rw [z', updL_same] at h2'; simp at h2'
            · rw [updL_ne z] at h1'
              rw [updL_ne z'] at h2'
              exact R.dis l l' x h1' h2'
      refine g _ st R' (.ref a) (w.fp (.s i)) ⟨a, rfl, o, R.nd _, fun x hx => ⟨R.off x (ih x hx), fun z => (has x z).2 hx, R.ale x (ih x hx)⟩⟩ fun x hx o ho => ih x hx
    · exact .inr ⟨e, w, rfl, R, g⟩
/-! ### a list within a list of one's own -/
theorem Env.sub_inv {e : Env} {i k : Nat} {l : Fp.Loc} {ds xs : List D} (h : e.sub i k = some (l, ds, xs)) : e.var i = .ok (.loc l) e ∧ e.at l = some (.own ds) ∧ ds[k]? = some (.olst xs) := by
  unfold Env.sub at h
  split at h
  · rename_i l' e' h1
    split at h
    · rename_i ds' h2
      split at h
      · rename_i xs' h3
        cases h
        refine ⟨?_, h2, h3⟩
        have : e' = e := by
          unfold Env.var at h1
          repeat' split at h1
          all_goals first | (cases h1; done) | (injection h1 with _ h; exact h.symm)
        rw [← this] at h1 ⊢
        rw [this] at h1 ⊢
        exact h1
      · cases h
    · cases h
  · cases h
theorem var_loc {σ : L2.St} {e : Env} {w : Wo} {i : Nat} {l : Fp.Loc} {ds : List D} (R : Rep S σ e w) (h : e.var i = .ok (.loc l) e) (hl : e.at l = some (.own ds)) : ∃ a vs g, σ[i]? = some (some (.ref a)) ∧ LocA S σ l a ∧ w.H a = some (.lst vs) ∧ w.fp l = a :: g ∧ OwnIs S w.F w.H ds vs g := by
  obtain ⟨a, vs, g, h1, la, hfp, os, _, _, _⟩ := R.ownAt hl
  refine ⟨a, vs, g, ?_, la, h1, hfp, os⟩
  have get : ∀ {v : V}, (σ[i]?).join = some v → σ[i]? = some (some v) := fun {v} h => by
    cases q : σ[i]? with
    | none => rw [q] at h; cases h
    | some z => rw [q] at h; exact congrArg some h
  unfold Env.var at h
  split at h
  · cases h
  · rename_i ds' hs
    cases h
    exact la
  · rename_i ds' hs
    cases h
    exact la
  · rename_i k hs
    obtain ⟨_, b, e1, e2⟩ := R.slot i _ hs
    have hb : l = .p k := by
      split at h <;> first | (cases h; done) | (cases h; rfl)
    subst hb
    have e3 : S.pa[k]? = some a := la
    rw [e2] at e3
    cases e3
    exact get e1
  · cases h
/-- where the inner list stands -/
theorem OwnIs.inner : ∀ {ds : List D} {vs : List V} {g : List Addr} {F H : Hp} {k : Nat} {xs : List D}, OwnIs S F H ds vs g → g.Nodup → ds[k]? = some (.olst xs) →
    ∃ b us, vs[k]? = some (.ref b) ∧ b ∈ g ∧ H b = some (.lst us) ∧ Dats S F xs us ∧ ∀ (H' : Hp) (ys : List D) (us' : List V), (∀ x, x ≠ b → H' x = H x) → H' b = some (.lst us') → Dats S F ys us' → OwnIs S F H' (ds.set k (.olst ys)) vs g
  | [], _, _, _, _, _, _, _, _, e => by simp at e
  | d :: ds, vs, g, F, H, 0, xs, h, nd, e => by
    obtain ⟨v, us, f, g1, rfl, rfl, t, r⟩ := h
    simp at e
    subst e
    obtain ⟨b, ws, rfl, rfl, hb, dx⟩ := t
    have nd' := List.nodup_append.mp nd
    refine ⟨b, ws, rfl, by simp, hb, dx, fun H' ys us' k1 k2 k3 => ⟨.ref b, us, [b], g1, rfl, rfl, ⟨b, us', rfl, rfl, k2, k3⟩, r.mono (Same.refl _) fun x hx => k1 x fun z => ?_⟩⟩
    subst z
    exact nd'.2.2 x (by simp) x hx rfl
  | d :: ds, vs, g, F, H, k + 1, xs, h, nd, e => by
    obtain ⟨v, us, f, g1, rfl, rfl, t, r⟩ := h
    simp at e
    have nd' := List.nodup_append.mp nd
    obtain ⟨b, ws, h1, h2, h3, h4, h5⟩ := OwnIs.inner (k := k) r nd'.2.1 e
    refine ⟨b, ws, by simpa using h1, List.mem_append_right _ h2, h3, h4, fun H' ys us' k1 k2 k3 => ⟨v, us, f, g1, rfl, rfl, t.mono (Same.refl _) fun x hx => k1 x fun z => ?_, h5 H' ys us' k1 k2 k3⟩⟩
    subst z
    exact nd'.2.2 x hx x h2 rfl
theorem atI_natK {α : Type} {xs : List α} {j : Nat} {v : α} (h : xs[j]? = some v) : atI xs (j : Int) = some v := atI_nat h
theorem pe_const_int {i : Int} {j : Nat} {q : Pos} : PE X (.Constant (.int i) j q) (tC (.int i)) := pe_int
theorem s_ipop (hK : S.K = X.K) {x : Str} {i k j1 j2 : Nat} {p1 p2 p3 p4 apos pos : Pos} (h : PE X (.Name x p1) (tVar i)) (hline : (apos.endLine == pos.line) = true) :
    PE X (.Call (.Attribute (.Subscript (.Name x p1) (.Constant (.int k) j1 p2) p3) "pop" apos) [.Constant (.int 0) j2 p4] [] pos) (tE S W fun e => e.ipop i k) := by
  have ho : PE X (.Subscript (.Name x p1) (.Constant (.int k) j1 p2) p3) (tOp _ (tVar i) (tC (.int k))) := pe_ix ix_seq h pe_int (plainIx rfl)
  have ha : PA X [.Constant (.int 0) j2 p4] (tCons (tC (.int 0)) tNil) := pa_cons pe_int pa_nil
  refine PE.imp (pe_bm PySem.F.plainAttrs_list PySem.F.slot_list_pop PySem.F.type_list_pop mt_popAt ho ha (attr_base rfl) (by rw [star_cons rfl]; rfl) hline (star_cons rfl) rfl) fun σ H Q ⟨e, w, hw, R, g⟩ => ?_
  subst hw
  have g : Good S W σ w (e.ipop i k) (postR S σ w Q) := g
  unfold Env.ipop at g
  split at g
  · rename_i l ds x0 xs hs
    obtain ⟨h1, h2, h3⟩ := Env.sub_inv hs
    obtain ⟨a, vs, gg, e1, la, e2, hfp, os⟩ := var_loc R h1 h2
    have nd := R.nd l
    rw [hfp] at nd
    obtain ⟨ag, ng⟩ := List.nodup_cons.mp nd
    obtain ⟨b, us, b1, b2, b3, b4, b5⟩ := os.inner ng h3
    obtain ⟨u0, us0, rfl, d0, dr⟩ := b4.cons_inv
    have bl : b ∈ w.fp l := by rw [hfp]; exact List.mem_cons_of_mem _ b2
    have bh : w.has b := ⟨l, bl⟩
    have ba : b ≠ a := fun z => ag (by rw [← z]; exact b2)
    refine ⟨.ref a, e1, .inl ⟨a, vs, k, .ref b, rfl, rfl, .inl (.inl e2), atI_nat b1, .inl ⟨rfl, _, .inl (.inl b3)⟩, ?_⟩⟩
    show rPopAt (.ref b) [.int 0] w.H Q
    refine ⟨b, u0 :: us0, 0, 0, u0, rfl, rfl, b3, by decide, by decide, by simp [seqIndex?], rfl, ?_⟩
    show Q u0 (upd w.H b (.lst us0))
    have R' : Rep S σ (e.put l (.own (ds.set k (.olst xs)))) ⟨w.F, upd w.H b (.lst us0), updL w.fp l (a :: gg), w.lf⟩ := by
      have oo := b5 (upd w.H b (.lst us0)) xs us0 (fun x hx => upd_ne hx) upd_same dr
      refine R.upd l _ _ h2 (Same.refl _) (fun y o z => ?_) (fun x o h n => ?_) (fun x h _ => R.off x h) (fun x m _ z => z) nd (fun x h => ?_) (fun x h => .inl (by rw [hfp]; exact h)) (fun x h _ => Classical.not_not.mp (R.ale x h)) (fun x z => ?_)
        (PlRep.mk_own la ⟨vs, gg, by show upd w.H b _ a = _; rw [upd_ne (fun z => ba z.symm)]; exact e2, rfl, oo⟩)
      · have : y ≠ b := fun t => by rw [t, R.off b bh] at z; cases z
        rw [upd_ne this]; exact R.sub y o z
      · rw [upd_ne fun z => n (by rw [z]; exact bl)]; exact h
      · have hh : w.has x := ⟨l, by rw [hfp]; exact h⟩
        exact ⟨R.off x hh, Classical.not_not.mp (R.ale x hh)⟩
      · obtain ⟨o, ho⟩ := R.leh x z
        by_cases t : x = b
        · subst t; exact ⟨_, upd_same⟩
        · exact ⟨o, by rw [upd_ne t]; exact ho⟩
    have efp : updL w.fp l (a :: gg) = w.fp := by
      funext m
      by_cases t : m = l
      · rw [t, updL_same, hfp]
      · rw [updL_ne t]
    rw [efp] at R'
    have st : Step w ⟨w.F, upd w.H b (.lst us0), w.fp, w.lf⟩ := ⟨Same.refl _, fun x o h n => by
      show upd w.H b _ x = _
      rw [upd_ne fun z => n (by rw [z]; exact bh)]; exact h, fun x o h n => n, fun x o h n z => z, fun x o h => by
      by_cases t : x = b
      · subst t; exact ⟨_, upd_same⟩
      · exact ⟨o, by show upd w.H b _ x = _; rw [upd_ne t]; exact h⟩, fun x o h n z => z, fun x l z => z⟩
    exact g.val st R' d0
  · exact g.elim
theorem s_ine (hK : S.K = X.K) (hu : X.A.units + 65 < cLine) {x : Str} {i k j1 : Nat} {p1 p2 p3 p4 pos : Pos} (h : PE X (.Name x p1) (tVar i)) :
    PE X (.Compare (.Subscript (.Name x p1) (.Constant (.int k) j1 p2) p3) [.NotEq] [.List [] p4] pos) (tE S W fun e => e.ine i k) := by
  have h0 := s_cmp (S := S) (W := W) (pos := pos) (a := .Subscript (.Name x p1) (.Constant (.int k) j1 p2) p3) (b := .List [] p4) hK hu .ne (s_idx (pos := p3) hK (s_var h) (s_cst (d := .int k) pe_int fun F => rfl) (plainIx rfl)) (s_lst s_nil) (behind rfl _)
  have h1 : PE X (.Compare (.Subscript (.Name x p1) (.Constant (.int k) j1 p2) p3) [.NotEq] [.List [] p4] pos) (tOp (rCop X.K .ne) (tOp _ (tVar i) (tC (.int k))) _) := pe_cmpR (op_cop hu .ne) (pe_ix ix_seq h pe_int (plainIx rfl)) (pe_lst pa_nil) (behind rfl _)
  refine PE.imp (PE.or h0 h1) fun σ H Q ⟨e, w, hw, R, g⟩ => ?_
  subst hw
  have g : Good S W σ w (e.ine i k) (postR S σ w Q) := g
  unfold Env.ine at g
  split at g
  · rename_i l ds xs hs
    refine .inr ?_
    obtain ⟨h1, h2, h3⟩ := Env.sub_inv hs
    obtain ⟨a, vs, gg, e1, la, e2, hfp, os⟩ := var_loc R h1 h2
    have nd := R.nd l
    rw [hfp] at nd
    obtain ⟨ag, ng⟩ := List.nodup_cons.mp nd
    obtain ⟨b, us, b1, b2, b3, b4, b5⟩ := os.inner ng h3
    have bh : w.has b := ⟨l, by rw [hfp]; exact List.mem_cons_of_mem _ b2⟩
    refine ⟨.ref a, e1, .inl ⟨a, vs, k, .ref b, rfl, rfl, .inl (.inl e2), atI_nat b1, ?_⟩⟩
    refine ⟨by decide, fun p hp => ?_⟩
    split at g
    · rename_i hk
      obtain ⟨R', s'⟩ := alloc_new R (o := .lst []) hp
      have hk' := Bool.and_eq_true_iff.mp hk
      have bp : b ≠ p := fun z => by rw [← z, b3] at hp; cases hp
      -- the inner list, read as if it were a value
      have rd : Red S ⟨w.F, upd w.H p (.lst []), w.fp, w.lf⟩ (.lst xs) (.ref b) := ⟨b, us, rfl, .inl (by show upd w.H p _ b = _; rw [upd_ne bp]; exact b3), b4⟩
      have dp1 := Red.dp (S := S) R'.sub rd hk'.1
      have dp2 : Dp S.K (upd w.H p (.lst [])) (.ref p) (D.toP (.lst [])) := .lst (.inl (.inl upd_same)) .nil
      rw [← hK]
      refine .inr ⟨_, _, dp1, dp2, hk'.2, by decide, ?_⟩
      exact g.val s' R' (v := .bl _) rfl
    · exact g.elim
  · refine .inl ⟨e, w, rfl, R, ?_⟩
    have e0 : ∀ e : Env, ((Fp.R.ok [] e).bind fun rs e => (e.items rs).bind fun ds e => if ds.length ≤ LIM then Fp.R.ok (Rv.fresh ds) e else Fp.R.bad) = .ok (.fresh []) e := fun e => by
      show (if ([] : List D).length ≤ LIM then Fp.R.ok (Rv.fresh []) e else Fp.R.bad) = _
      exact if_pos (Nat.zero_le LIM)
    have e1 : ∀ x : Rv, ∀ e : Env, ((Fp.R.ok (Rv.val (D.int (k : Int))) e).bind fun y e => opIdx x y e) = opIdx x (.val (.int k)) e := fun x e => rfl
    have bas : ∀ {α β γ : Type} (m : Fp.R α) (f : α → Env → Fp.R β) (h : β → Env → Fp.R γ), (m.bind f).bind h = m.bind fun a e => (f a e).bind h := fun m f h => by cases m <;> rfl
    simp only [e0, e1, bas, Fp.R.bind_ok]
    exact g
theorem PT.or {X : L2.Cx} {e : Expr} {t t' : TT} (h : PT X e t) (h' : PT X e t') : PT X e (fun σ H Q => t σ H Q ∨ t' σ H Q) := ⟨fun pins s σ H Q I z => z.elim (h.run pins s σ H Q I) (h'.run pins s σ H Q I)⟩
theorem t_ine (hK : S.K = X.K) (hu : X.A.units + 65 < cLine) {x : Str} {i k j1 : Nat} {p1 p2 p3 p4 pos : Pos} (h : PE X (.Name x p1) (tVar i)) :
    PT X (.Compare (.Subscript (.Name x p1) (.Constant (.int k) j1 p2) p3) [.NotEq] [.List [] p4] pos) (tT S W fun e => (e.ine i k).bind fun r e => opTru r e) := by
  have h0 := t_cmp (S := S) (W := W) (pos := pos) (a := .Subscript (.Name x p1) (.Constant (.int k) j1 p2) p3) (b := .List [] p4) hK hu .ne (s_idx (pos := p3) hK (s_var h) (s_cst (d := .int k) pe_int fun F => rfl) (plainIx rfl)) (s_lst s_nil) (behind rfl _)
  have h1 : PT X (.Compare (.Subscript (.Name x p1) (.Constant (.int k) j1 p2) p3) [.NotEq] [.List [] p4] pos) (tTest (tOp (rCop X.K .ne) (tOp _ (tVar i) (tC (.int k))) _)) := pt_cmpR (op_cop hu .ne) (pe_ix ix_seq h pe_int (plainIx rfl)) (pe_lst pa_nil) (behind rfl _)
  refine PT.imp (PT.or h0 h1) fun σ H Q ⟨e, w, hw, R, g⟩ => ?_
  subst hw
  have g : Good S W σ w ((e.ine i k).bind fun r e => opTru r e) (postB Q) := g
  unfold Env.ine at g
  split at g
  · rename_i l ds xs hs
    refine .inr ?_
    obtain ⟨h1, h2, h3⟩ := Env.sub_inv hs
    obtain ⟨a, vs, gg, e1, la, e2, hfp, os⟩ := var_loc R h1 h2
    have nd := R.nd l
    rw [hfp] at nd
    obtain ⟨ag, ng⟩ := List.nodup_cons.mp nd
    obtain ⟨b, us, b1, b2, b3, b4, b5⟩ := os.inner ng h3
    have bh : w.has b := ⟨l, by rw [hfp]; exact List.mem_cons_of_mem _ b2⟩
    refine ⟨.ref a, e1, .inl ⟨a, vs, k, .ref b, rfl, rfl, .inl (.inl e2), atI_nat b1, ?_⟩⟩
    refine ⟨by decide, fun p hp => ?_⟩
    split at g
    · rename_i hk
      obtain ⟨R', s'⟩ := alloc_new R (o := .lst []) hp
      have hk' := Bool.and_eq_true_iff.mp hk
      have bp : b ≠ p := fun z => by rw [← z, b3] at hp; cases hp
      -- the inner list, read as if it were a value
      have rd : Red S ⟨w.F, upd w.H p (.lst []), w.fp, w.lf⟩ (.lst xs) (.ref b) := ⟨b, us, rfl, .inl (by show upd w.H p _ b = _; rw [upd_ne bp]; exact b3), b4⟩
      have dp1 := Red.dp (S := S) R'.sub rd hk'.1
      have dp2 : Dp S.K (upd w.H p (.lst [])) (.ref p) (D.toP (.lst [])) := .lst (.inl (.inl upd_same)) .nil
      rw [← hK]
      refine .inr ⟨_, _, dp1, dp2, hk'.2, by decide, ?_⟩
      exact ⟨_, rfl, g _ s' R'⟩
    · exact g.elim
  · refine .inl ⟨e, w, rfl, R, ?_⟩
    have e0 : ∀ e : Env, ((Fp.R.ok [] e).bind fun rs e => (e.items rs).bind fun ds e => if ds.length ≤ LIM then Fp.R.ok (Rv.fresh ds) e else Fp.R.bad) = .ok (.fresh []) e := fun e => by
      show (if ([] : List D).length ≤ LIM then Fp.R.ok (Rv.fresh []) e else Fp.R.bad) = _
      exact if_pos (Nat.zero_le LIM)
    have e1 : ∀ x : Rv, ∀ e : Env, ((Fp.R.ok (Rv.val (D.int (k : Int))) e).bind fun y e => opIdx x y e) = opIdx x (.val (.int k)) e := fun x e => rfl
    have bas : ∀ {α β γ : Type} (m : Fp.R α) (f : α → Env → Fp.R β) (h : β → Env → Fp.R γ), (m.bind f).bind h = m.bind fun a e => (f a e).bind h := fun m f h => by cases m <;> rfl
    rw [blV_tru] at g
    simp only [e0, e1, bas, Fp.R.bind_ok]
    exact g
end
/-! ### lists of one's own as if they were values -/
theorem Rep.ice {S : Se} {σ : L2.St} {e : Env} {w : Wo} (R : Rep S σ e w) : ∃ w', w'.H = w.H ∧ Same w.F w'.F ∧ (∀ x, ¬ w'.has x) ∧ w'.lf = w.lf ∧ Rep S σ e.ice w' := by
  have hA : ∀ l, ∀ x ∈ w.fp l, x ∈ (List.range e.sl.length).flatMap (fun i => w.fp (.s i)) ++ (List.range e.ps.length).flatMap (fun k => w.fp (.p k)) := fun l x hx => by
    cases l with
    | s i =>
      refine List.mem_append_left _ (List.mem_flatMap.mpr ⟨i, List.mem_range.mpr ?_, hx⟩)
      rcases Nat.lt_or_ge i e.sl.length with z | z
      · exact z
      · rw [R.out i z] at hx; cases hx
    | p k =>
      refine List.mem_append_right _ (List.mem_flatMap.mpr ⟨k, List.mem_range.mpr ?_, hx⟩)
      rcases Nat.lt_or_ge k e.ps.length with z | z
      · exact z
      · rw [R.pout k z] at hx; cases hx
  have hB : ∀ x ∈ (List.range e.sl.length).flatMap (fun i => w.fp (.s i)) ++ (List.range e.ps.length).flatMap (fun k => w.fp (.p k)), w.has x := fun x hx => by
    rcases List.mem_append.mp hx with hx | hx
    · obtain ⟨i, _, h⟩ := List.mem_flatMap.mp hx
      exact ⟨_, h⟩
    · obtain ⟨i, _, h⟩ := List.mem_flatMap.mp hx
      exact ⟨_, h⟩
  generalize (List.range e.sl.length).flatMap (fun i => w.fp (.s i)) ++ (List.range e.ps.length).flatMap (fun k => w.fp (.p k)) = A at hA hB
  have off : ∀ x ∈ A, w.F x = none := fun x hx => R.off x (hB x hx)
  have sF : Same w.F (grow w.F w.H A) := grow_same off
  refine ⟨⟨grow w.F w.H A, w.H, fun _ => [], w.lf⟩, rfl, sF, fun x ⟨l, h⟩ => absurd (show x ∈ ([] : List Addr) from h) (by simp), rfl, grow_sub R.sub, by simpa [Env.ice] using R.len, by simpa [Env.ice] using R.plen, fun i s hs => ?_, fun _ _ => rfl, fun k p hp => ?_, fun _ _ => rfl, fun _ => List.nodup_nil,
    fun _ _ x h => absurd (show x ∈ ([] : List Addr) from h) (by simp), fun x ⟨l, h⟩ => absurd (show x ∈ ([] : List Addr) from h) (by simp), fun x ⟨l, h⟩ => absurd (show x ∈ ([] : List Addr) from h) (by simp), R.leh⟩
  · have hs' : (e.sl.map iceS)[i]? = some s := hs
    rw [List.getElem?_map] at hs'
    cases q : e.sl[i]? with
    | none => rw [q] at hs'; cases hs'
    | some s0 =>
      rw [q] at hs'
      cases hs'
      have r := R.slot i s0 q
      cases s0 with
      | no => exact rfl
      | val d =>
        obtain ⟨_, v, e1, h1⟩ := r
        exact ⟨rfl, v, e1, Dat.mono sF _ _ h1⟩
      | own ds =>
        obtain ⟨a, e1, o⟩ := r
        exact ⟨rfl, .ref a, e1, o.frozen (hA _) off⟩
      | lea ds =>
        obtain ⟨_, a, vs, e1, h1, h2, h3⟩ := r
        exact ⟨rfl, a, vs, e1, h1, h2.mono sF, h3⟩
      | lnk k =>
        obtain ⟨_, a, e1, h1⟩ := r
        exact ⟨rfl, a, e1, h1⟩
  · have hp' : (e.ps.map iceP)[k]? = some p := hp
    rw [List.getElem?_map] at hp'
    cases q : e.ps[k]? with
    | none => rw [q] at hp'; cases hp'
    | some p0 =>
      rw [q] at hp'
      cases hp'
      obtain ⟨a, ea, r⟩ := R.par k p0 q
      refine ⟨a, ea, ?_⟩
      cases p0 with
      | own ds =>
        have o : Own S w.F w.H a ds (w.fp (.p k)) := r
        exact ⟨rfl, o.frozen (hA _) off⟩
      | lea ds =>
        obtain ⟨_, vs, h1, h2, h3⟩ := r
        exact ⟨rfl, vs, h1, h2.mono sF, h3⟩
      | frz ds => exact ⟨rfl, Dat.mono sF _ _ r.2⟩
theorem sc_any {S : Se} {F F' : Hp} {d : D} {v : V} (h : isSc d = true) (r : Dat S F d v) : Dat S F' d v := by
  cases d <;> first | exact r | cases h
section
variable {X : L2.Cx} {S : Se} {W : WX} {x : Expr} {ev : Env → R Rv}
theorem s_iced (h : PE X x (tE S W ev)) : PE X x (tE S W fun e => iced e (ev e.ice) (ev e)) :=
  PE.imp h fun σ H Q ⟨e, w, hw, R, g⟩ => by
    subst hw
    have g : Good S W σ w (iced e (ev e.ice) (ev e)) (postR S σ w Q) := g
    unfold iced at g
    split at g
    · rename_i d e2 he
      split at g
      · rename_i hsc
        obtain ⟨wh, hH, sF, hno, hlf, Rh⟩ := R.ice
        refine ⟨e.ice, wh, hH, Rh, ?_⟩
        rw [he]
        intro w2 s2 R2 v q hv _
        have keep : ∀ x o, w.H x = some o → w2.H x = some o := fun x o ho => s2.b x o (by rw [hH]; exact ho) (hno x)
        have hg : Good S W σ w (.ok (.val d) e) (postR S σ w Q) := g
        have st : Step w ⟨w.F, w2.H, w.fp, w.lf⟩ := ⟨Same.refl _, fun x o ho _ => keep x o ho, fun x o _ n => n, fun x o _ _ z => z, fun x o ho => ⟨o, keep x o ho⟩, fun x o _ _ z => z, fun x l z => z⟩
        have Rn : Rep S σ e ⟨w.F, w2.H, w.fp, w.lf⟩ := R.more (Same.refl _) (fun b o z => keep b o (R.sub b o z)) (fun b o z => keep b o z) (fun x hx => R.off x hx)
        exact Good.val (S := S) (W := W) (w := ⟨w.F, w2.H, w.fp, w.lf⟩) hg st Rn (v := v) (sc_any hsc hv.2)
      · exact ⟨e, w, rfl, R, g⟩
    · exact ⟨e, w, rfl, R, g⟩
end
end Fp
namespace Fp
open PySem PySem.W PySem.Calls PySem.HandSPX PySem.Builtin PySem.Builtin.ObjectAttr
section
variable {M : Model} {A : Around} {E : Value → Shared → Prop} {h : Heap} {g : Array GenState} {d : Drawn} {t : Nat} {os : OsState}
variable {nm q : Str} {C N : Addr} {bs bm bmV : List Value} {hdct : Bool} {sn : List Str} {sub : List Value} {ab : Bool} {col : Option Bool} {dd : Option Addr} {k0 k1 k2 k3 k5 : Option Value} {B nid initId : String}
theorem kw_check_new (F : ExcBaseFacts B nid initId bmV) (same : ∀ X : String, bm.contains (.type X) = bmV.contains (.type X)) {kw : List (Str × Value)} {Q : Unit → Shared → Prop}
    (atC : h.get? C = some (excClassObj nm q C N bs bm hdct sn sub ab col dd k0 k1 k2 k3 k5 nid)) (fin : Q () ⟨h, g, d, t, os⟩) :
    wpAny M A (checkBuiltinCall nid ⟨[.ref C], kw⟩) Q E ⟨h, g, d, t, os⟩ := by
  have hcont : (Value.ref C :: bm).contains (.type B) = true := by
    rw [List.contains_cons, same, F.hasB, Bool.or_true]
  have hstar := F.noStar
  simp only [checkBuiltinCall, F.newKind, F.newSplit, F.newRow]
  repeat (first
    | refine wpAny_loadPart_at atC ?_
    | (refine wpAny_isSubtype_exc atC ?_; rw [hcont])
    | refine wpAny_staticBase_exc atC ?_
    | refine wpAny_madeBy_exc atC ?_
    | simp only [bne_self_eq_false, Bool.false_eq_true, if_false]
    | wp_step)
  exact fin
end
section
variable {prog : Program} {w : World} {A : Around} {E : Value → Shared → Prop} {R : Result → Shared → Prop} {h : Heap} {g : Array GenState} {d : Drawn} {t : Nat} {os : OsState}
variable {nm q : Str} {C N : Addr} {bs bm bmV : List Value} {hdct : Bool} {sn : List Str} {sub : List Value} {ab : Bool} {col : Option Bool} {dd : Option Addr} {k0 k1 k2 k3 k5 : Option Value} {B nid initId : String}
theorem kw_new (F : ExcBaseFacts B nid initId bmV) (same : ∀ X : String, bm.contains (.type X) = bmV.contains (.type X)) {kw : List (Str × Value)}
    (atC : h.get? C = some (excClassObj nm q C N bs bm hdct sn sub ab col dd k0 k1 k2 k3 k5 nid))
    (fin : R (.ok (.ret (.ref (h.objs.size + 1)))) ⟨(h.push (W.kdv_tup [])).push (excO C h.objs.size), g, d, t, os⟩) :
    codeAny (model prog w) A (.builtin nid ⟨[.ref C], kw⟩) R ⟨h, g, d, t, os⟩ := by
  have hends := F.ends
  have hB : (Value.ref C :: bm).contains (.type B) = true := by
    rw [List.contains_cons, same, F.hasB, Bool.or_true]
  have hA : (Value.ref C :: bm).contains (.type "AttributeError") = false := by
    rw [List.contains_cons, same, F.noAttr]
    rfl
  have hN : (Value.ref C :: bm).contains (.type "NameError") = false := by
    rw [List.contains_cons, same, F.noName]
    rfl
  have hrest : ([] : List Value).length ≤ sizeLine := Nat.zero_le _
  refine codeAny_builtinAt F.entry ?_
  unfold Builtin.«BaseException.__new__»
  refine PySem.wpAt_bind ?_
  show wpAt _ _ _ (stack >>= _) _ _ _
  refine PySem.wpAt_bind (wpAt_stack fun p below => wpAt_of_wpAny ?_)
  wp_walk
  refine wpAt_of_wpAny ?_
  rw [F.owner]
  repeat (first
    | with_reducible refine wpAny_madeHere_exc F.canon atC ?_
    | with_reducible refine wpAny_loadPart_at atC ?_
    | (with_reducible refine wpAny_isSubtype_exc atC ?_; first | rw [hB] | rw [hA] | rw [hN])
    | wp_step)
  show R _ _
  rw [Heap.size_push]
  exact fin
theorem kw_type_call (F : ExcBaseFacts B nid initId bmV) (same : ∀ X : String, bm.contains (.type X) = bmV.contains (.type X)) {kw : List (Str × Value)} {fI : Addr} {Q : Fin → Shared → Prop}
    (atC : h.get? C = some (excClassObj nm q C N bs bm hdct sn sub ab col dd k0 k1 k2 k3 k5 nid))
    (hi : W.Looks (model prog w) h (typeLookup (.ref C) "__init__") (some (.ref fI))) (hb : ∀ self, W.Looks (model prog w) h (bindSpecial (.ref fI) self) (.ref fI, [self]))
    (fin : codeAny (model prog w) A (.call (.ref fI) ⟨[.ref (h.objs.size + 1)], kw⟩)
      (fun r s' => match r with | .ok (.ret v) => v = .none ∧ Q (.done (.ret (.ref (h.objs.size + 1)))) s' | .ok _ => False | .error e => E e s')
      ⟨(h.push (W.kdv_tup [])).push (excO C h.objs.size), g, d, t, os⟩) :
    wpAny (model prog w) A (Builtin.«type.__call__» ⟨[.ref C], kw⟩) Q E ⟨h, g, d, t, os⟩ := by
  repeat (first
    | with_reducible refine wpAny_loadPart_at atC ?_
    | with_reducible refine wpAny_madeBy_exc atC ?_
    | wp_step)
  refine codeAny_call_builtin_code (Code.quiet_builtin _ F.quiet) (kw_check_new F same atC ?_)
  refine kw_new F same atC ?_
  show wpAny _ _ _ _ _ _
  have kk : ∀ b o, h.get? b = some o → ((h.push (W.kdv_tup [])).push (excO C h.objs.size)).get? b = some o := fun b o e =>
    Heap.get?_push_of_some _ (Heap.get?_push_of_some _ e)
  have c1 := kk _ _ atC
  have gt : ((h.push (W.kdv_tup [])).push (excO C h.objs.size)).get? (h.objs.size + 1) = some (excO C h.objs.size) := by heap_get
  have cC : (Value.ref C :: bm).contains (.ref C) = true := by simp
  have i1 := hi.keeps kk
  have b1 := (hb (.ref (h.objs.size + 1))).keeps kk
  unfold isInstance
  repeat (first
    | with_reducible refine wpAny_loadPart_at gt ?_
    | (with_reducible refine wpAny_isSubtype_exc c1 ?_; rw [cC])
    | wp_step)
  show wpAny _ _ (typeLookup (.ref C) _) _ _ _
  refine i1.at ?_
  refine wpAny_holding (wpAny_bind (b1.at ?_))
  refine wpAny_bind (wpAny_call (codeAny_mono fin fun r s' z => ?_))
  rcases r with e | (v | _ | _ | _) <;> first | exact z | exact z.elim | skip
  obtain ⟨rfl, z⟩ := z
  first
    | exact wpAny_pure (wpAny_pure z)
    | (wp_walk; exact z)
theorem kw_call_own (F : ExcBaseFacts B nid initId bmV) (same : ∀ X : String, bm.contains (.type X) = bmV.contains (.type X)) {kw : List (Str × Value)} {fI : Addr}
    (atC : h.get? C = some (excClassObj nm q C N bs bm hdct sn sub ab col dd k0 k1 k2 k3 k5 nid))
    (hi : W.Looks (model prog w) h (typeLookup (.ref C) "__init__") (some (.ref fI))) (hb : ∀ self, W.Looks (model prog w) h (bindSpecial (.ref fI) self) (.ref fI, [self]))
    (fin : codeAny (model prog w) (A.under (.builtin "type.__call__" ⟨[.ref C], kw⟩)) (.call (.ref fI) ⟨[.ref (h.objs.size + 1)], kw⟩) (W.InitBack (h.objs.size + 1) R)
      ⟨(h.push (W.kdv_tup [])).push (excO C h.objs.size), g, d, t, os⟩) :
    codeAny (model prog w) A (.call (.ref C) ⟨[], kw⟩) R ⟨h, g, d, t, os⟩ := by
  have f1 := tc_lookup
  have f2 := tc_bind (.ref C)
  have hTy : (⟨h, g, d, t, os⟩ : Shared).TypeIs (.ref C) "type" := ⟨_, atC, rfl⟩
  refine codeAny_of_tree ?_
  show wpAny _ _ (callAny (.ref C) _) _ _ _
  repeat (any_goals (first
    | assumption
    | with_reducible refine wpAny_loadPart_at atC ?_
    | wp_step))
  refine ⟨rfl, ?_⟩
  refine codeAny_call_builtin_at (Code.quiet_builtin _ (by decide +kernel)) entry_typeCall (wpAny_check_type_call_sub atC (kw_type_call F same atC hi hb ?_))
  refine codeAny_mono fin fun r s' z => ?_
  rcases r with e | (v | _ | _ | _) <;> exact z
end
end Fp
/-! FpErr: own error classes over ValueError that keep one value: made, raised, caught, asked. -/
namespace Fp
open PySem PySem.Spec PyProof.Rows L2
/-- what must be known of such a class, at C; its `__init__` at fI -/
structure ErrK (K : PySem.W.Frag) (C fI : Addr) : Prop where
  ox : OexC K C
  ec : ExcC K C
  noV : PySem.W.findIn K (.ref C) "value" = some none
  iC : PySem.W.findIn K (.ref C) "__init__" = some (some (.ref fI))
  tI : PySem.W.typeIn K (.ref fI) = some (.type "function")
def oexB (K : PySem.W.Frag) (C : Addr) : Bool := match K.lookup C with
  | some ⟨.type t, _, .cls cd, sl⟩ => decide (t = "type") && (match cd.mro, sl.toList with
    | .ref C' :: bm, [_, _, _, _, some (.builtin n), _] => decide (C' = C) && (decide (n = "ValueError.__new__") && (!cd.hasDel && (cd.hasDict && HandSPX.refsVE bm)))
    | _, _ => false)
  | _ => false
theorem oexB_ok {K : PySem.W.Frag} {C : Addr} (h : oexB K C = true) : ∃ nm q N bs bm sn sub ab col dd s0 s1x k2 k3 k5, K.lookup C = some (excClassObj nm q C N bs bm true sn sub ab col dd s0 s1x k2 k3 k5 "ValueError.__new__") ∧ HandSPX.refsVE bm = true := by
  unfold oexB at h
  split at h
  · rename_i t dd cd sl ho
    rw [Bool.and_eq_true, decide_eq_true_eq] at h
    obtain ⟨ht, h⟩ := h
    subst ht
    split at h
    · rename_i C' bm s0 s1x k2 k3 n k5 hm hs
      simp only [Bool.and_eq_true, decide_eq_true_eq, Bool.not_eq_true'] at h
      obtain ⟨h1, h2, h3, h4, h5⟩ := h
      subst h1 h2
      obtain ⟨nm, bs, mro, ns, qn, hd, sn, sub, ab, col, del⟩ := cd
      dsimp only at hm h3 h4
      subst hm h3 h4
      obtain ⟨l⟩ := sl
      dsimp only at hs
      subst hs
      exact ⟨nm, qn, ns, bs, bm, sn, sub, ab, col, dd, s0, s1x, k2, k3, k5, ho, h5⟩
    · cases h
  · cases h
def oB (K : PySem.W.Frag) (C : Addr) (x : Str) (a : Option (Option Value)) : Bool := decide (PySem.W.findIn K (.ref C) x = a)
def errB (K : PySem.W.Frag) (C fI : Addr) : Bool := oexB K C && (oB K C "__setattr__" (some (some (.builtin "object.__setattr__"))) && (decide (PySem.W.subIn K (.ref C) (.type "BaseException") = some true) && (decide (PySem.W.typeIn K (.ref C) = some (.type "type")) && (PySem.W.keepIn K (.ref C) &&
  (oB K C "__getattribute__" (some (some (.builtin "BaseException.__getattribute__"))) && (oB K C "__getattr__" (some none) && (PySem.W.hasDictIn K C && (oB K C "__class__" (some (some (.builtin "object.__class__"))) && (decide (PySem.W.specialIn K (.builtin "object.__class__") "__get__" = some (some (.builtin "getset_descriptor.__get__"))) &&
  (decide (PySem.W.takesIn K (.builtin "object.__class__") = some true) && (decide (PySem.W.mroIn K C (.type "object") = some true) && (oB K C "value" (some none) && (oB K C "__init__" (some (some (.ref fI))) && decide (PySem.W.typeIn K (.ref fI) = some (.type "function")))))))))))))))
theorem errB_ok {K : PySem.W.Frag} {C fI : Addr} (h : errB K C fI = true) : ErrK K C fI := by
  unfold errB oB at h
  simp only [Bool.and_eq_true, decide_eq_true_eq] at h
  obtain ⟨h1, h2, h3, h4, h5, h6, h7, h8, h9, h10, h11, h12, h13, h14, h15⟩ := h
  exact ⟨⟨oexB_ok h1, h2, h3, h4, h5⟩, ⟨h6, h7, h3, h8, h9, h10, h11, h12⟩, h13, h14, h15⟩

/-! ### `__init__` -/
/-- self, value: the value is kept -/
def spInit (K : PySem.W.Frag) : Sp := fun vs H Q _ => ∃ (a C : Addr) (v : V), vs = [.ref a, v] ∧ OexC K C ∧ PySem.W.findIn K (.ref C) "value" = some none ∧ H a = some (exo a C none) ∧
  ∀ dx, H dx = none → dx ≠ a → Q .non (upd (upd H dx (exd dx [(("value" : Str), v)])) a (exo a C (some dx)))
/-- the text of `__init__` -/
def InitTxt (body : List Stmt) : Prop := ∃ (p3 p4 p5 p6 p7 p8 p9 p10 p11 p12 : Pos), (p4.endLine == p7.line) = true ∧ body = [.Expr (.Call (.Attribute (.Name "ValueError" p3) "__init__" p4) [.Name "self" p5, .Name "value" p6] [] p7) p8, .Assign [.Attribute (.Name "self" p9) "value" p10] (.Name "value" p11) p12]
def tInit (K : PySem.W.Frag) : TS := tSeq (tDrop (tVeI K (tCons (tVar 0) (tCons (tVar 1) tNil)))) (tOst K "value" (tVar 0) (tVar 1))
/-- what the written part says of ValueError's own `__init__` -/
def VeOk (K : PySem.W.Frag) : Prop := PySem.W.findCls K (.type "ValueError") (.type "type") "__init__" = some (.val (.builtin "ValueError.__init__"))
section
variable {P : Program} {w : World} {K : PySem.W.Frag} {mg : Str → Option Value} {base : Heap} {x qual : Str} {params : Arguments} {body : List Stmt} {scope : Scope} {fI : Addr} {fd : FuncData} {CX : CXT}
/-- `__init__` keeps its promise -/
theorem init_ok (FD : FunD K x qual params body scope [] [] fI fd) (Sc : FnScope [("self" : Str), "value"] ["self", "value"] scope) (ht : InitTxt body) (hv : VeOk K) (hm : mg "ValueError" = none) (hg : scope.names.lookup ("ValueError" : Str) = some .globalImplicit)
    (hs : visB scope "self" = true) (hvl : visB scope "value" = true) : FnOk P w K mg base CX 1 fI fd ["self", "value"] (spInit K) := by
  refine FD.ok Sc (fun vs H Q E h => ?_) (fun cdv A outer s H vs Q E hr h => ⟨tInit K, ?_, ?_⟩)
  · obtain ⟨a, C, v, rfl, _⟩ := h
    rfl
  · obtain ⟨p3, p4, p5, p6, p7, p8, p9, p10, p11, p12, hl, rfl⟩ := ht
    have hS : PE (cxOf CX P w K mg base [("self" : Str), "value"] qual scope fI cdv A outer s H E) (.Name "self" p5) (tVar 0) := pe_var rfl (vis_of hs)
    have hS9 : PE (cxOf CX P w K mg base [("self" : Str), "value"] qual scope fI cdv A outer s H E) (.Name "self" p9) (tVar 0) := pe_var rfl (vis_of hs)
    have hV : ∀ p, PE (cxOf CX P w K mg base [("self" : Str), "value"] qual scope fI cdv A outer s H E) (.Name "value" p) (tVar 1) := fun p => pe_var rfl (vis_of hvl)
    refine pss_cons (ps_expr ?_) (pss_one ?_)
    · refine pe_veinit (pl := plainOf (.Name "ValueError" p3) (cxOf CX P w K mg base [("self" : Str), "value"] qual scope fI cdv A outer s H E).env) hg hm hv (pa_cons hS (pa_cons (hV _) pa_nil)) ?_
      exact congrArg (fun k : Value → Sem Value => eval (.Name "ValueError" p3) (cxOf CX P w K mg base [("self" : Str), "value"] qual scope fI cdv A outer s H E).env >>= fun ov => standAt p4.atName >>= fun _ => k ov) (funext fun ov => mcall_line rfl hl)
    · exact ps_ost hS9 (hV _)
  · obtain ⟨a, C, v, rfl, T, hn, he, q⟩ := h
    refine ⟨.ref a, rfl, v, rfl, a, C, [v], rfl, by simp, T, he, ?_⟩
    exact ⟨v, rfl, .ref a, rfl, a, C, rfl, T, hn, .inl ⟨he, q⟩⟩
end

/-! ### such an error is made -/
/-- C(value=e) -/
def tMkK (C : Addr) (sp : Sp) (tk : TA) : L2.St → Hp → XK → Prop := fun σ H Q => tk σ H fun zs H1 => zs.length = 1 ∧ ∀ a, H1 a = none → sp (.ref a :: zs) (upd H1 a (exo a C none))
  (fun v H2 => v = .non ∧ ∃ (d : Addr) (fs : List (Str × V)), H2 a = some (exo a C (some d)) ∧ H2 d = some (exd d fs) ∧ H1 d = none ∧ Q (.ref C) (some d) (upd (del H2 a) d (.xd fs))) (fun _ _ _ => False)
section
variable {X : L2.Cx} {CX : CXT} {x : Str} {C fI : Addr} {k : Nat} {fd : FuncData} {ps : List Str} {sp : Sp} {p pos : Pos} {kws : List Keyword} {tk : TA} {kn : Str}
theorem pmk_kw (T : OexC X.K C) (iC : PySem.W.findIn X.K (.ref C) "__init__" = some (some (.ref fI))) (tI : PySem.W.typeIn X.K (.ref fI) = some (.type "function"))
    (F1 : FnOk X.prog X.w X.K X.mg X.base CX k fI fd ps sp) (hr : Room (k + 1) X.A) (hb : KwB X.K fd ps [kn] 1 [0]) (hx : Passes CX X (fun _ _ _ => False)) (hg : Gl X x) (hm : X.mg x = some (.ref C)) (hkw : PK X kws tk)
    (hall : (backToKw pos (keywordEach kws X.env)).all (·.1.isSome) = true) (hks : (backToKw pos (keywordEach kws X.env)).filterMap (·.1) = [kn]) (hdb : (x == ("__debug__" : Str)) = false)
    (hpl : ((backTo pos (starEach [] X.env)).any (·.1) || (backToKw pos (keywordEach kws X.env)).any (·.1.isNone)) = false) :
    PMk X (.Call (.Name x p) [] kws pos) (tMkK C sp tk) := by
  intro pins s σ H Q I h
  obtain ⟨nm, q, N, bs, bm, sn, sub, ab, col, dd, s0, s1x, k2, k3, k5, hC, tail⟩ := T.cls
  refine wpAny_Call_Name_kw (ld_glob I hg hm ?_ hdb)
  refine PySem.W.callWith_KW0 (h₀ := X.base) I.ok.mod.kin T.kC hall (thn (hkw.run pos pins s σ H _ I h) fun ws s1 ⟨zs, H1, I1, rz, hz, q1⟩ => ⟨I1.kIn, ?_⟩) hpl
  rw [hks]
  show wpAny _ _ (call (.ref C) [] (List.zip [kn] ws)) _ _ _
  obtain ⟨hp, g, dr, tok, os⟩ := s1
  obtain ⟨z, rfl⟩ : ∃ z, zs = [z] := by
    match zs, hz with
    | [z], _ => exact ⟨z, rfl⟩
  cases rz with
  | @cons _ w0 _ wr rz1 rz2 =>
  cases rz2
  have small : hp.objs.size ≤ hp.objs.size + 1 := Nat.le_succ _
  have free : H1 (hp.objs.size + 1) = none := I1.hok.fresh small
  have sq := q1 (hp.objs.size + 1) free
  have old : ∀ b o, hp.get? b = some o → ((hp.push (PySem.W.kdv_tup [])).push (HandSPX.excO C hp.objs.size)).get? b = some o := fun b o e =>
    Heap.get?_push_of_some _ (Heap.get?_push_of_some _ e)
  have there : ((hp.push (PySem.W.kdv_tup [])).push (HandSPX.excO C hp.objs.size)).get? (hp.objs.size + 1) = some (HandSPX.excO C hp.objs.size) := by heap_get
  have I2 : Inv X pins σ (upd H1 (hp.objs.size + 1) (exo (hp.objs.size + 1) C none)) ⟨(hp.push (PySem.W.kdv_tup [])).push (HandSPX.excO C hp.objs.size), g, dr, tok, os⟩ :=
    I1.laid (t' := tok) (a := hp.objs.size + 1) (o := exo (hp.objs.size + 1) C none) (h' := (hp.push (PySem.W.kdv_tup [])).push (HandSPX.excO C hp.objs.size)) old small (exo_ok there)
  have vals : Vals [V.ref (hp.objs.size + 1), z] [Value.ref (hp.objs.size + 1), w0] := .cons rfl (.cons rz1 .nil)
  have binds : BindsTo _ fd ⟨[Value.ref (hp.objs.size + 1)], List.zip [kn] [w0]⟩ (ps.zip [Value.ref (hp.objs.size + 1), w0]) :=
    hb.to ⟨(hp.push (PySem.W.kdv_tup [])).push (HandSPX.excO C hp.objs.size), g, dr, tok, os⟩ [Value.ref (hp.objs.size + 1)] [w0] rfl rfl
  refine wpAny_call (kw_call_own F.excBase_ValueError (fun Y => HandSPX.refsVE_contains Y bm tail) (I1.kIn _ _ hC) (PySem.W.looks_findIn I1.kIn iC) (fun self => PySem.W.bind_fn I1.kIn self tI)
    (codeAny_mono (F1.run _ X.stack _ _ ⟨[Value.ref (hp.objs.size + 1)], List.zip [kn] [w0]⟩ [Value.ref (hp.objs.size + 1), w0] _ _ (fun _ _ _ => False) (hr.make C [] (List.zip [kn] [w0])) (I2.env0.make C [] (List.zip [kn] [w0])) binds vals sq) fun r s' bk => ?_))
  cases r with
  | error er => exact hx pins σ _ _ er s' I2 bk
  | ok fl =>
    cases fl with
    | ret u =>
      obtain ⟨v, H2, oz2, bare2, un2, hok2, rv, ev, d, fs, ea, ed, hd1, q2⟩ := bk
      subst ev
      obtain ⟨h2, g2, d2, t2, os'⟩ := s'
      exact ⟨rv, mk_end (raises_own T.exC T.tyC) I1 small old un2 hok2 oz2 bare2 ea ed hd1 q2⟩
    | next => exact False.elim bk
    | brk => exact False.elim bk
    | cont => exact False.elim bk
end
end Fp
/-! FpErr2: own errors over the evaluator: raise, try, isinstance, the value. -/
namespace Fp
open PySem PySem.Spec PyProof.Rows L2
section
variable {S : Se} {W : WX} {σ : L2.St} {e : Env} {w w0 : Wo} {v : V} {r : Rv} {q : List Addr} {D : Ends} {K : PySem.W.Frag} {C : Addr} {c : String}
theorem err_heap {H : Hp} {a dx : Addr} {o1 o2 o3 o4 : HO} (ha : H a = none) : upd (del (upd (upd (upd H a o1) dx o2) a o3) a) dx o4 = upd H dx o4 := by
  funext b
  by_cases h1 : b = dx
  · rw [h1, upd_same, upd_same]
  · rw [upd_ne h1, upd_ne h1]
    by_cases h2 : b = a
    · rw [h2, del_same, ha]
    · rw [del_ne h2, upd_ne h2, upd_ne h1, upd_ne h2]
theorem rai_core (hc : S.cl c = some C) (T : OexC K C) (hn : PySem.W.findIn K (.ref C) "value" = some none) (s0 : Step w0 w) (R : Rep S σ e w) (hr : RvRep S σ w v r q) (n : New w0 q) (g : GS S W w0 ((e.asVal r).st fun d e => .ex c d e) D) (a : Addr) (ha : w.H a = none) :
    spInit K [.ref a, v] (upd w.H a (exo a C none)) (fun u H2 => u = .non ∧ ∃ (d : Addr) (fs : List (Str × V)), H2 a = some (exo a C (some d)) ∧ H2 d = some (exd d fs) ∧ w.H d = none ∧ W (.ref C) (some d) σ (upd (del H2 a) d (.xd fs))) (fun _ _ _ => False) := by
  rcases asVal_nx (e := e) (x := r) with ⟨d, e1, h⟩ | h
  · rw [h] at g
    obtain ⟨w1, R1, G1, dd⟩ := asVal_ok R hr h
    refine ⟨a, C, v, rfl, T, hn, upd_same, fun dx hd ne => ⟨rfl, dx, [(("value" : Str), v)], upd_same, ?_, ?_, ?_⟩⟩
    · rw [upd_ne ne, upd_same]
    · rw [upd_ne ne] at hd
      exact hd
    · rw [upd_ne ne] at hd
      rw [err_heap ha]
      have hd1 : w1.H dx = none := by rw [G1.h]; exact hd
      obtain ⟨R2, s2⟩ := alloc_val (o := .xd [(("value" : Str), v)]) R1 hd1
      have := g σ C dx _ v hc ((s0.gh G1 n).trans s2) R2 upd_same (Dat.mono s2.a _ _ dd)
      rw [← G1.h]
      exact this
  · rw [h] at g
    exact g.elim
end
section
variable {S : Se} {W : WX} {X : L2.Cx} {c : String} {C fI : Addr} {x kn : Str} {k : Nat} {fd : FuncData} {a : Expr} {p pos pos2 kp : Pos} {ea : Env → Fp.R Rv}
/-- raise C(a) -/
theorem st_rai (hc : S.cl c = some C) (T : ErrK X.K C fI) (F : FnOk X.prog X.w X.K X.mg X.base (L2.CX X.prog X.w) k fI fd ["self", "value"] (spInit X.K)) (hr : Room (k + 1) X.A) (hb : Binds X.K fd ["self", "value"] []) (hca : X.calm = true) (tk : Takes X W) (hg : Gl X x) (hm : X.mg x = some (.ref C))
    (ha : PE X a (tE S W ea)) (hdb : (x == ("__debug__" : Str)) = false) (he : starEach [a] X.env = (false, eval a X.env) :: starEach [] X.env) :
    PS X (.Raise (some (.Call (.Name x p) [a] [] pos)) none pos2) (tSm S W fun e => (ea e).st fun r e => (e.asVal r).st fun d e => .ex c d e) := by
  refine PS.imp (ps_raise hca tk (pmk_oex (ds := []) (dvs := []) T.ox T.iC T.tI F hr hb .nil (passes_call (E := fun _ _ _ => False) tk fun _ _ _ _ z => z.elim) hg hm (pa_cons ha pa_nil he) hdb he rfl)) ?_
  rintro D σ H ⟨e, w, hw, R, g⟩
  refine tE.st hw R g fun v r q e' w' s R' hr n g' => ⟨by simp, fun a0 ha0 => ?_⟩
  exact rai_core hc T.ox T.noV s R' hr n g' a0 ha0
/-- raise C(kn=a) -/
theorem st_raik (hc : S.cl c = some C) (T : ErrK X.K C fI) (F : FnOk X.prog X.w X.K X.mg X.base (L2.CX X.prog X.w) k fI fd ["self", "value"] (spInit X.K)) (hr : Room (k + 1) X.A) (hb : KwB X.K fd ["self", "value"] [kn] 1 [0]) (hca : X.calm = true) (tk : Takes X W) (hg : Gl X x) (hm : X.mg x = some (.ref C))
    (ha : PE X a (tE S W ea)) (hdb : (x == ("__debug__" : Str)) = false) :
    PS X (.Raise (some (.Call (.Name x p) [] [⟨some kn, a, kp⟩] pos)) none pos2) (tSm S W fun e => (ea e).st fun r e => (e.asVal r).st fun d e => .ex c d e) := by
  refine PS.imp (ps_raise hca tk (pmk_kw T.ox T.iC T.tI F hr hb (passes_call (E := fun _ _ _ => False) tk fun _ _ _ _ z => z.elim) hg hm (pk_cons ha pk_nil) rfl rfl hdb rfl)) ?_
  rintro D σ H ⟨e, w, hw, R, g⟩
  refine tE.st hw R g fun v r q e' w' s R' hr n g' => ⟨rfl, fun a0 ha0 => ?_⟩
  exact rai_core hc T.ox T.noV s R' hr n g' a0 ha0
end
end Fp
/-! FpErr3: try: .. except C as x: y = x: the error is kept, tracked from then on. -/
namespace Fp
open PySem PySem.Spec PyProof.Rows L2
section
variable {X : L2.Cx} {pins : List (Addr × Obj)} {σ : L2.St} {H : Hp} {s : Shared} {a C dx : Addr} {oe : Obj} {vs : Array Value}
/-- an error that stood beside is tracked from now on -/
theorem inv_track (I : Inv X ((a, oe) :: pins) σ H s) (hz : Zc (.ref C) (some dx) oe) (hd : oe.data = .fields vs) (n0 : X.s_0.heap.get? a = none) (np : ∀ p ∈ X.pn ++ pins, p.1 ≠ a) : Inv X pins σ (upd H a (excH C dx a)) s := by
  obtain ⟨g1, g2, g3, g4, g5⟩ := I.pin (a, oe) (List.mem_append_right _ List.mem_cons_self)
  have g1 : s.heap.get? a = some oe := g1
  have g2 : H a = none := g2
  have ne0 : ∀ {b : Addr} {o : Obj}, X.s_0.heap.get? b = some o → b ≠ a := fun {b o} e z => by
    rw [z, n0] at e
    cases e
  have neH : ∀ {b : Addr} {o : HO}, H b = some o → b ≠ a := fun {b o} e z => by
    rw [z, g2] at e
    cases e
  have base : Un X.fs X.ex X.H_0 (upd H a (excH C dx a)) X.s_0.heap s.heap := {
    keep := I.base.keep
    slot := I.base.slot
    free := fun b o e n hx => by
      rw [upd_ne (ne0 e)]
      exact I.base.free b o e n hx
    there := I.base.there
    tups := fun b xs e => by
      have q := I.base.tups b xs e
      rw [upd_ne (neH q)]
      exact q
    frzs := fun b o u e => by
      have q := I.base.frzs b o u e
      rw [upd_ne (neH q)]
      exact q
    tbls := fun b ps e => by
      obtain ⟨more, q⟩ := I.base.tbls b ps e
      exact ⟨more, by rw [upd_ne (neH q)]; exact q⟩ }
  refine ⟨I.ok, I.os, I.bare, base, I.loc, I.cell, ?_, fun y c e => ?_, fun p hp => ?_, fun b o e => ?_, I.len⟩
  · rw [upd_ne fun z => g3 z.symm]
    exact I.free
  · obtain ⟨w, hw⟩ := I.cell y c e
    rw [upd_ne]
    · exact I.freeC y c e
    · intro z
      rw [z] at hw
      obtain ⟨o', e1, e2⟩ := hw
      rw [g1] at e1
      cases e1
      exact g5 w e2
  · have hp' : p ∈ X.pn ++ ((a, oe) :: pins) := by
      rcases List.mem_append.mp hp with z | z
      · exact List.mem_append_left _ z
      · exact List.mem_append_right _ (List.mem_cons_of_mem _ z)
    obtain ⟨k1, k2, k3, k4, k5⟩ := I.pin p hp'
    exact ⟨k1, by rw [upd_ne (np p hp)]; exact k2, k3, k4, k5⟩
  · by_cases hb : b = a
    · subst hb
      rw [upd_same] at e
      cases e
      exact ⟨⟨oe, vs, g1, hz, hd⟩, ⟨_, g1⟩, fun h1 h2 ⟨o1, v1, q1, q2, q3⟩ k => ⟨o1, v1, k _ q1, q2, q3⟩⟩
    · rw [upd_ne hb] at e
      exact (I.hok b o e).stay (fun _ _ _ z => z) (fun c z => by rw [upd_ne (neH z)]; exact z) fun c xs z => by rw [upd_ne (neH z)]; exact z
end

/-- what `except c as n: y = n` wishes of an error of the body: n in slot i, y in slot j -/
def wKeep (K : PySem.W.Frag) (c : Value) (i j : Nat) (D : Ends) : WX := fun cls d σ H => PySem.W.exmOne K cls c = some true ∧ ∃ C dx, cls = .ref C ∧ d = some dx ∧
  ∀ a, H a = none → D.nx (((σ.set i (some (.ref a))).set j (some (.ref a))).set i none) (upd H a (excH C dx a))
section
variable {X : L2.Cx} {x n y : Str} {c : Value} {i j : Nat} {body : List Stmt} {np py pn pa pos pos' : Pos} {tb : WX → TS}
theorem ps_try_keep (hs : X.stack = X.env :: X.outer) (hf : X.env.frame = some X.env.locals) (hex : X.ex = []) (hN : X.N.Nodup) (hi : X.N[i]? = some n) (hj : X.N[j]? = some y) (hln : X.env.kindOf n = some .local) (hly : X.env.kindOf y = some .local)
    (hdn : (n == ("__debug__" : Str)) = false) (hdn2 : (n == ("__classdict__" : Str)) = false) (hc : Names X x c)
    (hb : ∀ (W : WX) (pn : List (Addr × Obj)) (xe : Value → Shared → Prop), Takes (X.tr pn xe) W → PassesOwn (model X.prog X.w) X.A X.env xe → PSs (X.tr pn xe) body (tb W)) :
    PS X (.Try body [.ExceptHandler (some (.Name x np)) (some n) [.Assign [.Name y py] (.Name n pn) pa] pos'] [] [] pos) (fun D σ H => tb (wKeep X.K c i j D) D σ H) := by
  refine ⟨fun pins s σ H D I h => ?_⟩
  have ok := I.ok
  have frames : X.A.frames = some (X.env :: X.outer) := by
    rw [ok.frames, hs]
  have ln : L2.Loc X.env.scope n := .inl hln
  have ly : L2.Loc X.env.scope y := .inl hly
  refine wpAny_Try_except ?_
  have run := (hb (wKeep X.K c i j D) (X.pn ++ pins) (fun e s₁ => wpAny (model X.prog X.w) X.A (noteFrame e X.env)
    (fun _ s₂ => wpAny (model X.prog X.w) X.A (setFlight e none)
      (fun _ s₃ => wpAny (model X.prog X.w) X.A
        (handleBy e X.env [.ExceptHandler (some (.Name x np)) (some n) [.Assign [.Name y py] (.Name n pn) pa] pos']) (SP X pins D) X.xe s₃) X.xe s₂) X.xe s₁)
    (fun u s' xx => ?hcatch) PassesOwn.looking).run [] s σ H D (I.toTry _) h
  case hcatch =>
    obtain ⟨a, B, sI, pins', σ', H', cls, d, rfl, Jt, nb, up, sky, na, os, ag, hexm, C, dx, rfl, rfl, hyes⟩ := xx
    have J : Inv X pins σ' H' sI := Jt.ofTry ok
    have sky' : Sky B (X.env :: X.outer) a (Zc (.ref C) (some dx)) X.env.locals s'.heap := by
      rw [← hs]
      exact sky
    show wpAny _ X.A (noteFrame (.ref a) X.env) _ _ _
    refine Sky.land Zc.steady frames hf sky' fun h3 fl3 up3 => ?_
    have notFrame : ∀ {h : Heap} {o : Obj} {fs : Array Value}, h.FunFrames B (X.env :: X.outer) → h.get? a = some o → o.data = .fields fs → a ∉ frs (X.env :: X.outer) := by
      intro h o fs ff e dd hm
      obtain ⟨_, o', e', hnf⟩ := ff.mem hm
      rw [e] at e'
      cases e'
      exact hnf _ dd
    obtain ⟨o3, fs3, get3, kept3, data3⟩ := fl3.there
    have I3 : Inv X pins σ' H' { s' with heap := h3 } := J.landed nb fl3.1 (up.trans up3) os ag
    have nofr := notFrame fl3.2.2.1 get3 data3
    have nL : a ≠ X.env.locals := fun z => nofr (List.mem_filterMap.mpr ⟨X.env, List.mem_cons_self, by rw [hf, z]⟩)
    have nF : a ∉ X.fs := fun hm => by
      obtain ⟨e, he, q⟩ := List.mem_filterMap.mp hm
      exact nofr (List.mem_filterMap.mpr ⟨e, List.mem_cons_of_mem _ he, q⟩)
    have nI : sI.heap.get? a = none := by
      cases z : sI.heap.get? a with
      | none => rfl
      | some o =>
        have := nb a o z (by rw [hs]; exact nofr)
        rw [fl3.2.1] at this
        cases this
    have n0 : X.s_0.heap.get? a = none := by
      cases z : X.s_0.heap.get? a with
      | none => rfl
      | some o =>
        obtain ⟨o', e'⟩ := J.base.there a o z (by rw [hex]; exact List.not_mem_nil)
        rw [nI] at e'
        cases e'
    have apart : ∀ p ∈ X.pn ++ pins, p.1 ≠ a := fun p hp z => by
      have := (J.pin p hp).1
      rw [z, nI] at this
      cases this
    have S3 := I3.suite get3 data3 na nL nF
    refine wpAny_handleBy_cons (codeAny_handlers_test ?_) (by intro q; cases q)
    have looks := PySem.W.exm_one (M := model X.prog X.w) (I3.kIn) (fun A Q E s k q => wpAny_typeOf_ref (k _ _ get3) (by rw [kept3.1]; exact q)) hexm
    have test : ∀ {Q : Value → Shared → Prop} {E : Value → Shared → Prop}, Q c { s' with heap := h3 } → wpAny (model X.prog X.w) (X.A.mark (some (.ref a))) (eval (.Name x np) X.env) Q E { s' with heap := h3 } := by
      intro Q E q
      obtain ⟨hg, hdbg, hm⟩ := hc
      rcases hm with hm | ⟨hm, hv, hnn⟩
      · exact ld_glob (X := X.suite a ((a, o3) :: (X.pn ++ pins))) S3 hg hm q hdbg
      · exact ld_blt (X := X.suite a ((a, o3) :: (X.pn ++ pins))) S3 hg hm hv q hnn hdbg
    refine test (looks.here ?_)
    refine codeAny_handlers_suite_as ?_
    refine HandSPX.lands_againZ fl3 fun h4 fw4 us4 => ?_
    obtain ⟨o4, fs4, get4, kept4, data4⟩ := fw4.there
    have I4 : Inv X pins σ' H' { s' with heap := h4 } := J.landed nb fw4.1 ((up.trans up3).trans us4) os ag
    have S4 := I4.suite get4 data4 na nL nF
    refine store_ok (X := X.suite a ((a, o4) :: (X.pn ++ pins))) (v := .ref a) S4 hN hi ln rfl (fun s5 S5 => ?_) (.inr hln)
    have ilt : i < σ'.length := by
      have z : σ'.length = X.N.length := J.len
      rw [z]
      exact (List.getElem?_eq_some_iff.mp hi).1
    have suite : PSs (X.suite a ((a, o4) :: (X.pn ++ pins))) [.Assign [.Name y py] (.Name n pn) pa] (tAsg (tVar i) (gName j)) :=
      pss_one (ps_set hN hj ly (pe_var hi (.inl hln) hdn hdn2) rfl (.inr hly))
    refine wpAny_mono (suite.run [] s5 _ H' { nx := fun σ1 H1 => σ1 = (σ'.set i (some (.ref a))).set j (some (.ref a)) ∧ H1 = H', rt := fun _ _ => False } S5 ⟨.ref a, List.getElem?_set_self ilt, rfl, rfl⟩) (fun f s6 hend => ?_) (fun _ _ z => False.elim z)
    cases f with
    | next =>
      obtain ⟨σ6, H6, S6, e1, e2⟩ := hend
      subst e1 e2
      have J6 : Inv X ((a, o4) :: pins) ((σ'.set i (some (.ref a))).set j (some (.ref a))) H6 s6 := ⟨ok, S6.os, S6.bare, S6.base, S6.loc, S6.cell, S6.free, S6.freeC, fun p hp => S6.pin p (by
        have e : (X.suite a ((a, o4) :: (X.pn ++ pins))).pn ++ [] = (a, o4) :: (X.pn ++ pins) := List.append_nil _
        rw [e]
        rcases List.mem_append.mp hp with z | z
        · exact List.mem_cons_of_mem _ (List.mem_append_left _ z)
        · rcases List.mem_cons.mp z with z | z
          · rw [z]
            exact List.mem_cons_self
          · exact List.mem_cons_of_mem _ (List.mem_append_right _ z)), S6.hok, S6.len⟩
      refine gone_ok J6 hN hi hln fun s7 J7 => ?_
      exact ⟨_, _, inv_track J7 kept4 data4 n0 apart, hyes a na⟩
    | brk =>
      obtain ⟨σ6, H6, S6, z6⟩ := hend
      exact False.elim z6
    | cont =>
      obtain ⟨σ6, H6, S6, z6⟩ := hend
      exact False.elim z6
    | ret u =>
      obtain ⟨v6, σ6, H6, S6, r6, z6⟩ := hend
      exact False.elim z6
  refine wpAny_mono run (fun f s1 hend => ?_) fun e s1 he => he
  cases f with
  | next =>
    obtain ⟨σ', H', Jt, q⟩ := hend
    exact wpAny_execs_nil ⟨σ', H', Jt.ofTry ok, q⟩
  | brk =>
    obtain ⟨σ', H', Jt, q⟩ := hend
    exact ⟨σ', H', Jt.ofTry ok, q⟩
  | cont =>
    obtain ⟨σ', H', Jt, q⟩ := hend
    exact ⟨σ', H', Jt.ofTry ok, q⟩
  | ret u =>
    obtain ⟨v, σ', H', Jt, r, q⟩ := hend
    exact ⟨v, σ', H', Jt.ofTry ok, r, q⟩
end
end Fp
/-! FpErr4: own errors over the evaluator: isinstance, the value, try. -/
namespace Fp
open PySem PySem.Spec PyProof.Rows L2
/-- isinstance(e, c), e a tracked error -/
def rIsX (K : PySem.W.Frag) : List V → Hp → VK → Prop := fun xs H Q => ∃ (a C dx : Addr) (c : V) (u : Value) (fs : List (Str × V)) (b : Bool), xs = [.ref a, c] ∧ ClsV c u ∧ H a = some (excH C dx a) ∧ H dx = some (.xd fs) ∧ ExcC K C ∧ PySem.W.kitOne K (.ref C) u = some b ∧ Q (.bl b) H
section
variable {X : L2.Cx}
/-- where a tracked error stands -/
theorem exc_at {P : Program} {w : World} {H : Hp} {h : Heap} {a C dx : Addr} {fs : List (Str × V)} (hok : HOk P w H h) (ha : H a = some (excH C dx a)) (hd : H dx = some (.xd fs)) :
    ∃ ox od mA, PySem.W.InstAt h a ox C (some od) ∧ h.Ns1 dx mA ∧ (∀ f, RelO (fs.lookup f) (mA f)) ∧ ∀ n, PySem.W.lookIn n od = some (mA n) := by
  have x : ObjOk P w H h a (.ext fun h => ∃ (oe : Obj) (vs : Array Value), h.get? a = some oe ∧ Zc (.ref C) (some dx) oe ∧ oe.data = .fields vs) := hok a _ ha
  obtain ⟨oe, vs, g, z, dt⟩ := x.1
  have y : ObjOk P w H h dx (.xd fs) := hok dx _ hd
  obtain ⟨mA, hns, hr⟩ := y
  obtain ⟨od, ho, hl⟩ := lookIn_ns hns
  exact ⟨oe, od, mA, ⟨g, z.1, by unfold PySem.W.notCls; rw [dt] <;> rfl, by rw [z.2]; exact ho⟩, hns, hr, hl⟩
theorem call_isX : CallR X (.builtin "isinstance") (rIsX X.K) := by
  intro pins s σ H xs us Q I r h
  obtain ⟨a, C, dx, c, u, fs, b, rfl, k, ea, ed, T, e, q⟩ := h
  obtain ⟨u1, u2, rfl, r1, r2⟩ := vals2 r
  have e2 := k.eq r2
  subst e2
  obtain rfl : u1 = Value.ref a := r1
  obtain ⟨ox, od, mA, J, _⟩ := exc_at I.hok ea ed
  have hc : (PySem.W.clsIn X.K C).isSome = true := by
    obtain ⟨cd, hcd, _⟩ := PySem.W.any_some T.hd
    rw [hcd]
    rfl
  exact PySem.W.kia_one (PySem.W.kitx_exc hc T.hg T.hk T.hs T.ha T.hn T.ht T.hm) I.kIn J e (fun z => nomatch z) fun tk => ⟨.bl b, H, I.tok tk, rfl, q⟩
end

/-- e.f -/
def tValX (K : PySem.W.Frag) (f : Str) (te : TE) : TE := fun σ H Q => te σ H fun x H1 => ∃ (a C dx : Addr) (fs : List (Str × V)) (v : V), x = .ref a ∧ H1 a = some (excH C dx a) ∧ H1 dx = some (.xd fs) ∧ ExcC K C ∧ PySem.W.findIn K (.ref C) f = some none ∧ fs.lookup f = some v ∧ Q v H1
theorem pe_valX {X : L2.Cx} {e : Expr} {te : TE} {pos : Pos} {f : Str} (he : PE X e te) (hb : attributeBase e f X.env (eval e X.env) = eval e X.env) : PE X (.Attribute e f pos) (tValX X.K f te) := by
  refine ⟨fun pins s σ H Q I h => ?_⟩
  refine attr_of hb (thn (he.run pins s σ H _ I h) fun u s1 hh => ?_)
  obtain ⟨x, H1, I1, rx, a, C, dx, fs, v, rfl, ea, ed, T, hno, l, q⟩ := hh
  obtain rfl : u = Value.ref a := rx
  obtain ⟨ox, od, mA, J, hns, hr, hl⟩ := exc_at I1.hok ea ed
  obtain ⟨z, hz, rz⟩ := RelO.some_of (v := v) (o := mA f) (by rw [← l]; exact hr f)
  exact HandSPX.exc_get I1.kIn J T.hg T.hk T.hs (PySem.W.findObj_own T.hd hno rfl (by rw [hl, hz])) (handed_of rz) ⟨v, H1, I1.tok _, rz, q⟩
section
variable {S : Se} {W : WX} {X : L2.Cx} {c : String} {C : Addr} {x : Str} {k : Nat} {a : Expr} {p pc pos : Pos} {ea : Env → Fp.R Rv} {sub : String → Bool}
theorem exc_inv {σ : L2.St} {w : Wo} {v : V} {c : String} {d : D} {q : List Addr} (h : RvRep S σ w v (.val (.exc c d)) q) : q = [] ∧ ∃ a C dx u, v = .ref a ∧ S.cl c = some C ∧ w.F a = some (excH C dx a) ∧ w.F dx = some (.xd [(("value" : Str), u)]) ∧ Dat S w.F d u := h
theorem isE_inv {sub : String → Bool} {x : Rv} {e : Env} {σ : L2.St} {w : Wo} {P : Rv → Env → Wo → Prop} (g : Good S W σ w (isE sub x e) P) : ∃ c d, x = .val (.exc c d) := by
  unfold isE at g
  split at g
  · exact ⟨_, _, rfl⟩
  · exact g.elim
theorem valE_inv {x : Rv} {e : Env} {σ : L2.St} {w : Wo} {P : Rv → Env → Wo → Prop} (g : Good S W σ w (valE x e) P) : ∃ c d, x = .val (.exc c d) := by
  unfold valE at g
  split at g
  · exact ⟨_, _, rfl⟩
  · exact g.elim
/-- isinstance(a, c): c's value by tc -/
theorem s_ise {b : Expr} {cv : V} {cu : Value} (hK : S.K = X.K) (ha : PE X a (tE S W ea)) (hb : PA X [b] (fun _ H Q => Q [cv] H)) (hcv : ClsV cv cu) (hk : ∀ c C, S.cl c = some C → (∃ fI, ErrK X.K C fI) ∧ PySem.W.kitOne X.K (.ref C) cu = some (sub c)) (hg : Gl X "isinstance") (hm : X.mg "isinstance" = none)
    (hs : starEach [a, b] X.env = (false, eval a X.env) :: starEach [b] X.env) (hpl : (backTo pos (starEach [b] X.env)).any (·.1) = false) :
    PE X (.Call (.Name "isinstance" p) [a, b] [] pos) (tE S W fun e => (ea e).bind (isE sub)) :=
  PE.imp (pe_callB call_isX hg hm (by decide +kernel) (pa_cons ha hb hs) (by decide) (by decide) hs hpl) fun σ H Q ⟨e, w, hw, R, g⟩ => tE.one hw R g fun v r q e w' s R' hr n g => by
    obtain ⟨c, d, rfl⟩ := isE_inv g
    obtain ⟨_, a0, C0, dx, u, rfl, hc, f1, f2, _⟩ := exc_inv hr
    obtain ⟨⟨fI, T⟩, kk⟩ := hk c C0 hc
    have g' : Good S W σ w (.ok (.val (.bl (sub c))) e) (postR S σ w Q) := g
    exact ⟨a0, C0, dx, cv, cu, _, sub c, rfl, hcv, R'.sub _ _ f1, R'.sub _ _ f2, T.ec, kk, g' w' s R' (.bl (sub c)) [] ⟨rfl, rfl⟩ (New.nil _)⟩
/-- a.value -/
theorem s_val (hK : S.K = X.K) (ha : PE X a (tE S W ea)) (hk : ∀ c C, S.cl c = some C → ∃ fI, ErrK X.K C fI) (hb : attributeBase a "value" X.env (eval a X.env) = eval a X.env) :
    PE X (.Attribute a "value" pos) (tE S W fun e => (ea e).bind valE) :=
  PE.imp (pe_valX ha hb) fun σ H Q ⟨e, w, hw, R, g⟩ => tE.one hw R g fun v r q e w' s R' hr n g => by
    obtain ⟨c, d, rfl⟩ := valE_inv g
    obtain ⟨_, a0, C0, dx, u, rfl, hc, f1, f2, du⟩ := exc_inv hr
    obtain ⟨fI, T⟩ := hk c C0 hc
    have g' : Good S W σ w (.ok (.val d) e) (postR S σ w Q) := g
    exact ⟨a0, C0, dx, _, u, rfl, R'.sub _ _ f1, R'.sub _ _ f2, T.ec, T.noV, by simp [List.lookup], g' w' s R' u [] ⟨rfl, du⟩ (New.nil _)⟩
end

section
variable {S : Se} {W : WX} {w0 : Wo} {D : Ends} {sub : String → Bool} {i j : Nat} {K : PySem.W.Frag} {cv : Value}
theorem try_core (hk : ∀ c C, S.cl c = some C → PySem.W.exmOne K (.ref C) cv = some (sub c)) {m : SR} (g : GS S W w0 (tryE sub i j m) D) : GS S (wKeep K cv i j D) w0 m D := by
  cases m with
  | nx e => exact g
  | bk e => exact g
  | ct e => exact g
  | ret r e => exact g
  | bad => exact g.elim
  | ex c d e =>
    intro σ C dx w u hc s R hd du
    unfold tryE at g
    simp only at g
    split at g
    · rename_i hb
      simp only [Bool.and_eq_true, decide_eq_true_eq] at hb
      obtain ⟨⟨hb, hi⟩, hj⟩ := hb
      refine ⟨(hk c C hc).trans (by rw [hb]), C, dx, rfl, rfl, fun a ha => ?_⟩
      obtain ⟨R1, s1⟩ := alloc_val (o := excH C dx a) R ha
      have dat : Dat S (upd w.F a (excH C dx a)) (.exc c d) (.ref a) := ⟨a, C, dx, u, rfl, hc, upd_same, s1.a _ _ hd, Dat.mono s1.a _ _ du⟩
      have R2 := R1.setVal hi dat
      have R3 := R2.setVal (i := j) (by rw [List.length_set]; exact hj) (show Dat S (upd w.F a (excH C dx a)) (.exc c d) (.ref a) from dat)
      have R4 := R3.setSl (i := i) (s := .no) (o := none) (g := []) (by rw [List.length_set, List.length_set]; exact hi) rfl List.nodup_nil fun x hx => by simp at hx
      have st : Step w0 _ := (((s.trans s1).setSl (i := .s i) (g := []) fun x hx => by simp at hx).setSl (i := .s j) (g := []) fun x hx => by simp at hx).setSl (i := .s i) (g := []) fun x hx => by simp at hx
      exact g _ _ st R4
    · exact g.elim
variable {X : L2.Cx} {x n y : Str} {body : List Stmt} {np py pn pa pos pos' : Pos} {mb : Env → SR}
theorem st_try (hs : X.stack = X.env :: X.outer) (hf : X.env.frame = some X.env.locals) (hex : X.ex = []) (hN : X.N.Nodup) (hi : X.N[i]? = some n) (hj : X.N[j]? = some y) (hln : X.env.kindOf n = some .local) (hly : X.env.kindOf y = some .local)
    (hdn : (n == ("__debug__" : Str)) = false) (hdn2 : (n == ("__classdict__" : Str)) = false) (hc : Names X x cv) (hk : ∀ c C, S.cl c = some C → PySem.W.exmOne X.K (.ref C) cv = some (sub c))
    (hb : ∀ (W : WX) (pn : List (Addr × Obj)) (xe : Value → Shared → Prop), Takes (X.tr pn xe) W → PassesOwn (model X.prog X.w) X.A X.env xe → PSs (X.tr pn xe) body (tSm S W mb)) :
    PS X (.Try body [.ExceptHandler (some (.Name x np)) (some n) [.Assign [.Name y py] (.Name n pn) pa] pos'] [] [] pos) (tSm S W fun e => tryE sub i j (mb e)) :=
  PS.imp (ps_try_keep (tb := fun W => tSm S W mb) hs hf hex hN hi hj hln hly hdn hdn2 hc hb) fun D σ H ⟨e, w, hw, R, g⟩ => ⟨e, w, hw, R, try_core hk g⟩
end
end Fp
/-! FpSnd: the text does what its translation says: expressions. -/
namespace Fp
open PySem PySem.Spec PyProof.Rows L2
/-- own errors: how they are made, and what classes they are of -/
structure Errs (G : Gt) (T : Tb) (P : Program) (w : World) (K : PySem.W.Frag) (mg : Str → Option Value) (base : Heap) (S : Se) : Prop where
  raise : ∀ x c, G.errs.lookup x = some c → ∃ C fI fd, mg x = some (.ref C) ∧ S.cl c = some C ∧ ErrK K C fI ∧ FnOk P w K mg base (L2.CX P w) 1 fI fd ["self", "value"] (spInit K) ∧ Binds K fd ["self", "value"] [] ∧ KwB K fd ["self", "value"] ["value"] 1 [0]
  cls : ∀ c C, S.cl c = some C → ∃ fI, ErrK K C fI
  sub : ∀ c C x c' C', S.cl c = some C → G.errs.lookup x = some c' → mg x = some (.ref C') → PySem.W.exmOne K (.ref C) (.ref C') = some (T.sub c c') ∧ PySem.W.kitOne K (.ref C) (.ref C') = some (T.sub c c')
  nov : G.errs ≠ [] → mg "ValueError" = none
  ve : ∀ c C, S.cl c = some C → PySem.W.kitOne K (.ref C) (.type "ValueError") = some (T.sub c "ValueError")
/-- a def as a caller sees it -/
structure FnC (G : Gt) (T : Tb) (m : Nat) (X : L2.Cx) (S : Se) (x : Str) (f : String) (fa : Addr) (fd : FuncData) (ps : List Str) : Prop where
  mg : X.mg x = some (.ref fa)
  kp : PySem.W.keepIn X.K (.ref fa) = true
  bd : Binds X.K fd ps []
  kw : ∀ (pn ys : List String) (xs : List Str) (n : Nat) (js : List Nat), (f, ys, n) ∈ G.kws → G.pars f = some pn → kwStrs pn xs = some ys → kwPerm pn ys n = some js → KwB X.K fd ps xs n js
  ok : FnOk X.prog X.w X.K X.mg X.base (L2.CX X.prog X.w) (m + 2) fa fd ps (spF S (callN T m f))
/-- the facts of a context -/
structure Cy (G : Gt) (T : Tb) (m : Nat) (N : List Str) (sc : Scope) (X : L2.Cx) (S : Se) (W : WX) : Prop where
  hK : S.K = X.K
  hN : X.N = N
  nd : N.Nodup
  hsc : X.env.scope = sc
  calm : X.calm = true
  takes : Takes X W
  room : Room (m + 2) X.A
  fns : ∀ x f, G.fns.lookup x = some f → ∃ fa fd ps, FnC G T m X S x f fa fd ps
  pars : ∀ f ps, G.pars f = some ps → (T.ct m).pars f = some ps
  nob : ∀ x ∈ bltAll, X.mg x = none
  gcd : G.gcd = true → X.mg "gcd" = some (.builtin "math.gcd")
  lcm : G.lcm = true → X.mg "lcm" = some (.builtin "math.lcm")
  glo : ∀ x c, G.glo.lookup x = some c → ∃ v u d, X.mg x = some u ∧ RelV v u ∧ T.glo c = some d ∧ Dat S (fun _ => none) d v
  err : Errs G T X.prog X.w X.K X.mg X.base S
section
variable {G : Gt} {T : Tb} {m : Nat} {N : List Str} {sc : Scope} {X : L2.Cx} {S : Se} {W : WX}
theorem Cy.units (c : Cy G T m N sc X S W) : X.A.units + 65 < cLine := by have := c.room.un; omega
/-- a comprehension's block -/
theorem Cy.blk (c : Cy G T m N sc X S W) (s : Shared) (H : Hp) (scope : Scope) (C : Addr) (cl : List (Str × Addr)) (fp : List Addr) : Cy G T m N (relS scope sc) (X.blk s H scope (compEnvC scope cl C X.env) fp) S W0 where
  hK := c.hK
  hN := c.hN
  nd := c.nd
  hsc := by
    have := c.hsc
    subst this
    rfl
  calm := c.calm
  takes := takes0 _
  room := c.room
  fns := fun x f h => by
    obtain ⟨fa, fd, ps, F⟩ := c.fns x f h
    exact ⟨fa, fd, ps, F.mg, F.kp, F.bd, F.kw, F.ok⟩
  pars := c.pars
  nob := c.nob
  gcd := c.gcd
  lcm := c.lcm
  glo := c.glo
  err := c.err
/-! ### targets -/
structure TgC (N : List Str) (sc : Scope) (fnc : Str → Bool) (X : L2.Cx) (S : Se) : Prop where
  hK : S.K = X.K
  hN : X.N = N
  nd : N.Nodup
  hsc : X.env.scope = sc
  calm : X.calm = true
  fn : ∀ x, fnc x = true → X.fn x = true
theorem tg_all {fnc : Str → Bool} (c : TgC N sc fnc X S) : ∀ n : Nat, (∀ (e : Expr) (t : Tg), trTg N sc fnc n e = some t → PG X e (gT S t)) ∧ ∀ (es : List Expr) (ts : List Tg), noStar es = true → trTgs N sc fnc n es = some ts → PGs X es (gTs S ts) ∧ es.length = ts.length
  | 0 => by
    refine ⟨fun e t h => (by unfold trTg at h; cases h), fun es ts ns h => ?_⟩
    cases es with
    | nil =>
      unfold trTgs at h
      cases h
      exact ⟨gs_nil, rfl⟩
    | cons e es => unfold trTgs at h; cases h
  | n + 1 => by
    obtain ⟨ih1, ih2⟩ := tg_all c n
    refine ⟨fun e t h => ?_, fun es ts ns h => ?_⟩
    · cases e with
      | Name x p =>
        unfold trTg at h
        split at h
        · rename_i i hi
          split at h
          · rename_i hl
            cases h
            rw [Bool.and_eq_true, Bool.or_eq_true] at hl
            refine g_nm (by rw [c.hN]; exact c.nd) (by rw [c.hN]; exact idx_get hi) (by rw [c.hsc]; exact loc_of hl.1) ?_
            rcases hl.2 with z | z
            · exact .inl (c.fn x z)
            · exact .inr (by rw [c.hsc]; exact local_of z)
          · cases h
        · cases h
      | Tuple es k p =>
        unfold trTg at h
        split at h
        · rename_i ns
          cases hts : trTgs N sc fnc n es with
          | none => rw [hts] at h; cases h
          | some ts =>
            rw [hts] at h
            cases h
            obtain ⟨h1, h2⟩ := ih2 es ts ns hts
            exact g_tp c.hK c.calm h1 ((assign_len ns).trans h2) (assign_find ns)
        · cases h
      | _ => unfold trTg at h; cases h
    · cases es with
      | nil =>
        unfold trTgs at h
        cases h
        exact ⟨gs_nil, rfl⟩
      | cons e es =>
        obtain ⟨n1, n2⟩ := noStar_cons ns
        unfold trTgs at h
        split at h
        · rename_i t ts h1 h2
          cases h
          obtain ⟨h3, h4⟩ := ih2 es ts n2 h2
          exact ⟨gs_cons (ih1 e t h1) h3 (by rw [assign_cons n1] <;> rfl), by simp [h4]⟩
        · cases h
theorem tg_tup {fnc : Str → Bool} (c : TgC N sc fnc X S) {n k0 : Nat} {p0 : Pos} {es : List Expr} {t : Tg} (h : trTg N sc fnc n (.Tuple es k0 p0) = some t) (k : Nat) (p : Pos) : ∃ ts, t = .tp ts ∧ PG X (.Tuple es k p) (gT S t) := by
  cases n with
  | zero => unfold trTg at h; cases h
  | succ n =>
    unfold trTg at h
    split at h
    · rename_i ns
      cases hts : trTgs N sc fnc n es with
      | none => rw [hts] at h; cases h
      | some ts =>
        rw [hts] at h
        cases h
        obtain ⟨h1, h2⟩ := (tg_all c n).2 es ts ns hts
        exact ⟨ts, rfl, g_tp c.hK c.calm h1 ((assign_len ns).trans h2) (assign_find ns)⟩
    · cases h
/-! ### classes, keywords -/
theorem cls_ok (c : Cy G T m N sc X S W) : ∀ {es : List Expr} {cs : List String}, clsOf sc es = some cs → ClsEs X es cs
  | [], cs, h => by unfold clsOf at h; cases h; exact .nil
  | e :: es, cs, h => by
    unfold clsOf at h
    split at h
    · rename_i hh; cases hh
    · rename_i x p es' he
      cases he
      split at h
      · rename_i hb
        split at h
        · rename_i k ks h1 h2
          cases h
          rw [Bool.and_eq_true] at hb
          have hd : dbg x = false := by simpa using hb.2
          have key : x ∈ bltAll ∧ bootBuiltins x = some (.type k) ∧ x ≠ "__name__" := by
            have mem : (x, k) ∈ clsN := by
              have := List.lookup_eq_some_iff.mp h1
              obtain ⟨l1, l2, e1, _⟩ := this
              rw [e1]; simp
            simp only [clsN, List.mem_cons, Prod.mk.injEq, List.not_mem_nil, or_false] at mem
            rcases mem with ⟨rfl, rfl⟩ | ⟨rfl, rfl⟩ | ⟨rfl, rfl⟩ | ⟨rfl, rfl⟩ | ⟨rfl, rfl⟩ <;> exact ⟨by decide, by decide +kernel, by decide⟩
          exact .cons (by show X.env.kindOf x = _; unfold PySem.Env.kindOf; rw [c.hsc]; exact gl_of hb.1) (c.nob x key.1) key.2.1 key.2.2 (dbg_of hd).1 (star_cons rfl) (cls_ok c h2)
        · cases h
      · cases h
    · cases h
theorem kw_all : ∀ {ks : List Keyword} {xs : List Str} {env : PySem.Env} {pos : Pos}, kwNames ks = some xs → (backToKw pos (keywordEach ks env)).all (·.1.isSome) = true ∧ (backToKw pos (keywordEach ks env)).filterMap (·.1) = xs ∧ (backToKw pos (keywordEach ks env)).any (·.1.isNone) = false ∧ ks.length = xs.length
  | [], xs, env, pos, h => by unfold kwNames at h; cases h; exact ⟨rfl, rfl, rfl, rfl⟩
  | ⟨none, _, _⟩ :: ks, xs, env, pos, h => by unfold kwNames at h; cases h
  | ⟨some x, v, p⟩ :: ks, xs, env, pos, h => by
    unfold kwNames at h
    cases h1 : kwNames ks with
    | none => rw [h1] at h; cases h
    | some ys =>
      rw [h1] at h
      cases h
      obtain ⟨a1, a2, a3, a4⟩ := kw_all (env := env) (pos := pos) h1
      refine ⟨?_, ?_, ?_, by simp [a4]⟩
      · show (true && (backToKw pos (keywordEach ks env)).all (·.1.isSome)) = true
        rw [a1]; rfl
      · show x :: (backToKw pos (keywordEach ks env)).filterMap (·.1) = x :: ys
        rw [a2]
      · show (false || (backToKw pos (keywordEach ks env)).any (·.1.isNone)) = false
        rw [a3]; rfl
theorem kwStrs_len {ps : List String} : ∀ {xs : List Str} {ys : List String}, kwStrs ps xs = some ys → xs.length = ys.length
  | [], ys, h => by unfold kwStrs at h; cases h; rfl
  | x :: xs, ys, h => by
    unfold kwStrs at h
    split at h
    · rename_i p q h1 h2
      cases h
      simp [kwStrs_len h2]
    · cases h
end
end Fp
/-! FpSnd2: the text does what its translation says: expressions, the induction. -/
namespace Fp
open PySem PySem.Spec PyProof.Rows L2
section
variable {X : L2.Cx} {a : Expr} {t : TE} {p : Pos}
theorem pe_and1 (h : PE X a t) : PE X (.BoolOp .And [a] p) t := ⟨fun pins s σ H Q I z => h.run pins s σ H Q I z⟩
theorem pe_or1 (h : PE X a t) : PE X (.BoolOp .Or [a] p) t := ⟨fun pins s σ H Q I z => h.run pins s σ H Q I z⟩
end
theorem bopIs_of {o : Operator} {b : Bop} (h : bopIs o = some b) : o = bopOf b := by
  cases o <;> cases h <;> rfl
theorem copIs_of {o : CmpOp} {b : Cop} (h : copIs o = some b) : o = copOf b := by
  cases o <;> cases h <;> rfl
/-- what the induction carries -/
structure Snd (G : Gt) (T : Tb) (m : Nat) (N : List Str) (n : Nat) : Prop where
  E : ∀ {sc : Scope} {X : L2.Cx} {S : Se} {W : WX}, Cy G T m N sc X S W → ∀ e, PE X e (tE S W (evalE (T.ct m) (trE G N n sc e)))
  A : ∀ {sc : Scope} {X : L2.Cx} {S : Se} {W : WX}, Cy G T m N sc X S W → ∀ es p, PE X (.BoolOp .And es p) (tE S W (evalE (T.ct m) (trAnd G N n sc es)))
  O : ∀ {sc : Scope} {X : L2.Cx} {S : Se} {W : WX}, Cy G T m N sc X S W → ∀ es p, PE X (.BoolOp .Or es p) (tE S W (evalE (T.ct m) (trOr G N n sc es)))
  T_ : ∀ {sc : Scope} {X : L2.Cx} {S : Se} {W : WX}, Cy G T m N sc X S W → ∀ e, PT X e (tT S W (evalT (T.ct m) (trT G N n sc e)))
  TA : ∀ {sc : Scope} {X : L2.Cx} {S : Se} {W : WX}, Cy G T m N sc X S W → ∀ es p, PW X (.BoolOp .And es p) (tT S W (evalT (T.ct m) (trTAnd G N n sc es)))
  TO : ∀ {sc : Scope} {X : L2.Cx} {S : Se} {W : WX}, Cy G T m N sc X S W → ∀ es p, PW X (.BoolOp .Or es p) (tT S W (evalT (T.ct m) (trTOr G N n sc es)))
  Es : ∀ {sc : Scope} {X : L2.Cx} {S : Se} {W : WX}, Cy G T m N sc X S W → ∀ es, noStar es = true → PA X es (tA S W (evalEs (T.ct m) (trEs G N n sc es)))
  Ks : ∀ {sc : Scope} {X : L2.Cx} {S : Se} {W : WX}, Cy G T m N sc X S W → ∀ ys ks, ks.length = ys.length → PK X ks (tA S W (evalKs (T.ct m) (trKs G N n sc ys ks)))
  P : ∀ {sc : Scope} {X : L2.Cx} {S : Se} {W : WX}, Cy G T m N sc X S W → ∀ o, PO X o (tO S W (evalO (T.ct m) (trO G N n sc o)))
  R : ∀ {sc : Scope} {X : L2.Cx} {S : Se} {W : WX}, Cy G T m N sc X S W → ∀ tg e fz, PI X tg e (iS S W (evalS (T.ct m) fz (trSrc G N n sc tg e)))
section
variable {G : Gt} {T : Tb} {m : Nat} {N : List Str} {sc : Scope} {X : L2.Cx} {S : Se} {W : WX} {e a b c : Expr} {es : List Expr} {p pos : Pos}
theorem badE : PE X e (tE S W (evalE (T.ct m) .nev)) := by rw [ev_nev]; exact s_nev
theorem badT : PT X e (tT S W (evalT (T.ct m) .nev)) := by
  rw [et_val (fun _ _ h => by cases h) (fun _ _ h => by cases h) (fun _ h => by cases h), ev_nev]
  exact ⟨fun _ _ _ _ _ _ ⟨_, _, _, _, g⟩ => g.elim⟩
theorem badW : PW X e (tT S W (evalT (T.ct m) .nev)) := by
  rw [et_val (fun _ _ h => by cases h) (fun _ _ h => by cases h) (fun _ h => by cases h), ev_nev]
  exact ⟨fun _ _ _ _ _ _ _ ⟨_, _, _, _, g⟩ => g.elim⟩
theorem badR {tg : Expr} {fz : Bool} : PI X tg e (iS S W (evalS (T.ct m) fz (.ov .nev))) := by
  rw [er_ov, ev_nev]
  exact ⟨fun _ _ _ _ _ _ ⟨_, _, _, _, g⟩ => g.elim⟩
theorem Cy.gl (c : Cy G T m N sc X S W) {x : Str} (h : glB sc x = true) : Gl X x := by
  show X.env.kindOf x = _
  unfold PySem.Env.kindOf
  rw [c.hsc]
  exact gl_of h
theorem es1 {C : Ct} {x : Ex} : evalEs C [x] = fun e => (evalE C x e).bind fun r e => (Fp.R.ok [] e).bind fun rs e => .ok (r :: rs) e := by rw [es_cons, es_nil]
theorem es2 {C : Ct} {x y : Ex} : evalEs C [x, y] = fun e => (evalE C x e).bind fun r e => ((evalE C y e).bind fun r e => (Fp.R.ok [] e).bind fun rs e => .ok (r :: rs) e).bind fun rs e => .ok (r :: rs) e := by rw [es_cons, es1]
theorem es_len {C : Ct} : ∀ {xs : List Ex} {e e' : Env} {rs : List Rv}, evalEs C xs e = .ok rs e' → rs.length = xs.length
  | [], e, e', rs, h => by rw [es_nil] at h; cases h; rfl
  | x :: xs, e, e', rs, h => by
    rw [es_cons] at h
    obtain ⟨r, e1, _, h⟩ := bind_inv h
    obtain ⟨rs1, e2, h1, h⟩ := bind_inv h
    injection h with h2 _
    rw [← h2, List.length_cons, List.length_cons, es_len h1]
theorem trEs_len {C : Ct} {n : Nat} : ∀ {n : Nat} {es : List Expr} {e e' : Env} {rs : List Rv}, evalEs C (trEs G N n sc es) e = .ok rs e' → rs.length = es.length
  | n, [], e, e', rs, h => by
    have : trEs G N n sc [] = [] := by cases n <;> (unfold trEs; rfl)
    rw [this] at h
    exact es_len h
  | 0, a :: es, e, e', rs, h => by
    unfold trEs at h
    rw [es_cons, ev_nev] at h
    cases h
  | n + 1, a :: es, e, e', rs, h => by
    unfold trEs at h
    rw [es_cons] at h
    obtain ⟨r, e1, _, h⟩ := bind_inv h
    obtain ⟨rs1, e2, h1, h⟩ := bind_inv h
    injection h with h2 _
    rw [← h2, List.length_cons, List.length_cons, trEs_len (n := n) h1]
theorem one_ {C : Ct} {x : Ex} : ∀ e rs e', evalEs C [x] e = .ok rs e' → rs.length = 1 := fun e rs e' h => es_len h
theorem two_ {C : Ct} {x y : Ex} : ∀ e rs e', evalEs C [x, y] e = .ok rs e' → rs.length = 2 := fun e rs e' h => es_len h
variable {n : Nat}
/-- a builtin of one argument -/
theorem snd_b1 (IH : Snd G T m N n) (c : Cy G T m N sc X S W) {x : Str} {k : String} (hb : blt1N.lookup x = some k) (hg : glB sc x = true) (hs : noStar [a] = true) : PE X (.Call (.Name x p) [a] [] pos) (tE S W (evalE (T.ct m) (.blt k [trE G N n sc a]))) := by
  have pa : PA X [a] (tA S W (evalEs (T.ct m) [trE G N n sc a])) := by
    rw [es1]
    exact s_cons (IH.E c a) s_nil (star_cons (noStar_cons hs).1)
  have st := star_cons (env := X.env) (es := []) (noStar_cons hs).1
  have pl : (backTo pos (starEach [] X.env)).any (·.1) = false := rfl
  have mem : (x, k) ∈ blt1N := by
    obtain ⟨l1, l2, e1, _⟩ := List.lookup_eq_some_iff.mp hb
    rw [e1]; simp
  rw [ev_blt]
  have G_ := c.gl hg
  simp only [blt1N, List.mem_cons, Prod.mk.injEq, List.not_mem_nil, or_false] at mem
  rcases mem with ⟨rfl, rfl⟩ | ⟨rfl, rfl⟩ | ⟨rfl, rfl⟩ | ⟨rfl, rfl⟩ | ⟨rfl, rfl⟩ | ⟨rfl, rfl⟩ | ⟨rfl, rfl⟩ | ⟨rfl, rfl⟩ | ⟨rfl, rfl⟩ | ⟨rfl, rfl⟩
  · exact s_len pa st pl c.hK one_ G_ (c.nob _ (by decide))
  · exact s_abs pa st pl one_ G_ (c.nob _ (by decide))
  · exact s_int pa st pl one_ G_ (c.nob _ (by decide))
  · exact s_tuple pa st pl c.hK one_ G_ (c.nob _ (by decide))
  · exact s_list pa st pl c.hK one_ G_ (c.nob _ (by decide))
  · exact s_all pa st pl c.hK c.calm one_ G_ (c.nob _ (by decide))
  · exact s_any pa st pl c.hK c.calm one_ G_ (c.nob _ (by decide))
  · exact s_sum pa st pl c.hK c.calm one_ G_ (c.nob _ (by decide))
  · exact s_minL pa st pl c.hK c.calm one_ G_ (c.nob _ (by decide))
  · exact s_maxL pa st pl c.hK c.calm one_ G_ (c.nob _ (by decide))
theorem pa2 (IH : Snd G T m N n) (c : Cy G T m N sc X S W) (hs : noStar [a, b] = true) : PA X [a, b] (tA S W (evalEs (T.ct m) [trE G N n sc a, trE G N n sc b])) := by
  obtain ⟨h1, h2⟩ := noStar_cons hs
  rw [es2]
  exact s_cons (IH.E c a) (s_cons (IH.E c b) s_nil (star_cons (noStar_cons h2).1)) (star_cons h1)
theorem snd_b2 (IH : Snd G T m N n) (c : Cy G T m N sc X S W) {x : Str} {k : String} (hb : blt2N.lookup x = some k) (hg : glB sc x = true) (hs : noStar [a, b] = true) : PE X (.Call (.Name x p) [a, b] [] pos) (tE S W (evalE (T.ct m) (.blt k [trE G N n sc a, trE G N n sc b]))) := by
  have pa := pa2 IH c hs
  have st := star_cons (env := X.env) (es := [b]) (noStar_cons hs).1
  have pl : (backTo pos (starEach [b] X.env)).any (·.1) = false := noStar_pl (noStar_cons hs).2
  have mem : (x, k) ∈ blt2N := by
    obtain ⟨l1, l2, e1, _⟩ := List.lookup_eq_some_iff.mp hb
    rw [e1]; simp
  rw [ev_blt]
  have G_ := c.gl hg
  simp only [blt2N, List.mem_cons, Prod.mk.injEq, List.not_mem_nil, or_false] at mem
  rcases mem with ⟨rfl, rfl⟩ | ⟨rfl, rfl⟩
  · exact s_min pa st pl c.calm two_ G_ (c.nob _ (by decide))
  · exact s_max pa st pl c.calm two_ G_ (c.nob _ (by decide))
theorem snd_gcd (IH : Snd G T m N n) (c : Cy G T m N sc X S W) (hg : glB sc "gcd" = true) (hG : G.gcd = true) (hs : noStar [a, b] = true) : PE X (.Call (.Name "gcd" p) [a, b] [] pos) (tE S W (evalE (T.ct m) (.blt "gcd" [trE G N n sc a, trE G N n sc b]))) := by
  rw [ev_blt]
  exact s_gcd (pa2 IH c hs) (star_cons (noStar_cons hs).1) (noStar_pl (noStar_cons hs).2) two_ (c.gl hg) (c.gcd hG)
theorem snd_lcm (IH : Snd G T m N n) (c : Cy G T m N sc X S W) (hg : glB sc "lcm" = true) (hG : G.lcm = true) (hs : noStar [a, b] = true) : PE X (.Call (.Name "lcm" p) [a, b] [] pos) (tE S W (evalE (T.ct m) (.blt "lcm" [trE G N n sc a, trE G N n sc b]))) := by
  rw [ev_blt]
  exact s_lcm (pa2 IH c hs) (star_cons (noStar_cons hs).1) (noStar_pl (noStar_cons hs).2) two_ (c.gl hg) (c.lcm hG)
end
end Fp
/-! FpSnd3: expressions, the step of the induction. -/
namespace Fp
open PySem PySem.Spec PyProof.Rows L2
section
variable {G : Gt} {T : Tb} {m : Nat} {N : List Str} {sc : Scope} {X : L2.Cx} {S : Se} {W : WX} {e a b o : Expr} {es : List Expr} {p pos : Pos} {n : Nat}
theorem snd_name (c : Cy G T m N sc X S W) {x : Str} : PE X (.Name x p) (tE S W (evalE (T.ct m) (trE G N (n + 1) sc (.Name x p)))) := by
  simp only [trE]
  split
  · exact badE
  · rename_i hd
    have hd : dbg x = false := by simpa using hd
    split
    · rename_i hv
      split
      · rename_i i hi
        rw [ev_var]
        exact s_var (pe_var (by rw [c.hN]; exact idx_get hi) (by rw [c.hsc]; exact vis_of hv) (dbg_of hd).1 (dbg_of hd).2)
      · exact badE
    · split
      · rename_i hg
        split
        · rename_i k hk
          obtain ⟨v, u, d, h1, h2, h3, h4⟩ := c.glo x k hk
          rw [ev_glo]
          exact s_glo (c.gl hg) h1 h2 h4 (dbg_of hd).1 (C := T.ct m) h3
        · exact badE
      · exact badE
theorem ipop_inv {sc : Scope} {o a : Expr} {pr : Nat × Nat} (h : ipopOf N sc o a = some pr) : ∃ (x : Str) (p1 : Pos) (k j1 : Nat) (p2 p3 : Pos) (j2 : Nat) (p4 : Pos) (i : Nat), o = .Subscript (.Name x p1) (.Constant (.int k) j1 p2) p3 ∧ a = .Constant (.int 0) j2 p4 ∧
    dbg x = false ∧ visB sc x = true ∧ N.idxOf? x = some i ∧ pr = (i, k) := by
  unfold ipopOf at h
  split at h
  · rename_i x p1 k j1 p2 p3 j2 p4
    split at h
    · rename_i hh
      simp only [Bool.and_eq_true, Bool.not_eq_true', decide_eq_true_eq] at hh
      obtain ⟨⟨h1, h2⟩, h3⟩ := hh
      cases hi : N.idxOf? x with
      | none => rw [hi] at h; cases h
      | some i =>
        rw [hi] at h
        cases h
        obtain ⟨m, rfl⟩ := Int.eq_ofNat_of_zero_le h3
        exact ⟨x, p1, m, j1, p2, p3, j2, p4, i, rfl, rfl, h1, h2, hi, rfl⟩
    · cases h
  · cases h
theorem ine_inv {sc : Scope} {k0 : Cop} {a b : Expr} {pr : Nat × Nat} (h : ineOf N sc k0 a b = some pr) : ∃ (x : Str) (p1 : Pos) (k j1 : Nat) (p2 p3 p4 : Pos) (i : Nat), k0 = .ne ∧ a = .Subscript (.Name x p1) (.Constant (.int k) j1 p2) p3 ∧ b = .List [] p4 ∧
    dbg x = false ∧ visB sc x = true ∧ N.idxOf? x = some i ∧ pr = (i, k) := by
  unfold ineOf at h
  split at h
  · rename_i x p1 k j1 p2 p3 p4
    split at h
    · rename_i hh
      simp only [Bool.and_eq_true, Bool.not_eq_true', decide_eq_true_eq] at hh
      obtain ⟨⟨h1, h2⟩, h3⟩ := hh
      cases hi : N.idxOf? x with
      | none => rw [hi] at h; cases h
      | some i =>
        rw [hi] at h
        cases h
        obtain ⟨m, rfl⟩ := Int.eq_ofNat_of_zero_le h3
        exact ⟨x, p1, m, j1, p2, p3, p4, i, rfl, rfl, rfl, h1, h2, hi, rfl⟩
    · cases h
  · cases h
theorem snd_meth (IH : Snd G T m N n) (c : Cy G T m N sc X S W) {x : Str} {ap : Pos} : PE X (.Call (.Attribute o x ap) es [] p) (tE S W (evalE (T.ct m) (trE G N (n + 1) sc (.Call (.Attribute o x ap) es [] p)))) := by
  simp only [trE]
  split
  case isFalse => exact badE
  rename_i hh
  simp only [Bool.and_eq_true] at hh
  obtain ⟨⟨h1, h2⟩, h3⟩ := hh
  split
  · rename_i hx
    obtain rfl := eq_of_beq hx
    match es, h2 with
    | [], _ => exact badE
    | _ :: _ :: _, _ => exact badE
    | [b], h2 =>
      have sb := (noStar_cons h2).1
      simp only
      rw [ev_meth]
      refine s_append c.hK (IH.E c o) (eas := evalEs (T.ct m) [trE G N n sc b]) (by rw [es1]; exact s_cons (IH.E c b) s_nil (star_cons sb)) (attr_base h1) ?_ h3 (star_cons sb) rfl
      rw [star_cons sb]
      rfl
  · split
    · rename_i hx
      obtain rfl := eq_of_beq hx
      match es, h2 with
      | _ :: _ :: _, _ => exact badE
      | [], _ =>
        simp only
        rw [ev_meth, es_nil]
        exact s_pop0 c.hK (IH.E c o) (attr_base h1) h3
      | [b], h2 =>
        have sb := (noStar_cons h2).1
        simp only
        split
        · rename_i pr hi
          obtain ⟨y, p1, k, j1, p2, p3, j2, p4, i, e1, e2, e3, e4, e5, e6⟩ := ipop_inv hi
          subst e1 e2 e6
          rw [ev_ipop]
          exact s_ipop c.hK (pe_var (by rw [c.hN]; exact idx_get e5) (by rw [c.hsc]; exact vis_of e4) (dbg_of e3).1 (dbg_of e3).2) h3
        rw [ev_meth]
        refine s_pop1 c.hK (IH.E c o) (eas := evalEs (T.ct m) [trE G N n sc b]) (by rw [es1]; exact s_cons (IH.E c b) s_nil (star_cons sb)) (fun e rs e' h => ?_) (attr_base h1) ?_ h3 (star_cons sb) rfl
        · match rs, one_ e rs e' h with
          | [r], _ => exact ⟨r, rfl⟩
        · rw [star_cons sb]
          rfl
    · exact badE
theorem snd_ise (IH : Snd G T m N n) (c : Cy G T m N sc X S W) {y : Str} {q q' : Pos} {k : String} (hk : errOf G sc y = some k) (hs : noStar [a, .Name y q'] = true) (hg : Gl X "isinstance") :
    PE X (.Call (.Name "isinstance" q) [a, .Name y q'] [] p) (tE S W (evalE (T.ct m) (.ise (trE G N n sc a) k))) := by
  have st := star_cons (env := X.env) (es := [.Name y q']) (noStar_cons hs).1
  have pl := noStar_pl (env := X.env) (pos := p) (noStar_cons hs).2
  unfold errOf at hk
  split at hk
  · rename_i hh
    simp only [Bool.and_eq_true, Bool.not_eq_true'] at hh
    obtain ⟨⟨h1, h2⟩, h3⟩ := hh
    have hdb := (dbg_of h2).1
    have ne : G.errs ≠ [] := fun z => by
      rw [z] at h3
      cases h3
    rw [ev_ise]
    split at hk
    · rename_i hy
      obtain rfl := eq_of_beq hy
      cases hk
      exact s_ise (cv := .ty "ValueError") (cu := .type "ValueError") c.hK (IH.E c a) (clsEs_pa (cs := ["ValueError"]) (.cons (c.gl h1) (c.err.nov ne) (by decide +kernel) (by decide) hdb (star_cons rfl) .nil)) (.ty _) (fun c0 C h => ⟨c.err.cls c0 C h, c.err.ve c0 C h⟩) hg (c.nob _ (by decide)) st pl
    · obtain ⟨C', fI, fd, hm, _⟩ := c.err.raise y k hk
      exact s_ise (cv := .ref C') (cu := .ref C') c.hK (IH.E c a) (PA.imp (pa_cons (pe_glob (v := .ref C') (c.gl h1) hm rfl hdb) pa_nil (star_cons rfl)) fun σ H Q z => z) (.own C') (fun c0 C h => ⟨c.err.cls c0 C h, (c.err.sub c0 C y k C' h hk hm).2⟩) hg (c.nob _ (by decide)) st pl
  · cases hk
theorem snd_fn (IH : Snd G T m N n) (c : Cy G T m N sc X S W) {x : Str} {q : Pos} : PE X (.Call (.Name x q) es [] p) (tE S W (evalE (T.ct m) (trE G N (n + 1) sc (.Call (.Name x q) es [] p)))) := by
  simp only [trE]
  split
  · exact badE
  · rename_i hh
    simp only [Bool.or_eq_true, not_or, Bool.not_eq_true, Bool.not_eq_false'] at hh
    obtain ⟨⟨hd, hg⟩, hs⟩ := hh
    have hdb := (dbg_of hd).1
    split
    · rename_i f hf
      obtain ⟨fa, fd, ps, F⟩ := c.fns x f hf
      cases es with
      | nil => exact badE
      | cons a es =>
        simp only
        split
        · rw [ev_tcl]
          exact s_iced (s_call (C := T.ct m) F.ok c.room (c.gl hg) F.mg F.kp F.bd c.takes (IH.Es c (a :: es) hs) hdb (star_cons (noStar_cons hs).1) (noStar_pl (noStar_cons hs).2))
        rw [ev_call]
        exact s_call (C := T.ct m) F.ok c.room (c.gl hg) F.mg F.kp F.bd c.takes (IH.Es c (a :: es) hs) hdb (star_cons (noStar_cons hs).1) (noStar_pl (noStar_cons hs).2)
    · match es, hs with
      | [], hs =>
        cases blt1N.lookup x <;> cases blt2N.lookup x <;> exact badE
      | [a], hs =>
        cases h1 : blt1N.lookup x with
        | some k => exact snd_b1 IH c h1 hg hs
        | none => cases blt2N.lookup x <;> exact badE
      | _ :: _ :: _ :: _, hs => cases blt1N.lookup x <;> cases blt2N.lookup x <;> exact badE
      | [a, b], hs =>
        cases h2 : blt2N.lookup x with
        | some k => cases blt1N.lookup x <;> exact snd_b2 IH c h2 hg hs
        | none =>
          have go : PE X (.Call (.Name x q) [a, b] [] p) (tE S W (evalE (T.ct m) (if x == "gcd" then (if G.gcd then .blt "gcd" [trE G N n sc a, trE G N n sc b] else .nev)
            else if x == "lcm" then (if G.lcm then .blt "lcm" [trE G N n sc a, trE G N n sc b] else .nev)
            else if x == "isinstance" then isiEx G sc (trE G N n sc a) b
            else .nev))) := by
            split
            · rename_i hx
              obtain rfl := eq_of_beq hx
              split
              · rename_i hG
                exact snd_gcd IH c hg hG hs
              · exact badE
            · split
              · rename_i hx
                obtain rfl := eq_of_beq hx
                split
                · rename_i hG
                  exact snd_lcm IH c hg hG hs
                · exact badE
              split
              · rename_i hx
                obtain rfl := eq_of_beq hx
                have st := star_cons (env := X.env) (es := [b]) (noStar_cons hs).1
                unfold isiEx
                cases b with
                | Tuple cs k pt =>
                  simp only
                  split
                  · split
                    · rename_i c1 cs1 hc
                      split
                      · rename_i hl
                        rw [ev_isi]
                        exact s_isiT c.hK (IH.E c a) (cls_ok c hc) (by simp) (by simp; omega) (c.gl hg) (c.nob _ (by decide)) st (star_cons rfl) (noStar_pl (noStar_cons hs).2)
                      · exact badE
                    · exact badE
                  · exact badE
                | Name y q' =>
                  simp only
                  split
                  · rename_i k hk
                    exact snd_ise IH c hk hs (c.gl hg)
                  split
                  · rename_i c1 hc
                    rw [ev_isi]
                    exact s_isi1 c.hK (IH.E c a) (cls_ok c hc) (c.gl hg) (c.nob _ (by decide)) st (noStar_pl (noStar_cons hs).2)
                  · exact badE
                | _ => exact badE
              · exact badE
          cases blt1N.lookup x <;> exact go
theorem snd_kw (IH : Snd G T m N n) (c : Cy G T m N sc X S W) {x : Str} {q : Pos} {k : Keyword} {ks : List Keyword} : PE X (.Call (.Name x q) es (k :: ks) p) (tE S W (evalE (T.ct m) (trE G N (n + 1) sc (.Call (.Name x q) es (k :: ks) p)))) := by
  simp only [trE]
  split
  · exact badE
  · rename_i hh
    simp only [Bool.or_eq_true, not_or, Bool.not_eq_true, Bool.not_eq_false'] at hh
    obtain ⟨⟨hd, hg⟩, hs⟩ := hh
    have hdb := (dbg_of hd).1
    split
    · rename_i f hf
      split
      · rename_i pn xs hp hx
        split
        · rename_i ys hy
          split
          · rename_i hk
            simp only [Bool.and_eq_true, decide_eq_true_eq] at hk
            obtain ⟨⟨h1, h2⟩, h3⟩ := hk
            obtain ⟨js, hj⟩ := Option.isSome_iff_exists.mp h2
            obtain ⟨fa, fd, ps, F⟩ := c.fns x f hf
            have kb := F.kw pn ys xs es.length js h1 hp hy hj
            obtain ⟨k1, k2, k3, k4⟩ := kw_all (env := X.env) (pos := p) hx
            have hl := kwStrs_len hy
            rw [ev_callk (c.pars f pn hp), h3]
            have hks := IH.Ks c ys (k :: ks) (k4.trans hl)
            cases es with
            | nil =>
              have e0 : evalEs (T.ct m) (trEs G N n sc []) = fun e => .ok [] e := by
                have : trEs G N n sc [] = [] := by cases n <;> (unfold trEs; rfl)
                rw [this, es_nil]
              rw [e0]
              exact s_callk0 (C := T.ct m) F.ok c.room (c.gl hg) F.mg F.kp kb c.takes hl.symm hj hks k1 k2 hdb (by
                show (false || (backToKw p (keywordEach (k :: ks) X.env)).any (·.1.isNone)) = false
                rw [k3]; rfl)
            | cons a es =>
              exact s_callk (C := T.ct m) F.ok c.room (c.gl hg) F.mg F.kp kb c.takes hl.symm hj (fun e rs e' h => trEs_len (n := 0) h) (IH.Es c (a :: es) hs) hks k1 k2 hdb (star_cons (noStar_cons hs).1) (by
                rw [noStar_pl hs, k3]; rfl)
          · exact badE
        · exact badE
      · exact badE
    · exact badE
end
end Fp
/-! FpSnd4: expressions: comprehensions, sources, tests; the induction. -/
namespace Fp
open PySem PySem.Spec PyProof.Rows L2
section
variable {G : Gt} {T : Tb} {m : Nat} {N : List Str} {sc : Scope} {X : L2.Cx} {S : Se} {W : WX} {e a b o elt tg it : Expr} {es : List Expr} {p pos : Pos} {n : Nat}
theorem own_ok (c : Cy G T m N sc X S W) {scope : Scope} {own : List (Str × Nat)} (h : blkC N sc scope own = true) : BlkOk X.N X.env.scope scope own := by
  rw [c.hN, c.hsc]
  exact blkOk_by h
theorem blk_tg (c : Cy G T m N sc X S W) {scope : Scope} {t : Tg} (h : trTg N (relS scope sc) (fun y => scope.names.lookup y == some .cell) n tg = some t) (s : Shared) (H : Hp) (C : Addr) (cl : List (Str × Addr)) (fp : List Addr) : PG (X.blk s H scope (compEnvC scope cl C X.env) fp) tg (gT S t) := by
  have c' := c.blk s H scope C cl fp
  exact (tg_all (fnc := fun y => scope.names.lookup y == some .cell) ⟨c'.hK, c'.hN, c'.nd, c'.hsc, c'.calm, fun x hx => hx⟩ n).1 tg t h
theorem slots_ok {t : Tg} {own : List Nat} (h : (t.slots.all fun j => decide (j ∈ own)) = true) : ∀ j ∈ t.slots, j ∈ own := fun j hj => by
  have := List.all_eq_true.mp h j hj
  simpa using this
theorem snd_lc (IH : Snd G T m N n) (c : Cy G T m N sc X S W) {ifs : List Expr} {scope : Scope} : PE X (.ListComp elt [⟨tg, it, ifs, 0⟩] scope p) (tE S W (evalE (T.ct m) (trE G N (n + 1) sc (.ListComp elt [⟨tg, it, ifs, 0⟩] scope p)))) := by
  simp only [trE]
  split
  · exact badE
  · rename_i hset
    have hset : isSet it = false := by simpa using hset
    split
    · rename_i hb
      split
      · rename_i t ht
        split
        · rename_i hsl
          rw [ev_comp]
          exact s_comp (ifs := []) (ct := fun e => .ok true e) (ex := evalE (T.ct m) (trE G N n (relS scope sc) elt)) (own := ownOf N scope) c.calm (by rw [c.hN]; exact c.nd) (IH.R c tg it false) (own_ok c hb) (slots_ok hsl) (fun s H C cl fp => blk_tg c ht s H C cl fp) (fun s H C cl fp => ts_nil)
            (fun s H C cl fp => IH.E (c.blk s H scope C cl fp) elt) (fold_iter hset)
        · exact badE
      · rename_i t k ht
        split
        · rename_i hsl
          rw [ev_comp]
          exact s_comp (ifs := [k]) (ct := evalT (T.ct m) (trT G N n (relS scope sc) k)) (ex := evalE (T.ct m) (trE G N n (relS scope sc) elt)) (own := ownOf N scope) c.calm (by rw [c.hN]; exact c.nd) (IH.R c tg it false) (own_ok c hb) (slots_ok hsl) (fun s H C cl fp => blk_tg c ht s H C cl fp)
            (fun s H C cl fp => pts_one (IH.T_ (c.blk s H scope C cl fp) k)) (fun s H C cl fp => IH.E (c.blk s H scope C cl fp) elt) (fold_iter hset)
        · exact badE
      · exact badE
    · exact badE
theorem trE_lc_no {x : Ex} {gs : List Comprehension} {scope : Scope} (h : ∀ tg it ifs, gs ≠ [⟨tg, it, ifs, 0⟩]) : trE G N (n + 1) sc (.ListComp elt gs scope p) = .nev := by
  unfold trE
  split <;> first | rfl | skip
  all_goals (rename_i hh; first | (cases hh; done) | (cases hh; exact absurd rfl (h _ _ _)))
theorem snd_E (IH : Snd G T m N n) (c : Cy G T m N sc X S W) (e : Expr) : PE X e (tE S W (evalE (T.ct m) (trE G N (n + 1) sc e))) := by
  cases e with
  | Constant k j p =>
    cases k with
    | int i => simp only [trE]; rw [ev_cst]; exact s_cst pe_int fun F => rfl
    | bool i => simp only [trE]; rw [ev_cst]; exact s_cst pe_bl fun F => rfl
    | none => simp only [trE]; rw [ev_cst]; exact s_cst pe_non fun F => rfl
    | str i => simp only [trE]; rw [ev_cst]; exact s_cst pe_str fun F => rfl
    | _ => simp only [trE]; exact badE
  | Name x p => exact snd_name c
  | BinOp a o b p =>
    simp only [trE]
    cases h : bopIs o with
    | none => exact badE
    | some k =>
      rw [bopIs_of h]
      simp only
      rw [ev_bin]
      exact s_bin c.hK k (IH.E c a) (IH.E c b)
  | UnaryOp o a p =>
    cases o with
    | USub => simp only [trE]; rw [ev_neg]; exact s_neg (IH.E c a)
    | Not => simp only [trE]; rw [ev_not]; exact s_not c.hK (IH.E c a)
    | _ => simp only [trE]; exact badE
  | BoolOp o es p =>
    cases o with
    | And => simp only [trE]; exact IH.A c es p
    | Or => simp only [trE]; exact IH.O c es p
  | IfExp a b d p => simp only [trE]; rw [ev_ite]; exact s_ite (IH.T_ c a) (IH.E c b) (IH.E c d)
  | Compare a os bs p =>
    match os, bs with
    | [], bs => simp only [trE]; exact badE
    | [o], [] => simp only [trE]; exact badE
    | [o], [b] =>
      simp only [trE]
      split
      · exact badE
      · rename_i hs
        have hs : isSet b = false := by simpa using hs
        cases h : copIs o with
        | none => exact badE
        | some k =>
          rw [copIs_of h]
          simp only
          split
          · rename_i pr hi
            obtain ⟨y, p1, j, j1, p2, p3, p4, i, e0, e1, e2, e3, e4, e5, e6⟩ := ine_inv hi
            subst e0 e1 e2 e6
            rw [ev_ine]
            exact s_ine c.hK c.units (pe_var (by rw [c.hN]; exact idx_get e5) (by rw [c.hsc]; exact vis_of e4) (dbg_of e3).1 (dbg_of e3).2)
          rw [ev_cmp]
          exact s_cmp c.hK c.units k (IH.E c a) (IH.E c b) (behind hs _)
    | [o], _ :: _ :: _ => simp only [trE]; exact badE
    | [o, o'], [] => simp only [trE]; exact badE
    | [o, o'], [b] => simp only [trE]; exact badE
    | [o, o'], [b, d] =>
      simp only [trE]
      split
      · exact badE
      · rename_i hs
        have hs : isSet d = false := by simpa using hs
        cases h : copIs o with
        | none => exact badE
        | some k => cases h' : copIs o' with
          | none => exact badE
          | some k' =>
            rw [copIs_of h, copIs_of h']
            simp only
            rw [ev_chain]
            exact s_chain c.hK c.units k k' (IH.E c a) (IH.E c b) (IH.E c d) (behind hs _)
    | [o, o'], _ :: _ :: _ :: _ => simp only [trE]; exact badE
    | _ :: _ :: _ :: _, bs => simp only [trE]; exact badE
  | Tuple es k p =>
    simp only [trE]
    split
    · rename_i hs
      rw [ev_tup]
      exact s_tup (IH.Es c es hs)
    · exact badE
  | List es p =>
    simp only [trE]
    split
    · rename_i hs
      rw [ev_lst]
      exact s_lst (IH.Es c es hs)
    · exact badE
  | Dict ks vs p =>
    match ks, vs with
    | [], [] => simp only [trE]; rw [ev_dic0]; exact s_dic0
    | _ :: _, _ => simp only [trE]; exact badE
    | [], _ :: _ => simp only [trE]; exact badE
  | Subscript a b p =>
    have plain : isSlice b = false → PE X (.Subscript a b p) (tE S W (evalE (T.ct m) (.idx (trE G N n sc a) (trE G N n sc b)))) := fun h => by
      rw [ev_idx]
      exact s_idx c.hK (IH.E c a) (IH.E c b) (plainIx h)
    cases b with
    | Slice lo hi st q =>
      cases st with
      | none =>
        simp only [trE]
        rw [ev_slc]
        exact s_slc c.hK (IH.E c a) (IH.P c lo) (IH.P c hi)
      | some st =>
        have old : trE G N (n + 1) sc (.Subscript a (.Slice lo hi (some st) q) p) = (if isRev (.Slice lo hi (some st) q) then .rev (trE G N n sc a) else if isSlice (.Slice lo hi (some st) q) then .nev else .idx (trE G N n sc a) (trE G N n sc (.Slice lo hi (some st) q))) → PE X (.Subscript a (.Slice lo hi (some st) q) p) (tE S W (evalE (T.ct m) (trE G N (n + 1) sc (.Subscript a (.Slice lo hi (some st) q) p)))) := fun he => by
          rw [he]
          cases hr : isRev (.Slice lo hi (some st) q) with
          | false => simp only [isSlice, if_true, Bool.false_eq_true, if_false]; exact badE
          | true =>
            simp only [if_true]
            unfold isRev at hr
            split at hr
            · rename_i he
              cases he
              rw [ev_rev]
              exact s_rev c.hK (IH.E c a)
            · cases hr
        cases lo with
        | some lo =>
          cases hi with
          | none =>
            simp only [trE]
            rw [ev_sls]
            exact s_step c.hK (IH.E c a) (IH.E c lo) (IH.E c st)
          | some hi => exact old (by simp only [trE])
        | none => exact old (by simp only [trE])
    | _ => simp only [trE, isRev, isSlice, Bool.false_eq_true, if_false]; exact plain rfl
  | ListComp x gs scope p =>
    by_cases h : ∃ tg it ifs, gs = [⟨tg, it, ifs, 0⟩]
    · obtain ⟨tg, it, ifs, rfl⟩ := h
      exact snd_lc IH c
    · rw [trE_lc_no (x := .nev) fun tg it ifs z => h ⟨tg, it, ifs, z⟩]
      exact badE
  | Call f es ks p =>
    cases f with
    | Attribute o x q =>
      cases ks with
      | nil => exact snd_meth IH c
      | cons k ks => simp only [trE]; exact badE
    | Name x q =>
      cases ks with
      | nil => exact snd_fn IH c
      | cons k ks => exact snd_kw IH c
    | _ => simp only [trE]; exact badE
  | Attribute o x q =>
    simp only [trE]
    split
    · rename_i hh
      rw [Bool.and_eq_true] at hh
      obtain rfl := eq_of_beq hh.1
      rw [ev_valof]
      exact s_val c.hK (IH.E c o) c.err.cls (attr_base hh.2)
    · exact badE
  | _ => simp only [trE]; exact badE
end
end Fp
/-! FpSnd5: expressions: the induction. -/
namespace Fp
open PySem PySem.Spec PyProof.Rows L2
section
variable {G : Gt} {T : Tb} {m : Nat} {N : List Str} {sc : Scope} {X : L2.Cx} {S : Se} {W : WX} {e a b o elt tg it : Expr} {es : List Expr} {p pos : Pos} {n : Nat}
theorem snd_And (IH : Snd G T m N n) (c : Cy G T m N sc X S W) (es : List Expr) (p : Pos) : PE X (.BoolOp .And es p) (tE S W (evalE (T.ct m) (trAnd G N (n + 1) sc es))) := by
  match es with
  | [] => unfold trAnd; exact badE
  | [a] => unfold trAnd; exact pe_and1 (IH.E c a)
  | a :: b :: es => unfold trAnd; rw [ev_and]; exact s_and (IH.E c a) (IH.A c (b :: es) p)
theorem snd_Or (IH : Snd G T m N n) (c : Cy G T m N sc X S W) (es : List Expr) (p : Pos) : PE X (.BoolOp .Or es p) (tE S W (evalE (T.ct m) (trOr G N (n + 1) sc es))) := by
  match es with
  | [] => unfold trOr; exact badE
  | [a] => unfold trOr; exact pe_or1 (IH.E c a)
  | a :: b :: es => unfold trOr; rw [ev_or]; exact s_or (IH.E c a) (IH.O c (b :: es) p)
theorem snd_TAnd (IH : Snd G T m N n) (c : Cy G T m N sc X S W) (es : List Expr) (p : Pos) : PW X (.BoolOp .And es p) (tT S W (evalT (T.ct m) (trTAnd G N (n + 1) sc es))) := by
  match es with
  | [] => unfold trTAnd; exact badW
  | [a] => unfold trTAnd; exact t_and1 (IH.T_ c a)
  | a :: b :: es => unfold trTAnd; rw [et_and]; exact t_and (IH.T_ c a) (IH.TA c (b :: es) p)
theorem snd_TOr (IH : Snd G T m N n) (c : Cy G T m N sc X S W) (es : List Expr) (p : Pos) : PW X (.BoolOp .Or es p) (tT S W (evalT (T.ct m) (trTOr G N (n + 1) sc es))) := by
  match es with
  | [] => unfold trTOr; exact badW
  | [a] => unfold trTOr; exact t_or1 (IH.T_ c a)
  | a :: b :: es => unfold trTOr; rw [et_or]; exact t_or (IH.T_ c a) (IH.TO c (b :: es) p)
/-- a test that is a value -/
theorem snd_Tv (IH : Snd G T m N n) (c : Cy G T m N sc X S W) (e : Expr) (he : ∀ whole, isTrue e X.env whole = (do let v ← whole; standAt e.pos; holding [v] (truthy v))) :
    PT X e (tT S W (evalT (T.ct m) (match trE G N n sc e with | .and _ _ => .nev | .or _ _ => .nev | .not _ => .nev | x => x))) := by
  have h := t_val c.hK (IH.E c e) he
  split
  · exact badT
  · exact badT
  · exact badT
  · rename_i h1 h2 h3
    rw [et_val (fun x y z => h1 x y z) (fun x y z => h2 x y z) (fun x z => h3 x z)]
    exact h
theorem snd_T (IH : Snd G T m N n) (c : Cy G T m N sc X S W) (e : Expr) : PT X e (tT S W (evalT (T.ct m) (trT G N (n + 1) sc e))) := by
  cases e with
  | UnaryOp o a p =>
    cases o with
    | Not => simp only [trT]; rw [et_not]; exact t_not (IH.T_ c a)
    | _ => simp only [trT]; exact snd_Tv IH c _ fun _ => rfl
  | BoolOp o es p =>
    cases o with
    | And => simp only [trT]; exact (IH.TA c es p).pt
    | Or => simp only [trT]; exact (IH.TO c es p).pt
  | IfExp a b d p => simp only [trT]; exact badT
  | Compare a os bs p =>
    match os, bs with
    | [], bs => simp only [trT]; exact badT
    | [o], [] => simp only [trT]; exact badT
    | [o], [b] =>
      simp only [trT]
      split
      · exact badT
      · rename_i hs
        have hs : isSet b = false := by simpa using hs
        cases h : copIs o with
        | none => exact badT
        | some k =>
          rw [copIs_of h]
          simp only
          split
          · rename_i pr hi
            obtain ⟨y, p1, j, j1, p2, p3, p4, i, e0, e1, e2, e3, e4, e5, e6⟩ := ine_inv hi
            subst e0 e1 e2 e6
            rw [et_val (fun _ _ h => by cases h) (fun _ _ h => by cases h) (fun _ h => by cases h), ev_ine]
            exact t_ine c.hK c.units (pe_var (by rw [c.hN]; exact idx_get e5) (by rw [c.hsc]; exact vis_of e4) (dbg_of e3).1 (dbg_of e3).2)
          rw [et_cmp]
          exact t_cmp c.hK c.units k (IH.E c a) (IH.E c b) (behind hs _)
    | [o], _ :: _ :: _ => simp only [trT]; exact badT
    | _ :: _ :: _, bs => simp only [trT]; exact badT
  | _ => simp only [trT]; exact snd_Tv IH c _ fun _ => rfl
theorem snd_Es (IH : Snd G T m N n) (c : Cy G T m N sc X S W) (es : List Expr) (h : noStar es = true) : PA X es (tA S W (evalEs (T.ct m) (trEs G N (n + 1) sc es))) := by
  cases es with
  | nil => unfold trEs; rw [es_nil]; exact s_nil
  | cons a es =>
    obtain ⟨h1, h2⟩ := noStar_cons h
    unfold trEs
    rw [es_cons]
    exact s_cons (IH.E c a) (IH.Es c es h2) (star_cons h1)
theorem snd_Ks (IH : Snd G T m N n) (c : Cy G T m N sc X S W) (ys : List String) (ks : List Keyword) (h : ks.length = ys.length) : PK X ks (tA S W (evalKs (T.ct m) (trKs G N (n + 1) sc ys ks))) := by
  match ys, ks, h with
  | [], [], _ => unfold trKs; rw [ek_nil]; exact s_knil
  | y :: ys, ⟨nm, v, q⟩ :: ks, h =>
    unfold trKs
    rw [ek_cons]
    exact s_kcons (IH.E c v) (IH.Ks c ys ks (by simpa using h))
theorem snd_P (IH : Snd G T m N n) (c : Cy G T m N sc X S W) (o : Option Expr) : PO X o (tO S W (evalO (T.ct m) (trO G N (n + 1) sc o))) := by
  cases o with
  | none => unfold trO; rw [eo_none]; exact s_none
  | some a => unfold trO; rw [eo_some]; exact s_some (IH.E c a)
theorem snd_ov (IH : Snd G T m N n) (c : Cy G T m N sc X S W) (tg e : Expr) (fz : Bool) : PI X tg e (iS S W (evalS (T.ct m) fz (.ov (trE G N n sc e)))) := by
  rw [er_ov]
  exact src_ov c.hK (IH.E c e) fz
theorem pa1 (IH : Snd G T m N n) (c : Cy G T m N sc X S W) (hs : noStar [a] = true) : PA X [a] (tA S W fun e => (evalE (T.ct m) (trE G N n sc a) e).bind fun x e => (Fp.R.ok [] e).bind fun rs e => .ok (x :: rs) e) :=
  s_cons (IH.E c a) s_nil (star_cons (noStar_cons hs).1)
theorem snd_R (IH : Snd G T m N n) (c : Cy G T m N sc X S W) (tg e : Expr) (fz : Bool) : PI X tg e (iS S W (evalS (T.ct m) fz (trSrc G N (n + 1) sc tg e))) := by
  cases e with
  | Call f es ks p =>
    cases f with
    | Name x q =>
      cases ks with
      | nil =>
        simp only [trSrc]
        split
        · exact badR
        · rename_i hh
          simp only [Bool.or_eq_true, not_or, Bool.not_eq_true, Bool.not_eq_false'] at hh
          obtain ⟨⟨hd, hg⟩, hs⟩ := hh
          split
          · rename_i hx
            obtain rfl := eq_of_beq hx
            match es, hs with
            | [], _ => exact badR
            | [a], hs =>
              simp only
              rw [er_rng]
              exact src_rng (pa1 IH c hs) (c.gl hg) (c.nob _ (by decide)) (by rw [star_cons (noStar_cons hs).1] <;> rfl)
            | [a, b], hs =>
              obtain ⟨h1, h2⟩ := noStar_cons hs
              simp only
              rw [er_rng2]
              exact src_rng2 (s_cons (IH.E c a) (pa1 IH c h2) (star_cons h1)) (c.gl hg) (c.nob _ (by decide)) (by rw [star_cons h1, star_cons (noStar_cons h2).1] <;> rfl) (by rw [star_cons (noStar_cons h2).1] <;> rfl)
            | _ :: _ :: _ :: _, _ => exact badR
          · split
            · rename_i hx
              obtain rfl := eq_of_beq hx
              match es, hs with
              | [], _ => exact badR
              | _ :: _ :: _, _ => exact badR
              | [a], hs =>
                simp only
                cases tg with
                | Tuple ts k pt =>
                  simp only [isTup, if_true]
                  rw [er_enu]
                  exact src_enu c.hK (pa1 IH c hs) fz (c.gl hg) (c.nob _ (by decide)) (by rw [star_cons (noStar_cons hs).1] <;> rfl)
                | _ => exact badR
            · split
              · rename_i hx
                obtain rfl := eq_of_beq hx
                match es, hs with
                | [], _ => exact badR
                | [_], _ => exact badR
                | _ :: _ :: _ :: _, _ => exact badR
                | [a, b], hs =>
                  obtain ⟨h1, h2⟩ := noStar_cons hs
                  simp only
                  cases tg with
                  | Tuple ts k pt =>
                    simp only [isTup, if_true]
                    rw [er_zip]
                    exact src_zip c.hK (s_cons (IH.E c a) (pa1 IH c h2) (star_cons h1)) fz (c.gl hg) (c.nob _ (by decide)) (star_cons h1) (noStar_pl h2)
                  | _ => exact badR
              · exact snd_ov IH c tg _ fz
      | cons k ks => simp only [trSrc]; exact snd_ov IH c tg _ fz
    | _ => simp only [trSrc]; exact snd_ov IH c tg _ fz
  | _ => simp only [trSrc]; exact snd_ov IH c tg _ fz
end
theorem badA {T : Tb} {m : Nat} {X : L2.Cx} {S : Se} {W : WX} {es : List Expr} : PA X es (tA S W (evalEs (T.ct m) [.nev])) := by
  rw [es_cons, ev_nev]
  exact ⟨fun _ _ _ _ _ _ _ ⟨_, _, _, _, g⟩ => g.elim⟩
theorem snd_all {G : Gt} {T : Tb} {m : Nat} {N : List Str} : ∀ n : Nat, Snd G T m N n
  | 0 => {
    E := fun c e => by unfold trE; exact badE
    A := fun c es p => by cases es <;> (unfold trAnd; exact badE)
    O := fun c es p => by cases es <;> (unfold trOr; exact badE)
    T_ := fun c e => by unfold trT; exact badT
    TA := fun c es p => by cases es <;> (unfold trTAnd; exact badW)
    TO := fun c es p => by cases es <;> (unfold trTOr; exact badW)
    Es := fun c es h => by
      cases es with
      | nil => unfold trEs; rw [es_nil]; exact s_nil
      | cons a es => unfold trEs; exact badA
    Ks := fun c ys ks h => by
      cases ks with
      | nil => unfold trKs; rw [ek_nil]; exact s_knil
      | cons k ks =>
        unfold trKs
        rw [ek_cons, ev_nev]
        exact ⟨fun _ _ _ _ _ _ _ ⟨_, _, _, _, g⟩ => g.elim⟩
    P := fun c o => by
      cases o with
      | none => unfold trO; rw [eo_none]; exact s_none
      | some a =>
        unfold trO
        rw [eo_some, ev_nev]
        exact ⟨fun _ _ _ _ _ _ ⟨_, _, _, _, g⟩ => g.elim⟩
    R := fun c tg e fz => by unfold trSrc; exact badR }
  | n + 1 =>
    have IH := snd_all (G := G) (T := T) (m := m) (N := N) n
    ⟨fun c e => snd_E IH c e, fun c es p => snd_And IH c es p, fun c es p => snd_Or IH c es p, fun c e => snd_T IH c e, fun c es p => snd_TAnd IH c es p, fun c es p => snd_TOr IH c es p, fun c es h => snd_Es IH c es h, fun c ys ks h => snd_Ks IH c ys ks h,
      fun c o => snd_P IH c o, fun c tg e fz => snd_R IH c tg e fz⟩
end Fp
/-! FpSnd6: the text does what its translation says: statements. -/
namespace Fp
open PySem PySem.Spec PyProof.Rows L2
section
variable {C : Ct} {a b c x : Ex} {es : List Ex} {ss tt : List Sm} {i : Nat} {t : Tg}
theorem xs_nev : execS C .nev = fun _ => .bad := by funext e; rw [execS]
theorem xs_asg : execS C (.asg t x) = fun e => (evalE C x e).st fun r e => (bindT t r e).st fun _ e => .nx e := by funext e; rw [execS]
theorem xs_par {is : List Nat} : execS C (.par is es) = fun e => (evalEs C es e).st fun rs e => (bindPar is rs e).st fun _ e => .nx e := by funext e; rw [execS]
theorem xs_setI : execS C (.setI b c a) = fun e => (evalE C a e).st fun r e => (evalE C b e).st fun y e => (evalE C c e).st fun z e => (e.item r).st fun d e => (setIx y z d e).st fun _ e => .nx e := by funext e; rw [execS]
theorem xs_aug : execS C (.aug i x) = fun e => (e.var i).st fun y e => match y with
    | .val (.int a) => (evalE C x e).st fun z e => match z with
      | .val (.int b) => if i < e.sl.length then .nx ⟨e.sl.set i (.val (.int (a + b))), e.ps⟩ else .bad
      | _ => .bad
    | _ => .bad := by funext e; rw [execS] <;> rfl
theorem xs_augI : execS C (.augI b c x) = fun e => (evalE C b e).st fun y e => (evalE C c e).st fun z e => (opIdx y z e).st fun u e => match u with
    | .val (.int a) => (evalE C x e).st fun v e => match v with
      | .val (.int c) => (setIx y z (.int (a + c)) e).st fun _ e => .nx e
      | _ => .bad
    | _ => .bad := by funext e; rw [execS] <;> rfl
theorem xs_ite : execS C (.ite c ss tt) = fun e => (evalT C c e).st fun t e => if t then execSs C ss e else execSs C tt e := by funext e; rw [execS]
theorem xs_whl : execS C (.whl c ss) = fun e => whileE (evalT C c) (execSs C ss) e := by funext e; rw [execS]
theorem xs_for {s : Src} : execS C (.for_ t s ss) = fun e => (evalS C true s e).st fun p e => forL (fun d e => match bindD t d e with
      | some e => execSs C ss e
      | none => .bad) p.1 e := by funext e; rw [execS] <;> rfl
theorem xs_ret : execS C (.ret x) = fun e => (evalE C x e).st fun r e => .ret r e := by funext e; rw [execS]
theorem xs_retn : execS C .retn = fun e => .ret (.val .non) e := by funext e; rw [execS]
theorem xs_exp : execS C (.exp x) = fun e => (evalE C x e).st fun _ e => .nx e := by funext e; rw [execS]
theorem xs_brk : execS C .brk = fun e => .bk e := by funext e; rw [execS]
theorem xs_cnt : execS C .cnt = fun e => .ct e := by funext e; rw [execS]
theorem xs_rai {k : String} : execS C (.rai k x) = fun e => (evalE C x e).st fun r e => (e.asVal r).st fun d e => .ex k d e := by funext e; rw [execS]
theorem xs_kee {k : String} {i j : Nat} : execS C (.kee ss k i j) = fun e => tryE (fun c => C.sub c k) i j (execSs C ss e) := by funext e; rw [execS]
theorem xs_pas : execS C .pas = fun e => .nx e := by funext e; rw [execS]
theorem xss_nil : execSs C [] = fun e => .nx e := by funext e; rw [execSs]
theorem xss_cons {s : Sm} : execSs C (s :: ss) = fun e => (execS C s e).andThen (execSs C ss) := by funext e; rw [execSs]
end
/-! ### the text's helpers -/
section
variable {env : PySem.Env} {sc : Scope}
theorem blk_kind (hk : env.scope.kind = .function) : env.blockKind = .function := by
  unfold PySem.Env.blockKind
  rw [hk]
  rfl
theorem kind_local (hs : env.scope = sc) (x : Str) : (env.kindOf x == some .local) = localB sc x := by
  unfold PySem.Env.kindOf localB
  rw [hs]
  cases h : sc.names.lookup x with
  | none => rfl
  | some k => cases k <;> rfl
theorem swap_lc {elt : Expr} {gs : List Comprehension} {scope : Scope} {q p : Pos} {x : Str} {l : Nat} (hk : env.scope.kind = .function) (hs : env.scope = sc) : swapsWith (.ListComp elt gs scope q) (some (.Name x p)) l env = pure (lcSwap sc x p scope q) := by
  unfold swapsWith lcSwap
  simp only [blk_kind hk, kind_local hs, Expr.pos]
  rfl
theorem swap_no {ts : List Expr} {k : Nat} {pt : Pos} {a : Expr} (h : ∀ vs k2 p2, a ≠ .Tuple vs k2 p2) : swappedStores [.Tuple ts k pt] a env = pure none := by
  cases a <;> first | rfl | exact absurd rfl (h _ _ _)
theorem swap_fold {ts vs : List Expr} {k k2 : Nat} {pt p2 : Pos} (h : (vs.all (foldedForSure 8) || decide (3 < ts.length)) = true) : swappedStores [.Tuple ts k pt] (.Tuple vs k2 p2) env = pure none := by
  unfold swappedStores
  simp only
  split
  · rfl
  · rename_i h1
    have hf : vs.all (foldedForSure 8) = true := by
      rcases (Bool.or_eq_true _ _).mp h with z | z
      · exact z
      · exfalso
        apply h1
        have : 3 < ts.length := of_decide_eq_true z
        have e2 : (ts.length == 2) = false := by simp; omega
        have e3 : (ts.length == 3) = false := by simp; omega
        rw [e2, e3]
        rfl
    split
    · rfl
    · split
      · rfl
      · first
          | rfl
          | (rw [if_pos hf]; rfl)
theorem star_any : ∀ {vs : List Expr}, noStar vs = true → (vs.any fun | .Starred .. => true | _ => false) = false
  | [], _ => rfl
  | a :: vs, h => by
    obtain ⟨h1, h2⟩ := noStar_cons h
    have ih := star_any h2
    rw [List.any_cons, ih]
    cases a <;> first | rfl | cases h1
theorem star_mem {vs : List Expr} (hv : noStar vs = true) {x1 : Expr} (h1 : x1 ∈ vs) : isStar x1 = false := by
  unfold noStar at hv
  have := List.all_eq_true.mp hv x1 h1
  simpa using this
theorem swap_two {x y : Str} {p q : Pos} {k k2 : Nat} {pt p2 : Pos} {vs : List Expr} (hk : env.scope.kind = .function) (hs : env.scope = sc) (hl : vs.length = 2) (hv : noStar vs = true) (hf : vs.all (foldedForSure 8) = false) (hc : vs.all (constantsAlone 8) = false)
    (hx : localB sc x = true) (hy : localB sc y = true) (hp : (p.line == q.line) = true) (hne : x ≠ y) : swappedStores [.Tuple [.Name x p, .Name y q] k pt] (.Tuple vs k2 p2) env = pure (some [x, y]) := by
  have l2 : (vs.length != 2) = false := by rw [hl]; rfl
  have bk : (env.blockKind != ScopeKind.function) = false := by rw [blk_kind hk]; rfl
  have e1 : (q.line == p.line) = true := by rw [eq_of_beq hp]; exact beq_self_eq_true _
  have e2 : (p.line == p.line) = true := beq_self_eq_true _
  have dd : ([x, y].eraseDups.length != [x, y].length) = false := by
    have : ([x, y] : List Str).eraseDups = [x, y] := by
      simp [List.eraseDups_cons, Ne.symm hne]
    rw [this]; rfl
  unfold swappedStores
  simp only [List.length_cons, List.length_nil, List.head?_cons, Option.map_some, Option.getD_some, Expr.pos, List.filterMap_cons, List.filterMap_nil, kind_local hs, hx, hy, e1, e2, Bool.and_self, if_true, star_any hv, hf, hc]
  simp [hl, bk, dd, List.eraseDups_cons, Ne.symm hne, hne]
  intro x1 h1 h2
  have h3 := star_mem hv h1
  cases x1 <;> first | (cases h2; done) | cases h3
theorem swap_three {x y z : Str} {p q r : Pos} {k k2 : Nat} {pt p2 : Pos} {vs : List Expr} (hk : env.scope.kind = .function) (hs : env.scope = sc) (hl : vs.length = 3) (hv : noStar vs = true) (hf : vs.all (foldedForSure 8) = false) (hc : vs.all (constantsAlone 8) = false)
    (hx : localB sc x = true) (hy : localB sc y = true) (hz : localB sc z = true) (hp : (p.line == q.line) = true) (hp2 : (p.line == r.line) = true) (hxy : x ≠ y) (hxz : x ≠ z) (hyz : y ≠ z) :
    swappedStores [.Tuple [.Name x p, .Name y q, .Name z r] k pt] (.Tuple vs k2 p2) env = pure (some [x, y, z]) := by
  have bk : (env.blockKind != ScopeKind.function) = false := by rw [blk_kind hk]; rfl
  have e1 : (q.line == p.line) = true := by rw [eq_of_beq hp]; exact beq_self_eq_true _
  have e3 : (r.line == p.line) = true := by rw [eq_of_beq hp2]; exact beq_self_eq_true _
  have e2 : (p.line == p.line) = true := beq_self_eq_true _
  unfold swappedStores
  simp only [List.length_cons, List.length_nil, List.head?_cons, Option.map_some, Option.getD_some, Expr.pos, List.filterMap_cons, List.filterMap_nil, kind_local hs, hx, hy, hz, e1, e2, e3, Bool.and_self, if_true, star_any hv, hf, hc]
  simp [hl, bk, List.eraseDups_cons, Ne.symm hxy, hxy, Ne.symm hxz, hxz, Ne.symm hyz, hyz]
  intro x1 h1 h2
  have h3 := star_mem hv h1
  cases x1 <;> first | (cases h2; done) | cases h3
theorem nat_beq_comm (a b : Nat) : (a == b) = (b == a) := by
  by_cases h : a = b
  · subst h; rfl
  · rw [beq_false_of_ne h, beq_false_of_ne (Ne.symm h)]
theorem swap_two_no {x y : Str} {p q : Pos} {k k2 : Nat} {pt p2 : Pos} {vs : List Expr} (hs : env.scope = sc) (h : (localB sc x && localB sc y && (p.line == q.line) && decide (x ≠ y)) = false) : swappedStores [.Tuple [.Name x p, .Name y q] k pt] (.Tuple vs k2 p2) env = pure none := by
  have e2 : (p.line == p.line) = true := beq_self_eq_true _
  have ec : (q.line == p.line) = (p.line == q.line) := nat_beq_comm _ _
  unfold swappedStores
  simp only [List.length_cons, List.length_nil, List.head?_cons, Option.map_some, Option.getD_some, Expr.pos, List.filterMap_cons, List.filterMap_nil, kind_local hs, e2, ec, Bool.and_true]
  cases hx : localB sc x <;> cases hy : localB sc y <;> cases hp : (p.line == q.line) <;> rw [hx, hy, hp] at h <;> simp [List.eraseDups_cons] at h ⊢ <;> (try (subst h)) <;> simp
theorem swap_three_no {x y z : Str} {p q r : Pos} {k k2 : Nat} {pt p2 : Pos} {vs : List Expr} (hs : env.scope = sc) (h : (localB sc x && localB sc y && localB sc z && (p.line == q.line) && (p.line == r.line)) = false) : swappedStores [.Tuple [.Name x p, .Name y q, .Name z r] k pt] (.Tuple vs k2 p2) env = pure none := by
  have e2 : (p.line == p.line) = true := beq_self_eq_true _
  have ec : (q.line == p.line) = (p.line == q.line) := nat_beq_comm _ _
  have ed : (r.line == p.line) = (p.line == r.line) := nat_beq_comm _ _
  unfold swappedStores
  simp only [List.length_cons, List.length_nil, List.head?_cons, Option.map_some, Option.getD_some, Expr.pos, List.filterMap_cons, List.filterMap_nil, kind_local hs, e2, ec, ed, Bool.and_true]
  cases hx : localB sc x <;> cases hy : localB sc y <;> cases hz : localB sc z <;> cases hp : (p.line == q.line) <;> cases hp2 : (p.line == r.line) <;> rw [hx, hy, hz, hp, hp2] at h <;> simp at h ⊢
end
end Fp
/-! FpSnd7: the text does what its translation says: statements. -/
namespace Fp
open PySem PySem.Spec PyProof.Rows L2
/-- a def's body -/
structure Cb (G : Gt) (T : Tb) (m : Nat) (N : List Str) (sc : Scope) (X : L2.Cx) (S : Se) (W : WX) : Prop extends Cy G T m N sc X S W where
  pass : PassesOwn (model X.prog X.w) X.A X.env X.xe
  fn : ∀ x, X.fn x = true
  kind : X.env.scope.kind = .function
  stk : X.stack = X.env :: X.outer
  frm : X.env.frame = some X.env.locals
  ex0 : X.ex = []
section
variable {G : Gt} {T : Tb} {m : Nat} {N : List Str} {sc : Scope} {X : L2.Cx} {S : Se} {W : WX} {e a b o elt tg it : Expr} {es : List Expr} {p pos : Pos} {n : Nat}
theorem badS {s : Stmt} : PS X s (tSm S W (execS (T.ct m) .nev)) := by rw [xs_nev]; exact st_nev
theorem Cb.toTg (c : Cb G T m N sc X S W) : TgC N sc (fun _ => true) X S := ⟨c.hK, c.hN, c.nd, c.hsc, c.calm, fun x _ => c.fn x⟩
/-- the body of a try -/
theorem Cb.tr (c : Cb G T m N sc X S W) {W' : WX} {pn : List (Addr × Obj)} {xe : Value → Shared → Prop} (tk : Takes (X.tr pn xe) W') (ps : PassesOwn (model X.prog X.w) X.A X.env xe) : Cb G T m N sc (X.tr pn xe) S W' where
  hK := c.hK
  hN := c.hN
  nd := c.nd
  hsc := c.hsc
  calm := c.calm
  takes := tk
  room := c.room
  fns := fun x f h => by
    obtain ⟨fa, fd, ps, F⟩ := c.fns x f h
    exact ⟨fa, fd, ps, F.mg, F.kp, F.bd, F.kw, F.ok⟩
  pars := c.pars
  nob := c.nob
  gcd := c.gcd
  lcm := c.lcm
  glo := c.glo
  err := c.err
  pass := ps
  fn := c.fn
  kind := c.kind
  stk := c.stk
  frm := c.frm
  ex0 := c.ex0
theorem snd_setN (c : Cb G T m N sc X S W) {x : Str} {i : Nat} (hi : N.idxOf? x = some i) (hl : locB sc x = true) (hs : swapsWith a (some (.Name x p)) pos.line X.env = pure false) : PS X (.Assign [.Name x p] a pos) (tSm S W (execS (T.ct m) (.asg (.nm i) (trE G N n sc a)))) := by
  rw [xs_asg]
  exact st_set (by rw [c.hN]; exact c.nd) (by rw [c.hN]; exact idx_get hi) (by rw [c.hsc]; exact loc_of hl) (.inl (c.fn x)) ((snd_all n).E c.toCy a) hs
theorem snd_setLc (c : Cb G T m N sc X S W) {x : Str} {i : Nat} (hi : N.idxOf? x = some i) {gs : List Comprehension} {scope : Scope} {q : Pos} (hw : lcSwap sc x p scope q = true) :
    PS X (.Assign [.Name x p] (.ListComp elt gs scope q) pos) (tSm S W (execS (T.ct m) (.asg (.nm i) (trE G N (n + 1) sc (.ListComp elt gs scope q))))) := by
  have IH := snd_all (G := G) (T := T) (m := m) (N := N) n
  have hsw : swapsWith (.ListComp elt gs scope q) (some (.Name x p)) pos.line X.env = pure true := by rw [swap_lc c.kind c.hsc, hw]
  have hloc : X.env.scope.names.lookup x = some .local := by
    rw [c.hsc]
    unfold lcSwap at hw
    simp only [Bool.and_eq_true] at hw
    exact local_of hw.1.1
  have bad : PS X (.Assign [.Name x p] (.ListComp elt gs scope q) pos) (tSm S W (execS (T.ct m) (.asg (.nm i) .nev))) := by
    rw [xs_asg, ev_nev]
    exact st_nev
  by_cases h : ∃ tg it ifs, gs = [⟨tg, it, ifs, 0⟩]
  · obtain ⟨tg, it, ifs, rfl⟩ := h
    simp only [trE]
    split
    · exact bad
    · rename_i hset
      have hset : isSet it = false := by simpa using hset
      split
      · rename_i hb
        split
        · rename_i t ht
          split
          · rename_i hsl
            rw [xs_asg, ev_comp]
            exact st_setLc (ifs := []) (ct := fun e => .ok true e) (ex := evalE (T.ct m) (trE G N n (relS scope sc) elt)) (own := ownOf N scope) c.calm (by rw [c.hN]; exact c.nd) (by rw [c.hN]; exact idx_get hi) hloc hsw (IH.R c.toCy tg it false) (own_ok c.toCy hb) (slots_ok hsl)
              (fun s H C cl fp => blk_tg c.toCy ht s H C cl fp) (fun s H C cl fp => ts_nil) (fun s H C cl fp => IH.E (c.toCy.blk s H scope C cl fp) elt) (fold_iter hset)
          · exact bad
        · rename_i t k ht
          split
          · rename_i hsl
            rw [xs_asg, ev_comp]
            exact st_setLc (ifs := [k]) (ct := evalT (T.ct m) (trT G N n (relS scope sc) k)) (ex := evalE (T.ct m) (trE G N n (relS scope sc) elt)) (own := ownOf N scope) c.calm (by rw [c.hN]; exact c.nd) (by rw [c.hN]; exact idx_get hi) hloc hsw (IH.R c.toCy tg it false) (own_ok c.toCy hb) (slots_ok hsl)
              (fun s H C cl fp => blk_tg c.toCy ht s H C cl fp) (fun s H C cl fp => pts_one (IH.T_ (c.toCy.blk s H scope C cl fp) k)) (fun s H C cl fp => IH.E (c.toCy.blk s H scope C cl fp) elt) (fold_iter hset)
          · exact bad
        · exact bad
      · exact bad
  · rw [trE_lc_no (x := .nev) fun tg it ifs z => h ⟨tg, it, ifs, z⟩]
    exact bad
theorem snd_tupS (c : Cb G T m N sc X S W) {ts : List Expr} {k : Nat} {pt : Pos} (hc : isComp a = false) (hw : swappedStores [.Tuple ts k pt] a X.env = pure none) :
    PS X (.Assign [.Tuple ts k pt] a pos) (tSm S W (execS (T.ct m) (match trTg N sc (fun _ => true) n (.Tuple ts 0 ⟨0, 0, 0, 0⟩) with | some t => .asg t (trE G N n sc a) | none => .nev))) := by
  split
  · rename_i t ht
    obtain ⟨tt, rfl, hg⟩ := tg_tup c.toTg ht k pt
    rw [xs_asg]
    exact st_tup hg ((snd_all n).E c.toCy a) (swap_sole hc) hw rfl
  · exact badS
theorem snd_par2 (c : Cb G T m N sc X S W) {x y : Str} {p q pt p2 : Pos} {k k2 : Nat} {i j : Nat} (hi : N.idxOf? x = some i) (hj : N.idxOf? y = some j) (hv : noStar [a, b] = true) (hf : [a, b].all (foldedForSure 8) = false) (hc : [a, b].all (constantsAlone 8) = false)
    (hx : localB sc x = true) (hy : localB sc y = true) (hp : (p.line == q.line) = true) (hne : x ≠ y) : PS X (.Assign [.Tuple [.Name x p, .Name y q] k pt] (.Tuple [a, b] k2 p2) pos) (tSm S W (execS (T.ct m) (.par [i, j] [trE G N n sc a, trE G N n sc b]))) := by
  rw [xs_par]
  have IH := snd_all (G := G) (T := T) (m := m) (N := N) n
  have hij : i ≠ j := fun z => hne (by
    have h1 := idx_get hi
    rw [z, idx_get hj] at h1
    exact (Option.some.inj h1).symm)
  exact st_par2 c.calm (by rw [c.hN]; exact c.nd) (by rw [c.hN]; exact idx_get hi) (by rw [c.hN]; exact idx_get hj) hij (by rw [c.hsc]; exact local_of hx) (by rw [c.hsc]; exact local_of hy) (pa2 IH c.toCy hv) (swap_two c.kind c.hsc rfl hv hf hc hx hy hp hne) rfl
theorem snd_par3 (c : Cb G T m N sc X S W) {d : Expr} {x y z : Str} {p q r pt p2 : Pos} {k k2 : Nat} {i j l : Nat} (hi : N.idxOf? x = some i) (hj : N.idxOf? y = some j) (hl : N.idxOf? z = some l) (hv : noStar [a, b, d] = true) (hf : [a, b, d].all (foldedForSure 8) = false) (hc : [a, b, d].all (constantsAlone 8) = false)
    (hx : localB sc x = true) (hy : localB sc y = true) (hz : localB sc z = true) (hp : (p.line == q.line) = true) (hp2 : (p.line == r.line) = true) (hxy : x ≠ y) (hxz : x ≠ z) (hyz : y ≠ z) :
    PS X (.Assign [.Tuple [.Name x p, .Name y q, .Name z r] k pt] (.Tuple [a, b, d] k2 p2) pos) (tSm S W (execS (T.ct m) (.par [i, j, l] [trE G N n sc a, trE G N n sc b, trE G N n sc d]))) := by
  rw [xs_par]
  have IH := snd_all (G := G) (T := T) (m := m) (N := N) n
  have ne : ∀ {x y : Str} {i j : Nat}, N.idxOf? x = some i → N.idxOf? y = some j → x ≠ y → i ≠ j := fun {x y i j} hi hj hne z => hne (by
    have h1 := idx_get hi
    rw [z, idx_get hj] at h1
    exact (Option.some.inj h1).symm)
  obtain ⟨h1, h2⟩ := noStar_cons hv
  refine st_par3 c.calm (by rw [c.hN]; exact c.nd) (by rw [c.hN]; exact idx_get hi) (by rw [c.hN]; exact idx_get hj) (by rw [c.hN]; exact idx_get hl) (ne hi hj hxy) (ne hi hl hxz) (ne hj hl hyz) (by rw [c.hsc]; exact local_of hx) (by rw [c.hsc]; exact local_of hy) (by rw [c.hsc]; exact local_of hz) ?_ (swap_three c.kind c.hsc rfl hv hf hc hx hy hz hp hp2 hxy hxz hyz) rfl
  rw [es_cons]
  exact s_cons (IH.E c.toCy a) (pa2 IH c.toCy h2) (star_cons h1)
end
end Fp
/-! FpSnd8: statements: the induction. -/
namespace Fp
open PySem PySem.Spec PyProof.Rows L2
structure SndS (G : Gt) (T : Tb) (m : Nat) (N : List Str) (n : Nat) : Prop where
  s : ∀ {sc : Scope} {X : L2.Cx} {S : Se} {W : WX}, Cb G T m N sc X S W → ∀ s, PS X s (tSm S W (execS (T.ct m) (trS G N n sc s)))
  ss : ∀ {sc : Scope} {X : L2.Cx} {S : Se} {W : WX}, Cb G T m N sc X S W → ∀ ss, PSs X ss (tSm S W (execSs (T.ct m) (trSs G N n sc ss)))
section
variable {G : Gt} {T : Tb} {m : Nat} {N : List Str} {sc : Scope} {X : L2.Cx} {S : Se} {W : WX} {e a b o elt tg it : Expr} {es : List Expr} {p pos : Pos} {n : Nat}
theorem mov_inv {N : List Str} {sc : Scope} {a : Expr} {i : Nat} (h : movOf N sc a = some i) : ∃ (x : Str) (p : Pos), a = .Name x p ∧ dbg x = false ∧ visB sc x = true ∧ N.idxOf? x = some i := by
  unfold movOf at h
  split at h
  · rename_i x p
    split at h
    · rename_i hh
      simp only [Bool.and_eq_true, Bool.not_eq_true'] at hh
      exact ⟨x, p, rfl, hh.1, hh.2, h⟩
    · cases h
  · cases h
theorem snd_Ms {G : Gt} {T : Tb} {m : Nat} {N : List Str} {sc : Scope} {X : L2.Cx} {S : Se} {W : WX} (c : Cy G T m N sc X S W) : ∀ (n : Nat) (es : List Expr), noStar es = true → PA X es (tA S W (evalEs (T.ct m) (trMs G N n sc es)))
  | n, [], _ => by
    have : trMs G N n sc [] = [] := by cases n <;> (unfold trMs; rfl)
    rw [this, es_nil]
    exact s_nil
  | 0, a :: es, _ => by unfold trMs; exact badA
  | n + 1, [a], h => by
    unfold trMs
    rw [es_cons, es_nil]
    refine s_cons ?_ s_nil (star_cons (noStar_cons h).1)
    split
    · rename_i i hi
      obtain ⟨x, p, rfl, e3, e4, e5⟩ := mov_inv hi
      rw [ev_mov]
      exact s_mov (pe_var (by rw [c.hN]; exact idx_get e5) (by rw [c.hsc]; exact vis_of e4) (dbg_of e3).1 (dbg_of e3).2)
    · exact (snd_all n).E c a
  | n + 1, a :: b :: es, h => by
    obtain ⟨h1, h2⟩ := noStar_cons h
    unfold trMs
    rw [es_cons]
    exact s_cons ((snd_all n).E c a) (snd_Ms c n (b :: es) h2) (star_cons h1)
theorem snd_asgN (c : Cb G T m N sc X S W) {x : Str} : PS X (.Assign [.Name x p] a pos) (tSm S W (execS (T.ct m) (trS G N (n + 1) sc (.Assign [.Name x p] a pos)))) := by
  unfold trS
  simp only
  split
  · rename_i i hi
    split
    · rename_i hl
      split
      · rename_i elt gs scope q
        split
        · rename_i hw
          exact snd_setLc c hi hw
        · rename_i hw
          exact snd_setN c hi hl (by rw [swap_lc c.kind c.hsc]; simp at hw; rw [hw])
      · split
        · exact badS
        · rename_i hc
          exact snd_setN c hi hl (swap_none (by simpa using hc))
    · exact badS
  · exact badS
theorem snd_asgT (c : Cb G T m N sc X S W) {ts : List Expr} {k : Nat} {pt : Pos} : PS X (.Assign [.Tuple ts k pt] a pos) (tSm S W (execS (T.ct m) (trS G N (n + 1) sc (.Assign [.Tuple ts k pt] a pos)))) := by
  unfold trS
  simp only
  split
  · exact badS
  · rename_i hc
    have hc : isComp a = false := by simpa using hc
    split
    · rename_i vs k2 p2
      split
      · rename_i hf
        exact snd_tupS c hc (swap_fold hf)
      · rename_i hf
        simp only [Bool.or_eq_true, not_or, Bool.not_eq_true] at hf
        split
        · rename_i x p y q
          split
          · rename_i hh
            simp only [Bool.and_eq_true, decide_eq_true_eq] at hh
            obtain ⟨⟨⟨h1, h2⟩, h3⟩, h4⟩ := hh
            split
            · rename_i hv
              simp only [Bool.and_eq_true, Bool.not_eq_true'] at hv
              split
              · rename_i a b
                split
                · rename_i i j hi hj
                  exact snd_par2 c hi hj hv.1 hf.1 hv.2 h1 h2 h3 h4
                · exact badS
              · exact badS
            · exact badS
          · rename_i hh
            exact snd_tupS c hc (swap_two_no c.hsc (by simpa using hh))
        · rename_i x p y q z r
          split
          · rename_i hh
            simp only [Bool.and_eq_true] at hh
            obtain ⟨⟨⟨⟨h1, h2⟩, h3⟩, h4⟩, h5⟩ := hh
            split
            · rename_i hv
              simp only [Bool.and_eq_true, Bool.not_eq_true', decide_eq_true_eq] at hv
              obtain ⟨⟨⟨⟨v1, v2⟩, h6⟩, h7⟩, h8⟩ := hv
              split
              · rename_i a b d
                split
                · rename_i i j l hi hj hl
                  exact snd_par3 c hi hj hl v1 hf.1 v2 h1 h2 h3 h4 h5 h6 h7 h8
                · exact badS
              · exact badS
            · exact badS
          · rename_i hh
            exact snd_tupS c hc (swap_three_no c.hsc (by simpa using hh))
        · exact badS
    · rename_i hno
      exact snd_tupS c hc (swap_no fun vs k2 p2 h => hno vs k2 p2 h)
theorem snd_S (IH : SndS G T m N n) (c : Cb G T m N sc X S W) (s : Stmt) : PS X s (tSm S W (execS (T.ct m) (trS G N (n + 1) sc s))) := by
  have IE := snd_all (G := G) (T := T) (m := m) (N := N) n
  cases s with
  | Assign ts a pos =>
    match ts with
    | [] => unfold trS; exact badS
    | t1 :: t2 :: _ =>
      unfold trS
      split <;> first | exact badS | (rename_i h; cases h)
    | [t] =>
      cases t with
      | Name x p => exact snd_asgN c
      | Tuple es k p => exact snd_asgT c
      | Subscript b d p =>
        unfold trS
        simp only
        split
        · exact badS
        · rename_i hs
          have sw : swapsWithSole [.Subscript b d p] a pos.line X.env = pure false := by
            have e1 : swapsWithSole [.Subscript b d p] a pos.line X.env = swapsWith a (some (.Subscript b d p)) pos.line X.env := by rfl
            rw [e1]
            cases a <;> rfl
          have sw2 : swappedStores [.Subscript b d p] a X.env = pure none := by cases a <;> rfl
          rw [xs_setI]
          exact st_setI (IE.E c.toCy a) (IE.E c.toCy b) (IE.E c.toCy d) sw sw2 (by rfl) (by
            intro v
            have hs : isSlice d = false := by simpa using hs
            cases d <;> first | rfl | cases hs)
      | _ => unfold trS; exact badS
  | AugAssign t op a pos =>
    cases op with
    | Add =>
      cases t with
      | Name x p =>
        unfold trS
        simp only
        split
        · rename_i i hi
          split
          · rename_i hl
            rw [xs_aug]
            exact st_aug (by rw [c.hN]; exact c.nd) (by rw [c.hN]; exact idx_get hi) (by rw [c.hsc]; exact loc_of hl) (.inl (c.fn x)) (IE.E c.toCy a)
          · exact badS
        · exact badS
      | Subscript b d p =>
        unfold trS
        simp only
        split
        · exact badS
        · rename_i hs
          rw [xs_augI]
          exact st_augI c.hK (IE.E c.toCy b) (IE.E c.toCy d) (IE.E c.toCy a) fun ov iv new => aug_store (by simpa using hs) ov iv new
      | _ => unfold trS; exact badS
    | _ => cases t <;> (unfold trS; exact badS)
  | If t a b pos =>
    unfold trS
    rw [xs_ite]
    exact st_if (IE.T_ c.toCy t) (IH.ss c a) (IH.ss c b)
  | While t a b pos =>
    cases b with
    | nil =>
      unfold trS
      rw [xs_whl]
      exact st_while c.pass (IE.T_ c.toCy t) (IH.ss c a)
    | cons _ _ => unfold trS; exact badS
  | For tg it b r pos =>
    cases r with
    | nil =>
      unfold trS
      simp only
      split
      · exact badS
      · rename_i hs
        split
        · rename_i t ht
          rw [xs_for]
          exact st_for c.pass c.calm (IE.R c.toCy tg it true) ((tg_all c.toTg n).1 tg t ht) (IH.ss c b) (fold_iter (by simpa using hs))
        · exact badS
    | cons _ _ => unfold trS; exact badS
  | Return a pos =>
    cases a with
    | none => unfold trS; rw [xs_retn]; exact st_retn
    | some a =>
      have old : trS G N (n + 1) sc (.Return (some a) pos) = .ret (trE G N n sc a) → PS X (.Return (some a) pos) (tSm S W (execS (T.ct m) (trS G N (n + 1) sc (.Return (some a) pos)))) := fun he => by
        rw [he, xs_ret]
        exact st_ret (IE.E c.toCy a)
      cases a with
      | List es p =>
        simp only [trS]
        split
        · rename_i hs
          rw [xs_ret, ev_lst]
          exact st_ret (s_lst (snd_Ms c.toCy n es hs))
        · exact badS
      | _ => exact old (by simp only [trS])
  | Expr a pos =>
    have gen : isComp a = false → PS X (.Expr a pos) (tSm S W (execS (T.ct m) (.exp (trE G N n sc a)))) := fun h => by
      rw [xs_exp]
      exact st_exp (IE.E c.toCy a) (swap_none h)
    cases a with
    | Constant k j p =>
      cases k with
      | str x => unfold trS; rw [xs_pas]; exact st_doc
      | _ => unfold trS; exact gen rfl
    | ListComp _ _ _ _ => unfold trS; exact badS
    | SetComp _ _ _ _ => unfold trS; exact badS
    | DictComp _ _ _ _ _ => unfold trS; exact badS
    | _ => unfold trS; exact gen rfl
  | Raise a0 c0 pos =>
    unfold trS
    split
    all_goals first | (rename_i z; cases z; done) | exact badS | skip
    · rename_i x q b p2 p3 he
      cases he
      split
      · exact badS
      · rename_i hh
        simp only [Bool.or_eq_true, not_or, Bool.not_eq_true, Bool.not_eq_false'] at hh
        obtain ⟨⟨hd, hg⟩, hs⟩ := hh
        split
        · rename_i k hk
          obtain ⟨C, fI, fd, hm, hc, T1, F1, B1, K1⟩ := c.err.raise x k hk
          rw [xs_rai]
          exact st_rai hc T1 F1 (c.room.mono (by omega)) B1 c.calm c.takes (c.toCy.gl hg) hm (IE.E c.toCy b) (dbg_of hd).1 (star_cons (noStar_cons hs).1)
        · exact badS
    · rename_i x q y b kp p2 p3 he
      cases he
      split
      · exact badS
      · rename_i hh
        simp only [Bool.or_eq_true, not_or, Bool.not_eq_true, Bool.not_eq_false'] at hh
        obtain ⟨⟨hd, hg⟩, hy⟩ := hh
        obtain rfl := eq_of_beq hy
        split
        · rename_i k hk
          obtain ⟨C, fI, fd, hm, hc, T1, F1, B1, K1⟩ := c.err.raise x k hk
          rw [xs_rai]
          exact st_raik hc T1 F1 (c.room.mono (by omega)) K1 c.calm c.takes (c.toCy.gl hg) hm (IE.E c.toCy b) (dbg_of hd).1
        · exact badS
  | Try b h o f pos =>
    unfold trS
    split
    all_goals first | (rename_i z; cases z; done) | exact badS | skip
    rename_i b0 x q y z r u r2 r3 r4 r5 he
    cases he
    split
    · exact badS
    · rename_i hh
      simp only [Bool.or_eq_true, not_or, Bool.not_eq_true, Bool.not_eq_false'] at hh
      obtain ⟨⟨⟨⟨⟨hd, hg⟩, hdy⟩, hu⟩, hly⟩, hlz⟩ := hh
      obtain rfl := eq_of_beq hu
      split
      · rename_i k i j hk hi hj
        obtain ⟨C, fI, fd, hm, _⟩ := c.err.raise x k hk
        rw [xs_kee]
        have loc : ∀ {v : Str}, localB sc v = true → X.env.kindOf v = some .local := fun {v} h => by
          show X.env.scope.names.lookup v = _
          rw [c.hsc]
          exact local_of h
        exact st_try c.stk c.frm c.ex0 (by rw [c.hN]; exact c.nd) (by rw [c.hN]; exact idx_get hi) (by rw [c.hN]; exact idx_get hj) (loc hly) (loc hlz) (dbg_of hdy).1 (dbg_of hdy).2 ⟨c.toCy.gl hg, (dbg_of hd).1, .inl hm⟩ (fun c0 C0 h => (c.err.sub c0 C0 x k C h hk hm).1)
          fun W pn xe tk ps => IH.ss (c.tr tk ps) _
      · exact badS
  | Pass pos => unfold trS; rw [xs_pas]; exact st_pas
  | Break pos => unfold trS; rw [xs_brk]; exact st_brk
  | Continue pos => unfold trS; rw [xs_cnt]; exact st_cnt
  | _ => unfold trS; exact badS
theorem snd_allS {G : Gt} {T : Tb} {m : Nat} {N : List Str} : ∀ n : Nat, SndS G T m N n
  | 0 => ⟨fun c s => by unfold trS; exact badS, fun c ss => by
    cases ss with
    | nil => unfold trSs; rw [xss_nil]; exact st_nil
    | cons s ss =>
      unfold trSs
      rw [xss_cons, xs_nev]
      exact ⟨fun _ _ _ _ _ _ ⟨_, _, _, _, g⟩ => g.elim⟩⟩
  | n + 1 => by
    have IH := snd_allS (G := G) (T := T) (m := m) (N := N) n
    refine ⟨fun c s => snd_S IH c s, fun c ss => ?_⟩
    cases ss with
    | nil => unfold trSs; rw [xss_nil]; exact st_nil
    | cons s ss =>
      unfold trSs
      rw [xss_cons]
      exact st_cons (IH.s c s) (IH.ss c ss)
end
end Fp
/-! FpTop: all defs of a module; the law's def. -/
namespace Fp
open PySem PySem.Spec PyProof.Rows L2
/-- a def's text -/
structure Df where
  x : Str
  f : String
  args : Arguments
  body : List Stmt
  sc : Scope
  ps : List String
def Df.psS (d : Df) : List Str := d.ps.map Str.ofString
def Df.N (d : Df) : List Str := namesOf d.psS d.sc d.body
def Df.fn (G : Gt) (d : Df) : Fn := ⟨d.ps, d.N.length, trSs G d.N 200 d.sc d.body⟩
/-- what a def's text must show -/
structure DfOk (G : Gt) (T : Tb) (d : Df) : Prop where
  T : T.fns d.f = some (d.fn G)
  sc : FnScope d.N d.psS d.sc
  bd : ∀ (kV doc pm : Value) (an : Option Addr) (cdv ct : Value) (us : List Value), us.length = d.psS.length → bindArgs (PySem.W.fnOf d.x d.x d.args d.body d.sc .none kV doc pm an cdv ct) ⟨us, []⟩ = pure (d.psS.zip us)
  kw : ∀ (pn ys : List String) (xs : List Str) (n : Nat) (js : List Nat), (d.f, ys, n) ∈ G.kws → G.pars d.f = some pn → kwStrs pn xs = some ys → kwPerm pn ys n = some js →
    ∀ (kV doc pm : Value) (an : Option Addr) (cdv ct : Value) (us ws : List Value), us.length = n → ws.length = xs.length → bindArgs (PySem.W.fnOf d.x d.x d.args d.body d.sc .none kV doc pm an cdv ct) ⟨us, xs.zip ws⟩ = pure (d.psS.zip (us ++ js.map fun j => ws.getD j .none))
  kl : ∀ (pn ys : List String) (xs : List Str) (n : Nat) (js : List Nat), (d.f, ys, n) ∈ G.kws → G.pars d.f = some pn → kwStrs pn xs = some ys → kwPerm pn ys n = some js → d.psS.length = n + js.length ∧ ∀ j ∈ js, j < xs.length
section
variable {G : Gt} {T : Tb} {P : Program} {w : World} {K : PySem.W.Frag} {mg : Str → Option Value} {base : Heap} {S : Se} {d : Df} {fa : Addr} {fd : FuncData} {m : Nat}
theorem DfOk.kwb (D : DfOk G T d) (F : FunD K d.x d.x d.args d.body d.sc [] [] fa fd) : ∀ (pn ys : List String) (xs : List Str) (n : Nat) (js : List Nat), (d.f, ys, n) ∈ G.kws → G.pars d.f = some pn → kwStrs pn xs = some ys → kwPerm pn ys n = some js → KwB K fd d.psS xs n js := fun pn ys xs n js h1 h2 h3 h4 => by
  obtain ⟨oc, od, dV, kV, doc, pm, an, cdv, ct, osl, rfl, lk, hcd, hD, hK⟩ := F.ex
  obtain ⟨k1, k2⟩ := D.kl pn ys xs n js h1 h2 h3 h4
  rcases hD with ⟨_, rfl⟩ | ⟨e, _⟩
  · exact ⟨fun s us ws hu hw => .of_eq (D.kw pn ys xs n js h1 h2 h3 h4 kV doc pm an cdv ct us ws hu hw), k1, k2⟩
  · exact absurd rfl e
theorem Errs.pa {pa : List Addr} (e : Errs G T P w K mg base S) : Errs G T P w K mg base (S.with pa) := ⟨e.raise, e.cls, e.sub, e.nov, e.ve⟩
/-- the module: all its defs, at every level -/
structure Md (G : Gt) (T : Tb) (K : PySem.W.Frag) (mg : Str → Option Value) (S : Se) : Prop where
  hK : S.K = K
  defs : ∀ x f, G.fns.lookup x = some f → ∃ d : Df, d.x = x ∧ d.f = f ∧ DfOk G T d ∧ ∃ fa fd, FunD K d.x d.x d.args d.body d.sc [] [] fa fd ∧ mg x = some (.ref fa)
  pars : ∀ f ps, G.pars f = some ps → (T.fns f).map (·.ps) = some ps
  nob : ∀ x ∈ bltAll, mg x = none
  gcd : G.gcd = true → mg "gcd" = some (.builtin "math.gcd")
  lcm : G.lcm = true → mg "lcm" = some (.builtin "math.lcm")
  glo : ∀ x c, G.glo.lookup x = some c → ∃ v u d, mg x = some u ∧ RelV v u ∧ T.glo c = some d ∧ Dat S (fun _ => none) d v
  err : ∀ (P : Program) (w : World) (base : Heap), Errs G T P w K mg base S
theorem Md.body (M : Md G T K mg S) (D : DfOk G T d) (ih : ∀ x f, G.fns.lookup x = some f → ∃ d : Df, d.x = x ∧ d.f = f ∧ ∃ fa fd, FunD K d.x d.x d.args d.body d.sc [] [] fa fd ∧ mg x = some (.ref fa) ∧ Binds K fd d.psS [] ∧
      (∀ (pn ys : List String) (xs : List Str) (n : Nat) (js : List Nat), (d.f, ys, n) ∈ G.kws → G.pars d.f = some pn → kwStrs pn xs = some ys → kwPerm pn ys n = some js → KwB K fd d.psS xs n js) ∧ FnOk P w K mg base (L2.CX P w) (m + 2) fa fd d.psS (spF S (callN T m d.f)))
    (cdv : Value) (A : Around) (outer : List PySem.Env) (s : Shared) (H : Hp) (E : XK) (pa : List Addr) (hr : Room (m + 2) (A.deeper (envOfC d.x d.sc s.heap.objs.size fa cdv))) :
    PSs (cxOf (L2.CX P w) P w K mg base d.N d.x d.sc fa cdv A outer s H E) d.body (tSm (S.with pa) (fun c d _ H => E c d H) (execSs (T.ct m) (d.fn G).body)) := by
  refine (snd_allS (G := G) (T := T) (m := m) (N := d.N) 200).ss (sc := d.sc) ?_ d.body
  exact {
    hK := M.hK
    hN := rfl
    nd := D.sc.nd
    hsc := rfl
    calm := rfl
    takes := takes_of rfl rfl rfl rfl
    room := hr
    fns := fun x f h => by
      obtain ⟨d', rfl, rfl, fa', fd', F, hm, bd, kb, ok⟩ := ih x f h
      exact ⟨fa', fd', d'.psS, hm, F.kp, bd, kb, ok⟩
    pars := M.pars
    nob := M.nob
    gcd := M.gcd
    lcm := M.lcm
    glo := fun x c h => by
      obtain ⟨v, u, d, h1, h2, h3, h4⟩ := M.glo x c h
      exact ⟨v, u, d, h1, h2, h3, Dat.pa _ _ h4⟩
    err := (M.err P w base).pa
    pass := passes_of rfl
    fn := fun _ => rfl
    kind := D.sc.kind
    stk := rfl
    frm := rfl
    ex0 := rfl }
theorem Md.all (M : Md G T K mg S) : ∀ m : Nat, ∀ x f, G.fns.lookup x = some f → ∃ d : Df, d.x = x ∧ d.f = f ∧ ∃ fa fd, FunD K d.x d.x d.args d.body d.sc [] [] fa fd ∧ mg x = some (.ref fa) ∧ Binds K fd d.psS [] ∧
      (∀ (pn ys : List String) (xs : List Str) (n : Nat) (js : List Nat), (d.f, ys, n) ∈ G.kws → G.pars d.f = some pn → kwStrs pn xs = some ys → kwPerm pn ys n = some js → KwB K fd d.psS xs n js) ∧ FnOk P w K mg base (L2.CX P w) (m + 2) fa fd d.psS (spF S (callN T m d.f))
  | 0, x, f, h => by
    obtain ⟨d, rfl, rfl, D, fa, fd, F, hm⟩ := M.defs x f h
    exact ⟨d, rfl, rfl, fa, fd, F, hm, F.bindsN D.bd, D.kwb F, fn_zero⟩
  | m + 1, x, f, h => by
    obtain ⟨d, rfl, rfl, D, fa, fd, F, hm⟩ := M.defs x f h
    refine ⟨d, rfl, rfl, fa, fd, F, hm, F.bindsN D.bd, D.kwb F, ?_⟩
    exact fn_ok F D.sc D.T (by simp [Df.fn, Df.psS]) rfl fun cdv A outer s H E pa hr => M.body D (M.all m) cdv A outer s H E pa hr
/-- no error leaves -/
theorem FnOk.quiet {k : Nat} {ps : List Str} {sp : Sp} (F : FnOk P w K mg base (L2.CX P w) k fa fd ps sp) : FnOk P w K mg base L2.CX0 k fa fd ps (fun vs H Q _ => sp vs H Q fun _ _ _ => False) :=
  ⟨fun vs H Q E h => F.len vs H Q _ h, fun A outer s H args us vs Q E hr he hb hv hs => codeAny_mono (F.run A outer s H args us vs Q _ hr he hb hv hs) fun r s' h => by
    cases r with
    | ok x => cases x <;> exact h
    | error e =>
      obtain ⟨_, _, _, _, _, _, _, _, _, _, _, _, z⟩ := h
      exact z.elim⟩
/-- the law's def at its script -/
theorem law_sp {f : String} {a : Addr} {ns : List Int} {H : Hp} {E : XK} (hK : S.K = K) (hS : SqL K H a (ns.map V.int)) (h : callN T m f [.val (.klst (ns.map D.int))] [] = .ok (.val (.bl true)) []) : spF S (callN T m f) [.ref a] H (fun v _ => v = .bl true) E := by
  have dts : ∀ ns : List Int, Dats (S.with []) H (ns.map D.int) (ns.map V.int) := by
    intro ns
    induction ns with
    | nil => trivial
    | cons i ns ih => exact ⟨rfl, ih⟩
  refine ⟨[], [.val (.klst (ns.map D.int))], [], ⟨H, H, fun _ => [], fun _ => none⟩, rfl, rfl, ⟨Same.refl _, rfl, rfl, fun i s hs => ?_, fun _ _ => rfl, fun k p hp => by simp at hp, fun _ _ => rfl, fun _ => List.nodup_nil, fun _ _ _ h1 => absurd h1 (by simp), fun x ⟨l, hx⟩ => absurd hx (by simp), fun x ⟨l, hx⟩ => absurd hx (by simp), fun x hx => absurd rfl hx⟩, fun s hs => .inl ⟨_, List.mem_singleton.mp hs⟩, ?_⟩
  · cases i with
    | zero =>
      simp at hs
      subst hs
      exact ⟨rfl, .ref a, rfl, a, _, rfl, by show SqL S.K H a _; rw [hK]; exact hS, dts ns⟩
    | succ i => simp at hs
  · rw [h]
    exact fun v w q _ _ hr _ => hr.2
end
end Fp
namespace Fp
open PySem PySem.Spec PyProof.Rows L2
theorem kwStrs_eq {ps : List String} : ∀ {xs : List Str} {ys : List String}, kwStrs ps xs = some ys → xs = ys.map Str.ofString
  | [], ys, h => by unfold kwStrs at h; cases h; rfl
  | x :: xs, ys, h => by
    unfold kwStrs at h
    split at h
    · rename_i p q h1 h2
      cases h
      have e := List.find?_some h1
      rw [List.map_cons, ← kwStrs_eq h2, of_decide_eq_true e]
    · cases h
/-- the calls by keyword of one def: each bound as it should be -/
structure KwOk (G : Gt) (d : Df) (ys : List String) (n : Nat) (pn : List String) (js : List Nat) : Prop where
  hp : G.pars d.f = some pn
  hj : kwPerm pn ys n = some js
  len : d.psS.length = n + js.length ∧ ∀ j ∈ js, j < ys.length
  bd : ∀ (kV doc pm : Value) (an : Option Addr) (cdv ct : Value) (us ws : List Value), us.length = n → ws.length = ys.length → bindArgs (PySem.W.fnOf d.x d.x d.args d.body d.sc .none kV doc pm an cdv ct) ⟨us, (ys.map Str.ofString).zip ws⟩ = pure (d.psS.zip (us ++ js.map fun j => ws.getD j .none))
theorem DfOk.of {G : Gt} {T : Tb} {d : Df} (hT : T.fns d.f = some (d.fn G)) (sc : FnScope d.N d.psS d.sc)
    (bd : ∀ (kV doc pm : Value) (an : Option Addr) (cdv ct : Value) (us : List Value), us.length = d.psS.length → bindArgs (PySem.W.fnOf d.x d.x d.args d.body d.sc .none kV doc pm an cdv ct) ⟨us, []⟩ = pure (d.psS.zip us))
    (kw : ∀ t ∈ G.kws.filter (fun t => t.1 == d.f), ∃ pn js, KwOk G d t.2.1 t.2.2 pn js) : DfOk G T d := by
  have get : ∀ {ys : List String} {n : Nat}, (d.f, ys, n) ∈ G.kws → ∃ pn js, KwOk G d ys n pn js := fun {ys n} h => kw (d.f, ys, n) (List.mem_filter.mpr ⟨h, beq_self_eq_true _⟩)
  refine ⟨hT, sc, bd, fun pn ys xs n js h1 h2 h3 h4 kV doc pm an cdv ct us ws hu hw => ?_, fun pn ys xs n js h1 h2 h3 h4 => ?_⟩
  · obtain ⟨pn', js', K⟩ := get h1
    rw [K.hp] at h2
    cases h2
    rw [K.hj] at h4
    cases h4
    have e := kwStrs_eq h3
    subst e
    exact K.bd kV doc pm an cdv ct us ws hu (by simpa using hw)
  · obtain ⟨pn', js', K⟩ := get h1
    rw [K.hp] at h2
    cases h2
    rw [K.hj] at h4
    cases h4
    have e := kwStrs_eq h3
    subst e
    simpa using K.len
end Fp
/-! FpHead: what stands behind the module's top: its defs, constants, imported functions. -/
namespace Fp
open PySem PySem.Spec PyProof.Rows L2
/-- a constant of the module, as data -/
def datB (K : PySem.W.Frag) : Nat → Value → D → Bool
  | 0, _, _ => false
  | n + 1, u, d => match u, d with
    | .none, .non => true
    | .bool b, .bl c => b == c
    | .int i _, .int j => decide (i = j)
    | .str x _, .str y => decide (x = y)
    | .ref a, .tup ds => match K.lookup a with
      | some ⟨.type c, _, .seq its _, _⟩ => decide (c = "tuple") && decide (its.size ≤ sizeLine) && decide (its.toList.length = ds.length) && (its.toList.zip ds).all fun p => datB K n p.1 p.2
      | _ => false
    | _, _ => false
theorem datB_ok {S : Se} {K : PySem.W.Frag} (hK : S.K = K) : ∀ {n : Nat} {u : Value} {d : D}, datB K n u d = true → ∃ v, RelV v u ∧ Dat S (fun _ => none) d v
  | 0, _, _, h => by cases h
  | n + 1, u, d, h => by
    unfold datB at h
    split at h
    · exact ⟨.non, rfl, rfl⟩
    · rename_i b c
      exact ⟨.bl b, rfl, by rw [eq_of_beq h]; rfl⟩
    · rename_i i t j
      exact ⟨.int i, ⟨t, rfl⟩, by rw [of_decide_eq_true h]; rfl⟩
    · rename_i x t y
      exact ⟨.str x, ⟨t, rfl⟩, by rw [of_decide_eq_true h]; rfl⟩
    · rename_i a ds
      split at h
      · rename_i c dd its m sl q
        simp only [Bool.and_eq_true, decide_eq_true_eq] at h
        obtain ⟨⟨⟨h1, h2⟩, h3⟩, h4⟩ := h
        have go : ∀ (us : List Value) (es : List D), us.length = es.length → ((us.zip es).all fun p => datB K n p.1 p.2) = true → ∃ vs, Vals vs us ∧ Dats S (fun _ => none) es vs := by
          intro us
          induction us with
          | nil =>
            intro es hl _
            cases es with
            | nil => exact ⟨[], .nil, trivial⟩
            | cons _ _ => cases hl
          | cons u us ih =>
            intro es hl hh
            cases es with
            | nil => cases hl
            | cons e es =>
              simp only [List.zip_cons_cons, List.all_cons, Bool.and_eq_true] at hh
              obtain ⟨v, r, dv⟩ := datB_ok hK hh.1
              obtain ⟨vs, rs, dvs⟩ := ih es (by simpa using hl) hh.2
              exact ⟨v :: vs, .cons r rs, dv, dvs⟩
        obtain ⟨vs, r, dv⟩ := go its.toList ds h3 h4
        subst h1
        exact ⟨.ref a, rfl, a, vs, rfl, .inr ⟨_, its, m, by rw [hK]; exact q, rfl, rfl, h2, r⟩, dv⟩
      · cases h
    · cases h
/-- the constants and functions of the module's names -/
def moreB (K : PySem.W.Frag) (cs : List (Str × D)) (bs : List (Str × String)) : Bool :=
  (cs.all fun p => match PySem.W.nsIn K mainGlobals p.1 with
    | some (some u) => datB K 20 u p.2
    | _ => false) && bs.all fun p => decide (PySem.W.nsIn K mainGlobals p.1 = some (some (.builtin p.2)))
theorem more_glo {S : Se} {K : PySem.W.Frag} {cs : List (Str × D)} {bs : List (Str × String)} {h : Heap} {mg : Str → Option Value} (hK : S.K = K) (X : K.In h) (G : h.Ns mainGlobals mg) (c : moreB K cs bs = true) {x : Str} {d : D} (hx : (x, d) ∈ cs) :
    ∃ v u, mg x = some u ∧ RelV v u ∧ Dat S (fun _ => none) d v := by
  have c1 := List.all_eq_true.mp (Bool.and_eq_true_iff.mp c).1 (x, d) hx
  cases e : PySem.W.nsIn K mainGlobals x with
  | none => simp [e] at c1
  | some o => cases o with
    | none => simp [e] at c1
    | some u =>
      simp only [e] at c1
      obtain ⟨v, r, dv⟩ := datB_ok hK c1
      exact ⟨v, u, PySem.W.mg_of X G e, r, dv⟩
theorem more_blt {K : PySem.W.Frag} {cs : List (Str × D)} {bs : List (Str × String)} {h : Heap} {mg : Str → Option Value} (X : K.In h) (G : h.Ns mainGlobals mg) (c : moreB K cs bs = true) {x : Str} {b : String} (hx : (x, b) ∈ bs) : mg x = some (.builtin b) := by
  have c1 := List.all_eq_true.mp (Bool.and_eq_true_iff.mp c).2 (x, b) hx
  exact PySem.W.mg_of X G (of_decide_eq_true c1)
/-- own errors: where their classes stand -/
def clF (K : PySem.W.Frag) (es : List (Str × String)) (c : String) : Option Addr := (es.find? fun p => p.2 == c).map fun p => He.ga K p.1
abbrev seF (K : PySem.W.Frag) (es : List (Str × String)) : Se := ⟨K, clF K es, []⟩
/-- the address of the base class's `__init__` -/
abbrev initAd (K : PySem.W.Frag) (b0 : Str) : Addr := He.fAd K (b0, some "__init__")
def veB (K : PySem.W.Frag) : Bool := match PySem.W.findCls K (.type "ValueError") (.type "type") "__init__" with
  | some (.val (.builtin n)) => decide (n = "ValueError.__init__")
  | _ => false
theorem veB_ok {K : PySem.W.Frag} (h : veB K = true) : VeOk K := by
  unfold veB at h
  unfold VeOk
  split at h
  · rename_i n e
    rw [e, of_decide_eq_true h]
  · cases h
/-- what the written part must show of own errors -/
def errsB (K : PySem.W.Frag) (b0 : Str) (es : List (Str × String)) (sub : String → String → Bool) : Bool := es.isEmpty || (veB K && (decide (PySem.W.nsIn K mainGlobals "ValueError" = some none) && es.all fun p =>
  decide (PySem.W.nsIn K mainGlobals p.1 = some (some (.ref (He.ga K p.1)))) && (errB K (He.ga K p.1) (initAd K b0) && (decide (PySem.W.kitOne K (.ref (He.ga K p.1)) (.type "ValueError") = some (sub p.2 "ValueError")) && es.all fun q =>
    decide (PySem.W.exmOne K (.ref (He.ga K p.1)) (.ref (He.ga K q.1)) = some (sub p.2 q.2)) && decide (PySem.W.kitOne K (.ref (He.ga K p.1)) (.ref (He.ga K q.1)) = some (sub p.2 q.2))))))
theorem clF_inv {K : PySem.W.Frag} {es : List (Str × String)} {c : String} {C : Addr} (h : clF K es c = some C) : ∃ p ∈ es, p.2 = c ∧ C = He.ga K p.1 := by
  unfold clF at h
  cases e : es.find? fun p => p.2 == c with
  | none => rw [e] at h; cases h
  | some p =>
    rw [e] at h
    cases h
    exact ⟨p, List.mem_of_find?_eq_some e, (by simpa using List.find?_some e), rfl⟩
theorem errs_nil {G : Gt} {T : Tb} {P : Program} {w : World} {K : PySem.W.Frag} {mg : Str → Option Value} {base : Heap} (h : G.errs = []) : Errs G T P w K mg base (seF K G.errs) := by
  have no : ∀ c C, ¬ clF K G.errs c = some C := fun c C z => by
    rw [h] at z
    cases z
  refine ⟨fun x c z => ?_, fun c C z => (no c C z).elim, fun c C x c' C' z => (no c C z).elim, fun z => (z h).elim, fun c C z => (no c C z).elim⟩
  rw [h] at z
  cases z
theorem errs_of {G : Gt} {T : Tb} {K : PySem.W.Frag} {mg : Str → Option Value} {h : Heap} {b0 nm ql : Str} {ps : Arguments} {body : List Stmt} {sc : Scope} (X : K.In h) (Gn : h.Ns mainGlobals mg) (hb : errsB K b0 G.errs T.sub = true) (hu : ∀ p ∈ G.errs, G.errs.find? (fun q => q.2 == p.2) = some p)
    (F : ∃ fd, FunD K nm ql ps body sc [] [] (initAd K b0) fd) (Sc : FnScope [("self" : Str), "value"] ["self", "value"] sc) (ht : InitTxt body) (hg : sc.names.lookup ("ValueError" : Str) = some .globalImplicit) (hs : visB sc "self" = true) (hvl : visB sc "value" = true)
    (bd : ∀ (kV doc pm : Value) (an : Option Addr) (cdv ct : Value) (us : List Value), us.length = 2 → bindArgs (PySem.W.fnOf nm ql ps body sc .none kV doc pm an cdv ct) ⟨us, []⟩ = pure (([("self" : Str), "value"] : List Str).zip us))
    (kw : ∀ (kV doc pm : Value) (an : Option Addr) (cdv ct : Value) (u v : Value), bindArgs (PySem.W.fnOf nm ql ps body sc .none kV doc pm an cdv ct) ⟨[u], [(("value" : Str), v)]⟩ = pure [(("self" : Str), u), ("value", v)]) :
    ∀ (P : Program) (w : World) (base : Heap), Errs G T P w K mg base (seF K G.errs) := by
  intro P w base
  by_cases hn : G.errs = []
  · exact errs_nil hn
  unfold errsB at hb
  have he : G.errs.isEmpty = false := by
    cases z : G.errs with
    | nil => exact absurd z hn
    | cons _ _ => rfl
  rw [he, Bool.false_or] at hb
  simp only [Bool.and_eq_true, decide_eq_true_eq, List.all_eq_true] at hb
  obtain ⟨hv, hm, hall⟩ := hb
  have nov : mg "ValueError" = none := PySem.W.mg_none_of X Gn hm
  obtain ⟨fd, FD⟩ := F
  obtain ⟨oc, od, dV, kV, doc, pm, an, cdv, ct, osl, rfl, lk, hcd, hD, hK⟩ := id FD.ex
  have B : Binds K _ [("self" : Str), "value"] [] := FD.bindsN bd
  have KB : KwB K (PySem.W.fnOf nm ql ps body sc dV kV doc pm an cdv ct) [("self" : Str), "value"] ["value"] 1 [0] := by
    rcases id hD with ⟨_, rfl⟩ | ⟨e, _⟩
    · refine ⟨fun s us ws hu hw => .of_eq ?_, rfl, by decide⟩
      match us, hu, ws, hw with
      | [u], _, [v], _ => exact kw kV doc pm an cdv ct u v
    · exact absurd rfl e
  have ok : ∀ p ∈ G.errs, ErrK K (He.ga K p.1) (initAd K b0) := fun p hp => errB_ok (hall p hp).2.1
  refine ⟨fun x c hx => ?_, fun c C hc => ?_, fun c C x c' C' hc hx hm' => ?_, fun _ => nov, fun c C hc => ?_⟩
  · obtain ⟨l1, l2, e, _⟩ := List.lookup_eq_some_iff.mp hx
    have mem : (x, c) ∈ G.errs := by
      rw [e]
      simp
    refine ⟨_, _, _, PySem.W.mg_of X Gn (hall _ mem).1, ?_, ok _ mem, init_ok FD Sc ht (veB_ok hv) nov hg hs hvl, B, KB⟩
    show clF K G.errs c = _
    unfold clF
    rw [hu _ mem]
    rfl
  · obtain ⟨p, hp, _, rfl⟩ := clF_inv hc
    exact ⟨_, ok p hp⟩
  · obtain ⟨p, hp, rfl, rfl⟩ := clF_inv hc
    obtain ⟨l1, l2, e, _⟩ := List.lookup_eq_some_iff.mp hx
    have mem : (x, c') ∈ G.errs := by
      rw [e]
      simp
    have z := PySem.W.mg_of X Gn (hall _ mem).1
    rw [hm'] at z
    have e1 : C' = He.ga K x := by
      injection z with z
      injection z
    subst e1
    exact (hall p hp).2.2.2 (x, c') mem
  · obtain ⟨p, hp, rfl, rfl⟩ := clF_inv hc
    exact (hall p hp).2.2.1
/-- the hook: defs, names, constants, own errors -/
abbrev AlF : Type := He.AlD × Bool
def obsF (n : Nat) (fa : List He.Fa) (fn : List He.DefD) (cs : List (Str × D)) (bs : List (Str × String)) (eb : PySem.W.Frag → Bool) (g : Addr → Option Obj) : AlF := (He.obsDG n fa fn g, moreB (He.frG g (He.asD g n)) cs bs && eb (He.frG g (He.asD g n)))
def hookF (n : Nat) (fa : List He.Fa) (fn : List He.DefD) (cs : List (Str × D)) (bs : List (Str × String)) (eb : PySem.W.Frag → Bool) : PySem.W.Hook where
  α := AlF
  obs := fun s => obsF n fa fn cs bs eb s.heap.get?
  val := fun _ => (He.valD fn, true)
  says := fun _ h => ∃ K : PySem.W.Frag, K.In h ∧ He.SaysD fa fn K ∧ (moreB K cs bs && eb K) = true
  of := fun _ _ e => ⟨_, He.frG_in, congrArg (fun z : AlF => z.1) e, congrArg (fun z : AlF => z.2) e⟩
  keeps := fun _ _ _ ⟨K, hK, c⟩ k => ⟨K, PySem.W.Frag.In.keeps hK k, c⟩
theorem obsF_eq {n : Nat} {fa : List He.Fa} {fn : List He.DefD} {cs : List (Str × D)} {bs : List (Str × String)} {eb : PySem.W.Frag → Bool} {g : Addr → Option Obj} {s : Shared} (h : ∀ a, g a = s.heap.get? a) : obsF n fa fn cs bs eb g = (hookF n fa fn cs bs eb).obs s := by
  have e : g = s.heap.get? := funext h
  rw [e] <;> rfl
def clsBody : Stmt → List Stmt
  | .ClassDef _ _ _ b _ _ _ _ _ _ _ => b
  | _ => []
/-- a def as the hook asks for it -/
def Df.he (d : Df) : He.DefD := ⟨(d.x, none), d.x, d.x, d.args, d.body, d.sc, [], []⟩
theorem md_of {G : Gt} {T : Tb} {K : PySem.W.Frag} {mg : Str → Option Value} {h : Heap} {fa : List He.Fa} {ds : List Df} {xs : List He.DefD} {cs : List (Str × D)} {bs : List (Str × String)} (X : K.In h) (Gn : h.Ns mainGlobals mg) (c : He.SaysD fa (ds.map Df.he ++ xs) K) (m : moreB K cs bs = true) (hE : ∀ (P : Program) (w : World) (base : Heap), Errs G T P w K mg base (seF K G.errs))
    (hG : G.fns = ds.map fun d => (d.x, d.f)) (hok : ∀ d ∈ ds, DfOk G T d) (hfa : ∀ d ∈ ds, He.Fa.glo d.x ∈ fa) (hfree : ∀ x ∈ bltAll, He.Fa.free x ∈ fa) (hp : ∀ f ps, G.pars f = some ps → (T.fns f).map (·.ps) = some ps)
    (hg : G.gcd = true → (("gcd" : Str), "math.gcd") ∈ bs) (hlc : G.lcm = true → (("lcm" : Str), "math.lcm") ∈ bs) (hc : ∀ x k, G.glo.lookup x = some k → ∃ d, (x, d) ∈ cs ∧ T.glo k = some d) : Md G T K mg (seF K G.errs) := by
  have fact : ∀ f ∈ fa, f.ok K = true := fun f hf => by
    obtain ⟨i, hi⟩ := List.getElem?_of_mem hf
    exact c.fact i hi
  refine ⟨rfl, fun x f hx => ?_, hp, fun x hx => He.free_ok X Gn (fact _ (hfree x hx)), fun z => more_blt X Gn m (hg z), fun z => more_blt X Gn m (hlc z), fun x k hx => ?_, hE⟩
  · rw [hG] at hx
    obtain ⟨l1, l2, e, _⟩ := List.lookup_eq_some_iff.mp hx
    have mem : (x, f) ∈ ds.map fun d => (d.x, d.f) := by rw [e]; simp
    obtain ⟨d, hd, he⟩ := List.mem_map.mp mem
    cases he
    obtain ⟨i, hi⟩ := List.getElem?_of_mem hd
    obtain ⟨fd, F⟩ := c.def_ i (d := d.he) (by rw [List.getElem?_append_left (by rw [List.length_map]; exact (List.getElem?_eq_some_iff.mp hi).1), List.getElem?_map, hi] <;> rfl)
    exact ⟨d, rfl, rfl, hok d hd, _, fd, F, He.glo_ok X Gn (fact _ (hfa d hd))⟩
  · obtain ⟨d, hd, ht⟩ := hc x k hx
    obtain ⟨v, u, h1, h2, h3⟩ := more_glo (S := seF K G.errs) rfl X Gn m hd
    exact ⟨v, u, d, h1, h2, ht, h3⟩
theorem Md.top {G : Gt} {T : Tb} {P : Program} {w : World} {K : PySem.W.Frag} {mg : Str → Option Value} {S : Se} (M : Md G T K mg S) (m : Nat) (x : Str) (f : String) (h : G.fns.lookup x = some f) : ∃ d : Df, d.x = x ∧ d.f = f ∧ DfOk G T d ∧ ∃ fa fd, FunD K d.x d.x d.args d.body d.sc [] [] fa fd ∧ mg x = some (.ref fa) ∧
    ∀ base : Heap, FnOk P w K mg base (L2.CX P w) (m + 3) fa fd d.psS (spF S (callN T (m + 1) d.f)) := by
  obtain ⟨d, rfl, rfl, D, fa, fd, F, hm⟩ := M.defs x f h
  exact ⟨d, rfl, rfl, D, fa, fd, F, hm, fun base => Fp.fn_ok F D.sc D.T (by simp [Df.fn, Df.psS]) rfl fun cdv A outer s H E pa hr => M.body D (M.all m) cdv A outer s H E pa hr⟩
/-- the law's def: its promise over every base -/
theorem law_facts {P : Program} {w : World} {G : Gt} {T : Tb} {K : PySem.W.Frag} {mg : Str → Option Value} {n m : Nat} {fa : Addr} (M : Md G T K mg (seF K G.errs)) (hl : G.fns.lookup ("law" : Str) = some "law") (hmg : mg ("law" : Str) = some (.ref fa)) (hps : ∀ F : Fn, T.fns "law" = some F → F.ps = ["script"])
    (plain : ∀ ns : List Int, ns.length ≤ n → callN T (m + 1) "law" [.val (.klst (ns.map D.int))] [] = .ok (.val (.bl true)) []) :
    ∃ (fd : FuncData) (sp : Sp), (∀ (s : Shared) (v : Value), BindsTo s fd ⟨[v], []⟩ [(("script" : Str), v)]) ∧ (∀ (H : Hp) (a : Addr) (ns : List Int), ns.length ≤ n → SqL K H a (ns.map V.int) → sp [.ref a] H (fun v _ => v = .bl true) fun _ _ _ => False) ∧
      ∀ base : Heap, FnOk P w K mg base L2.CX0 (m + 3) fa fd ["script"] sp := by
  obtain ⟨d, hx, hf, D0, fa', fd, F, hm, ok⟩ := M.top (P := P) (w := w) m _ _ hl
  have hps' : d.psS = [("script" : Str)] := by
    have := hps (d.fn G) (by rw [← hf]; exact D0.T)
    show d.ps.map Str.ofString = _
    rw [show d.ps = ["script"] from this]
    rfl
  rw [hmg] at hm
  cases hm
  rw [hf, hps'] at ok
  refine ⟨fd, fun vs H Q _ => spF (seF K G.errs) (callN T (m + 1) "law") vs H Q fun _ _ _ => False, fun s v => ?_, fun H a ns hn hS => law_sp rfl hS (plain ns hn), fun base => FnOk.quiet (ok base)⟩
  have b := FunD.bindsA (ps := d.psS) F D0.bd s [v] (by rw [hps']; rfl)
  rw [hps'] at b
  exact b
theorem fm_nil {α : Type} {P : α → Prop} : ∀ x ∈ ([] : List α), P x := fun _ h => nomatch h
theorem fm_cons {α : Type} {P : α → Prop} {a : α} {l : List α} (h : P a) (t : ∀ x ∈ l, P x) : ∀ x ∈ a :: l, P x := fun x hx => by
  rcases List.mem_cons.mp hx with rfl | hx
  · exact h
  · exact t x hx
theorem lk_nil {κ α : Type} [BEq κ] {P : κ → α → Prop} : ∀ x a, ([] : List (κ × α)).lookup x = some a → P x a := fun _ _ h => nomatch h
theorem lk_cons {κ α : Type} [BEq κ] [LawfulBEq κ] {P : κ → α → Prop} {y : κ} {b : α} {xs : List (κ × α)} (h : P y b) (t : ∀ x a, xs.lookup x = some a → P x a) : ∀ x a, ((y, b) :: xs).lookup x = some a → P x a := fun x a hx => by
  rw [List.lookup_cons] at hx
  cases q : x == y with
  | true =>
    rw [q] at hx
    cases hx
    rw [eq_of_beq q]
    exact h
  | false =>
    rw [q] at hx
    exact t x a hx
end Fp
/-! FpLaw: running the evaluator by hand: its equations as rewrite rows, loops by invariants. -/
namespace Fp.Z
open PySem Fp
/-! ### a call's answer -/
def _root_.Fp.CR.gives (c : CR) (P : Rv → List Pst → Prop) : Prop := ∃ r ps, c = .ok r ps ∧ P r ps
theorem gives_ok {r : Rv} {ps : List Pst} {P : Rv → List Pst → Prop} (h : P r ps) : (CR.ok r ps).gives P := ⟨r, ps, rfl, h⟩
theorem callN_eq {T : Tb} {n : Nat} {f : String} {ss : List Sl} {ps : List Pst} {F : Fn} (h : T.fns f = some F) (hl : ss.length = F.ps.length ∧ F.ps.length ≤ F.n) :
    callN T (n + 1) f ss ps = finish (execSs (T.ct n) F.body ⟨ss ++ List.replicate (F.n - ss.length) .no, ps⟩) := by
  rw [callN, h]
  exact if_pos hl
@[simp] theorem ct_call {T : Tb} {n : Nat} : (T.ct n).call = callN T n := nr rfl
@[simp] theorem ct_glo {T : Tb} {n : Nat} : (T.ct n).glo = T.glo := nr rfl
@[simp] theorem ct_pars {T : Tb} {n : Nat} {f : String} : (T.ct n).pars f = (T.fns f).map (·.ps) := nr rfl
/-! ### expressions -/
section
variable {C : Ct} {a b c : Ex} {es : List Ex} {e : Env}
def gloR (e : Env) : Option D → R Rv
  | some d => .ok (.val d) e
  | none => .bad
@[simp] theorem gloR_some {d : D} : gloR e (some d) = .ok (.val d) e := nr rfl
def negR (x : Rv) (e : Env) : R Rv := match x with
  | .val (.int i) => .ok (.val (.int (-i))) e
  | _ => .bad
@[simp] theorem negR_int {i : Int} : negR (.val (.int i)) e = .ok (.val (.int (-i))) e := nr rfl
def andR (C : Ct) (b : Ex) (x : Rv) (e : Env) : R Rv := match x with
  | .val (.bl true) => evalE C b e
  | .val (.bl false) => .ok (.val (.bl false)) e
  | _ => .bad
@[simp] theorem andR_t : andR C b (.val (.bl true)) e = evalE C b e := nr rfl
@[simp] theorem andR_f : andR C b (.val (.bl false)) e = .ok (.val (.bl false)) e := nr rfl
def orR (C : Ct) (b : Ex) (x : Rv) (e : Env) : R Rv := match x with
  | .val (.bl true) => .ok (.val (.bl true)) e
  | .val (.bl false) => evalE C b e
  | _ => .bad
@[simp] theorem orR_t : orR C b (.val (.bl true)) e = .ok (.val (.bl true)) e := nr rfl
@[simp] theorem orR_f : orR C b (.val (.bl false)) e = evalE C b e := nr rfl
def chainR (C : Ct) (o o' : Cop) (c : Ex) (x y : Rv) (e : Env) : R Bool :=
  match x, y with
    | .val (.int i), .val (.int j) => match cmpI o i j with
      | some t => if t then (evalE C c e).bind fun z e => opCmp o' (.val (.int j)) z e else .ok false e
      | none => .bad
    | _, _ => .bad
def chainK (C : Ct) (o' : Cop) (c : Ex) (j : Int) (e : Env) : Option Bool → R Bool
  | some t => if t then (evalE C c e).bind fun z e => opCmp o' (.val (.int j)) z e else .ok false e
  | none => .bad
@[simp] theorem chainR_int {o o' : Cop} {i j : Int} : chainR C o o' c (.val (.int i)) (.val (.int j)) e = chainK C o' c j e (cmpI o i j) := nr rfl
@[simp] theorem chainK_some {o' : Cop} {j : Int} {t : Bool} : chainK C o' c j e (some t) = if t then (evalE C c e).bind fun z e => opCmp o' (.val (.int j)) z e else .ok false e := nr rfl
def tupR (ds : List D) (e : Env) : R Rv := if ds.length ≤ LIM then .ok (.val (.tup ds)) e else .bad
def lstR (ds : List D) (e : Env) : R Rv := if ds.length ≤ LIM then .ok (.fresh ds) e else .bad
@[simp] theorem tupR_eq {ds : List D} : tupR ds e = if ds.length ≤ LIM then .ok (.val (.tup ds)) e else .bad := nr rfl
@[simp] theorem lstR_eq {ds : List D} : lstR ds e = if ds.length ≤ LIM then .ok (.fresh ds) e else .bad := nr rfl
theorem tupR_ok {ds : List D} (h : ds.length ≤ LIM) : tupR ds e = .ok (.val (.tup ds)) e := if_pos h
theorem lstR_ok {ds : List D} (h : ds.length ≤ LIM) : lstR ds e = .ok (.fresh ds) e := if_pos h
def isiR (C : Ct) (cs : List String) (d : D) (e : Env) : R Rv := match isAny C d cs with
    | some b => .ok (.val (.bl b)) e
    | none => .bad
theorem isiR_ok {cs : List String} {d : D} {t : Bool} (h : isAny C d cs = some t) : isiR C cs d e = .ok (.val (.bl t)) e := by unfold isiR; rw [h]
def revR (d : D) (e : Env) : R Rv := match d with
  | .tup ds => .ok (.val (.tup ds.reverse)) e
  | .lst ds => .ok (.fresh ds.reverse) e
  | _ => .bad
@[simp] theorem revR_t {ds : List D} : revR (.tup ds) e = .ok (.val (.tup ds.reverse)) e := nr rfl
@[simp] theorem revR_l {ds : List D} : revR (.lst ds) e = .ok (.fresh ds.reverse) e := nr rfl
def back (e : Env) (ls : List (Nat × Loc)) : CR → R Rv
  | .ok (.loc _) _ => .bad
  | .ok r ps' => match putBack e ps' ls with
    | some e => .ok r e
    | none => .bad
  | .ex c d ps' => match putBack e ps' ls with
    | some e => .ex c d e
    | none => .bad
  | .bad => .bad
def backV (r : Rv) : Option Env → R Rv
  | some e => .ok r e
  | none => .bad
def backX (c : String) (d : D) : Option Env → R Rv
  | some e => .ex c d e
  | none => .bad
@[simp] theorem backV_some {r : Rv} : backV r (some e) = .ok r e := nr rfl
@[simp] theorem backX_some {c : String} {d : D} : backX c d (some e) = .ex c d e := nr rfl
@[simp] theorem back_val {ls : List (Nat × Loc)} {d : D} {ps : List Pst} : back e ls (.ok (.val d) ps) = backV (.val d) (putBack e ps ls) := nr rfl
@[simp] theorem back_fresh {ls : List (Nat × Loc)} {ds : List D} {ps : List Pst} : back e ls (.ok (.fresh ds) ps) = backV (.fresh ds) (putBack e ps ls) := nr rfl
@[simp] theorem back_ex {ls : List (Nat × Loc)} {c : String} {d : D} {ps : List Pst} : back e ls (.ex c d ps) = backX c d (putBack e ps ls) := nr rfl
def call2 (C : Ct) (f : String) (e : Env) : Option (List Sl × List Pst × List (Nat × Loc)) → R Rv
  | some (ss, ps, ls) => if locsApart ls then back e ls (C.call f ss ps) else .bad
  | none => .bad
@[simp] theorem call2_some {f : String} {ss : List Sl} {ps : List Pst} {ls : List (Nat × Loc)} : call2 C f e (some (ss, ps, ls)) = if locsApart ls then back e ls (C.call f ss ps) else .bad := nr rfl
@[simp] theorem doCall_eq {f : String} {rs : List Rv} : doCall C f rs e = call2 C f e (mkArgs e rs 0) := by
  unfold doCall call2 back
  cases mkArgs e rs 0 with
  | none => rfl
  | some x =>
    obtain ⟨ss, ps, ls⟩ := x
    rfl
def kwCall (C : Ct) (f : String) (e : Env) : Option (List Rv) → R Rv
  | some us => doCall C f us e
  | none => .bad
@[simp] theorem kwCall_some {f : String} {us : List Rv} : kwCall C f e (some us) = doCall C f us e := nr rfl
def kwGo (C : Ct) (f : String) (ks : List String) (rs ws : List Rv) (e : Env) : Option (List String) → R Rv
  | some ps => kwCall C f e (kwRvs ps ks rs ws)
  | none => .bad
@[simp] theorem kwGo_some {f : String} {ks ps : List String} {rs ws : List Rv} : kwGo C f ks rs ws e (some ps) = kwCall C f e (kwRvs ps ks rs ws) := nr rfl
def binJ (o : Bop) (x y : Rv) (e : Env) : R Rv := opBin o x y e
def binK (C : Ct) (o : Bop) (b : Ex) (x : Rv) (e : Env) : R Rv := (evalE C b e).bind (binJ o x)
@[simp] theorem binJ_eq {o : Bop} {x y : Rv} : binJ o x y e = opBin o x y e := nr rfl
@[simp] theorem binK_eq {o : Bop} {x : Rv} : binK C o b x e = (evalE C b e).bind (binJ o x) := nr rfl
def notB (t : Bool) (e : Env) : R Bool := .ok (!t) e
def notK (x : Rv) (e : Env) : R Bool := (opTru x e).bind notB
@[simp] theorem notB_eq {t : Bool} : notB t e = .ok (!t) e := nr rfl
@[simp] theorem notK_eq {x : Rv} : notK x e = (opTru x e).bind notB := nr rfl
def cmpJ (o : Cop) (x y : Rv) (e : Env) : R Bool := opCmp o x y e
def cmpK (C : Ct) (o : Cop) (b : Ex) (x : Rv) (e : Env) : R Bool := (evalE C b e).bind (cmpJ o x)
@[simp] theorem cmpJ_eq {o : Cop} {x y : Rv} : cmpJ o x y e = opCmp o x y e := nr rfl
@[simp] theorem cmpK_eq {o : Cop} {x : Rv} : cmpK C o b x e = (evalE C b e).bind (cmpJ o x) := nr rfl
def chainL (C : Ct) (o o' : Cop) (b c : Ex) (x : Rv) (e : Env) : R Bool := (evalE C b e).bind (chainR C o o' c x)
@[simp] theorem chainL_eq {o o' : Cop} {x : Rv} : chainL C o o' b c x e = (evalE C b e).bind (chainR C o o' c x) := nr rfl
def iteK (C : Ct) (a b : Ex) (t : Bool) (e : Env) : R Rv := if t then evalE C a e else evalE C b e
@[simp] theorem iteK_t : iteK C a b true e = evalE C a e := nr rfl
@[simp] theorem iteK_f : iteK C a b false e = evalE C b e := nr rfl
def tupJ (rs : List Rv) (e : Env) : R Rv := (e.asVals rs).bind tupR
@[simp] theorem tupJ_eq {rs : List Rv} : tupJ rs e = (e.asVals rs).bind tupR := nr rfl
def lstJ (rs : List Rv) (e : Env) : R Rv := (e.items rs).bind lstR
@[simp] theorem lstJ_eq {rs : List Rv} : lstJ rs e = (e.items rs).bind lstR := nr rfl
def idxB (x y : Rv) (e : Env) : R Rv := opIdx x y e
def idxA (C : Ct) (b : Ex) (x : Rv) (e : Env) : R Rv := (evalE C b e).bind (idxB x)
@[simp] theorem idxB_eq {x y : Rv} : idxB x y e = opIdx x y e := nr rfl
@[simp] theorem idxA_eq {x : Rv} : idxA C b x e = (evalE C b e).bind (idxB x) := nr rfl
def slcC (l h : Option Int) (d : D) (e : Env) : R Rv := opSlc d l h e
def slcB (x : Rv) (l h : Option Int) (e : Env) : R Rv := (e.peek x).bind (slcC l h)
def slcA (C : Ct) (hi : Option Ex) (x : Rv) (l : Option Int) (e : Env) : R Rv := (evalO C hi e).bind (slcB x l)
def slcO (C : Ct) (lo hi : Option Ex) (x : Rv) (e : Env) : R Rv := (evalO C lo e).bind (slcA C hi x)
@[simp] theorem slcC_eq {l h : Option Int} {d : D} : slcC l h d e = opSlc d l h e := nr rfl
@[simp] theorem slcB_eq {x : Rv} {l h : Option Int} : slcB x l h e = (e.peek x).bind (slcC l h) := nr rfl
@[simp] theorem slcA_eq {hi : Option Ex} {x : Rv} {l : Option Int} : slcA C hi x l e = (evalO C hi e).bind (slcB x l) := nr rfl
@[simp] theorem slcO_eq {lo hi : Option Ex} {x : Rv} : slcO C lo hi x e = (evalO C lo e).bind (slcA C hi x) := nr rfl
def revA (x : Rv) (e : Env) : R Rv := (e.peek x).bind revR
@[simp] theorem revA_eq {x : Rv} : revA x e = (e.peek x).bind revR := nr rfl
def callA (C : Ct) (f : String) (rs : List Rv) (e : Env) : R Rv := call2 C f e (mkArgs e rs 0)
@[simp] theorem callA_eq {f : String} {rs : List Rv} : callA C f rs e = call2 C f e (mkArgs e rs 0) := nr rfl
def callkB (C : Ct) (f : String) (ks : List String) (rs ws : List Rv) (e : Env) : R Rv := kwGo C f ks rs ws e (C.pars f)
def callkA (C : Ct) (f : String) (ks : List (String × Ex)) (rs : List Rv) (e : Env) : R Rv := (evalKs C ks e).bind (callkB C f (ks.map (·.1)) rs)
@[simp] theorem callkB_eq {f : String} {ks : List String} {rs ws : List Rv} : callkB C f ks rs ws e = kwGo C f ks rs ws e (C.pars f) := nr rfl
@[simp] theorem callkA_eq {f : String} {ks : List (String × Ex)} {rs : List Rv} : callkA C f ks rs e = (evalKs C ks e).bind (callkB C f (ks.map (·.1)) rs) := nr rfl
def isiA (C : Ct) (cs : List String) (x : Rv) (e : Env) : R Rv := (e.peek x).bind (isiR C cs)
@[simp] theorem isiA_eq {cs : List String} {x : Rv} : isiA C cs x e = (e.peek x).bind (isiR C cs) := nr rfl
def methB (m : String) (x : Rv) (rs : List Rv) (e : Env) : R Rv := opMeth m x rs e
def methA (C : Ct) (m : String) (es : List Ex) (x : Rv) (e : Env) : R Rv := if e.isLst x then (evalEs C es e).bind (methB m x) else .bad
@[simp] theorem methB_eq {m : String} {x : Rv} {rs : List Rv} : methB m x rs e = opMeth m x rs e := nr rfl
@[simp] theorem methA_eq {m : String} {x : Rv} : methA C m es x e = if e.isLst x then (evalEs C es e).bind (methB m x) else .bad := nr rfl
def tandK (C : Ct) (b : Ex) (t : Bool) (e : Env) : R Bool := if t then evalT C b e else .ok false e
@[simp] theorem tandK_t : tandK C b true e = evalT C b e := nr rfl
@[simp] theorem tandK_f : tandK C b false e = .ok false e := nr rfl
def torK (C : Ct) (b : Ex) (t : Bool) (e : Env) : R Bool := if t then .ok true e else evalT C b e
@[simp] theorem torK_t : torK C b true e = .ok true e := nr rfl
@[simp] theorem torK_f : torK C b false e = evalT C b e := nr rfl
def esJ (r : Rv) (rs : List Rv) (e : Env) : R (List Rv) := .ok (r :: rs) e
def esK (C : Ct) (es : List Ex) (r : Rv) (e : Env) : R (List Rv) := (evalEs C es e).bind (esJ r)
@[simp] theorem esJ_eq {r : Rv} {rs : List Rv} : esJ r rs e = .ok (r :: rs) e := nr rfl
@[simp] theorem esK_eq {r : Rv} : esK C es r e = (evalEs C es e).bind (esJ r) := nr rfl
def ksK (C : Ct) (ks : List (String × Ex)) (r : Rv) (e : Env) : R (List Rv) := (evalKs C ks e).bind (esJ r)
@[simp] theorem ksK_eq {ks : List (String × Ex)} {r : Rv} : ksK C ks r e = (evalKs C ks e).bind (esJ r) := nr rfl
@[simp] theorem x_cst {d : D} : evalE C (.cst d) e = .ok (.val d) e := by rw [evalE]
@[simp] theorem x_var {i : Nat} : evalE C (.var i) e = e.var i := by rw [evalE]
@[simp] theorem x_glo {x : String} : evalE C (.glo x) e = gloR e (C.glo x) := by rw [evalE]; rfl
@[simp] theorem x_bin {o : Bop} : evalE C (.bin o a b) e = (evalE C a e).bind (binK C o b) := by rw [evalE]; rfl
@[simp] theorem x_neg : evalE C (.neg a) e = (evalE C a e).bind negR := by rw [evalE]; rfl
@[simp] theorem x_not : evalE C (.not a) e = ((evalE C a e).bind notK).blV := by rw [evalE]; rfl
@[simp] theorem x_cmp {o : Cop} : evalE C (.cmp o a b) e = ((evalE C a e).bind (cmpK C o b)).blV := by rw [evalE]; rfl
@[simp] theorem x_chain {o o' : Cop} : evalE C (.chain o o' a b c) e = ((evalE C a e).bind (chainL C o o' b c)).blV := by rw [evalE]; rfl
@[simp] theorem x_and : evalE C (.and a b) e = (evalE C a e).bind (andR C b) := by rw [evalE]; rfl
@[simp] theorem x_or : evalE C (.or a b) e = (evalE C a e).bind (orR C b) := by rw [evalE]; rfl
@[simp] theorem x_ite : evalE C (.ite c a b) e = (evalT C c e).bind (iteK C a b) := by rw [evalE]; rfl
@[simp] theorem x_tup : evalE C (.tup es) e = (evalEs C es e).bind tupJ := by rw [evalE]; rfl
@[simp] theorem x_lst : evalE C (.lst es) e = (evalEs C es e).bind lstJ := by rw [evalE]; rfl
@[simp] theorem x_dic0 : evalE C .dic0 e = .ok (.val (.dic [] [])) e := by rw [evalE]
@[simp] theorem x_idx : evalE C (.idx a b) e = (evalE C a e).bind (idxA C b) := by rw [evalE]; rfl
@[simp] theorem x_slc {lo hi : Option Ex} : evalE C (.slc a lo hi) e = (evalE C a e).bind (slcO C lo hi) := by rw [evalE]; rfl
@[simp] theorem x_rev : evalE C (.rev a) e = (evalE C a e).bind revA := by rw [evalE]; rfl
@[simp] theorem x_call {f : String} : evalE C (.call f es) e = (evalEs C es e).bind (callA C f) := by
  rw [evalE]
  exact congrArg _ (funext fun rs => funext fun e => doCall_eq)
@[simp] theorem x_callk {f : String} {ks : List (String × Ex)} : evalE C (.callk f es ks) e = (evalEs C es e).bind (callkA C f ks) := by rw [evalE]; rfl
@[simp] theorem x_blt {f : String} : evalE C (.blt f es) e = (evalEs C es e).bind (opBlt f) := by rw [evalE]
@[simp] theorem x_isi {cs : List String} : evalE C (.isi a cs) e = (evalE C a e).bind (isiA C cs) := by rw [evalE]; rfl
@[simp] theorem x_meth {m : String} : evalE C (.meth m a es) e = (evalE C a e).bind (methA C m es) := by rw [evalE]; rfl
/-- a comprehension's turn, a test or none -/
def condR (C : Ct) : Option Ex → Env → R Bool
  | none, e => .ok true e
  | some c, e => evalT C c e
@[simp] theorem condR_n : condR C none e = .ok true e := nr rfl
@[simp] theorem condR_s : condR C (some c) e = evalT C c e := nr rfl
def compB (C : Ct) (x : Ex) (t : Tg) (k : Option Ex) (own : List Nat) : D → Env → R (Option D) := compF t (condR C k) (evalE C x) own
def compK (sl : List Sl) (own : List Nat) (ls : List (Option Loc)) (ys : List D) (e' : Env) : R Rv := if ys.length ≤ LIM then .ok (.fresh ys) (Env.unlease ⟨backS sl e'.sl own, e'.ps⟩ ls) else .bad
def compGo (C : Ct) (x : Ex) (t : Tg) (k : Option Ex) (own : List Nat) (p : List D × List (Option Loc)) (e : Env) : R Rv := if clearS e.sl own then (compL (compB C x t k own) p.1 ⟨wipeS e.sl own, e.ps⟩).bind (compK e.sl own p.2) else .bad
@[simp] theorem x_comp {t : Tg} {s : Src} {k : Option Ex} {own : List Nat} : evalE C (.comp a t s k own) e = (evalS C false s e).bind (compGo C a t k own) := by
  cases k <;> rw [evalE] <;> rfl
@[simp] theorem t_and : evalT C (.and a b) e = (evalT C a e).bind (tandK C b) := by rw [evalT]; rfl
@[simp] theorem t_or : evalT C (.or a b) e = (evalT C a e).bind (torK C b) := by rw [evalT]; rfl
@[simp] theorem t_not : evalT C (.not a) e = (evalT C a e).bind notB := by rw [evalT]; rfl
@[simp] theorem t_cmp {o : Cop} : evalT C (.cmp o a b) e = (evalE C (.cmp o a b) e).bind opTru := by rw [evalT] <;> first | rfl | (intro _ _ h; cases h) | (intro _ h; cases h)
@[simp] theorem t_call {f : String} : evalT C (.call f es) e = (evalE C (.call f es) e).bind opTru := by rw [evalT] <;> first | rfl | (intro _ _ h; cases h) | (intro _ h; cases h)
@[simp] theorem t_callk {f : String} {ks : List (String × Ex)} : evalT C (.callk f es ks) e = (evalE C (.callk f es ks) e).bind opTru := by rw [evalT] <;> first | rfl | (intro _ _ h; cases h) | (intro _ h; cases h)
@[simp] theorem t_blt {f : String} : evalT C (.blt f es) e = (evalE C (.blt f es) e).bind opTru := by rw [evalT] <;> first | rfl | (intro _ _ h; cases h) | (intro _ h; cases h)
@[simp] theorem t_isi {cs : List String} : evalT C (.isi a cs) e = (evalE C (.isi a cs) e).bind opTru := by rw [evalT] <;> first | rfl | (intro _ _ h; cases h) | (intro _ h; cases h)
@[simp] theorem t_var {i : Nat} : evalT C (.var i) e = (evalE C (.var i) e).bind opTru := by rw [evalT] <;> first | rfl | (intro _ _ h; cases h) | (intro _ h; cases h)
@[simp] theorem t_cst {d : D} : evalT C (.cst d) e = (evalE C (.cst d) e).bind opTru := by rw [evalT] <;> first | rfl | (intro _ _ h; cases h) | (intro _ h; cases h)
@[simp] theorem t_idx : evalT C (.idx a b) e = (evalE C (.idx a b) e).bind opTru := by rw [evalT] <;> first | rfl | (intro _ _ h; cases h) | (intro _ h; cases h)
@[simp] theorem es_nil : evalEs C [] e = .ok [] e := by rw [evalEs]
@[simp] theorem es_cons : evalEs C (a :: es) e = (evalE C a e).bind (esK C es) := by rw [evalEs]; rfl
@[simp] theorem ks_nil : evalKs C [] e = .ok [] e := by rw [evalKs]
@[simp] theorem ks_cons {y : String} {ks : List (String × Ex)} : evalKs C ((y, a) :: ks) e = (evalE C a e).bind (ksK C ks) := by rw [evalKs]; rfl
def optI (x : Rv) (e : Env) : R (Option Int) := match x with
  | .val (.int i) => .ok (some i) e
  | _ => .bad
@[simp] theorem optI_int {i : Int} : optI (.val (.int i)) e = .ok (some i) e := nr rfl
@[simp] theorem o_none : evalO C none e = .ok none e := by rw [evalO]
@[simp] theorem o_some : evalO C (some a) e = (evalE C a e).bind optI := by rw [evalO]; rfl
def srcK (l : Option Loc) (e : Env) : Option (List D) → R (List D × List (Option Loc))
  | some ds => .ok (ds, [l]) e
  | none => .bad
@[simp] theorem srcK_some {l : Option Loc} {ds : List D} : srcK l e (some ds) = .ok (ds, [l]) e := nr rfl
def enuK (l : Option Loc) (e : Env) : Option (List D) → R (List D × List (Option Loc))
  | some ds => .ok (enums ds 0, [l]) e
  | none => .bad
@[simp] theorem enuK_some {l : Option Loc} {ds : List D} : enuK l e (some ds) = .ok (enums ds 0, [l]) e := nr rfl
def rngK (x : Rv) (e : Env) : R (List D × List (Option Loc)) := match x with
  | .val (.int j) => if small62 j then .ok (intsD 0 j.toNat, []) e else .bad
  | _ => .bad
@[simp] theorem rngK_int {j : Int} : rngK (.val (.int j)) e = if small62 j then .ok (intsD 0 j.toNat, []) e else .bad := nr rfl
def rng2K (x y : Rv) (e : Env) : R (List D × List (Option Loc)) := match x, y with
  | .val (.int i), .val (.int j) => if small62 i && small62 j then .ok (intsD i (j - i).toNat, []) e else .bad
  | _, _ => .bad
@[simp] theorem rng2K_int {i j : Int} : rng2K (.val (.int i)) (.val (.int j)) e = if small62 i && small62 j then .ok (intsD i (j - i).toNat, []) e else .bad := nr rfl
def zipK (d d' : D) (ls : List (Option Loc)) (e : Env) : R (List D × List (Option Loc)) := match d, d' with
  | .lst ds, .lst ds' => .ok (zips ds ds', ls) e
  | .tup ds, .tup ds' => .ok (zips ds ds', ls) e
  | _, _ => .bad
@[simp] theorem zipK_l {ds ds' : List D} {ls : List (Option Loc)} : zipK (.lst ds) (.lst ds') ls e = .ok (zips ds ds', ls) e := nr rfl
@[simp] theorem zipK_t {ds ds' : List D} {ls : List (Option Loc)} : zipK (.tup ds) (.tup ds') ls e = .ok (zips ds ds', ls) e := nr rfl
def ovJ (p : D × Option Loc) (e : Env) : R (List D × List (Option Loc)) := srcK p.2 e (itemsOf p.1)
def ovK (fz : Bool) (x : Rv) (e : Env) : R (List D × List (Option Loc)) := (e.lend fz x).bind ovJ
@[simp] theorem ovJ_eq {p : D × Option Loc} : ovJ p e = srcK p.2 e (itemsOf p.1) := nr rfl
@[simp] theorem ovK_eq {fz : Bool} {x : Rv} : ovK fz x e = (e.lend fz x).bind ovJ := nr rfl
def enuJ (p : D × Option Loc) (e : Env) : R (List D × List (Option Loc)) := enuK p.2 e (itemsOf p.1)
def enuL (fz : Bool) (x : Rv) (e : Env) : R (List D × List (Option Loc)) := (e.lend fz x).bind enuJ
@[simp] theorem enuJ_eq {p : D × Option Loc} : enuJ p e = enuK p.2 e (itemsOf p.1) := nr rfl
@[simp] theorem enuL_eq {fz : Bool} {x : Rv} : enuL fz x e = (e.lend fz x).bind enuJ := nr rfl
def rng2A (C : Ct) (b : Ex) (x : Rv) (e : Env) : R (List D × List (Option Loc)) := (evalE C b e).bind (rng2K x)
@[simp] theorem rng2A_eq {x : Rv} : rng2A C b x e = (evalE C b e).bind (rng2K x) := nr rfl
def zipJ (p p' : D × Option Loc) (e : Env) : R (List D × List (Option Loc)) := zipK p.1 p'.1 [p.2, p'.2] e
def zipI (fz : Bool) (y : Rv) (p : D × Option Loc) (e : Env) : R (List D × List (Option Loc)) := (e.lend fz y).bind (zipJ p)
def zipH (fz : Bool) (x y : Rv) (e : Env) : R (List D × List (Option Loc)) := (e.lend fz x).bind (zipI fz y)
def zipA (C : Ct) (fz : Bool) (b : Ex) (x : Rv) (e : Env) : R (List D × List (Option Loc)) := (evalE C b e).bind (zipH fz x)
@[simp] theorem zipJ_eq {p p' : D × Option Loc} : zipJ p p' e = zipK p.1 p'.1 [p.2, p'.2] e := nr rfl
@[simp] theorem zipI_eq {fz : Bool} {y : Rv} {p : D × Option Loc} : zipI fz y p e = (e.lend fz y).bind (zipJ p) := nr rfl
@[simp] theorem zipH_eq {fz : Bool} {x y : Rv} : zipH fz x y e = (e.lend fz x).bind (zipI fz y) := nr rfl
@[simp] theorem zipA_eq {fz : Bool} {x : Rv} : zipA C fz b x e = (evalE C b e).bind (zipH fz x) := nr rfl
@[simp] theorem s_ov {fz : Bool} : evalS C fz (.ov a) e = (evalE C a e).bind (ovK fz) := by rw [evalS]; rfl
@[simp] theorem s_enu {fz : Bool} : evalS C fz (.enu a) e = (evalE C a e).bind (enuL fz) := by rw [evalS]; rfl
@[simp] theorem s_rng {fz : Bool} : evalS C fz (.rng a) e = (evalE C a e).bind rngK := by rw [evalS]; rfl
@[simp] theorem s_rng2 {fz : Bool} : evalS C fz (.rng2 a b) e = (evalE C a e).bind (rng2A C b) := by rw [evalS]; rfl
@[simp] theorem s_zip {fz : Bool} : evalS C fz (.zip a b) e = (evalE C a e).bind (zipA C fz b) := by rw [evalS]; rfl
end
/-! ### statements -/
section
variable {C : Ct} {a b c x : Ex} {es : List Ex} {e : Env} {ss ss' : List Sm} {s : Sm}
noncomputable def forB (C : Ct) (t : Tg) (b : List Sm) (d : D) (e : Env) : SR := match bindD t d e with
      | some e => execSs C b e
      | none => .bad
theorem forB_eq {t : Tg} {d : D} {e' : Env} (h : bindD t d e = some e') : forB C t ss d e = execSs C ss e' := by unfold forB; rw [h]
def augJ (i : Nat) (a : Int) (z : Rv) (e : Env) : SR := match z with
      | .val (.int b) => if i < e.sl.length then .nx ⟨e.sl.set i (.val (.int (a + b))), e.ps⟩ else .bad
      | _ => .bad
def augK (C : Ct) (i : Nat) (x : Ex) (y : Rv) (e : Env) : SR := match y with
  | .val (.int a) => (evalE C x e).st (augJ i a)
  | _ => .bad
@[simp] theorem augK_int {i : Nat} {a : Int} : augK C i x (.val (.int a)) e = (evalE C x e).st (augJ i a) := nr rfl
@[simp] theorem augJ_int {i : Nat} {a b : Int} : augJ i a (.val (.int b)) e = if i < e.sl.length then .nx ⟨e.sl.set i (.val (.int (a + b))), e.ps⟩ else .bad := nr rfl
def nxU (_ : Unit) (e : Env) : SR := .nx e
@[simp] theorem nxU_eq {u : Unit} : nxU u e = .nx e := nr rfl
def augIJ (y z : Rv) (a : Int) (v : Rv) (e : Env) : SR := match v with
  | .val (.int c) => (setIx y z (.int (a + c)) e).st nxU
  | _ => .bad
def augIK (C : Ct) (x : Ex) (y z u : Rv) (e : Env) : SR := match u with
  | .val (.int a) => (evalE C x e).st (augIJ y z a)
  | _ => .bad
@[simp] theorem augIK_int {y z : Rv} {a : Int} : augIK C x y z (.val (.int a)) e = (evalE C x e).st (augIJ y z a) := nr rfl
@[simp] theorem augIJ_int {y z : Rv} {a c : Int} : augIJ y z a (.val (.int c)) e = (setIx y z (.int (a + c)) e).st nxU := nr rfl
def nxR (_ : Rv) (e : Env) : SR := .nx e
@[simp] theorem nxR_eq {r : Rv} : nxR r e = .nx e := nr rfl
def asgK (t : Tg) (r : Rv) (e : Env) : SR := (bindT t r e).st nxU
@[simp] theorem asgK_eq {t : Tg} {r : Rv} : asgK t r e = (bindT t r e).st nxU := nr rfl
def parK (is : List Nat) (rs : List Rv) (e : Env) : SR := (bindPar is rs e).st nxU
@[simp] theorem parK_eq {is : List Nat} {rs : List Rv} : parK is rs e = (bindPar is rs e).st nxU := nr rfl
def setD (y z : Rv) (d : D) (e : Env) : SR := (setIx y z d e).st nxU
def setC (r y z : Rv) (e : Env) : SR := (e.item r).st (setD y z)
def setB (C : Ct) (i : Ex) (r y : Rv) (e : Env) : SR := (evalE C i e).st (setC r y)
def setA (C : Ct) (b i : Ex) (r : Rv) (e : Env) : SR := (evalE C b e).st (setB C i r)
@[simp] theorem setD_eq {y z : Rv} {d : D} : setD y z d e = (setIx y z d e).st nxU := nr rfl
@[simp] theorem setC_eq {r y z : Rv} : setC r y z e = (e.item r).st (setD y z) := nr rfl
@[simp] theorem setB_eq {i : Ex} {r y : Rv} : setB C i r y e = (evalE C i e).st (setC r y) := nr rfl
@[simp] theorem setA_eq {i : Ex} {r : Rv} : setA C b i r e = (evalE C b e).st (setB C i r) := nr rfl
def augIB (C : Ct) (x : Ex) (y z : Rv) (e : Env) : SR := (opIdx y z e).st (augIK C x y z)
def augIA (C : Ct) (i x : Ex) (y : Rv) (e : Env) : SR := (evalE C i e).st (augIB C x y)
@[simp] theorem augIB_eq {y z : Rv} : augIB C x y z e = (opIdx y z e).st (augIK C x y z) := nr rfl
@[simp] theorem augIA_eq {i : Ex} {y : Rv} : augIA C i x y e = (evalE C i e).st (augIB C x y) := nr rfl
noncomputable def ifK (C : Ct) (ss ss' : List Sm) (t : Bool) (e : Env) : SR := if t then execSs C ss e else execSs C ss' e
@[simp] theorem ifK_t : ifK C ss ss' true e = execSs C ss e := nr rfl
@[simp] theorem ifK_f : ifK C ss ss' false e = execSs C ss' e := nr rfl
noncomputable def forK (C : Ct) (t : Tg) (b : List Sm) (p : List D × List (Option Loc)) (e : Env) : SR := forL (forB C t b) p.1 e
@[simp] theorem forK_eq {t : Tg} {p : List D × List (Option Loc)} : forK C t ss p e = forL (forB C t ss) p.1 e := nr rfl
def retK (r : Rv) (e : Env) : SR := .ret r e
@[simp] theorem retK_eq {r : Rv} : retK r e = .ret r e := nr rfl
@[simp] theorem ss_nil : execSs C [] e = .nx e := by rw [execSs]
@[simp] theorem ss_cons : execSs C (s :: ss) e = (execS C s e).andThen (execSs C ss) := by rw [execSs]
@[simp] theorem m_asg {t : Tg} : execS C (.asg t x) e = (evalE C x e).st (asgK t) := by rw [execS]; rfl
@[simp] theorem m_par {is : List Nat} : execS C (.par is es) e = (evalEs C es e).st (parK is) := by rw [execS]; rfl
@[simp] theorem m_setI {i : Ex} : execS C (.setI b i x) e = (evalE C x e).st (setA C b i) := by rw [execS]; rfl
@[simp] theorem m_aug {i : Nat} : execS C (.aug i x) e = (e.var i).st (augK C i x) := by rw [execS]; rfl
@[simp] theorem m_augI {i : Ex} : execS C (.augI b i x) e = (evalE C b e).st (augIA C i x) := by rw [execS]; rfl
@[simp] theorem m_ite : execS C (.ite c ss ss') e = (evalT C c e).st (ifK C ss ss') := by rw [execS]; rfl
@[simp] theorem m_whl : execS C (.whl c ss) e = whileE (evalT C c) (execSs C ss) e := by rw [execS]
@[simp] theorem m_for {t : Tg} {s : Src} : execS C (.for_ t s ss) e = (evalS C true s e).st (forK C t ss) := by rw [execS]; rfl
@[simp] theorem m_ret : execS C (.ret x) e = (evalE C x e).st retK := by rw [execS]; rfl
@[simp] theorem m_retn : execS C .retn e = .ret (.val .non) e := by rw [execS]
@[simp] theorem m_exp : execS C (.exp x) e = (evalE C x e).st nxR := by rw [execS]; rfl
@[simp] theorem m_brk : execS C .brk e = .bk e := by rw [execS]
@[simp] theorem m_cnt : execS C .cnt e = .ct e := by rw [execS]
@[simp] theorem m_pas : execS C .pas e = .nx e := by rw [execS]
end
/-! ### the environment -/
section
variable {sl : List Sl} {ps : List Pst} {i k : Nat} {d : D} {ds : List D}
def varK (e : Env) (i : Nat) : Option Sl → R Rv
  | some (.val d) => .ok (.val d) e
  | some (.own _) => .ok (.loc (.s i)) e
  | some (.lea _) => .ok (.loc (.s i)) e
  | some (.lnk k) => match e.ps[k]? with
    | some (.own _) => .ok (.loc (.p k)) e
    | some (.lea _) => .ok (.loc (.p k)) e
    | some (.frz ds) => .ok (.val (.lst ds)) e
    | none => .bad
  | _ => .bad
def varP (e : Env) (k : Nat) : Option Pst → R Rv
  | some (.own _) => .ok (.loc (.p k)) e
  | some (.lea _) => .ok (.loc (.p k)) e
  | some (.frz ds) => .ok (.val (.lst ds)) e
  | none => .bad
@[simp] theorem var_eq {e : Env} : e.var i = varK e i e.sl[i]? := nr rfl
@[simp] theorem varK_val {e : Env} : varK e i (some (.val d)) = .ok (.val d) e := nr rfl
@[simp] theorem varK_own {e : Env} : varK e i (some (.own ds)) = .ok (.loc (.s i)) e := nr rfl
@[simp] theorem varK_lea {e : Env} : varK e i (some (.lea ds)) = .ok (.loc (.s i)) e := nr rfl
@[simp] theorem varK_lnk {e : Env} : varK e i (some (.lnk k)) = varP e k e.ps[k]? := nr rfl
@[simp] theorem varP_own {e : Env} : varP e k (some (.own ds)) = .ok (.loc (.p k)) e := nr rfl
@[simp] theorem varP_lea {e : Env} : varP e k (some (.lea ds)) = .ok (.loc (.p k)) e := nr rfl
@[simp] theorem varP_frz {e : Env} : varP e k (some (.frz ds)) = .ok (.val (.lst ds)) e := nr rfl
def atK : Option Sl → Option Pst
    | some (.own ds) => some (.own ds)
    | some (.lea ds) => some (.lea ds)
    | some (.val (.lst ds)) => some (.frz ds)
    | _ => none
@[simp] theorem at_s {e : Env} : e.at (.s i) = atK e.sl[i]? := nr rfl
@[simp] theorem at_p {e : Env} : e.at (.p k) = e.ps[k]? := nr rfl
@[simp] theorem atK_own : atK (some (.own ds)) = some (.own ds) := nr rfl
@[simp] theorem atK_lea : atK (some (.lea ds)) = some (.lea ds) := nr rfl
@[simp] theorem atK_frz : atK (some (.val (.lst ds))) = some (.frz ds) := nr rfl
@[simp] theorem put_s {p : Pst} : Env.put ⟨sl, ps⟩ (.s i) p = ⟨sl.set i (.ofP p), ps⟩ := nr rfl
@[simp] theorem put_p {p : Pst} : Env.put ⟨sl, ps⟩ (.p k) p = ⟨sl, ps.set k p⟩ := nr rfl
@[simp] theorem ofP_own : Sl.ofP (.own ds) = .own ds := nr rfl
@[simp] theorem ofP_lea : Sl.ofP (.lea ds) = .lea ds := nr rfl
@[simp] theorem ofP_frz : Sl.ofP (.frz ds) = .val (.lst ds) := nr rfl
def peekK (e : Env) (l : Loc) : Option Pst → R D
    | some (.own ds) => .ok (.lst (ds.map frz1)) (e.put l (.own (ds.map frz1)))
    | some (.lea ds) => .ok (.lst ds) e
    | some (.frz ds) => .ok (.lst ds) e
    | none => .bad
@[simp] theorem peek_val {e : Env} : e.peek (.val d) = .ok d e := nr rfl
@[simp] theorem peek_fresh {e : Env} : e.peek (.fresh ds) = .ok (.lst (ds.map frz1)) e := nr rfl
@[simp] theorem peek_loc {e : Env} {l : Loc} : e.peek (.loc l) = peekK e l (e.at l) := nr rfl
@[simp] theorem peekK_own {e : Env} {l : Loc} : peekK e l (some (.own ds)) = .ok (.lst (ds.map frz1)) (e.put l (.own (ds.map frz1))) := nr rfl
@[simp] theorem peekK_lea {e : Env} {l : Loc} : peekK e l (some (.lea ds)) = .ok (.lst ds) e := nr rfl
@[simp] theorem peekK_frz {e : Env} {l : Loc} : peekK e l (some (.frz ds)) = .ok (.lst ds) e := nr rfl
def asValK (e : Env) (l : Loc) : Option Pst → R D
    | some (.own ds) => .ok (.lst (ds.map frz1)) (e.put l (.frz (ds.map frz1)))
    | some (.frz ds) => .ok (.lst ds) e
    | _ => .bad
@[simp] theorem asVal_val {e : Env} : e.asVal (.val d) = .ok d e := nr rfl
@[simp] theorem asVal_fresh {e : Env} : e.asVal (.fresh ds) = .ok (.lst (ds.map frz1)) e := nr rfl
@[simp] theorem asVal_loc {e : Env} {l : Loc} : e.asVal (.loc l) = asValK e l (e.at l) := nr rfl
@[simp] theorem asValK_own {e : Env} {l : Loc} : asValK e l (some (.own ds)) = .ok (.lst (ds.map frz1)) (e.put l (.frz (ds.map frz1))) := nr rfl
@[simp] theorem asValK_frz {e : Env} {l : Loc} : asValK e l (some (.frz ds)) = .ok (.lst ds) e := nr rfl
def consD (d : D) (ds : List D) (e : Env) : R (List D) := .ok (d :: ds) e
@[simp] theorem consD_eq {e : Env} : consD d ds e = .ok (d :: ds) e := nr rfl
def asVsK (rs : List Rv) (d : D) (e : Env) : R (List D) := (e.asVals rs).bind (consD d)
@[simp] theorem asVsK_eq {e : Env} {rs : List Rv} : asVsK rs d e = (e.asVals rs).bind (consD d) := nr rfl
def itsK (rs : List Rv) (d : D) (e : Env) : R (List D) := (e.items rs).bind (consD d)
@[simp] theorem itsK_eq {e : Env} {rs : List Rv} : itsK rs d e = (e.items rs).bind (consD d) := nr rfl
def slV (d : D) (e : Env) : R Sl := .ok (.val d) e
@[simp] theorem slV_eq {e : Env} : slV d e = .ok (.val d) e := nr rfl
def setSl (i : Nat) (s : Sl) (e : Env) : R Unit := if i < e.sl.length then .ok () ⟨e.sl.set i s, e.ps⟩ else .bad
@[simp] theorem setSl_eq {e : Env} {s : Sl} : setSl i s e = if i < e.sl.length then .ok () ⟨e.sl.set i s, e.ps⟩ else .bad := nr rfl
def bindTD (ts : List Tg) (d : D) (e : Env) : R Unit := match bindD (.tp ts) d e with
    | some e => .ok () e
    | none => .bad
def parJ (i : Nat) (s : Sl) (_ : Unit) (e : Env) : R Unit := if i < e.sl.length then .ok () ⟨e.sl.set i s, e.ps⟩ else .bad
@[simp] theorem parJ_eq {e : Env} {s : Sl} {u : Unit} : parJ i s u e = if i < e.sl.length then .ok () ⟨e.sl.set i s, e.ps⟩ else .bad := nr rfl
def parI (i : Nat) (is : List Nat) (rs : List Rv) (s : Sl) (e : Env) : R Unit := (bindPar is rs e).bind (parJ i s)
@[simp] theorem parI_eq {e : Env} {s : Sl} {is : List Nat} {rs : List Rv} : parI i is rs s e = (bindPar is rs e).bind (parJ i s) := nr rfl
@[simp] theorem asVals_nil {e : Env} : e.asVals [] = .ok [] e := nr rfl
@[simp] theorem asVals_cons {e : Env} {r : Rv} {rs : List Rv} : e.asVals (r :: rs) = (e.asVal r).bind (asVsK rs) := nr rfl
@[simp] theorem item_val {e : Env} : e.item (.val d) = .ok d e := nr rfl
@[simp] theorem item_fresh {e : Env} : e.item (.fresh ds) = .ok (if ds.all D.flat1 then .olst ds else .lst (ds.map frz1)) e := nr rfl
@[simp] theorem item_loc {e : Env} {l : Loc} : e.item (.loc l) = e.asVal (.loc l) := nr rfl
@[simp] theorem items_nil {e : Env} : e.items [] = .ok [] e := nr rfl
@[simp] theorem items_cons {e : Env} {r : Rv} {rs : List Rv} : e.items (r :: rs) = (e.item r).bind (itsK rs) := nr rfl
@[simp] theorem frz1_int {i : Int} : frz1 (.int i) = .int i := nr rfl
@[simp] theorem frz1_bl {b : Bool} : frz1 (.bl b) = .bl b := nr rfl
@[simp] theorem frz1_non : frz1 .non = .non := nr rfl
@[simp] theorem frz1_str {x : Str} : frz1 (.str x) = .str x := nr rfl
@[simp] theorem frz1_tup : frz1 (.tup ds) = .tup ds := nr rfl
@[simp] theorem frz1_lst : frz1 (.lst ds) = .lst ds := nr rfl
@[simp] theorem frz1_olst : frz1 (.olst ds) = .lst ds := nr rfl
@[simp] theorem frz1_dic {ks vs : List D} : frz1 (.dic ks vs) = .dic ks vs := nr rfl
@[simp] theorem flat1_int {i : Int} : D.flat1 (.int i) = true := nr rfl
@[simp] theorem flat1_bl {b : Bool} : D.flat1 (.bl b) = true := nr rfl
@[simp] theorem flat1_non : D.flat1 .non = true := nr rfl
@[simp] theorem flat1_str {x : Str} : D.flat1 (.str x) = true := nr rfl
@[simp] theorem flat1_tup : D.flat1 (.tup ds) = true := nr rfl
@[simp] theorem flat1_lst : D.flat1 (.lst ds) = true := nr rfl
@[simp] theorem flat1_dic {ks vs : List D} : D.flat1 (.dic ks vs) = true := nr rfl
@[simp] theorem flat1_olst : D.flat1 (.olst ds) = false := nr rfl
@[simp] theorem mk_nil {e : Env} : mkArgs e [] k = some ([], [], []) := nr rfl
def mkV (d : D) : Option (List Sl × List Pst × List (Nat × Loc)) → Option (List Sl × List Pst × List (Nat × Loc))
  | some (ss, ps, ls) => some (.val d :: ss, ps, ls)
  | none => none
def mkO (k : Nat) (ds : List D) : Option (List Sl × List Pst × List (Nat × Loc)) → Option (List Sl × List Pst × List (Nat × Loc))
  | some (ss, ps, ls) => some (.lnk k :: ss, .own ds :: ps, ls)
  | none => none
def mkL (k : Nat) (l : Loc) (p : Pst) : Option (List Sl × List Pst × List (Nat × Loc)) → Option (List Sl × List Pst × List (Nat × Loc))
  | some (ss, ps, ls) => some (.lnk k :: ss, p :: ps, (k, l) :: ls)
  | none => none
@[simp] theorem mkV_some {ss : List Sl} {ps : List Pst} {ls : List (Nat × Loc)} : mkV d (some (ss, ps, ls)) = some (.val d :: ss, ps, ls) := nr rfl
@[simp] theorem mkO_some {ss : List Sl} {ps : List Pst} {ls : List (Nat × Loc)} : mkO k ds (some (ss, ps, ls)) = some (.lnk k :: ss, .own ds :: ps, ls) := nr rfl
@[simp] theorem mkL_some {l : Loc} {p : Pst} {ss : List Sl} {ps : List Pst} {ls : List (Nat × Loc)} : mkL k l p (some (ss, ps, ls)) = some (.lnk k :: ss, p :: ps, (k, l) :: ls) := nr rfl
def mkLoc (e : Env) (k : Nat) (l : Loc) (rs : List Rv) : Option Pst → Option (List Sl × List Pst × List (Nat × Loc))
    | some (.frz ds) => mkV (.lst ds) (mkArgs e rs k)
    | some p => mkL k l p (mkArgs e rs (k + 1))
    | none => none
@[simp] theorem mk_val {e : Env} {rs : List Rv} : mkArgs e (.val d :: rs) k = mkV d (mkArgs e rs k) := by rw [mkArgs]; rfl
@[simp] theorem mk_fresh {e : Env} {rs : List Rv} : mkArgs e (.fresh ds :: rs) k = mkO k ds (mkArgs e rs (k + 1)) := by rw [mkArgs]; rfl
@[simp] theorem mk_loc {e : Env} {l : Loc} {rs : List Rv} : mkArgs e (.loc l :: rs) k = mkLoc e k l rs (e.at l) := by
  rw [mkArgs]
  unfold mkLoc
  cases e.at l with
  | none => rfl
  | some p => cases p <;> rfl
@[simp] theorem mkLoc_own {e : Env} {l : Loc} {rs : List Rv} : mkLoc e k l rs (some (.own ds)) = mkL k l (.own ds) (mkArgs e rs (k + 1)) := nr rfl
@[simp] theorem mkLoc_lea {e : Env} {l : Loc} {rs : List Rv} : mkLoc e k l rs (some (.lea ds)) = mkL k l (.lea ds) (mkArgs e rs (k + 1)) := nr rfl
@[simp] theorem mkLoc_frz {e : Env} {l : Loc} {rs : List Rv} : mkLoc e k l rs (some (.frz ds)) = mkV (.lst ds) (mkArgs e rs k) := nr rfl
@[simp] theorem lA_nil : locsApart [] = true := nr rfl
@[simp] theorem lA_one {q : Nat × Loc} : locsApart [q] = true := by obtain ⟨_, _⟩ := q; simp [locsApart]
theorem lA_two {q r : Nat × Loc} (h : r.2 ≠ q.2) : locsApart [q, r] = true := by obtain ⟨_, _⟩ := q; simp [locsApart, h]
def putK (e : Env) (ps : List Pst) (r : List (Nat × Loc)) (l : Loc) : Option Pst → Option Pst → Option Env
  | some p, some p0 => if backOk p0 p then putBack (e.put l p) ps r else none
  | _, _ => none
@[simp] theorem putBack_nil {e : Env} : putBack e ps [] = some e := nr rfl
@[simp] theorem putBack_cons {e : Env} {l : Loc} {r : List (Nat × Loc)} : putBack e ps ((k, l) :: r) = putK e ps r l ps[k]? (e.at l) := by
  rw [putBack]
  rfl
@[simp] theorem putK_oo {e : Env} {r : List (Nat × Loc)} {l : Loc} {ds ds' : List D} : putK e ps r l (some (.own ds)) (some (.own ds')) = putBack (e.put l (.own ds)) ps r := by simp [putK, backOk]
@[simp] theorem putK_fo {e : Env} {r : List (Nat × Loc)} {l : Loc} {ds ds' : List D} : putK e ps r l (some (.frz ds)) (some (.own ds')) = putBack (e.put l (.frz ds)) ps r := by simp [putK, backOk]
@[simp] theorem putK_ll {e : Env} {r : List (Nat × Loc)} {l : Loc} {ds ds' : List D} : putK e ps r l (some (.lea ds)) (some (.lea ds')) = putBack (e.put l (.lea ds)) ps r := by simp [putK, backOk]
@[simp] theorem ofRv_val {e : Env} : Sl.ofRv e (.val d) = .ok (.val d) e := nr rfl
@[simp] theorem ofRv_fresh {e : Env} : Sl.ofRv e (.fresh ds) = .ok (.own ds) e := nr rfl
@[simp] theorem ofRv_loc {e : Env} {l : Loc} : Sl.ofRv e (.loc l) = (e.asVal (.loc l)).bind slV := nr rfl
@[simp] theorem bindT_nm {e : Env} {r : Rv} : bindT (.nm i) r e = (Sl.ofRv e r).bind (setSl i) := nr rfl
def bindTK : Option Env → R Unit
    | some e => .ok () e
    | none => .bad
@[simp] theorem bindTK_some {e : Env} : bindTK (some e) = .ok () e := nr rfl
@[simp] theorem bindT_tp {e : Env} {r : Rv} {ts : List Tg} : bindT (.tp ts) r e = (e.asVal r).bind (bindTD ts) := nr rfl
@[simp] theorem bindTD_eq {e : Env} {ts : List Tg} : bindTD ts d e = bindTK (bindD (.tp ts) d e) := nr rfl
@[simp] theorem bindD_nm {e : Env} : bindD (.nm i) d e = if i < e.sl.length then some ⟨e.sl.set i (.val d), e.ps⟩ else none := by rw [bindD]
@[simp] theorem bindD_tp {e : Env} {ts : List Tg} : bindD (.tp ts) (.tup ds) e = bindDs ts ds e := by rw [bindD]
def bindDK (ts : List Tg) (ds : List D) : Option Env → Option Env
    | some e => bindDs ts ds e
    | none => none
@[simp] theorem bindDK_some {e : Env} {ts : List Tg} : bindDK ts ds (some e) = bindDs ts ds e := nr rfl
@[simp] theorem bindDs_nil {e : Env} : bindDs [] [] e = some e := by rw [bindDs]
@[simp] theorem bindDs_cons {e : Env} {t : Tg} {ts : List Tg} : bindDs (t :: ts) (d :: ds) e = bindDK ts ds (bindD t d e) := by rw [bindDs]; rfl
@[simp] theorem bindPar_nil {e : Env} : bindPar [] [] e = .ok () e := nr rfl
@[simp] theorem bindPar_cons {e : Env} {r : Rv} {rs : List Rv} {is : List Nat} : bindPar (i :: is) (r :: rs) e = (Sl.ofRv e r).bind (parI i is rs) := nr rfl
end
/-! ### operations -/
section
variable {e : Env} {i j : Int} {d : D} {ds : List D} {C : Ct}
def arithR (e : Env) : Option Int → R Rv
    | some k => .ok (.val (.int k)) e
    | none => .bad
@[simp] theorem arithR_some {k : Int} : arithR e (some k) = .ok (.val (.int k)) e := nr rfl
@[simp] theorem opBin_int {o : Bop} : opBin o (.val (.int i)) (.val (.int j)) e = arithR e (arith o i j) := nr rfl
@[simp] theorem ar_add : arith .add i j = some (i + j) := nr rfl
@[simp] theorem ar_sub : arith .sub i j = some (i - j) := nr rfl
theorem ar_mul (h : mulOk i j = true) : arith .mul i j = some (i * j) := by simp [arith, h]
theorem ar_fdiv (h : fdivOk i j = true) : arith .fdiv i j = some (i.fdiv j) := by simp [arith, h]
theorem ar_mod (h : j ≠ 0) : arith .mod i j = some (i.fmod j) := by simp [arith, h]
theorem ar_pow (h : powOk i j = true) : arith .pow i j = some (i ^ j.toNat) := by simp [arith, h]
theorem opBin_seq {o : Bop} {x y : Rv} (h : ∀ i j, ¬ (x = .val (.int i) ∧ y = .val (.int j))) : opBin o x y e = (e.peek x).bind fun x e => (e.peek y).bind fun y e => opSeq o x y e := by
  unfold opBin
  split
  · exact absurd ⟨rfl, rfl⟩ (h _ _)
  · rfl
def seqJ (o : Bop) (x y : D) (e : Env) : R Rv := opSeq o x y e
@[simp] theorem seqJ_eq {o : Bop} {x y : D} : seqJ o x y e = opSeq o x y e := nr rfl
def seqK (o : Bop) (y : Rv) (x : D) (e : Env) : R Rv := (e.peek y).bind (seqJ o x)
@[simp] theorem seqK_eq {o : Bop} {x : D} {y : Rv} : seqK o y x e = (e.peek y).bind (seqJ o x) := nr rfl
def cdJ (o : Cop) (y x : D) (e : Env) : R Bool := cmpD o x y e
@[simp] theorem cdJ_eq {o : Cop} {x y : D} : cdJ o y x e = cmpD o x y e := nr rfl
def bltJ (f : String) (d : D) (e : Env) : R Rv := blt1 f d e
@[simp] theorem bltJ_eq {f : String} : bltJ f d e = blt1 f d e := nr rfl
def bltI (f : String) (d d' : D) (e : Env) : R Rv := blt2 f d d' e
@[simp] theorem bltI_eq {f : String} {d' : D} : bltI f d d' e = blt2 f d d' e := nr rfl
def bltH (f : String) (y : Rv) (d : D) (e : Env) : R Rv := (e.asVal y).bind (bltI f d)
@[simp] theorem bltH_eq {f : String} {y : Rv} : bltH f y d e = (e.asVal y).bind (bltI f d) := nr rfl
def appA (l : Loc) (d : D) (e : Env) : R Rv := match e.at l with
    | some (.own ds) => if ds.length < LIM then .ok (.val .non) (e.put l (.own (ds ++ [d]))) else .bad
    | _ => .bad
def lendJ (d : D) (e : Env) : R (D × Option Loc) := .ok (d, none) e
@[simp] theorem lendJ_eq : lendJ d e = .ok (d, none) e := nr rfl
@[simp] theorem opBin_f {o : Bop} {y : Rv} : opBin o (.fresh ds) y e = (e.peek (.fresh ds)).bind (seqK o y) := opBin_seq fun _ _ h => by cases h.1
@[simp] theorem opBin_l {o : Bop} {y : Rv} {l : Loc} : opBin o (.loc l) y e = (e.peek (.loc l)).bind (seqK o y) := opBin_seq fun _ _ h => by cases h.1
@[simp] theorem opBin_vt {o : Bop} {y : Rv} : opBin o (.val (.tup ds)) y e = (e.peek y).bind (seqJ o (.tup ds)) := opBin_seq fun _ _ h => by cases h.1
@[simp] theorem opBin_vl {o : Bop} {y : Rv} : opBin o (.val (.lst ds)) y e = (e.peek y).bind (seqJ o (.lst ds)) := opBin_seq fun _ _ h => by cases h.1
@[simp] theorem opBin_vs {o : Bop} {y : Rv} {x : Str} : opBin o (.val (.str x)) y e = (e.peek y).bind (seqJ o (.str x)) := opBin_seq fun _ _ h => by cases h.1
@[simp] theorem sq_addl {xs ys : List D} : opSeq .add (.lst xs) (.lst ys) e = if xs.length + ys.length ≤ LIM then .ok (.fresh (xs ++ ys)) e else .bad := nr rfl
@[simp] theorem sq_addt {xs ys : List D} : opSeq .add (.tup xs) (.tup ys) e = if xs.length + ys.length ≤ LIM then .ok (.val (.tup (xs ++ ys))) e else .bad := nr rfl
@[simp] theorem sq_mull {xs : List D} {k : Int} : opSeq .mul (.lst xs) (.int k) e = if -(2 ^ 63) ≤ k ∧ k < 2 ^ 63 ∧ xs.length * k.toNat ≤ LIM then .ok (.fresh (List.replicate k.toNat xs).flatten) e else .bad := nr rfl
@[simp] theorem sq_mult {xs : List D} {k : Int} : opSeq .mul (.tup xs) (.int k) e = if -(2 ^ 63) ≤ k ∧ k ≤ 1000 ∧ xs.length ≤ 1000 then .ok (.val (.tup (List.replicate k.toNat xs).flatten)) e else .bad := nr rfl
def cmpR (e : Env) : Option Bool → R Bool
    | some b => .ok b e
    | none => .bad
@[simp] theorem cmpR_some {b : Bool} : cmpR e (some b) = .ok b e := nr rfl
@[simp] theorem opCmp_int {o : Cop} : opCmp o (.val (.int i)) (.val (.int j)) e = cmpR e (cmpI o i j) := nr rfl
@[simp] theorem ci_eq : cmpI .eq i j = some (decide (i = j)) := nr rfl
@[simp] theorem ci_ne : cmpI .ne i j = some (!decide (i = j)) := nr rfl
@[simp] theorem ci_lt : cmpI .lt i j = some (decide (i < j)) := nr rfl
@[simp] theorem ci_le : cmpI .le i j = some (decide (i ≤ j)) := nr rfl
@[simp] theorem ci_gt : cmpI .gt i j = some (decide (j < i)) := nr rfl
@[simp] theorem ci_ge : cmpI .ge i j = some (decide (j ≤ i)) := nr rfl
theorem opCmp_gen {o : Cop} {x y : Rv} (h : ∀ i j, ¬ (x = .val (.int i) ∧ y = .val (.int j))) : opCmp o x y e = (e.peek x).bind fun x e => (e.peek y).bind fun y e => cmpD o x y e := by
  unfold opCmp
  split
  · exact absurd ⟨rfl, rfl⟩ (h _ _)
  · rfl
@[simp] theorem opCmp_xf {o : Cop} {x : Rv} : opCmp o x (.fresh ds) e = (e.peek x).bind (cdJ o (.lst (ds.map frz1))) := opCmp_gen fun _ _ h => by cases h.2
@[simp] theorem opCmp_xt {o : Cop} {x : Rv} : opCmp o x (.val (.tup ds)) e = (e.peek x).bind (cdJ o (.tup ds)) := opCmp_gen fun _ _ h => by cases h.2
@[simp] theorem opCmp_xl {o : Cop} {x : Rv} : opCmp o x (.val (.lst ds)) e = (e.peek x).bind (cdJ o (.lst ds)) := opCmp_gen fun _ _ h => by cases h.2
@[simp] theorem opCmp_xs {o : Cop} {x : Rv} {z : Str} : opCmp o x (.val (.str z)) e = (e.peek x).bind (cdJ o (.str z)) := opCmp_gen fun _ _ h => by cases h.2
@[simp] theorem opCmp_xn {o : Cop} {x : Rv} : opCmp o x (.val .non) e = (e.peek x).bind (cdJ o .non) := opCmp_gen fun _ _ h => by cases h.2
@[simp] theorem opCmp_xb {o : Cop} {x : Rv} {b : Bool} : opCmp o x (.val (.bl b)) e = (e.peek x).bind (cdJ o (.bl b)) := opCmp_gen fun _ _ h => by cases h.2
@[simp] theorem cd_is : cmpD .is d .non e = .ok d.isNon e := by cases d <;> rfl
@[simp] theorem cd_isn : cmpD .isnot d .non e = .ok (!d.isNon) e := by cases d <;> rfl
@[simp] theorem cd_eq {d' : D} : cmpD .eq d d' e = if d.eqOk && d'.eqOk then .ok (d.eqv d') e else .bad := by
  unfold cmpD
  rfl
@[simp] theorem cd_ne {d' : D} : cmpD .ne d d' e = if d.eqOk && d'.eqOk then .ok (!d.eqv d') e else .bad := by
  unfold cmpD
  rfl
@[simp] theorem cd_int {ys : List D} : cmpD .isin d (.tup ys) e = if d.eqOk && (D.tup ys).eqOk then .ok (ys.any fun y => y.eqv d) e else .bad := by
  unfold cmpD
  rfl
@[simp] theorem cd_inl {ys : List D} : cmpD .isin d (.lst ys) e = if d.eqOk && (D.lst ys).eqOk then .ok (ys.any fun y => y.eqv d) e else .bad := by
  unfold cmpD
  rfl
@[simp] theorem cd_nint {ys : List D} : cmpD .notin d (.tup ys) e = if d.eqOk && (D.tup ys).eqOk then .ok (!ys.any fun y => y.eqv d) e else .bad := by
  unfold cmpD
  rfl
@[simp] theorem cd_ninl {ys : List D} : cmpD .notin d (.lst ys) e = if d.eqOk && (D.lst ys).eqOk then .ok (!ys.any fun y => y.eqv d) e else .bad := by
  unfold cmpD
  rfl
@[simp] theorem blV_ok {b : Bool} : R.blV (.ok b e) = .ok (.val (.bl b)) e := nr rfl
@[simp] theorem tru_bl {b : Bool} : opTru (.val (.bl b)) e = .ok b e := nr rfl
def truK (e : Env) : Option Bool → R Bool
    | some b => .ok b e
    | none => .bad
theorem opTru_val (h : ∀ b, d ≠ .bl b) : opTru (.val d) e = truK e (truth d) := by
  unfold opTru
  split
  · rename_i b q
    cases q
    exact absurd rfl (h b)
  · rfl
def idxK (e : Env) : Option D → R Rv
  | some d => .ok (.val d) e
  | none => .bad
@[simp] theorem idxK_some : idxK e (some d) = .ok (.val d) e := nr rfl
@[simp] theorem opIdx_t : opIdx (.val (.tup ds)) (.val (.int i)) e = idxK e (L2.atI ds i) := nr rfl
@[simp] theorem opIdx_l : opIdx (.val (.lst ds)) (.val (.int i)) e = idxK e (L2.atI ds i) := nr rfl
def idxF (e : Env) : Option D → R Rv
  | some d => .ok (.val (frz1 d)) e
  | none => .bad
@[simp] theorem idxF_some : idxF e (some d) = .ok (.val (frz1 d)) e := nr rfl
@[simp] theorem opIdx_f : opIdx (.fresh ds) (.val (.int i)) e = idxF e (L2.atI ds i) := nr rfl
def idxO (e : Env) (l : Loc) (ds : List D) (j : Nat) : Option D → R Rv
          | some (.olst xs) => .ok (.val (.lst xs)) (e.put l (.own (ds.set j (.lst xs))))
          | some d => .ok (.val d) e
          | none => .bad
theorem idxO_flat {l : Loc} {j : Nat} (h : d.flat1 = true) : idxO e l ds j (some d) = .ok (.val d) e := by cases d <;> first | rfl | cases h
@[simp] theorem idxO_int {l : Loc} {j : Nat} : idxO e l ds j (some (.int i)) = .ok (.val (.int i)) e := nr rfl
@[simp] theorem idxO_bl {l : Loc} {j : Nat} {b : Bool} : idxO e l ds j (some (.bl b)) = .ok (.val (.bl b)) e := nr rfl
@[simp] theorem idxO_tup {l : Loc} {j : Nat} {xs : List D} : idxO e l ds j (some (.tup xs)) = .ok (.val (.tup xs)) e := nr rfl
@[simp] theorem idxO_lst {l : Loc} {j : Nat} {xs : List D} : idxO e l ds j (some (.lst xs)) = .ok (.val (.lst xs)) e := nr rfl
@[simp] theorem idxO_non {l : Loc} {j : Nat} : idxO e l ds j (some .non) = .ok (.val .non) e := nr rfl
@[simp] theorem idxO_str {l : Loc} {j : Nat} {x : Str} : idxO e l ds j (some (.str x)) = .ok (.val (.str x)) e := nr rfl
@[simp] theorem idxO_dic {l : Loc} {j : Nat} {ks vs : List D} : idxO e l ds j (some (.dic ks vs)) = .ok (.val (.dic ks vs)) e := nr rfl
@[simp] theorem idxO_olst {l : Loc} {j : Nat} {xs : List D} : idxO e l ds j (some (.olst xs)) = .ok (.val (.lst xs)) (e.put l (.own (ds.set j (.lst xs)))) := nr rfl
def idxJ (e : Env) (l : Loc) (ds : List D) : Option Nat → R Rv
  | some j => idxO e l ds j ds[j]?
  | none => .bad
@[simp] theorem idxJ_some {l : Loc} {j : Nat} : idxJ e l ds (some j) = idxO e l ds j ds[j]? := nr rfl
def idxP (e : Env) (l : Loc) (i : Int) : Option Pst → R Rv
      | some (.own ds) => idxJ e l ds (L2.ixN ds.length i)
      | some (.lea ds) => idxK e (L2.atI ds i)
      | some (.frz ds) => idxK e (L2.atI ds i)
      | none => .bad
@[simp] theorem opIdx_loc {l : Loc} : opIdx (.loc l) (.val (.int i)) e = idxP e l i (e.at l) := by
  show _ = _
  unfold opIdx
  simp only
  unfold idxP
  generalize e.at l = p
  cases p with
  | none => rfl
  | some p =>
    cases p with
    | own ds =>
      simp only
      unfold idxJ
      cases L2.ixN ds.length i with
      | none => rfl
      | some j => rfl
    | lea ds => rfl
    | frz ds => rfl
@[simp] theorem idxP_own {l : Loc} : idxP e l i (some (.own ds)) = idxJ e l ds (L2.ixN ds.length i) := nr rfl
@[simp] theorem idxP_lea {l : Loc} : idxP e l i (some (.lea ds)) = idxK e (L2.atI ds i) := nr rfl
@[simp] theorem idxP_frz {l : Loc} : idxP e l i (some (.frz ds)) = idxK e (L2.atI ds i) := nr rfl
def setJ (e : Env) (l : Loc) (d : D) (ds : List D) : Option Nat → R Unit
      | some j => .ok () (e.put l (.own (ds.set j d)))
      | none => .bad
@[simp] theorem setJ_some {l : Loc} {j : Nat} : setJ e l d ds (some j) = .ok () (e.put l (.own (ds.set j d))) := nr rfl
def setP (e : Env) (l : Loc) (i : Int) (d : D) : Option Pst → R Unit
    | some (.own ds) => setJ e l d ds (L2.ixN ds.length i)
    | _ => .bad
@[simp] theorem setP_own {l : Loc} : setP e l i d (some (.own ds)) = setJ e l d ds (L2.ixN ds.length i) := nr rfl
@[simp] theorem setIx_eq {l : Loc} : setIx (.loc l) (.val (.int i)) d e = setP e l i d (e.at l) := by
  unfold setIx setP
  simp only
  cases e.at l with
  | none => rfl
  | some p =>
    cases p with
    | own ds =>
      simp only
      unfold setJ
      cases L2.ixN ds.length i <;> rfl
    | _ => rfl
@[simp] theorem blt_one {f : String} {x : Rv} : opBlt f [x] e = (e.peek x).bind (bltJ f) := nr rfl
@[simp] theorem blt_two {f : String} {x y : Rv} : opBlt f [x, y] e = (e.asVal x).bind (bltH f y) := nr rfl
@[simp] theorem b_lent : blt1 "len" (.tup ds) e = .ok (.val (.int ds.length)) e := by rw [blt1]
@[simp] theorem b_lenl : blt1 "len" (.lst ds) e = .ok (.val (.int ds.length)) e := by rw [blt1]
@[simp] theorem b_lenk : blt1 "len" (.klst ds) e = .ok (.val (.int ds.length)) e := by rw [blt1]
@[simp] theorem b_listk : blt1 "list" (.klst ds) e = .ok (.fresh ds) e := by rw [blt1]
@[simp] theorem b_abs : blt1 "abs" (.int i) e = .ok (.val (.int (if i < 0 then -i else i))) e := by rw [blt1]
@[simp] theorem b_int : blt1 "int" (.int i) e = .ok (.val (.int i)) e := by rw [blt1]
@[simp] theorem b_intb {b : Bool} : blt1 "int" (.bl b) e = .ok (.val (.int (if b then 1 else 0))) e := by rw [blt1]
@[simp] theorem b_tupt : blt1 "tuple" (.tup ds) e = .ok (.val (.tup ds)) e := by rw [blt1]
@[simp] theorem b_tupl : blt1 "tuple" (.lst ds) e = .ok (.val (.tup ds)) e := by rw [blt1]
@[simp] theorem b_listt : blt1 "list" (.tup ds) e = .ok (.fresh ds) e := by rw [blt1]
@[simp] theorem b_listl : blt1 "list" (.lst ds) e = .ok (.fresh ds) e := by rw [blt1]
def allK (e : Env) : Option (List Bool) → R Rv
  | some bs => .ok (.val (.bl (bs.all id))) e
  | none => .bad
@[simp] theorem allK_some {bs : List Bool} : allK e (some bs) = .ok (.val (.bl (bs.all id))) e := nr rfl
@[simp] theorem b_all : blt1 "all" (.lst ds) e = allK e (allBl ds) := by rw [blt1]; rfl
def anyK (e : Env) : Option (List Bool) → R Rv
  | some bs => .ok (.val (.bl (bs.any id))) e
  | none => .bad
@[simp] theorem anyK_some {bs : List Bool} : anyK e (some bs) = .ok (.val (.bl (bs.any id))) e := nr rfl
@[simp] theorem b_any : blt1 "any" (.lst ds) e = anyK e (allBl ds) := by rw [blt1]; rfl
@[simp] theorem b_min : blt2 "min" (.int i) (.int j) e = .ok (.val (.int (min i j))) e := by
  rw [blt2, show min i j = if j < i then j else i by split <;> omega]
@[simp] theorem b_max : blt2 "max" (.int i) (.int j) e = .ok (.val (.int (max i j))) e := by
  rw [blt2, show max i j = if j > i then j else i by split <;> omega]
def mmK (e : Env) (f : Int → List Int → Int) : Option (List Int) → R Rv
  | some (n :: ns) => .ok (.val (.int (f n ns))) e
  | _ => .bad
@[simp] theorem mmK_s {f : Int → List Int → Int} {n : Int} {ns : List Int} : mmK e f (some (n :: ns)) = .ok (.val (.int (f n ns))) e := nr rfl
@[simp] theorem b_maxl : blt1 "max" (.lst ds) e = mmK e maxL (allInt ds) := by
  rw [blt1]
  unfold mmK
  split <;> simp_all
@[simp] theorem b_minl : blt1 "min" (.lst ds) e = mmK e minL (allInt ds) := by
  rw [blt1]
  unfold mmK
  split <;> simp_all
theorem b_lcm {i j : Int} (h : lcmOk i j = true) : blt2 "lcm" (.int i) (.int j) e = .ok (.val (.int (Nat.lcm i.natAbs j.natAbs : Nat))) e := by rw [blt2, if_pos h]
@[simp] theorem b_gcd : blt2 "gcd" (.int i) (.int j) e = .ok (.val (.int (Int.gcd i j))) e := by rw [blt2]
theorem allBl_map {α : Type} {f : α → Bool} {xs : List α} : allBl (xs.map fun x => .bl (f x)) = some (xs.map f) := by
  induction xs with
  | nil => rfl
  | cons x xs ih => simp [allBl, ih]
@[simp] theorem isLst_s {e : Env} {l : Loc} : e.isLst (.loc l) = (e.at l).isSome := by
  unfold Env.isLst
  simp only
  cases e.at l <;> rfl
def appK (l : Loc) (d : D) (e : Env) : Option Pst → R Rv
    | some (.own ds) => if ds.length < LIM then .ok (.val .non) (e.put l (.own (ds ++ [d]))) else .bad
    | _ => .bad
@[simp] theorem opMeth_app {l : Loc} {r : Rv} : opMeth "append" (.loc l) [r] e = (e.item r).bind (appA l) := by
  show opApp l [r] e = _
  rfl
@[simp] theorem appA_eq {l : Loc} : appA l d e = appK l d e (e.at l) := by
  unfold appA appK
  cases e.at l with
  | none => rfl
  | some p => cases p <;> rfl
@[simp] theorem appK_own {l : Loc} : appK l d e (some (.own ds)) = if ds.length < LIM then .ok (.val .non) (e.put l (.own (ds ++ [d]))) else .bad := nr rfl
@[simp] theorem slc_t {lo hi : Option Int} : opSlc (.tup ds) lo hi e = .ok (.val (.tup (cutD ds lo hi))) e := nr rfl
@[simp] theorem slc_l {lo hi : Option Int} : opSlc (.lst ds) lo hi e = .ok (.fresh (cutD ds lo hi)) e := nr rfl
@[simp] theorem lend_t {r : Rv} : e.lend true r = (e.asVal r).bind lendJ := nr rfl
@[simp] theorem lend_f {r : Rv} : e.lend false r = e.lease r := nr rfl
def leaseK (e : Env) (l : Loc) : Option Pst → R (D × Option Loc)
    | some (.own ds) => .ok (.lst (ds.map frz1), some l) (e.put l (.lea (ds.map frz1)))
    | some (.lea ds) => .ok (.lst ds, none) e
    | some (.frz ds) => .ok (.lst ds, none) e
    | none => .bad
@[simp] theorem lease_val : e.lease (.val d) = .ok (d, none) e := nr rfl
@[simp] theorem lease_fresh : e.lease (.fresh ds) = .ok (.lst (ds.map frz1), none) e := nr rfl
@[simp] theorem lease_loc {l : Loc} : e.lease (.loc l) = leaseK e l (e.at l) := nr rfl
@[simp] theorem leaseK_own {l : Loc} : leaseK e l (some (.own ds)) = .ok (.lst (ds.map frz1), some l) (e.put l (.lea (ds.map frz1))) := nr rfl
@[simp] theorem leaseK_lea {l : Loc} : leaseK e l (some (.lea ds)) = .ok (.lst ds, none) e := nr rfl
@[simp] theorem leaseK_frz {l : Loc} : leaseK e l (some (.frz ds)) = .ok (.lst ds, none) e := nr rfl
@[simp] theorem items_t : itemsOf (.tup ds) = some ds := nr rfl
@[simp] theorem items_l : itemsOf (.lst ds) = some ds := nr rfl
@[simp] theorem unl_nil : e.unlease [] = e := nr rfl
@[simp] theorem unl_none {ls : List (Option Loc)} : e.unlease (none :: ls) = e.unlease ls := nr rfl
def unlK (e : Env) (l : Loc) (ls : List (Option Loc)) : Option Pst → Env
    | some (.lea ds) => (e.put l (.own ds)).unlease ls
    | _ => e.unlease ls
@[simp] theorem unl_some {l : Loc} {ls : List (Option Loc)} : e.unlease (some l :: ls) = unlK e l ls (e.at l) := by
  rw [Env.unlease]
  unfold unlK
  cases e.at l with
  | none => rfl
  | some p => cases p <;> rfl
@[simp] theorem unlK_lea {l : Loc} {ls : List (Option Loc)} : unlK e l ls (some (.lea ds)) = (e.put l (.own ds)).unlease ls := nr rfl
@[simp] theorem fin_ret {e : Env} : finish (.ret (.val d) e) = .ok (.val d) e.ps := nr rfl
@[simp] theorem fin_fresh {e : Env} : finish (.ret (.fresh ds) e) = .ok (.fresh ds) e.ps := nr rfl
@[simp] theorem fin_nx {e : Env} : finish (.nx e) = .ok (.val .non) e.ps := nr rfl
@[simp] theorem fin_ex {e : Env} {c : String} : finish (.ex c d e) = .ex c d e.ps := nr rfl
def finS (ps : List Pst) : Option Pst → CR
    | some (.own ds) => .ok (.fresh ds) ps
    | some (.frz ds) => .ok (.val (.lst ds)) ps
    | _ => .bad
@[simp] theorem fin_s {e : Env} {k : Nat} : finish (.ret (.loc (.s k)) e) = finS e.ps (e.at (.s k)) := by
  unfold finish finS
  simp only
  first
  | done
  | (cases e.at (.s k) with
    | none => rfl
    | some p => cases p <;> rfl)
@[simp] theorem finS_own {ps : List Pst} : finS ps (some (.own ds)) = .ok (.fresh ds) ps := nr rfl
@[simp] theorem finS_frz {ps : List Pst} : finS ps (some (.frz ds)) = .ok (.val (.lst ds)) ps := nr rfl
end
end Fp.Z
/-! FpLaw2: loops by invariants, comprehensions, small numbers. -/
namespace Fp.Z
open PySem Fp
/-- a loop by an invariant over the items that are left; it may be left by break, return, error -/
theorem forL_sat {b : D → Env → SR} {I : List D → Env → Prop} {Q : SR → Prop} (hb : ∀ d ds e, I (d :: ds) e → (∃ e', (b d e = .nx e' ∨ b d e = .ct e') ∧ I ds e') ∨ (∃ e', b d e = .bk e' ∧ Q (.nx e')) ∨ (∃ r, b d e = r ∧ (∀ f, r.turn f = r) ∧ Q r)) (hn : ∀ e, I [] e → Q (.nx e)) :
    ∀ (ds : List D) (e : Env), I ds e → Q (forL b ds e)
  | [], e, h => hn e h
  | d :: ds, e, h => by
    show Q ((b d e).turn (forL b ds))
    rcases hb d ds e h with ⟨e', h1 | h1, h2⟩ | ⟨e', h1, h2⟩ | ⟨r, h1, h2, h3⟩
    · rw [h1]
      exact forL_sat hb hn ds e' h2
    · rw [h1]
      exact forL_sat hb hn ds e' h2
    · rw [h1]
      exact h2
    · rw [h1, h2]
      exact h3
/-- a loop that goes through -/
theorem forL_nx {b : D → Env → SR} {I : List D → Env → Prop} (hb : ∀ d ds e, I (d :: ds) e → ∃ e', (b d e = .nx e' ∨ b d e = .ct e') ∧ I ds e') {ds : List D} {e : Env} (h : I ds e) : ∃ e', forL b ds e = .nx e' ∧ I [] e' :=
  forL_sat (Q := fun r => ∃ e', r = .nx e' ∧ I [] e') (fun d ds e h => .inl (hb d ds e h)) (fun e h => ⟨e, rfl, h⟩) ds e h
/-- a loop whose turns are told: the state behind each is a function of the state ahead -/
theorem forL_fold {σ : Type} {b : D → Env → SR} {st : σ → Env} {f : σ → D → σ} (P : σ → List D → Prop) (hb : ∀ s d ds, P s (d :: ds) → (b d (st s) = .nx (st (f s d)) ∨ b d (st s) = .ct (st (f s d))) ∧ P (f s d) ds) :
    ∀ (ds : List D) (s : σ), P s ds → forL b ds (st s) = .nx (st (ds.foldl f s)) ∧ P (ds.foldl f s) []
  | [], s, h => ⟨rfl, h⟩
  | d :: ds, s, h => by
    obtain ⟨h1, h2⟩ := hb s d ds h
    have ih := forL_fold P hb ds (f s d) h2
    refine ⟨?_, ih.2⟩
    show (b d (st s)).turn (forL b ds) = _
    rcases h1 with h1 | h1 <;> rw [h1] <;> exact ih.1
/-- a comprehension whose turns change nothing -/
theorem compL_map {f : D → Env → R (Option D)} {g : D → D} {e : Env} : ∀ {ds : List D}, (∀ d ∈ ds, f d e = .ok (some (g d)) e) → compL f ds e = .ok (ds.map g) e
  | [], _ => rfl
  | d :: ds, h => by
    rw [compL, h d (List.mem_cons_self ..)]
    simp only [R.bind_ok]
    rw [compL_map fun d hd => h d (List.mem_cons_of_mem _ hd)]
    rfl
theorem compL_filter {f : D → Env → R (Option D)} {g : D → Option D} {e : Env} : ∀ {ds : List D}, (∀ d ∈ ds, f d e = .ok (g d) e) → compL f ds e = .ok (ds.filterMap g) e
  | [], _ => rfl
  | d :: ds, h => by
    rw [compL, h d (List.mem_cons_self ..)]
    simp only [R.bind_ok]
    rw [compL_filter fun d hd => h d (List.mem_cons_of_mem _ hd)]
    cases q : g d <;> simp [q]
/-- a comprehension with a state -/
theorem compL_st {f : D → Env → R (Option D)} {I : List D → Env → Prop} {P : D → Prop} (hf : ∀ d ds e, I (d :: ds) e → ∃ y e', f d e = .ok (some y) e' ∧ P y ∧ I ds e') : ∀ {ds : List D} {e : Env}, I ds e → ∃ ys e', compL f ds e = .ok ys e' ∧ (∀ y ∈ ys, P y) ∧ ys.length = ds.length ∧ I [] e'
  | [], e, h => ⟨[], e, rfl, fun _ h => (nomatch h), rfl, h⟩
  | d :: ds, e, h => by
    obtain ⟨y, e1, h1, h2, h3⟩ := hf d ds e h
    obtain ⟨ys, e2, g1, g2, g3, g4⟩ := compL_st hf h3
    refine ⟨y :: ys, e2, ?_, ?_, by simp [g3], g4⟩
    · rw [compL, h1]
      simp only [R.bind_ok]
      rw [g1]
      rfl
    · intro z hz
      rcases List.mem_cons.mp hz with rfl | hz
      · exact h2
      · exact g2 z hz
/-! ### small numbers -/
theorem bits_lt {i : Int} {n : Nat} (h : i.natAbs < 2 ^ n) : Builtin.Int.intBits i ≤ n := by
  unfold Builtin.Int.intBits
  by_cases h0 : i = 0
  · subst h0
    exact Nat.zero_le _
  · have : (i == 0) = false := by simpa using h0
    rw [this]
    simp only [Bool.false_eq_true, if_false]
    have := Nat.log2_lt (n := i.natAbs) (k := n) (by omega) |>.mpr h
    omega
theorem mulOk_bits {i j : Int} {n m : Nat} (hi : i.natAbs < 2 ^ n) (hj : j.natAbs < 2 ^ m) (h : n + m ≤ 134217728) : mulOk i j = true := by
  have a := bits_lt hi
  have b := bits_lt hj
  unfold mulOk Builtin.Int.intTooBig
  have e : bitsLine = 134217728 := by decide
  have : decide (((Builtin.Int.intBits i : Int) + (Builtin.Int.intBits j : Int)) > (bitsLine : Int)) = false := by
    rw [decide_eq_false_iff_not, e]
    omega
  rw [this]
  simp
theorem mulOk_l {i j : Int} (hi : i.natAbs < 2 ^ 64) : mulOk i j = true := by
  have a := bits_lt hi
  unfold mulOk
  have : decide (Builtin.Int.intBits i > shortFactorBits) = false := by
    rw [decide_eq_false_iff_not]
    show ¬ (_ > 64)
    omega
  rw [this]
  simp
theorem mulOk_r {i j : Int} (hj : j.natAbs < 2 ^ 64) : mulOk i j = true := by
  have a := bits_lt hj
  unfold mulOk
  have : decide (Builtin.Int.intBits j > shortFactorBits) = false := by
    rw [decide_eq_false_iff_not]
    show ¬ (_ > 64)
    omega
  rw [this]
  simp
theorem fdivOk_small {i j : Int} (h0 : j ≠ 0) (hj : j.natAbs < 2 ^ 9000) : fdivOk i j = true := by
  unfold fdivOk Builtin.divisionGoesByPylong
  have h1 : (j == 0) = false := by simpa using h0
  have h2 := Nat.log2_lt (n := j.natAbs) (k := 9000) (by omega) |>.mpr hj
  have h3 : ¬ (j.natAbs.log2 / 30 + 1 > 300) := by omega
  simp [h0, h3]
theorem natAbs_lt_of {i : Int} {n : Nat} (h : -(2 ^ n : Int) < i) (h' : i < (2 ^ n : Int)) : i.natAbs < 2 ^ n := by
  have : ((i.natAbs : Nat) : Int) < ((2 ^ n : Nat) : Int) := by
    rw [Int.natCast_pow]
    show ((i.natAbs : Nat) : Int) < (2 : Int) ^ n
    omega
  exact_mod_cast this
theorem fmod_lt {i j : Int} (h : 0 < j) : 0 ≤ i.fmod j ∧ i.fmod j < j := ⟨Int.fmod_nonneg_of_pos i h, Int.fmod_lt_of_pos i h⟩
theorem atI_pos {ds : List D} {i : Int} (h0 : 0 ≤ i) (h1 : i < ds.length) : ∃ d, L2.atI ds i = some d ∧ d ∈ ds := by
  have h : i.toNat < ds.length := by omega
  refine ⟨ds[i.toNat], ?_, List.getElem_mem h⟩
  unfold L2.atI L2.ixN
  rw [if_pos h0, if_pos h1]
  exact List.getElem?_eq_getElem h
theorem ixN_pos {n : Nat} {i : Int} (h0 : 0 ≤ i) (h1 : i < n) : L2.ixN n i = some i.toNat := by
  unfold L2.ixN
  rw [if_pos h0, if_pos h1]
theorem small62_of {j : Int} (h : 0 ≤ j) (h' : j < 2 ^ 62) : small62 j = true := by
  unfold small62
  exact decide_eq_true ⟨by omega, h'⟩
/-! ### the pot -/
def iD (ns : List Int) : List D := ns.map D.int
@[simp] theorem iD_frz {ns : List Int} : (iD ns).map frz1 = iD ns := by
  unfold iD
  rw [List.map_map]
  rfl
@[simp] theorem iD_len {ns : List Int} : (iD ns).length = ns.length := by simp [iD]
theorem iD_get {ns : List Int} {k : Nat} : (iD ns)[k]? = ns[k]?.map D.int := by simp [iD]
theorem iD_set {ns : List Int} {k : Nat} {i : Int} : (iD ns).set k (.int i) = iD (ns.set k i) := by simp [iD, List.map_set]
/-! ### arithmetic by the plain signs -/
@[simp] theorem ar_mulL {i j : Int} (h : -18446744073709551616 < i ∧ i < 18446744073709551616) : arith .mul i j = some (i * j) := ar_mul (mulOk_l (natAbs_lt_of (n := 64) (by omega) (by omega)))
@[simp] theorem ar_mulR {i j : Int} (h : -18446744073709551616 < j ∧ j < 18446744073709551616) : arith .mul i j = some (i * j) := ar_mul (mulOk_r (natAbs_lt_of (n := 64) (by omega) (by omega)))
@[simp] theorem ar_modP {i j : Int} (h : 0 < j) : arith .mod i j = some (i % j) := by rw [ar_mod (by omega), Int.fmod_eq_emod_of_nonneg i (by omega)]
def DL : Nat := 2 ^ 9000
theorem ar_fdivP {i j : Int} (h : 0 < j) (h' : j.natAbs < 2 ^ 9000) : arith .fdiv i j = some (i / j) := by rw [ar_fdiv (fdivOk_small (by omega) h'), Int.fdiv_eq_ediv_of_nonneg i (by omega)]
@[simp] theorem ar_fdivS {i j : Int} (h : 0 < j ∧ j < 18446744073709551616) : arith .fdiv i j = some (i / j) := ar_fdivP h.1 (Nat.lt_of_lt_of_le (natAbs_lt_of (n := 64) (by omega) (by omega)) (Nat.pow_le_pow_right (by decide) (by decide)))
@[simp] theorem ixN_P {n : Nat} {i : Int} (h : 0 ≤ i ∧ i < n) : L2.ixN n i = some i.toNat := ixN_pos h.1 h.2
@[simp] theorem LIM_eq : LIM = 16777216 := nr rfl
@[simp] theorem small62_ok {j : Int} (h : -4611686018427387904 ≤ j ∧ j < 4611686018427387904) : small62 j = true := by
  unfold small62
  exact decide_eq_true ⟨by omega, by omega⟩
@[simp] theorem ifT {α : Type} {p : Prop} [Decidable p] {a b : α} (h : p) : (if p then a else b) = a := if_pos h
@[simp] theorem ifF {α : Type} {p : Prop} [Decidable p] {a b : α} (h : ¬ p) : (if p then a else b) = b := if_neg h
@[simp] theorem iD_cons {i : Int} {ns : List Int} : iD (i :: ns) = .int i :: iD ns := nr rfl
@[simp] theorem iD_nil : iD [] = [] := nr rfl
@[simp] theorem dec_t {p : Prop} [Decidable p] (h : p) : decide p = true := decide_eq_true h
@[simp] theorem dec_f {p : Prop} [Decidable p] (h : ¬ p) : decide p = false := decide_eq_false h
@[simp] theorem gz {α : Type} {a : α} {l : List α} : (a :: l)[0]? = some a := nr rfl
@[simp] theorem gs {α : Type} {a : α} {l : List α} {i : Nat} : (a :: l)[i + 1]? = l[i]? := nr rfl
theorem gives_of {c : CR} {Q : Rv → List Pst → Prop} (h : ∀ P : Rv → List Pst → Prop, (∀ r ps, Q r ps → P r ps) → c.gives P) : c.gives Q := h Q fun _ _ h => h
/-! ### kinds -/
section
variable {C : Ct} {d : D} {ds ks vs : List D} {i : Int} {b : Bool} {x : Str} {cs : List String} {c : String}
@[simp] theorem k_non_int : isOne C .non "int" = some false := by rw [isOne] <;> simp
@[simp] theorem k_non_bool : isOne C .non "bool" = some false := by rw [isOne] <;> simp
@[simp] theorem k_non_str : isOne C .non "str" = some false := by rw [isOne] <;> simp
@[simp] theorem k_non_tuple : isOne C .non "tuple" = some false := by rw [isOne] <;> simp
@[simp] theorem k_non_list : isOne C .non "list" = some false := by rw [isOne] <;> simp
@[simp] theorem k_bl_int : isOne C (.bl b) "int" = some true := by rw [isOne] <;> simp
@[simp] theorem k_bl_bool : isOne C (.bl b) "bool" = some true := by rw [isOne] <;> simp
@[simp] theorem k_bl_str : isOne C (.bl b) "str" = some false := by rw [isOne] <;> simp
@[simp] theorem k_bl_tuple : isOne C (.bl b) "tuple" = some false := by rw [isOne] <;> simp
@[simp] theorem k_bl_list : isOne C (.bl b) "list" = some false := by rw [isOne] <;> simp
@[simp] theorem k_int_int : isOne C (.int i) "int" = some true := by rw [isOne] <;> simp
@[simp] theorem k_int_bool : isOne C (.int i) "bool" = some false := by rw [isOne] <;> simp
@[simp] theorem k_int_str : isOne C (.int i) "str" = some false := by rw [isOne] <;> simp
@[simp] theorem k_int_tuple : isOne C (.int i) "tuple" = some false := by rw [isOne] <;> simp
@[simp] theorem k_int_list : isOne C (.int i) "list" = some false := by rw [isOne] <;> simp
@[simp] theorem k_str_int : isOne C (.str x) "int" = some false := by rw [isOne] <;> simp
@[simp] theorem k_str_bool : isOne C (.str x) "bool" = some false := by rw [isOne] <;> simp
@[simp] theorem k_str_str : isOne C (.str x) "str" = some true := by rw [isOne] <;> simp
@[simp] theorem k_str_tuple : isOne C (.str x) "tuple" = some false := by rw [isOne] <;> simp
@[simp] theorem k_str_list : isOne C (.str x) "list" = some false := by rw [isOne] <;> simp
@[simp] theorem k_tup_int : isOne C (.tup ds) "int" = some false := by rw [isOne] <;> simp
@[simp] theorem k_tup_bool : isOne C (.tup ds) "bool" = some false := by rw [isOne] <;> simp
@[simp] theorem k_tup_str : isOne C (.tup ds) "str" = some false := by rw [isOne] <;> simp
@[simp] theorem k_tup_tuple : isOne C (.tup ds) "tuple" = some true := by rw [isOne] <;> simp
@[simp] theorem k_tup_list : isOne C (.tup ds) "list" = some false := by rw [isOne] <;> simp
@[simp] theorem k_lst_int : isOne C (.lst ds) "int" = some false := by rw [isOne] <;> simp
@[simp] theorem k_lst_bool : isOne C (.lst ds) "bool" = some false := by rw [isOne] <;> simp
@[simp] theorem k_lst_str : isOne C (.lst ds) "str" = some false := by rw [isOne] <;> simp
@[simp] theorem k_lst_tuple : isOne C (.lst ds) "tuple" = some false := by rw [isOne] <;> simp
@[simp] theorem k_lst_list : isOne C (.lst ds) "list" = some true := by rw [isOne] <;> simp
@[simp] theorem k_dic_int : isOne C (.dic ks vs) "int" = some false := by rw [isOne] <;> simp
@[simp] theorem k_dic_bool : isOne C (.dic ks vs) "bool" = some false := by rw [isOne] <;> simp
@[simp] theorem k_dic_str : isOne C (.dic ks vs) "str" = some false := by rw [isOne] <;> simp
@[simp] theorem k_dic_tuple : isOne C (.dic ks vs) "tuple" = some false := by rw [isOne] <;> simp
@[simp] theorem k_dic_list : isOne C (.dic ks vs) "list" = some false := by rw [isOne] <;> simp
def isAnyK (C : Ct) (d : D) (cs : List String) : Option Bool → Option Bool
    | some true => some true
    | some false => isAny C d cs
    | none => none
@[simp] theorem isAny_nil : isAny C d [] = some false := nr rfl
@[simp] theorem isAny_cons : isAny C d (c :: cs) = isAnyK C d cs (isOne C d c) := by
  rw [isAny]
  unfold isAnyK
  cases isOne C d c with
  | none => rfl
  | some b => cases b <;> rfl
@[simp] theorem isAnyK_t : isAnyK C d cs (some true) = some true := nr rfl
@[simp] theorem isAnyK_f : isAnyK C d cs (some false) = isAny C d cs := nr rfl
def isiO (e : Env) : Option Bool → R Rv
    | some b => .ok (.val (.bl b)) e
    | none => .bad
@[simp] theorem isiO_some {e : Env} : isiO e (some b) = .ok (.val (.bl b)) e := nr rfl
@[simp] theorem isiR_eq {e : Env} : isiR C cs d e = isiO e (isAny C d cs) := by
  unfold isiR isiO
  cases isAny C d cs <;> rfl
end
/-! ### comprehensions -/
section
variable {C : Ct} {x : Ex} {t : Tg} {k : Option Ex} {own : List Nat} {p : List D × List (Option Loc)} {e e' : Env} {sl new : List Sl} {i : Nat} {is : List Nat} {ls : List (Option Loc)} {ys : List D} {d : D}
@[simp] theorem compGo_eq : compGo C x t k own p e = if clearS e.sl own then (compL (compB C x t k own) p.1 ⟨wipeS e.sl own, e.ps⟩).bind (compK e.sl own p.2) else .bad := nr rfl
@[simp] theorem compK_eq : compK sl own ls ys e' = if ys.length ≤ LIM then .ok (.fresh ys) (Env.unlease ⟨backS sl e'.sl own, e'.ps⟩ ls) else .bad := nr rfl
def clr : Option Sl → Bool
  | some (.own _) => false
  | some (.lea _) => false
  | some _ => true
  | none => false
@[simp] theorem clr_no : clr (some .no) = true := nr rfl
@[simp] theorem clr_val : clr (some (.val d)) = true := nr rfl
@[simp] theorem clr_lnk : clr (some (.lnk i)) = true := nr rfl
@[simp] theorem clearS_nil : clearS sl [] = true := nr rfl
@[simp] theorem clearS_cons : clearS sl (i :: is) = (clr sl[i]? && clearS sl is) := by
  rw [clearS]
  congr 1
@[simp] theorem wipeS_nil : wipeS sl [] = sl := nr rfl
@[simp] theorem wipeS_cons : wipeS sl (i :: is) = (wipeS sl is).set i .no := nr rfl
@[simp] theorem backS_nil : backS sl new [] = new := nr rfl
@[simp] theorem backS_cons : backS sl new (i :: is) = (backS sl new is).set i (sl.getD i .no) := nr rfl
@[simp] theorem getD_z {α : Type} {a b : α} {l : List α} : (a :: l).getD 0 b = a := nr rfl
@[simp] theorem getD_s {α : Type} {a b : α} {l : List α} : (a :: l).getD (i + 1) b = l.getD i b := nr rfl
def compC (own : List Nat) (y : D) (e : Env) : R (Option D) := .ok (some y) ⟨wipeS e.sl own, e.ps⟩
@[simp] theorem compC_eq {y : D} : compC own y e = .ok (some y) ⟨wipeS e.sl own, e.ps⟩ := nr rfl
def compI (own : List Nat) (r : Rv) (e : Env) : R (Option D) := (e.item r).bind (compC own)
@[simp] theorem compI_eq {r : Rv} : compI own r e = (e.item r).bind (compC own) := nr rfl
def compH (C : Ct) (x : Ex) (own : List Nat) (b : Bool) (e : Env) : R (Option D) := if b then (evalE C x e).bind (compI own) else .ok none ⟨wipeS e.sl own, e.ps⟩
@[simp] theorem compH_t : compH C x own true e = (evalE C x e).bind (compI own) := nr rfl
@[simp] theorem compH_f : compH C x own false e = .ok none ⟨wipeS e.sl own, e.ps⟩ := nr rfl
def compJ (C : Ct) (x : Ex) (k : Option Ex) (own : List Nat) : Option Env → R (Option D)
  | some e => ((condR C k e).bind (compH C x own)).noex
  | none => .bad
@[simp] theorem compJ_some : compJ C x k own (some e) = ((condR C k e).bind (compH C x own)).noex := nr rfl
@[simp] theorem compB_eq : compB C x t k own d e = compJ C x k own (bindD t d e) := by
  unfold compB compF compJ
  cases bindD t d e <;> rfl
@[simp] theorem noex_ok {α : Type} {a : α} : (R.ok a e).noex = .ok a e := nr rfl
noncomputable def forBK (C : Ct) (b : List Sm) : Option Env → SR
  | some e => execSs C b e
  | none => .bad
@[simp] theorem forBK_some {b : List Sm} : forBK C b (some e) = execSs C b e := nr rfl
@[simp] theorem forB_e {b : List Sm} : forB C t b d e = forBK C b (bindD t d e) := by
  unfold forB forBK
  cases bindD t d e <;> rfl
end
end Fp.Z
/-! FpTake: the law's drawing of numbers. -/
namespace Fp.Z
open PySem Fp
def b_law_take : List Sm := [.ite (.and (.cmp .eq (.idx (.var 0) (.cst (.int 0))) (.cst (.int 0))) (.cmp .lt (.idx (.var 0) (.cst (.int 2))) (.blt "len" [.var 0]))) [.asg (.nm 2) (.idx (.var 0) (.idx (.var 0) (.cst (.int 2)))), .augI (.var 0) (.cst (.int 2)) (.cst (.int 1)), .ite (.cmp .ge (.var 2) (.bin .pow (.cst (.int 10)) (.cst (.int 18)))) [.setI (.var 0) (.cst (.int 0)) (.bin .sub (.var 2) (.bin .pow (.cst (.int 10)) (.cst (.int 18))))] [.asg (.nm 3) (.bin .mod (.blt "int" [.var 2]) (.cst (.int 2147483647))), .asg (.nm 3) (.bin .mod (.blt "int" [.bin .add (.bin .add (.bin .mul (.var 3) (.var 3)) (.bin .mul (.cst (.int 69621)) (.var 3))) (.bin .mul (.cst (.int 977)) (.idx (.var 0) (.cst (.int 2))))]) (.cst (.int 2147483629))), .setI (.var 0) (.cst (.int 1)) (.bin .mod (.blt "int" [.bin .add (.idx (.var 0) (.cst (.int 1))) (.var 3)]) (.cst (.int 2147483629)))]] [], .ite (.cmp .gt (.idx (.var 0) (.cst (.int 0))) (.cst (.int 0))) [.asg (.nm 4) (.bin .mod (.blt "int" [.idx (.var 0) (.cst (.int 0))]) (.var 1)), .setI (.var 0) (.cst (.int 0)) (.bin .fdiv (.idx (.var 0) (.cst (.int 0))) (.var 1)), .ret (.var 4)] [], .setI (.var 0) (.cst (.int 1)) (.bin .mod (.blt "int" [.bin .add (.bin .add (.bin .mul (.idx (.var 0) (.cst (.int 1))) (.cst (.int 48271))) (.bin .mul (.cst (.int 40692)) (.idx (.var 0) (.cst (.int 2))))) (.cst (.int 11))]) (.cst (.int 2147483647))), .setI (.var 0) (.cst (.int 1)) (.bin .mod (.blt "int" [.bin .add (.bin .mul (.idx (.var 0) (.cst (.int 1))) (.idx (.var 0) (.cst (.int 1)))) (.cst (.int 7))]) (.cst (.int 2147483629))), .ret (.bin .mod (.blt "int" [.bin .fdiv (.idx (.var 0) (.cst (.int 1))) (.cst (.int 8))]) (.var 1))]
def F_law_take : Fn := ⟨["pot", "many"], 5, b_law_take⟩
structure Pot (l : List D) : Prop where
  ex : ∃ (a b : Int) (c : Nat) (ns : List Int), l = .int a :: .int b :: .int (c : Int) :: iD ns ∧ 0 ≤ a ∧ 0 ≤ b ∧ b < 2147483647 ∧ 3 ≤ c ∧ c ≤ ns.length + 3 ∧ ns.length ≤ 63
theorem Pot.frz {l : List D} (h : Pot l) : l.map frz1 = l := by
  obtain ⟨a, b, c, ns, rfl, _⟩ := h.ex
  simp
theorem pow18 : (10 : Int) ^ (18 : Int).toNat = 1000000000000000000 := by decide
theorem take_spec {T : Tb} {n : Nat} (hT : T.fns "_law_take" = some F_law_take) {l : List D} (hp : Pot l) {many : Int} (h0 : 0 < many) (h1 : many < 2 ^ 200) :
    (callN T (n + 1) "_law_take" [.lnk 0, .val (.int many)] [.own l]).gives fun r ps => ∃ (i : Int) (l' : List D), r = .val (.int i) ∧ ps = [.own l'] ∧ 0 ≤ i ∧ i < many ∧ Pot l' := by
  apply gives_of
  intro P hP
  obtain ⟨a, b, c, ns, rfl, ha, hb, hb', hc, hc', hn⟩ := hp.ex
  rw [callN_eq hT ⟨rfl, by decide⟩]
  have hpw : arith .pow 10 18 = some 1000000000000000000 := by decide +kernel
  have hdv : ∀ i, arith .fdiv i many = some (i / many) := fun i => ar_fdivP h0 (Nat.lt_of_lt_of_le (natAbs_lt_of (n := 200) (by omega) h1) (Nat.pow_le_pow_right (by decide) (by decide)))
  have m0 : ∀ i : Int, 0 ≤ i % many := fun i => Int.emod_nonneg i (by omega)
  have m1 : ∀ i : Int, i % many < many := fun i => Int.emod_lt_of_pos i h0
  by_cases h : a = 0
  · subst h
    by_cases hl : c < ns.length + 3
    · have hx : ∃ x : Int, (D.int 0 :: D.int b :: D.int ↑c :: iD ns)[c]? = some (.int x) := by
        obtain ⟨k, rfl⟩ : ∃ k, c = k + 3 := ⟨c - 3, by omega⟩
        refine ⟨ns[k]'(by omega), ?_⟩
        simp [iD_get]
      obtain ⟨x, hx⟩ := hx
      by_cases hg : 1000000000000000000 ≤ x
      · by_cases hz : x = 1000000000000000000
        · subst hz
          simp (disch := omega) [F_law_take, b_law_take, hpw, dec_t, dec_f, hx]
          refine gives_ok (hP _ _ ⟨_, _, rfl, rfl, m0 _, m1 _, ⟨0, _, c + 1, ns, rfl, by omega, by omega, by omega, by omega, by omega, hn⟩⟩)
        · simp (disch := omega) [F_law_take, b_law_take, hpw, dec_t, dec_f, hx, hdv]
          refine gives_ok (hP _ _ ⟨_, _, rfl, rfl, m0 _, m1 _, ⟨_, b, c + 1, ns, rfl, Int.ediv_nonneg (by omega) (by omega), by omega, by omega, by omega, by omega, hn⟩⟩)
      · simp (disch := omega) [F_law_take, b_law_take, hpw, dec_t, dec_f, hx]
        refine gives_ok (hP _ _ ⟨_, _, rfl, rfl, m0 _, m1 _, ⟨0, _, c + 1, ns, rfl, by omega, by omega, by omega, by omega, by omega, hn⟩⟩)
    · simp (disch := omega) [F_law_take, b_law_take, hpw, dec_t, dec_f]
      refine gives_ok (hP _ _ ⟨_, _, rfl, rfl, m0 _, m1 _, ⟨0, _, c, ns, rfl, by omega, by omega, by omega, by omega, by omega, hn⟩⟩)
  · simp (disch := omega) [F_law_take, b_law_take, h, hpw, dec_t, dec_f, hdv]
    refine gives_ok (hP _ _ ⟨_, _, rfl, rfl, m0 _, m1 _, ⟨_, b, c, ns, rfl, Int.ediv_nonneg (by omega) (by omega), by omega, by omega, by omega, by omega, hn⟩⟩)
end Fp.Z
/-! FpBase: what is an integer, a polynomial. -/
namespace Fp.Z
open PySem Fp
/-! ### data that may be compared -/
def Sim : Nat → D → Prop
  | _, .non => True
  | _, .bl _ => True
  | _, .int _ => True
  | _, .str x => PyData.strOk x = true
  | k + 1, .tup ds => ∀ d ∈ ds, Sim k d
  | k + 1, .lst ds => ∀ d ∈ ds, Sim k d
  | _, _ => False
@[simp] theorem Sim_int {k : Nat} {i : Int} : Sim k (.int i) := by cases k <;> trivial
@[simp] theorem Sim_bl {k : Nat} {b : Bool} : Sim k (.bl b) := by cases k <;> trivial
@[simp] theorem Sim_non {k : Nat} : Sim k .non := by cases k <;> trivial
theorem Sim_str {k : Nat} {x : Str} (h : PyData.strOk x = true) : Sim k (.str x) := by cases k <;> exact h
theorem toPs_all {P : D → Prop} {f : PyData → Bool} {g : List PyData → Bool} (h0 : g [] = true) (hc : ∀ x xs, g (x :: xs) = (f x && g xs)) : ∀ {ds : List D}, (∀ d ∈ ds, f d.toP = true) → g (D.toPs ds) = true
  | [], _ => by rw [D.toPs]; exact h0
  | d :: ds, h => by
    rw [D.toPs, hc, h d (List.mem_cons_self ..), toPs_all (P := P) h0 hc fun d hd => h d (List.mem_cons_of_mem _ hd)]
    rfl
theorem pures_all : ∀ {ds : List D}, (∀ d ∈ ds, d.pure = true) → D.pures ds = true
  | [], _ => by rw [D.pures]
  | d :: ds, h => by
    rw [D.pures, h d (List.mem_cons_self ..), pures_all fun d hd => h d (List.mem_cons_of_mem _ hd)]
    rfl
theorem depths_all {k : Nat} : ∀ {ds : List D}, (∀ d ∈ ds, d.toP.depth ≤ k) → PyData.depthAll (D.toPs ds) ≤ k
  | [], _ => by rw [D.toPs, PyData.depthAll]; exact Nat.zero_le _
  | d :: ds, h => by
    have h1 := h d (List.mem_cons_self ..)
    have h2 := depths_all fun d hd => h d (List.mem_cons_of_mem _ hd)
    rw [D.toPs, PyData.depthAll]
    omega
theorem Sim.ok : ∀ {k : Nat} {d : D}, Sim k d → d.pure = true ∧ d.toP.canLay0 = true ∧ d.toP.depth ≤ k
  | k, .non, _ => by simp [D.pure, D.toP, PyData.canLay0, PyData.depth]
  | k, .bl _, _ => by simp [D.pure, D.toP, PyData.canLay0, PyData.depth]
  | k, .int _, _ => by simp [D.pure, D.toP, PyData.canLay0, PyData.depth]
  | k, .str x, h => by
    have h : PyData.strOk x = true := by cases k <;> exact h
    simp [D.pure, D.toP, PyData.canLay0, PyData.depth, h]
  | k + 1, .tup ds, h => by
    have ih : ∀ d ∈ ds, _ := fun d hd => Sim.ok (h d hd)
    refine ⟨?_, ?_, ?_⟩
    · rw [D.pure]
      exact pures_all fun d hd => (ih d hd).1
    · rw [D.toP, PyData.canLay0]
      exact toPs_all (P := fun _ => True) (by rw [PyData.canLayAll0]) (fun _ _ => by rw [PyData.canLayAll0]) fun d hd => (ih d hd).2.1
    · rw [D.toP, PyData.depth]
      exact Nat.succ_le_succ (depths_all fun d hd => (ih d hd).2.2)
  | k + 1, .lst ds, h => by
    have ih : ∀ d ∈ ds, _ := fun d hd => Sim.ok (h d hd)
    refine ⟨?_, ?_, ?_⟩
    · rw [D.pure]
      exact pures_all fun d hd => (ih d hd).1
    · rw [D.toP, PyData.canLay0]
      exact toPs_all (P := fun _ => True) (by rw [PyData.canLayAll0]) (fun _ _ => by rw [PyData.canLayAll0]) fun d hd => (ih d hd).2.1
    · rw [D.toP, PyData.depth]
      exact Nat.succ_le_succ (depths_all fun d hd => (ih d hd).2.2)
  | 0, .tup _, h => h.elim
  | 0, .lst _, h => h.elim
  | 0, .olst _, h => h.elim
  | 0, .dic _ _, h => h.elim
  | 0, .exc _ _, h => h.elim
  | 0, .klst _, h => h.elim
  | k + 1, .olst _, h => h.elim
  | k + 1, .dic _ _, h => h.elim
  | k + 1, .exc _ _, h => h.elim
  | k + 1, .klst _, h => h.elim
theorem Sim.eqOk {k : Nat} {d : D} (h : Sim k d) (hk : k ≤ 64) : d.eqOk = true := by
  obtain ⟨h1, h2, h3⟩ := h.ok
  unfold D.eqOk SeqAt.shaped
  rw [h1, h2, decide_eq_true (Nat.le_trans h3 hk)]
  rfl
theorem Sim.mono : ∀ {k m : Nat} {d : D}, Sim k d → k ≤ m → Sim m d
  | k, m, .non, _, _ => Sim_non
  | k, m, .bl _, _, _ => Sim_bl
  | k, m, .int _, _, _ => Sim_int
  | k, m, .str x, h, _ => Sim_str (by cases k <;> exact h)
  | k + 1, m + 1, .tup ds, h, hk => fun d hd => Sim.mono (h d hd) (by omega)
  | k + 1, m + 1, .lst ds, h, hk => fun d hd => Sim.mono (h d hd) (by omega)
  | k + 1, 0, .tup ds, h, hk => absurd hk (by omega)
  | k + 1, 0, .lst ds, h, hk => absurd hk (by omega)
  | 0, _, .tup _, h, _ => h.elim
  | 0, _, .lst _, h, _ => h.elim
  | 0, _, .olst _, h, _ => h.elim
  | 0, _, .dic _ _, h, _ => h.elim
  | 0, _, .exc _ _, h, _ => h.elim
  | 0, _, .klst _, h, _ => h.elim
  | k + 1, _, .olst _, h, _ => h.elim
  | k + 1, _, .dic _ _, h, _ => h.elim
  | k + 1, _, .exc _ _, h, _ => h.elim
  | k + 1, _, .klst _, h, _ => h.elim
theorem Sim.ints {k : Nat} {ns : List Int} : Sim (k + 1) (.tup (iD ns)) := fun d hd => by
  obtain ⟨i, _, rfl⟩ := List.mem_map.mp hd
  exact Sim_int
@[simp] theorem eqOk_ints {ns : List Int} : (D.tup (iD ns)).eqOk = true := (Sim.ints (k := 0)).eqOk (by decide)
@[simp] theorem eqOk_cons {i : Int} {ns : List Int} : (D.tup (.int i :: iD ns)).eqOk = true := eqOk_ints (ns := i :: ns)
@[simp] theorem eqOk_i {i : Int} : (D.int i).eqOk = true := (Sim_int (k := 0)).eqOk (by decide)
@[simp] theorem eqOk_b {b : Bool} : (D.bl b).eqOk = true := (Sim_bl (k := 0)).eqOk (by decide)
@[simp] theorem eqOk_n : D.non.eqOk = true := (Sim_non (k := 0)).eqOk (by decide)
@[simp] theorem eqOk_nil : (D.tup []).eqOk = true := eqOk_ints (ns := [])
/-! ### equality -/
theorem eqvs_refl : ∀ {ds : List PyData}, (∀ d ∈ ds, PyData.eqv d d = true) → PyData.eqvAll ds ds = true
  | [], _ => by rw [PyData.eqvAll]
  | d :: ds, h => by
    rw [PyData.eqvAll, h d (List.mem_cons_self ..), eqvs_refl fun d hd => h d (List.mem_cons_of_mem _ hd)]
    rfl
theorem eqv_toPs : ∀ {xs ys : List D}, (PyData.eqvAll (D.toPs xs) (D.toPs ys)) = (decide (xs.length = ys.length) && (xs.zip ys).all fun p => p.1.eqv p.2)
  | [], [] => by simp [D.toPs, PyData.eqvAll]
  | [], y :: ys => by simp [D.toPs, PyData.eqvAll]
  | x :: xs, [] => by simp [D.toPs, PyData.eqvAll]
  | x :: xs, y :: ys => by
    rw [D.toPs, D.toPs, PyData.eqvAll, eqv_toPs]
    simp only [List.length_cons, List.zip_cons_cons, List.all_cons, Nat.add_right_cancel_iff]
    show (PyData.eqv x.toP y.toP && _) = _
    rw [show PyData.eqv x.toP y.toP = x.eqv y from rfl]
    cases x.eqv y <;> simp
@[simp] theorem eqv_int {i j : Int} : (D.int i).eqv (.int j) = decide (i = j) := by
  show PyData.eqv (D.int i).toP (D.int j).toP = _
  rw [D.toP, D.toP, PyData.eqv]
  exact Bool.beq_eq_decide_eq _ _
@[simp] theorem eqv_tup {xs ys : List D} : (D.tup xs).eqv (.tup ys) = (decide (xs.length = ys.length) && (xs.zip ys).all fun p => p.1.eqv p.2) := by
  show PyData.eqv (D.tup xs).toP (D.tup ys).toP = _
  rw [D.toP, D.toP, PyData.eqv, eqv_toPs]
@[simp] theorem eqv_lst {xs ys : List D} : (D.lst xs).eqv (.lst ys) = (decide (xs.length = ys.length) && (xs.zip ys).all fun p => p.1.eqv p.2) := by
  show PyData.eqv (D.lst xs).toP (D.lst ys).toP = _
  rw [D.toP, D.toP, PyData.eqv, eqv_toPs]
@[simp] theorem eqv_bl {b c : Bool} : (D.bl b).eqv (.bl c) = decide (b = c) := by
  show PyData.eqv (D.bl b).toP (D.bl c).toP = _
  rw [D.toP, D.toP, PyData.eqv]
  exact Bool.beq_eq_decide_eq _ _
/-! ### integers -/
def b_is_integer : List Sm := [.ret (.and (.isi (.var 0) ["int"]) (.not (.isi (.var 0) ["bool"])))]
def F_is_integer : Fn := ⟨["value"], 1, b_is_integer⟩
def b_is_polynomial : List Sm := [.ite (.or (.not (.isi (.var 0) ["tuple"])) (.not (.blt "all" [.comp (.call "is_integer" [.var 2]) (.nm 2) (.ov (.var 0)) none [1, 2]]))) [.ret (.cst (.bl false))] [], .ret (.or (.cmp .eq (.var 0) (.tup [])) (.cmp .ne (.idx (.var 0) (.cst (.int 0))) (.cst (.int 0))))]
def F_is_polynomial : Fn := ⟨["told"], 3, b_is_polynomial⟩
def isI : D → Bool
  | .int _ => true
  | _ => false
/-- no error, no script -/
def ok1 : D → Bool
  | .exc _ _ => false
  | .klst _ => false
  | .olst _ => false
  | _ => true
theorem all_isI : ∀ {ds : List D}, ds.all isI = true → ∃ ns, ds = iD ns
  | [], _ => ⟨[], rfl⟩
  | d :: ds, h => by
    rw [List.all_cons, Bool.and_eq_true_iff] at h
    obtain ⟨ns, rfl⟩ := all_isI h.2
    cases d <;> first | exact ⟨_ :: ns, rfl⟩ | exact absurd h.1 (by simp [isI])
theorem isint_spec {T : Tb} {n : Nat} {f p : String} (hT : T.fns f = some ⟨[p], 1, b_is_integer⟩) {d : D} (hd : ok1 d = true) : callN T (n + 1) f [.val d] [] = .ok (.val (.bl (isI d))) [] := by
  rw [callN_eq hT ⟨rfl, Nat.le_refl _⟩]
  cases d <;> first | (cases hd; done) | simp (disch := omega) [b_is_integer, isI]
@[simp] theorem allBl_map2 {α : Type} {f : α → Bool} {xs : List α} : allBl (xs.map (frz1 ∘ fun x => .bl (f x))) = some (xs.map f) := allBl_map
/-- [f(a) for a in told] with told in slot 0 -/
theorem comp_spec {T : Tb} {n : Nat} {f : String} {g : D → Bool} {s : Sl} {ds : List D} (h : ∀ d ∈ ds, callN T n f [.val d] [] = .ok (.val (.bl (g d))) []) :
    compL (compB (T.ct n) (.call f [.var 2]) (.nm 2) none [1, 2]) ds ⟨[s, .no, .no], []⟩ = .ok (ds.map fun d => .bl (g d)) ⟨[s, .no, .no], []⟩ :=
  compL_map (g := fun d => .bl (g d)) fun d hd => by simp (disch := omega) [h d hd]
/-- a polynomial as the document has it -/
def polyB : D → Bool
  | .tup ds => ds.all isI && match ds with
    | .int i :: _ => !decide (i = 0)
    | _ => true
  | _ => false
theorem ispoly_spec {T : Tb} {n : Nat} (hT : T.fns "is_polynomial" = some F_is_polynomial) (hI : T.fns "is_integer" = some ⟨["value"], 1, b_is_integer⟩) {d : D} (hd : ok1 d = true) (hs : ∀ ds, d = .tup ds → ds.length ≤ 16777216 ∧ ∀ x ∈ ds, ok1 x = true) : callN T (n + 2) "is_polynomial" [.val d] [] = .ok (.val (.bl (polyB d))) [] := by
  rw [callN_eq hT ⟨rfl, by decide⟩]
  cases d with
  | tup ds =>
    obtain ⟨h1, h2⟩ := hs ds rfl
    have hc := comp_spec (T := T) (n := n + 1) (f := "is_integer") (g := isI) (s := .val (.tup ds)) (ds := ds) fun d hd => isint_spec hI (h2 d hd)
    cases hA : ds.all isI with
    | false => simp (disch := omega) [F_is_polynomial, b_is_polynomial, hc, h1, hA, polyB]
    | true =>
      obtain ⟨ns, rfl⟩ := all_isI hA
      rw [iD_len] at h1
      simp (disch := omega) [F_is_polynomial, b_is_polynomial, hc, h1, hA, polyB]

      cases ns with
      | nil => simp (disch := omega)
      | cons i ns => simp (disch := omega) [L2.atI]
  | _ => first | (cases hd; done) | simp (disch := omega) [F_is_polynomial, b_is_polynomial, polyB]
end Fp.Z
/-! FpLow: the law's fractions in lowest terms. -/
namespace Fp.Z
open PySem Fp
def b_law_low : List Sm := [.par [2, 3] [.blt "abs" [.var 0], .blt "abs" [.var 1]], .for_ (.nm 4) (.rng (.cst (.int 100000))) [.ite (.cmp .eq (.var 3) (.cst (.int 0))) [.brk] [], .par [2, 3] [.var 3, .bin .mod (.blt "int" [.var 2]) (.var 3)]], .asg (.nm 5) (.ite (.cmp .gt (.var 1) (.cst (.int 0))) (.cst (.int 1)) (.neg (.cst (.int 1)))), .ret (.tup [.bin .fdiv (.bin .mul (.var 5) (.var 0)) (.var 2), .bin .fdiv (.bin .mul (.var 5) (.var 1)) (.var 2)])]
def F_law_low : Fn := ⟨["top", "bottom"], 6, b_law_low⟩
theorem intsD_len {lo : Int} {n : Nat} : (intsD lo n).length = n := by simp [intsD]
/-- one turn of Euclid halves the product -/
theorem euclid_half {x y : Nat} (h : y ≤ x) (hy : y ≠ 0) : x % y < y ∧ 2 * (y * (x % y)) ≤ x * y := by
  have h1 : x % y < y := Nat.mod_lt _ (by omega)
  have h2 := Nat.div_add_mod x y
  have h3 : 1 ≤ x / y := (Nat.one_le_div_iff (by omega)).mpr h
  refine ⟨h1, ?_⟩
  have h4 : y * 1 ≤ y * (x / y) := Nat.mul_le_mul_left y h3
  have h5 : 2 * (x % y) ≤ x := by omega
  calc 2 * (y * (x % y)) = 2 * (x % y) * y := by rw [Nat.mul_comm y, Nat.mul_assoc]
    _ ≤ x * y := Nat.mul_le_mul_right y h5
def EuOk (len x y : Nat) : Prop := (y ≤ x ∧ x * y < 2 ^ len) ∨ (y < 2 ^ 9000 ∧ 18001 ≤ len)
theorem EuOk.step {len x y : Nat} (h : EuOk (len + 1) x y) (hy : y ≠ 0) : EuOk len y (x % y) := by
  have hm : x % y < y := Nat.mod_lt _ (by omega)
  left
  refine ⟨by omega, ?_⟩
  rcases h with ⟨h1, h2⟩ | ⟨h1, h2⟩
  · have := (euclid_half h1 hy).2
    rw [Nat.pow_succ] at h2
    omega
  · have a : y * (x % y) < 2 ^ 9000 * 2 ^ 9000 := Nat.mul_lt_mul'' h1 (by omega)
    have b : (2 : Nat) ^ 9000 * 2 ^ 9000 = 2 ^ 18000 := by rw [← Nat.pow_add]
    have c : (2 : Nat) ^ 18000 ≤ 2 ^ len := Nat.pow_le_pow_right (by decide) (by omega)
    omega
theorem EuOk.zero {x y : Nat} (h : EuOk 0 x y) : y = 0 := by
  rcases h with ⟨h1, h2⟩ | ⟨_, h2⟩
  · have : x * y = 0 := by omega
    rcases Nat.mul_eq_zero.mp this with h | h <;> omega
  · omega
theorem abs_eq {i : Int} : (if i < 0 then -i else i) = (i.natAbs : Int) := by
  split <;> omega
theorem low_loop {C : Ct} {top bottom : D} {g : Nat} (ds : List D) (x y : Nat) (s : Sl) (hg : Nat.gcd x y = g) (hk : EuOk ds.length x y) :
    ∃ s' z, forL (forB C (.nm 4) [.ite (.cmp .eq (.var 3) (.cst (.int 0))) [.brk] [], .par [2, 3] [.var 3, .bin .mod (.blt "int" [.var 2]) (.var 3)]]) ds ⟨[.val top, .val bottom, .val (.int x), .val (.int y), s, .no], []⟩
      = .nx ⟨[.val top, .val bottom, .val (.int g), .val (.int z), s', .no], []⟩ := by
  refine forL_sat (I := fun ds e => ∃ (x y : Nat) (s : Sl), e = ⟨[.val top, .val bottom, .val (.int x), .val (.int y), s, .no], []⟩ ∧ Nat.gcd x y = g ∧ EuOk ds.length x y)
    (Q := fun r => ∃ s' z, r = .nx ⟨[.val top, .val bottom, .val (.int g), .val (.int z), s', .no], []⟩) ?_ ?_ ds _ ⟨x, y, s, rfl, hg, hk⟩
  · rintro d ds _ ⟨x, y, s, rfl, hg, hk⟩
    by_cases hy : y = 0
    · subst hy
      refine .inr (.inl ⟨_, by simp (disch := omega); rfl, ?_⟩)
      rw [Nat.gcd_zero_right] at hg
      subst hg
      exact ⟨_, _, rfl⟩
    · refine .inl ⟨_, .inl (by simp (disch := omega); rfl), y, x % y, .val d, ?_, ?_, hk.step hy⟩
      · simp
      · rw [← hg, Nat.gcd_comm x y, Nat.gcd_rec y x, Nat.gcd_comm]
  · rintro _ ⟨x, y, s, rfl, hg, hk⟩
    have := hk.zero
    subst this
    rw [Nat.gcd_zero_right] at hg
    subst hg
    exact ⟨_, _, rfl⟩
/-- top and bottom without what they have in common -/
def lowD (t b : Int) : D := .tup [.int (t / (Int.gcd t b : Nat)), .int (b / (Int.gcd t b : Nat))]
theorem low_spec {T : Tb} {n : Nat} (hT : T.fns "_law_low" = some F_law_low) {t b : Int} (hb : 0 < b) (hb' : b < 2 ^ 9000) :
    callN T (n + 1) "_law_low" [.val (.int t), .val (.int b)] [] = .ok (.val (lowD t b)) [] := by
  rw [callN_eq hT ⟨rfl, by decide⟩]
  obtain ⟨m, rfl⟩ : ∃ m : Nat, b = m := ⟨b.toNat, by omega⟩
  have hbn : m < 2 ^ 9000 := by exact_mod_cast hb'
  obtain ⟨s', z, hl⟩ := low_loop (C := T.ct n) (top := .int t) (bottom := .int m) (intsD 0 100000) t.natAbs m .no rfl (.inr ⟨hbn, by rw [intsD_len]; decide⟩)
  have hg : 0 < Nat.gcd t.natAbs m := Nat.gcd_pos_of_pos_right _ (by omega)
  have hgb : Nat.gcd t.natAbs m ≤ m := Nat.le_of_dvd (by omega) (Nat.gcd_dvd_right ..)
  have hd : ∀ i, arith .fdiv i (Nat.gcd t.natAbs m : Nat) = some (i / (Nat.gcd t.natAbs m : Nat)) := fun i => ar_fdivP (by omega) (by rw [Int.natAbs_natCast]; omega)
  have hd1 := hd t
  have hd2 := hd m
  have e : Int.gcd t m = Nat.gcd t.natAbs m := rfl
  have hm : ¬ (m : Int) < 0 := by omega
  simp (disch := omega) [F_law_low, b_law_low, abs_eq, hl, hd1, hd2, lowD, e]
end Fp.Z
/-! FpSame: the law's comparison of equal data. -/
namespace Fp.Z
open PySem Fp
def b_law_same : List Sm := [.ite (.cmp .is (.var 1) (.cst .non)) [.ret (.cmp .is (.var 0) (.cst .non))] [], .ite (.isi (.var 1) ["bool", "str"]) [.ret (.and (.cmp .eq (.isi (.var 0) ["bool"]) (.isi (.var 1) ["bool"])) (.and (.isi (.var 0) ["bool", "str"]) (.cmp .eq (.var 0) (.var 1))))] [], .ite (.isi (.var 1) ["int"]) [.ret (.and (.isi (.var 0) ["int"]) (.and (.not (.isi (.var 0) ["bool"])) (.cmp .eq (.var 0) (.var 1))))] [], .ite (.or (.cmp .ne (.isi (.var 1) ["list"]) (.isi (.var 0) ["list"])) (.cmp .ne (.isi (.var 1) ["tuple"]) (.isi (.var 0) ["tuple"]))) [.ret (.cst (.bl false))] [], .ret (.and (.cmp .eq (.blt "len" [.var 0]) (.blt "len" [.var 1])) (.blt "all" [.comp (.call "_law_same" [.idx (.var 0) (.var 3), .idx (.var 1) (.var 3)]) (.nm 3) (.rng (.blt "len" [.var 1])) none [2, 3]]))]
def F_law_same : Fn := ⟨["got", "due"], 4, b_law_same⟩
theorem mem_intsD {lo : Int} {n : Nat} {d : D} (h : d ∈ intsD lo n) : ∃ j, j < n ∧ d = .int (lo + (j : Nat)) := by
  obtain ⟨j, hj, rfl⟩ := List.mem_map.mp h
  exact ⟨j, List.mem_range.mp hj, rfl⟩
/-- Sim, of bounded length -/
def Lv : Nat → D → Prop
  | _, .non => True
  | _, .bl _ => True
  | _, .int _ => True
  | _, .str x => PyData.strOk x = true
  | k + 1, .tup ds => ds.length ≤ 16777216 ∧ ∀ d ∈ ds, Lv k d
  | k + 1, .lst ds => ds.length ≤ 16777216 ∧ ∀ d ∈ ds, Lv k d
  | _, _ => False
@[simp] theorem Lv_int {k : Nat} {i : Int} : Lv k (.int i) := by cases k <;> trivial
@[simp] theorem Lv_bl {k : Nat} {b : Bool} : Lv k (.bl b) := by cases k <;> trivial
@[simp] theorem Lv_non {k : Nat} : Lv k .non := by cases k <;> trivial
theorem Lv.flat {k : Nat} {d : D} (h : Lv k d) : d.flat1 = true := by
  cases d <;> first | rfl | (cases k <;> exact h.elim)
theorem Lv.frz {k : Nat} {d : D} (h : Lv k d) : frz1 d = d := by
  cases d <;> first | rfl | (cases k <;> exact h.elim)
theorem Lv.ints {k : Nat} {ns : List Int} (h : ns.length ≤ 16777216) : Lv (k + 1) (.tup (iD ns)) := ⟨by rw [iD_len]; exact h, fun d hd => by
  obtain ⟨i, _, rfl⟩ := List.mem_map.mp hd
  exact Lv_int⟩
theorem eqv_refl_int {i : Int} : (D.int i).eqv (.int i) = true := by simp
theorem eqvS {x : Str} : (D.str x).eqv (.str x) = true := by
  show PyData.eqv (D.str x).toP (D.str x).toP = true
  rw [D.toP, PyData.eqv]
  exact beq_self_eq_true x
theorem same_spec {T : Tb} (hT : T.fns "_law_same" = some F_law_same) (k : Nat) : ∀ (d : D) (n : Nat), k < n → Lv k d → callN T n "_law_same" [.val d, .val d] [] = .ok (.val (.bl true)) [] := by
  induction k with
  | zero =>
    intro d n hk hl
    obtain ⟨n, rfl⟩ : ∃ m, n = m + 1 := ⟨n - 1, by omega⟩
    rw [callN_eq hT ⟨rfl, by decide⟩]
    cases d with
    | str x =>
      have e : (D.str x).eqOk = true := (Sim_str (k := 0) hl).eqOk (by decide)
      simp (disch := omega) [F_law_same, b_law_same, D.isNon, e, eqvS]
    | _ => first | exact hl.elim | simp (disch := omega) [F_law_same, b_law_same, D.isNon]
  | succ k ih =>
    intro d n hk hl
    obtain ⟨n, rfl⟩ : ∃ m, n = m + 1 := ⟨n - 1, by omega⟩
    rw [callN_eq hT ⟨rfl, by decide⟩]
    cases d with
    | str x =>
      have e : (D.str x).eqOk = true := (Sim_str (k := 0) hl).eqOk (by decide)
      simp (disch := omega) [F_law_same, b_law_same, D.isNon, e, eqvS]
    | tup ds =>
      obtain ⟨h1, h2⟩ := hl
      have hc := compL_map (f := compB (T.ct n) (.call "_law_same" [.idx (.var 0) (.var 3), .idx (.var 1) (.var 3)]) (.nm 3) none [2, 3]) (g := fun _ => .bl true) (e := ⟨[.val (.tup ds), .val (.tup ds), .no, .no], []⟩) (ds := intsD 0 ds.length) (fun d hd => by
        obtain ⟨j, hj, rfl⟩ := mem_intsD hd
        have ha : L2.atI ds (j : Int) = some ds[j] := L2.atI_nat (List.getElem?_eq_getElem hj)
        have ih := ih ds[j] n (by omega) (h2 _ (List.getElem_mem hj))
        simp (disch := omega) [ha, ih])
      simp (disch := omega) [F_law_same, b_law_same, D.isNon, hc, intsD_len]
    | lst ds =>
      obtain ⟨h1, h2⟩ := hl
      have hc := compL_map (f := compB (T.ct n) (.call "_law_same" [.idx (.var 0) (.var 3), .idx (.var 1) (.var 3)]) (.nm 3) none [2, 3]) (g := fun _ => .bl true) (e := ⟨[.val (.lst ds), .val (.lst ds), .no, .no], []⟩) (ds := intsD 0 ds.length) (fun d hd => by
        obtain ⟨j, hj, rfl⟩ := mem_intsD hd
        have ha : L2.atI ds (j : Int) = some ds[j] := L2.atI_nat (List.getElem?_eq_getElem hj)
        have ih := ih ds[j] n (by omega) (h2 _ (List.getElem_mem hj))
        simp (disch := omega) [ha, ih])
      simp (disch := omega) [F_law_same, b_law_same, D.isNon, hc, intsD_len]
    | _ => first | exact hl.elim | simp (disch := omega) [F_law_same, b_law_same, D.isNon]
theorem frz2 {xs : List D} : (xs.map frz1).map frz1 = xs.map frz1 := by
  rw [List.map_map]
  apply List.map_congr_left
  intro d _
  cases d <;> rfl
/-- two lists of one's own -/
theorem same_own {T : Tb} (hT : T.fns "_law_same" = some F_law_same) {k n : Nat} {xs ys zs : List D} (hk : k < n) (hx : xs.map frz1 = zs) (hy : ys.map frz1 = zs) (hl : Lv (k + 1) (.lst zs)) :
    callN T (n + 1) "_law_same" [.lnk 0, .lnk 1] [.own xs, .own ys] = .ok (.val (.bl true)) [.own zs, .own zs] := by
  rw [callN_eq hT ⟨rfl, by decide⟩]
  obtain ⟨h1, h2⟩ := hl
  have hz : zs.map frz1 = zs := by rw [← hx, frz2]
  have hc := compL_map (f := compB (T.ct n) (.call "_law_same" [.idx (.var 0) (.var 3), .idx (.var 1) (.var 3)]) (.nm 3) none [2, 3]) (g := fun _ => .bl true) (e := ⟨[.lnk 0, .lnk 1, .no, .no], [.own zs, .own zs]⟩) (ds := intsD 0 zs.length) (fun d hd => by
    obtain ⟨j, hj, rfl⟩ := mem_intsD hd
    have ha : ∀ e l, idxO e l zs j (some zs[j]) = .ok (.val zs[j]) e := fun e l => idxO_flat (h2 _ (List.getElem_mem hj)).flat
    have hb : zs[j]? = some zs[j] := List.getElem?_eq_getElem hj
    have ih := same_spec hT k zs[j] n hk (h2 _ (List.getElem_mem hj))
    simp (disch := omega) [ha, hb, ih])
  simp (disch := omega) [F_law_same, b_law_same, D.isNon, hx, hy, hz, hc, intsD_len]
end Fp.Z
/-! FpE1: own errors raised, caught, asked: rows; the law of the plane's errors. -/
namespace Fp.Z
open PySem Fp
/-! ### rows -/
section
variable {C : Ct} {a x : Ex} {e : Env} {c k : String} {d : D} {i j : Nat} {b : List Sm} {sub : String → Bool}
@[simp] theorem ct_sub {T : Tb} {n : Nat} : (T.ct n).sub = T.sub := nr rfl
@[simp] theorem x_ise : evalE C (.ise a c) e = (evalE C a e).bind (isE fun k => C.sub k c) := by rw [evalE]
@[simp] theorem isE_exc : isE sub (.val (.exc c d)) e = .ok (.val (.bl (sub c))) e := nr rfl
@[simp] theorem x_valof : evalE C (.valof a) e = (evalE C a e).bind valE := by rw [evalE]
@[simp] theorem valE_exc : valE (.val (.exc c d)) e = .ok (.val d) e := nr rfl
@[simp] theorem t_ise : evalT C (.ise a c) e = (evalE C (.ise a c) e).bind opTru := by rw [evalT] <;> first | rfl | (intro _ _ h; cases h) | (intro _ h; cases h)
def raiJ (c : String) (d : D) (e : Env) : SR := .ex c d e
def raiK (c : String) (r : Rv) (e : Env) : SR := (e.asVal r).st (raiJ c)
@[simp] theorem raiJ_eq : raiJ c d e = .ex c d e := nr rfl
@[simp] theorem raiK_eq {r : Rv} : raiK c r e = (e.asVal r).st (raiJ c) := nr rfl
@[simp] theorem m_rai : execS C (.rai c x) e = (evalE C x e).st (raiK c) := by rw [execS]; rfl
@[simp] theorem m_kee : execS C (.kee b c i j) e = tryE (fun k => C.sub k c) i j (execSs C b e) := by rw [execS]
@[simp] theorem tryE_nx : tryE sub i j (.nx e) = .nx e := nr rfl
@[simp] theorem tryE_ex : tryE sub i j (.ex c d e) = if sub c && decide (i < e.sl.length) && decide (j < e.sl.length) then .nx ⟨((e.sl.set i (.val (.exc c d))).set j (.val (.exc c d))).set i .no, e.ps⟩ else .bad := nr rfl
end
def b_law_given4 : List Sm := [.asg (.nm 1) (.bin .sub (.bin .add (.bin .mul (.call "_law_take" [.var 0, .bin .pow (.cst (.int 10)) (.cst (.int 9))]) (.bin .pow (.cst (.int 10)) (.cst (.int 20)))) (.call "_law_take" [.var 0, .bin .pow (.cst (.int 10)) (.cst (.int 9))])) (.bin .pow (.cst (.int 10)) (.cst (.int 28)))), .asg (.nm 2) (.lst [.var 1, .call "_law_take" [.var 0, .cst (.int 9)], .cst (.str ""), .cst (.str "a b"), .cst .non, .cst (.bl true), .cst (.bl false), .tup [], .tup [.var 1, .cst (.int 1)], .lst [.var 1, .cst (.str "x")], .tup [.tup [.cst (.int 1), .cst (.int 2)], .tup [.cst (.str "to"), .tup []]], .lst []]), .ret (.idx (.bin .add (.var 2) (.lst [.neg (.cst (.int 1)), .cst (.int 0), .tup [.tup [.cst (.int 1)], .tup [], .tup [.cst (.int 1), .cst (.int 0), .neg (.cst (.int 1))]]])) (.call "_law_take" [.var 0, .cst (.int 15)]))]
def F_law_given4 : Fn := ⟨["pot"], 3, b_law_given4⟩
def b_law_kinds4 : List Sm := [.asg (.nm 1) (.lst [.ise (.var 0) "InvalidPlane", .ise (.var 0) "InvalidHeight", .ise (.var 0) "InvalidPoint"]), .asg (.nm 1) (.bin .add (.var 1) (.lst [.ise (.var 0) "InvalidPaper", .ise (.var 0) "InvalidNumber", .ise (.var 0) "InvalidPolynomial"])), .asg (.nm 1) (.bin .add (.var 1) (.lst [.ise (.var 0) "InvalidDegree", .ise (.var 0) "InvalidInteger", .ise (.var 0) "InvalidPlace"])), .ret (.bin .add (.var 1) (.lst [.ise (.var 0) "InvalidPair", .ise (.var 0) "InvalidSaying", .ise (.var 0) "InvalidSet"]))]
def F_law_kinds4 : Fn := ⟨["e"], 2, b_law_kinds4⟩
def b_law_raised4 : List Sm := [.ite (.cmp .eq (.var 0) (.cst (.int 0))) [.ite (.var 2) [.rai "InvalidPlane" (.var 1)] [], .rai "InvalidPlane" (.var 1)] [], .ite (.cmp .eq (.var 0) (.cst (.int 1))) [.ite (.var 2) [.rai "InvalidHeight" (.var 1)] [], .rai "InvalidHeight" (.var 1)] [], .ite (.cmp .eq (.var 0) (.cst (.int 2))) [.ite (.var 2) [.rai "InvalidPoint" (.var 1)] [], .rai "InvalidPoint" (.var 1)] [], .ite (.var 2) [.rai "InvalidPaper" (.var 1)] [], .rai "InvalidPaper" (.var 1)]
def F_law_raised4 : Fn := ⟨["which", "given", "named"], 3, b_law_raised4⟩
def b_law_caught4 : List Sm := [.asg (.nm 3) (.cst .non), .kee [.exp (.call "_law_raised" [.var 0, .var 1, .var 2])] "SignError" 4 3, .ret (.var 3)]
def F_law_caught4 : Fn := ⟨["which", "given", "named"], 5, b_law_caught4⟩
def b_law_right4 : List Sm := [.ite (.or (.cmp .is (.var 0) (.cst .non)) (.not (.ise (.var 0) "ValueError"))) [.ret (.cst (.bl false))] [], .ret (.and (.call "_law_same" [.call "_law_kinds" [.var 0], .comp (.cmp .eq (.var 4) (.var 1)) (.nm 4) (.rng (.cst (.int 12))) none [3, 4]]) (.call "_law_same" [.valof (.var 0), .var 2]))]
def F_law_right4 : Fn := ⟨["caught", "which", "given"], 5, b_law_right4⟩
def b_law4 : List Sm := [.asg (.nm 1) (.bin .add (.lst [.cst (.int 0), .cst (.int 7), .cst (.int 3)]) (.blt "list" [.var 0])), .for_ (.nm 2) (.rng (.blt "max" [.cst (.int 1), .blt "min" [.cst (.int 12), .blt "len" [.var 0]]])) [.for_ (.nm 3) (.rng (.cst (.int 4))) [.par [4, 5, 6] [.call "_law_given" [.var 1], .call "_law_given" [.var 1], .cmp .eq (.call "_law_take" [.var 1, .cst (.int 2)]) (.cst (.int 0))], .asg (.nm 7) (.call "_law_caught" [.var 3, .var 4, .var 6]), .asg (.nm 8) (.call "_law_caught" [.var 3, .var 5, .not (.var 6)]), .ite (.or (.not (.call "_law_right" [.var 7, .var 3, .var 4])) (.not (.call "_law_right" [.var 8, .var 3, .var 5]))) [.ret (.cst (.bl false))] []]], .ret (.cst (.bl true))]
def F_law4 : Fn := ⟨["script"], 9, b_law4⟩
def sub04 (a b : String) : Bool := (b == "ValueError") || ((b == "SignError") || (a == b))
structure T04 (T : Tb) : Prop where
  take : T.fns "_law_take" = some F_law_take
  same : T.fns "_law_same" = some F_law_same
  given : T.fns "_law_given" = some F_law_given4
  kinds : T.fns "_law_kinds" = some F_law_kinds4
  raised : T.fns "_law_raised" = some F_law_raised4
  caught : T.fns "_law_caught" = some F_law_caught4
  right : T.fns "_law_right" = some F_law_right4
  law : T.fns "law" = some F_law4
  sub : T.sub = sub04
/-! ### what is drawn -/
theorem p9 : arith .pow 10 9 = some 1000000000 := by decide +kernel
theorem p20 : arith .pow 10 20 = some 100000000000000000000 := by decide +kernel
theorem p28 : arith .pow 10 28 = some 10000000000000000000000000000 := by decide +kernel
theorem lv_str {k : Nat} {x : Str} (h : PyData.strOk x = true) : Lv k (.str x) := by cases k <;> exact h
theorem lv_mem {k : Nat} {ds : List D} (h : ds.length ≤ 16777216) (q : ∀ d ∈ ds, Lv k d) : Lv (k + 1) (.tup ds) ∧ Lv (k + 1) (.lst ds) := ⟨⟨h, q⟩, ⟨h, q⟩⟩
def some04 (far x : Int) : List D := [.int far, .int x, .str "", .str "a b", .non, .bl true, .bl false, .tup [], .tup [.int far, .int 1], .lst [.int far, .str "x"], .tup [.tup [.int 1, .int 2], .tup [.str "to", .tup []]], .lst [], .int (-1), .int 0, .tup [.tup [.int 1], .tup [], .tup [.int 1, .int 0, .int (-1)]]]
theorem some04_lv {far x : Int} : ∀ d ∈ some04 far x, Lv 3 d := by
  have n1 : ∀ {k : Nat}, Lv (k + 1) (.tup []) := fun {k} => ⟨by simp, fun d h => by cases h⟩
  intro d hd
  simp only [some04, List.mem_cons, List.not_mem_nil, or_false] at hd
  rcases hd with rfl | rfl | rfl | rfl | rfl | rfl | rfl | rfl | rfl | rfl | rfl | rfl | rfl | rfl | rfl
  · exact Lv_int
  · exact Lv_int
  · exact lv_str (by decide +kernel)
  · exact lv_str (by decide +kernel)
  · exact Lv_non
  · exact Lv_bl
  · exact Lv_bl
  · exact n1
  · refine ⟨by simp, fun d h => ?_⟩
    simp only [List.mem_cons, List.not_mem_nil, or_false] at h
    rcases h with rfl | rfl <;> exact Lv_int
  · refine ⟨by simp, fun d h => ?_⟩
    simp only [List.mem_cons, List.not_mem_nil, or_false] at h
    rcases h with rfl | rfl
    · exact Lv_int
    · exact lv_str (by decide +kernel)
  · refine ⟨by simp, fun d h => ?_⟩
    simp only [List.mem_cons, List.not_mem_nil, or_false] at h
    rcases h with rfl | rfl
    · refine ⟨by simp, fun d h => ?_⟩
      simp only [List.mem_cons, List.not_mem_nil, or_false] at h
      rcases h with rfl | rfl <;> exact Lv_int
    · refine ⟨by simp, fun d h => ?_⟩
      simp only [List.mem_cons, List.not_mem_nil, or_false] at h
      rcases h with rfl | rfl
      · exact lv_str (by decide +kernel)
      · exact n1
  · exact ⟨by simp, fun d h => by cases h⟩
  · exact Lv_int
  · exact Lv_int
  · refine ⟨by simp, fun d h => ?_⟩
    simp only [List.mem_cons, List.not_mem_nil, or_false] at h
    rcases h with rfl | rfl | rfl
    · refine ⟨by simp, fun d h => ?_⟩
      simp only [List.mem_cons, List.not_mem_nil, or_false] at h
      subst h
      exact Lv_int
    · exact n1
    · refine ⟨by simp, fun d h => ?_⟩
      simp only [List.mem_cons, List.not_mem_nil, or_false] at h
      rcases h with rfl | rfl | rfl <;> exact Lv_int
theorem given04 {T : Tb} (h : T04 T) {n : Nat} {l : List D} (hp : Pot l) : (callN T (n + 2) "_law_given" [.lnk 0] [.own l]).gives fun r ps => ∃ (d : D) (l' : List D), r = .val d ∧ ps = [.own l'] ∧ Lv 3 d ∧ Pot l' := by
  apply gives_of
  intro P hP
  obtain ⟨_, _, e1, a1, l1, rfl, rfl, b1, c1, hp1⟩ := take_spec (n := n) h.take hp (many := 1000000000) (by decide) (by decide)
  obtain ⟨_, _, e2, a2, l2, rfl, rfl, b2, c2, hp2⟩ := take_spec (n := n) h.take hp1 (many := 1000000000) (by decide) (by decide)
  obtain ⟨_, _, e3, a3, l3, rfl, rfl, b3, c3, hp3⟩ := take_spec (n := n) h.take hp2 (many := 9) (by decide) (by decide)
  obtain ⟨_, _, e4, a4, l4, rfl, rfl, b4, c4, hp4⟩ := take_spec (n := n) h.take hp3 (many := 15) (by decide) (by decide)
  obtain ⟨d, hx, hd⟩ := atI_pos (ds := some04 (a1 * 100000000000000000000 + a2 - 10000000000000000000000000000) a3) b4 (by simpa [some04] using c4)
  have lv := some04_lv d hd
  simp only [some04] at hx
  rw [callN_eq h.given ⟨rfl, by decide⟩]
  simp (disch := omega) [F_law_given4, b_law_given4, p9, p20, p28, e1, e2, e3, e4, hx, locsApart, lv.frz]
  exact gives_ok (hP _ _ ⟨d, l4, rfl, rfl, lv, hp4⟩)
/-! ### raised, caught, judged -/
def nm04 (w : Nat) : String := ["InvalidPlane", "InvalidHeight", "InvalidPoint", "InvalidPaper"].getD w ""
theorem raised04 {T : Tb} (h : T04 T) {n : Nat} {d : D} {b : Bool} {w : Nat} (hw : w < 4) : callN T (n + 1) "_law_raised" [.val (.int w), .val d, .val (.bl b)] [] = .ex (nm04 w) d [] := by
  rw [callN_eq h.raised ⟨rfl, by decide⟩]
  obtain rfl | rfl | rfl | rfl : w = 0 ∨ w = 1 ∨ w = 2 ∨ w = 3 := by omega
  all_goals cases b <;> simp (disch := omega) [F_law_raised4, b_law_raised4, nm04]
theorem sub04_base {w : Nat} : sub04 (nm04 w) "SignError" = true := by simp [sub04]
theorem sub04_ve {w : Nat} : sub04 (nm04 w) "ValueError" = true := by simp [sub04]
theorem caught04 {T : Tb} (h : T04 T) {n : Nat} {d : D} {b : Bool} {w : Nat} (hw : w < 4) : callN T (n + 2) "_law_caught" [.val (.int w), .val d, .val (.bl b)] [] = .ok (.val (.exc (nm04 w) d)) [] := by
  rw [callN_eq h.caught ⟨rfl, by decide⟩]
  simp (disch := omega) [F_law_caught4, b_law_caught4, raised04 h hw, locsApart, h.sub, sub04_base]
def kinds04 (w : Nat) : List D := (List.range 12).map fun k => .bl (decide (k = w))
theorem kinds04_spec {T : Tb} (h : T04 T) {n : Nat} {d : D} {w : Nat} (hw : w < 4) : callN T (n + 1) "_law_kinds" [.val (.exc (nm04 w) d)] [] = .ok (.fresh (kinds04 w)) [] := by
  rw [callN_eq h.kinds ⟨rfl, by decide⟩]
  obtain rfl | rfl | rfl | rfl : w = 0 ∨ w = 1 ∨ w = 2 ∨ w = 3 := by omega
  all_goals simp (disch := omega) [F_law_kinds4, b_law_kinds4, nm04, h.sub, sub04, kinds04, List.range_succ]
theorem kinds_flat {w : Nat} : (kinds04 w).map frz1 = kinds04 w := by
  unfold kinds04
  rw [List.map_map]
  rfl
theorem right04 {T : Tb} (h : T04 T) {n : Nat} {d : D} {w : Nat} (hw : w < 4) (hd : Lv 3 d) : callN T (n + 6) "_law_right" [.val (.exc (nm04 w) d), .val (.int w), .val d] [] = .ok (.val (.bl true)) [] := by
  rw [callN_eq h.right ⟨rfl, by decide⟩]
  have e1 := kinds04_spec h (n := n + 4) (d := d) hw
  have hc := compL_map (f := compB (T.ct (n + 5)) (.cmp .eq (.var 4) (.var 1)) (.nm 4) none [3, 4]) (g := fun x => match x with | .int k => .bl (decide (k = (w : Int))) | _ => .non) (e := ⟨[.val (.exc (nm04 w) d), .val (.int w), .val d, .no, .no], []⟩) (ds := intsD 0 12) (fun x hx => by
    obtain ⟨j, hj, rfl⟩ := mem_intsD hx
    simp (disch := omega) [D.eqOk])
  have hm : ((intsD 0 12).map fun x => match x with | .int k => D.bl (decide (k = (w : Int))) | _ => .non) = kinds04 w := by
    unfold intsD kinds04
    rw [List.map_map]
    refine List.map_congr_left fun k hk => ?_
    simp
    omega
  rw [hm] at hc
  have e2 := same_own (k := 0) (n := n + 4) (xs := kinds04 w) (ys := kinds04 w) (zs := kinds04 w) h.same (by omega) kinds_flat kinds_flat ⟨by simp [kinds04], fun x hx => by
    obtain ⟨k, _, rfl⟩ := List.mem_map.mp hx
    exact Lv_bl⟩
  have e3 := same_spec h.same 3 d (n + 5) (by omega) hd
  have kl : (kinds04 w).length ≤ 16777216 := by simp [kinds04]
  simp (disch := omega) [F_law_right4, b_law_right4, e1, e2, e3, hc, h.sub, sub04_ve, locsApart, D.isNon, kl]
/-! ### the law -/
noncomputable abbrev whB (T : Tb) (n : Nat) : D → Env → SR := forB (T.ct n) (.nm 3) [.par [4, 5, 6] [.call "_law_given" [.var 1], .call "_law_given" [.var 1], .cmp .eq (.call "_law_take" [.var 1, .cst (.int 2)]) (.cst (.int 0))], .asg (.nm 7) (.call "_law_caught" [.var 3, .var 4, .var 6]), .asg (.nm 8) (.call "_law_caught" [.var 3, .var 5, .not (.var 6)]), .ite (.or (.not (.call "_law_right" [.var 7, .var 3, .var 4])) (.not (.call "_law_right" [.var 8, .var 3, .var 5]))) [.ret (.cst (.bl false))] []]
theorem wh_turn {T : Tb} (h : T04 T) {k2 k3 k4 k5 k6 k7 k8 : Sl} {k0 : D} {l : List D} (hp : Pot l) {w : Nat} (hw : w < 4) : ∃ l' t4 t5 t6 t7 t8, whB T 20 (.int w) ⟨[.val k0, .own l, k2, k3, k4, k5, k6, k7, k8], []⟩ = .nx ⟨[.val k0, .own l', k2, .val (.int w), t4, t5, t6, t7, t8], []⟩ ∧ Pot l' := by
  obtain ⟨_, _, e1, d1, l1, rfl, rfl, v1, hp1⟩ := given04 (n := 18) h hp
  obtain ⟨_, _, e2, d2, l2, rfl, rfl, v2, hp2⟩ := given04 (n := 18) h hp1
  obtain ⟨_, _, e3, r, l3, rfl, rfl, r0, r1, hp3⟩ := take_spec (n := 19) h.take hp2 (many := 2) (by omega) (by omega)
  have c1 := fun b => caught04 h (n := 18) (d := d1) (b := b) hw
  have c2 := fun b => caught04 h (n := 18) (d := d2) (b := b) hw
  have q1 := right04 h (n := 14) (d := d1) hw v1
  have q2 := right04 h (n := 14) (d := d2) hw v2
  refine ⟨l3, .val d1, .val d2, .val (.bl (decide (r = 0))), .val (.exc (nm04 w) d1), .val (.exc (nm04 w) d2), ?_, hp3⟩
  simp (disch := omega) [whB, e1, e2, e3, c1, c2, q1, q2, locsApart]
theorem wh_loop {T : Tb} (h : T04 T) {k2 k3 k4 k5 k6 k7 k8 : Sl} {k0 : D} {l : List D} (hp : Pot l) : ∃ l' t3 t4 t5 t6 t7 t8, forL (whB T 20) (intsD 0 4) ⟨[.val k0, .own l, k2, k3, k4, k5, k6, k7, k8], []⟩ = .nx ⟨[.val k0, .own l', k2, t3, t4, t5, t6, t7, t8], []⟩ ∧ Pot l' := by
  obtain ⟨e', e1, l', t3, t4, t5, t6, t7, t8, rfl, hp', _⟩ := forL_nx (b := whB T 20) (I := fun ds e => ∃ l t3 t4 t5 t6 t7 t8, e = ⟨[.val k0, .own l, k2, t3, t4, t5, t6, t7, t8], []⟩ ∧ Pot l ∧ ∀ d ∈ ds, ∃ w : Nat, w < 4 ∧ d = .int w) (fun d ds e hh => by
    obtain ⟨l, t3, t4, t5, t6, t7, t8, rfl, hp, hd⟩ := hh
    obtain ⟨w, hw, rfl⟩ := hd d (List.mem_cons_self ..)
    obtain ⟨l', u4, u5, u6, u7, u8, e1, hp'⟩ := wh_turn h (k0 := k0) (k2 := k2) (k3 := t3) (k4 := t4) (k5 := t5) (k6 := t6) (k7 := t7) (k8 := t8) hp hw
    exact ⟨_, .inl e1, _, _, _, _, _, _, _, rfl, hp', fun d h => hd d (List.mem_cons_of_mem _ h)⟩) (ds := intsD 0 4) ⟨l, k3, k4, k5, k6, k7, k8, rfl, hp, fun d hd => by
      obtain ⟨j, hj, rfl⟩ := mem_intsD hd
      exact ⟨j, hj, by simp⟩⟩
  exact ⟨_, _, _, _, _, _, _, e1, hp'⟩
theorem law04 {T : Tb} (h : T04 T) (ns : List Int) (hn : ns.length ≤ 63) : callN T 21 "law" [.val (.klst (ns.map D.int))] [] = .ok (.val (.bl true)) [] := by
  rw [callN_eq h.law ⟨rfl, by decide⟩]
  have pot0 : Pot (.int 0 :: .int 7 :: .int 3 :: iD ns) := ⟨0, 7, 3, ns, rfl, by omega, by omega, by omega, by omega, by omega, hn⟩
  have hf : (ns.map D.int).map frz1 = iD ns := iD_frz
  have hl : (ns.map D.int).length = ns.length := by simp
  obtain ⟨m, hm2⟩ : ∃ m : Nat, max (1 : Int) (min 12 (ns.length : Int)) = (m : Int) := ⟨(max (1 : Int) (min 12 (ns.length : Int))).toNat, by omega⟩
  obtain ⟨e', hlp, l', t2, t3, t4, t5, t6, t7, t8, rfl, _⟩ := forL_nx (b := forB (T.ct 20) (.nm 2) [.for_ (.nm 3) (.rng (.cst (.int 4))) [.par [4, 5, 6] [.call "_law_given" [.var 1], .call "_law_given" [.var 1], .cmp .eq (.call "_law_take" [.var 1, .cst (.int 2)]) (.cst (.int 0))], .asg (.nm 7) (.call "_law_caught" [.var 3, .var 4, .var 6]), .asg (.nm 8) (.call "_law_caught" [.var 3, .var 5, .not (.var 6)]), .ite (.or (.not (.call "_law_right" [.var 7, .var 3, .var 4])) (.not (.call "_law_right" [.var 8, .var 3, .var 5]))) [.ret (.cst (.bl false))] []]]) (I := fun _ e => ∃ l t2 t3 t4 t5 t6 t7 t8, e = ⟨[.val (.klst (ns.map D.int)), .own l, t2, t3, t4, t5, t6, t7, t8], []⟩ ∧ Pot l) (fun d ds e hh => by
    obtain ⟨l, t2, t3, t4, t5, t6, t7, t8, rfl, hp⟩ := hh
    obtain ⟨l', u3, u4, u5, u6, u7, u8, e1, hp'⟩ := wh_loop h (k0 := .klst (ns.map D.int)) (k2 := .val d) (k3 := t3) (k4 := t4) (k5 := t5) (k6 := t6) (k7 := t7) (k8 := t8) hp
    simp only [whB] at e1
    refine ⟨⟨[.val (.klst (ns.map D.int)), .own l', .val d, u3, u4, u5, u6, u7, u8], []⟩, .inl ?_, _, _, _, _, _, _, _, _, rfl, hp'⟩
    simp (disch := omega) [e1]) (ds := intsD 0 m) ⟨_, .no, .no, .no, .no, .no, .no, .no, rfl, pot0⟩
  simp (disch := omega) [F_law4, b_law4, hf, hl, hm2, hlp]
end Fp.Z
/-! FpE2: the law of the errors. -/
namespace Fp.Z
open PySem Fp
def b_law_given0 : List Sm := [.asg (.nm 1) (.bin .sub (.bin .add (.bin .mul (.call "_law_take" [.var 0, .bin .pow (.cst (.int 10)) (.cst (.int 9))]) (.bin .pow (.cst (.int 10)) (.cst (.int 20)))) (.call "_law_take" [.var 0, .bin .pow (.cst (.int 10)) (.cst (.int 9))])) (.bin .pow (.cst (.int 10)) (.cst (.int 28)))), .asg (.nm 2) (.lst [.var 1, .call "_law_take" [.var 0, .cst (.int 9)], .cst (.str ""), .cst (.str "a b"), .cst .non, .cst (.bl true), .cst (.bl false), .tup [], .tup [.var 1, .cst (.int 1)], .lst [.var 1, .cst (.str "x")], .tup [.tup [.cst (.int 1), .cst (.int 2)], .tup [.cst (.str "to"), .tup []]], .lst []]), .ret (.idx (.bin .add (.var 2) (.lst [.neg (.cst (.int 1)), .cst (.int 0), .tup [.tup [.cst (.int 1), .cst (.int 0), .neg (.cst (.int 2))], .cst (.int 1)]])) (.call "_law_take" [.var 0, .cst (.int 15)]))]
def F_law_given0 : Fn := ⟨["pot"], 3, b_law_given0⟩
def b_law_kinds0 : List Sm := [.asg (.nm 1) (.lst [.ise (.var 0) "InvalidNumber", .ise (.var 0) "InvalidPolynomial", .ise (.var 0) "InvalidDegree"]), .asg (.nm 1) (.bin .add (.var 1) (.lst [.ise (.var 0) "InvalidInteger", .ise (.var 0) "InvalidPlace", .ise (.var 0) "InvalidPair"])), .asg (.nm 1) (.bin .add (.var 1) (.lst [.ise (.var 0) "InvalidSaying", .ise (.var 0) "InvalidSet", .ise (.var 0) "InvalidName"])), .asg (.nm 1) (.bin .add (.var 1) (.lst [.ise (.var 0) "UnknownName", .ise (.var 0) "NothingToUndo", .ise (.var 0) "Unreadable"])), .ret (.bin .add (.var 1) (.lst [.ise (.var 0) "Unorderly"]))]
def F_law_kinds0 : Fn := ⟨["e"], 2, b_law_kinds0⟩
def b_law_raised0 : List Sm := [.ite (.cmp .eq (.var 0) (.cst (.int 0))) [.ite (.var 2) [.rai "InvalidNumber" (.var 1)] [], .rai "InvalidNumber" (.var 1)] [], .ite (.cmp .eq (.var 0) (.cst (.int 1))) [.ite (.var 2) [.rai "InvalidPolynomial" (.var 1)] [], .rai "InvalidPolynomial" (.var 1)] [], .ite (.cmp .eq (.var 0) (.cst (.int 2))) [.ite (.var 2) [.rai "InvalidDegree" (.var 1)] [], .rai "InvalidDegree" (.var 1)] [], .ite (.cmp .eq (.var 0) (.cst (.int 3))) [.ite (.var 2) [.rai "InvalidInteger" (.var 1)] [], .rai "InvalidInteger" (.var 1)] [], .ite (.cmp .eq (.var 0) (.cst (.int 4))) [.ite (.var 2) [.rai "InvalidPlace" (.var 1)] [], .rai "InvalidPlace" (.var 1)] [], .ite (.cmp .eq (.var 0) (.cst (.int 5))) [.ite (.var 2) [.rai "InvalidPair" (.var 1)] [], .rai "InvalidPair" (.var 1)] [], .ite (.var 2) [.rai "InvalidSaying" (.var 1)] [], .rai "InvalidSaying" (.var 1)]
def F_law_raised0 : Fn := ⟨["which", "given", "named"], 3, b_law_raised0⟩
def b_law_raised_more0 : List Sm := [.ite (.cmp .eq (.var 0) (.cst (.int 7))) [.ite (.var 2) [.rai "InvalidSet" (.var 1)] [], .rai "InvalidSet" (.var 1)] [], .ite (.cmp .eq (.var 0) (.cst (.int 8))) [.ite (.var 2) [.rai "InvalidName" (.var 1)] [], .rai "InvalidName" (.var 1)] [], .ite (.cmp .eq (.var 0) (.cst (.int 9))) [.ite (.var 2) [.rai "UnknownName" (.var 1)] [], .rai "UnknownName" (.var 1)] [], .ite (.cmp .eq (.var 0) (.cst (.int 10))) [.ite (.var 2) [.rai "NothingToUndo" (.var 1)] [], .rai "NothingToUndo" (.var 1)] [], .ite (.cmp .eq (.var 0) (.cst (.int 11))) [.ite (.var 2) [.rai "Unreadable" (.var 1)] [], .rai "Unreadable" (.var 1)] [], .ite (.cmp .eq (.var 0) (.cst (.int 12))) [.ite (.var 2) [.rai "Unorderly" (.var 1)] [], .rai "Unorderly" (.var 1)] [], .ite (.var 2) [.rai "SignError" (.var 1)] [], .rai "SignError" (.var 1)]
def F_law_raised_more0 : Fn := ⟨["which", "given", "named"], 3, b_law_raised_more0⟩
def b_law_caught0 : List Sm := [.asg (.nm 3) (.cst .non), .kee [.ite (.cmp .lt (.var 0) (.cst (.int 7))) [.exp (.call "_law_raised" [.var 0, .var 1, .var 2])] [], .exp (.call "_law_raised_more" [.var 0, .var 1, .var 2])] "SignError" 4 3, .ret (.var 3)]
def F_law_caught0 : Fn := ⟨["which", "given", "named"], 5, b_law_caught0⟩
def b_law_right0 : List Sm := [.ite (.or (.cmp .is (.var 0) (.cst .non)) (.or (.not (.ise (.var 0) "ValueError")) (.not (.ise (.var 0) "SignError")))) [.ret (.cst (.bl false))] [], .ret (.and (.call "_law_same" [.call "_law_kinds" [.var 0], .comp (.cmp .eq (.var 4) (.var 1)) (.nm 4) (.rng (.cst (.int 13))) none [3, 4]]) (.call "_law_same" [.valof (.var 0), .var 2]))]
def F_law_right0 : Fn := ⟨["caught", "which", "given"], 5, b_law_right0⟩
def b_law0 : List Sm := [.asg (.nm 1) (.bin .add (.lst [.cst (.int 0), .cst (.int 7), .cst (.int 3)]) (.blt "list" [.var 0])), .for_ (.nm 2) (.rng (.blt "max" [.cst (.int 1), .blt "min" [.cst (.int 12), .blt "len" [.var 0]]])) [.for_ (.nm 3) (.rng (.cst (.int 14))) [.par [4, 5, 6] [.call "_law_given" [.var 1], .call "_law_given" [.var 1], .cmp .eq (.call "_law_take" [.var 1, .cst (.int 2)]) (.cst (.int 0))], .asg (.nm 7) (.call "_law_caught" [.var 3, .var 4, .var 6]), .asg (.nm 8) (.call "_law_caught" [.var 3, .var 5, .not (.var 6)]), .ite (.or (.not (.call "_law_right" [.var 7, .var 3, .var 4])) (.not (.call "_law_right" [.var 8, .var 3, .var 5]))) [.ret (.cst (.bl false))] []]], .ret (.cst (.bl true))]
def F_law0 : Fn := ⟨["script"], 9, b_law0⟩
structure T00 (T : Tb) : Prop where
  take : T.fns "_law_take" = some F_law_take
  same : T.fns "_law_same" = some F_law_same
  given : T.fns "_law_given" = some F_law_given0
  kinds : T.fns "_law_kinds" = some F_law_kinds0
  raised : T.fns "_law_raised" = some F_law_raised0
  more : T.fns "_law_raised_more" = some F_law_raised_more0
  caught : T.fns "_law_caught" = some F_law_caught0
  right : T.fns "_law_right" = some F_law_right0
  law : T.fns "law" = some F_law0
  sub : T.sub = sub04
/-! ### what is drawn -/
def some00 (far x : Int) : List D := [.int far, .int x, .str "", .str "a b", .non, .bl true, .bl false, .tup [], .tup [.int far, .int 1], .lst [.int far, .str "x"], .tup [.tup [.int 1, .int 2], .tup [.str "to", .tup []]], .lst [], .int (-1), .int 0, .tup [.tup [.int 1, .int 0, .int (-2)], .int 1]]
theorem some00_lv {far x : Int} : ∀ d ∈ some00 far x, Lv 3 d := by
  have n1 : ∀ {k : Nat}, Lv (k + 1) (.tup []) := fun {k} => ⟨by simp, fun d h => by cases h⟩
  intro d hd
  simp only [some00, List.mem_cons, List.not_mem_nil, or_false] at hd
  rcases hd with rfl | rfl | rfl | rfl | rfl | rfl | rfl | rfl | rfl | rfl | rfl | rfl | rfl | rfl | rfl
  · exact Lv_int
  · exact Lv_int
  · exact lv_str (by decide +kernel)
  · exact lv_str (by decide +kernel)
  · exact Lv_non
  · exact Lv_bl
  · exact Lv_bl
  · exact n1
  · refine ⟨by simp, fun d h => ?_⟩
    simp only [List.mem_cons, List.not_mem_nil, or_false] at h
    rcases h with rfl | rfl <;> exact Lv_int
  · refine ⟨by simp, fun d h => ?_⟩
    simp only [List.mem_cons, List.not_mem_nil, or_false] at h
    rcases h with rfl | rfl
    · exact Lv_int
    · exact lv_str (by decide +kernel)
  · refine ⟨by simp, fun d h => ?_⟩
    simp only [List.mem_cons, List.not_mem_nil, or_false] at h
    rcases h with rfl | rfl
    · refine ⟨by simp, fun d h => ?_⟩
      simp only [List.mem_cons, List.not_mem_nil, or_false] at h
      rcases h with rfl | rfl <;> exact Lv_int
    · refine ⟨by simp, fun d h => ?_⟩
      simp only [List.mem_cons, List.not_mem_nil, or_false] at h
      rcases h with rfl | rfl
      · exact lv_str (by decide +kernel)
      · exact n1
  · exact ⟨by simp, fun d h => by cases h⟩
  · exact Lv_int
  · exact Lv_int
  · refine ⟨by simp, fun d h => ?_⟩
    simp only [List.mem_cons, List.not_mem_nil, or_false] at h
    rcases h with rfl | rfl
    · refine ⟨by simp, fun d h => ?_⟩
      simp only [List.mem_cons, List.not_mem_nil, or_false] at h
      rcases h with rfl | rfl | rfl <;> exact Lv_int
    · exact Lv_int
theorem given00 {T : Tb} (h : T00 T) {n : Nat} {l : List D} (hp : Pot l) : (callN T (n + 2) "_law_given" [.lnk 0] [.own l]).gives fun r ps => ∃ (d : D) (l' : List D), r = .val d ∧ ps = [.own l'] ∧ Lv 3 d ∧ Pot l' := by
  apply gives_of
  intro P hP
  obtain ⟨_, _, e1, a1, l1, rfl, rfl, b1, c1, hp1⟩ := take_spec (n := n) h.take hp (many := 1000000000) (by decide) (by decide)
  obtain ⟨_, _, e2, a2, l2, rfl, rfl, b2, c2, hp2⟩ := take_spec (n := n) h.take hp1 (many := 1000000000) (by decide) (by decide)
  obtain ⟨_, _, e3, a3, l3, rfl, rfl, b3, c3, hp3⟩ := take_spec (n := n) h.take hp2 (many := 9) (by decide) (by decide)
  obtain ⟨_, _, e4, a4, l4, rfl, rfl, b4, c4, hp4⟩ := take_spec (n := n) h.take hp3 (many := 15) (by decide) (by decide)
  obtain ⟨d, hx, hd⟩ := atI_pos (ds := some00 (a1 * 100000000000000000000 + a2 - 10000000000000000000000000000) a3) b4 (by simpa [some00] using c4)
  have lv := some00_lv d hd
  simp only [some00] at hx
  rw [callN_eq h.given ⟨rfl, by decide⟩]
  simp (disch := omega) [F_law_given0, b_law_given0, p9, p20, p28, e1, e2, e3, e4, hx, locsApart, lv.frz]
  exact gives_ok (hP _ _ ⟨d, l4, rfl, rfl, lv, hp4⟩)
/-! ### raised, caught, judged -/
def nm00 (w : Nat) : String := ["InvalidNumber", "InvalidPolynomial", "InvalidDegree", "InvalidInteger", "InvalidPlace", "InvalidPair", "InvalidSaying", "InvalidSet", "InvalidName", "UnknownName", "NothingToUndo", "Unreadable", "Unorderly", "SignError"].getD w ""
theorem raised00 {T : Tb} (h : T00 T) {n : Nat} {d : D} {b : Bool} {w : Nat} (hw : w < 7) : callN T (n + 1) "_law_raised" [.val (.int w), .val d, .val (.bl b)] [] = .ex (nm00 w) d [] := by
  rw [callN_eq h.raised ⟨rfl, by decide⟩]
  obtain rfl | rfl | rfl | rfl | rfl | rfl | rfl : w = 0 ∨ w = 1 ∨ w = 2 ∨ w = 3 ∨ w = 4 ∨ w = 5 ∨ w = 6 := by omega
  all_goals cases b <;> simp (disch := omega) [F_law_raised0, b_law_raised0, nm00]
theorem more00 {T : Tb} (h : T00 T) {n : Nat} {d : D} {b : Bool} {w : Nat} (hw : w < 14) (h7 : ¬ w < 7) : callN T (n + 1) "_law_raised_more" [.val (.int w), .val d, .val (.bl b)] [] = .ex (nm00 w) d [] := by
  rw [callN_eq h.more ⟨rfl, by decide⟩]
  obtain rfl | rfl | rfl | rfl | rfl | rfl | rfl : w = 7 ∨ w = 8 ∨ w = 9 ∨ w = 10 ∨ w = 11 ∨ w = 12 ∨ w = 13 := by omega
  all_goals cases b <;> simp (disch := omega) [F_law_raised_more0, b_law_raised_more0, nm00]
theorem sub00_base {w : Nat} : sub04 (nm00 w) "SignError" = true := by simp [sub04]
theorem sub00_ve {w : Nat} : sub04 (nm00 w) "ValueError" = true := by simp [sub04]
theorem caught00 {T : Tb} (h : T00 T) {n : Nat} {d : D} {b : Bool} {w : Nat} (hw : w < 14) : callN T (n + 2) "_law_caught" [.val (.int w), .val d, .val (.bl b)] [] = .ok (.val (.exc (nm00 w) d)) [] := by
  rw [callN_eq h.caught ⟨rfl, by decide⟩]
  by_cases h7 : w < 7
  · simp (disch := omega) [F_law_caught0, b_law_caught0, raised00 h h7, locsApart, h.sub, sub00_base]
  · simp (disch := omega) [F_law_caught0, b_law_caught0, more00 h hw h7, locsApart, h.sub, sub00_base]
def kinds00 (w : Nat) : List D := (List.range 13).map fun k => .bl (decide (k = w))
theorem kinds00_spec {T : Tb} (h : T00 T) {n : Nat} {d : D} {w : Nat} (hw : w < 14) : callN T (n + 1) "_law_kinds" [.val (.exc (nm00 w) d)] [] = .ok (.fresh (kinds00 w)) [] := by
  rw [callN_eq h.kinds ⟨rfl, by decide⟩]
  obtain rfl | rfl | rfl | rfl | rfl | rfl | rfl | rfl | rfl | rfl | rfl | rfl | rfl | rfl : w = 0 ∨ w = 1 ∨ w = 2 ∨ w = 3 ∨ w = 4 ∨ w = 5 ∨ w = 6 ∨ w = 7 ∨ w = 8 ∨ w = 9 ∨ w = 10 ∨ w = 11 ∨ w = 12 ∨ w = 13 := by omega
  all_goals simp (disch := omega) [F_law_kinds0, b_law_kinds0, nm00, h.sub, sub04, kinds00, List.range_succ]
theorem kinds_flat0 {w : Nat} : (kinds00 w).map frz1 = kinds00 w := by
  unfold kinds00
  rw [List.map_map]
  rfl
theorem right00 {T : Tb} (h : T00 T) {n : Nat} {d : D} {w : Nat} (hw : w < 14) (hd : Lv 3 d) : callN T (n + 6) "_law_right" [.val (.exc (nm00 w) d), .val (.int w), .val d] [] = .ok (.val (.bl true)) [] := by
  rw [callN_eq h.right ⟨rfl, by decide⟩]
  have e1 := kinds00_spec h (n := n + 4) (d := d) hw
  have hc := compL_map (f := compB (T.ct (n + 5)) (.cmp .eq (.var 4) (.var 1)) (.nm 4) none [3, 4]) (g := fun x => match x with | .int k => .bl (decide (k = (w : Int))) | _ => .non) (e := ⟨[.val (.exc (nm00 w) d), .val (.int w), .val d, .no, .no], []⟩) (ds := intsD 0 13) (fun x hx => by
    obtain ⟨j, hj, rfl⟩ := mem_intsD hx
    simp (disch := omega) [D.eqOk])
  have hm : ((intsD 0 13).map fun x => match x with | .int k => D.bl (decide (k = (w : Int))) | _ => .non) = kinds00 w := by
    unfold intsD kinds00
    rw [List.map_map]
    refine List.map_congr_left fun k hk => ?_
    simp
    omega
  rw [hm] at hc
  have e2 := same_own (k := 0) (n := n + 4) (xs := kinds00 w) (ys := kinds00 w) (zs := kinds00 w) h.same (by omega) kinds_flat0 kinds_flat0 ⟨by simp [kinds00], fun x hx => by
    obtain ⟨k, _, rfl⟩ := List.mem_map.mp hx
    exact Lv_bl⟩
  have e3 := same_spec h.same 3 d (n + 5) (by omega) hd
  have kl : (kinds00 w).length ≤ 16777216 := by simp [kinds00]
  simp (disch := omega) [F_law_right0, b_law_right0, e1, e2, e3, hc, h.sub, sub00_ve, sub00_base, locsApart, D.isNon, kl]
/-! ### the law -/
noncomputable abbrev whB0 (T : Tb) (n : Nat) : D → Env → SR := forB (T.ct n) (.nm 3) [.par [4, 5, 6] [.call "_law_given" [.var 1], .call "_law_given" [.var 1], .cmp .eq (.call "_law_take" [.var 1, .cst (.int 2)]) (.cst (.int 0))], .asg (.nm 7) (.call "_law_caught" [.var 3, .var 4, .var 6]), .asg (.nm 8) (.call "_law_caught" [.var 3, .var 5, .not (.var 6)]), .ite (.or (.not (.call "_law_right" [.var 7, .var 3, .var 4])) (.not (.call "_law_right" [.var 8, .var 3, .var 5]))) [.ret (.cst (.bl false))] []]
theorem wh_turn0 {T : Tb} (h : T00 T) {k2 k3 k4 k5 k6 k7 k8 : Sl} {k0 : D} {l : List D} (hp : Pot l) {w : Nat} (hw : w < 14) : ∃ l' t4 t5 t6 t7 t8, whB0 T 20 (.int w) ⟨[.val k0, .own l, k2, k3, k4, k5, k6, k7, k8], []⟩ = .nx ⟨[.val k0, .own l', k2, .val (.int w), t4, t5, t6, t7, t8], []⟩ ∧ Pot l' := by
  obtain ⟨_, _, e1, d1, l1, rfl, rfl, v1, hp1⟩ := given00 (n := 18) h hp
  obtain ⟨_, _, e2, d2, l2, rfl, rfl, v2, hp2⟩ := given00 (n := 18) h hp1
  obtain ⟨_, _, e3, r, l3, rfl, rfl, r0, r1, hp3⟩ := take_spec (n := 19) h.take hp2 (many := 2) (by omega) (by omega)
  have c1 := fun b => caught00 h (n := 18) (d := d1) (b := b) hw
  have c2 := fun b => caught00 h (n := 18) (d := d2) (b := b) hw
  have q1 := right00 h (n := 14) (d := d1) hw v1
  have q2 := right00 h (n := 14) (d := d2) hw v2
  refine ⟨l3, .val d1, .val d2, .val (.bl (decide (r = 0))), .val (.exc (nm00 w) d1), .val (.exc (nm00 w) d2), ?_, hp3⟩
  simp (disch := omega) [whB0, e1, e2, e3, c1, c2, q1, q2, locsApart]
theorem wh_loop0 {T : Tb} (h : T00 T) {k2 k3 k4 k5 k6 k7 k8 : Sl} {k0 : D} {l : List D} (hp : Pot l) : ∃ l' t3 t4 t5 t6 t7 t8, forL (whB0 T 20) (intsD 0 14) ⟨[.val k0, .own l, k2, k3, k4, k5, k6, k7, k8], []⟩ = .nx ⟨[.val k0, .own l', k2, t3, t4, t5, t6, t7, t8], []⟩ ∧ Pot l' := by
  obtain ⟨e', e1, l', t3, t4, t5, t6, t7, t8, rfl, hp', _⟩ := forL_nx (b := whB0 T 20) (I := fun ds e => ∃ l t3 t4 t5 t6 t7 t8, e = ⟨[.val k0, .own l, k2, t3, t4, t5, t6, t7, t8], []⟩ ∧ Pot l ∧ ∀ d ∈ ds, ∃ w : Nat, w < 14 ∧ d = .int w) (fun d ds e hh => by
    obtain ⟨l, t3, t4, t5, t6, t7, t8, rfl, hp, hd⟩ := hh
    obtain ⟨w, hw, rfl⟩ := hd d (List.mem_cons_self ..)
    obtain ⟨l', u4, u5, u6, u7, u8, e1, hp'⟩ := wh_turn0 h (k0 := k0) (k2 := k2) (k3 := t3) (k4 := t4) (k5 := t5) (k6 := t6) (k7 := t7) (k8 := t8) hp hw
    exact ⟨_, .inl e1, _, _, _, _, _, _, _, rfl, hp', fun d h => hd d (List.mem_cons_of_mem _ h)⟩) (ds := intsD 0 14) ⟨l, k3, k4, k5, k6, k7, k8, rfl, hp, fun d hd => by
      obtain ⟨j, hj, rfl⟩ := mem_intsD hd
      exact ⟨j, hj, by simp⟩⟩
  exact ⟨_, _, _, _, _, _, _, e1, hp'⟩
theorem law00 {T : Tb} (h : T00 T) (ns : List Int) (hn : ns.length ≤ 63) : callN T 21 "law" [.val (.klst (ns.map D.int))] [] = .ok (.val (.bl true)) [] := by
  rw [callN_eq h.law ⟨rfl, by decide⟩]
  have pot0 : Pot (.int 0 :: .int 7 :: .int 3 :: iD ns) := ⟨0, 7, 3, ns, rfl, by omega, by omega, by omega, by omega, by omega, hn⟩
  have hf : (ns.map D.int).map frz1 = iD ns := iD_frz
  have hl : (ns.map D.int).length = ns.length := by simp
  obtain ⟨m, hm2⟩ : ∃ m : Nat, max (1 : Int) (min 12 (ns.length : Int)) = (m : Int) := ⟨(max (1 : Int) (min 12 (ns.length : Int))).toNat, by omega⟩
  obtain ⟨e', hlp, l', t2, t3, t4, t5, t6, t7, t8, rfl, _⟩ := forL_nx (b := forB (T.ct 20) (.nm 2) [.for_ (.nm 3) (.rng (.cst (.int 14))) [.par [4, 5, 6] [.call "_law_given" [.var 1], .call "_law_given" [.var 1], .cmp .eq (.call "_law_take" [.var 1, .cst (.int 2)]) (.cst (.int 0))], .asg (.nm 7) (.call "_law_caught" [.var 3, .var 4, .var 6]), .asg (.nm 8) (.call "_law_caught" [.var 3, .var 5, .not (.var 6)]), .ite (.or (.not (.call "_law_right" [.var 7, .var 3, .var 4])) (.not (.call "_law_right" [.var 8, .var 3, .var 5]))) [.ret (.cst (.bl false))] []]]) (I := fun _ e => ∃ l t2 t3 t4 t5 t6 t7 t8, e = ⟨[.val (.klst (ns.map D.int)), .own l, t2, t3, t4, t5, t6, t7, t8], []⟩ ∧ Pot l) (fun d ds e hh => by
    obtain ⟨l, t2, t3, t4, t5, t6, t7, t8, rfl, hp⟩ := hh
    obtain ⟨l', u3, u4, u5, u6, u7, u8, e1, hp'⟩ := wh_loop0 h (k0 := .klst (ns.map D.int)) (k2 := .val d) (k3 := t3) (k4 := t4) (k5 := t5) (k6 := t6) (k7 := t7) (k8 := t8) hp
    simp only [whB0] at e1
    refine ⟨⟨[.val (.klst (ns.map D.int)), .own l', .val d, u3, u4, u5, u6, u7, u8], []⟩, .inl ?_, _, _, _, _, _, _, _, _, rfl, hp'⟩
    simp (disch := omega) [e1]) (ds := intsD 0 m) ⟨_, .no, .no, .no, .no, .no, .no, .no, rfl, pot0⟩
  simp (disch := omega) [F_law0, b_law0, hf, hl, hm2, hlp]
end Fp.Z
namespace K00
open PySem PySem.Spec PyProof.Rows L2 Fp
abbrev stm (i : Nat) : Stmt := PySem.Challenge.pw_wholeplanes_k00_errors.main.body.getD i (.Pass ⟨0, 0, 0, 0⟩)
def d_law_take : Df := ⟨"_law_take", "_law_take", defArgs (stm 16), defBody (stm 16), defScope (stm 16), ["pot", "many"]⟩
def d_law_same : Df := ⟨"_law_same", "_law_same", defArgs (stm 17), defBody (stm 17), defScope (stm 17), ["got", "due"]⟩
def d_law_raised : Df := ⟨"_law_raised", "_law_raised", defArgs (stm 18), defBody (stm 18), defScope (stm 18), ["which", "given", "named"]⟩
def d_law_raised_more : Df := ⟨"_law_raised_more", "_law_raised_more", defArgs (stm 19), defBody (stm 19), defScope (stm 19), ["which", "given", "named"]⟩
def d_law_kinds : Df := ⟨"_law_kinds", "_law_kinds", defArgs (stm 20), defBody (stm 20), defScope (stm 20), ["e"]⟩
def d_law_given : Df := ⟨"_law_given", "_law_given", defArgs (stm 21), defBody (stm 21), defScope (stm 21), ["pot"]⟩
def d_law_caught : Df := ⟨"_law_caught", "_law_caught", defArgs (stm 22), defBody (stm 22), defScope (stm 22), ["which", "given", "named"]⟩
def d_law_right : Df := ⟨"_law_right", "_law_right", defArgs (stm 23), defBody (stm 23), defScope (stm 23), ["caught", "which", "given"]⟩
def d_law : Df := ⟨"law", "law", defArgs (stm 24), defBody (stm 24), defScope (stm 24), ["script"]⟩
def parsF (f : String) : Option (List String) := List.lookup f []
def G : Gt := ⟨[("_law_take", "_law_take"), ("_law_same", "_law_same"), ("_law_raised", "_law_raised"), ("_law_raised_more", "_law_raised_more"), ("_law_kinds", "_law_kinds"), ("_law_given", "_law_given"), ("_law_caught", "_law_caught"), ("_law_right", "_law_right"), ("law", "law")], [], [], parsF, false, false, [], [("SignError", "SignError"), ("InvalidNumber", "InvalidNumber"), ("InvalidPolynomial", "InvalidPolynomial"), ("InvalidDegree", "InvalidDegree"), ("InvalidInteger", "InvalidInteger"), ("InvalidPlace", "InvalidPlace"), ("InvalidPair", "InvalidPair"), ("InvalidSaying", "InvalidSaying"), ("InvalidSet", "InvalidSet"), ("InvalidName", "InvalidName"), ("UnknownName", "UnknownName"), ("NothingToUndo", "NothingToUndo"), ("Unreadable", "Unreadable"), ("Unorderly", "Unorderly")]⟩
def b_law_take : List Sm := [.ite (.and (.cmp .eq (.idx (.var 0) (.cst (.int 0))) (.cst (.int 0))) (.cmp .lt (.idx (.var 0) (.cst (.int 2))) (.blt "len" [.var 0]))) [.asg (.nm 2) (.idx (.var 0) (.idx (.var 0) (.cst (.int 2)))), .augI (.var 0) (.cst (.int 2)) (.cst (.int 1)), .ite (.cmp .ge (.var 2) (.bin .pow (.cst (.int 10)) (.cst (.int 18)))) [.setI (.var 0) (.cst (.int 0)) (.bin .sub (.var 2) (.bin .pow (.cst (.int 10)) (.cst (.int 18))))] [.asg (.nm 3) (.bin .mod (.blt "int" [.var 2]) (.cst (.int 2147483647))), .asg (.nm 3) (.bin .mod (.blt "int" [.bin .add (.bin .add (.bin .mul (.var 3) (.var 3)) (.bin .mul (.cst (.int 69621)) (.var 3))) (.bin .mul (.cst (.int 977)) (.idx (.var 0) (.cst (.int 2))))]) (.cst (.int 2147483629))), .setI (.var 0) (.cst (.int 1)) (.bin .mod (.blt "int" [.bin .add (.idx (.var 0) (.cst (.int 1))) (.var 3)]) (.cst (.int 2147483629)))]] [], .ite (.cmp .gt (.idx (.var 0) (.cst (.int 0))) (.cst (.int 0))) [.asg (.nm 4) (.bin .mod (.blt "int" [.idx (.var 0) (.cst (.int 0))]) (.var 1)), .setI (.var 0) (.cst (.int 0)) (.bin .fdiv (.idx (.var 0) (.cst (.int 0))) (.var 1)), .ret (.var 4)] [], .setI (.var 0) (.cst (.int 1)) (.bin .mod (.blt "int" [.bin .add (.bin .add (.bin .mul (.idx (.var 0) (.cst (.int 1))) (.cst (.int 48271))) (.bin .mul (.cst (.int 40692)) (.idx (.var 0) (.cst (.int 2))))) (.cst (.int 11))]) (.cst (.int 2147483647))), .setI (.var 0) (.cst (.int 1)) (.bin .mod (.blt "int" [.bin .add (.bin .mul (.idx (.var 0) (.cst (.int 1))) (.idx (.var 0) (.cst (.int 1)))) (.cst (.int 7))]) (.cst (.int 2147483629))), .ret (.bin .mod (.blt "int" [.bin .fdiv (.idx (.var 0) (.cst (.int 1))) (.cst (.int 8))]) (.var 1))]
def F_law_take : Fn := ⟨["pot", "many"], 5, b_law_take⟩
def b_law_same : List Sm := [.ite (.cmp .is (.var 1) (.cst .non)) [.ret (.cmp .is (.var 0) (.cst .non))] [], .ite (.isi (.var 1) ["bool", "str"]) [.ret (.and (.cmp .eq (.isi (.var 0) ["bool"]) (.isi (.var 1) ["bool"])) (.and (.isi (.var 0) ["bool", "str"]) (.cmp .eq (.var 0) (.var 1))))] [], .ite (.isi (.var 1) ["int"]) [.ret (.and (.isi (.var 0) ["int"]) (.and (.not (.isi (.var 0) ["bool"])) (.cmp .eq (.var 0) (.var 1))))] [], .ite (.or (.cmp .ne (.isi (.var 1) ["list"]) (.isi (.var 0) ["list"])) (.cmp .ne (.isi (.var 1) ["tuple"]) (.isi (.var 0) ["tuple"]))) [.ret (.cst (.bl false))] [], .ret (.and (.cmp .eq (.blt "len" [.var 0]) (.blt "len" [.var 1])) (.blt "all" [.comp (.call "_law_same" [.idx (.var 0) (.var 3), .idx (.var 1) (.var 3)]) (.nm 3) (.rng (.blt "len" [.var 1])) none [2, 3]]))]
def F_law_same : Fn := ⟨["got", "due"], 4, b_law_same⟩
def b_law_raised : List Sm := [.ite (.cmp .eq (.var 0) (.cst (.int 0))) [.ite (.var 2) [.rai "InvalidNumber" (.var 1)] [], .rai "InvalidNumber" (.var 1)] [], .ite (.cmp .eq (.var 0) (.cst (.int 1))) [.ite (.var 2) [.rai "InvalidPolynomial" (.var 1)] [], .rai "InvalidPolynomial" (.var 1)] [], .ite (.cmp .eq (.var 0) (.cst (.int 2))) [.ite (.var 2) [.rai "InvalidDegree" (.var 1)] [], .rai "InvalidDegree" (.var 1)] [], .ite (.cmp .eq (.var 0) (.cst (.int 3))) [.ite (.var 2) [.rai "InvalidInteger" (.var 1)] [], .rai "InvalidInteger" (.var 1)] [], .ite (.cmp .eq (.var 0) (.cst (.int 4))) [.ite (.var 2) [.rai "InvalidPlace" (.var 1)] [], .rai "InvalidPlace" (.var 1)] [], .ite (.cmp .eq (.var 0) (.cst (.int 5))) [.ite (.var 2) [.rai "InvalidPair" (.var 1)] [], .rai "InvalidPair" (.var 1)] [], .ite (.var 2) [.rai "InvalidSaying" (.var 1)] [], .rai "InvalidSaying" (.var 1)]
def F_law_raised : Fn := ⟨["which", "given", "named"], 3, b_law_raised⟩
def b_law_raised_more : List Sm := [.ite (.cmp .eq (.var 0) (.cst (.int 7))) [.ite (.var 2) [.rai "InvalidSet" (.var 1)] [], .rai "InvalidSet" (.var 1)] [], .ite (.cmp .eq (.var 0) (.cst (.int 8))) [.ite (.var 2) [.rai "InvalidName" (.var 1)] [], .rai "InvalidName" (.var 1)] [], .ite (.cmp .eq (.var 0) (.cst (.int 9))) [.ite (.var 2) [.rai "UnknownName" (.var 1)] [], .rai "UnknownName" (.var 1)] [], .ite (.cmp .eq (.var 0) (.cst (.int 10))) [.ite (.var 2) [.rai "NothingToUndo" (.var 1)] [], .rai "NothingToUndo" (.var 1)] [], .ite (.cmp .eq (.var 0) (.cst (.int 11))) [.ite (.var 2) [.rai "Unreadable" (.var 1)] [], .rai "Unreadable" (.var 1)] [], .ite (.cmp .eq (.var 0) (.cst (.int 12))) [.ite (.var 2) [.rai "Unorderly" (.var 1)] [], .rai "Unorderly" (.var 1)] [], .ite (.var 2) [.rai "SignError" (.var 1)] [], .rai "SignError" (.var 1)]
def F_law_raised_more : Fn := ⟨["which", "given", "named"], 3, b_law_raised_more⟩
def b_law_kinds : List Sm := [.asg (.nm 1) (.lst [.ise (.var 0) "InvalidNumber", .ise (.var 0) "InvalidPolynomial", .ise (.var 0) "InvalidDegree"]), .asg (.nm 1) (.bin .add (.var 1) (.lst [.ise (.var 0) "InvalidInteger", .ise (.var 0) "InvalidPlace", .ise (.var 0) "InvalidPair"])), .asg (.nm 1) (.bin .add (.var 1) (.lst [.ise (.var 0) "InvalidSaying", .ise (.var 0) "InvalidSet", .ise (.var 0) "InvalidName"])), .asg (.nm 1) (.bin .add (.var 1) (.lst [.ise (.var 0) "UnknownName", .ise (.var 0) "NothingToUndo", .ise (.var 0) "Unreadable"])), .ret (.bin .add (.var 1) (.lst [.ise (.var 0) "Unorderly"]))]
def F_law_kinds : Fn := ⟨["e"], 2, b_law_kinds⟩
def b_law_given : List Sm := [.asg (.nm 1) (.bin .sub (.bin .add (.bin .mul (.call "_law_take" [.var 0, .bin .pow (.cst (.int 10)) (.cst (.int 9))]) (.bin .pow (.cst (.int 10)) (.cst (.int 20)))) (.call "_law_take" [.var 0, .bin .pow (.cst (.int 10)) (.cst (.int 9))])) (.bin .pow (.cst (.int 10)) (.cst (.int 28)))), .asg (.nm 2) (.lst [.var 1, .call "_law_take" [.var 0, .cst (.int 9)], .cst (.str ""), .cst (.str "a b"), .cst .non, .cst (.bl true), .cst (.bl false), .tup [], .tup [.var 1, .cst (.int 1)], .lst [.var 1, .cst (.str "x")], .tup [.tup [.cst (.int 1), .cst (.int 2)], .tup [.cst (.str "to"), .tup []]], .lst []]), .ret (.idx (.bin .add (.var 2) (.lst [.neg (.cst (.int 1)), .cst (.int 0), .tup [.tup [.cst (.int 1), .cst (.int 0), .neg (.cst (.int 2))], .cst (.int 1)]])) (.call "_law_take" [.var 0, .cst (.int 15)]))]
def F_law_given : Fn := ⟨["pot"], 3, b_law_given⟩
def b_law_caught : List Sm := [.asg (.nm 3) (.cst .non), .kee [.ite (.cmp .lt (.var 0) (.cst (.int 7))) [.exp (.call "_law_raised" [.var 0, .var 1, .var 2])] [], .exp (.call "_law_raised_more" [.var 0, .var 1, .var 2])] "SignError" 4 3, .ret (.var 3)]
def F_law_caught : Fn := ⟨["which", "given", "named"], 5, b_law_caught⟩
def b_law_right : List Sm := [.ite (.or (.cmp .is (.var 0) (.cst .non)) (.or (.not (.ise (.var 0) "ValueError")) (.not (.ise (.var 0) "SignError")))) [.ret (.cst (.bl false))] [], .ret (.and (.call "_law_same" [.call "_law_kinds" [.var 0], .comp (.cmp .eq (.var 4) (.var 1)) (.nm 4) (.rng (.cst (.int 13))) none [3, 4]]) (.call "_law_same" [.valof (.var 0), .var 2]))]
def F_law_right : Fn := ⟨["caught", "which", "given"], 5, b_law_right⟩
def b_law : List Sm := [.asg (.nm 1) (.bin .add (.lst [.cst (.int 0), .cst (.int 7), .cst (.int 3)]) (.blt "list" [.var 0])), .for_ (.nm 2) (.rng (.blt "max" [.cst (.int 1), .blt "min" [.cst (.int 12), .blt "len" [.var 0]]])) [.for_ (.nm 3) (.rng (.cst (.int 14))) [.par [4, 5, 6] [.call "_law_given" [.var 1], .call "_law_given" [.var 1], .cmp .eq (.call "_law_take" [.var 1, .cst (.int 2)]) (.cst (.int 0))], .asg (.nm 7) (.call "_law_caught" [.var 3, .var 4, .var 6]), .asg (.nm 8) (.call "_law_caught" [.var 3, .var 5, .not (.var 6)]), .ite (.or (.not (.call "_law_right" [.var 7, .var 3, .var 4])) (.not (.call "_law_right" [.var 8, .var 3, .var 5]))) [.ret (.cst (.bl false))] []]], .ret (.cst (.bl true))]
def F_law : Fn := ⟨["script"], 9, b_law⟩
def T : Tb := ⟨fun f => List.lookup f [("_law_take", F_law_take), ("_law_same", F_law_same), ("_law_raised", F_law_raised), ("_law_raised_more", F_law_raised_more), ("_law_kinds", F_law_kinds), ("_law_given", F_law_given), ("_law_caught", F_law_caught), ("_law_right", F_law_right), ("law", F_law)], fun x => List.lookup x [], fun a b => (b == "ValueError") || ((b == "SignError") || (a == b))⟩
theorem t_law_take : T.fns d_law_take.f = some (d_law_take.fn G) := by kernel_rfl
theorem ok_law_take : DfOk G T d_law_take := DfOk.of t_law_take ⟨rfl, rfl, rfl, by decide +kernel, by decide +kernel, by decide +kernel, by decide +kernel⟩ (fun _ _ _ _ _ _ us hl => match us, hl with | [_, _], _ => rfl) (fun t ht => by
  have e : G.kws.filter (fun t => t.1 == d_law_take.f) = [] := by decide +kernel
  rw [e] at ht
  cases ht)
theorem t_law_same : T.fns d_law_same.f = some (d_law_same.fn G) := by kernel_rfl
theorem ok_law_same : DfOk G T d_law_same := DfOk.of t_law_same ⟨rfl, rfl, rfl, by decide +kernel, by decide +kernel, by decide +kernel, by decide +kernel⟩ (fun _ _ _ _ _ _ us hl => match us, hl with | [_, _], _ => rfl) (fun t ht => by
  have e : G.kws.filter (fun t => t.1 == d_law_same.f) = [] := by decide +kernel
  rw [e] at ht
  cases ht)
theorem t_law_raised : T.fns d_law_raised.f = some (d_law_raised.fn G) := by kernel_rfl
theorem ok_law_raised : DfOk G T d_law_raised := DfOk.of t_law_raised ⟨rfl, rfl, rfl, by decide +kernel, by decide +kernel, by decide +kernel, by decide +kernel⟩ (fun _ _ _ _ _ _ us hl => match us, hl with | [_, _, _], _ => rfl) (fun t ht => by
  have e : G.kws.filter (fun t => t.1 == d_law_raised.f) = [] := by decide +kernel
  rw [e] at ht
  cases ht)
theorem t_law_raised_more : T.fns d_law_raised_more.f = some (d_law_raised_more.fn G) := by kernel_rfl
theorem ok_law_raised_more : DfOk G T d_law_raised_more := DfOk.of t_law_raised_more ⟨rfl, rfl, rfl, by decide +kernel, by decide +kernel, by decide +kernel, by decide +kernel⟩ (fun _ _ _ _ _ _ us hl => match us, hl with | [_, _, _], _ => rfl) (fun t ht => by
  have e : G.kws.filter (fun t => t.1 == d_law_raised_more.f) = [] := by decide +kernel
  rw [e] at ht
  cases ht)
theorem t_law_kinds : T.fns d_law_kinds.f = some (d_law_kinds.fn G) := by kernel_rfl
theorem ok_law_kinds : DfOk G T d_law_kinds := DfOk.of t_law_kinds ⟨rfl, rfl, rfl, by decide +kernel, by decide +kernel, by decide +kernel, by decide +kernel⟩ (fun _ _ _ _ _ _ us hl => match us, hl with | [_], _ => rfl) (fun t ht => by
  have e : G.kws.filter (fun t => t.1 == d_law_kinds.f) = [] := by decide +kernel
  rw [e] at ht
  cases ht)
theorem t_law_given : T.fns d_law_given.f = some (d_law_given.fn G) := by kernel_rfl
theorem ok_law_given : DfOk G T d_law_given := DfOk.of t_law_given ⟨rfl, rfl, rfl, by decide +kernel, by decide +kernel, by decide +kernel, by decide +kernel⟩ (fun _ _ _ _ _ _ us hl => match us, hl with | [_], _ => rfl) (fun t ht => by
  have e : G.kws.filter (fun t => t.1 == d_law_given.f) = [] := by decide +kernel
  rw [e] at ht
  cases ht)
theorem t_law_caught : T.fns d_law_caught.f = some (d_law_caught.fn G) := by kernel_rfl
theorem ok_law_caught : DfOk G T d_law_caught := DfOk.of t_law_caught ⟨rfl, rfl, rfl, by decide +kernel, by decide +kernel, by decide +kernel, by decide +kernel⟩ (fun _ _ _ _ _ _ us hl => match us, hl with | [_, _, _], _ => rfl) (fun t ht => by
  have e : G.kws.filter (fun t => t.1 == d_law_caught.f) = [] := by decide +kernel
  rw [e] at ht
  cases ht)
theorem t_law_right : T.fns d_law_right.f = some (d_law_right.fn G) := by kernel_rfl
theorem ok_law_right : DfOk G T d_law_right := DfOk.of t_law_right ⟨rfl, rfl, rfl, by decide +kernel, by decide +kernel, by decide +kernel, by decide +kernel⟩ (fun _ _ _ _ _ _ us hl => match us, hl with | [_, _, _], _ => rfl) (fun t ht => by
  have e : G.kws.filter (fun t => t.1 == d_law_right.f) = [] := by decide +kernel
  rw [e] at ht
  cases ht)
theorem t_law : T.fns d_law.f = some (d_law.fn G) := by kernel_rfl
theorem ok_law : DfOk G T d_law := DfOk.of t_law ⟨rfl, rfl, rfl, by decide +kernel, by decide +kernel, by decide +kernel, by decide +kernel⟩ (fun _ _ _ _ _ _ us hl => match us, hl with | [_], _ => rfl) (fun t ht => by
  have e : G.kws.filter (fun t => t.1 == d_law.f) = [] := by decide +kernel
  rw [e] at ht
  cases ht)
/-! ### the head -/
def ds : List Df := [d_law_take, d_law_same, d_law_raised, d_law_raised_more, d_law_kinds, d_law_given, d_law_caught, d_law_right, d_law]
def fa : List He.Fa := [He.Fa.glo "_law_take", He.Fa.glo "_law_same", He.Fa.glo "_law_raised", He.Fa.glo "_law_raised_more", He.Fa.glo "_law_kinds", He.Fa.glo "_law_given", He.Fa.glo "_law_caught", He.Fa.glo "_law_right", He.Fa.glo "law", He.Fa.free "len", He.Fa.free "abs", He.Fa.free "int", He.Fa.free "tuple", He.Fa.free "list", He.Fa.free "all", He.Fa.free "any", He.Fa.free "sum", He.Fa.free "min", He.Fa.free "max", He.Fa.free "bool", He.Fa.free "str", He.Fa.free "isinstance", He.Fa.free "range", He.Fa.free "enumerate", He.Fa.free "zip"]
def cs : List (Str × D) := []
def bs : List (Str × String) := []
abbrev R : PySem.W.OpenRow := PySem.W.OpenLaw.row PySem.Challenge.rw_wholeplanes_k00_errors
abbrev initS : Stmt := (clsBody (stm 1)).getD 0 (.Pass ⟨0, 0, 0, 0⟩)
def initD : He.DefD := ⟨("SignError", some "__init__"), "__init__", "SignError.__init__", defArgs initS, defBody initS, defScope initS, [], []⟩
def xs : List He.DefD := [initD]
def eb (K : PySem.W.Frag) : Bool := errsB K "SignError" G.errs T.sub
abbrev hk : PySem.W.Hook := hookF 5 fa (ds.map Df.he ++ xs) cs bs eb
def ob (s : PySem.W.SharedT) : AlF := obsF 5 fa (ds.map Df.he ++ xs) cs bs eb (HandSHeadRun.getT s)
theorem ob_eq (s : PySem.W.SharedT) : ob s = hk.obs s.abs := obsF_eq (HandSHeadRun.getT_eq s)
def loose0 : List PySem.Str := ["SignError", "InvalidNumber", "InvalidPolynomial", "InvalidDegree", "InvalidInteger", "InvalidPlace", "InvalidPair", "InvalidSaying", "InvalidSet", "InvalidName", "UnknownName", "NothingToUndo", "Unreadable", "Unorderly", "_law_take", "_law_same", "_law_raised", "_law_raised_more", "_law_kinds", "_law_given"]
def loose1 : List PySem.Str := ["_law_caught", "_law_right"]
def loose : List PySem.Str := loose0 ++ loose1
theorem run (w : World) : HandSHeadRun.RunEq R (PySem.W.view R.prog [24]) hk ob 4000 loose w := by
  intro os
  kernel_rfl
def LEVEL : Nat := 20
theorem md {K : PySem.W.Frag} {mg : PySem.Str → Option Value} {h : Heap} (KX : K.In h) (Gn : h.Ns mainGlobals mg) (c : He.SaysD fa (ds.map Df.he ++ xs) K) (mb : (moreB K cs bs && eb K) = true) : Md G T K mg (seF K G.errs) :=
  md_of KX Gn c (Bool.and_eq_true_iff.mp mb).1 (errs_of (b0 := "SignError") (nm := "__init__") (ql := "SignError.__init__") (ps := defArgs initS) (body := defBody initS) (sc := defScope initS) KX Gn (Bool.and_eq_true_iff.mp mb).2 (by decide +kernel) (c.def_ 9 (d := initD) rfl)
    ⟨rfl, rfl, rfl, by decide +kernel, by decide +kernel, by decide +kernel, by decide +kernel⟩ ⟨⟨5, 8, 5, 18⟩, ⟨5, 8, 5, 27⟩, ⟨5, 28, 5, 32⟩, ⟨5, 34, 5, 39⟩, ⟨5, 8, 5, 40⟩, ⟨5, 8, 5, 40⟩, ⟨6, 8, 6, 12⟩, ⟨6, 8, 6, 18⟩, ⟨6, 21, 6, 26⟩, ⟨6, 8, 6, 26⟩, by decide, by kernel_rfl⟩ (by decide +kernel) (by decide +kernel) (by decide +kernel) (fun _ _ _ _ _ _ us hl => match us, hl with | [_, _], _ => rfl) (fun _ _ _ _ _ _ _ _ => rfl)) rfl (Fp.fm_cons ok_law_take (Fp.fm_cons ok_law_same (Fp.fm_cons ok_law_raised (Fp.fm_cons ok_law_raised_more (Fp.fm_cons ok_law_kinds (Fp.fm_cons ok_law_given (Fp.fm_cons ok_law_caught (Fp.fm_cons ok_law_right (Fp.fm_cons ok_law Fp.fm_nil)))))))))
    (Fp.fm_cons (List.mem_of_getElem? (show fa[0]? = some (He.Fa.glo d_law_take.x) from rfl)) (Fp.fm_cons (List.mem_of_getElem? (show fa[1]? = some (He.Fa.glo d_law_same.x) from rfl)) (Fp.fm_cons (List.mem_of_getElem? (show fa[2]? = some (He.Fa.glo d_law_raised.x) from rfl)) (Fp.fm_cons (List.mem_of_getElem? (show fa[3]? = some (He.Fa.glo d_law_raised_more.x) from rfl)) (Fp.fm_cons (List.mem_of_getElem? (show fa[4]? = some (He.Fa.glo d_law_kinds.x) from rfl)) (Fp.fm_cons (List.mem_of_getElem? (show fa[5]? = some (He.Fa.glo d_law_given.x) from rfl)) (Fp.fm_cons (List.mem_of_getElem? (show fa[6]? = some (He.Fa.glo d_law_caught.x) from rfl)) (Fp.fm_cons (List.mem_of_getElem? (show fa[7]? = some (He.Fa.glo d_law_right.x) from rfl)) (Fp.fm_cons (List.mem_of_getElem? (show fa[8]? = some (He.Fa.glo d_law.x) from rfl)) Fp.fm_nil)))))))))
    (Fp.fm_cons (List.mem_of_getElem? (show fa[9]? = some (He.Fa.free "len") from rfl)) (Fp.fm_cons (List.mem_of_getElem? (show fa[10]? = some (He.Fa.free "abs") from rfl)) (Fp.fm_cons (List.mem_of_getElem? (show fa[11]? = some (He.Fa.free "int") from rfl)) (Fp.fm_cons (List.mem_of_getElem? (show fa[12]? = some (He.Fa.free "tuple") from rfl)) (Fp.fm_cons (List.mem_of_getElem? (show fa[13]? = some (He.Fa.free "list") from rfl)) (Fp.fm_cons (List.mem_of_getElem? (show fa[14]? = some (He.Fa.free "all") from rfl)) (Fp.fm_cons (List.mem_of_getElem? (show fa[15]? = some (He.Fa.free "any") from rfl)) (Fp.fm_cons (List.mem_of_getElem? (show fa[16]? = some (He.Fa.free "sum") from rfl)) (Fp.fm_cons (List.mem_of_getElem? (show fa[17]? = some (He.Fa.free "min") from rfl)) (Fp.fm_cons (List.mem_of_getElem? (show fa[18]? = some (He.Fa.free "max") from rfl)) (Fp.fm_cons (List.mem_of_getElem? (show fa[19]? = some (He.Fa.free "bool") from rfl)) (Fp.fm_cons (List.mem_of_getElem? (show fa[20]? = some (He.Fa.free "str") from rfl)) (Fp.fm_cons (List.mem_of_getElem? (show fa[21]? = some (He.Fa.free "isinstance") from rfl)) (Fp.fm_cons (List.mem_of_getElem? (show fa[22]? = some (He.Fa.free "range") from rfl)) (Fp.fm_cons (List.mem_of_getElem? (show fa[23]? = some (He.Fa.free "enumerate") from rfl)) (Fp.fm_cons (List.mem_of_getElem? (show fa[24]? = some (He.Fa.free "zip") from rfl)) Fp.fm_nil))))))))))))))))
    Fp.lk_nil
    (fun z => Bool.noConfusion z)
    (fun z => Bool.noConfusion z)
    Fp.lk_nil
theorem holds_of (plain : ∀ ns : List Int, ns.length ≤ 63 → callN T (LEVEL + 1) "law" [.val (.klst (ns.map D.int))] [] = .ok (.val (.bl true)) []) : PySem.Challenge.rw_wholeplanes_k00_errors.Holds := by
  w_on; o_law
  refine HandSHeadRun.head_any (r := R) (q := PySem.W.view R.prog [24]) (H := hk) (ob := ob) (M := 4000) (loose := loose) (d := HandSHeadRun.topDef R.prog 24) (kwd := []) ob_eq
    (by kernel_rfl) (fun s => by kernel_rfl) run (by kernel_rfl) (by kernel_rfl) (by kernel_rfl) (by rfl) (by first | assumption | decide +kernel) (by decide +kernel) ⟨rfl, rfl, rfl, rfl, rfl, by decide +kernel⟩ ?hw ?hc
  case hw => w_witness2
  case hc =>
    refine L2.walk_ofE (l := PySem.Challenge.rw_wholeplanes_k00_errors) (n := 63) (k := LEVEL + 3) (x := "script") (CX := L2.CX0) rfl (by decide) (by kernel_rfl) ⟨rfl, by decide, by decide⟩ ?F (fun _ _ _ _ z => z)
    intro w mg fa' h Y Gn hmg0
    obtain ⟨K, KX, c, mb⟩ := Y
    have hmg : mg ("law" : PySem.Str) = some (.ref fa') := by
      have e : (HandSHeadRun.topDef R.prog 24).name = ("law" : PySem.Str) := by kernel_rfl
      rw [← e]
      exact hmg0
    obtain ⟨fd, sp, hb, hsp, hF⟩ := law_facts (P := PySem.Challenge.rw_wholeplanes_k00_errors.prog) (w := w) (n := 63) (m := LEVEL) (md KX Gn c mb) (by decide +kernel) hmg (fun F e => by cases e; rfl) plain
    exact ⟨K, fd, sp, KX, hb, fun H a ns hl _ hS => hsp H a ns hl hS, fun base _ _ => hF base⟩
end K00
open PySem Fp
theorem Fp.Z.t_k00 : Fp.Z.T00 K00.T :=
  ⟨by kernel_rfl, by kernel_rfl, by kernel_rfl, by kernel_rfl, by kernel_rfl, by kernel_rfl, by kernel_rfl, by kernel_rfl, by kernel_rfl, by kernel_rfl⟩
theorem PySem.Challenge.cw_wholeplanes_k00_errors_holds : PySem.Challenge.rw_wholeplanes_k00_errors.Holds := by
  exact K00.holds_of (fun ns hn => Fp.Z.law00 Fp.Z.t_k00 ns hn)
