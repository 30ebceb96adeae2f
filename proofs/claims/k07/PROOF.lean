import PyProof.Rows.All
import Wide.All
import OpenK.AllK
import Wide.FinOn
import PyProof.EqAt
import PyProof.EqKinds
import PyProof.TupleCall
import HandS.ForMost
import HandS.Exc
import HandS.ExcInit
import HandS.TryOnly
import HandS.WordsExc
import HandS.TupAny
import HandS.TupMul
import HandS.Wide
import HandS.Gcd
import HandS.IsInst
import HandS.Zip
import HandS.Rev
import HandS.Deep
import HandS.CallSlots
import HandS.Style
import PyProof.Rows.InDataRows
import KE.GoesEnum
import HandS.Defaults
import HandS.Codes
import HandS.Head0
import HandS.Head1
import HandS.Head2
import HandS.Head3
import HandS.HeadEnd
import HandS.HeadHook1
import HandS.HeadHook2
import HandS.Words
import HandS.Ends
import HandS.More
import PySem.Challenge.RW_wholeplanes_k07_whole_planes_summed_and
set_option Elab.async false
set_option linter.all false
set_option maxRecDepth 100000
set_option maxHeartbeats 4000000
/-! FpEval: values as plain data and an evaluator of a small functional part of Python (no heap, no addresses). -/
namespace Fp
open PySem

/-- an equation that simp does not take for one by unfolding -/
theorem nr {α : Sort _} {a b : α} (h : a = b) : a = b := h
/-- plain data; olst: a list that its holder alone has, inside a list of the same kind -/
inductive D where
  | non
  | bl (b : Bool)
  | int (i : Int)
  | str (x : Str)
  | tup (ds : List D)
  | lst (ds : List D)
  | olst (ds : List D)
  | dic (ks vs : List D)
  | exc (c : String) (d : D)
  | klst (ds : List D)
deriving Inhabited

/-- what a slot holds: nothing; a value that never changes; a list of its own; one that is only read for now; the k-th list handed in -/
inductive Sl where
  | no
  | val (d : D)
  | own (ds : List D)
  | lea (ds : List D)
  | lnk (k : Nat)
deriving Inhabited
/-- a list handed in: to be changed; only read; grown into a value -/
inductive Pst where
  | own (ds : List D)
  | lea (ds : List D)
  | frz (ds : List D)
deriving Inhabited
structure Env where
  sl : List Sl
  ps : List Pst
/-- where a list of one's own stands -/
inductive Loc where
  | s (i : Nat)
  | p (k : Nat)
deriving DecidableEq
/-- what an expression gives -/
inductive Rv where
  | val (d : D)
  | fresh (ds : List D)
  | loc (l : Loc)
inductive R (α : Type) where
  | ok (a : α) (e : Env)
  | ex (c : String) (d : D) (e : Env)
  | bad
def R.bind {α β : Type} : R α → (α → Env → R β) → R β
  | .ok a e, f => f a e
  | .ex c d e, _ => .ex c d e
  | .bad, _ => .bad
@[simp] theorem R.bind_ok {α β : Type} (a : α) (e : Env) (f : α → Env → R β) : (R.ok a e).bind f = f a e := nr rfl
@[simp] theorem R.bind_ex {α β : Type} (c : String) (d : D) (e : Env) (f : α → Env → R β) : (R.ex c d e : R α).bind f = .ex c d e := nr rfl
@[simp] theorem R.bind_bad {α β : Type} (f : α → Env → R β) : (R.bad : R α).bind f = .bad := nr rfl

def frz1 : D → D
  | .olst ds => .lst ds
  | d => d
def D.isO : D → Bool
  | .olst _ => true
  | _ => false

/-- a name's value -/
def Env.var (e : Env) (i : Nat) : R Rv :=
  match e.sl[i]? with
  | some (.val d) => .ok (.val d) e
  | some (.own _) => .ok (.loc (.s i)) e
  | some (.lea _) => .ok (.loc (.s i)) e
  | some (.lnk k) => match e.ps[k]? with
    | some (.own _) => .ok (.loc (.p k)) e
    | some (.lea _) => .ok (.loc (.p k)) e
    | some (.frz ds) => .ok (.val (.lst ds)) e
    | none => .bad
  | _ => .bad
/-- what stands at a place -/
def Env.at (e : Env) : Loc → Option Pst
  | .s i => match e.sl[i]? with
    | some (.own ds) => some (.own ds)
    | some (.lea ds) => some (.lea ds)
    | some (.val (.lst ds)) => some (.frz ds)
    | _ => none
  | .p k => e.ps[k]?
def Sl.ofP : Pst → Sl
  | .own ds => .own ds
  | .lea ds => .lea ds
  | .frz ds => .val (.lst ds)
def Env.put (e : Env) : Loc → Pst → Env
  | .s i, p => ⟨e.sl.set i (.ofP p), e.ps⟩
  | .p k, p => ⟨e.sl, e.ps.set k p⟩

/-- the content, read where it stands -/
def Env.peek (e : Env) : Rv → R D
  | .val d => .ok d e
  | .fresh ds => .ok (.lst (ds.map frz1)) e
  | .loc l => match e.at l with
    | some (.own ds) => .ok (.lst (ds.map frz1)) (e.put l (.own (ds.map frz1)))
    | some (.lea ds) => .ok (.lst ds) e
    | some (.frz ds) => .ok (.lst ds) e
    | none => .bad
/-- a value that never changes from now on -/
def Env.asVal (e : Env) : Rv → R D
  | .val d => .ok d e
  | .fresh ds => .ok (.lst (ds.map frz1)) e
  | .loc l => match e.at l with
    | some (.own ds) => .ok (.lst (ds.map frz1)) (e.put l (.frz (ds.map frz1)))
    | some (.frz ds) => .ok (.lst ds) e
    | _ => .bad
def Env.asVals (e : Env) : List Rv → R (List D)
  | [] => .ok [] e
  | r :: rs => (e.asVal r).bind fun d e => (e.asVals rs).bind fun ds e => .ok (d :: ds) e
def D.flat1 : D → Bool
  | .olst _ => false
  | _ => true
/-- an item of a new list of one's own: a new list without such within stays one's own -/
def Env.item (e : Env) : Rv → R D
  | .fresh ds => .ok (if ds.all D.flat1 then .olst ds else .lst (ds.map frz1)) e
  | r => e.asVal r
def Env.items (e : Env) : List Rv → R (List D)
  | [] => .ok [] e
  | r :: rs => (e.item r).bind fun d e => (e.items rs).bind fun ds e => .ok (d :: ds) e

inductive Bop where | add | sub | mul | fdiv | mod | pow
deriving DecidableEq
inductive Cop where | eq | ne | lt | le | gt | ge | is | isnot | isin | notin
deriving DecidableEq

def LIM : Nat := 16777216
def mulOk (i j : Int) : Bool :=
  !(decide (Builtin.Int.intBits i > shortFactorBits) && decide (Builtin.Int.intBits j > shortFactorBits) && Builtin.Int.intTooBig (Builtin.Int.intBits i + Builtin.Int.intBits j))
def fdivOk (i j : Int) : Bool := decide (j ≠ 0) && !(Builtin.divisionGoesByPylong i j)
def powOk (i j : Int) : Bool := decide (0 ≤ j ∧ j ≤ 1000000 ∧ i.natAbs < 2 ^ 64)

/-! ### equality of data -/
mutual
def D.toP : D → PyData
  | .non => .none
  | .bl b => .bool b
  | .int i => .int i
  | .str x => .str x
  | .tup ds => .tuple (D.toPs ds)
  | .lst ds => .list (D.toPs ds)
  | .olst ds => .list (D.toPs ds)
  | .dic _ _ => .dict []
  | .exc _ _ => .dict []
  | .klst _ => .dict []
def D.toPs : List D → List PyData
  | [] => []
  | d :: ds => D.toP d :: D.toPs ds
end
mutual
def D.pure : D → Bool
  | .tup ds => D.pures ds
  | .lst ds => D.pures ds
  | .olst _ => false
  | .dic _ _ => false
  | .exc _ _ => false
  | .klst _ => false
  | _ => true
def D.pures : List D → Bool
  | [] => true
  | d :: ds => D.pure d && D.pures ds
end
def D.eqOk (d : D) : Bool := d.pure && SeqAt.shaped d.toP
def D.eqv (d e : D) : Bool := PyData.eqv d.toP e.toP

/-! ### operations on values -/
def isSc : D → Bool
  | .non => true
  | .bl _ => true
  | .int _ => true
  | .str _ => true
  | _ => false
def arith (o : Bop) (i j : Int) : Option Int :=
  match o with
  | .add => some (i + j)
  | .sub => some (i - j)
  | .mul => if mulOk i j then some (i * j) else none
  | .fdiv => if fdivOk i j then some (i.fdiv j) else none
  | .mod => if j = 0 then none else some (i.fmod j)
  | .pow => if powOk i j then some (i ^ j.toNat) else none
/-- list + list, tuple + tuple, list * int, tuple * int, text + text -/
def opSeq (o : Bop) (x y : D) (e : Env) : R Rv :=
  match o, x, y with
  | .add, .lst xs, .lst ys => if xs.length + ys.length ≤ LIM then .ok (.fresh (xs ++ ys)) e else .bad
  | .add, .tup xs, .tup ys => if xs.length + ys.length ≤ LIM then .ok (.val (.tup (xs ++ ys))) e else .bad
  | .mul, .lst xs, .int k => if -(2 ^ 63) ≤ k ∧ k < 2 ^ 63 ∧ xs.length * k.toNat ≤ LIM then .ok (.fresh (List.replicate k.toNat xs).flatten) e else .bad
  | .mul, .tup xs, .int k => if -(2 ^ 63) ≤ k ∧ k ≤ 1000 ∧ xs.length ≤ 1000 then .ok (.val (.tup (List.replicate k.toNat xs).flatten)) e else .bad
  | .add, .str a, .str b => if a.length + b.length ≤ LIM then .ok (.val (.str (a ++ b))) e else .bad
  | _, _, _ => .bad
def opBin (o : Bop) (x y : Rv) (e : Env) : R Rv :=
  match x, y with
  | .val (.int i), .val (.int j) => match arith o i j with
    | some k => .ok (.val (.int k)) e
    | none => .bad
  | x, y => (e.peek x).bind fun x e => (e.peek y).bind fun y e => opSeq o x y e
def cmpI (o : Cop) (i j : Int) : Option Bool :=
  match o with
  | .eq => some (decide (i = j))
  | .ne => some (!decide (i = j))
  | .lt => some (decide (i < j))
  | .le => some (decide (i ≤ j))
  | .gt => some (decide (j < i))
  | .ge => some (decide (j ≤ i))
  | _ => none
def D.isNon : D → Bool
  | .non => true
  | _ => false
def cmpD (o : Cop) (x y : D) (e : Env) : R Bool :=
  match o, x, y with
  | .is, x, .non => .ok x.isNon e
  | .isnot, x, .non => .ok (!x.isNon) e
  | .eq, x, y => if x.eqOk && y.eqOk then .ok (x.eqv y) e else .bad
  | .ne, x, y => if x.eqOk && y.eqOk then .ok (!x.eqv y) e else .bad
  | .isin, x, .tup ys => if x.eqOk && (D.tup ys).eqOk then .ok (ys.any fun y => y.eqv x) e else .bad
  | .isin, x, .lst ys => if x.eqOk && (D.lst ys).eqOk then .ok (ys.any fun y => y.eqv x) e else .bad
  | .notin, x, .tup ys => if x.eqOk && (D.tup ys).eqOk then .ok (!ys.any fun y => y.eqv x) e else .bad
  | .notin, x, .lst ys => if x.eqOk && (D.lst ys).eqOk then .ok (!ys.any fun y => y.eqv x) e else .bad
  | _, _, _ => .bad
def opCmp (o : Cop) (x y : Rv) (e : Env) : R Bool :=
  match x, y with
  | .val (.int i), .val (.int j) => match cmpI o i j with
    | some b => .ok b e
    | none => .bad
  | x, y => (e.peek x).bind fun x e => (e.peek y).bind fun y e => cmpD o x y e
def R.blV : R Bool → R Rv
  | .ok b e => .ok (.val (.bl b)) e
  | .ex c d e => .ex c d e
  | .bad => .bad
def truth : D → Option Bool
  | .non => some false
  | .bl b => some b
  | .int i => some (i != 0)
  | .str x => if x.length ≤ LIM then some ((x.length : Int) != 0) else none
  | .tup ds => some (!ds.isEmpty)
  | .lst ds => some (!ds.isEmpty)
  | _ => none
def opTru (x : Rv) (e : Env) : R Bool :=
  match x with
  | .val (.bl b) => .ok b e
  | x => (e.peek x).bind fun d e => match truth d with
    | some b => .ok b e
    | none => .bad
/-- x[i] -/
def opIdx (x y : Rv) (e : Env) : R Rv :=
  match y with
  | .val (.int i) => match x with
    | .val (.tup ds) => match L2.atI ds i with | some d => .ok (.val d) e | none => .bad
    | .val (.lst ds) => match L2.atI ds i with | some d => .ok (.val d) e | none => .bad
    | .val (.str z) => if z.length ≤ LIM then match L2.atI z.cps.toList i with | some c => .ok (.val (.str ⟨#[c]⟩)) e | none => .bad else .bad
    | .fresh ds => match L2.atI ds i with | some d => .ok (.val (frz1 d)) e | none => .bad
    | .loc l => match e.at l with
      | some (.own ds) => match L2.ixN ds.length i with
        | some j => match ds[j]? with
          | some (.olst xs) => .ok (.val (.lst xs)) (e.put l (.own (ds.set j (.lst xs))))
          | some d => .ok (.val d) e
          | none => .bad
        | none => .bad
      | some (.lea ds) => match L2.atI ds i with | some d => .ok (.val d) e | none => .bad
      | some (.frz ds) => match L2.atI ds i with | some d => .ok (.val d) e | none => .bad
      | none => .bad
    | _ => .bad
  | _ => .bad
def cutD (xs : List D) (lo hi : Option Int) : List D := (xs.drop (HT.sIx xs.length 0 lo)).take (HT.sIx xs.length xs.length hi - HT.sIx xs.length 0 lo)

/-! ### the syntax -/
/-- a target: a name's slot, a tuple of targets -/
inductive Tg where
  | nm (i : Nat)
  | tp (ts : List Tg)
mutual
inductive Ex where
  | cst (d : D)
  | var (i : Nat)
  | glo (x : String)
  | bin (o : Bop) (a b : Ex)
  | neg (a : Ex)
  | not (a : Ex)
  | cmp (o : Cop) (a b : Ex)
  | chain (o o' : Cop) (a b c : Ex)
  | and (a b : Ex)
  | or (a b : Ex)
  | ite (c a b : Ex)
  | tup (es : List Ex)
  | lst (es : List Ex)
  | dic0
  | idx (a b : Ex)
  | slc (a : Ex) (lo hi : Option Ex)
  | rev (a : Ex)
  | call (f : String) (es : List Ex)
  | callk (f : String) (es : List Ex) (ks : List (String × Ex))
  | blt (f : String) (es : List Ex)
  | isi (a : Ex) (cs : List String)
  | comp (x : Ex) (t : Tg) (s : Src) (c : Option Ex) (own : List Nat)
  | meth (m : String) (a : Ex) (es : List Ex)
  | valof (a : Ex)
  | nev
/-- what a loop walks -/
inductive Src where
  | ov (a : Ex)
  | rng (a : Ex)
  | rng2 (a b : Ex)
  | enu (a : Ex)
  | zip (a b : Ex)
end
inductive Sm where
  | asg (t : Tg) (x : Ex)
  | par (is : List Nat) (xs : List Ex)
  | setI (b i x : Ex)
  | aug (i : Nat) (x : Ex)
  | augI (b i x : Ex)
  | ite (c : Ex) (a b : List Sm)
  | whl (c : Ex) (b : List Sm)
  | for_ (t : Tg) (s : Src) (b : List Sm)
  | ret (x : Ex)
  | retn
  | exp (x : Ex)
  | brk
  | cnt
  | pas
  | rai (c : String) (x : Ex)
  | tri (b : List Sm) (c : String) (i : Option Nat) (h : List Sm)
  | nev
structure Fn where
  ps : List String
  n : Nat
  body : List Sm

/-- what a call gives: a value or a new list, and what became of the lists handed in -/
inductive CR where
  | ok (r : Rv) (ps : List Pst)
  | ex (c : String) (d : D) (ps : List Pst)
  | bad
/-- the surroundings: the defs, their parameters, the module's constants, the classes of errors -/
structure Ct where
  call : String → List Sl → List Pst → CR
  pars : String → Option (List String)
  glo : String → Option D
  sub : String → String → Bool

/-! ### targets -/
def Sl.ofRv (e : Env) (r : Rv) : R Sl :=
  match r with
  | .val d => .ok (.val d) e
  | .fresh ds => .ok (.own ds) e
  | .loc l => (e.asVal (.loc l)).bind fun d e => .ok (.val d) e
mutual
def bindD : Tg → D → Env → Option Env
  | .nm i, d, e => if i < e.sl.length then some ⟨e.sl.set i (.val d), e.ps⟩ else none
  | .tp ts, .tup ds, e => bindDs ts ds e
  | .tp _, _, _ => none
def bindDs : List Tg → List D → Env → Option Env
  | [], [], e => some e
  | t :: ts, d :: ds, e => match bindD t d e with
    | some e => bindDs ts ds e
    | none => none
  | _, _, _ => none
end
def bindT (t : Tg) (r : Rv) (e : Env) : R Unit :=
  match t with
  | .nm i => (Sl.ofRv e r).bind fun s e => if i < e.sl.length then .ok () ⟨e.sl.set i s, e.ps⟩ else .bad
  | .tp ts => (e.asVal r).bind fun d e => match bindD (.tp ts) d e with
    | some e => .ok () e
    | none => .bad

/-! ### calls -/
/-- the arguments' slots, the lists handed in (beginning with the k-th), whence they came -/
def mkArgs (e : Env) : List Rv → Nat → Option (List Sl × List Pst × List (Nat × Loc))
  | [], _ => some ([], [], [])
  | .val d :: rs, k => match mkArgs e rs k with
    | some (ss, ps, ls) => some (.val d :: ss, ps, ls)
    | none => none
  | .fresh ds :: rs, k => match mkArgs e rs (k + 1) with
    | some (ss, ps, ls) => some (.lnk k :: ss, .own ds :: ps, ls)
    | none => none
  | .loc l :: rs, k => match e.at l with
    | some (.frz ds) => match mkArgs e rs k with
      | some (ss, ps, ls) => some (.val (.lst ds) :: ss, ps, ls)
      | none => none
    | some p => match mkArgs e rs (k + 1) with
      | some (ss, ps, ls) => some (.lnk k :: ss, p :: ps, (k, l) :: ls)
      | none => none
    | none => none
def locsApart : List (Nat × Loc) → Bool
  | [] => true
  | (_, l) :: r => decide (∀ q ∈ r, q.2 ≠ l) && locsApart r
/-- the lists come back; one that is only read stays so -/
def backOk (old new : Pst) : Bool :=
  match new, old with
  | .lea _, .lea _ => true
  | .lea _, _ => false
  | _, .lea _ => false
  | _, _ => true
def putBack (e : Env) (ps : List Pst) : List (Nat × Loc) → Option Env
  | [] => some e
  | (k, l) :: r => match ps[k]?, e.at l with
    | some p, some p0 => if backOk p0 p then putBack (e.put l p) ps r else none
    | _, _ => none
def doCall (C : Ct) (f : String) (rs : List Rv) (e : Env) : R Rv :=
  match mkArgs e rs 0 with
  | some (ss, ps, ls) => if locsApart ls then
      match C.call f ss ps with
      | .ok (.loc _) _ => .bad
      | .ok r ps' => match putBack e ps' ls with
        | some e => .ok r e
        | none => .bad
      | .ex c d ps' => match putBack e ps' ls with
        | some e => .ex c d e
        | none => .bad
      | .bad => .bad
    else .bad
  | none => .bad
/-- the keywords' places in the parameters' order -/
def kwPerm (ps ks : List String) (n : Nat) : Option (List Nat) :=
  if ps.length = n + ks.length ∧ ks.Nodup ∧ ∀ k ∈ ks, k ∈ ps.drop n then some ((ps.drop n).map fun p => ks.idxOf p) else none
def Rv.old : Rv → Bool
  | .fresh _ => false
  | _ => true
def kwRvs (ps ks : List String) (rs ws : List Rv) : Option (List Rv) :=
  match kwPerm ps ks rs.length with
  | some js => if ws.length = ks.length ∧ ws.all Rv.old = true ∧ ∀ j ∈ js, j < ks.length then some (rs ++ js.map fun j => ws.getD j (.val .non)) else none
  | none => none

/-! ### builtins, methods, isinstance -/
def allBl : List D → Option (List Bool)
  | [] => some []
  | .bl b :: ds => match allBl ds with | some bs => some (b :: bs) | none => none
  | _ => none
def allInt : List D → Option (List Int)
  | [] => some []
  | .int b :: ds => match allInt ds with | some bs => some (b :: bs) | none => none
  | _ => none
def blt1 (f : String) (d : D) (e : Env) : R Rv :=
  match f, d with
  | "len", .tup ds => .ok (.val (.int ds.length)) e
  | "len", .lst ds => .ok (.val (.int ds.length)) e
  | "len", .klst ds => .ok (.val (.int ds.length)) e
  | "list", .klst ds => .ok (.fresh ds) e
  | "len", .str x => if x.length ≤ LIM then .ok (.val (.int x.length)) e else .bad
  | "abs", .int i => .ok (.val (.int (if i < 0 then -i else i))) e
  | "int", .int i => .ok (.val (.int i)) e
  | "int", .bl b => .ok (.val (.int (if b then 1 else 0))) e
  | "tuple", .tup ds => .ok (.val (.tup ds)) e
  | "tuple", .lst ds => .ok (.val (.tup ds)) e
  | "list", .tup ds => .ok (.fresh ds) e
  | "list", .lst ds => .ok (.fresh ds) e
  | "all", .lst ds => match allBl ds with | some bs => .ok (.val (.bl (bs.all id))) e | none => .bad
  | "any", .lst ds => match allBl ds with | some bs => .ok (.val (.bl (bs.any id))) e | none => .bad
  | "sum", .lst ds => match allInt ds with | some ns => .ok (.val (.int ns.sum)) e | none => .bad
  | _, _ => .bad
def blt2 (f : String) (x y : D) (e : Env) : R Rv :=
  match f, x, y with
  | "min", .int i, .int j => .ok (.val (.int (if j < i then j else i))) e
  | "max", .int i, .int j => .ok (.val (.int (if j > i then j else i))) e
  | "gcd", .int i, .int j => .ok (.val (.int (Int.gcd i j))) e
  | _, _, _ => .bad
def opBlt (f : String) (rs : List Rv) (e : Env) : R Rv :=
  match rs with
  | [x] => (e.peek x).bind fun d e => blt1 f d e
  | [x, y] => (e.asVal x).bind fun d e => (e.asVal y).bind fun d' e => blt2 f d d' e
  | _ => .bad
def isOne (C : Ct) (d : D) (c : String) : Option Bool :=
  match d with
  | .exc c' _ => none
  | .klst _ => none
  | _ => match c with
    | "int" => some (match d with | .int _ => true | .bl _ => true | _ => false)
    | "bool" => some (match d with | .bl _ => true | _ => false)
    | "str" => some (match d with | .str _ => true | _ => false)
    | "tuple" => some (match d with | .tup _ => true | _ => false)
    | "list" => some (match d with | .lst _ => true | _ => false)
    | _ => none
def isAny (C : Ct) (d : D) : List String → Option Bool
  | [] => some false
  | c :: cs => match isOne C d c with
    | some true => some true
    | some false => isAny C d cs
    | none => none
def Env.isLst (e : Env) : Rv → Bool
  | .loc l => match e.at l with
    | some _ => true
    | none => false
  | _ => false
def opApp (l : Loc) (rs : List Rv) (e : Env) : R Rv :=
  match rs with
  | [r] => (e.item r).bind fun d e => match e.at l with
    | some (.own ds) => if ds.length < LIM then .ok (.val .non) (e.put l (.own (ds ++ [d]))) else .bad
    | _ => .bad
  | _ => .bad
/-- the j-th item goes: as a new list or as a value -/
def takeAt (l : Loc) (ds : List D) (j : Nat) (e : Env) : R Rv :=
  match ds[j]? with
  | some (.olst xs) => .ok (.fresh xs) (e.put l (.own (ds.eraseIdx j)))
  | some d => .ok (.val d) (e.put l (.own (ds.eraseIdx j)))
  | none => .bad
def opPop (l : Loc) (rs : List Rv) (e : Env) : R Rv :=
  match e.at l with
  | some (.own ds) => match rs with
    | [] => takeAt l ds (ds.length - 1) e
    | [.val (.int i)] => if -(2 ^ 63) ≤ i ∧ i < 2 ^ 63 then match seqIndex? i ds.length with
      | some j => takeAt l ds j e
      | none => .bad else .bad
    | _ => .bad
  | _ => .bad
def opMeth (m : String) (x : Rv) (rs : List Rv) (e : Env) : R Rv :=
  match x with
  | .loc l => if m = "append" then opApp l rs e else if m = "pop" then opPop l rs e else .bad
  | _ => .bad
def opSlc (x : D) (lo hi : Option Int) (e : Env) : R Rv :=
  match x with
  | .tup ds => .ok (.val (.tup (cutD ds lo hi))) e
  | .lst ds => .ok (.fresh (cutD ds lo hi)) e
  | _ => .bad

/-! ### loops' sources -/
def small62 (j : Int) : Bool := decide (-(2 ^ 62) ≤ j ∧ j < 2 ^ 62)
def intsD (lo : Int) (n : Nat) : List D := (List.range n).map fun i => D.int (lo + (i : Nat))
def enums : List D → Nat → List D
  | [], _ => []
  | d :: ds, k => .tup [.int (k : Nat), d] :: enums ds (k + 1)
def zips : List D → List D → List D
  | x :: xs, y :: ys => .tup [x, y] :: zips xs ys
  | _, _ => []
def itemsOf : D → Option (List D)
  | .tup ds => some ds
  | .lst ds => some ds
  | _ => none
def Env.lease (e : Env) : Rv → R (D × Option Loc)
  | .loc l => match e.at l with
    | some (.own ds) => .ok (.lst (ds.map frz1), some l) (e.put l (.lea (ds.map frz1)))
    | some (.lea ds) => .ok (.lst ds, none) e
    | some (.frz ds) => .ok (.lst ds, none) e
    | none => .bad
  | r => (e.asVal r).bind fun d e => .ok (d, none) e
/-- fz: for good, as a value; else lent for the while of a comprehension -/
def Env.lend (fz : Bool) (e : Env) (r : Rv) : R (D × Option Loc) :=
  if fz then (e.asVal r).bind fun d e => .ok (d, none) e else e.lease r
def Env.unlease (e : Env) : List (Option Loc) → Env
  | [] => e
  | none :: r => e.unlease r
  | some l :: r => match e.at l with
    | some (.lea ds) => (e.put l (.own ds)).unlease r
    | _ => e.unlease r
/-- the block's own slots emptied; put back as they were -/
def wipeS (sl : List Sl) : List Nat → List Sl
  | [] => sl
  | i :: is => (wipeS sl is).set i .no
def backS (old new : List Sl) : List Nat → List Sl
  | [] => new
  | i :: is => (backS old new is).set i (old.getD i .no)
/-- those slots hold no list of one's own -/
def clearS (sl : List Sl) : List Nat → Bool
  | [] => true
  | i :: is => (match sl[i]? with | some (.own _) => false | some (.lea _) => false | some _ => true | none => false) && clearS sl is
def R.noex {α : Type} : R α → R α
  | .ex _ _ _ => .bad
  | r => r
/-- the turns of a comprehension: f binds, tests, gives an item or none -/
def compL (f : D → Env → R (Option D)) : List D → Env → R (List D)
  | [], e => .ok [] e
  | d :: ds, e => (f d e).bind fun o e => (compL f ds e).bind fun r e => .ok (match o with | some y => y :: r | none => r) e
/-- one turn -/
def compF (t : Tg) (c : Env → R Bool) (x : Env → R Rv) (own : List Nat) (d : D) (e : Env) : R (Option D) :=
  match bindD t d e with
  | some e => ((c e).bind fun b e => if b then (x e).bind fun r e => (e.item r).bind fun y e => .ok (some y) ⟨wipeS e.sl own, e.ps⟩ else .ok none ⟨wipeS e.sl own, e.ps⟩).noex
  | none => .bad

mutual
def evalE (C : Ct) : Ex → Env → R Rv
  | .cst d, e => .ok (.val d) e
  | .var i, e => e.var i
  | .glo x, e => match C.glo x with
    | some d => .ok (.val d) e
    | none => .bad
  | .bin o a b, e => (evalE C a e).bind fun x e => (evalE C b e).bind fun y e => opBin o x y e
  | .neg a, e => (evalE C a e).bind fun x e => match x with
    | .val (.int i) => .ok (.val (.int (-i))) e
    | _ => .bad
  | .not a, e => ((evalE C a e).bind fun x e => (opTru x e).bind fun b e => .ok (!b) e).blV
  | .cmp o a b, e => ((evalE C a e).bind fun x e => (evalE C b e).bind fun y e => opCmp o x y e).blV
  | .chain o o' a b c, e => ((evalE C a e).bind fun x e => (evalE C b e).bind fun y e => match x, y with
    | .val (.int i), .val (.int j) => match cmpI o i j with
      | some t => if t then (evalE C c e).bind fun z e => opCmp o' (.val (.int j)) z e else .ok false e
      | none => .bad
    | _, _ => .bad).blV
  | .and a b, e => (evalE C a e).bind fun x e => match x with
    | .val (.bl true) => evalE C b e
    | .val (.bl false) => .ok (.val (.bl false)) e
    | _ => .bad
  | .or a b, e => (evalE C a e).bind fun x e => match x with
    | .val (.bl true) => .ok (.val (.bl true)) e
    | .val (.bl false) => evalE C b e
    | _ => .bad
  | .ite c a b, e => (evalT C c e).bind fun t e => if t then evalE C a e else evalE C b e
  | .tup es, e => (evalEs C es e).bind fun rs e => (e.asVals rs).bind fun ds e => if ds.length ≤ LIM then .ok (.val (.tup ds)) e else .bad
  | .lst es, e => (evalEs C es e).bind fun rs e => (e.items rs).bind fun ds e => if ds.length ≤ LIM then .ok (.fresh ds) e else .bad
  | .dic0, e => .ok (.val (.dic [] [])) e
  | .idx a b, e => (evalE C a e).bind fun x e => (evalE C b e).bind fun y e => opIdx x y e
  | .slc a lo hi, e => (evalE C a e).bind fun x e => (evalO C lo e).bind fun l e => (evalO C hi e).bind fun h e => (e.peek x).bind fun d e => opSlc d l h e
  | .rev a, e => (evalE C a e).bind fun x e => (e.peek x).bind fun d e => match d with
    | .tup ds => .ok (.val (.tup ds.reverse)) e
    | .lst ds => .ok (.fresh ds.reverse) e
    | _ => .bad
  | .call f es, e => (evalEs C es e).bind fun rs e => doCall C f rs e
  | .callk f es ks, e => (evalEs C es e).bind fun rs e => (evalKs C ks e).bind fun ws e => match C.pars f with
    | some ps => match kwRvs ps (ks.map (·.1)) rs ws with
      | some us => doCall C f us e
      | none => .bad
    | none => .bad
  | .blt f es, e => (evalEs C es e).bind fun rs e => opBlt f rs e
  | .isi a cs, e => (evalE C a e).bind fun x e => (e.peek x).bind fun d e => match isAny C d cs with
    | some b => .ok (.val (.bl b)) e
    | none => .bad
  | .comp x t s c own, e => (evalS C false s e).bind fun p e => if clearS e.sl own then (compL (compF t (match c with
      | none => fun e => .ok true e
      | some c => fun e => evalT C c e) (fun e => evalE C x e) own) p.1 ⟨wipeS e.sl own, e.ps⟩).bind fun ys e' => if ys.length ≤ LIM then .ok (.fresh ys) (Env.unlease ⟨backS e.sl e'.sl own, e'.ps⟩ p.2) else .bad else .bad
  | .meth m a es, e => (evalE C a e).bind fun x e => if e.isLst x then (evalEs C es e).bind fun rs e => opMeth m x rs e else .bad
  | .valof a, e => (evalE C a e).bind fun x e => match x with
    | .val (.exc _ d) => .ok (.val d) e
    | _ => .bad
  | .nev, _ => .bad
def evalT (C : Ct) : Ex → Env → R Bool
  | .and a b, e => (evalT C a e).bind fun t e => if t then evalT C b e else .ok false e
  | .or a b, e => (evalT C a e).bind fun t e => if t then .ok true e else evalT C b e
  | .not a, e => (evalT C a e).bind fun t e => .ok (!t) e
  | x, e => (evalE C x e).bind fun r e => opTru r e
def evalEs (C : Ct) : List Ex → Env → R (List Rv)
  | [], e => .ok [] e
  | x :: xs, e => (evalE C x e).bind fun r e => (evalEs C xs e).bind fun rs e => .ok (r :: rs) e
def evalKs (C : Ct) : List (String × Ex) → Env → R (List Rv)
  | [], e => .ok [] e
  | (_, x) :: xs, e => (evalE C x e).bind fun r e => (evalKs C xs e).bind fun rs e => .ok (r :: rs) e
def evalO (C : Ct) : Option Ex → Env → R (Option Int)
  | none, e => .ok none e
  | some x, e => (evalE C x e).bind fun r e => match r with
    | .val (.int i) => .ok (some i) e
    | _ => .bad
def evalS (C : Ct) (fz : Bool) : Src → Env → R (List D × List (Option Loc))
  | .ov a, e => (evalE C a e).bind fun x e => (e.lend fz x).bind fun (d, l) e => match itemsOf d with
    | some ds => .ok (ds, [l]) e
    | none => .bad
  | .rng a, e => (evalE C a e).bind fun x e => match x with
    | .val (.int j) => if small62 j then .ok (intsD 0 j.toNat, []) e else .bad
    | _ => .bad
  | .rng2 a b, e => (evalE C a e).bind fun x e => (evalE C b e).bind fun y e => match x, y with
    | .val (.int i), .val (.int j) => if small62 i && small62 j then .ok (intsD i (j - i).toNat, []) e else .bad
    | _, _ => .bad
  | .enu a, e => (evalE C a e).bind fun x e => (e.lend fz x).bind fun (d, l) e => match itemsOf d with
    | some ds => .ok (enums ds 0, [l]) e
    | none => .bad
  | .zip a b, e => (evalE C a e).bind fun x e => (evalE C b e).bind fun y e => (e.lend fz x).bind fun (d, l) e => (e.lend fz y).bind fun (d', l') e => match d, d' with
    | .lst ds, .lst ds' => .ok (zips ds ds', [l, l']) e
    | .tup ds, .tup ds' => .ok (zips ds ds', [l, l']) e
    | _, _ => .bad
end

/-! ### statements -/
inductive SR where
  | nx (e : Env)
  | ret (r : Rv) (e : Env)
  | bk (e : Env)
  | ct (e : Env)
  | ex (c : String) (d : D) (e : Env)
  | bad
def R.st {α : Type} : R α → (α → Env → SR) → SR
  | .ok a e, f => f a e
  | .ex c d e, _ => .ex c d e
  | .bad, _ => .bad
@[simp] theorem R.st_ok {α : Type} (a : α) (e : Env) (f : α → Env → SR) : (R.ok a e).st f = f a e := nr rfl
@[simp] theorem R.st_ex {α : Type} (c : String) (d : D) (e : Env) (f : α → Env → SR) : (R.ex c d e : R α).st f = .ex c d e := nr rfl
@[simp] theorem R.st_bad {α : Type} (f : α → Env → SR) : (R.bad : R α).st f = .bad := nr rfl
def SR.andThen : SR → (Env → SR) → SR
  | .nx e, f => f e
  | r, _ => r
@[simp] theorem SR.andThen_nx (e : Env) (f : Env → SR) : (SR.nx e).andThen f = f e := nr rfl
@[simp] theorem SR.andThen_ret (r : Rv) (e : Env) (f : Env → SR) : (SR.ret r e).andThen f = .ret r e := nr rfl
@[simp] theorem SR.andThen_bk (e : Env) (f : Env → SR) : (SR.bk e).andThen f = .bk e := nr rfl
@[simp] theorem SR.andThen_ct (e : Env) (f : Env → SR) : (SR.ct e).andThen f = .ct e := nr rfl
@[simp] theorem SR.andThen_ex (c : String) (d : D) (e : Env) (f : Env → SR) : (SR.ex c d e).andThen f = .ex c d e := nr rfl
@[simp] theorem SR.andThen_bad (f : Env → SR) : SR.bad.andThen f = .bad := nr rfl
/-- behind a loop's turn -/
def SR.turn : SR → (Env → SR) → SR
  | .nx e, f => f e
  | .ct e, f => f e
  | .bk e, _ => .nx e
  | r, _ => r
@[simp] theorem SR.turn_nx (e : Env) (f : Env → SR) : (SR.nx e).turn f = f e := nr rfl
@[simp] theorem SR.turn_ct (e : Env) (f : Env → SR) : (SR.ct e).turn f = f e := nr rfl
@[simp] theorem SR.turn_bk (e : Env) (f : Env → SR) : (SR.bk e).turn f = .nx e := nr rfl
@[simp] theorem SR.turn_ret (r : Rv) (e : Env) (f : Env → SR) : (SR.ret r e).turn f = .ret r e := nr rfl
@[simp] theorem SR.turn_ex (c : String) (d : D) (e : Env) (f : Env → SR) : (SR.ex c d e).turn f = .ex c d e := nr rfl
@[simp] theorem SR.turn_bad (f : Env → SR) : SR.bad.turn f = .bad := nr rfl

def whileN (c : Env → R Bool) (b : Env → SR) : Nat → Env → SR
  | 0, _ => .bad
  | n + 1, e => (c e).st fun t e => if t then (b e).turn (whileN c b n) else .nx e
def forL (b : D → Env → SR) : List D → Env → SR
  | [], e => .nx e
  | d :: ds, e => (b d e).turn (forL b ds)
open Classical in
noncomputable def whileE (c : Env → R Bool) (b : Env → SR) (e : Env) : SR :=
  if h : ∃ n, whileN c b n e ≠ .bad then whileN c b (Classical.choose h) e else .bad
theorem SR.turn_mono {r : SR} {f g : Env → SR} (h : ∀ e, f e ≠ .bad → g e = f e) (hn : r.turn f ≠ .bad) : r.turn g = r.turn f := by
  cases r with
  | nx e => exact h e hn
  | ct e => exact h e hn
  | _ => rfl
theorem whileN_succ (c : Env → R Bool) (b : Env → SR) (n : Nat) (e : Env) : whileN c b (n + 1) e = (c e).st fun t e => if t then (b e).turn (whileN c b n) else .nx e := rfl
theorem whileN_mono {c : Env → R Bool} {b : Env → SR} : ∀ {n : Nat} {e : Env}, whileN c b n e ≠ .bad → whileN c b (n + 1) e = whileN c b n e
  | 0, e, h => absurd rfl h
  | n + 1, e, h => by
    rw [whileN_succ c b n e] at h
    rw [whileN_succ c b (n + 1) e, whileN_succ c b n e]
    generalize c e = r at h ⊢
    cases r with
    | ok t e' =>
      cases t with
      | true =>
        simp only [R.st_ok, if_true] at h ⊢
        have h' : (b e').turn (whileN c b n) ≠ .bad := h
        show (b e').turn (whileN c b (n + 1)) = (b e').turn (whileN c b n)
        exact SR.turn_mono (fun e q => whileN_mono q) h'
      | false => rfl
    | ex _ _ _ => rfl
    | bad => rfl
theorem whileN_le {c : Env → R Bool} {b : Env → SR} {n m : Nat} {e : Env} (h : whileN c b n e ≠ .bad) (hm : n ≤ m) : whileN c b m e = whileN c b n e := by
  induction m with
  | zero => rw [Nat.le_zero.mp hm]
  | succ m ih =>
    by_cases q : n = m + 1
    · rw [q]
    · have e1 := ih (by omega)
      rw [whileN_mono (by rw [e1]; exact h), e1]
theorem whileE_eq {c : Env → R Bool} {b : Env → SR} {n : Nat} {e : Env} (h : whileN c b n e ≠ .bad) : whileE c b e = whileN c b n e := by
  have hx : ∃ n, whileN c b n e ≠ .bad := ⟨n, h⟩
  unfold whileE
  rw [dif_pos hx]
  have hc := Classical.choose_spec hx
  rcases Nat.le_total n (Classical.choose hx) with q | q
  · exact whileN_le h q
  · exact (whileN_le hc q).symm
theorem whileE_some {c : Env → R Bool} {b : Env → SR} {e : Env} (h : whileE c b e ≠ .bad) : ∃ n, whileN c b n e = whileE c b e := by
  unfold whileE at h ⊢
  split
  · rename_i hx
    exact ⟨_, rfl⟩
  · rename_i hx
    rw [dif_neg hx] at h
    exact absurd rfl h
/-- one turn of a while -/
theorem whileE_unf {c : Env → R Bool} {b : Env → SR} {e : Env} {r : SR} (hr : r ≠ .bad) (h : ((c e).st fun t e => if t then (b e).turn (whileE c b) else .nx e) = r) : whileE c b e = r := by
  generalize hc : c e = q at h
  cases q with
  | bad => exact absurd h.symm hr
  | ex x d e' =>
    have e1 : whileN c b 1 e = .ex x d e' := by rw [whileN, hc]; rfl
    rw [whileE_eq (n := 1) (by rw [e1]; exact fun z => SR.noConfusion z), e1]
    exact h
  | ok t e' =>
    cases t with
    | false =>
      have e1 : whileN c b 1 e = .nx e' := by rw [whileN, hc]; rfl
      rw [whileE_eq (n := 1) (by rw [e1]; exact fun z => SR.noConfusion z), e1]
      exact h
    | true =>
      have h' : (b e').turn (whileE c b) = r := h
      have key : ∃ n, (b e').turn (whileN c b n) = r := by
        generalize b e' = s at h'
        cases s with
        | nx e2 =>
          have h2 : whileE c b e2 = r := h'
          obtain ⟨n, hn⟩ := whileE_some (c := c) (b := b) (e := e2) (by rw [h2]; exact hr)
          exact ⟨n, hn.trans h2⟩
        | ct e2 =>
          have h2 : whileE c b e2 = r := h'
          obtain ⟨n, hn⟩ := whileE_some (c := c) (b := b) (e := e2) (by rw [h2]; exact hr)
          exact ⟨n, hn.trans h2⟩
        | ret _ _ => exact ⟨0, h'⟩
        | bk _ => exact ⟨0, h'⟩
        | ex _ _ _ => exact ⟨0, h'⟩
        | bad => exact absurd h'.symm hr
      obtain ⟨n, hn⟩ := key
      have e1 : whileN c b (n + 1) e = r := by rw [whileN, hc]; exact hn
      rw [whileE_eq (n := n + 1) (by rw [e1]; exact hr), e1]

/-- b[i] = d -/
def setIx (x y : Rv) (d : D) (e : Env) : R Unit :=
  match x, y with
  | .loc l, .val (.int i) => match e.at l with
    | some (.own ds) => match L2.ixN ds.length i with
      | some j => .ok () (e.put l (.own (ds.set j d)))
      | none => .bad
    | _ => .bad
  | _, _ => .bad
def bindPar : List Nat → List Rv → Env → R Unit
  | [], [], e => .ok () e
  | i :: is, r :: rs, e => (Sl.ofRv e r).bind fun s e => (bindPar is rs e).bind fun _ e => if i < e.sl.length then .ok () ⟨e.sl.set i s, e.ps⟩ else .bad
  | _, _, _ => .bad
mutual
noncomputable def execS (C : Ct) : Sm → Env → SR
  | .asg t x, e => (evalE C x e).st fun r e => (bindT t r e).st fun _ e => .nx e
  | .par is xs, e => (evalEs C xs e).st fun rs e => (bindPar is rs e).st fun _ e => .nx e
  | .setI b i x, e => (evalE C x e).st fun r e => (evalE C b e).st fun y e => (evalE C i e).st fun z e => (e.item r).st fun d e => (setIx y z d e).st fun _ e => .nx e
  | .aug i x, e => (e.var i).st fun y e => match y with
    | .val (.int a) => (evalE C x e).st fun z e => match z with
      | .val (.int b) => if i < e.sl.length then .nx ⟨e.sl.set i (.val (.int (a + b))), e.ps⟩ else .bad
      | _ => .bad
    | _ => .bad
  | .augI b i x, e => (evalE C b e).st fun y e => (evalE C i e).st fun z e => (opIdx y z e).st fun u e => match u with
    | .val (.int a) => (evalE C x e).st fun v e => match v with
      | .val (.int c) => (setIx y z (.int (a + c)) e).st fun _ e => .nx e
      | _ => .bad
    | _ => .bad
  | .ite c a b, e => (evalT C c e).st fun t e => if t then execSs C a e else execSs C b e
  | .whl c b, e => whileE (fun e => evalT C c e) (fun e => execSs C b e) e
  | .for_ t s b, e => (evalS C true s e).st fun (ds, ls) e => forL (fun d e => match bindD t d e with
      | some e => execSs C b e
      | none => .bad) ds e
  | .ret x, e => (evalE C x e).st fun r e => .ret r e
  | .retn, e => .ret (.val .non) e
  | .exp x, e => (evalE C x e).st fun _ e => .nx e
  | .brk, e => .bk e
  | .cnt, e => .ct e
  | .pas, e => .nx e
  | .rai c x, e => (evalE C x e).st fun r e => (e.asVal r).st fun d e => .ex c d e
  | .tri b c i h, e => match execSs C b e with
    | .ex c' d e => if C.sub c' c then
        match i with
        | none => execSs C h e
        | some i => (execSs C h ⟨e.sl.set i (.val (.exc c' d)), e.ps⟩).andThen fun e => .nx ⟨e.sl.set i .no, e.ps⟩
      else .ex c' d e
    | r => r
  | .nev, _ => .bad
noncomputable def execSs (C : Ct) : List Sm → Env → SR
  | [], e => .nx e
  | s :: ss, e => (execS C s e).andThen (execSs C ss)
end

/-! ### defs -/
def finish : SR → CR
  | .ret (.val d) e => .ok (.val d) e.ps
  | .ret (.fresh ds) e => .ok (.fresh ds) e.ps
  | .ret (.loc (.s i)) e => match e.at (.s i) with
    | some (.own ds) => .ok (.fresh ds) e.ps
    | some (.frz ds) => .ok (.val (.lst ds)) e.ps
    | _ => .bad
  | .ret (.loc (.p k)) e => match e.asVal (.loc (.p k)) with
    | .ok d e => .ok (.val d) e.ps
    | _ => .bad
  | .nx e => .ok (.val .non) e.ps
  | .ex c d e => .ex c d e.ps
  | _ => .bad
structure Tb where
  fns : String → Option Fn
  glo : String → Option D
  sub : String → String → Bool
noncomputable def callN (T : Tb) : Nat → String → List Sl → List Pst → CR
  | 0, _, _, _ => .bad
  | n + 1, f, ss, ps => match T.fns f with
    | some F => if ss.length = F.ps.length ∧ F.ps.length ≤ F.n then
        finish (execSs ⟨callN T n, fun f => (T.fns f).map (·.ps), T.glo, T.sub⟩ F.body ⟨ss ++ List.replicate (F.n - ss.length) .no, ps⟩)
      else .bad
    | none => .bad
noncomputable abbrev Tb.ct (T : Tb) (n : Nat) : Ct := ⟨callN T n, fun f => (T.fns f).map (·.ps), T.glo, T.sub⟩
end Fp
/-! FpRep: how data lies in the abstract heap: what never changes (F), what a def's slots have alone (fp). -/
namespace Fp
open PySem L2

structure Se where
  K : PySem.W.Frag
  cl : String → Option Addr
  pa : List Addr

/-- an error that was caught, kept as a value -/
def excH (C dx a : Addr) : HO := .ext fun h => ∃ (oe : Obj) (vs : Array Value), h.get? a = some oe ∧ Zc (.ref C) (some dx) oe ∧ oe.data = .fields vs

mutual
def Dat (S : Se) (F : Hp) : D → V → Prop
  | .non, v => v = .non
  | .bl b, v => v = .bl b
  | .int i, v => v = .int i
  | .str x, v => v = .str x
  | .tup ds, v => ∃ a vs, v = .ref a ∧ SqT S.K F a vs ∧ Dats S F ds vs
  | .lst ds, v => ∃ a vs, v = .ref a ∧ L2.Rd F a (.lst vs) ∧ Dats S F ds vs
  | .olst _, _ => False
  | .dic ks ws, v => ∃ a, v = .ref a ∧ ks = [] ∧ ws = [] ∧ F a = some (.dK [])
  | .exc c d, v => ∃ a C dx w, v = .ref a ∧ S.cl c = some C ∧ F a = some (excH C dx a) ∧ F dx = some (.xd [(("value" : Str), w)]) ∧ Dat S F d w
  | .klst ds, v => ∃ a vs, v = .ref a ∧ SqL S.K F a vs ∧ Dats S F ds vs
def Dats (S : Se) (F : Hp) : List D → List V → Prop
  | [], [] => True
  | d :: ds, v :: vs => Dat S F d v ∧ Dats S F ds vs
  | _, _ => False
end
section
variable {S : Se} {F F' H H' : Hp}
theorem Same.seqT {K : PySem.W.Frag} {a : Addr} {xs : List V} (e : Same H H') (h : SqT K H a xs) : SqT K H' a xs := by
  rcases h with (h | ⟨o, h⟩) | h
  · exact .inl (.inl (e _ _ h))
  · exact .inl (.inr ⟨o, e _ _ h⟩)
  · exact .inr h
theorem Same.sql {K : PySem.W.Frag} {a : Addr} {xs : List V} (e : Same H H') (h : SqL K H a xs) : SqL K H' a xs := by
  rcases h with (h | ⟨o, h⟩) | h
  · exact .inl (.inl (e _ _ h))
  · exact .inl (.inr ⟨o, e _ _ h⟩)
  · exact .inr h
theorem rdSame {a : Addr} {u : HO} (e : Same H H') (h : L2.Rd H a u) : L2.Rd H' a u := h.elim (fun q => .inl (e _ _ q)) fun ⟨o, q⟩ => .inr ⟨o, e _ _ q⟩
mutual
theorem Dat.mono (s : Same F F') : ∀ (d : D) (v : V), Dat S F d v → Dat S F' d v
  | .non, _, h => h
  | .bl _, _, h => h
  | .int _, _, h => h
  | .str _, _, h => h
  | .tup ds, v, h => by
    obtain ⟨a, vs, e, q, r⟩ := h
    exact ⟨a, vs, e, Same.seqT s q, Dats.mono s ds vs r⟩
  | .lst ds, v, h => by
    obtain ⟨a, vs, e, q, r⟩ := h
    exact ⟨a, vs, e, rdSame s q, Dats.mono s ds vs r⟩
  | .olst _, _, h => h
  | .dic _ _, _, h => by
    obtain ⟨a, e, e1, e2, q⟩ := h
    exact ⟨a, e, e1, e2, s _ _ q⟩
  | .exc c d, v, h => by
    obtain ⟨a, C, dx, w, e, ec, q1, q2, r⟩ := h
    exact ⟨a, C, dx, w, e, ec, s _ _ q1, s _ _ q2, Dat.mono s d w r⟩
  | .klst ds, v, h => by
    obtain ⟨a, vs, e, q, r⟩ := h
    exact ⟨a, vs, e, Same.sql s q, Dats.mono s ds vs r⟩
theorem Dats.mono (s : Same F F') : ∀ (ds : List D) (vs : List V), Dats S F ds vs → Dats S F' ds vs
  | [], [], h => h
  | d :: ds, v :: vs, h => ⟨Dat.mono s d v h.1, Dats.mono s ds vs h.2⟩
  | [], _ :: _, h => h
  | _ :: _, [], h => h
end
theorem Dats.nil_inv {vs : List V} (h : Dats S F [] vs) : vs = [] := by
  cases vs with
  | nil => rfl
  | cons _ _ => exact h.elim
theorem Dats.cons_inv {d : D} {ds : List D} {vs : List V} (h : Dats S F (d :: ds) vs) : ∃ v ws, vs = v :: ws ∧ Dat S F d v ∧ Dats S F ds ws := by
  cases vs with
  | nil => exact h.elim
  | cons v ws => exact ⟨v, ws, rfl, h.1, h.2⟩
theorem Dats.len : ∀ {ds : List D} {vs : List V}, Dats S F ds vs → ds.length = vs.length
  | [], vs, h => by rw [h.nil_inv]; rfl
  | d :: ds, vs, h => by
    obtain ⟨v, ws, rfl, _, r⟩ := h.cons_inv
    simp [r.len]
theorem Dats.get : ∀ {ds : List D} {vs : List V} {i : Nat} {d : D}, Dats S F ds vs → ds[i]? = some d → ∃ v, vs[i]? = some v ∧ Dat S F d v
  | [], _, _, _, _, e => by simp at e
  | x :: ds, vs, 0, d, h, e => by
    obtain ⟨v, ws, rfl, q, r⟩ := h.cons_inv
    simp at e
    subst e
    exact ⟨v, rfl, q⟩
  | x :: ds, vs, i + 1, d, h, e => by
    obtain ⟨v, ws, rfl, q, r⟩ := h.cons_inv
    simp at e
    obtain ⟨u, e1, r1⟩ := Dats.get (i := i) r e
    exact ⟨u, by simpa using e1, r1⟩
theorem Dats.app : ∀ {ds es : List D} {vs ws : List V}, Dats S F ds vs → Dats S F es ws → Dats S F (ds ++ es) (vs ++ ws)
  | [], es, vs, ws, h, q => by rw [h.nil_inv]; exact q
  | d :: ds, es, vs, ws, h, q => by
    obtain ⟨v, us, rfl, r, t⟩ := h.cons_inv
    exact ⟨r, t.app q⟩
theorem Dats.dropL : ∀ {ds : List D} {vs : List V} (n : Nat), Dats S F ds vs → Dats S F (ds.drop n) (vs.drop n)
  | _, _, 0, h => h
  | [], vs, n + 1, h => by rw [h.nil_inv]; simp; trivial
  | d :: ds, vs, n + 1, h => by
    obtain ⟨v, us, rfl, r, t⟩ := h.cons_inv
    exact t.dropL n
theorem Dats.takeL : ∀ {ds : List D} {vs : List V} (n : Nat), Dats S F ds vs → Dats S F (ds.take n) (vs.take n)
  | _, _, 0, h => by simp; trivial
  | [], vs, n + 1, h => by rw [h.nil_inv]; simp; trivial
  | d :: ds, vs, n + 1, h => by
    obtain ⟨v, us, rfl, r, t⟩ := h.cons_inv
    exact ⟨r, t.takeL n⟩
theorem Dats.cut {ds : List D} {vs : List V} (lo hi : Option Int) (h : Dats S F ds vs) : Dats S F (cutD ds lo hi) (cutV vs lo hi) := by
  unfold cutD cutV
  rw [h.len]
  exact (h.dropL _).takeL _
theorem Dats.rev : ∀ {ds : List D} {vs : List V}, Dats S F ds vs → Dats S F ds.reverse vs.reverse
  | [], vs, h => by rw [h.nil_inv]; trivial
  | d :: ds, vs, h => by
    obtain ⟨v, us, rfl, r, t⟩ := h.cons_inv
    rw [List.reverse_cons, List.reverse_cons]
    exact t.rev.app ⟨r, trivial⟩
theorem Dats.rep {ds : List D} {vs : List V} (h : Dats S F ds vs) : ∀ n : Nat, Dats S F (List.replicate n ds).flatten (List.replicate n vs).flatten
  | 0 => trivial
  | n + 1 => by
    rw [List.replicate_succ, List.replicate_succ, List.flatten_cons, List.flatten_cons]
    exact h.app (h.rep n)
theorem Dats.setI : ∀ {ds : List D} {vs : List V} {d : D} {v : V} (i : Nat), Dats S F ds vs → Dat S F d v → Dats S F (ds.set i d) (vs.set i v)
  | [], vs, _, _, _, h, _ => by rw [h.nil_inv]; simp; trivial
  | x :: ds, vs, d, v, 0, h, q => by
    obtain ⟨u, us, rfl, r, t⟩ := h.cons_inv
    exact ⟨q, t⟩
  | x :: ds, vs, d, v, i + 1, h, q => by
    obtain ⟨u, us, rfl, r, t⟩ := h.cons_inv
    exact ⟨r, t.setI i q⟩
theorem Dat.flat {d : D} {v : V} (h : Dat S F d v) : frz1 d = d := by
  cases d <;> first | rfl | exact h.elim
theorem Dats.flat : ∀ {ds : List D} {vs : List V}, Dats S F ds vs → ds.map frz1 = ds
  | [], _, _ => rfl
  | d :: ds, vs, h => by
    obtain ⟨u, us, rfl, r, t⟩ := h.cons_inv
    rw [List.map_cons, r.flat, t.flat]
theorem Dats.at {ds : List D} {vs : List V} {i : Int} {d : D} (h : Dats S F ds vs) (e : atI ds i = some d) : ∃ v, atI vs i = some v ∧ Dat S F d v := by
  unfold atI at e ⊢
  rw [← h.len]
  cases q : ixN ds.length i with
  | none => rw [q] at e; simp at e
  | some j =>
    rw [q] at e
    exact h.get (by simpa using e)
end

/-! ### lists of one's own -/
/-- an item of such a list; fp: the addresses that are had alone -/
def OwnI (S : Se) (F H : Hp) (d : D) (v : V) (fp : List Addr) : Prop :=
  match d with
  | .olst ds => ∃ a vs, v = .ref a ∧ fp = [a] ∧ H a = some (.lst vs) ∧ Dats S F ds vs
  | d => fp = [] ∧ Dat S F d v
def OwnIs (S : Se) (F H : Hp) : List D → List V → List Addr → Prop
  | [], vs, fp => vs = [] ∧ fp = []
  | d :: ds, vs, fp => ∃ v ws f g, vs = v :: ws ∧ fp = f ++ g ∧ OwnI S F H d v f ∧ OwnIs S F H ds ws g
def Own (S : Se) (F H : Hp) (a : Addr) (ds : List D) (fp : List Addr) : Prop := ∃ vs g, H a = some (.lst vs) ∧ fp = a :: g ∧ OwnIs S F H ds vs g
section
variable {S : Se} {F F' H H' : Hp}
theorem OwnI.mono {d : D} {v : V} {fp : List Addr} (s : Same F F') (k : ∀ x ∈ fp, H' x = H x) (h : OwnI S F H d v fp) : OwnI S F' H' d v fp := by
  cases d with
  | olst ds =>
    obtain ⟨a, vs, e, e1, q, r⟩ := h
    subst e1
    exact ⟨a, vs, e, rfl, by rw [k a (by simp)]; exact q, r.mono s⟩
  | _ => exact ⟨h.1, Dat.mono s _ _ h.2⟩
theorem OwnIs.mono (s : Same F F') : ∀ {ds : List D} {vs : List V} {fp : List Addr}, (∀ x ∈ fp, H' x = H x) → OwnIs S F H ds vs fp → OwnIs S F' H' ds vs fp
  | [], _, _, _, h => h
  | d :: ds, vs, fp, k, h => by
    obtain ⟨v, ws, f, g, e, rfl, q, r⟩ := h
    exact ⟨v, ws, f, g, e, rfl, q.mono s fun x hx => k x (List.mem_append_left _ hx), OwnIs.mono s (fun x hx => k x (List.mem_append_right _ hx)) r⟩
theorem Own.mono {a : Addr} {ds : List D} {fp : List Addr} (s : Same F F') (k : ∀ x ∈ fp, H' x = H x) (h : Own S F H a ds fp) : Own S F' H' a ds fp := by
  obtain ⟨vs, g, q, rfl, r⟩ := h
  exact ⟨vs, g, by rw [k a (by simp)]; exact q, rfl, r.mono s fun x hx => k x (by simp [hx])⟩
theorem OwnIs.len : ∀ {ds : List D} {vs : List V} {fp : List Addr}, OwnIs S F H ds vs fp → ds.length = vs.length
  | [], _, _, h => by rw [h.1]; rfl
  | d :: ds, vs, fp, h => by
    obtain ⟨v, ws, f, g, rfl, _, _, r⟩ := h
    simp [r.len]
theorem OwnIs.there : ∀ {ds : List D} {vs : List V} {fp : List Addr}, OwnIs S F H ds vs fp → ∀ x ∈ fp, ∃ us, H x = some (.lst us)
  | [], _, _, h, x, hx => by rw [h.2] at hx; simp at hx
  | d :: ds, vs, fp, h, x, hx => by
    obtain ⟨v, ws, f, g, _, rfl, q, r⟩ := h
    rcases List.mem_append.mp hx with hx | hx
    · cases d with
      | olst es =>
        obtain ⟨a, us, _, rfl, q, _⟩ := q
        obtain rfl : x = a := by simpa using hx
        exact ⟨us, q⟩
      | _ => rw [q.1] at hx; simp at hx
    · exact r.there x hx
theorem Own.there {a : Addr} {ds : List D} {fp : List Addr} (h : Own S F H a ds fp) : ∀ x ∈ fp, ∃ us, H x = some (.lst us) := by
  obtain ⟨vs, g, q, rfl, r⟩ := h
  intro x hx
  rcases List.mem_cons.mp hx with rfl | hx
  · exact ⟨vs, q⟩
  · exact r.there x hx
theorem OwnIs.of_dats : ∀ {ds : List D} {vs : List V}, Dats S F ds vs → OwnIs S F H ds vs []
  | [], vs, h => ⟨h.nil_inv, rfl⟩
  | d :: ds, vs, h => by
    obtain ⟨u, us, rfl, r, t⟩ := h.cons_inv
    refine ⟨u, us, [], [], rfl, rfl, ?_, OwnIs.of_dats t⟩
    cases d <;> first | exact ⟨rfl, r⟩ | exact r.elim
theorem Own.of_dats {a : Addr} {ds : List D} {vs : List V} (e : H a = some (.lst vs)) (h : Dats S F ds vs) : Own S F H a ds [a] := ⟨vs, [], e, rfl, .of_dats h⟩
theorem OwnIs.app : ∀ {ds es : List D} {vs ws : List V} {f g : List Addr}, OwnIs S F H ds vs f → OwnIs S F H es ws g → OwnIs S F H (ds ++ es) (vs ++ ws) (f ++ g)
  | [], es, vs, ws, f, g, h, q => by rw [h.1, h.2]; exact q
  | d :: ds, es, vs, ws, f, g, h, q => by
    obtain ⟨v, us, f1, g1, rfl, rfl, t, r⟩ := h
    exact ⟨v, us ++ ws, f1, g1 ++ g, rfl, by rw [List.append_assoc], t, r.app q⟩
theorem OwnIs.split : ∀ {ds es : List D} {vs : List V} {f : List Addr}, OwnIs S F H (ds ++ es) vs f → ∃ us ws f1 f2, vs = us ++ ws ∧ f = f1 ++ f2 ∧ OwnIs S F H ds us f1 ∧ OwnIs S F H es ws f2
  | [], es, vs, f, h => ⟨[], vs, [], f, rfl, rfl, ⟨rfl, rfl⟩, h⟩
  | d :: ds, es, vs, f, h => by
    obtain ⟨v, us, f1, g1, rfl, rfl, t, r⟩ := h
    obtain ⟨us', ws, a, b, rfl, rfl, r1, r2⟩ := r.split
    exact ⟨v :: us', ws, f1 ++ a, b, rfl, by rw [List.append_assoc], ⟨v, us', f1, a, rfl, rfl, t, r1⟩, r2⟩
/-- the nested lists become values: F grows by what stands at fp -/
def grow (F H : Hp) (A : List Addr) : Hp := fun x => if x ∈ A then H x else F x
theorem grow_nil (F H : Hp) : grow F H [] = F := by funext x; simp [grow]
theorem grow_in {F H : Hp} {A : List Addr} {x : Addr} (h : x ∈ A) : grow F H A x = H x := by simp [grow, h]
theorem grow_out {F H : Hp} {A : List Addr} {x : Addr} (h : x ∉ A) : grow F H A x = F x := by simp [grow, h]
theorem grow_same {A : List Addr} (off : ∀ x ∈ A, F x = none) : Same F (grow F H A) := fun b o e => by
  have : b ∉ A := fun z => by rw [off b z] at e; cases e
  rw [grow_out this]; exact e
theorem grow_sub {A : List Addr} (s : Same F H) : Same (grow F H A) H := fun b o e => by
  by_cases h : b ∈ A
  · rw [grow_in h] at e; exact e
  · rw [grow_out h] at e; exact s b o e
theorem OwnIs.frozen : ∀ {ds : List D} {vs : List V} {fp A : List Addr}, (∀ x ∈ fp, x ∈ A) → (∀ x ∈ A, F x = none) → OwnIs S F H ds vs fp → Dats S (grow F H A) (ds.map frz1) vs
  | [], vs, fp, A, _, _, h => by rw [h.1]; trivial
  | d :: ds, vs, fp, A, hA, off, h => by
    obtain ⟨v, us, f, g, rfl, rfl, t, r⟩ := h
    refine ⟨?_, r.frozen (fun x hx => hA x (List.mem_append_right _ hx)) off⟩
    cases d with
    | olst es =>
      obtain ⟨a, ws, rfl, rfl, q, w⟩ := t
      refine ⟨a, ws, rfl, .inl ?_, w.mono (grow_same off)⟩
      rw [grow_in (hA a (by simp))]; exact q
    | _ => exact Dat.mono (grow_same off) _ _ t.2
theorem Own.frozen {a : Addr} {ds : List D} {fp A : List Addr} (hA : ∀ x ∈ fp, x ∈ A) (off : ∀ x ∈ A, F x = none) (h : Own S F H a ds fp) : Dat S (grow F H A) (.lst (ds.map frz1)) (.ref a) := by
  obtain ⟨vs, g, q, rfl, r⟩ := h
  refine ⟨a, vs, rfl, .inl ?_, r.frozen (fun x hx => hA x (by simp [hx])) off⟩
  rw [grow_in (hA a (by simp))]; exact q
theorem OwnIs.get : ∀ {ds : List D} {vs : List V} {fp : List Addr} {i : Nat} {d : D}, OwnIs S F H ds vs fp → ds[i]? = some d → d.isO = false → ∃ v, vs[i]? = some v ∧ Dat S F d v
  | [], _, _, _, _, _, e, _ => by simp at e
  | x :: ds, vs, fp, 0, d, h, e, ho => by
    obtain ⟨v, us, f, g, rfl, rfl, t, r⟩ := h
    simp at e
    subst e
    refine ⟨v, rfl, ?_⟩
    cases x <;> first | exact t.2 | cases ho
  | x :: ds, vs, fp, i + 1, d, h, e, ho => by
    obtain ⟨v, us, f, g, rfl, rfl, t, r⟩ := h
    simp at e
    obtain ⟨u, e1, r1⟩ := OwnIs.get (i := i) r e ho
    exact ⟨u, by simpa using e1, r1⟩
end
end Fp
/-! FpWo: the slots of a def over the abstract heap, and what an evaluation may change. -/
namespace Fp
open PySem L2

/-- F: what never changes; H: all; fp: what a place has alone; lf: what is only read for now, and where -/
structure Wo where
  F : Hp
  H : Hp
  fp : Loc → List Addr
  lf : Addr → Option Loc
def Wo.le (w : Wo) (x : Addr) : Prop := w.lf x ≠ none
def Wo.has (w : Wo) (x : Addr) : Prop := ∃ l, x ∈ w.fp l
def SlRep (S : Se) (w : Wo) (l : Loc) (o : Option V) (s : Sl) (g : List Addr) : Prop :=
  match s with
  | .no => g = []
  | .val d => g = [] ∧ ∃ v, o = some v ∧ Dat S w.F d v
  | .own ds => ∃ a, o = some (.ref a) ∧ Own S w.F w.H a ds g
  | .lea ds => g = [] ∧ ∃ a vs, o = some (.ref a) ∧ w.H a = some (.lst vs) ∧ Dats S w.F ds vs ∧ w.lf a = some l
  | .lnk k => g = [] ∧ ∃ a, o = some (.ref a) ∧ S.pa[k]? = some a
def PsRep (S : Se) (w : Wo) (l : Loc) (a : Addr) (p : Pst) (g : List Addr) : Prop :=
  match p with
  | .own ds => Own S w.F w.H a ds g
  | .lea ds => g = [] ∧ ∃ vs, w.H a = some (.lst vs) ∧ Dats S w.F ds vs ∧ w.lf a = some l
  | .frz ds => g = [] ∧ Dat S w.F (.lst ds) (.ref a)
structure Rep (S : Se) (σ : St) (e : Env) (w : Wo) : Prop where
  sub : Same w.F w.H
  len : e.sl.length = σ.length
  plen : e.ps.length = S.pa.length
  slot : ∀ i s, e.sl[i]? = some s → SlRep S w (.s i) (σ[i]?).join s (w.fp (.s i))
  out : ∀ i, e.sl.length ≤ i → w.fp (.s i) = []
  par : ∀ k p, e.ps[k]? = some p → ∃ a, S.pa[k]? = some a ∧ PsRep S w (.p k) a p (w.fp (.p k))
  pout : ∀ k, e.ps.length ≤ k → w.fp (.p k) = []
  nd : ∀ l, (w.fp l).Nodup
  dis : ∀ l l' a, a ∈ w.fp l → a ∈ w.fp l' → l = l'
  off : ∀ x, w.has x → w.F x = none
  ale : ∀ x, w.has x → ¬ w.le x
  leh : ∀ x, w.le x → ∃ o, w.H x = some o
structure Step (w w' : Wo) : Prop where
  a : Same w.F w'.F
  b : ∀ x o, w.H x = some o → ¬ w.has x → w'.H x = some o
  c : ∀ x o, w.H x = some o → ¬ w.has x → ¬ w'.has x
  d : ∀ x o, w.H x = some o → ¬ w.has x → w.F x = none → w'.F x = none
  e : ∀ x o, w.H x = some o → ∃ o', w'.H x = some o'
  f : ∀ x o, w.H x = some o → ¬ w.has x → ¬ w.le x → ¬ w'.le x
  g : ∀ x l, w.lf x = some l → w'.lf x = some l
theorem Step.refl (w : Wo) : Step w w := ⟨Same.refl _, fun _ _ h _ => h, fun _ _ _ h => h, fun _ _ _ _ h => h, fun _ o h => ⟨o, h⟩, fun _ _ _ _ h => h, fun _ _ h => h⟩
theorem Step.trans {w w1 w2 : Wo} (p : Step w w1) (q : Step w1 w2) : Step w w2 where
  a := p.a.trans q.a
  b := fun x o h n => q.b x o (p.b x o h n) (p.c x o h n)
  c := fun x o h n => q.c x o (p.b x o h n) (p.c x o h n)
  d := fun x o h n z => q.d x o (p.b x o h n) (p.c x o h n) (p.d x o h n z)
  e := fun x o h => by
    obtain ⟨o', h'⟩ := p.e x o h
    exact q.e x o' h'
  f := fun x o h n z => q.f x o (p.b x o h n) (p.c x o h n) (p.f x o h n z)
  g := fun x l z => q.g x l (p.g x l z)
/-- addresses that the evaluation made, or that the slots had -/
def New (w : Wo) (q : List Addr) : Prop := ∀ x ∈ q, ∀ o, w.H x = some o → w.has x
theorem New.step {w w1 : Wo} {q : List Addr} (s : Step w w1) (n : New w1 q) : New w q := fun x hx o h => by
  obtain ⟨o', h'⟩ := s.e x o h
  have t := n x hx o' h'
  by_cases z : w.has x
  · exact z
  · exact absurd t (s.c x o h z)
theorem New.nil (w : Wo) : New w [] := fun _ h => by simp at h

/-- a value that is held meanwhile -/
def RvRep (S : Se) (σ : St) (w : Wo) (v : V) (r : Rv) (q : List Addr) : Prop :=
  match r with
  | .val d => q = [] ∧ Dat S w.F d v
  | .fresh ds => ∃ a, v = .ref a ∧ Own S w.F w.H a ds q ∧ q.Nodup ∧ ∀ x ∈ q, w.F x = none ∧ ¬ w.has x ∧ ¬ w.le x
  | .loc (.s i) => q = [] ∧ σ[i]? = some (some v)
  | .loc (.p k) => q = [] ∧ ∃ a, S.pa[k]? = some a ∧ v = .ref a
section
variable {S : Se} {σ : St} {e e' : Env} {w w' w0 : Wo} {v : V} {r : Rv} {q : List Addr} {l : Loc}
theorem RvRep.there (h : RvRep S σ w v r q) : ∀ x ∈ q, ∃ us, w.H x = some (.lst us) := by
  intro x hx
  match r, h with
  | .val d, h => rw [h.1] at hx; simp at hx
  | .fresh ds, h =>
    obtain ⟨a, _, o, _⟩ := h
    exact o.there x hx
  | .loc (.s i), h => rw [h.1] at hx; simp at hx
  | .loc (.p k), h => rw [h.1] at hx; simp at hx
theorem RvRep.off (h : RvRep S σ w v r q) : ∀ x ∈ q, w.F x = none ∧ ¬ w.has x ∧ ¬ w.le x := by
  intro x hx
  match r, h with
  | .val d, h => rw [h.1] at hx; simp at hx
  | .fresh ds, h =>
    obtain ⟨a, _, o, _, z⟩ := h
    exact z x hx
  | .loc (.s i), h => rw [h.1] at hx; simp at hx
  | .loc (.p k), h => rw [h.1] at hx; simp at hx
theorem RvRep.nd (h : RvRep S σ w v r q) : q.Nodup := by
  match r, h with
  | .val d, h => rw [h.1]; exact List.nodup_nil
  | .fresh ds, h =>
    obtain ⟨a, _, o, n, z⟩ := h
    exact n
  | .loc (.s i), h => rw [h.1]; exact List.nodup_nil
  | .loc (.p k), h => rw [h.1]; exact List.nodup_nil
/-- what is held stands when what it rests on stands -/
theorem RvRep.keep (sF : Same w.F w'.F) (k : ∀ x ∈ q, w'.H x = w.H x ∧ w'.F x = none ∧ ¬ w'.has x ∧ ¬ w'.le x) (h : RvRep S σ w v r q) : RvRep S σ w' v r q := by
  match r, h with
  | .val d, h => exact ⟨h.1, Dat.mono sF _ _ h.2⟩
  | .fresh ds, h =>
    obtain ⟨a, e, o, n, z⟩ := h
    exact ⟨a, e, o.mono sF fun x hx => (k x hx).1, n, fun x hx => (k x hx).2⟩
  | .loc (.s i), h => exact h
  | .loc (.p k), h => exact h
theorem RvRep.step (s : Step w w') (h : RvRep S σ w v r q) : RvRep S σ w' v r q := by
  refine h.keep s.a fun x hx => ?_
  obtain ⟨us, hu⟩ := h.there x hx
  obtain ⟨z1, z2, z3⟩ := h.off x hx
  exact ⟨by rw [s.b x _ hu z2, hu], s.d x _ hu z2 z1, s.c x _ hu z2, s.f x _ hu z2 z3⟩

/-- several held -/
def RvReps (S : Se) (σ : St) (w : Wo) : List V → List Rv → List Addr → Prop
  | vs, [], q => vs = [] ∧ q = []
  | vs, r :: rs, q => ∃ v ws f g, vs = v :: ws ∧ q = f ++ g ∧ RvRep S σ w v r f ∧ RvReps S σ w ws rs g
theorem RvReps.there : ∀ {rs : List Rv} {vs : List V} {q : List Addr}, RvReps S σ w vs rs q → ∀ x ∈ q, ∃ us, w.H x = some (.lst us)
  | [], _, _, h, x, hx => by rw [h.2] at hx; simp at hx
  | r :: rs, vs, q, h, x, hx => by
    obtain ⟨v, ws, f, g, _, rfl, h1, h2⟩ := h
    rcases List.mem_append.mp hx with hx | hx
    · exact h1.there x hx
    · exact h2.there x hx
theorem RvReps.off : ∀ {rs : List Rv} {vs : List V} {q : List Addr}, RvReps S σ w vs rs q → ∀ x ∈ q, w.F x = none ∧ ¬ w.has x ∧ ¬ w.le x
  | [], _, _, h, x, hx => by rw [h.2] at hx; simp at hx
  | r :: rs, vs, q, h, x, hx => by
    obtain ⟨v, ws, f, g, _, rfl, h1, h2⟩ := h
    rcases List.mem_append.mp hx with hx | hx
    · exact h1.off x hx
    · exact h2.off x hx
theorem RvReps.keep (sF : Same w.F w'.F) : ∀ {rs : List Rv} {vs : List V} {q : List Addr}, (∀ x ∈ q, w'.H x = w.H x ∧ w'.F x = none ∧ ¬ w'.has x ∧ ¬ w'.le x) → RvReps S σ w vs rs q → RvReps S σ w' vs rs q
  | [], _, _, _, h => h
  | r :: rs, vs, q, k, h => by
    obtain ⟨v, ws, f, g, e, rfl, h1, h2⟩ := h
    exact ⟨v, ws, f, g, e, rfl, h1.keep sF fun x hx => k x (List.mem_append_left _ hx), RvReps.keep sF (fun x hx => k x (List.mem_append_right _ hx)) h2⟩
theorem RvReps.step (s : Step w w') {rs : List Rv} {vs : List V} (h : RvReps S σ w vs rs q) : RvReps S σ w' vs rs q := by
  refine h.keep s.a fun x hx => ?_
  obtain ⟨us, hu⟩ := h.there x hx
  obtain ⟨z1, z2, z3⟩ := h.off x hx
  exact ⟨by rw [s.b x _ hu z2, hu], s.d x _ hu z2 z1, s.c x _ hu z2, s.f x _ hu z2 z3⟩
theorem RvReps.len : ∀ {rs : List Rv} {vs : List V} {q : List Addr}, RvReps S σ w vs rs q → rs.length = vs.length
  | [], _, _, h => by rw [h.1]; rfl
  | r :: rs, vs, q, h => by
    obtain ⟨v, ws, f, g, rfl, _, _, h2⟩ := h
    simp [h2.len]

/-! ### one place changed -/
def updL (fp : Loc → List Addr) (l : Loc) (g : List Addr) : Loc → List Addr := fun m => if m = l then g else fp m
theorem updL_same {fp : Loc → List Addr} {g : List Addr} : updL fp l g l = g := if_pos rfl
theorem updL_ne {fp : Loc → List Addr} {m : Loc} {g : List Addr} (h : m ≠ l) : updL fp l g m = fp m := if_neg h
/-- how a place holds its list -/
def PlRep (S : Se) (σ : St) (w : Wo) (l : Loc) (p : Pst) (g : List Addr) : Prop :=
  match l with
  | .s i => SlRep S w (.s i) (σ[i]?).join (.ofP p) g
  | .p k => ∃ a, S.pa[k]? = some a ∧ PsRep S w (.p k) a p g
theorem Rep.upd (R : Rep S σ e w) (l : Loc) (p p0 : Pst) {F' H' : Hp} {le' : Addr → Option Loc} {g : List Addr} (hl : e.at l = some p0)
    (sF : Same w.F F') (sub : Same F' H') (hH : ∀ x o, w.H x = some o → x ∉ w.fp l → H' x = some o) (hoff : ∀ x, w.has x → x ∉ w.fp l → F' x = none) (hle : ∀ x m, m ≠ l → w.lf x = some m → le' x = some m)
    (hg : g.Nodup) (hgo : ∀ x ∈ g, F' x = none ∧ le' x = none) (hgd : ∀ x ∈ g, x ∈ w.fp l ∨ ¬ w.has x) (hla : ∀ x, w.has x → x ∉ w.fp l → le' x = none) (hlh : ∀ x, le' x ≠ none → ∃ o, H' x = some o)
    (new : PlRep S σ ⟨F', H', updL w.fp l g, le'⟩ l p g) : Rep S σ (e.put l p) ⟨F', H', updL w.fp l g, le'⟩ := by
  have lea : ∀ x m, m ≠ l → w.lf x = some m → le' x = some m ∧ (∀ o, w.H x = some o → H' x = some o) := fun x m hm hx => ⟨hle x m hm hx, fun o ho => hH x o ho fun z => R.ale x ⟨l, z⟩ (by show w.lf x ≠ none; rw [hx]; exact fun z => nomatch z)⟩
  have other : ∀ m, m ≠ l → ∀ x ∈ w.fp m, x ∉ w.fp l := fun m hm x hx z => hm (R.dis m l x hx z)
  have keepS : ∀ {o : Option V} {s : Sl} {m : Loc}, m ≠ l → SlRep S w m o s (w.fp m) → SlRep S ⟨F', H', updL w.fp l g, le'⟩ m o s (w.fp m) := fun {o s m} hm h => by
    cases s with
    | no => exact h
    | val d =>
      obtain ⟨e1, v, e2, r⟩ := h
      exact ⟨e1, v, e2, Dat.mono sF _ _ r⟩
    | own ds =>
      obtain ⟨a, e1, r⟩ := h
      refine ⟨a, e1, r.mono sF fun x hx => ?_⟩
      obtain ⟨us, hu⟩ := r.there x hx
      show H' x = w.H x
      rw [hu]; exact hH x _ hu (other m hm x hx)
    | lea ds =>
      obtain ⟨e1, a, vs, e2, q, r, z⟩ := h
      exact ⟨e1, a, vs, e2, (lea a m hm z).2 _ q, r.mono sF, (lea a m hm z).1⟩
    | lnk k => exact h
  have keepP : ∀ {a : Addr} {s : Pst} {m : Loc}, m ≠ l → PsRep S w m a s (w.fp m) → PsRep S ⟨F', H', updL w.fp l g, le'⟩ m a s (w.fp m) := fun {a s m} hm h => by
    cases s with
    | own ds =>
      have r : Own S w.F w.H a ds (w.fp m) := h
      refine Own.mono (S := S) sF (fun x hx => ?_) r
      obtain ⟨us, hu⟩ := r.there x hx
      show H' x = w.H x
      rw [hu]; exact hH x _ hu (other m hm x hx)
    | lea ds =>
      obtain ⟨e1, vs, q, r, z⟩ := h
      exact ⟨e1, vs, (lea a m hm z).2 _ q, r.mono sF, (lea a m hm z).1⟩
    | frz ds => exact ⟨h.1, Dat.mono sF _ _ h.2⟩
  have hasL : ∀ x, (∃ m, x ∈ updL w.fp l g m) → x ∈ g ∨ (w.has x ∧ x ∉ w.fp l) := fun x ⟨m, hx⟩ => by
    by_cases hm : m = l
    · subst hm; rw [updL_same] at hx; exact .inl hx
    · rw [updL_ne hm] at hx; exact .inr ⟨⟨m, hx⟩, other m hm x hx⟩
  have slS : (e.put l p).sl.length = e.sl.length := by cases l <;> simp [Env.put]
  have psS : (e.put l p).ps.length = e.ps.length := by cases l <;> simp [Env.put]
  refine ⟨sub, slS.trans R.len, psS.trans R.plen, fun i s hs => ?_, fun i hi => ?_, fun k s hs => ?_, fun k hk => ?_, fun m => ?_, fun m m' a h1 h2 => ?_, fun x hx => ?_, fun x hx => ?_, hlh⟩
  · by_cases hm : Loc.s i = l
    · subst hm
      show SlRep S _ _ _ s (updL w.fp (.s i) g (.s i))
      rw [updL_same]
      have hi : i < e.sl.length := by
        rcases Nat.lt_or_ge i e.sl.length with z | z
        · exact z
        · have : e.sl[i]? = none := List.getElem?_eq_none_iff.mpr z
          simp [Env.at, this] at hl
      have e1 : s = .ofP p := by
        have : (e.sl.set i (.ofP p))[i]? = some s := hs
        rw [List.getElem?_set_self hi] at this
        exact (Option.some.inj this).symm
      rw [e1]
      exact new
    · show SlRep S _ _ _ s (updL w.fp l g (.s i))
      rw [updL_ne hm]
      refine keepS hm (R.slot i s ?_)
      cases l with
      | s j =>
        have : (e.sl.set j (.ofP p))[i]? = some s := hs
        rwa [List.getElem?_set_ne (fun z => hm (by rw [z]))] at this
      | p k => exact hs
  · have hm : Loc.s i ≠ l := fun z => by
      subst z
      have : e.sl[i]? = none := List.getElem?_eq_none_iff.mpr (by rw [← slS]; exact hi)
      simp [Env.at, this] at hl
    show updL w.fp l g (.s i) = []
    rw [updL_ne hm]
    exact R.out i (by rw [← slS]; exact hi)
  · by_cases hm : Loc.p k = l
    · subst hm
      show ∃ a, S.pa[k]? = some a ∧ PsRep S _ _ a s (updL w.fp (.p k) g (.p k))
      rw [updL_same]
      have hk : k < e.ps.length := by
        rcases Nat.lt_or_ge k e.ps.length with z | z
        · exact z
        · have : e.ps[k]? = none := List.getElem?_eq_none_iff.mpr z
          simp [Env.at, this] at hl
      have e1 : s = p := by
        have : (e.ps.set k p)[k]? = some s := hs
        rw [List.getElem?_set_self hk] at this
        exact (Option.some.inj this).symm
      rw [e1]
      exact new
    · show ∃ a, S.pa[k]? = some a ∧ PsRep S _ _ a s (updL w.fp l g (.p k))
      rw [updL_ne hm]
      have h' : e.ps[k]? = some s := by
        cases l with
        | s j => exact hs
        | p j =>
          have : (e.ps.set j p)[k]? = some s := hs
          rwa [List.getElem?_set_ne (fun z => hm (by rw [z]))] at this
      obtain ⟨a, ea, r⟩ := R.par k s h'
      exact ⟨a, ea, keepP hm r⟩
  · have hm : Loc.p k ≠ l := fun z => by
      subst z
      have : e.ps[k]? = none := List.getElem?_eq_none_iff.mpr (by rw [← psS]; exact hk)
      simp [Env.at, this] at hl
    show updL w.fp l g (.p k) = []
    rw [updL_ne hm]
    exact R.pout k (by rw [← psS]; exact hk)
  · show (updL w.fp l g m).Nodup
    by_cases hm : m = l
    · subst hm; rw [updL_same]; exact hg
    · rw [updL_ne hm]; exact R.nd m
  · have h1' : a ∈ updL w.fp l g m := h1
    have h2' : a ∈ updL w.fp l g m' := h2
    by_cases hm : m = l <;> by_cases hm' : m' = l
    · rw [hm, hm']
    · subst hm
      rw [updL_same] at h1'
      rw [updL_ne hm'] at h2'
      rcases hgd a h1' with z | z
      · exact absurd z (other m' hm' a h2')
      · exact absurd ⟨m', h2'⟩ z
    · subst hm'
      rw [updL_same] at h2'
      rw [updL_ne hm] at h1'
      rcases hgd a h2' with z | z
      · exact absurd z (other m hm a h1')
      · exact absurd ⟨m, h1'⟩ z
    · rw [updL_ne hm] at h1'
      rw [updL_ne hm'] at h2'
      exact R.dis m m' a h1' h2'
  · rcases hasL x hx with z | ⟨z1, z2⟩
    · exact (hgo x z).1
    · exact hoff x z1 z2
  · rcases hasL x hx with z | ⟨z1, z2⟩
    · exact fun y => y (hgo x z).2
    · exact fun y => y (hla x z1 z2)
end
end Fp
/-! FpGhost: steps that change nothing of the heap: a list of one's own is read, becomes a value, is lent. -/
namespace Fp
open PySem L2
/-- made since w0, or a slot's then -/
def new0 (w : Wo) (x : Addr) : Prop := ∀ o, w.H x = some o → w.has x
/-- from w to w' without a change of the heap; q: what of the held is given up -/
structure Gh (w w' : Wo) (q : List Addr) : Prop where
  h : w'.H = w.H
  a : Same w.F w'.F
  f : ∀ x, w.F x = none → ¬ w.has x → x ∉ q → w'.F x = none
  p : ∀ x, w'.has x → w.has x
  l : ∀ x, w'.le x → w.le x ∨ w.has x
  m : ∀ x l, w.lf x = some l → w'.lf x = some l
theorem Gh.refl (w : Wo) : Gh w w [] := ⟨rfl, Same.refl _, fun _ h _ _ => h, fun _ h => h, fun _ h => .inl h, fun _ _ h => h⟩
theorem Gh.mono {w w' : Wo} {q q' : List Addr} (g : Gh w w' q) (h : ∀ x ∈ q, x ∈ q') : Gh w w' q' := ⟨g.h, g.a, fun x a b c => g.f x a b fun z => c (h x z), g.p, g.l, g.m⟩
theorem Gh.trans {w w1 w2 : Wo} {q1 q2 : List Addr} (a : Gh w w1 q1) (b : Gh w1 w2 q2) : Gh w w2 (q1 ++ q2) where
  h := b.h.trans a.h
  a := a.a.trans b.a
  f := fun x e n hx => b.f x (a.f x e n fun z => hx (List.mem_append_left _ z)) (fun z => n (a.p x z)) fun z => hx (List.mem_append_right _ z)
  p := fun x z => a.p x (b.p x z)
  l := fun x z => (b.l x z).elim (fun z => a.l x z) fun z => .inr (a.p x z)
  m := fun x l z => b.m x l (a.m x l z)
section
variable {S : Se} {σ : St} {e e' : Env} {w w' w0 : Wo} {v : V} {r : Rv} {q q' : List Addr} {l : Loc}
theorem RvRep.gh (g : Gh w w' q') (d : ∀ x ∈ q, x ∉ q') (h : RvRep S σ w v r q) : RvRep S σ w' v r q := by
  refine h.keep g.a fun x hx => ?_
  obtain ⟨z1, z2, z3⟩ := h.off x hx
  exact ⟨by rw [g.h], g.f x z1 z2 (d x hx), fun z => z2 (g.p x z), fun z => (g.l x z).elim z3 z2⟩
theorem RvReps.gh (g : Gh w w' q') {rs : List Rv} {vs : List V} (d : ∀ x ∈ q, x ∉ q') (h : RvReps S σ w vs rs q) : RvReps S σ w' vs rs q := by
  refine h.keep g.a fun x hx => ?_
  obtain ⟨z1, z2, z3⟩ := h.off x hx
  exact ⟨by rw [g.h], g.f x z1 z2 (d x hx), fun z => z2 (g.p x z), fun z => (g.l x z).elim z3 z2⟩
theorem Step.gh (h0 : Step w0 w) (g : Gh w w' q) (n : New w0 q) : Step w0 w' where
  a := h0.a.trans g.a
  b := fun x o h z => by rw [g.h]; exact h0.b x o h z
  c := fun x o h z t => h0.c x o h z (g.p x t)
  d := fun x o h z t => g.f x (h0.d x o h z t) (h0.c x o h z) fun y => z (n x y o h)
  e := fun x o h => by rw [g.h]; exact h0.e x o h
  f := fun x o h z t y => (g.l x y).elim (h0.f x o h z t) (h0.c x o h z)
  g := fun x l z => g.m x l (h0.g x l z)

/-- what is read of a value: a list that may be one's own -/
def Red (S : Se) (w : Wo) (d : D) (v : V) : Prop :=
  match d with
  | .lst ds => ∃ a vs, v = .ref a ∧ L2.Rd w.H a (.lst vs) ∧ Dats S w.F ds vs
  | d => Dat S w.F d v
theorem Red.of {d : D} (s : Same w.F w.H) (h : Dat S w.F d v) : Red S w d v := by
  cases d with
  | lst ds =>
    obtain ⟨a, vs, e, q, r⟩ := h
    exact ⟨a, vs, e, rdSame s q, r⟩
  | _ => exact h
theorem Red.gh {d : D} (g : Gh w w' q) (h : Red S w d v) : Red S w' d v := by
  cases d with
  | lst ds =>
    obtain ⟨a, vs, e, q, r⟩ := h
    exact ⟨a, vs, e, by rw [g.h]; exact q, r.mono g.a⟩
  | _ => exact Dat.mono g.a _ _ h

theorem frzO {d : D} {v : V} {F H : Hp} (h : Dat S F d v) : OwnI S F H d v [] := by
  cases d <;> first | exact ⟨rfl, h⟩ | exact h.elim
/-- what a place's own list is -/
theorem PlRep.own {ds : List D} {g : List Addr} (h : PlRep S σ w l (.own ds) g) : ∃ a, RvRep S σ w (.ref a) (.loc l) [] ∧ Own S w.F w.H a ds g := by
  cases l with
  | s i =>
    obtain ⟨a, e, o⟩ := h
    refine ⟨a, ⟨rfl, ?_⟩, o⟩
    cases q : σ[i]? with
    | none => rw [q] at e; cases e
    | some y => rw [q] at e; simp at e; rw [e]
  | p k =>
    obtain ⟨a, e, o⟩ := h
    exact ⟨a, ⟨rfl, a, e, rfl⟩, o⟩
theorem Rep.at (R : Rep S σ e w) {p : Pst} (h : e.at l = some p) : PlRep S σ w l p (w.fp l) := by
  cases l with
  | s i =>
    unfold Env.at at h
    simp only at h
    split at h <;> first | cases h | skip
    · rename_i ds hs; exact R.slot i _ hs
    · rename_i ds hs; exact R.slot i _ hs
    · rename_i ds hs
      exact R.slot i _ hs
  | p k =>
    have h' : e.ps[k]? = some p := h
    exact R.par k p h'
theorem RvRep.loc_inj {v v' : V} {q q' : List Addr} (h : RvRep S σ w v (.loc l) q) (h' : RvRep S σ w v' (.loc l) q') : v = v' := by
  cases l with
  | s i =>
    have e := h.2.symm.trans h'.2
    simpa using e
  | p k =>
    obtain ⟨_, a, e1, rfl⟩ := h
    obtain ⟨_, b, e2, rfl⟩ := h'
    rw [e1] at e2
    cases e2
    rfl
/-- the address that a place's list has -/
def LocA (S : Se) (σ : St) (l : Loc) (a : Addr) : Prop :=
  match l with
  | .s i => σ[i]? = some (some (.ref a))
  | .p k => S.pa[k]? = some a
theorem RvRep.locA {a : Addr} (h : RvRep S σ w (.ref a) (.loc l) q) : LocA S σ l a := by
  cases l with
  | s i => exact h.2
  | p k =>
    obtain ⟨_, b, e, z⟩ := h
    cases z
    exact e
theorem LocA.join {i : Nat} {a : Addr} (h : σ[i]? = some (some (.ref a))) : (σ[i]?).join = some (V.ref a) := by rw [h]; rfl
theorem PlRep.mk_own {a : Addr} {ds : List D} {g : List Addr} (h : LocA S σ l a) (o : Own S w.F w.H a ds g) : PlRep S σ w l (.own ds) g := by
  cases l with
  | s i => exact ⟨a, LocA.join h, o⟩
  | p k => exact ⟨a, h, o⟩
theorem PlRep.mk_frz {a : Addr} {ds : List D} (h : LocA S σ l a) (o : Dat S w.F (.lst ds) (.ref a)) : PlRep S σ w l (.frz ds) [] := by
  cases l with
  | s i => exact ⟨rfl, .ref a, LocA.join h, o⟩
  | p k => exact ⟨a, h, rfl, o⟩
theorem PlRep.mk_lea {a : Addr} {ds : List D} {vs : List V} (h : LocA S σ l a) (o : w.H a = some (.lst vs)) (r : Dats S w.F ds vs) (z : w.lf a = some l) : PlRep S σ w l (.lea ds) [] := by
  cases l with
  | s i => exact ⟨rfl, a, vs, LocA.join h, o, r, z⟩
  | p k => exact ⟨a, h, rfl, vs, o, r, z⟩

/-- F grows at one place -/
theorem ghost_at (R : Rep S σ e w) {ds : List D} (hl : e.at l = some (.own ds)) {p : Pst} {A g : List Addr} {le' : Addr → Option Loc} (hA : ∀ x ∈ A, x ∈ w.fp l) (hg : ∀ x ∈ g, x ∈ w.fp l) (hgn : g.Nodup) (hag : ∀ x ∈ g, x ∉ A)
    (hle : ∀ x m, w.lf x = some m → le' x = some m) (hle2 : ∀ x, le' x ≠ none → w.le x ∨ x ∈ w.fp l) (hle3 : ∀ x ∈ g, le' x = none)
    (new : PlRep S σ ⟨grow w.F w.H A, w.H, updL w.fp l g, le'⟩ l p g) :
    Rep S σ (e.put l p) ⟨grow w.F w.H A, w.H, updL w.fp l g, le'⟩ ∧ Gh w ⟨grow w.F w.H A, w.H, updL w.fp l g, le'⟩ [] := by
  obtain ⟨a0, _, o⟩ := (R.at hl).own
  have offA : ∀ x ∈ A, w.F x = none := fun x hx => R.off x ⟨l, hA x hx⟩
  have sF : Same w.F (grow w.F w.H A) := grow_same offA
  refine ⟨R.upd l p _ hl sF (grow_sub R.sub) (fun x o h _ => h) (fun x hx hn => ?_) (fun x m _ => hle x m) hgn (fun x hx => ⟨?_, hle3 x hx⟩) (fun x hx => .inl (hg x hx)) (fun x hx hn => ?_) (fun x z => (hle2 x z).elim (R.leh x) fun z => let ⟨us, hu⟩ := o.there x z; ⟨_, hu⟩) new,
    rfl, sF, fun x e1 hn _ => ?_, fun x ⟨m, hx⟩ => ?_, fun x z => (hle2 x z).imp_right fun z => ⟨l, z⟩, hle⟩
  · rw [grow_out fun z => hn (hA x z)]
    exact R.off x hx
  · rw [grow_out (hag x hx)]
    exact R.off x ⟨l, hg x hx⟩
  · cases y : le' x with
    | none => rfl
    | some m =>
      rcases hle2 x (by rw [y]; exact fun z => nomatch z) with z | z
      · exact absurd z (R.ale x hx)
      · exact absurd z hn
  · show grow w.F w.H A x = none
    rw [grow_out fun z => hn ⟨l, hA x z⟩]
    exact e1
  · have hx' : x ∈ updL w.fp l g m := hx
    by_cases hm : m = l
    · subst hm; rw [updL_same] at hx'; exact ⟨m, hg x hx'⟩
    · rw [updL_ne hm] at hx'; exact ⟨m, hx'⟩
theorem Own.head {a : Addr} {ds : List D} {fp : List Addr} {F H : Hp} (o : Own S F H a ds fp) : ∃ g, fp = a :: g := by
  obtain ⟨vs, g, _, e, _⟩ := o
  exact ⟨g, e⟩
/-- reading a place's own list: what is nested in it becomes values -/
theorem ghost_read (R : Rep S σ e w) {ds : List D} (hl : e.at l = some (.own ds)) :
    ∃ w' a vs, Rep S σ (e.put l (.own (ds.map frz1))) w' ∧ Gh w w' [] ∧ LocA S σ l a ∧ w'.H a = some (.lst vs) ∧ Dats S w'.F (ds.map frz1) vs ∧ w'.fp = updL w.fp l [a] := by
  obtain ⟨a, ra, o⟩ := (R.at hl).own
  obtain ⟨vs, g, q, e1, os⟩ := o
  have nd : (a :: g).Nodup := by rw [← e1]; exact R.nd l
  have hA : ∀ x ∈ g, x ∈ w.fp l := fun x hx => by rw [e1]; exact List.mem_cons_of_mem _ hx
  have offA : ∀ x ∈ g, w.F x = none := fun x hx => R.off x ⟨l, hA x hx⟩
  have dd : Dats S (grow w.F w.H g) (ds.map frz1) vs := os.frozen (fun x hx => hx) offA
  have al : a ∈ w.fp l := by rw [e1]; simp
  obtain ⟨R', G⟩ := ghost_at R hl (p := .own (ds.map frz1)) (A := g) (g := [a]) (le' := w.lf) hA (fun x hx => by rw [List.mem_singleton.mp hx]; exact al) (by simp)
    (fun x hx => by rw [List.mem_singleton.mp hx]; exact (List.nodup_cons.mp nd).1) (fun x m z => z) (fun x z => .inl z) (fun x hx => by rw [List.mem_singleton.mp hx]; exact Classical.not_not.mp (R.ale a ⟨l, al⟩))
    (PlRep.mk_own ra.locA (Own.of_dats q dd))
  exact ⟨_, a, vs, R', G, ra.locA, q, dd, rfl⟩
theorem ghost_frz (R : Rep S σ e w) {ds : List D} (hl : e.at l = some (.own ds)) :
    ∃ w' a, Rep S σ (e.put l (.frz (ds.map frz1))) w' ∧ Gh w w' [] ∧ LocA S σ l a ∧ Dat S w'.F (.lst (ds.map frz1)) (.ref a) := by
  obtain ⟨a, ra, o⟩ := (R.at hl).own
  have offA : ∀ x ∈ w.fp l, w.F x = none := fun x hx => R.off x ⟨l, hx⟩
  have dd := o.frozen (fun x hx => hx) offA
  obtain ⟨R', G⟩ := ghost_at R hl (p := .frz (ds.map frz1)) (A := w.fp l) (g := []) (le' := w.lf) (fun x hx => hx) (fun x hx => by simp at hx) List.nodup_nil
    (fun x hx => by simp at hx) (fun x m z => z) (fun x z => .inl z) (fun x hx => by simp at hx)
    (PlRep.mk_frz ra.locA dd)
  exact ⟨_, a, R', G, ra.locA, dd⟩
theorem ghost_lea (R : Rep S σ e w) {ds : List D} (hl : e.at l = some (.own ds)) :
    ∃ w' a vs, Rep S σ (e.put l (.lea (ds.map frz1))) w' ∧ Gh w w' [] ∧ LocA S σ l a ∧ w'.H a = some (.lst vs) ∧ Dats S w'.F (ds.map frz1) vs ∧ w'.lf a = some l ∧ w'.F a = none ∧ w.has a ∧ ¬ w'.has a := by
  obtain ⟨a, ra, o⟩ := (R.at hl).own
  obtain ⟨vs, g, q, e1, os⟩ := o
  have nd : (a :: g).Nodup := by rw [← e1]; exact R.nd l
  have hA : ∀ x ∈ g, x ∈ w.fp l := fun x hx => by rw [e1]; exact List.mem_cons_of_mem _ hx
  have offA : ∀ x ∈ g, w.F x = none := fun x hx => R.off x ⟨l, hA x hx⟩
  have dd : Dats S (grow w.F w.H g) (ds.map frz1) vs := os.frozen (fun x hx => hx) offA
  have al : a ∈ w.fp l := by rw [e1]; simp
  obtain ⟨R', G⟩ := ghost_at R hl (p := .lea (ds.map frz1)) (A := g) (g := []) (le' := fun x => if x = a then some l else w.lf x) hA (fun x hx => by simp at hx) List.nodup_nil
    (fun x hx => by simp at hx) (fun x m z => by
      by_cases h : x = a
      · rw [h] at z
        exact absurd (show w.le a from fun y => by rw [z] at y; cases y) (R.ale a ⟨l, al⟩)
      · simp only [if_neg h]; exact z) (fun x z => by
      by_cases h : x = a
      · exact .inr (by rw [h]; exact al)
      · simp only [if_neg h] at z; exact .inl z) (fun x hx => by simp at hx)
    (PlRep.mk_lea ra.locA q dd (if_pos rfl))
  exact ⟨_, a, vs, R', G, ra.locA, q, dd, if_pos rfl, by
    show grow w.F w.H g a = none
    rw [grow_out (List.nodup_cons.mp nd).1]
    exact R.off a ⟨l, al⟩, ⟨l, al⟩, fun ⟨m, hm⟩ => by
    have hm' : a ∈ updL w.fp l [] m := hm
    by_cases z : m = l
    · rw [z, updL_same] at hm'; simp at hm'
    · rw [updL_ne z] at hm'; exact z (R.dis m l a hm' al)⟩
/-- a held new list becomes a value -/
theorem ghost_held (R : Rep S σ e w) {ds : List D} (r : RvRep S σ w v (.fresh ds) q) : ∃ w', Rep S σ e w' ∧ Gh w w' q ∧ Dat S w'.F (.lst (ds.map frz1)) v := by
  obtain ⟨a, rfl, o, nd, off⟩ := r
  have offA : ∀ x ∈ q, w.F x = none := fun x hx => (off x hx).1
  have sF : Same w.F (grow w.F w.H q) := grow_same offA
  refine ⟨⟨grow w.F w.H q, w.H, w.fp, w.lf⟩, ⟨grow_sub R.sub, R.len, R.plen, fun i s hs => ?_, R.out, fun k p hp => ?_, R.pout, R.nd, R.dis, fun x hx => ?_, R.ale, R.leh⟩, ⟨rfl, sF, fun x e1 _ hx => ?_, fun x h => h, fun x h => .inl h, fun x l h => h⟩, o.frozen (fun x hx => hx) offA⟩
  · have h := R.slot i s hs
    cases s with
    | no => exact h
    | val d => exact ⟨h.1, h.2.imp fun v z => ⟨z.1, Dat.mono sF _ _ z.2⟩⟩
    | own ds => exact h.imp fun a z => ⟨z.1, z.2.mono sF fun _ _ => rfl⟩
    | lea ds =>
      obtain ⟨e1, a, vs, e2, q, r, z⟩ := h
      exact ⟨e1, a, vs, e2, q, r.mono sF, z⟩
    | lnk k => exact h
  · obtain ⟨a, ea, h⟩ := R.par k p hp
    refine ⟨a, ea, ?_⟩
    cases p with
    | own ds => exact Own.mono (S := S) sF (fun _ _ => rfl) h
    | lea ds =>
      obtain ⟨e1, vs, q, r, z⟩ := h
      exact ⟨e1, vs, q, r.mono sF, z⟩
    | frz ds => exact ⟨h.1, Dat.mono sF _ _ h.2⟩
  · show grow w.F w.H q x = none
    rw [grow_out fun z => (off x z).2.1 hx]
    exact R.off x hx
  · show grow w.F w.H q x = none
    rw [grow_out hx]
    exact e1
theorem rvLoc {a : Addr} (h : LocA S σ l a) (r : RvRep S σ w v (.loc l) q) : v = .ref a := by
  cases l with
  | s i =>
    have h' : σ[i]? = some (some (.ref a)) := h
    have e := r.2.symm.trans h'
    simpa using e
  | p k =>
    have h' : S.pa[k]? = some a := h
    obtain ⟨_, b, e, rfl⟩ := r
    rw [h'] at e
    cases e
    rfl
theorem PlRep.rd (s : Same w.F w.H) {ds : List D} {p : Pst} {g : List Addr} (r : RvRep S σ w v (.loc l) q) (hp : p = .lea ds ∨ p = .frz ds) (h : PlRep S σ w l p g) : Red S w (.lst ds) v := by
  rcases hp with rfl | rfl
  · cases l with
    | s i =>
      obtain ⟨_, a, vs, e, q1, q2, _⟩ := h
      rw [r.2] at e
      have e' : v = .ref a := by simpa using e
      exact ⟨a, vs, e', .inl q1, q2⟩
    | p k =>
      obtain ⟨a, ea, _, vs, q1, q2, _⟩ := h
      obtain ⟨_, b, eb, rfl⟩ := r
      rw [ea] at eb
      cases eb
      exact ⟨a, vs, rfl, .inl q1, q2⟩
  · cases l with
    | s i =>
      obtain ⟨_, u, e, q1⟩ := h
      rw [r.2] at e
      have e' : v = u := by simpa using e
      rw [e']
      exact Red.of s q1
    | p k =>
      obtain ⟨a, ea, _, q1⟩ := h
      obtain ⟨_, b, eb, rfl⟩ := r
      rw [ea] at eb
      cases eb
      exact Red.of s q1
theorem PlRep.frzDat {ds : List D} {g : List Addr} (r : RvRep S σ w v (.loc l) q) (h : PlRep S σ w l (.frz ds) g) : Dat S w.F (.lst ds) v := by
  cases l with
  | s i =>
    obtain ⟨_, u, e, q1⟩ := h
    rw [r.2] at e
    have e' : v = u := by simpa using e
    rw [e']
    exact q1
  | p k =>
    obtain ⟨a, ea, _, q1⟩ := h
    obtain ⟨_, b, eb, rfl⟩ := r
    rw [ea] at eb
    cases eb
    exact q1
theorem peek_ok (R : Rep S σ e w) (r : RvRep S σ w v x q) {d : D} (h : e.peek x = .ok d e') : ∃ w', Rep S σ e' w' ∧ Gh w w' q ∧ Red S w' d v := by
  cases x with
  | val d0 =>
    obtain ⟨rfl, rd⟩ := r
    cases h
    exact ⟨w, R, Gh.refl w, Red.of R.sub rd⟩
  | fresh ds =>
    cases h
    obtain ⟨w', R', G, dd⟩ := ghost_held R r
    exact ⟨w', R', G, Red.of R'.sub dd⟩
  | loc l =>
    unfold Env.peek at h
    simp only at h
    cases hl : e.at l with
    | none => rw [hl] at h; cases h
    | some p =>
      rw [hl] at h
      cases p with
      | own ds =>
        cases h
        obtain ⟨w', a, vs, R', G, la, q1, dd, _⟩ := ghost_read R hl
        exact ⟨w', R', G.mono (by simp), a, vs, rvLoc la r, .inl q1, dd⟩
      | lea ds =>
        cases h
        exact ⟨w, R, (Gh.refl w).mono (by simp), (R.at hl).rd R.sub r (.inl rfl)⟩
      | frz ds =>
        cases h
        exact ⟨w, R, (Gh.refl w).mono (by simp), (R.at hl).rd R.sub r (.inr rfl)⟩
theorem asVal_ok (R : Rep S σ e w) (r : RvRep S σ w v x q) {d : D} (h : e.asVal x = .ok d e') : ∃ w', Rep S σ e' w' ∧ Gh w w' q ∧ Dat S w'.F d v := by
  cases x with
  | val d0 =>
    obtain ⟨rfl, rd⟩ := r
    cases h
    exact ⟨w, R, Gh.refl w, rd⟩
  | fresh ds =>
    cases h
    exact ghost_held R r
  | loc l =>
    unfold Env.asVal at h
    simp only at h
    cases hl : e.at l with
    | none => rw [hl] at h; cases h
    | some p =>
      rw [hl] at h
      cases p with
      | own ds =>
        cases h
        obtain ⟨w', a, R', G, la, dd⟩ := ghost_frz R hl
        refine ⟨w', R', G.mono (by simp), ?_⟩
        rw [rvLoc la r]
        exact dd
      | lea ds => cases h
      | frz ds =>
        cases h
        exact ⟨w, R, (Gh.refl w).mono (by simp), (R.at hl).frzDat r⟩
theorem peek_nx {x : Rv} : (∃ d e', e.peek x = .ok d e') ∨ e.peek x = .bad := by
  cases x with
  | val d0 => exact .inl ⟨_, _, rfl⟩
  | fresh ds => exact .inl ⟨_, _, rfl⟩
  | loc l =>
    unfold Env.peek
    simp only
    cases e.at l with
    | none => exact .inr rfl
    | some p => cases p <;> exact .inl ⟨_, _, rfl⟩
theorem asVal_nx {x : Rv} : (∃ d e', e.asVal x = .ok d e') ∨ e.asVal x = .bad := by
  cases x with
  | val d0 => exact .inl ⟨_, _, rfl⟩
  | fresh ds => exact .inl ⟨_, _, rfl⟩
  | loc l =>
    unfold Env.asVal
    simp only
    cases e.at l with
    | none => exact .inr rfl
    | some p => cases p <;> first | exact .inl ⟨_, _, rfl⟩ | exact .inr rfl
end
end Fp
/-! FpSem: the evaluator's steps as readings of the layer; several held values; new objects. -/
namespace Fp
open PySem L2
section
variable {S : Se} {σ : St} {e e' : Env} {w w' w0 w1 w2 : Wo} {v : V} {r : Rv} {q q' : List Addr} {l : Loc}

/-! ### new objects -/
theorem Rep.more (R : Rep S σ e w) {F' H' : Hp} (sF : Same w.F F') (sub : Same F' H') (hH : Same w.H H') (off : ∀ x, w.has x → F' x = none) : Rep S σ e ⟨F', H', w.fp, w.lf⟩ := by
  have lea : ∀ x, w.le x → (∀ o, w.H x = some o → H' x = some o) := fun x hx o ho => hH x o ho
  refine ⟨sub, R.len, R.plen, fun i s hs => ?_, R.out, fun k p hp => ?_, R.pout, R.nd, R.dis, off, R.ale, fun x z => let ⟨o, h⟩ := R.leh x z; ⟨o, hH x o h⟩⟩
  · have h := R.slot i s hs
    cases s with
    | no => exact h
    | val d =>
      obtain ⟨e1, v, e2, r⟩ := h
      exact ⟨e1, v, e2, Dat.mono sF _ _ r⟩
    | own ds =>
      obtain ⟨a, e1, r⟩ := h
      refine ⟨a, e1, r.mono sF fun x hx => ?_⟩
      obtain ⟨us, hu⟩ := r.there x hx
      show H' x = w.H x
      rw [hu]; exact hH x _ hu
    | lea ds =>
      obtain ⟨e1, a, vs, e2, q, r, z⟩ := h
      exact ⟨e1, a, vs, e2, hH _ _ q, r.mono sF, z⟩
    | lnk k => exact h
  · obtain ⟨a, ea, h⟩ := R.par k p hp
    refine ⟨a, ea, ?_⟩
    cases p with
    | own ds =>
      have r : Own S w.F w.H a ds (w.fp (.p k)) := h
      refine Own.mono (S := S) sF (fun x hx => ?_) r
      obtain ⟨us, hu⟩ := r.there x hx
      show H' x = w.H x
      rw [hu]; exact hH x _ hu
    | lea ds =>
      obtain ⟨e1, vs, q, r, z⟩ := h
      exact ⟨e1, vs, hH _ _ q, r.mono sF, z⟩
    | frz ds => exact ⟨h.1, Dat.mono sF _ _ h.2⟩
theorem sameUpd {H : Hp} {p : Addr} {o : HO} (h : H p = none) : Same H (upd H p o) := fun b x e => by
  rw [upd_ne (ne_of_none e h)]; exact e
theorem same_none {F H : Hp} (s : Same F H) {p : Addr} (h : H p = none) : F p = none := by
  cases e : F p with
  | none => rfl
  | some o => rw [s p o e] at h; cases h
theorem Rep.nofp (R : Rep S σ e w) {p : Addr} (h : w.H p = Option.none) : ¬ w.has p := fun ⟨l, hl⟩ => by
  cases l with
  | s i =>
    cases q : e.sl[i]? with
    | none => rw [R.out i (List.getElem?_eq_none_iff.mp q)] at hl; simp at hl
    | some s =>
      have z := R.slot i s q
      cases s with
      | own ds =>
        obtain ⟨a, _, o⟩ := z
        obtain ⟨us, hu⟩ := o.there p hl
        rw [h] at hu; cases hu
      | no => rw [show w.fp (.s i) = [] from z] at hl; simp at hl
      | val _ => rw [z.1] at hl; simp at hl
      | lea _ => rw [z.1] at hl; simp at hl
      | lnk _ => rw [z.1] at hl; simp at hl
  | p k =>
    cases q : e.ps[k]? with
    | none => rw [R.pout k (List.getElem?_eq_none_iff.mp q)] at hl; simp at hl
    | some s =>
      obtain ⟨a, _, z⟩ := R.par k s q
      cases s with
      | own ds =>
        have o : Own S w.F w.H a ds (w.fp (.p k)) := z
        obtain ⟨us, hu⟩ := o.there p hl
        rw [h] at hu; cases hu
      | lea _ => rw [z.1] at hl; simp at hl
      | frz _ => rw [z.1] at hl; simp at hl
theorem alloc_val (R : Rep S σ e w) {p : Addr} {o : HO} (hp : w.H p = none) : Rep S σ e ⟨upd w.F p o, upd w.H p o, w.fp, w.lf⟩ ∧ Step w ⟨upd w.F p o, upd w.H p o, w.fp, w.lf⟩ := by
  have fp : w.F p = none := same_none R.sub hp
  refine ⟨R.more (sameUpd fp) (fun b x z => ?_) (sameUpd hp) (fun x hx => ?_), sameUpd fp, fun x u h _ => ?_, fun x u h n => n, fun x u h n z => ?_, fun x u h => ⟨u, ?_⟩, fun x u h n z => z, fun x l z => z⟩
  · by_cases hb : b = p
    · subst hb; rw [upd_same] at z ⊢; exact z
    · rw [upd_ne hb] at z ⊢; exact R.sub b x z
  · rw [upd_ne fun z => R.nofp hp (by rw [← z]; exact hx)]
    exact R.off x hx
  · exact sameUpd hp x u h
  · show upd w.F p o x = none
    rw [upd_ne (ne_of_none h hp)]; exact z
  · exact sameUpd hp x u h
theorem alloc_new (R : Rep S σ e w) {p : Addr} {o : HO} (hp : w.H p = none) : Rep S σ e ⟨w.F, upd w.H p o, w.fp, w.lf⟩ ∧ Step w ⟨w.F, upd w.H p o, w.fp, w.lf⟩ := by
  refine ⟨R.more (Same.refl _) (fun b x z => sameUpd hp b x (R.sub b x z)) (sameUpd hp) (fun x hx => R.off x hx), Same.refl _, fun x u h _ => sameUpd hp x u h, fun x u h n => n, fun x u h n z => z, fun x u h => ⟨u, sameUpd hp x u h⟩, fun x u h n z => z, fun x l z => z⟩

/-! ### several items -/
theorem OwnI.gh {d : D} {v : V} {g : List Addr} (G : Gh w w' q) (h : OwnI S w.F w.H d v g) : OwnI S w'.F w'.H d v g := h.mono G.a fun x _ => by rw [G.h]
theorem OwnIs.gh {ds : List D} {vs : List V} {g : List Addr} (G : Gh w w' q) (h : OwnIs S w.F w.H ds vs g) : OwnIs S w'.F w'.H ds vs g := h.mono G.a fun x _ => by rw [G.h]
theorem OwnIs.of_flat : ∀ {ds : List D} {vs : List V} {g : List Addr} {F H : Hp}, ds.all D.flat1 = true → OwnIs S F H ds vs g → g = [] ∧ Dats S F ds vs
  | [], vs, g, _, _, _, h => ⟨h.2, by rw [h.1]; trivial⟩
  | d :: ds, vs, g, F, H, k, h => by
    obtain ⟨v, ws, f, g1, rfl, rfl, t, r⟩ := h
    simp only [List.all_cons, Bool.and_eq_true] at k
    obtain ⟨e1, r1⟩ := OwnIs.of_flat k.2 r
    cases d with
    | olst _ => exact absurd k.1 (by simp [D.flat1])
    | _ => exact ⟨by rw [t.1, e1]; rfl, t.2, r1⟩
/-- free of all: F, the slots, the leased -/
def Off (w : Wo) (q : List Addr) : Prop := ∀ x ∈ q, w.F x = none ∧ ¬ w.has x ∧ ¬ w.le x
theorem Off.gh (G : Gh w w' q') (d : ∀ x ∈ q, x ∉ q') (h : Off w q) : Off w' q := fun x hx => by
  obtain ⟨z1, z2, z3⟩ := h x hx
  exact ⟨G.f x z1 z2 (d x hx), fun z => z2 (G.p x z), fun z => (G.l x z).elim z3 z2⟩
theorem item_ok (R : Rep S σ e w) {x : Rv} (r : RvRep S σ w v x q) {d : D} (h : e.item x = .ok d e') :
    ∃ w' g, Rep S σ e' w' ∧ Gh w w' q ∧ OwnI S w'.F w'.H d v g ∧ (∀ y ∈ g, y ∈ q) ∧ g.Nodup ∧ Off w' g := by
  have val : ∀ {d}, e.asVal x = .ok d e' → ∃ w' g, Rep S σ e' w' ∧ Gh w w' q ∧ OwnI S w'.F w'.H d v g ∧ (∀ y ∈ g, y ∈ q) ∧ g.Nodup ∧ Off w' g := fun {d} h => by
    obtain ⟨w', R', G, dd⟩ := asVal_ok R r h
    exact ⟨w', [], R', G, frzO dd, by simp, List.nodup_nil, fun _ h => by simp at h⟩
  cases x with
  | val d0 => exact val h
  | loc l => exact val h
  | fresh ds =>
    unfold Env.item at h
    simp only at h
    cases hf : ds.all D.flat1 with
    | true =>
      rw [hf] at h
      simp at h
      obtain ⟨rfl, rfl⟩ := h
      obtain ⟨a, rfl, ⟨vs, g, q1, rfl, os⟩, nd, off⟩ := r
      obtain ⟨rfl, dd⟩ := OwnIs.of_flat hf os
      exact ⟨w, [a], R, (Gh.refl w).mono (by simp), ⟨a, vs, rfl, rfl, q1, dd⟩, fun y h => h, nd, off⟩
    | false =>
      rw [hf] at h
      simp at h
      obtain ⟨rfl, rfl⟩ := h
      obtain ⟨w', R', G, dd⟩ := ghost_held R r
      exact ⟨w', [], R', G, frzO dd, by simp, List.nodup_nil, fun _ h => by simp at h⟩
theorem asVals_ok : ∀ {rs : List Rv} {vs : List V} {q : List Addr} {e : Env} {w : Wo} {ds : List D}, Rep S σ e w → RvReps S σ w vs rs q → q.Nodup → e.asVals rs = .ok ds e' → ∃ w', Rep S σ e' w' ∧ Gh w w' q ∧ Dats S w'.F ds vs
  | [], vs, q, e, w, ds, R, r, _, h => by
    cases h
    obtain ⟨rfl, rfl⟩ := r
    exact ⟨w, R, Gh.refl w, trivial⟩
  | x :: rs, vs, q, e, w, ds, R, r, nd, h => by
    obtain ⟨v, ws, f, g, rfl, rfl, r1, r2⟩ := r
    unfold Env.asVals at h
    cases h1 : e.asVal x with
    | bad => rw [h1] at h; cases h
    | ex _ _ _ => rw [h1] at h; cases h
    | ok d e1 =>
      rw [h1, Fp.R.bind_ok] at h
      obtain ⟨w1, R1, G1, d1⟩ := asVal_ok R r1 h1
      have dis : ∀ x ∈ g, x ∉ f := fun x hx hf => (List.nodup_append.mp nd).2.2 x hf x hx rfl
      cases h2 : e1.asVals rs with
      | bad => rw [h2] at h; cases h
      | ex _ _ _ => rw [h2] at h; cases h
      | ok ds2 e2 =>
        rw [h2, Fp.R.bind_ok] at h
        cases h
        obtain ⟨w2, R2, G2, d2⟩ := asVals_ok R1 (r2.gh G1 dis) (List.nodup_append.mp nd).2.1 h2
        exact ⟨w2, R2, G1.trans G2, Dat.mono G2.a _ _ d1, d2⟩
theorem items_ok : ∀ {rs : List Rv} {vs : List V} {q : List Addr} {e : Env} {w : Wo} {ds : List D}, Rep S σ e w → RvReps S σ w vs rs q → q.Nodup → e.items rs = .ok ds e' →
    ∃ w' g, Rep S σ e' w' ∧ Gh w w' q ∧ OwnIs S w'.F w'.H ds vs g ∧ (∀ y ∈ g, y ∈ q) ∧ g.Nodup ∧ Off w' g
  | [], vs, q, e, w, ds, R, r, _, h => by
    cases h
    obtain ⟨rfl, rfl⟩ := r
    exact ⟨w, [], R, Gh.refl w, ⟨rfl, rfl⟩, by simp, List.nodup_nil, fun _ h => by simp at h⟩
  | x :: rs, vs, q, e, w, ds, R, r, nd, h => by
    obtain ⟨v, ws, f, g, rfl, rfl, r1, r2⟩ := r
    unfold Env.items at h
    have nd' := List.nodup_append.mp nd
    cases h1 : e.item x with
    | bad => rw [h1] at h; cases h
    | ex _ _ _ => rw [h1] at h; cases h
    | ok d e1 =>
      rw [h1, Fp.R.bind_ok] at h
      obtain ⟨w1, g1, R1, G1, d1, s1, n1, o1⟩ := item_ok R r1 h1
      have dis : ∀ x ∈ g, x ∉ f := fun x hx hf => nd'.2.2 x hf x hx rfl
      cases h2 : e1.items rs with
      | bad => rw [h2] at h; cases h
      | ex _ _ _ => rw [h2] at h; cases h
      | ok ds2 e2 =>
        rw [h2, Fp.R.bind_ok] at h
        cases h
        obtain ⟨w2, g2, R2, G2, d2, s2, n2, o2⟩ := items_ok R1 (r2.gh G1 dis) nd'.2.1 h2
        refine ⟨w2, g1 ++ g2, R2, G1.trans G2, ⟨v, ws, g1, g2, rfl, rfl, d1.gh G2, d2⟩, fun y hy => ?_, List.nodup_append.mpr ⟨n1, n2, fun a ha b hb => ?_⟩, fun y hy => ?_⟩
        · rcases List.mem_append.mp hy with hy | hy
          · exact List.mem_append_left _ (s1 y hy)
          · exact List.mem_append_right _ (s2 y hy)
        · exact fun z => dis b (s2 b hb) (z ▸ s1 a ha)
        · rcases List.mem_append.mp hy with hy | hy
          · exact o1.gh G2 (fun z hz hz2 => dis z hz2 (s1 z hz)) y hy
          · exact o2 y hy
end

/-! ### the readings -/
/-- from w0 on: what m ends in -/
def Good {α : Type} (S : Se) (W : WX) (σ : St) (w0 : Wo) (m : R α) (post : α → Env → Wo → Prop) : Prop :=
  match m with
  | .ok a e => ∀ w, Step w0 w → Rep S σ e w → post a e w
  | .ex c d e => ∀ C dx w u, S.cl c = some C → Step w0 w → Rep S σ e w → w.F dx = some (.xd [(("value" : Str), u)]) → Dat S w.F d u → W (.ref C) (some dx) σ w.H
  | .bad => False
def postR (S : Se) (σ : St) (w0 : Wo) (Q : VK) : Rv → Env → Wo → Prop := fun r _ w => ∀ v q, RvRep S σ w v r q → New w0 q → Q v w.H
def postB (Q : Bool → Hp → Prop) : Bool → Env → Wo → Prop := fun b _ w => Q b w.H
def postA (S : Se) (σ : St) (w0 : Wo) (Q : List V → Hp → Prop) : List Rv → Env → Wo → Prop := fun rs _ w => ∀ vs q, RvReps S σ w vs rs q → New w0 q → q.Nodup → Q vs w.H
def tE (S : Se) (W : WX) (ev : Env → R Rv) : TE := fun σ H Q => ∃ e w, w.H = H ∧ Rep S σ e w ∧ Good S W σ w (ev e) (postR S σ w Q)
def tT (S : Se) (W : WX) (ev : Env → R Bool) : TT := fun σ H Q => ∃ e w, w.H = H ∧ Rep S σ e w ∧ Good S W σ w (ev e) (postB Q)
def tA (S : Se) (W : WX) (ev : Env → R (List Rv)) : TA := fun σ H Q => ∃ e w, w.H = H ∧ Rep S σ e w ∧ Good S W σ w (ev e) (postA S σ w Q)
section
variable {S : Se} {W : WX} {σ : St} {e e' : Env} {w w' w0 w1 w2 : Wo} {v : V} {r : Rv} {q q' : List Addr} {l : Loc} {α β : Type}
theorem Good.mono {m : R α} {p p' : α → Env → Wo → Prop} (h : Good S W σ w0 m p) (k : ∀ a e w, Step w0 w → Rep S σ e w → p a e w → p' a e w) : Good S W σ w0 m p' := by
  cases m with
  | ok a e => exact fun w s R => k a e w s R (h w s R)
  | ex c d e => exact h
  | bad => exact h
theorem Good.bind {m : R α} {k : α → Env → R β} {p : β → Env → Wo → Prop} (h : Good S W σ w0 (m.bind k) p) : Good S W σ w0 m fun a e _ => Good S W σ w0 (k a e) p := by
  cases m with
  | ok a e => exact fun w s R => h
  | ex c d e => exact h
  | bad => exact h
theorem Good.base {m : R α} {p : α → Env → Wo → Prop} (s : Step w0 w1) (h : Good S W σ w0 m p) : Good S W σ w1 m fun a e w => Step w0 w ∧ p a e w := by
  cases m with
  | ok a e => exact fun w t R => ⟨s.trans t, h w (s.trans t) R⟩
  | ex c d e => exact fun C dx w u ec t => h C dx w u ec (s.trans t)
  | bad => exact h
/-- an expression, then what follows -/
theorem tE.one {ev : Env → R Rv} {k : Rv → Env → R α} {p : α → Env → Wo → Prop} {Q : VK} (hw : w.H = H) (R : Rep S σ e w) (g : Good S W σ w ((ev e).bind k) p)
    (h : ∀ v r q e w', Step w w' → Rep S σ e w' → RvRep S σ w' v r q → New w q → Good S W σ w (k r e) p → Q v w'.H) : tE S W ev σ H Q :=
  ⟨e, w, hw, R, g.bind.mono fun r e' w' s R' g' v q hr n => h v r q e' w' s R' hr n g'⟩
/-- .. in the middle of an evaluation from w0 on -/
theorem tE.on {ev : Env → R Rv} {k : Rv → Env → R α} {p : α → Env → Wo → Prop} {Q : VK} (s0 : Step w0 w) (R : Rep S σ e w) (g : Good S W σ w0 ((ev e).bind k) p)
    (h : ∀ v r q e w', Step w w' → Step w0 w' → Rep S σ e w' → RvRep S σ w' v r q → New w0 q → New w q → Good S W σ w0 (k r e) p → Q v w'.H) : tE S W ev σ w.H Q :=
  ⟨e, w, rfl, R, (g.bind.base s0).mono fun r e' w' s R' g' v q hr n => h v r q e' w' s g'.1 R' hr (n.step s0) n g'.2⟩
theorem apart {v1 v2 : V} {x y : Rv} {q1 q2 : List Addr} (h1 : RvRep S σ w v1 x q1) (n : New w q2) : ∀ z ∈ q1, z ∉ q2 := fun z hz h2 => by
  obtain ⟨us, hu⟩ := h1.there z hz
  exact (h1.off z hz).2.1 (n z h2 _ hu)
theorem aparts {vs : List V} {rs : List Rv} {q1 q2 : List Addr} (h1 : RvReps S σ w vs rs q1) (n : New w q2) : ∀ z ∈ q1, z ∉ q2 := fun z hz h2 => by
  obtain ⟨us, hu⟩ := h1.there z hz
  exact (h1.off z hz).2.1 (n z h2 _ hu)
/-- two expressions, then an operation -/
theorem tE.two {ea eb : Env → R Rv} {op : Rv → Rv → Env → R α} {p : Wo → α → Env → Wo → Prop} {H : Hp} {P : V → V → Hp → Prop}
    (h : ∃ e w, w.H = H ∧ Rep S σ e w ∧ Good S W σ w ((ea e).bind fun x e => (eb e).bind fun y e => op x y e) (p w))
    (fin : ∀ w0 w e x y v1 v2 q1 q2, Step w0 w → Rep S σ e w → RvRep S σ w v1 x q1 → RvRep S σ w v2 y q2 → (∀ z ∈ q1, z ∉ q2) → New w0 q1 → New w0 q2 → Good S W σ w0 (op x y e) (p w0) → P v1 v2 w.H) :
    tE S W ea σ H fun v1 H1 => tE S W eb σ H1 fun v2 H2 => P v1 v2 H2 := by
  obtain ⟨e, w, rfl, R, g⟩ := h
  refine tE.one rfl R g fun v1 x q1 e1 w1 s1 R1 r1 n1 g1 => ?_
  refine tE.on s1 R1 g1 fun v2 y q2 e2 w2 s2 s02 R2 r2 n2 n21 g2 => ?_
  exact fin w w2 e2 x y v1 v2 q1 q2 s02 R2 (r1.step s2) r2 (apart (v2 := v2) (y := y) r1 n21) n1 n2 g2
/-- the end: a value -/
theorem Good.val {d : D} {Q : VK} (g : Good S W σ w0 (.ok (.val d) e) (postR S σ w0 Q)) (s : Step w0 w) (R : Rep S σ e w) (h : Dat S w.F d v) : Q v w.H := g w s R v [] ⟨rfl, h⟩ (New.nil _)
/-- .. a new tuple -/
theorem Good.tup {ds : List D} {vs : List V} {Q : VK} (g : Good S W σ w0 (.ok (.val (.tup ds)) e) (postR S σ w0 Q)) (s : Step w0 w) (R : Rep S σ e w) (h : Dats S w.F ds vs) {p : Addr} (hp : w.H p = none) : Q (.ref p) (upd w.H p (.tup vs)) := by
  obtain ⟨R', s'⟩ := alloc_val R (o := .tup vs) hp
  refine g.val (w := ⟨upd w.F p (.tup vs), upd w.H p (.tup vs), w.fp, w.lf⟩) (s.trans s') R' ⟨p, vs, rfl, SqT.of upd_same, h.mono s'.a⟩
/-- .. a new list -/
theorem Good.new {ds : List D} {vs : List V} {Q : VK} (g : Good S W σ w0 (.ok (.fresh ds) e) (postR S σ w0 Q)) (s : Step w0 w) (R : Rep S σ e w) {f : List Addr} (h : OwnIs S w.F w.H ds vs f) (nd : f.Nodup) (off : Off w f) (nw : New w0 f) {p : Addr} (hp : w.H p = none) :
    Q (.ref p) (upd w.H p (.lst vs)) := by
  obtain ⟨R', s'⟩ := alloc_new R (o := .lst vs) hp
  have lp : ¬ w.le p := fun z => by
    obtain ⟨o, ho⟩ := R.leh p z
    rw [hp] at ho; cases ho
  have pf : p ∉ f := fun z => by
    obtain ⟨us, hu⟩ := h.there p z
    rw [hp] at hu; cases hu
  refine g ⟨w.F, upd w.H p (.lst vs), w.fp, w.lf⟩ (s.trans s') R' (.ref p) (p :: f) ⟨p, rfl, ⟨vs, f, upd_same, rfl, h.mono (Same.refl _) fun x hx => ?_⟩, List.nodup_cons.mpr ⟨pf, nd⟩, fun x hx => ?_⟩ fun x hx o ho => ?_
  · exact upd_ne fun z => pf (by rw [← z]; exact hx)
  · rcases List.mem_cons.mp hx with rfl | hx
    · exact ⟨same_none R.sub hp, R.nofp hp, lp⟩
    · exact off x hx
  · rcases List.mem_cons.mp hx with rfl | hx
    · obtain ⟨o', ho'⟩ := s.e x o ho
      rw [hp] at ho'; cases ho'
    · exact nw x hx o ho
end
end Fp
/-! FpOps: operators by values, where the layer's own are narrower. -/
namespace Fp
open PySem PySem.Spec PyProof.Rows L2
theorem LIM_eq : LIM = sizeLine := by rw [sizeLine_eq]; rfl
section
variable {X : Cx} {pins : List (Addr × Obj)} {σ : L2.St} {H : Hp} {s : Shared} {l b : Addr} {xs ys zs : List V}
theorem rdLst (I : Inv X pins σ H s) (hH : L2.Rd H l (.lst xs)) : xs.length ≤ sizeLine ∧ ∃ (its : List Value) (n : Nat), Vals xs its ∧ xs.length = its.length ∧ s.heap.get? l = some { cls := .type "list", data := .seq its.toArray n } := by
  obtain ⟨z, its, n, r, e⟩ := hH.ok I.hok
  exact ⟨z, its, n, r, r.length, e⟩
end
section
variable {X : Cx}
def rCatQ : R2 := fun x y H Q => ∃ l b xs zs, x = .ref l ∧ y = .ref b ∧ L2.Rd H l (.lst xs) ∧ L2.Rd H b (.lst zs) ∧ xs.length + zs.length ≤ sizeLine ∧ ∀ p, H p = none → Q (.ref p) (upd H p (.lst (xs ++ zs)))
theorem op_catQ : OpR X (binaryOp .Add) rCatQ := by
  intro pins s σ H x y v u Q I rx ry h
  obtain ⟨l, b, xs, zs, rfl, rfl, hH, hB, hz, q⟩ := h
  cases rx
  cases ry
  obtain ⟨z, its, n, r, hl, e⟩ := rdLst I hH
  obtain ⟨z2, its2, n2, r2, hl2, e2⟩ := rdLst I hB
  refine PySem.P.add_list e e2 ?_ (by rw [List.size_toArray, List.size_toArray]; omega)
  have ea : its.toArray ++ its2.toArray = (its ++ its2).toArray := by simp
  rw [ea]
  exact ⟨.ref _, _, I.lnew (t' := s.toks) (r.append r2) (by rw [List.length_append]; omega), rfl, q _ I.fresh⟩
def rRepQ : R2 := fun x y H Q => ∃ l k xs, x = .ref l ∧ y = .int k ∧ L2.Rd H l (.lst xs) ∧ -(2 ^ 63) ≤ k ∧ k < 2 ^ 63 ∧ xs.length * k.toNat ≤ sizeLine ∧
  ∀ p, H p = none → Q (.ref p) (upd H p (.lst (List.replicate k.toNat xs).flatten))
theorem foldl_reps (its : List Value) : ∀ (m : Nat), (List.foldl (fun x1 x2 => x1 ++ x2) #[] (List.replicate m its.toArray)) = (List.replicate m its).flatten.toArray := fun m => by
  have h := foldl_rep its m []
  rw [List.nil_append] at h
  exact h
theorem op_repQ : OpR X (binaryOp .Mult) rRepQ := by
  intro pins s σ H x y v u Q I rx ry h
  obtain ⟨l, k, xs, rfl, rfl, hH, h1, h2, hz, q⟩ := h
  cases rx
  obtain ⟨t, rfl⟩ := ry
  obtain ⟨z, its, n, r, hl, e⟩ := rdLst I hH
  have hlen : its.toArray.size * k.toNat ≤ sizeLine := by rw [List.size_toArray, ← hl]; exact hz
  have hcap : ¬ its.toArray.size * k.toNat > (2 ^ 63 - 1) / 8 := by
    have c : (sizeLine : Nat) ≤ (2 ^ 63 - 1) / 8 := by decide
    omega
  have hfit : ¬ (!Builtin.List.listFitsIndex k) = true := by rw [fitsIndex_both h1 h2]; exact Bool.false_ne_true
  have hlong : ¬ Builtin.List.listTooLong (its.toArray.size * k.toNat) = true := by rw [notLongL hlen]; exact Bool.false_ne_true
  have hnew : List.foldl (fun x1 x2 => x1 ++ x2) #[] (List.replicate (if its.toArray.isEmpty = true then 0 else k.toNat) its.toArray) = (List.replicate k.toNat its).flatten.toArray := by
    rw [foldl_reps]
    cases its with
    | nil => simp
    | cons a r' => rw [if_neg (by simp)]
  refine wpAny_binaryOp_repeat_ref (T := "list") (U := "int") (by decide) ⟨_, e, rfl⟩ (fun s' => typeIs_int s' k t) noFill_list_mul F.fills_int_mul F.slot_int_rmul repeat_list F.slot_int_index.lookup
    (call_meets F.slot_int_rmul (typeIs_int s k t) F.entry_int_rmul (F.args_int_rmul_2 _ _) (int___rmul___int_list k t l its.toArray n)
      ⟨e, rfl, ⟨_, e, rfl⟩, call_meets F.slot_list_mul ⟨_, e, rfl⟩ F.entry_list_mul (F.args_list_mul_2 _ _) (AutoListH.list___mul___list_int_3 l its.toArray n k t hfit hcap hlong) ⟨e, ?_⟩⟩)
  rw [hnew]
  exact ⟨.ref _, _, I.lnew (t' := s.toks) (r.rep k.toNat) (by rw [PyProof.Rows.lm_len_rep_flat, Nat.mul_comm]; exact hz), rfl, q _ I.fresh⟩
/-- t * 1, () * k: t itself -/
theorem tuple_mul_same (l : Addr) (items : Array Value) (n : Nat) (dd : Option Addr) (sl : Array (Option Value)) (x : Int) (u : Tok) (c0 : (decide (x < -(2 ^ 63)) || decide (x ≥ 2 ^ 63)) = false) (c1 : (items.isEmpty || x == 1) = true) :
    Meets (Builtin.«tuple.__mul__» ⟨[.ref l, .int x u], []⟩) (fun _ R s => s.heap.get? l = some { cls := .type "tuple", dict := dd, data := .seq items n, slots := sl } ∧ R (.ok (.ret (Value.ref l))) s) :=
  .of_wp fun prog w A R s h => by
    obtain ⟨hp, g, d, tk, os⟩ := s
    obtain ⟨hl, h⟩ := h
    have f1 := AutoSeq1.idx_int
    wp_walk using wpAny_loadPart' hl
    repeat (first
      | (refine wpAny_ite_false (decide_eq_false (by rw [c0]; exact Bool.false_ne_true)) ?_; wp_walk using wpAny_loadPart' hl)
      | (refine wpAny_ite_true (decide_eq_true (by rw [c1])) ?_; wp_walk using wpAny_loadPart' hl))
    exact ⟨_, rfl, h⟩
/-- t * k, k at most 0: a new empty tuple -/
theorem tuple_mul_none (l : Addr) (items : Array Value) (n : Nat) (dd : Option Addr) (sl : Array (Option Value)) (x : Int) (u : Tok) (c0 : (decide (x < -(2 ^ 63)) || decide (x ≥ 2 ^ 63)) = false) (c1 : (items.isEmpty || x == 1) = false) (c2 : (decide (x ≤ 0) || items.isEmpty) = true) :
    Meets (Builtin.«tuple.__mul__» ⟨[.ref l, .int x u], []⟩) (fun _ R s => s.heap.get? l = some { cls := .type "tuple", dict := dd, data := .seq items n, slots := sl } ∧
      R (.ok (.ret (Value.ref s.heap.objs.size))) { s with heap := s.heap.push { cls := Value.type "tuple", data := Data.seq #[] }, toks := s.toks }) :=
  .of_wp fun prog w A R s h => by
    obtain ⟨hp, g, d, tk, os⟩ := s
    obtain ⟨hl, h⟩ := h
    have f1 := AutoSeq1.idx_int
    wp_walk using wpAny_loadPart' hl
    repeat (first
      | (refine wpAny_ite_false (decide_eq_false (by rw [c0]; exact Bool.false_ne_true)) ?_; wp_walk using wpAny_loadPart' hl)
      | (refine wpAny_ite_false (decide_eq_false (by rw [c1]; exact Bool.false_ne_true)) ?_; wp_walk using wpAny_loadPart' hl)
      | (refine wpAny_ite_true (decide_eq_true (by rw [c2])) ?_; wp_walk using wpAny_loadPart' hl))
    exact ⟨_, rfl, h⟩
def rRepTQ (K : PySem.W.Frag) : R2 := fun x y H Q => ∃ l k xs, x = .ref l ∧ y = .int k ∧ SqT K H l xs ∧ -(2 ^ 63) ≤ k ∧ k ≤ 1000 ∧ xs.length ≤ 1000 ∧
  ((xs = [] ∨ k = 1) → Q (.ref l) H) ∧ (xs ≠ [] → k ≠ 1 → ∀ p, H p = none → Q (.ref p) (upd H p (.tup (List.replicate k.toNat xs).flatten)))
theorem op_repTQ : OpR X (binaryOp .Mult) (rRepTQ X.K) := by
  intro pins s σ H x y v u Q I rx ry h
  obtain ⟨l, k, xs, rfl, rfl, hT, h1, h2, hz, q1, q2⟩ := h
  by_cases hb : xs ≠ [] ∧ 2 ≤ k
  · exact op_repT pins s σ H _ _ v u Q I rx ry ⟨l, k, xs, rfl, rfl, hT, hb.1, hb.2, h2, hz, q2 hb.1 (by omega)⟩
  · cases rx
    obtain ⟨t, rfl⟩ := ry
    obtain ⟨its, r, ⟨⟨cls, dd, data, sl⟩, ho, hc, n, hd⟩, hs⟩ := I.tuple hT
    simp only at hc hd
    subst hc hd
    have hle : its.length = xs.length := r.length.symm
    have c0 : (decide (k < -(2 ^ 63)) || decide (k ≥ 2 ^ 63)) = false := by rw [decide_eq_false (by omega), decide_eq_false (by omega)] <;> rfl
    by_cases he : xs = [] ∨ k = 1
    · have c1 : (its.toArray.isEmpty || k == 1) = true := by
        rcases he with z | z
        · subst z
          have : its = [] := List.eq_nil_of_length_eq_zero hle
          rw [this] <;> rfl
        · rw [z]; simp
      refine wpAny_binaryOp_repeat_ref (T := "tuple") (U := "int") (by decide) ⟨_, ho, rfl⟩ (fun s' => typeIs_int s' k t) noFill_tuple_mul F.fills_int_mul F.slot_int_rmul repeat_tuple F.slot_int_index.lookup
        (call_meets F.slot_int_rmul (typeIs_int s k t) F.entry_int_rmul (F.args_int_rmul_2 _ _) (int_rmul_tuple k t l its.toArray n dd sl)
          ⟨ho, rfl, ⟨_, ho, rfl⟩, call_meets F.slot_tuple_mul ⟨_, ho, rfl⟩ F.entry_tuple_mul (F.args_tuple_mul_2 _ _) (tuple_mul_same l its.toArray n dd sl k t c0 c1) ⟨ho, ?_⟩⟩)
      exact ⟨.ref l, H, I, rfl, q1 he⟩
    · have hx : xs ≠ [] := fun z => he (.inl z)
      have hk1 : k ≠ 1 := fun z => he (.inr z)
      have hk : k ≤ 0 := by
        have : ¬ 2 ≤ k := fun z => hb ⟨hx, z⟩
        omega
      have hn : its ≠ [] := fun e => hx (by
        rw [e] at hle
        exact List.eq_nil_of_length_eq_zero hle.symm)
      have hi : its.toArray.isEmpty = false := by
        cases its with
        | nil => exact absurd rfl hn
        | cons a b => rfl
      have c1 : (its.toArray.isEmpty || k == 1) = false := by
        rw [hi, Bool.false_or]
        exact beq_eq_false_iff_ne.mpr hk1
      have c2 : (decide (k ≤ 0) || its.toArray.isEmpty) = true := by rw [decide_eq_true hk]; rfl
      refine wpAny_binaryOp_repeat_ref (T := "tuple") (U := "int") (by decide) ⟨_, ho, rfl⟩ (fun s' => typeIs_int s' k t) noFill_tuple_mul F.fills_int_mul F.slot_int_rmul repeat_tuple F.slot_int_index.lookup
        (call_meets F.slot_int_rmul (typeIs_int s k t) F.entry_int_rmul (F.args_int_rmul_2 _ _) (int_rmul_tuple k t l its.toArray n dd sl)
          ⟨ho, rfl, ⟨_, ho, rfl⟩, call_meets F.slot_tuple_mul ⟨_, ho, rfl⟩ F.entry_tuple_mul (F.args_tuple_mul_2 _ _) (tuple_mul_none l its.toArray n dd sl k t c0 c1 c2) ⟨ho, ?_⟩⟩)
      have h0 : k.toNat = 0 := by omega
      have qq := q2 hx hk1 s.heap.objs.size (I.hok.fresh (Nat.le_refl _))
      rw [h0] at qq
      refine ⟨.ref s.heap.objs.size, _, I.laid (t' := s.toks) (o := .tup []) (fun b ob q => Heap.get?_push_of_some _ q) (Nat.le_refl _) ?_, rfl, qq⟩
      exact ⟨Nat.zero_le _, [], .nil, IsTup.new _ _⟩
theorem mulOk_ok {i j : Int} (h : mulOk i j = true) : IntMulOk i j := by
  unfold IntMulOk
  intro z
  unfold mulOk at h
  rw [z] at h
  cases h
theorem fdivOk_ok {i j : Int} (h : fdivOk i j = true) : j ≠ 0 ∧ Builtin.divisionGoesByPylong i j = false := by
  unfold fdivOk at h
  simp only [Bool.and_eq_true, decide_eq_true_eq, Bool.not_eq_true'] at h
  exact h
theorem op_mulG : OpR X (binaryOp .Mult) (rI (fun i j => mulOk i j = true) fun i j => .int (i * j)) := opI fun _ _ _ _ _ _ _ hc q => mul_int q (mulOk_ok hc)
theorem op_fdivG : OpR X (binaryOp .FloorDiv) (rI (fun i j => fdivOk i j = true) fun i j => .int (i.fdiv j)) := opI fun _ _ _ _ _ _ _ hc q => floordiv_int (fdivOk_ok hc).1 q (.inl (fdivOk_ok hc).2)
end

/-! ### the evaluator's operators -/
def bopOf : Bop → Operator
  | .add => .Add
  | .sub => .Sub
  | .mul => .Mult
  | .fdiv => .FloorDiv
  | .mod => .Mod
  | .pow => .Pow
/-- what the layer is asked by values -/
def rBop (K : PySem.W.Frag) (o : Bop) : R2 := fun x y H Q =>
  (∃ i j k, x = .int i ∧ y = .int j ∧ arith o i j = some k ∧ Q (.int k) H) ∨
  match o with
  | .add => rCatQ x y H Q ∨ rCatA K x y H Q ∨ ∃ i j, x = .str i ∧ y = .str j ∧ i.length + j.length ≤ sizeLine ∧ Q (.str (i ++ j)) H
  | .mul => rRepQ x y H Q ∨ rRepTQ K x y H Q
  | _ => False
theorem op_bop {X : Cx} (o : Bop) : OpR X (binaryOp (bopOf o)) (rBop X.K o) := by
  intro pins s σ H x y v u Q I rx ry h
  rcases h with ⟨i, j, k, ex, ey, ea, q⟩ | h
  · cases o with
    | add =>
      cases ea
      exact op_add pins s σ H x y v u Q I rx ry ⟨i, j, ex, ey, q⟩
    | sub =>
      cases ea
      exact op_sub pins s σ H x y v u Q I rx ry ⟨i, j, ex, ey, q⟩
    | mul =>
      unfold arith at ea
      simp only at ea
      split at ea
      · rename_i hm
        cases ea
        exact op_mulG pins s σ H x y v u Q I rx ry ⟨i, j, ex, ey, hm, q⟩
      · cases ea
    | fdiv =>
      unfold arith at ea
      simp only at ea
      split at ea
      · rename_i hm
        cases ea
        exact op_fdivG pins s σ H x y v u Q I rx ry ⟨i, j, ex, ey, hm, q⟩
      · cases ea
    | mod =>
      unfold arith at ea
      simp only at ea
      split at ea
      · cases ea
      · rename_i hm
        cases ea
        exact op_modN pins s σ H x y v u Q I rx ry ⟨i, j, ex, ey, hm, q⟩
    | pow =>
      unfold arith at ea
      simp only at ea
      split at ea
      · rename_i hm
        cases ea
        exact op_pow pins s σ H x y v u Q I rx ry ⟨i, j, ex, ey, (show 0 ≤ j ∧ j ≤ 1000000 ∧ i.natAbs < 2 ^ 64 from of_decide_eq_true hm), q⟩
      · cases ea
  · cases o with
    | add =>
      rcases h with h | h | h
      · exact op_catQ pins s σ H x y v u Q I rx ry h
      · exact op_catA pins s σ H x y v u Q I rx ry h
      · exact op_add_str pins s σ H x y v u Q I rx ry h
    | mul =>
      rcases h with h | h
      · exact op_repQ pins s σ H x y v u Q I rx ry h
      · exact op_repTQ pins s σ H x y v u Q I rx ry h
    | _ => exact h.elim
end Fp
/-! FpExpr: expressions. -/
namespace Fp
open PySem PySem.Spec PyProof.Rows L2
theorem PE.imp {X : L2.Cx} {e : Expr} {t t' : TE} (h : PE X e t) (k : ∀ σ H Q, t' σ H Q → t σ H Q) : PE X e t' := ⟨fun pins s σ H Q I z => h.run pins s σ H Q I (k σ H Q z)⟩
theorem PT.imp {X : L2.Cx} {e : Expr} {t t' : TT} (h : PT X e t) (k : ∀ σ H Q, t' σ H Q → t σ H Q) : PT X e t' := ⟨fun pins s σ H Q I z => h.run pins s σ H Q I (k σ H Q z)⟩
theorem PA.imp {X : L2.Cx} {e : List Expr} {t t' : TA} (h : PA X e t) (k : ∀ σ H Q, t' σ H Q → t σ H Q) : PA X e t' := ⟨fun pos pins s σ H Q I z => h.run pos pins s σ H Q I (k σ H Q z)⟩
theorem PW.imp {X : L2.Cx} {e : Expr} {t t' : TT} (h : PW X e t) (k : ∀ σ H Q, t' σ H Q → t σ H Q) : PW X e t' := ⟨fun wh pins s σ H Q I z => h.run wh pins s σ H Q I (k σ H Q z)⟩
theorem OpR.imp {X : L2.Cx} {f : Value → Value → Sem Value} {r r' : R2} (h : OpR X f r) (k : ∀ x y H Q, r' x y H Q → r x y H Q) : OpR X f r' := fun pins s σ H x y v u Q I rx ry z => h pins s σ H x y v u Q I rx ry (k _ _ _ _ z)

section
variable {S : Se} {W : WX} {σ : L2.St} {e e' : Env} {w w' w0 w1 w2 : Wo} {v v1 v2 : V} {r x y : Rv} {q q1 q2 : List Addr} {α β : Type}
theorem mem_app_new {w : Wo} {a b : List Addr} (h1 : New w a) (h2 : New w b) : New w (a ++ b) := fun x hx => (List.mem_append.mp hx).elim (h1 x) (h2 x)
theorem peek1 (s0 : Step w0 w) (Re : Rep S σ e w) (r1 : RvRep S σ w v x q) (n1 : New w0 q) {k : D → Env → R α} {p : α → Env → Wo → Prop} (g : Good S W σ w0 ((e.peek x).bind k) p) :
    ∃ w' e' d, w'.H = w.H ∧ Gh w w' q ∧ Step w0 w' ∧ Rep S σ e' w' ∧ Red S w' d v ∧ Good S W σ w0 (k d e') p := by
  rcases peek_nx (e := e) (x := x) with ⟨d, e', h⟩ | h
  · rw [h, Fp.R.bind_ok] at g
    obtain ⟨w', R', G, rd⟩ := peek_ok Re r1 h
    exact ⟨w', e', d, G.h, G, s0.gh G n1, R', rd, g⟩
  · rw [h] at g
    exact g.elim
theorem asVal1 (s0 : Step w0 w) (Re : Rep S σ e w) (r1 : RvRep S σ w v x q) (n1 : New w0 q) {k : D → Env → R α} {p : α → Env → Wo → Prop} (g : Good S W σ w0 ((e.asVal x).bind k) p) :
    ∃ w' e' d, w'.H = w.H ∧ Gh w w' q ∧ Step w0 w' ∧ Rep S σ e' w' ∧ Dat S w'.F d v ∧ Good S W σ w0 (k d e') p := by
  rcases asVal_nx (e := e) (x := x) with ⟨d, e', h⟩ | h
  · rw [h, Fp.R.bind_ok] at g
    obtain ⟨w', R', G, rd⟩ := asVal_ok Re r1 h
    exact ⟨w', e', d, G.h, G, s0.gh G n1, R', rd, g⟩
  · rw [h] at g
    exact g.elim
theorem peek2 (s0 : Step w0 w) (Re : Rep S σ e w) (r1 : RvRep S σ w v1 x q1) (r2 : RvRep S σ w v2 y q2) (ap : ∀ z ∈ q1, z ∉ q2) (n1 : New w0 q1) (n2 : New w0 q2) {k : D → D → Env → R α} {p : α → Env → Wo → Prop}
    (g : Good S W σ w0 ((e.peek x).bind fun x e => (e.peek y).bind fun y e => k x y e) p) :
    ∃ w' e' d1 d2, w'.H = w.H ∧ Gh w w' (q1 ++ q2) ∧ Step w0 w' ∧ Rep S σ e' w' ∧ Red S w' d1 v1 ∧ Red S w' d2 v2 ∧ Good S W σ w0 (k d1 d2 e') p := by
  obtain ⟨wa, ea, d1, h1, G1, s1, R1, rd1, g1⟩ := peek1 s0 Re r1 n1 g
  obtain ⟨wb, eb, d2, h2, G2, s2, R2, rd2, g2⟩ := peek1 s1 R1 (r2.gh G1 fun z hz hz2 => ap z hz2 hz) n2 g1
  exact ⟨wb, eb, d1, d2, h2.trans h1, G1.trans G2, s2, R2, rd1.gh G2, rd2, g2⟩
theorem asVal2 (s0 : Step w0 w) (Re : Rep S σ e w) (r1 : RvRep S σ w v1 x q1) (r2 : RvRep S σ w v2 y q2) (ap : ∀ z ∈ q1, z ∉ q2) (n1 : New w0 q1) (n2 : New w0 q2) {k : D → D → Env → R α} {p : α → Env → Wo → Prop}
    (g : Good S W σ w0 ((e.asVal x).bind fun x e => (e.asVal y).bind fun y e => k x y e) p) :
    ∃ w' e' d1 d2, w'.H = w.H ∧ Gh w w' (q1 ++ q2) ∧ Step w0 w' ∧ Rep S σ e' w' ∧ Dat S w'.F d1 v1 ∧ Dat S w'.F d2 v2 ∧ Good S W σ w0 (k d1 d2 e') p := by
  obtain ⟨wa, ea, d1, h1, G1, s1, R1, rd1, g1⟩ := asVal1 s0 Re r1 n1 g
  obtain ⟨wb, eb, d2, h2, G2, s2, R2, rd2, g2⟩ := asVal1 s1 R1 (r2.gh G1 fun z hz hz2 => ap z hz2 hz) n2 g1
  exact ⟨wb, eb, d1, d2, h2.trans h1, G1.trans G2, s2, R2, Dat.mono G2.a _ _ rd1, rd2, g2⟩

theorem Red.int {i : Int} (h : Red S w (.int i) v) : v = .int i := h
theorem Red.tup {ds : List D} (s : Same w.F w.H) (h : Red S w (.tup ds) v) : ∃ a vs, v = .ref a ∧ SqT S.K w.H a vs ∧ Dats S w.F ds vs := by
  obtain ⟨a, vs, e, q, r⟩ := h
  exact ⟨a, vs, e, Same.seqT s q, r⟩
theorem Red.lst {ds : List D} (h : Red S w (.lst ds) v) : ∃ a vs, v = .ref a ∧ L2.Rd w.H a (.lst vs) ∧ Dats S w.F ds vs := h
theorem len0 {S : Se} {F : Hp} {ds : List D} {vs : List V} (h : Dats S F ds vs) : (ds = [] ↔ vs = []) := by
  have := h.len
  constructor
  · intro z; subst z; exact List.eq_nil_of_length_eq_zero (by simpa using this.symm)
  · intro z; subst z; exact List.eq_nil_of_length_eq_zero (by simpa using this)

/-! ### binary operators -/
theorem opBin_cases (o : Bop) (x y : Rv) (e : Env) : (∃ i j, x = .val (.int i) ∧ y = .val (.int j)) ∨ opBin o x y e = (e.peek x).bind fun x e => (e.peek y).bind fun y e => opSeq o x y e := by
  unfold opBin
  split
  · exact .inl ⟨_, _, rfl, rfl⟩
  · exact .inr rfl
theorem fin_bin {o : Bop} {Q : VK} (s0 : Step w0 w) (Re : Rep S σ e w) (r1 : RvRep S σ w v1 x q1) (r2 : RvRep S σ w v2 y q2) (ap : ∀ z ∈ q1, z ∉ q2) (n1 : New w0 q1) (n2 : New w0 q2)
    (g : Good S W σ w0 (opBin o x y e) (postR S σ w0 Q)) : rBop S.K o v1 v2 w.H Q := by
  rcases opBin_cases o x y e with ⟨i, j, rfl, rfl⟩ | h
  · have h1 : v1 = .int i := r1.2
    have h2 : v2 = .int j := r2.2
    unfold opBin at g
    simp only at g
    cases ha : arith o i j with
    | none => rw [ha] at g; exact g.elim
    | some k =>
      rw [ha] at g
      exact .inl ⟨i, j, k, h1, h2, ha, g.val s0 Re (v := .int k) rfl⟩
  · rw [h] at g
    obtain ⟨w', e', d1, d2, hH, G, s', R', rd1, rd2, g'⟩ := peek2 s0 Re r1 r2 ap n1 n2 g
    rw [← hH]
    unfold opSeq at g'
    split at g'
    · split at g'
      · rename_i hl
        obtain ⟨a, vs, rfl, h1, t1⟩ := rd1.lst
        obtain ⟨b, us, rfl, h2, t2⟩ := rd2.lst
        rw [LIM_eq, t1.len, t2.len] at hl
        exact .inr (.inl ⟨a, b, vs, us, rfl, rfl, h1, h2, hl, fun p hp => g'.new s' R' (.of_dats (t1.app t2)) List.nodup_nil (fun _ h => by simp at h) (New.nil _) hp⟩)
      · exact g'.elim
    · split at g'
      · rename_i hl
        obtain ⟨a, vs, rfl, h1, t1⟩ := rd1.tup R'.sub
        obtain ⟨b, us, rfl, h2, t2⟩ := rd2.tup R'.sub
        rw [LIM_eq, t1.len, t2.len] at hl
        refine .inr (.inr (.inl ⟨a, b, vs, us, rfl, rfl, h1, h2, hl, fun z => ?_, fun z z2 => ?_, fun z z2 p hp => g'.tup s' R' (t1.app t2) hp⟩))
        · have z' := (len0 t1).mpr z
          rw [z', List.nil_append] at g'
          exact g'.val s' R' rd2
        · have z' := (len0 t2).mpr z2
          rw [z', List.append_nil] at g'
          exact g'.val s' R' rd1
      · exact g'.elim
    · split at g'
      · rename_i xs k hl
        obtain ⟨a, vs, rfl, h1, t1⟩ := rd1.lst
        rw [LIM_eq, t1.len] at hl
        exact .inr (.inl ⟨a, k, vs, rfl, rd2, h1, hl.1, hl.2.1, hl.2.2, fun p hp => g'.new s' R' (.of_dats (t1.rep _)) List.nodup_nil (fun _ h => by simp at h) (New.nil _) hp⟩)
      · exact g'.elim
    · split at g'
      · rename_i xs k hl
        obtain ⟨a, vs, rfl, h1, t1⟩ := rd1.tup R'.sub
        rw [t1.len] at hl
        refine .inr (.inr ⟨a, k, vs, rfl, rd2, h1, hl.1, hl.2.1, hl.2.2, fun z => ?_, fun z1 z2 p hp => g'.tup s' R' (t1.rep _) hp⟩)
        have e1 : (List.replicate k.toNat xs).flatten = xs := by
          rcases z with z | z
          · rw [(len0 t1).mpr z]; simp
          · rw [z]; simp
        rw [e1] at g'
        exact g'.val s' R' rd1
      · exact g'.elim
    · split at g'
      · rename_i a b hl
        rw [LIM_eq] at hl
        exact .inr (.inr (.inr ⟨a, b, rd1, rd2, hl, g'.val s' R' (v := .str (a ++ b)) rfl⟩))
      · exact g'.elim
    · exact g'.elim
end
section
variable {X : L2.Cx} {S : Se} {W : WX} {a b c : Expr} {ea eb ec : Env → R Rv} {pos : Pos}
theorem s_bin (hK : S.K = X.K) (o : Bop) (ha : PE X a (tE S W ea)) (hb : PE X b (tE S W eb)) : PE X (.BinOp a (bopOf o) b pos) (tE S W fun e => (ea e).bind fun x e => (eb e).bind fun y e => opBin o x y e) :=
  PE.imp (pe_op (op_bop o) ha hb) fun σ H Q h => tE.two (p := fun w => postR S σ w Q) h fun w0 w e x y v1 v2 q1 q2 s R r1 r2 ap n1 n2 g => by
    rw [← hK]
    exact fin_bin s R r1 r2 ap n1 n2 g

/-! ### constants, names -/
theorem s_cst {x : Expr} {d : D} {v : V} (h : PE X x (tC v)) (hd : ∀ F, Dat S F d v) : PE X x (tE S W fun e => .ok (.val d) e) :=
  PE.imp h fun σ H Q ⟨e, w, hw, R, g⟩ => by
    rw [← hw]
    exact g.val (Step.refl w) R (hd _)
theorem s_var {x : Expr} {i : Nat} (h : PE X x (tVar i)) : PE X x (tE S W fun e => e.var i) :=
  PE.imp h fun σ H Q ⟨e, w, hw, R, g⟩ => by
    subst hw
    have done : ∀ {r v q}, σ[i]? = some (some v) → RvRep S σ w v r q → New w q → Good S W σ w (.ok r e) (postR S σ w Q) → ∃ v, σ[i]? = some (some v) ∧ Q v w.H := fun {r v q} h1 h2 h3 g => ⟨v, h1, g w (Step.refl w) R v q h2 h3⟩
    have get : ∀ {v : V}, (σ[i]?).join = some v → σ[i]? = some (some v) := fun {v} h => by
      cases q : σ[i]? with
      | none => rw [q] at h; cases h
      | some z => rw [q] at h; exact congrArg some h
    have g : Good S W σ w (e.var i) (postR S σ w Q) := g
    unfold Env.var at g
    cases hs : e.sl[i]? with
    | none => rw [hs] at g; exact g.elim
    | some s =>
      rw [hs] at g
      have r := R.slot i s hs
      cases s with
      | no => exact g.elim
      | val d =>
        obtain ⟨_, v, e1, rd⟩ := r
        exact done (get e1) (r := .val d) (q := []) ⟨rfl, rd⟩ (New.nil _) g
      | own ds =>
        obtain ⟨a, e1, _⟩ := r
        exact done (get e1) (r := .loc (.s i)) (q := []) ⟨rfl, get e1⟩ (New.nil _) g
      | lea ds =>
        obtain ⟨_, a, vs, e1, _⟩ := r
        exact done (get e1) (r := .loc (.s i)) (q := []) ⟨rfl, get e1⟩ (New.nil _) g
      | lnk k =>
        obtain ⟨_, a, e1, e2⟩ := r
        simp only at g
        cases hp : e.ps[k]? with
        | none => rw [hp] at g; exact g.elim
        | some p =>
          rw [hp] at g
          obtain ⟨b, e3, z⟩ := R.par k p hp
          rw [e2] at e3
          cases e3
          cases p with
          | own ds => exact done (get e1) (r := .loc (.p k)) (q := []) ⟨rfl, a, e2, rfl⟩ (New.nil _) g
          | lea ds => exact done (get e1) (r := .loc (.p k)) (q := []) ⟨rfl, a, e2, rfl⟩ (New.nil _) g
          | frz ds => exact done (get e1) (r := .val (.lst ds)) (q := []) ⟨rfl, z.2⟩ (New.nil _) g
theorem s_neg (ha : PE X a (tE S W ea)) : PE X (.UnaryOp .USub a pos) (tE S W fun e => (ea e).bind fun x e => match x with
    | .val (.int i) => .ok (.val (.int (-i))) e
    | _ => .bad) :=
  PE.imp (pe_un un_neg ha) fun σ H Q ⟨e, w, hw, R, g⟩ => tE.one hw R g fun v x q e w' s R' r n g => by
    split at g
    · rename_i i
      exact ⟨i, r.2, g.val s R' (v := .int (-i)) rfl⟩
    · exact g.elim
end
end Fp
/-! FpExpr2: comparisons, tests. -/
namespace Fp
open PySem PySem.Spec PyProof.Rows L2
mutual
theorem Dat.dp {S : Se} {F H : Hp} (s : Same F H) : ∀ (d : D) (v : V), Dat S F d v → d.pure = true → Dp S.K H v d.toP
  | .non, v, h, _ => by rw [show v = .non from h]; exact .non
  | .bl b, v, h, _ => by rw [show v = .bl b from h]; exact .bl b
  | .int i, v, h, _ => by rw [show v = .int i from h]; exact .int i
  | .str x, v, h, _ => by rw [show v = .str x from h]; exact .str x
  | .tup ds, v, h, p => by
    obtain ⟨a, vs, rfl, q, r⟩ := h
    exact .tup (Same.seqT s q) (Dats.dp s ds vs r p)
  | .lst ds, v, h, p => by
    obtain ⟨a, vs, rfl, q, r⟩ := h
    exact .lst (.inl (rdSame s q)) (Dats.dp s ds vs r p)
  | .olst _, _, h, _ => h.elim
  | .dic _ _, _, _, p => by cases p
  | .exc _ _, _, _, p => by cases p
  | .klst _, _, _, p => by cases p
theorem Dats.dp {S : Se} {F H : Hp} (s : Same F H) : ∀ (ds : List D) (vs : List V), Dats S F ds vs → D.pures ds = true → DpAll S.K H vs (D.toPs ds)
  | [], [], _, _ => .nil
  | d :: ds, v :: vs, h, p => by
    have p' : (d.pure && D.pures ds) = true := p
    rw [Bool.and_eq_true] at p'
    exact .cons (Dat.dp s d v h.1 p'.1) (Dats.dp s ds vs h.2 p'.2)
  | [], _ :: _, h, _ => h.elim
  | _ :: _, [], h, _ => h.elim
end
section
variable {S : Se} {W : WX} {σ : L2.St} {e e' : Env} {w w' w0 w1 w2 : Wo} {v v1 v2 : V} {r x y : Rv} {q q1 q2 : List Addr} {α β : Type}
theorem Red.dp (s : Same w.F w.H) {d : D} (h : Red S w d v) (p : d.pure = true) : Dp S.K w.H v d.toP := by
  cases d with
  | lst ds =>
    obtain ⟨a, vs, rfl, q, r⟩ := h
    exact .lst (.inl q) (r.dp s _ _ p)
  | _ => exact Dat.dp s _ _ h p
theorem Red.isN {d : D} (h : Red S w d v) : decide (v = .non) = d.isNon := by
  cases d with
  | non => rw [show v = .non from h]; rfl
  | bl b => rw [show v = .bl b from h]; rfl
  | int b => rw [show v = .int b from h]; rfl
  | str b => rw [show v = .str b from h]; rfl
  | tup ds => obtain ⟨a, vs, rfl, _⟩ := h; rfl
  | lst ds => obtain ⟨a, vs, rfl, _⟩ := h; rfl
  | olst ds => exact h.elim
  | dic ks ws => obtain ⟨a, rfl, _⟩ := h; rfl
  | exc c d => obtain ⟨a, _, _, _, rfl, _⟩ := h; rfl
  | klst ds => obtain ⟨a, _, rfl, _⟩ := h; rfl
theorem any_toPs (d : D) : ∀ ys : List D, (D.toPs ys).any (fun z => PyData.eqv z d.toP) = ys.any fun y => y.eqv d
  | [] => rfl
  | y :: ys => by
    show (PyData.eqv y.toP d.toP || (D.toPs ys).any _) = (y.eqv d || _)
    rw [any_toPs d ys]
    rfl
end
section
variable {X : L2.Cx}
def rInT (K : PySem.W.Frag) (neg : Bool) : R2 := fun x y H Q => ∃ d ds, Dp K H x d ∧ Dp K H y (.tuple ds) ∧ SeqAt.shaped d = true ∧ SeqAt.shaped (.tuple ds) = true ∧ Q (.bl (if neg then !ds.any fun z => PyData.eqv z d else ds.any fun z => PyData.eqv z d)) H
theorem op_inT (hu : X.A.units + 65 < cLine) : OpR X (compareOp .In) (rInT X.K false) := by
  intro pins s σ H x y v u Q I rx ry h
  obtain ⟨d, ds, hd, he, sd, se, q⟩ := h
  obtain ⟨as, r1⟩ := Dp.reads I d x v hd rx
  obtain ⟨bs, r2⟩ := Dp.reads I (.tuple ds) y u he ry
  exact SeqAt.in_tuple_reads r2 r1 (SeqAt.canLay_of_shaped se) (SeqAt.canLay_of_shaped sd) (room_in_shaped sd hu) ⟨.bl _, H, I, rfl, q⟩
theorem op_notInT (hu : X.A.units + 65 < cLine) : OpR X (compareOp .NotIn) (rInT X.K true) := by
  intro pins s σ H x y v u Q I rx ry h
  obtain ⟨d, ds, hd, he, sd, se, q⟩ := h
  obtain ⟨as, r1⟩ := Dp.reads I d x v hd rx
  obtain ⟨bs, r2⟩ := Dp.reads I (.tuple ds) y u he ry
  exact SeqAt.notIn_tuple_reads r2 r1 (SeqAt.canLay_of_shaped se) (SeqAt.canLay_of_shaped sd) (room_in_shaped sd hu) ⟨.bl _, H, I, rfl, q⟩
def copOf : Cop → CmpOp
  | .eq => .Eq
  | .ne => .NotEq
  | .lt => .Lt
  | .le => .LtE
  | .gt => .Gt
  | .ge => .GtE
  | .is => .Is
  | .isnot => .IsNot
  | .isin => .In
  | .notin => .NotIn
def rCop (K : PySem.W.Frag) (o : Cop) : R2 := fun x y H Q =>
  (∃ i j b, x = .int i ∧ y = .int j ∧ cmpI o i j = some b ∧ Q (.bl b) H) ∨
  match o with
  | .eq => rEqD K x y H Q
  | .ne => rNeD K x y H Q
  | .is => y = .non ∧ Q (.bl (decide (x = .non))) H
  | .isnot => y = .non ∧ Q (.bl (!decide (x = .non))) H
  | .isin => rInD K x y H Q ∨ rInT K false x y H Q
  | .notin => rNotInD K x y H Q ∨ rInT K true x y H Q
  | _ => False
theorem op_eqI : OpR X (compareOp .Eq) (rI0 fun i j => .bl (decide (i = j))) := opB0 fun _ _ _ _ _ _ _ q => eq_int (by rw [Bool.beq_eq_decide_eq]; exact q)
theorem op_neI : OpR X (compareOp .NotEq) (rI0 fun i j => .bl (!decide (i = j))) := opB0 fun _ _ _ _ _ _ _ q => ne_int (by rw [bne, Bool.beq_eq_decide_eq]; exact q)
theorem op_cop (hu : X.A.units + 65 < cLine) (o : Cop) : OpR X (compareOp (copOf o)) (rCop X.K o) := by
  intro pins s σ H x y v u Q I rx ry h
  rcases h with ⟨i, j, k, ex, ey, ea, q⟩ | h
  · cases o with
    | eq => cases ea; exact op_eqI pins s σ H x y v u Q I rx ry ⟨i, j, ex, ey, q⟩
    | ne => cases ea; exact op_neI pins s σ H x y v u Q I rx ry ⟨i, j, ex, ey, q⟩
    | lt => cases ea; exact op_lt pins s σ H x y v u Q I rx ry ⟨i, j, ex, ey, q⟩
    | le => cases ea; exact op_le pins s σ H x y v u Q I rx ry ⟨i, j, ex, ey, q⟩
    | gt => cases ea; exact op_gt pins s σ H x y v u Q I rx ry ⟨i, j, ex, ey, q⟩
    | ge => cases ea; exact op_ge pins s σ H x y v u Q I rx ry ⟨i, j, ex, ey, q⟩
    | _ => cases ea
  · cases o with
    | eq => exact op_eqD (by omega) pins s σ H x y v u Q I rx ry h
    | ne => exact op_neD (by omega) pins s σ H x y v u Q I rx ry h
    | is => exact op_isN pins s σ H x y v u Q I rx ry h
    | isnot => exact op_notN pins s σ H x y v u Q I rx ry h
    | isin =>
      rcases h with h | h
      · exact op_inD hu pins s σ H x y v u Q I rx ry h
      · exact op_inT hu pins s σ H x y v u Q I rx ry h
    | notin =>
      rcases h with h | h
      · exact op_notInD hu pins s σ H x y v u Q I rx ry h
      · exact op_notInT hu pins s σ H x y v u Q I rx ry h
    | _ => exact h.elim
end
section
variable {S : Se} {W : WX} {σ : L2.St} {e e' : Env} {w w' w0 w1 w2 : Wo} {v v1 v2 : V} {r x y : Rv} {q q1 q2 : List Addr} {α β : Type}
theorem Good.blV {m : R Bool} {Q : VK} (g : Good S W σ w0 m.blV (postR S σ w0 Q)) : Good S W σ w0 m fun b e w => Q (.bl b) w.H := by
  cases m with
  | ok b e => exact fun w s R => g w s R (.bl b) [] ⟨rfl, rfl⟩ (New.nil _)
  | ex c d e => exact g
  | bad => exact g
theorem opCmp_cases (o : Cop) (x y : Rv) (e : Env) : (∃ i j, x = .val (.int i) ∧ y = .val (.int j)) ∨ opCmp o x y e = (e.peek x).bind fun x e => (e.peek y).bind fun y e => cmpD o x y e := by
  unfold opCmp
  split
  · exact .inl ⟨_, _, rfl, rfl⟩
  · exact .inr rfl
theorem eqOk_both {d : D} (h : d.eqOk = true) : d.pure = true ∧ SeqAt.shaped d.toP = true := by
  unfold D.eqOk at h
  exact Bool.and_eq_true_iff.mp h
theorem fin_cmp {o : Cop} {Q : VK} (s0 : Step w0 w) (Re : Rep S σ e w) (r1 : RvRep S σ w v1 x q1) (r2 : RvRep S σ w v2 y q2) (ap : ∀ z ∈ q1, z ∉ q2) (n1 : New w0 q1) (n2 : New w0 q2)
    (g : Good S W σ w0 (opCmp o x y e) fun b e w => Q (.bl b) w.H) : rCop S.K o v1 v2 w.H Q := by
  rcases opCmp_cases o x y e with ⟨i, j, rfl, rfl⟩ | h
  · have h1 : v1 = .int i := r1.2
    have h2 : v2 = .int j := r2.2
    unfold opCmp at g
    simp only at g
    cases ha : cmpI o i j with
    | none => rw [ha] at g; exact g.elim
    | some k =>
      rw [ha] at g
      exact .inl ⟨i, j, k, h1, h2, ha, g w s0 Re⟩
  · rw [h] at g
    obtain ⟨w', e', d1, d2, hH, G, s', R', rd1, rd2, g'⟩ := peek2 s0 Re r1 r2 ap n1 n2 g
    rw [← hH]
    unfold cmpD at g'
    split at g'
    · have q := g' w' s' R'
      refine .inr ⟨rd2, ?_⟩
      rw [rd1.isN]
      exact q
    · have q := g' w' s' R'
      refine .inr ⟨rd2, ?_⟩
      rw [rd1.isN]
      exact q
    · split at g'
      · rename_i hh
        rw [Bool.and_eq_true] at hh
        obtain ⟨p1, z1⟩ := eqOk_both hh.1
        obtain ⟨p2, z2⟩ := eqOk_both hh.2
        exact .inr ⟨_, _, rd1.dp R'.sub p1, rd2.dp R'.sub p2, z1, z2, g' w' s' R'⟩
      · exact g'.elim
    · split at g'
      · rename_i hh
        rw [Bool.and_eq_true] at hh
        obtain ⟨p1, z1⟩ := eqOk_both hh.1
        obtain ⟨p2, z2⟩ := eqOk_both hh.2
        exact .inr ⟨_, _, rd1.dp R'.sub p1, rd2.dp R'.sub p2, z1, z2, g' w' s' R'⟩
      · exact g'.elim
    · split at g'
      · rename_i hh
        rw [Bool.and_eq_true] at hh
        obtain ⟨p1, z1⟩ := eqOk_both hh.1
        obtain ⟨p2, z2⟩ := eqOk_both hh.2
        refine .inr (.inr ⟨_, _, rd1.dp R'.sub p1, rd2.dp R'.sub p2, z1, z2, ?_⟩)
        rw [if_neg Bool.false_ne_true, any_toPs]
        exact g' w' s' R'
      · exact g'.elim
    · split at g'
      · rename_i hh
        rw [Bool.and_eq_true] at hh
        obtain ⟨p1, z1⟩ := eqOk_both hh.1
        obtain ⟨p2, z2⟩ := eqOk_both hh.2
        refine .inr (.inl ⟨_, _, rd1.dp R'.sub p1, rd2.dp R'.sub p2, z1, z2, ?_⟩)
        rw [any_toPs]
        exact g' w' s' R'
      · exact g'.elim
    · split at g'
      · rename_i hh
        rw [Bool.and_eq_true] at hh
        obtain ⟨p1, z1⟩ := eqOk_both hh.1
        obtain ⟨p2, z2⟩ := eqOk_both hh.2
        refine .inr (.inr ⟨_, _, rd1.dp R'.sub p1, rd2.dp R'.sub p2, z1, z2, ?_⟩)
        rw [if_pos rfl, any_toPs]
        exact g' w' s' R'
      · exact g'.elim
    · split at g'
      · rename_i hh
        rw [Bool.and_eq_true] at hh
        obtain ⟨p1, z1⟩ := eqOk_both hh.1
        obtain ⟨p2, z2⟩ := eqOk_both hh.2
        refine .inr (.inl ⟨_, _, rd1.dp R'.sub p1, rd2.dp R'.sub p2, z1, z2, ?_⟩)
        rw [any_toPs]
        exact g' w' s' R'
      · exact g'.elim
    · exact g'.elim
/-- a value's truth -/
theorem fin_tru {Q : Bool → Hp → Prop} (s0 : Step w0 w) (Re : Rep S σ e w) (r1 : RvRep S σ w v x q) (n1 : New w0 q) (g : Good S W σ w0 (opTru x e) (postB Q)) : ∃ k, TruV S.K v w.H k ∧ Q k w.H := by
  unfold opTru at g
  split at g
  · rename_i b
    have h1 : v = .bl b := r1.2
    exact ⟨b, by rw [h1]; exact rfl, g w s0 Re⟩
  · obtain ⟨w', e', d, hH, G, s', R', rd, g'⟩ := peek1 s0 Re r1 n1 g
    rw [← hH]
    cases ht : truth d with
    | none => rw [ht] at g'; exact g'.elim
    | some b =>
      rw [ht] at g'
      refine ⟨b, ?_, g' w' s' R'⟩
      cases d with
      | non => cases ht; rw [show v = .non from rd]; exact rfl
      | bl b' => cases ht; rw [show v = .bl b from rd]; exact rfl
      | int i => cases ht; rw [show v = .int i from rd]; exact rfl
      | str z =>
        unfold truth at ht
        simp only at ht
        split at ht
        · rename_i hl
          cases ht
          rw [LIM_eq] at hl
          rw [show v = .str z from rd]; exact ⟨hl, rfl⟩
        · cases ht
      | tup ds =>
        cases ht
        obtain ⟨a, vs, rfl, q1, t⟩ := rd.tup R'.sub
        have e1 : ds.isEmpty = vs.isEmpty := by
          have := t.len
          cases ds <;> cases vs <;> simp_all
        rw [e1]
        exact .inr (.inl ⟨vs, q1, rfl⟩)
      | lst ds =>
        cases ht
        obtain ⟨a, vs, rfl, q1, t⟩ := rd.lst
        have e1 : ds.isEmpty = vs.isEmpty := by
          have := t.len
          cases ds <;> cases vs <;> simp_all
        rw [e1]
        exact .inl ⟨vs, .inl q1, rfl⟩
      | _ => cases ht
end
end Fp
/-! FpExpr3: tests, displays, subscripts, slices. -/
namespace Fp
open PySem PySem.Spec PyProof.Rows L2
section
variable {S : Se} {W : WX} {σ : L2.St} {e e' : Env} {w w' w0 w1 w2 : Wo} {v v1 v2 : V} {r x y : Rv} {q q1 q2 : List Addr} {α β : Type}
theorem blV_tru (m : R Bool) : (m.blV.bind fun r e => opTru r e) = m := by
  cases m <;> rfl
theorem tE.of {ev : Env → R Rv} {H : Hp} {Q : VK} (hw : w.H = H) (R : Rep S σ e w) (g : Good S W σ w (ev e) (postR S σ w Q)) : tE S W ev σ H Q := ⟨e, w, hw, R, g⟩
/-- a test, then what follows -/
theorem tT.on {ev : Env → R Bool} {k : Bool → Env → R α} {p : α → Env → Wo → Prop} {Q : Bool → Hp → Prop} (s0 : Step w0 w) (R : Rep S σ e w) (g : Good S W σ w0 ((ev e).bind k) p)
    (h : ∀ b e w', Step w w' → Step w0 w' → Rep S σ e w' → Good S W σ w0 (k b e) p → Q b w'.H) : tT S W ev σ w.H Q :=
  ⟨e, w, rfl, R, (g.bind.base s0).mono fun b e' w' s R' g' => h b e' w' s g'.1 R' g'.2⟩
theorem tT.one {H : Hp} {ev : Env → R Bool} {k : Bool → Env → R α} {p : α → Env → Wo → Prop} {Q : Bool → Hp → Prop} (hw : w.H = H) (R : Rep S σ e w) (g : Good S W σ w ((ev e).bind k) p)
    (h : ∀ b e w', Step w w' → Rep S σ e w' → Good S W σ w (k b e) p → Q b w'.H) : tT S W ev σ H Q := by
  subst hw
  exact tT.on (Step.refl w) R g fun b e w' s _ R' g' => h b e w' s R' g'
theorem tA.on {ev : Env → R (List Rv)} {k : List Rv → Env → R α} {p : α → Env → Wo → Prop} {Q : List V → Hp → Prop} (s0 : Step w0 w) (R : Rep S σ e w) (g : Good S W σ w0 ((ev e).bind k) p)
    (h : ∀ vs rs q e w', Step w w' → Step w0 w' → Rep S σ e w' → RvReps S σ w' vs rs q → New w0 q → New w q → q.Nodup → Good S W σ w0 (k rs e) p → Q vs w'.H) : tA S W ev σ w.H Q :=
  ⟨e, w, rfl, R, (g.bind.base s0).mono fun rs e' w' s R' g' vs q hr n nd => h vs rs q e' w' s g'.1 R' hr (n.step s0) n nd g'.2⟩
theorem tA.one {H : Hp} {ev : Env → R (List Rv)} {k : List Rv → Env → R α} {p : α → Env → Wo → Prop} {Q : List V → Hp → Prop} (hw : w.H = H) (R : Rep S σ e w) (g : Good S W σ w ((ev e).bind k) p)
    (h : ∀ vs rs q e w', Step w w' → Rep S σ e w' → RvReps S σ w' vs rs q → New w q → q.Nodup → Good S W σ w (k rs e) p → Q vs w'.H) : tA S W ev σ H Q := by
  subst hw
  exact tA.on (Step.refl w) R g fun vs rs q e w' s _ R' hr n _ nd g' => h vs rs q e w' s R' hr n nd g'
/-- the rest of an evaluation from a later state -/
theorem tE.rest {ev : Env → R Rv} {Q : VK} (s0 : Step w0 w) (R : Rep S σ e w) (g : Good S W σ w0 (ev e) (postR S σ w0 Q)) : tE S W ev σ w.H Q :=
  ⟨e, w, rfl, R, (g.base s0).mono fun r e' w' s R' g' v q hr n => g'.2 v q hr (n.step s0)⟩
theorem tT.rest {ev : Env → R Bool} {Q : Bool → Hp → Prop} (s0 : Step w0 w) (R : Rep S σ e w) (g : Good S W σ w0 (ev e) (postB Q)) : tT S W ev σ w.H Q :=
  ⟨e, w, rfl, R, (g.base s0).mono fun r e' w' s R' g' => g'.2⟩
end
section
variable {X : L2.Cx} {S : Se} {W : WX} {a b c : Expr} {ea eb ec : Env → R Rv} {ta tb tc : Env → R Bool} {pos : Pos} {es rest : List Expr} {eas : Env → R (List Rv)}
theorem s_cmp (hK : S.K = X.K) (hu : X.A.units + 65 < cLine) (o : Cop) (ha : PE X a (tE S W ea)) (hb : PE X b (tE S W eb)) (hm : behindInMarks (copOf o) b = false) :
    PE X (.Compare a [copOf o] [b] pos) (tE S W fun e => ((ea e).bind fun x e => (eb e).bind fun y e => opCmp o x y e).blV) :=
  PE.imp (pe_cmpR (op_cop hu o) ha hb hm) fun σ H Q ⟨e, w, hw, R, g⟩ => tE.two (p := fun _ b e w => Q (.bl b) w.H) ⟨e, w, hw, R, g.blV⟩ fun w0 w e x y v1 v2 q1 q2 s R r1 r2 ap n1 n2 g => by
    rw [← hK]
    exact fin_cmp s R r1 r2 ap n1 n2 g
theorem t_cmp (hK : S.K = X.K) (hu : X.A.units + 65 < cLine) (o : Cop) (ha : PE X a (tE S W ea)) (hb : PE X b (tE S W eb)) (hm : behindInMarks (copOf o) b = false) :
    PT X (.Compare a [copOf o] [b] pos) (tT S W fun e => (ea e).bind fun x e => (eb e).bind fun y e => opCmp o x y e) :=
  PT.imp (pt_cmpR (op_cop hu o) ha hb hm) fun σ H Q h => by
    refine tE.two (P := fun v1 v2 H2 => rCop X.K o v1 v2 H2 fun x H' => ∃ k, x = .bl k ∧ Q k H') (p := fun _ => postB Q) h fun w0 w e x y v1 v2 q1 q2 s R r1 r2 ap n1 n2 g => ?_
    rw [← hK]
    exact fin_cmp s R r1 r2 ap n1 n2 (g.mono fun b e w _ _ h => ⟨b, rfl, h⟩)
theorem t_val (hK : S.K = X.K) (ha : PE X a (tE S W ea)) (he : ∀ whole, isTrue a X.env whole = (do let v ← whole; standAt a.pos; holding [v] (truthy v))) : PT X a (tT S W fun e => (ea e).bind fun r e => opTru r e) :=
  PT.imp (pt_truth ha he) fun σ H Q ⟨e, w, hw, R, g⟩ => tE.one hw R g fun v r q e w' s R' hr n g => by
    rw [← hK]
    exact fin_tru s R' hr n g
theorem t_not (ha : PT X a (tT S W ta)) : PT X (.UnaryOp .Not a pos) (tT S W fun e => (ta e).bind fun t e => .ok (!t) e) :=
  PT.imp (pt_not ha) fun σ H Q ⟨e, w, hw, R, g⟩ => tT.one hw R g fun b e w' s R' g => g w' s R'
theorem t_and1 (ha : PT X a (tT S W ta)) : PW X (.BoolOp .And [a] pos) (tT S W ta) := pw_and1 ha
theorem t_or1 (ha : PT X a (tT S W ta)) : PW X (.BoolOp .Or [a] pos) (tT S W ta) := pw_or1 ha
theorem t_and (ha : PT X a (tT S W ta)) (hb : PW X (.BoolOp .And (b :: rest) pos) (tT S W tb)) : PW X (.BoolOp .And (a :: b :: rest) pos) (tT S W fun e => (ta e).bind fun t e => if t then tb e else .ok false e) :=
  PW.imp (pw_and ha hb) fun σ H Q ⟨e, w, hw, R, g⟩ => tT.one (Q := fun c H1 => if c = true then tT S W tb σ H1 Q else Q false H1) hw R g fun t e w' s R' g => by
    cases t with
    | true => exact tT.rest s R' g
    | false => exact g w' s R'
theorem t_or (ha : PT X a (tT S W ta)) (hb : PW X (.BoolOp .Or (b :: rest) pos) (tT S W tb)) : PW X (.BoolOp .Or (a :: b :: rest) pos) (tT S W fun e => (ta e).bind fun t e => if t then .ok true e else tb e) :=
  PW.imp (pw_or ha hb) fun σ H Q ⟨e, w, hw, R, g⟩ => tT.one (Q := fun c H1 => if c = true then Q true H1 else tT S W tb σ H1 Q) hw R g fun t e w' s R' g => by
    cases t with
    | false => exact tT.rest s R' g
    | true => exact g w' s R'
theorem s_and (ha : PE X a (tE S W ea)) (hb : PE X (.BoolOp .And (b :: rest) pos) (tE S W eb)) : PE X (.BoolOp .And (a :: b :: rest) pos) (tE S W fun e => (ea e).bind fun x e => match x with
    | .val (.bl true) => eb e
    | .val (.bl false) => .ok (.val (.bl false)) e
    | _ => .bad) :=
  PE.imp (pe_and ha hb) fun σ H Q ⟨e, w, hw, R, g⟩ => tE.one hw R g fun v r q e w' s R' hr n g => by
    split at g
    · exact ⟨true, hr.2, tE.rest s R' g⟩
    · exact ⟨false, hr.2, g.val s R' (v := .bl false) rfl⟩
    · exact g.elim
theorem s_or (ha : PE X a (tE S W ea)) (hb : PE X (.BoolOp .Or (b :: rest) pos) (tE S W eb)) : PE X (.BoolOp .Or (a :: b :: rest) pos) (tE S W fun e => (ea e).bind fun x e => match x with
    | .val (.bl true) => .ok (.val (.bl true)) e
    | .val (.bl false) => eb e
    | _ => .bad) :=
  PE.imp (pe_or ha hb) fun σ H Q ⟨e, w, hw, R, g⟩ => tE.one hw R g fun v r q e w' s R' hr n g => by
    split at g
    · exact ⟨true, hr.2, g.val s R' (v := .bl true) rfl⟩
    · exact ⟨false, hr.2, tE.rest s R' g⟩
    · exact g.elim
/-- not x, x any value -/
theorem pe_notT {t : TE} (ha : PE X a t) : PE X (.UnaryOp .Not a pos) (fun σ H Q => t σ H fun x H1 => ∃ k, TruV X.K x H1 k ∧ Q (.bl (!k)) H1) := by
  refine ⟨fun pins s σ H Q I h => ?_⟩
  refine UnaryOp_ (thn (ha.run pins s σ H _ I h) fun v s1 ⟨x, H1, I1, r1, q1⟩ => ?_)
  refine not_of (thn (tru_ok pins s1 σ H1 x v (fun k H' => Q (.bl (!k)) H') I1 r1 q1) fun k s2 ⟨H2, I2, q2⟩ => ?_)
  exact ⟨.bl (!k), H2, I2, rfl, q2⟩
theorem s_not (hK : S.K = X.K) (ha : PE X a (tE S W ea)) : PE X (.UnaryOp .Not a pos) (tE S W fun e => ((ea e).bind fun x e => (opTru x e).bind fun b e => .ok (!b) e).blV) :=
  PE.imp (pe_notT ha) fun σ H Q ⟨e, w, hw, R, g⟩ => tE.one (p := fun b e w => Q (.bl b) w.H) hw R g.blV fun v r q e w' s R' hr n g => by
    rw [← hK]
    exact fin_tru s R' hr n (g.bind.mono fun b e w s R h => h w s R)
theorem s_ite (hc : PT X c (tT S W tc)) (ha : PE X a (tE S W ea)) (hb : PE X b (tE S W eb)) : PE X (.IfExp c a b pos) (tE S W fun e => (tc e).bind fun t e => if t then ea e else eb e) :=
  PE.imp (pe_ifExp hc ha hb) fun σ H Q ⟨e, w, hw, R, g⟩ => tT.one (Q := fun t H1 => if t = true then tE S W ea σ H1 Q else tE S W eb σ H1 Q) hw R g fun t e w' s R' g => by
    cases t with
    | true => exact tE.rest s R' g
    | false => exact tE.rest s R' g
/-! ### argument lists, displays -/
theorem s_nil : PA X [] (tA S W fun e => .ok [] e) := PA.imp pa_nil fun σ H Q ⟨e, w, hw, R, g⟩ => by
  subst hw
  exact g w (Step.refl w) R [] [] ⟨rfl, rfl⟩ (New.nil _) List.nodup_nil
theorem s_cons (ha : PE X a (tE S W ea)) (hr : PA X es (tA S W eas)) (hs : starEach (a :: es) X.env = (false, eval a X.env) :: starEach es X.env) :
    PA X (a :: es) (tA S W fun e => (ea e).bind fun r e => (eas e).bind fun rs e => .ok (r :: rs) e) :=
  PA.imp (pa_cons ha hr hs) fun σ H Q ⟨e, w, hw, R, g⟩ => tE.one hw R g fun v r q e w1 s R1 hr1 n1 g => tA.on s R1 g fun vs rs q2 e w2 s2 s02 R2 hr2 n2 n12 nd g =>
    g w2 s02 R2 (v :: vs) (q ++ q2) ⟨v, vs, q, q2, rfl, rfl, hr1.step s2, hr2⟩ (mem_app_new n1 n2) (List.nodup_append.mpr ⟨hr1.nd, nd, fun a ha b hb z => by
      subst z
      obtain ⟨us, hu⟩ := hr1.there a ha
      exact (hr1.off a ha).2.1 (n12 a hb _ hu)⟩)
theorem asVals_nx {e : Env} : ∀ {rs : List Rv}, (∃ ds e', e.asVals rs = .ok ds e') ∨ e.asVals rs = .bad
  | [] => .inl ⟨_, _, rfl⟩
  | r :: rs => by
    unfold Env.asVals
    rcases asVal_nx (e := e) (x := r) with ⟨d, e1, h⟩ | h
    · rw [h, Fp.R.bind_ok]
      rcases asVals_nx (e := e1) (rs := rs) with ⟨ds, e2, h2⟩ | h2
      · rw [h2]; exact .inl ⟨_, _, rfl⟩
      · rw [h2]; exact .inr rfl
    · rw [h]; exact .inr rfl
theorem item_nx {e : Env} {x : Rv} : (∃ d e', e.item x = .ok d e') ∨ e.item x = .bad := by
  cases x with
  | fresh ds => exact .inl ⟨_, _, rfl⟩
  | val d => exact asVal_nx (e := e) (x := .val d)
  | loc l => exact asVal_nx (e := e) (x := .loc l)
theorem items_nx {e : Env} : ∀ {rs : List Rv}, (∃ ds e', e.items rs = .ok ds e') ∨ e.items rs = .bad
  | [] => .inl ⟨_, _, rfl⟩
  | r :: rs => by
    unfold Env.items
    rcases item_nx (e := e) (x := r) with ⟨d, e1, h⟩ | h
    · rw [h, Fp.R.bind_ok]
      rcases items_nx (e := e1) (rs := rs) with ⟨ds, e2, h2⟩ | h2
      · rw [h2]; exact .inl ⟨_, _, rfl⟩
      · rw [h2]; exact .inr rfl
    · rw [h]; exact .inr rfl
theorem s_tup {k : Nat} (h : PA X es (tA S W eas)) : PE X (.Tuple es k pos) (tE S W fun e => (eas e).bind fun rs e => (e.asVals rs).bind fun ds e => if ds.length ≤ LIM then .ok (.val (.tup ds)) e else .bad) :=
  PE.imp (pe_tup h) fun σ H Q ⟨e, w, hw, R, g⟩ => tA.one hw R g fun vs rs q e w' s R' hr n nd g => by
    rcases asVals_nx (e := e) (rs := rs) with ⟨ds, e1, h1⟩ | h1
    · rw [h1, Fp.R.bind_ok] at g
      obtain ⟨w2, R2, G, dd⟩ := asVals_ok R' hr nd h1
      split at g
      · rename_i hl
        rw [LIM_eq, dd.len] at hl
        rw [← G.h]
        exact ⟨hl, fun p hp => g.tup (s.gh G n) R2 dd hp⟩
      · exact g.elim
    · rw [h1] at g; exact g.elim
theorem s_lst (h : PA X es (tA S W eas)) : PE X (.List es pos) (tE S W fun e => (eas e).bind fun rs e => (e.items rs).bind fun ds e => if ds.length ≤ LIM then .ok (.fresh ds) e else .bad) :=
  PE.imp (pe_lst h) fun σ H Q ⟨e, w, hw, R, g⟩ => tA.one hw R g fun vs rs q e w' s R' hr n nd g => by
    rcases items_nx (e := e) (rs := rs) with ⟨ds, e1, h1⟩ | h1
    · rw [h1, Fp.R.bind_ok] at g
      obtain ⟨w2, f, R2, G, dd, sub, nf, off⟩ := items_ok R' hr nd h1
      split at g
      · rename_i hl
        rw [LIM_eq, dd.len] at hl
        rw [← G.h]
        exact ⟨hl, fun p hp => g.new (s.gh G n) R2 dd nf off (fun x hx => n x (sub x hx)) hp⟩
      · exact g.elim
    · rw [h1] at g; exact g.elim

/-! ### subscripts -/
theorem fin_idx {σ : L2.St} {e : Env} {w w0 : Wo} {v1 v2 : V} {x y : Rv} {q1 q2 : List Addr} {Q : VK} (s0 : Step w0 w) (Re : Rep S σ e w) (r1 : RvRep S σ w v1 x q1) (r2 : RvRep S σ w v2 y q2) (n1 : New w0 q1)
    (g : Good S W σ w0 (opIdx x y e) (postR S σ w0 Q)) : rIx S.K v1 v2 w.H Q := by
  unfold opIdx at g
  split at g
  · rename_i i
    have h2 : v2 = .int i := r2.2
    split at g
    · rename_i ds
      cases ha : L2.atI ds i with
      | none => rw [ha] at g; exact g.elim
      | some d =>
        rw [ha] at g
        obtain ⟨a, vs, rfl, h1, t⟩ := Red.tup (v := v1) Re.sub r1.2
        obtain ⟨v, hv, dv⟩ := t.at ha
        exact .inr (.inl ⟨a, vs, i, v, rfl, h2, h1, hv, g.val s0 Re dv⟩)
    · rename_i ds
      cases ha : L2.atI ds i with
      | none => rw [ha] at g; exact g.elim
      | some d =>
        rw [ha] at g
        obtain ⟨a, vs, rfl, h1, t⟩ := Red.lst (v := v1) (Red.of Re.sub r1.2)
        obtain ⟨v, hv, dv⟩ := t.at ha
        exact .inl ⟨a, vs, i, v, rfl, h2, .inl h1, hv, g.val s0 Re dv⟩
    · rename_i z
      split at g
      · rename_i hl
        rw [LIM_eq] at hl
        cases ha : L2.atI z.cps.toList i with
        | none => rw [ha] at g; exact g.elim
        | some c =>
          rw [ha] at g
          exact .inr (.inr ⟨z, i, c, r1.2, h2, hl, ha, g.val s0 Re (v := .str ⟨#[c]⟩) rfl⟩)
      · exact g.elim
    · rename_i ds
      cases ha : L2.atI ds i with
      | none => rw [ha] at g; exact g.elim
      | some d =>
        rw [ha] at g
        obtain ⟨w', R', G, dd⟩ := ghost_held Re r1
        obtain ⟨a, vs, rfl, h1, t⟩ := Red.lst (v := v1) (Red.of R'.sub dd)
        have ha' : L2.atI (ds.map frz1) i = some (frz1 d) := by
          unfold L2.atI at ha ⊢
          rw [List.length_map]
          cases z : ixN ds.length i with
          | none => rw [z] at ha; simp at ha
          | some j => rw [z] at ha; simp at ha ⊢; exact ⟨d, ha, rfl⟩
        obtain ⟨v, hv, dv⟩ := t.at ha'
        rw [← G.h]
        exact .inl ⟨a, vs, i, v, rfl, h2, .inl h1, hv, g.val (s0.gh G n1) R' dv⟩
    · rename_i l
      cases hl : e.at l with
      | none => rw [hl] at g; exact g.elim
      | some p =>
        rw [hl] at g
        cases p with
        | own ds =>
          simp only at g
          cases hx : L2.ixN ds.length i with
          | none => rw [hx] at g; exact g.elim
          | some j =>
            rw [hx] at g
            simp only at g
            cases hj : ds[j]? with
            | none => rw [hj] at g; exact g.elim
            | some d =>
              rw [hj] at g
              obtain ⟨a, ra, o⟩ := (Re.at hl).own
              have e1 : v1 = .ref a := rvLoc ra.locA r1
              obtain ⟨vs, gg, q, eg, os⟩ := o
              have hx' : L2.ixN vs.length i = some j := by rw [← os.len]; exact hx
              by_cases hO : d.isO = true
              · cases d with
                | olst xs =>
                  -- the nested list becomes a value
                  have sp : ds = ds.take j ++ .olst xs :: ds.drop (j + 1) := by
                    have hj' : j < ds.length := (List.getElem?_eq_some_iff.mp hj).1
                    rw [List.getElem?_eq_getElem hj'] at hj
                    have e2 : ds[j] = .olst xs := Option.some.inj hj
                    rw [← e2]
                    exact (List.take_append_drop j ds).symm.trans (by rw [List.drop_eq_getElem_cons hj'])
                  have os' := os
                  rw [sp] at os'
                  obtain ⟨us, ws, f1, f2, ev, ef, o1, o2⟩ := os'.split
                  obtain ⟨v, ws', fa, fb, ew, ef2, oi, o3⟩ := o2
                  obtain ⟨b, bs, rfl, rfl, hb, db⟩ := oi
                  have nd : (w.fp l).Nodup := Re.nd l
                  rw [eg, ef, ef2] at nd
                  have bl : b ∈ w.fp l := by rw [eg, ef, ef2]; simp
                  have len1 : us.length = j := by
                    rw [← o1.len, List.length_take]
                    have : j < ds.length := (List.getElem?_eq_some_iff.mp hj).1
                    omega
                  have sF : Same w.F (grow w.F w.H [b]) := grow_same fun x hx => by rw [List.mem_singleton.mp hx]; exact Re.off b ⟨l, bl⟩
                  have dn : Dat S (grow w.F w.H [b]) (.lst xs) (.ref b) := ⟨b, bs, rfl, .inl (by rw [grow_in (by simp)]; exact hb), db.mono sF⟩
                  have hset : ds.set j (.lst xs) = ds.take j ++ .lst xs :: ds.drop (j + 1) := by
                    have hj' : j < ds.length := (List.getElem?_eq_some_iff.mp hj).1
                    rw [List.set_eq_take_append_cons_drop, if_pos hj']
                  have n3 : (f1 ++ fb).Nodup ∧ a ∉ f1 ++ fb ∧ b ∉ f1 ++ fb ∧ a ≠ b := by
                    rw [List.nodup_cons, List.nodup_append] at nd
                    simp only [List.mem_append, List.mem_cons, List.not_mem_nil, or_false, not_or, List.nodup_append, List.nodup_cons] at nd ⊢
                    obtain ⟨⟨m1, m2, m3⟩, d1, ⟨⟨_, _⟩, d2, d3⟩, d4⟩ := nd
                    refine ⟨⟨d1, d2, fun x hx y hy => d4 x hx y (.inr hy)⟩, ⟨m1, m3⟩, ⟨fun z => d4 b z b (.inl rfl) rfl, fun z => d3 b rfl b z rfl⟩, m2⟩
                  have onew : OwnIs S (grow w.F w.H [b]) w.H (ds.set j (.lst xs)) vs (f1 ++ fb) := by
                    rw [hset, ev, ew]
                    refine OwnIs.app (o1.mono sF fun _ _ => rfl) ⟨.ref b, ws', [], fb, rfl, rfl, ⟨rfl, dn⟩, o3.mono sF fun _ _ => rfl⟩
                  have al : a ∈ w.fp l := by rw [eg]; simp
                  have subf : ∀ x ∈ a :: (f1 ++ fb), x ∈ w.fp l := fun x hx => by
                    rw [eg, ef, ef2]
                    simp only [List.mem_cons, List.mem_append] at hx ⊢
                    rcases hx with hx | hx | hx
                    · exact .inl hx
                    · exact .inr (.inl hx)
                    · exact .inr (.inr (.inr hx))
                  obtain ⟨R', G⟩ := ghost_at Re hl (p := .own (ds.set j (.lst xs))) (A := [b]) (g := a :: (f1 ++ fb)) (le' := w.lf) (fun x hx => by rw [List.mem_singleton.mp hx]; exact bl) subf
                    (List.nodup_cons.mpr ⟨n3.2.1, n3.1⟩) (fun x hx z => by
                      rw [List.mem_singleton] at z
                      subst z
                      rcases List.mem_cons.mp hx with hx | hx
                      · exact n3.2.2.2 hx.symm
                      · exact n3.2.2.1 hx) (fun x m z => z) (fun x z => .inl z) (fun x hx => Classical.not_not.mp (Re.ale x ⟨l, subf x hx⟩))
                    (PlRep.mk_own ra.locA ⟨vs, f1 ++ fb, q, rfl, onew⟩)
                  have hv : vs[j]? = some (.ref b) := by
                    rw [ev, ew, List.getElem?_append_right (by omega), len1, Nat.sub_self]
                    rfl
                  refine .inl ⟨a, vs, i, .ref b, e1, h2, .inl (.inl q), by unfold L2.atI; rw [hx']; exact hv, ?_⟩
                  exact g.val (w := ⟨grow w.F w.H [b], w.H, updL w.fp l (a :: (f1 ++ fb)), w.lf⟩) (s0.gh G (New.nil _)) R' dn
                | _ => cases hO
              · have g' : Good S W σ w0 (.ok (.val d) e) (postR S σ w0 Q) := by
                  cases d <;> first | exact g | exact absurd rfl hO
                obtain ⟨v, hv, dv⟩ := os.get hj (by simpa using hO)
                exact .inl ⟨a, vs, i, v, e1, h2, .inl (.inl q), by unfold L2.atI; rw [hx']; exact hv, g'.val s0 Re dv⟩
        | lea ds =>
          simp only at g
          cases ha : L2.atI ds i with
          | none => rw [ha] at g; exact g.elim
          | some d =>
            rw [ha] at g
            obtain ⟨a, vs, e1, h1, t⟩ := Red.lst ((Re.at hl).rd Re.sub r1 (.inl rfl))
            obtain ⟨v, hv, dv⟩ := t.at ha
            exact .inl ⟨a, vs, i, v, e1, h2, .inl h1, hv, g.val s0 Re dv⟩
        | frz ds =>
          simp only at g
          cases ha : L2.atI ds i with
          | none => rw [ha] at g; exact g.elim
          | some d =>
            rw [ha] at g
            obtain ⟨a, vs, e1, h1, t⟩ := Red.lst ((Re.at hl).rd Re.sub r1 (.inr rfl))
            obtain ⟨v, hv, dv⟩ := t.at ha
            exact .inl ⟨a, vs, i, v, e1, h2, .inl h1, hv, g.val s0 Re dv⟩
    · exact g.elim
  · exact g.elim
theorem s_idx (hK : S.K = X.K) (ha : PE X a (tE S W ea)) (hb : PE X b (tE S W eb)) (hs : PlainIx b) : PE X (.Subscript a b pos) (tE S W fun e => (ea e).bind fun x e => (eb e).bind fun y e => opIdx x y e) :=
  PE.imp (pe_ix ix_seq ha hb hs) fun σ H Q h => tE.two (p := fun w => postR S σ w Q) h fun w0 w e x y v1 v2 q1 q2 s R r1 r2 ap n1 n2 g => by
    rw [← hK]
    exact fin_idx s R r1 r2 n1 g
end
end Fp
/-! FpExpr4: slices, builtins, isinstance. -/
namespace Fp
open PySem PySem.Spec PyProof.Rows L2
theorem PO.imp {X : L2.Cx} {e : Option Expr} {t t' : TO} (h : PO X e t) (k : ∀ σ H Q, t' σ H Q → t σ H Q) : PO X e t' := ⟨fun pins s σ H Q I z => h.run pins s σ H Q I (k σ H Q z)⟩
def tO (S : Se) (W : WX) (ev : Env → R (Option Int)) : TO := fun σ H Q => ∃ e w, w.H = H ∧ Rep S σ e w ∧ Good S W σ w (ev e) fun o _ w => Q o w.H
section
variable {S : Se} {W : WX} {σ : L2.St} {e e' : Env} {w w' w0 w1 w2 : Wo} {v v1 v2 : V} {r x y : Rv} {q q1 q2 : List Addr} {α β : Type}
theorem tO.on {ev : Env → R (Option Int)} {k : Option Int → Env → R α} {p : α → Env → Wo → Prop} {Q : Option Int → Hp → Prop} (s0 : Step w0 w) (R : Rep S σ e w) (g : Good S W σ w0 ((ev e).bind k) p)
    (h : ∀ b e w', Step w w' → Step w0 w' → Rep S σ e w' → Good S W σ w0 (k b e) p → Q b w'.H) : tO S W ev σ w.H Q :=
  ⟨e, w, rfl, R, (g.bind.base s0).mono fun b e' w' s R' g' => h b e' w' s g'.1 R' g'.2⟩
theorem cut_whole {ds : List D} {lo hi : Option Int} (h : HT.sIx ds.length 0 lo = 0 ∧ HT.sIx ds.length ds.length hi = ds.length) : cutD ds lo hi = ds := by
  unfold cutD
  rw [h.1, h.2]
  simp
end
section
variable {X : L2.Cx} {S : Se} {W : WX} {a b c : Expr} {ea eb ec : Env → R Rv} {pos p2 p : Pos} {es rest : List Expr} {eas : Env → R (List Rv)} {lo hi : Option Expr} {el eh : Env → R (Option Int)}
theorem s_none : PO X none (tO S W fun e => .ok none e) := PO.imp po_none fun σ H Q ⟨e, w, hw, R, g⟩ => by
  subst hw
  exact g w (Step.refl w) R
theorem s_some (ha : PE X a (tE S W ea)) : PO X (some a) (tO S W fun e => (ea e).bind fun r e => match r with
    | .val (.int i) => .ok (some i) e
    | _ => .bad) := PO.imp (po_some ha) fun σ H Q ⟨e, w, hw, R, g⟩ => tE.one hw R g fun v r q e w' s R' hr n g => by
  split at g
  · rename_i i
    exact ⟨i, hr.2, g w' s R'⟩
  · exact g.elim
theorem s_slc (hK : S.K = X.K) (ha : PE X a (tE S W ea)) (hl : PO X lo (tO S W el)) (hh : PO X hi (tO S W eh)) :
    PE X (.Subscript a (.Slice lo hi none p2) pos) (tE S W fun e => (ea e).bind fun x e => (el e).bind fun l e => (eh e).bind fun h e => (e.peek x).bind fun d e => opSlc d l h e) :=
  PE.imp (pe_slice (sl_list.or sl_tupA) ha hl hh) fun σ H Q ⟨e, w, hw, R, g⟩ => tE.one hw R g fun v r q e w1 s1 R1 r1 n1 g => tO.on s1 R1 g fun l e w2 s2 s02 R2 g => tO.on s02 R2 g fun h e w3 s3 s03 R3 g => by
    obtain ⟨w', e', d, hH, G, s', R', rd, g'⟩ := peek1 s03 R3 ((r1.step s2).step s3) n1 g
    rw [← hH, ← hK]
    cases d with
    | tup ds =>
      obtain ⟨a, vs, rfl, q1, t⟩ := rd.tup R'.sub
      refine .inr ⟨a, vs, rfl, q1, fun z => ?_, fun z p hp => g'.tup s' R' (t.cut l h) hp⟩
      rw [← t.len] at z
      have g2 : Good S W σ w (.ok (.val (.tup (cutD ds l h))) e') (postR S σ w Q) := g'
      rw [cut_whole z] at g2
      exact g2.val s' R' rd
    | lst ds =>
      obtain ⟨a, vs, rfl, q1, t⟩ := rd.lst
      exact .inl ⟨a, vs, rfl, .inl q1, fun p hp => g'.new s' R' (.of_dats (t.cut l h)) List.nodup_nil (fun _ h => by simp at h) (New.nil _) hp⟩
    | _ => exact g'.elim

/-! ### builtins -/
theorem RvReps.one {σ : L2.St} {w : Wo} {vs : List V} {x : Rv} {q : List Addr} (h : RvReps S σ w vs [x] q) : ∃ v, vs = [v] ∧ RvRep S σ w v x q := by
  obtain ⟨v, ws, f, g, rfl, rfl, r1, rfl, rfl⟩ := h
  exact ⟨v, rfl, by rw [List.append_nil]; exact r1⟩
theorem RvReps.two {σ : L2.St} {w : Wo} {vs : List V} {x y : Rv} {q : List Addr} (h : RvReps S σ w vs [x, y] q) : ∃ v u f g, vs = [v, u] ∧ q = f ++ g ∧ RvRep S σ w v x f ∧ RvRep S σ w u y g := by
  obtain ⟨v, ws, f, g, rfl, rfl, r1, r2⟩ := h
  obtain ⟨u, rfl, r3⟩ := r2.one
  exact ⟨v, u, f, g, rfl, rfl, r1, r3⟩
theorem RvReps.nil {σ : L2.St} {w : Wo} {vs : List V} {q : List Addr} (h : RvReps S σ w vs [] q) : vs = [] := h.1
theorem allBl_ok {F : Hp} : ∀ {ds : List D} {vs : List V} {bs : List Bool}, Dats S F ds vs → allBl ds = some bs → vs = bs.map V.bl
  | [], vs, bs, h, e => by cases e; rw [h.nil_inv]; rfl
  | d :: ds, vs, bs, h, e => by
    obtain ⟨v, ws, rfl, r, t⟩ := h.cons_inv
    cases d <;> simp only [allBl] at e <;> first | cases e | skip
    rename_i b
    cases q : allBl ds with
    | none => rw [q] at e; cases e
    | some cs =>
      rw [q] at e
      cases e
      rw [allBl_ok t q, show v = .bl b from r]
      rfl
theorem allInt_ok {F : Hp} : ∀ {ds : List D} {vs : List V} {bs : List Int}, Dats S F ds vs → allInt ds = some bs → vs = bs.map V.int
  | [], vs, bs, h, e => by cases e; rw [h.nil_inv]; rfl
  | d :: ds, vs, bs, h, e => by
    obtain ⟨v, ws, rfl, r, t⟩ := h.cons_inv
    cases d <;> simp only [allInt] at e <;> first | cases e | skip
    rename_i b
    cases q : allInt ds with
    | none => rw [q] at e; cases e
    | some cs =>
      rw [q] at e
      cases e
      rw [allInt_ok t q, show v = .int b from r]
      rfl
/-- a builtin of one argument, by its readings -/
theorem s_b1 {x : Expr} {f : String} {r : List V → Hp → VK → Prop} {es : List Expr} (h : PE X x (tCB r (tA S W eas)))
    (fin : ∀ (σ : L2.St) (w0 w : Wo) (e : Env) (d : D) (v : V) (Q : VK), Step w0 w → Rep S σ e w → Red S w d v → Good S W σ w0 (blt1 f d e) (postR S σ w0 Q) → r [v] w.H Q)
    (one : ∀ e rs e', eas e = .ok rs e' → rs.length = 1) : PE X x (tE S W fun e => (eas e).bind fun rs e => opBlt f rs e) :=
  PE.imp h fun σ H Q ⟨e, w, hw, R, g⟩ => by
    subst hw
    refine ⟨e, w, rfl, R, ?_⟩
    have g : Good S W σ w ((eas e).bind fun rs e => opBlt f rs e) (postR S σ w Q) := g
    cases he : eas e with
    | bad => rw [he] at g; exact g.elim
    | ex c d e1 => rw [he] at g; exact g
    | ok rs e1 =>
      rw [he] at g
      intro w1 s1 R1 vs q hr n nd
      have l := one _ _ _ he
      match rs, l with
      | [y], _ =>
        obtain ⟨v, rfl, r1⟩ := hr.one
        obtain ⟨w', e', d, hH, G, s', R', rd, g'⟩ := peek1 s1 R1 r1 n g
        rw [← hH]
        exact fin σ w w' e' d v Q s' R' rd g'
theorem s_b2 {x : Expr} {f : String} {r : List V → Hp → VK → Prop} {es : List Expr} (h : PE X x (tCB r (tA S W eas)))
    (fin : ∀ (σ : L2.St) (w0 w : Wo) (e : Env) (d d' : D) (v v' : V) (Q : VK), Step w0 w → Rep S σ e w → Dat S w.F d v → Dat S w.F d' v' → Good S W σ w0 (blt2 f d d' e) (postR S σ w0 Q) → r [v, v'] w.H Q)
    (two : ∀ e rs e', eas e = .ok rs e' → rs.length = 2) : PE X x (tE S W fun e => (eas e).bind fun rs e => opBlt f rs e) :=
  PE.imp h fun σ H Q ⟨e, w, hw, R, g⟩ => by
    subst hw
    refine ⟨e, w, rfl, R, ?_⟩
    have g : Good S W σ w ((eas e).bind fun rs e => opBlt f rs e) (postR S σ w Q) := g
    cases he : eas e with
    | bad => rw [he] at g; exact g.elim
    | ex c d e1 => rw [he] at g; exact g
    | ok rs e1 =>
      rw [he] at g
      intro w1 s1 R1 vs q hr n nd
      have l := two _ _ _ he
      match rs, l with
      | [y, z], _ =>
        obtain ⟨v, u, f1, g1, rfl, rfl, r1, r2⟩ := hr.two
        have nd' := List.nodup_append.mp nd
        obtain ⟨w', e', d, d', hH, G, s', R', rd, rd', g'⟩ := asVal2 s1 R1 r1 r2 (fun a ha hb => nd'.2.2 a ha a hb rfl) (fun a ha => n a (List.mem_append_left _ ha)) (fun a ha => n a (List.mem_append_right _ ha)) g
        rw [← hH]
        exact fin σ w w' e' d d' v u Q s' R' rd rd' g'
variable {es' : List Expr} (hK : S.K = X.K) (hc : X.calm = true) (h : PA X (a :: es) (tA S W eas)) (one : ∀ e rs e', eas e = .ok rs e' → rs.length = 1) (two : ∀ e rs e', eas e = .ok rs e' → rs.length = 2)
  (he : starEach (a :: es) X.env = (false, eval a X.env) :: starEach es X.env) (hpl : (backTo pos (starEach es X.env)).any (·.1) = false)
include h he hpl
theorem s_len (hK : S.K = X.K) (one : ∀ e rs e', eas e = .ok rs e' → rs.length = 1) (hg : Gl X "len") (hm : X.mg "len" = none) : PE X (.Call (.Name "len" p) (a :: es) [] pos) (tE S W fun e => (eas e).bind fun rs e => opBlt "len" rs e) :=
  s_b1 (es := a :: es) (pe_callB (call_len_seq.or call_len_str) hg hm PySem.boot_len h (by decide) (by decide) he hpl) (fun σ w0 w e d v Q s R rd g => by
    rw [← hK]
    cases d with
    | tup ds =>
      obtain ⟨a, vs, rfl, q1, t⟩ := rd.tup R.sub
      refine .inl ⟨a, vs, rfl, .inr q1, ?_⟩
      rw [← t.len]
      exact Good.val (S := S) (W := W) g s R (v := .int (ds.length : Int)) rfl
    | lst ds =>
      obtain ⟨a, vs, rfl, q1, t⟩ := rd.lst
      refine .inl ⟨a, vs, rfl, .inl (.inl q1), ?_⟩
      rw [← t.len]
      exact Good.val (S := S) (W := W) g s R (v := .int (ds.length : Int)) rfl
    | klst ds =>
      obtain ⟨a, vs, rfl, q1, t⟩ := rd
      refine .inl ⟨a, vs, rfl, .inl (Same.sql R.sub q1), ?_⟩
      rw [← t.len]
      exact Good.val (S := S) (W := W) g s R (v := .int (ds.length : Int)) rfl
    | str z =>
      have g' : Good S W σ w0 (if z.length ≤ LIM then .ok (.val (.int z.length)) e else .bad) (postR S σ w0 Q) := g
      split at g'
      · rename_i hl
        rw [LIM_eq] at hl
        refine .inr ⟨z, by rw [show v = .str z from rd], hl, g'.val s R (v := .int (z.length : Int)) rfl⟩
      · exact g'.elim
    | _ => exact g.elim) one
theorem s_abs (one : ∀ e rs e', eas e = .ok rs e' → rs.length = 1) (hg : Gl X "abs") (hm : X.mg "abs" = none) : PE X (.Call (.Name "abs" p) (a :: es) [] pos) (tE S W fun e => (eas e).bind fun rs e => opBlt "abs" rs e) :=
  s_b1 (es := a :: es) (pe_callB call_abs hg hm (by decide +kernel) h (by decide) (by decide) he hpl) (fun σ w0 w e d v Q s R rd g => by
    cases d with
    | int i => exact ⟨i, by rw [show v = .int i from rd], Good.val (S := S) (W := W) g s R (v := .int (if i < 0 then -i else i)) rfl⟩
    | _ => exact g.elim) one
theorem s_int (one : ∀ e rs e', eas e = .ok rs e' → rs.length = 1) (hg : Gl X "int") (hm : X.mg "int" = none) : PE X (.Call (.Name "int" p) (a :: es) [] pos) (tE S W fun e => (eas e).bind fun rs e => opBlt "int" rs e) :=
  s_b1 (es := a :: es) (pe_callTy call_int1 hg hm (by decide +kernel) h (by decide) (by decide) he hpl) (fun σ w0 w e d v Q s R rd g => by
    cases d with
    | int i => exact .inl ⟨i, by rw [show v = .int i from rd], Good.val (S := S) (W := W) g s R (v := .int i) rfl⟩
    | bl b => exact .inr ⟨b, by rw [show v = .bl b from rd], Good.val (S := S) (W := W) g s R (v := .int (if b then 1 else 0)) rfl⟩
    | _ => exact g.elim) one
theorem s_tuple (hK : S.K = X.K) (one : ∀ e rs e', eas e = .ok rs e' → rs.length = 1) (hg : Gl X "tuple") (hm : X.mg "tuple" = none) : PE X (.Call (.Name "tuple" p) (a :: es) [] pos) (tE S W fun e => (eas e).bind fun rs e => opBlt "tuple" rs e) :=
  s_b1 (es := a :: es) (pe_callTy call_tuple_of hg hm (by decide +kernel) h (by decide) (by decide) he hpl) (fun σ w0 w e d v Q s R rd g => by
    rw [← hK]
    cases d with
    | tup ds =>
      obtain ⟨a, vs, rfl, q1, t⟩ := rd.tup R.sub
      exact ⟨a, vs, rfl, .inr ⟨q1, Good.val (S := S) (W := W) g s R rd⟩⟩
    | lst ds =>
      obtain ⟨a, vs, rfl, q1, t⟩ := rd.lst
      exact ⟨a, vs, rfl, .inl ⟨.inl q1, fun l hl => Good.tup (S := S) (W := W) g s R t hl⟩⟩
    | _ => exact g.elim) one
theorem s_list (hK : S.K = X.K) (one : ∀ e rs e', eas e = .ok rs e' → rs.length = 1) (hg : Gl X "list") (hm : X.mg "list" = none) : PE X (.Call (.Name "list" p) (a :: es) [] pos) (tE S W fun e => (eas e).bind fun rs e => opBlt "list" rs e) :=
  s_b1 (es := a :: es) (pe_callTy call_list_of hg hm (by decide +kernel) h (by decide) (by decide) he hpl) (fun σ w0 w e d v Q s R rd g => by
    rw [← hK]
    cases d with
    | tup ds =>
      obtain ⟨a, vs, rfl, q1, t⟩ := rd.tup R.sub
      exact ⟨a, vs, rfl, .inr q1, fun l hl => Good.new (S := S) (W := W) g s R (.of_dats t) List.nodup_nil (fun _ h => by simp at h) (New.nil _) hl⟩
    | lst ds =>
      obtain ⟨a, vs, rfl, q1, t⟩ := rd.lst
      exact ⟨a, vs, rfl, .inl (.inl q1), fun l hl => Good.new (S := S) (W := W) g s R (.of_dats t) List.nodup_nil (fun _ h => by simp at h) (New.nil _) hl⟩
    | klst ds =>
      obtain ⟨a, vs, rfl, q1, t⟩ := rd
      exact ⟨a, vs, rfl, .inl (Same.sql R.sub q1), fun l hl => Good.new (S := S) (W := W) g s R (.of_dats t) List.nodup_nil (fun _ h => by simp at h) (New.nil _) hl⟩
    | _ => exact g.elim) one
theorem s_all (hK : S.K = X.K) (hc : X.calm = true) (one : ∀ e rs e', eas e = .ok rs e' → rs.length = 1) (hg : Gl X "all") (hm : X.mg "all" = none) : PE X (.Call (.Name "all" p) (a :: es) [] pos) (tE S W fun e => (eas e).bind fun rs e => opBlt "all" rs e) :=
  s_b1 (es := a :: es) (pe_callB (cr_all hc) hg hm (by decide +kernel) h (by decide) (by decide) he hpl) (fun σ w0 w e d v Q s R rd g => by
    rw [← hK]
    cases d with
    | lst ds =>
      obtain ⟨a, vs, rfl, q1, t⟩ := rd.lst
      have g' : Good S W σ w0 (match allBl ds with | some bs => .ok (.val (.bl (bs.all id))) e | none => .bad) (postR S σ w0 Q) := g
      cases hb : allBl ds with
      | none => rw [hb] at g'; exact g'.elim
      | some bs =>
        rw [hb] at g'
        exact ⟨a, bs, rfl, by rw [← allBl_ok t hb]; exact .inl q1, g'.val s R (v := .bl (bs.all id)) rfl⟩
    | _ => exact g.elim) one
theorem s_any (hK : S.K = X.K) (hc : X.calm = true) (one : ∀ e rs e', eas e = .ok rs e' → rs.length = 1) (hg : Gl X "any") (hm : X.mg "any" = none) : PE X (.Call (.Name "any" p) (a :: es) [] pos) (tE S W fun e => (eas e).bind fun rs e => opBlt "any" rs e) :=
  s_b1 (es := a :: es) (pe_callB (cr_any hc) hg hm (by decide +kernel) h (by decide) (by decide) he hpl) (fun σ w0 w e d v Q s R rd g => by
    rw [← hK]
    cases d with
    | lst ds =>
      obtain ⟨a, vs, rfl, q1, t⟩ := rd.lst
      have g' : Good S W σ w0 (match allBl ds with | some bs => .ok (.val (.bl (bs.any id))) e | none => .bad) (postR S σ w0 Q) := g
      cases hb : allBl ds with
      | none => rw [hb] at g'; exact g'.elim
      | some bs =>
        rw [hb] at g'
        exact ⟨a, bs, rfl, by rw [← allBl_ok t hb]; exact .inl q1, g'.val s R (v := .bl (bs.any id)) rfl⟩
    | _ => exact g.elim) one
theorem s_sum (hK : S.K = X.K) (hc : X.calm = true) (one : ∀ e rs e', eas e = .ok rs e' → rs.length = 1) (hg : Gl X "sum") (hm : X.mg "sum" = none) : PE X (.Call (.Name "sum" p) (a :: es) [] pos) (tE S W fun e => (eas e).bind fun rs e => opBlt "sum" rs e) :=
  s_b1 (es := a :: es) (pe_callB (cr_sum hc) hg hm (by decide +kernel) h (by decide) (by decide) he hpl) (fun σ w0 w e d v Q s R rd g => by
    rw [← hK]
    cases d with
    | lst ds =>
      obtain ⟨a, vs, rfl, q1, t⟩ := rd.lst
      have g' : Good S W σ w0 (match allInt ds with | some ns => .ok (.val (.int ns.sum)) e | none => .bad) (postR S σ w0 Q) := g
      cases hb : allInt ds with
      | none => rw [hb] at g'; exact g'.elim
      | some bs =>
        rw [hb] at g'
        exact ⟨a, bs, rfl, by rw [← allInt_ok t hb]; exact .inl q1, g'.val s R (v := .int bs.sum) rfl⟩
    | _ => exact g.elim) one
theorem s_min (hc : X.calm = true) (two : ∀ e rs e', eas e = .ok rs e' → rs.length = 2) (hg : Gl X "min") (hm : X.mg "min" = none) : PE X (.Call (.Name "min" p) (a :: es) [] pos) (tE S W fun e => (eas e).bind fun rs e => opBlt "min" rs e) :=
  s_b2 (es := a :: es) (pe_callB (call_min2 hc) hg hm (by decide +kernel) h (by decide) (by decide) he hpl) (fun σ w0 w e d d' v v' Q s R rd rd' g => by
    cases d with
    | int i => cases d' with
      | int j => exact ⟨i, j, by rw [show v = .int i from rd, show v' = .int j from rd'], Good.val (S := S) (W := W) g s R (v := .int (if j < i then j else i)) rfl⟩
      | _ => exact g.elim
    | _ => cases d' <;> exact g.elim) two
theorem s_max (hc : X.calm = true) (two : ∀ e rs e', eas e = .ok rs e' → rs.length = 2) (hg : Gl X "max") (hm : X.mg "max" = none) : PE X (.Call (.Name "max" p) (a :: es) [] pos) (tE S W fun e => (eas e).bind fun rs e => opBlt "max" rs e) :=
  s_b2 (es := a :: es) (pe_callB (call_max2 hc) hg hm (by decide +kernel) h (by decide) (by decide) he hpl) (fun σ w0 w e d d' v v' Q s R rd rd' g => by
    cases d with
    | int i => cases d' with
      | int j => exact ⟨i, j, by rw [show v = .int i from rd, show v' = .int j from rd'], Good.val (S := S) (W := W) g s R (v := .int (if j > i then j else i)) rfl⟩
      | _ => exact g.elim
    | _ => cases d' <;> exact g.elim) two
theorem s_gcd (two : ∀ e rs e', eas e = .ok rs e' → rs.length = 2) (hg : Gl X "gcd") (hm : X.mg "gcd" = some (.builtin "math.gcd")) : PE X (.Call (.Name "gcd" p) (a :: es) [] pos) (tE S W fun e => (eas e).bind fun rs e => opBlt "gcd" rs e) :=
  s_b2 (es := a :: es) (pe_callBfun cr_gcd hg hm h (by decide) he hpl) (fun σ w0 w e d d' v v' Q s R rd rd' g => by
    cases d with
    | int i => cases d' with
      | int j => exact ⟨i, j, by rw [show v = .int i from rd, show v' = .int j from rd'], Good.val (S := S) (W := W) g s R (v := .int (Int.gcd i j)) rfl⟩
      | _ => exact g.elim
    | _ => cases d' <;> exact g.elim) two
end
end Fp
/-! FpCall: a def called: what it takes over, what comes back. -/
namespace Fp
open PySem PySem.Spec PyProof.Rows L2
/-- the surroundings alone: nothing handed in -/
abbrev Se.with (S : Se) (pa : List Addr) : Se := ⟨S.K, S.cl, pa⟩
mutual
theorem Dat.pa {S : Se} {pa : List Addr} {F : Hp} : ∀ (d : D) (v : V), Dat S F d v → Dat (S.with pa) F d v
  | .non, _, h => h
  | .bl _, _, h => h
  | .int _, _, h => h
  | .str _, _, h => h
  | .tup ds, v, h => by
    obtain ⟨a, vs, e, q, r⟩ := h
    exact ⟨a, vs, e, q, Dats.pa ds vs r⟩
  | .lst ds, v, h => by
    obtain ⟨a, vs, e, q, r⟩ := h
    exact ⟨a, vs, e, q, Dats.pa ds vs r⟩
  | .olst _, _, h => h
  | .dic _ _, _, h => h
  | .exc c d, v, h => by
    obtain ⟨a, C, dx, w, e, ec, q1, q2, r⟩ := h
    exact ⟨a, C, dx, w, e, ec, q1, q2, Dat.pa d w r⟩
  | .klst ds, v, h => by
    obtain ⟨a, vs, e, q, r⟩ := h
    exact ⟨a, vs, e, q, Dats.pa ds vs r⟩
theorem Dats.pa {S : Se} {pa : List Addr} {F : Hp} : ∀ (ds : List D) (vs : List V), Dats S F ds vs → Dats (S.with pa) F ds vs
  | [], [], h => h
  | d :: ds, v :: vs, h => ⟨Dat.pa d v h.1, Dats.pa ds vs h.2⟩
  | [], _ :: _, h => h
  | _ :: _, [], h => h
end
mutual
theorem Dat.unpa {S : Se} {pa : List Addr} {F : Hp} : ∀ (d : D) (v : V), Dat (S.with pa) F d v → Dat S F d v
  | .non, _, h => h
  | .bl _, _, h => h
  | .int _, _, h => h
  | .str _, _, h => h
  | .tup ds, v, h => by
    obtain ⟨a, vs, e, q, r⟩ := h
    exact ⟨a, vs, e, q, Dats.unpa ds vs r⟩
  | .lst ds, v, h => by
    obtain ⟨a, vs, e, q, r⟩ := h
    exact ⟨a, vs, e, q, Dats.unpa ds vs r⟩
  | .olst _, _, h => h
  | .dic _ _, _, h => h
  | .exc c d, v, h => by
    obtain ⟨a, C, dx, w, e, ec, q1, q2, r⟩ := h
    exact ⟨a, C, dx, w, e, ec, q1, q2, Dat.unpa d w r⟩
  | .klst ds, v, h => by
    obtain ⟨a, vs, e, q, r⟩ := h
    exact ⟨a, vs, e, q, Dats.unpa ds vs r⟩
theorem Dats.unpa {S : Se} {pa : List Addr} {F : Hp} : ∀ (ds : List D) (vs : List V), Dats (S.with pa) F ds vs → Dats S F ds vs
  | [], [], h => h
  | d :: ds, v :: vs, h => ⟨Dat.unpa d v h.1, Dats.unpa ds vs h.2⟩
  | [], _ :: _, h => h
  | _ :: _, [], h => h
end
section
variable {S : Se} {pz : List Addr} {F H : Hp}
theorem OwnI.pa {d : D} {v : V} {g : List Addr} (h : OwnI S F H d v g) : OwnI (S.with pz) F H d v g := by
  cases d with
  | olst ds =>
    obtain ⟨a, vs, e, e1, q, r⟩ := h
    exact ⟨a, vs, e, e1, q, Dats.pa _ _ r⟩
  | _ => exact ⟨h.1, Dat.pa _ _ h.2⟩
theorem OwnI.unpa {d : D} {v : V} {g : List Addr} (h : OwnI (S.with pz) F H d v g) : OwnI S F H d v g := by
  cases d with
  | olst ds =>
    obtain ⟨a, vs, e, e1, q, r⟩ := h
    exact ⟨a, vs, e, e1, q, Dats.unpa _ _ r⟩
  | _ => exact ⟨h.1, Dat.unpa _ _ h.2⟩
theorem OwnIs.pa : ∀ {ds : List D} {vs : List V} {g : List Addr}, OwnIs S F H ds vs g → OwnIs (S.with pz) F H ds vs g
  | [], _, _, h => h
  | d :: ds, vs, g, h => by
    obtain ⟨v, ws, f, g, e, e2, q, r⟩ := h
    exact ⟨v, ws, f, g, e, e2, q.pa, r.pa⟩
theorem OwnIs.unpa : ∀ {ds : List D} {vs : List V} {g : List Addr}, OwnIs (S.with pz) F H ds vs g → OwnIs S F H ds vs g
  | [], _, _, h => h
  | d :: ds, vs, g, h => by
    obtain ⟨v, ws, f, g, e, e2, q, r⟩ := h
    exact ⟨v, ws, f, g, e, e2, q.unpa, r.unpa⟩
theorem Own.pa {a : Addr} {ds : List D} {g : List Addr} (h : Own S F H a ds g) : Own (S.with pz) F H a ds g := by
  obtain ⟨vs, g, q, e, r⟩ := h
  exact ⟨vs, g, q, e, r.pa⟩
theorem Own.unpa {a : Addr} {ds : List D} {g : List Addr} (h : Own (S.with pz) F H a ds g) : Own S F H a ds g := by
  obtain ⟨vs, g, q, e, r⟩ := h
  exact ⟨vs, g, q, e, r.unpa⟩
theorem PsRep.pa {w : Wo} {l : Loc} {a : Addr} {p : Pst} {g : List Addr} (h : PsRep S w l a p g) : PsRep (S.with pz) w l a p g := by
  cases p with
  | own ds => exact Own.pa (S := S) h
  | lea ds =>
    obtain ⟨e, vs, q, r, z⟩ := h
    exact ⟨e, vs, q, Dats.pa _ _ r, z⟩
  | frz ds => exact ⟨h.1, Dat.pa _ _ h.2⟩
theorem PsRep.unpa {w : Wo} {l : Loc} {a : Addr} {p : Pst} {g : List Addr} (h : PsRep (S.with pz) w l a p g) : PsRep S w l a p g := by
  cases p with
  | own ds => exact Own.unpa (S := S) h
  | lea ds =>
    obtain ⟨e, vs, q, r, z⟩ := h
    exact ⟨e, vs, q, Dats.unpa _ _ r, z⟩
  | frz ds => exact ⟨h.1, Dat.unpa _ _ h.2⟩
end

/-! ### what a def promises -/
def GoodC (S : Se) (w0 : Wo) (m : CR) (Q : VK) (E : XK) : Prop :=
  match m with
  | .ok (.loc _) _ => False
  | .ok r ps => ∀ v w q, Step w0 w → Rep S [] ⟨[], ps⟩ w → RvRep S [] w v r q → New w0 q → Q v w.H
  | .ex c d ps => ∀ C dx w u, S.cl c = some C → Step w0 w → Rep S [] ⟨[], ps⟩ w → w.F dx = some (.xd [(("value" : Str), u)]) → Dat S w.F d u → E (.ref C) (some dx) w.H
  | .bad => False
/-- the promise of a def that the evaluator runs as m; vs: the parameters' values -/
def spF (S : Se) (m : List Sl → List Pst → CR) : Sp := fun vs H Q E => ∃ pa ss ps w, w.H = H ∧ ss.length = vs.length ∧ Rep (S.with pa) (vs.map some) ⟨ss, ps⟩ w ∧ (∀ s ∈ ss, (∃ d, s = .val d) ∨ ∃ k, s = .lnk k) ∧ GoodC (S.with pa) w (m ss ps) Q E

/-! ### the caller's side -/
section
variable {S : Se} {W : WX} {σ : L2.St} {e e' : Env} {w w' w0 w1 w2 : Wo} {v v1 v2 : V} {r x y : Rv} {q q1 q2 : List Addr}
/-- the lists handed in: their addresses and what each has alone -/
structure Handed (S : Se) (σ : L2.St) (e : Env) (w : Wo) (k : Nat) (vs : List V) (ss : List Sl) (ps : List Pst) (ls : List (Nat × Loc)) (q : List Addr) (pa : List Addr) (fl : List (List Addr)) : Prop where
  lens : ss.length = vs.length
  lenp : pa.length = ps.length
  lenf : fl.length = ps.length
  slot : ∀ (i : Nat) (s : Sl), ss[i]? = some s → ∃ v, vs[i]? = some v ∧ ((∃ d, s = Sl.val d ∧ Dat S w.F d v) ∨ ∃ (m : Nat) (a : Addr), s = Sl.lnk (k + m) ∧ pa[m]? = some a ∧ v = .ref a)
  par : ∀ (m : Nat) (p : Pst), ps[m]? = some p → ∃ (a : Addr) (g : List Addr), pa[m]? = some a ∧ fl[m]? = some g ∧ ((∃ l, (k + m, l) ∈ ls ∧ PsRep S w l a p g) ∨ ∃ ds, p = .own ds ∧ Own S w.F w.H a ds g)
  back : ∀ (j : Nat) (l : Loc), (j, l) ∈ ls → ∃ (m : Nat) (p : Pst) (a : Addr), j = k + m ∧ ps[m]? = some p ∧ pa[m]? = some a ∧ e.at l = some p ∧ LocA S σ l a ∧ fl[m]? = some (w.fp l)
  uniq : ∀ (j : Nat) (l l' : Loc), (j, l) ∈ ls → (j, l') ∈ ls → l = l'
  src : ∀ x ∈ fl.flatten, (∃ j l, (j, l) ∈ ls ∧ x ∈ w.fp l) ∨ x ∈ q
  nd : fl.flatten.Nodup
theorem PlRep.ps {l : Loc} {p : Pst} {g : List Addr} {v : V} (r : RvRep S σ w v (.loc l) q) (h : PlRep S σ w l p g) (hp : ∀ ds, p ≠ .frz ds) : ∃ a, v = .ref a ∧ LocA S σ l a ∧ PsRep S w l a p g := by
  cases p with
  | own ds =>
    obtain ⟨a, ra, o⟩ := h.own
    exact ⟨a, rvLoc ra.locA r, ra.locA, o⟩
  | lea ds =>
    cases l with
    | s i =>
      obtain ⟨e1, a, vs, e2, q1, q2, z⟩ := h
      have e3 : σ[i]? = some (some (.ref a)) := by
        cases qq : σ[i]? with
        | none => rw [qq] at e2; cases e2
        | some y => rw [qq] at e2; exact congrArg some e2
      exact ⟨a, rvLoc (l := .s i) e3 r, e3, e1, vs, q1, q2, z⟩
    | p k =>
      obtain ⟨a, ea, e1, vs, q1, q2, z⟩ := h
      exact ⟨a, rvLoc (l := .p k) ea r, ea, e1, vs, q1, q2, z⟩
  | frz ds => exact absurd rfl (hp ds)
theorem mkArgs_ok (Re : Rep S σ e w) : ∀ {rs : List Rv} {vs : List V} {q : List Addr} {k : Nat} {ss : List Sl} {ps : List Pst} {ls : List (Nat × Loc)}, RvReps S σ w vs rs q → q.Nodup → mkArgs e rs k = some (ss, ps, ls) → locsApart ls = true →
    ∃ pa fl, Handed S σ e w k vs ss ps ls q pa fl
  | [], vs, q, k, ss, ps, ls, h, nd, hm, ha => by
    obtain ⟨rfl, rfl⟩ := h
    cases hm
    exact ⟨[], [], rfl, rfl, rfl, fun i s h => by simp at h, fun m p h => by simp at h, fun j l h => by simp at h, fun j l l' h => by simp at h, fun x h => by simp at h, List.nodup_nil⟩
  | r :: rs, vs, q, k, ss, ps, ls, h, nd, hm, ha => by
    obtain ⟨v, ws, f, g, rfl, rfl, r1, r2⟩ := h
    have nd' := List.nodup_append.mp nd
    have val : ∀ {d : D} {ss' : List Sl} {ps' : List Pst} {ls' : List (Nat × Loc)}, mkArgs e rs k = some (ss', ps', ls') → Dat S w.F d v → locsApart ls' = true → ∃ pa fl, Handed S σ e w k (v :: ws) (.val d :: ss') ps' ls' (f ++ g) pa fl := fun {d ss' ps' ls'} h1 hd ha => by
      obtain ⟨pa, fl, Hd⟩ := mkArgs_ok Re r2 nd'.2.1 h1 ha
      refine ⟨pa, fl, by simp [Hd.lens], Hd.lenp, Hd.lenf, fun i s hs => ?_, Hd.par, Hd.back, Hd.uniq, fun x hx => (Hd.src x hx).imp_right fun z => List.mem_append_right _ z, Hd.nd⟩
      cases i with
      | zero =>
        simp at hs
        exact ⟨v, rfl, .inl ⟨d, hs.symm, hd⟩⟩
      | succ i =>
        simp at hs
        obtain ⟨u, hu, z⟩ := Hd.slot i s hs
        exact ⟨u, by simpa using hu, z⟩
    have link : ∀ {p : Pst} {a : Addr} {fp : List Addr} {ss' : List Sl} {ps' : List Pst} {ls' ls2 : List (Nat × Loc)}, mkArgs e rs (k + 1) = some (ss', ps', ls') → v = .ref a → locsApart ls' = true →
        ((ls2 = ls' ∧ (∃ ds, p = .own ds ∧ Own S w.F w.H a ds fp) ∧ ∀ x ∈ fp, x ∈ f) ∨ (∃ l, ls2 = (k, l) :: ls' ∧ e.at l = some p ∧ LocA S σ l a ∧ fp = w.fp l ∧ PsRep S w l a p fp ∧ ∀ j' l', (j', l') ∈ ls' → l' ≠ l)) → fp.Nodup →
        ∃ pa fl, Handed S σ e w k (v :: ws) (.lnk k :: ss') (p :: ps') ls2 (f ++ g) pa fl := fun {p a fp ss' ps' ls' ls2} h1 hv ha hls hnd => by
      obtain ⟨pa, fl, Hd⟩ := mkArgs_ok Re r2 nd'.2.1 h1 ha
      have more : ∀ z, z ∈ ls' → z ∈ ls2 := fun z hz => by
        rcases hls with ⟨e1, _⟩ | ⟨l, e1, _⟩
        · rw [e1]; exact hz
        · rw [e1]; exact List.mem_cons_of_mem _ hz
      refine ⟨a :: pa, fp :: fl, by simp [Hd.lens], by simp [Hd.lenp], by simp [Hd.lenf], fun i s hs => ?_, fun m p' hp' => ?_, fun j l hj => ?_, fun j l1 l2 hj1 hj2 => ?_, fun x hx => ?_, ?_⟩
      · cases i with
        | zero =>
          simp at hs
          exact ⟨v, rfl, .inr ⟨0, a, hs.symm, rfl, hv⟩⟩
        | succ i =>
          simp at hs
          obtain ⟨u, hu, z⟩ := Hd.slot i s hs
          refine ⟨u, by simpa using hu, z.imp_right fun ⟨m, b, e1, e2, e3⟩ => ⟨m + 1, b, ?_, by simpa using e2, e3⟩⟩
          rw [e1]; congr 1; omega
      · cases m with
        | zero =>
          simp at hp'
          subst hp'
          refine ⟨a, fp, rfl, rfl, ?_⟩
          rcases hls with ⟨_, z, _⟩ | ⟨l, e1, _, _, _, z, _⟩
          · exact .inr z
          · exact .inl ⟨l, by rw [e1]; simp, z⟩
        | succ m =>
          simp at hp'
          obtain ⟨b, g', e1, e2, e3⟩ := Hd.par m p' hp'
          exact ⟨b, g', by simpa using e1, by simpa using e2, e3.imp_left fun ⟨l, z1, z2⟩ => ⟨l, more _ (by rw [show k + (m + 1) = k + 1 + m by omega]; exact z1), z2⟩⟩
      · have cases2 : (j, l) ∈ ls' ∨ ((j, l) = (k, l) ∧ e.at l = some p ∧ LocA S σ l a ∧ fp = w.fp l) := by
          rcases hls with ⟨e1, _⟩ | ⟨l', e1, e2, e3, e4, _⟩
          · rw [e1] at hj; exact .inl hj
          · rw [e1] at hj
            rcases List.mem_cons.mp hj with z | z
            · cases z; exact .inr ⟨rfl, e2, e3, e4⟩
            · exact .inl z
        rcases cases2 with z | ⟨z, e1, e2, e3⟩
        · obtain ⟨m, p', b, e1, e2, e3, e4, e5, e6⟩ := Hd.back j l z
          exact ⟨m + 1, p', b, by omega, by simpa using e2, by simpa using e3, e4, e5, by simpa using e6⟩
        · cases z
          exact ⟨0, p, a, rfl, rfl, rfl, e1, e2, by rw [← e3]; rfl⟩
      · have far : ∀ l, (k, l) ∉ ls' := fun l z => by
          obtain ⟨m, p', b, e1, _⟩ := Hd.back k l z
          omega
        rcases hls with ⟨e1, _⟩ | ⟨l, e1, _⟩
        · rw [e1] at hj1 hj2
          exact Hd.uniq j l1 l2 hj1 hj2
        · rw [e1] at hj1 hj2
          rcases List.mem_cons.mp hj1 with z1 | z1 <;> rcases List.mem_cons.mp hj2 with z2 | z2
          · cases z1; cases z2; rfl
          · cases z1; exact absurd z2 (far l2)
          · cases z2; exact absurd z1 (far l1)
          · exact Hd.uniq j l1 l2 z1 z2
      · rw [List.flatten_cons] at hx
        rcases List.mem_append.mp hx with hx | hx
        · rcases hls with ⟨_, _, z⟩ | ⟨l, e1, e2, e3, e4, _⟩
          · exact .inr (List.mem_append_left _ (z x hx))
          · exact .inl ⟨k, l, by rw [e1]; simp, by rw [← e4]; exact hx⟩
        · rcases Hd.src x hx with ⟨j, l, z1, z2⟩ | z
          · exact .inl ⟨j, l, more _ z1, z2⟩
          · exact .inr (List.mem_append_right _ z)
      · rw [List.flatten_cons]
        refine List.nodup_append.mpr ⟨hnd, Hd.nd, fun x hx y hy z => ?_⟩
        subst z
        rcases hls with ⟨_, _, z⟩ | ⟨l, e1, e2, e3, e4, _, z3⟩
        · rcases Hd.src x hy with ⟨j', l', y1, y2⟩ | y
          · exact (r1.off x (z x hx)).2.1 ⟨l', y2⟩
          · exact nd'.2.2 x (z x hx) x y rfl
        · rw [e4] at hx
          rcases Hd.src x hy with ⟨j', l', y1, y2⟩ | y
          · exact z3 j' l' y1 (Re.dis l' l x y2 hx)
          · exact (r2.off x y).2.1 ⟨l, hx⟩
    cases r with
    | val d =>
      unfold mkArgs at hm
      cases h1 : mkArgs e rs k with
      | none => rw [h1] at hm; cases hm
      | some t =>
        obtain ⟨ss', ps', ls'⟩ := t
        rw [h1] at hm
        cases hm
        exact val h1 r1.2 ha
    | fresh ds =>
      unfold mkArgs at hm
      cases h1 : mkArgs e rs (k + 1) with
      | none => rw [h1] at hm; cases hm
      | some t =>
        obtain ⟨ss', ps', ls'⟩ := t
        rw [h1] at hm
        cases hm
        obtain ⟨a, rfl, o, nf, off⟩ := r1
        exact link (p := .own ds) (fp := f) h1 rfl ha (.inl ⟨rfl, ⟨ds, rfl, o⟩, fun x hx => hx⟩) nf
    | loc l =>
      unfold mkArgs at hm
      cases hl : e.at l with
      | none => rw [hl] at hm; cases hm
      | some p =>
        rw [hl] at hm
        have go : ∀ {ss' ps' ls'}, mkArgs e rs (k + 1) = some (ss', ps', ls') → (∀ ds, p ≠ .frz ds) → locsApart ((k, l) :: ls') = true → ∃ pa fl, Handed S σ e w k (v :: ws) (.lnk k :: ss') (p :: ps') ((k, l) :: ls') (f ++ g) pa fl := fun {ss' ps' ls'} h1 np ha => by
          have ha' : (decide (∀ q ∈ ls', q.2 ≠ l) && locsApart ls') = true := ha
          rw [Bool.and_eq_true, decide_eq_true_eq] at ha'
          obtain ⟨a, rfl, la, pr⟩ := (Re.at hl).ps r1 np
          exact link (fp := w.fp l) h1 rfl ha'.2 (.inr ⟨l, rfl, hl, la, rfl, pr, fun j' l' hj => ha'.1 (j', l') hj⟩) (Re.nd l)
        cases p with
        | frz ds =>
          simp only at hm
          cases h1 : mkArgs e rs k with
          | none => rw [h1] at hm; cases hm
          | some t =>
            obtain ⟨ss', ps', ls'⟩ := t
            rw [h1] at hm
            cases hm
            exact val h1 ((Re.at hl).frzDat r1) ha
        | own ds =>
          simp only at hm
          cases h1 : mkArgs e rs (k + 1) with
          | none => rw [h1] at hm; cases hm
          | some t =>
            obtain ⟨ss', ps', ls'⟩ := t
            rw [h1] at hm
            cases hm
            exact go h1 (fun _ z => by cases z) ha
        | lea ds =>
          simp only at hm
          cases h1 : mkArgs e rs (k + 1) with
          | none => rw [h1] at hm; cases hm
          | some t =>
            obtain ⟨ss', ps', ls'⟩ := t
            rw [h1] at hm
            cases hm
            exact go h1 (fun _ z => by cases z) ha

theorem flat_mem {fl : List (List Addr)} {x : Addr} {m : Nat} (h : x ∈ fl.getD m []) : x ∈ fl.flatten ∧ fl[m]? = some (fl.getD m []) := by
  cases q : fl[m]? with
  | none => rw [List.getD_eq_getElem?_getD, q] at h; simp at h
  | some g =>
    have e : fl.getD m [] = g := by rw [List.getD_eq_getElem?_getD, q]; rfl
    rw [e] at h ⊢
    exact ⟨List.mem_flatten.mpr ⟨g, List.mem_of_getElem? q, h⟩, rfl⟩
theorem flat_uniq : ∀ {fl : List (List Addr)} {m m' : Nat} {g g' : List Addr} {x : Addr}, fl.flatten.Nodup → fl[m]? = some g → fl[m']? = some g' → x ∈ g → x ∈ g' → m = m'
  | [], _, _, _, _, _, _, h, _, _, _ => by simp at h
  | f :: fl, 0, 0, _, _, _, _, _, _, _, _ => rfl
  | f :: fl, 0, m' + 1, g, g', x, nd, h, h', hx, hx' => by
    simp at h h'
    subst h
    rw [List.flatten_cons] at nd
    exact absurd rfl ((List.nodup_append.mp nd).2.2 x hx x (List.mem_flatten.mpr ⟨g', List.mem_of_getElem? h', hx'⟩))
  | f :: fl, m + 1, 0, g, g', x, nd, h, h', hx, hx' => by
    simp at h h'
    subst h'
    rw [List.flatten_cons] at nd
    exact absurd rfl ((List.nodup_append.mp nd).2.2 x hx' x (List.mem_flatten.mpr ⟨g, List.mem_of_getElem? h, hx⟩))
  | f :: fl, m + 1, m' + 1, g, g', x, nd, h, h', hx, hx' => by
    simp at h h'
    rw [List.flatten_cons] at nd
    rw [flat_uniq (List.nodup_append.mp nd).2.1 h h' hx hx']
theorem flat_nd : ∀ {fl : List (List Addr)} {m : Nat} {g : List Addr}, fl.flatten.Nodup → fl[m]? = some g → g.Nodup
  | [], _, _, _, h => by simp at h
  | f :: fl, 0, g, nd, h => by
    simp at h
    subst h
    rw [List.flatten_cons] at nd
    exact (List.nodup_append.mp nd).1
  | f :: fl, m + 1, g, nd, h => by
    simp at h
    rw [List.flatten_cons] at nd
    exact flat_nd (List.nodup_append.mp nd).2.1 h
theorem Rep.there (R : Rep S σ e w) {x : Addr} (h : w.has x) : ∃ o, w.H x = some o := by
  cases q : w.H x with
  | none => exact absurd h (R.nofp q)
  | some o => exact ⟨o, rfl⟩
/-- the place of a list handed in -/
def lkL : List (Nat × Loc) → Loc → Option Nat
  | [], _ => none
  | (k, l') :: r, l => if l' = l then some k else lkL r l
theorem lkL_cons (k : Nat) (l' : Loc) (r : List (Nat × Loc)) (l : Loc) : lkL ((k, l') :: r) l = if l' = l then some k else lkL r l := rfl
theorem lkL_mem : ∀ {ls : List (Nat × Loc)} {l : Loc} {k : Nat}, lkL ls l = some k → (k, l) ∈ ls
  | [], _, _, h => by cases h
  | (j, l') :: r, l, k, h => by
    unfold lkL at h
    split at h
    · rename_i z; cases h; rw [z]; exact List.mem_cons_self
    · exact List.mem_cons_of_mem _ (lkL_mem h)
theorem lkL_of : ∀ {ls : List (Nat × Loc)} {l : Loc} {k : Nat}, locsApart ls = true → (k, l) ∈ ls → lkL ls l = some k
  | [], _, _, _, h => by simp at h
  | (j, l') :: r, l, k, ha, h => by
    have ha' : (decide (∀ q ∈ r, q.2 ≠ l') && locsApart r) = true := ha
    rw [Bool.and_eq_true, decide_eq_true_eq] at ha'
    unfold lkL
    rcases List.mem_cons.mp h with z | z
    · cases z; rw [if_pos rfl]
    · rw [if_neg fun e => ha'.1 (k, l) z e.symm]
      exact lkL_of ha'.2 z
/-- the callee's world -/
abbrev inL (w : Wo) (ls : List (Nat × Loc)) : Addr → Option Loc := fun x => (w.lf x).map fun l => match lkL ls l with | some k => .p k | none => l
abbrev inW (w : Wo) (fl : List (List Addr)) (ls : List (Nat × Loc)) : Wo := ⟨w.F, w.H, fun l => match l with | .s _ => [] | .p m => fl.getD m [], inL w ls⟩
theorem inW_le {w : Wo} {fl : List (List Addr)} {ls : List (Nat × Loc)} {x : Addr} : (inW w fl ls).le x ↔ w.le x := by
  show inL w ls x ≠ none ↔ w.lf x ≠ none
  unfold inL
  cases w.lf x with
  | none => simp
  | some l => simp
theorem inW_has {w : Wo} {fl : List (List Addr)} {ls : List (Nat × Loc)} {x : Addr} : (inW w fl ls).has x ↔ x ∈ fl.flatten := by
  constructor
  · rintro ⟨l, hl⟩
    cases l with
    | s i => exact absurd (show x ∈ ([] : List Addr) from hl) (by simp)
    | p m => exact (flat_mem (show x ∈ fl.getD m [] from hl)).1
  · intro h
    obtain ⟨g, hg, hx⟩ := List.mem_flatten.mp h
    obtain ⟨m, hm⟩ := List.getElem?_of_mem hg
    exact ⟨.p m, by show x ∈ fl.getD m []; rw [List.getD_eq_getElem?_getD, hm]; exact hx⟩
theorem in_rep {rs : List Rv} {vs : List V} {ss : List Sl} {ps : List Pst} {ls : List (Nat × Loc)} {pa : List Addr} {fl : List (List Addr)} (Re : Rep S σ e w) (r : RvReps S σ w vs rs q) (Hd : Handed S σ e w 0 vs ss ps ls q pa fl) (ha : locsApart ls = true) :
    Rep (S.with pa) (vs.map some) ⟨ss, ps⟩ (inW w fl ls) := by
  have none : ∀ x ∈ fl.flatten, w.F x = none ∧ ¬ w.le x := fun x hx => by
    rcases Hd.src x hx with ⟨j, l, _, z⟩ | z
    · exact ⟨Re.off x ⟨l, z⟩, Re.ale x ⟨l, z⟩⟩
    · exact ⟨(r.off x z).1, (r.off x z).2.2⟩
  refine ⟨Re.sub, by simp [Hd.lens], Hd.lenp.symm, fun i s hs => ?_, fun i _ => rfl, fun m p hp => ?_, fun m hm => ?_, fun l => ?_, fun l l' x h1 h2 => ?_, fun x hx => (none x (inW_has.mp hx)).1, fun x hx z => (none x (inW_has.mp hx)).2 (inW_le.mp z), fun x z => Re.leh x (inW_le.mp z)⟩
  · obtain ⟨v, hv, z⟩ := Hd.slot i s hs
    have ej : ((vs.map some)[i]?).join = some v := by rw [List.getElem?_map, hv]; rfl
    rcases z with ⟨d, rfl, hd⟩ | ⟨m, a, rfl, ha, rfl⟩
    · exact ⟨rfl, v, ej, Dat.pa _ _ hd⟩
    · exact ⟨rfl, a, ej, by rw [Nat.zero_add]; exact ha⟩
  · obtain ⟨a, g, e1, e2, z⟩ := Hd.par m p hp
    refine ⟨a, e1, ?_⟩
    show PsRep (S.with pa) (inW w fl ls) (.p m) a p (fl.getD m [])
    have e3 : fl.getD m [] = g := by rw [List.getD_eq_getElem?_getD, e2]; rfl
    rw [e3]
    rcases z with ⟨l, hl, z⟩ | ⟨ds, rfl, z⟩
    · have z' := PsRep.pa (pz := pa) z
      cases p with
      | own ds => exact z'
      | lea ds =>
        obtain ⟨g1, us, q1, q2, q3⟩ := z'
        refine ⟨g1, us, q1, q2, ?_⟩
        show inL w ls a = some (.p m)
        unfold inL
        rw [q3]
        rw [Nat.zero_add] at hl
        simp [lkL_of ha hl]
      | frz ds => exact z'
    · exact Own.pa (S := S) z
  · show fl.getD m [] = []
    have : fl[m]? = Option.none := List.getElem?_eq_none_iff.mpr (by rw [Hd.lenf]; exact hm)
    rw [List.getD_eq_getElem?_getD, this]; rfl
  · cases l with
    | s i => exact List.nodup_nil
    | p m =>
      show (fl.getD m []).Nodup
      cases z : fl[m]? with
      | none => rw [List.getD_eq_getElem?_getD, z]; exact List.nodup_nil
      | some g =>
        rw [List.getD_eq_getElem?_getD, z]
        exact flat_nd Hd.nd z
  · cases l with
    | s i => exact absurd (show x ∈ ([] : List Addr) from h1) (by simp)
    | p m => cases l' with
      | s i => exact absurd (show x ∈ ([] : List Addr) from h2) (by simp)
      | p m' =>
        have a1 := flat_mem (show x ∈ fl.getD m [] from h1)
        have a2 := flat_mem (show x ∈ fl.getD m' [] from h2)
        rw [flat_uniq Hd.nd a1.2 a2.2 h1 h2]

theorem putBack_spec {ps' : List Pst} : ∀ {ls : List (Nat × Loc)} {e e2 : Env}, putBack e ps' ls = some e2 → locsApart ls = true → (∀ j l, (j, l) ∈ ls → ∃ p, e.at l = some p) →
    e2.sl.length = e.sl.length ∧ e2.ps.length = e.ps.length ∧
    (∀ i, e2.sl[i]? = match lkL ls (.s i) with | some k => (ps'[k]?).map Sl.ofP | none => e.sl[i]?) ∧
    (∀ i, e2.ps[i]? = match lkL ls (.p i) with | some k => ps'[k]? | none => e.ps[i]?) ∧
    (∀ j l, (j, l) ∈ ls → ∃ p p0, ps'[j]? = some p ∧ e.at l = some p0 ∧ backOk p0 p = true)
  | [], e, e2, h, _, _ => by
    cases h
    exact ⟨rfl, rfl, fun i => rfl, fun i => rfl, fun j l h => by simp at h⟩
  | (k, l) :: r, e, e2, h, ha, hat => by
    have ha' : (decide (∀ q ∈ r, q.2 ≠ l) && locsApart r) = true := ha
    rw [Bool.and_eq_true, decide_eq_true_eq] at ha'
    unfold putBack at h
    cases hp : ps'[k]? with
    | none => rw [hp] at h; cases h
    | some p =>
      rw [hp] at h
      obtain ⟨p0, hl0⟩ := hat k l List.mem_cons_self
      rw [hl0] at h
      simp only at h
      split at h
      case isFalse => cases h
      rename_i hok
      have hne : ∀ m, (∃ j, (j, m) ∈ r) → m ≠ l := fun m ⟨j, hj⟩ => ha'.1 (j, m) hj
      have hput : ∀ m, m ≠ l → (e.put l p).at m = e.at m := fun m nm => by
        cases m with
        | s i => cases l with
          | s i' => simp only [Env.at, Env.put]; rw [List.getElem?_set_ne (fun z => nm (by rw [z]))]
          | p k' => rfl
        | p i => cases l with
          | s i' => rfl
          | p k' => simp only [Env.at, Env.put]; rw [List.getElem?_set_ne (fun z => nm (by rw [z]))]
      have hat' : ∀ j m, (j, m) ∈ r → ∃ p', (e.put l p).at m = some p' := fun j m hj => by
        obtain ⟨p', q⟩ := hat j m (List.mem_cons_of_mem _ hj)
        exact ⟨p', (hput m (hne m ⟨j, hj⟩)).trans q⟩
      obtain ⟨l1, l2, s1, s2, s3⟩ := putBack_spec h ha'.2 hat'
      have no : lkL r l = none := by
        cases z : lkL r l with
        | none => rfl
        | some j => exact absurd rfl (ha'.1 (j, l) (lkL_mem z))
      refine ⟨l1.trans ?_, l2.trans ?_, fun i => ?_, fun i => ?_, fun j m hj => ?_⟩
      · cases l <;> simp [Env.put]
      · cases l <;> simp [Env.put]
      · rw [s1 i, lkL_cons]
        by_cases z : l = .s i
        · subst z
          rw [if_pos rfl, no]
          have hi : i < e.sl.length := by
            rcases Nat.lt_or_ge i e.sl.length with y | y
            · exact y
            · have : e.sl[i]? = none := List.getElem?_eq_none_iff.mpr y
              simp [Env.at, this] at hl0
          simp only [hp, Option.map_some]
          exact List.getElem?_set_self hi
        · rw [if_neg z]
          cases lkL r (.s i) with
          | some j => rfl
          | none =>
            cases l with
            | s i' => simp only [Env.put]; exact List.getElem?_set_ne fun y => z (by rw [y])
            | p k' => rfl
      · rw [s2 i, lkL_cons]
        by_cases z : l = .p i
        · subst z
          rw [if_pos rfl, no]
          have hi : i < e.ps.length := by
            rcases Nat.lt_or_ge i e.ps.length with y | y
            · exact y
            · have : e.ps[i]? = none := List.getElem?_eq_none_iff.mpr y
              simp [Env.at, this] at hl0
          simp only [hp]
          exact List.getElem?_set_self hi
        · rw [if_neg z]
          cases lkL r (.p i) with
          | some j => rfl
          | none =>
            cases l with
            | s i' => rfl
            | p k' => simp only [Env.put]; exact List.getElem?_set_ne fun y => z (by rw [y])
      · rcases List.mem_cons.mp hj with z | z
        · cases z; exact ⟨p, p0, hp, hl0, hok⟩
        · obtain ⟨p1, p2, h1, h2, h3⟩ := s3 j m z
          exact ⟨p1, p2, h1, by rw [← hput m (hne m ⟨j, z⟩)]; exact h2, h3⟩
/-- behind the call: the caller's world -/
abbrev outW (w w' : Wo) (ls : List (Nat × Loc)) : Wo := ⟨w'.F, w'.H, fun l => match lkL ls l with | some k => w'.fp (.p k) | none => w.fp l, w.lf⟩
theorem back_ok {rs : List Rv} {vs : List V} {ss : List Sl} {ps ps' : List Pst} {ls : List (Nat × Loc)} {pa : List Addr} {fl : List (List Addr)} {e2 : Env} (s0 : Step w0 w) (Re : Rep S σ e w) (r : RvReps S σ w vs rs q) (nw : New w0 q)
    (Hd : Handed S σ e w 0 vs ss ps ls q pa fl) (ha : locsApart ls = true) (st : Step (inW w fl ls) w') (R' : Rep (S.with pa) [] ⟨[], ps'⟩ w') (hb : putBack e ps' ls = some e2) :
    Step w0 (outW w w' ls) ∧ Rep S σ e2 (outW w w' ls) ∧ (∀ x, (outW w w' ls).has x → w'.has x ∨ (w.has x ∧ ¬ (inW w fl ls).has x)) ∧ ∀ x, w.le x → w'.le x := by
  have stay : ∀ l, lkL ls l = none → ∀ x ∈ w.fp l, ¬ (inW w fl ls).has x := fun l hl x hx z => by
    rcases Hd.src x (inW_has.mp z) with ⟨j, l', z1, z2⟩ | z
    · rw [Re.dis l l' x hx z2, lkL_of ha z1] at hl
      cases hl
    · exact (r.off x z).2.1 ⟨l, hx⟩
  have stayH : ∀ l, lkL ls l = none → ∀ x ∈ w.fp l, ∀ o, w.H x = some o → w'.H x = some o := fun l hl x hx o ho => st.b x o ho (stay l hl x hx)
  have has2 : ∀ x, (outW w w' ls).has x → w'.has x ∨ (w.has x ∧ ¬ (inW w fl ls).has x) := fun x ⟨l, hx⟩ => by
    have hx' : x ∈ (match lkL ls l with | some k => w'.fp (.p k) | none => w.fp l) := hx
    cases z : lkL ls l with
    | some k => rw [z] at hx'; exact .inl ⟨_, hx'⟩
    | none => rw [z] at hx'; exact .inr ⟨⟨l, hx'⟩, stay l z x hx'⟩
  have lea : ∀ x, w.le x → (∀ o, w.H x = some o → w'.H x = some o) := fun x hx o ho => st.b x o ho fun z => by
    rcases Hd.src x (inW_has.mp z) with ⟨j, l', z1, z2⟩ | z
    · exact Re.ale x ⟨l', z2⟩ hx
    · exact (r.off x z).2.2 hx
  have offIn : ∀ x o, w.H x = some o → ¬ w.has x → x ∉ q → ¬ (inW w fl ls).has x := fun x o ho hn hq z => by
    rcases Hd.src x (inW_has.mp z) with ⟨j, l', z1, z2⟩ | z
    · exact hn ⟨l', z2⟩
    · exact hq z
  obtain ⟨l1, l2, s1, s2, s3⟩ := putBack_spec hb ha fun j l hj => by
    obtain ⟨m, p, a, _, _, _, h, _⟩ := Hd.back j l hj
    exact ⟨p, h⟩
  have leW : ∀ x, w.le x → w'.le x := fun x z => by
    obtain ⟨l, hl⟩ := Option.ne_none_iff_exists'.mp (inW_le (fl := fl) (ls := ls) |>.mpr z)
    exact fun y => by rw [st.g x l hl] at y; cases y
  -- the lists handed in come back under the caller's places
  have come : ∀ {j l p a}, lkL ls l = some j → ps'[j]? = some p → LocA S σ l a → PsRep (S.with pa) w' (.p j) a p (w'.fp (.p j)) → PsRep S (outW w w' ls) l a p (w'.fp (.p j)) := fun {j l p a} hj hp la pr => by
    have pr' := PsRep.unpa pr
    cases p with
    | own ds => exact pr'
    | frz ds => exact pr'
    | lea ds =>
      obtain ⟨e1, us, q1, q2, z⟩ := pr'
      refine ⟨e1, us, q1, q2, ?_⟩
      obtain ⟨p1, p0, h1, h2, h3⟩ := s3 j l (lkL_mem hj)
      rw [hp] at h1
      cases h1
      cases p0 with
      | lea d0 =>
        have hR := Re.at h2
        cases l with
        | s i =>
          obtain ⟨_, b, _, f1, _, _, f2⟩ := hR
          have := LocA.join la
          rw [f1] at this
          cases this
          exact f2
        | p k =>
          obtain ⟨b, f1, _, _, _, _, f2⟩ := hR
          have la' : S.pa[k]? = some a := la
          rw [f1] at la'
          cases la'
          exact f2
      | own _ => cases h3
      | frz _ => cases h3
  have g2 : ∀ l, (outW w w' ls).fp l = match lkL ls l with | some k => w'.fp (.p k) | none => w.fp l := fun l => rfl
  have backA : ∀ {j l}, lkL ls l = some j → ∃ a, pa[j]? = some a ∧ LocA S σ l a := fun {j l} hj => by
    obtain ⟨m, p, a, e1, e2, e3, e4, e5, e6⟩ := Hd.back j l (lkL_mem hj)
    rw [Nat.zero_add] at e1
    subst e1
    exact ⟨a, e3, e5⟩
  have atL : ∀ {j l}, lkL ls l = some j → ∃ p, e.at l = some p := fun {j l} hj => by
    obtain ⟨m, p, a, _, _, _, h, _⟩ := Hd.back j l (lkL_mem hj)
    exact ⟨p, h⟩
  refine ⟨⟨s0.a.trans st.a, fun x o h n => ?_, fun x o h n z => ?_, fun x o h n z => ?_, fun x o h => ?_, fun x o h n z => s0.f x o h n z, fun x l z => s0.g x l z⟩, ⟨R'.sub, l1.trans Re.len, l2.trans Re.plen, fun i s hs => ?_, fun i hi => ?_, fun k p hp => ?_, fun k hk => ?_, fun l => ?_, fun l l' x h1 h2 => ?_, fun x hx => ?_, fun x hx z => ?_, fun x z => R'.leh x (leW x z)⟩, has2, leW⟩
  · have h1 := s0.b x o h n
    exact st.b x o h1 (offIn x o h1 (s0.c x o h n) fun z => n (nw x z o h))
  · have h1 := s0.b x o h n
    have h2 := s0.c x o h n
    have h3 := offIn x o h1 h2 fun z => n (nw x z o h)
    rcases has2 x z with y | y
    · exact st.c x o h1 h3 y
    · exact h2 y.1
  · have h1 := s0.b x o h n
    exact st.d x o h1 (offIn x o h1 (s0.c x o h n) fun z => n (nw x z o h)) (s0.d x o h n z)
  · obtain ⟨o', h'⟩ := s0.e x o h
    exact st.e x o' h'
  · rw [s1 i] at hs
    rw [g2]
    cases hj : lkL ls (.s i) with
    | some j =>
      have hs : (ps'[j]?).map Sl.ofP = some s := by rw [hj] at hs; exact hs
      show SlRep S (outW w w' ls) (.s i) (σ[i]?).join s (w'.fp (.p j))
      obtain ⟨a, ea, la⟩ := backA hj
      cases hp : ps'[j]? with
      | none => rw [hp] at hs; simp at hs
      | some p =>
        rw [hp] at hs
        have hs : s = Sl.ofP p := by simpa using hs.symm
        subst hs
        obtain ⟨b, eb, pr⟩ := R'.par j p hp
        rw [ea] at eb
        cases eb
        have pr' := come hj hp la pr
        have ej : (σ[i]?).join = some (V.ref a) := LocA.join la
        cases p with
        | own ds => exact ⟨a, ej, pr'⟩
        | lea ds =>
          obtain ⟨e1, us, q1, q2, z⟩ := pr'
          exact ⟨e1, a, us, ej, q1, q2, z⟩
        | frz ds => exact ⟨pr'.1, .ref a, ej, pr'.2⟩
    | none =>
      rw [hj] at hs
      have h := Re.slot i s hs
      cases s with
      | no => exact h
      | val d =>
        obtain ⟨e1, v, e2, rd⟩ := h
        exact ⟨e1, v, e2, Dat.mono st.a _ _ rd⟩
      | own ds =>
        obtain ⟨a, e1, o⟩ := h
        refine ⟨a, e1, o.mono st.a fun x hx => ?_⟩
        obtain ⟨us, hu⟩ := o.there x hx
        show w'.H x = w.H x
        rw [hu]; exact stayH _ hj x hx _ hu
      | lea ds =>
        obtain ⟨e1, a, us, e2, q1, q2, z⟩ := h
        exact ⟨e1, a, us, e2, lea a (fun y => by rw [z] at y; cases y) _ q1, q2.mono st.a, z⟩
      | lnk k => exact h
  · have hn : lkL ls (.s i) = none := by
      cases z : lkL ls (.s i) with
      | none => rfl
      | some j =>
        obtain ⟨p, hp⟩ := atL z
        have : e.sl[i]? = none := List.getElem?_eq_none_iff.mpr (by rw [← l1]; exact hi)
        simp [Env.at, this] at hp
    rw [g2, hn]
    exact Re.out i (by rw [← l1]; exact hi)
  · rw [s2 k] at hp
    rw [g2]
    cases hj : lkL ls (.p k) with
    | some j =>
      rw [hj] at hp
      obtain ⟨a, ea, la⟩ := backA hj
      obtain ⟨b, eb, pr⟩ := R'.par j p hp
      rw [ea] at eb
      cases eb
      exact ⟨a, la, come hj hp la pr⟩
    | none =>
      rw [hj] at hp
      obtain ⟨a, ea, h⟩ := Re.par k p hp
      refine ⟨a, ea, ?_⟩
      cases p with
      | own ds =>
        have o : Own S w.F w.H a ds (w.fp (.p k)) := h
        refine Own.mono (S := S) st.a (fun x hx => ?_) o
        obtain ⟨us, hu⟩ := o.there x hx
        show w'.H x = w.H x
        rw [hu]; exact stayH _ hj x hx _ hu
      | lea ds =>
        obtain ⟨e1, us, q1, q2, z⟩ := h
        exact ⟨e1, us, lea a (fun y => by rw [z] at y; cases y) _ q1, q2.mono st.a, z⟩
      | frz ds => exact ⟨h.1, Dat.mono st.a _ _ h.2⟩
  · have hn : lkL ls (.p k) = none := by
      cases z : lkL ls (.p k) with
      | none => rfl
      | some j =>
        obtain ⟨p, hp⟩ := atL z
        have : e.ps[k]? = none := List.getElem?_eq_none_iff.mpr (by rw [← l2]; exact hk)
        simp [Env.at, this] at hp
    rw [g2, hn]
    exact Re.pout k (by rw [← l2]; exact hk)
  · rw [g2]
    cases lkL ls l with
    | some k => exact R'.nd _
    | none => exact Re.nd l
  · rw [g2] at h1 h2
    cases hj : lkL ls l with
    | some j =>
      rw [hj] at h1
      cases hj' : lkL ls l' with
      | some j' =>
        rw [hj'] at h2
        have := R'.dis _ _ x h1 h2
        cases this
        exact Hd.uniq j l l' (lkL_mem hj) (lkL_mem hj')
      | none =>
        rw [hj'] at h2
        obtain ⟨o, ho⟩ := Re.there ⟨l', h2⟩
        exact absurd ⟨_, h1⟩ (st.c x o ho (stay l' hj' x h2))
    | none =>
      rw [hj] at h1
      cases hj' : lkL ls l' with
      | some j' =>
        rw [hj'] at h2
        obtain ⟨o, ho⟩ := Re.there ⟨l, h1⟩
        exact absurd ⟨_, h2⟩ (st.c x o ho (stay l hj x h1))
      | none =>
        rw [hj'] at h2
        exact Re.dis l l' x h1 h2
  · rcases has2 x hx with z | ⟨z1, z2⟩
    · exact R'.off x z
    · obtain ⟨o, ho⟩ := Re.there z1
      exact st.d x o ho z2 (Re.off x z1)
  · rcases has2 x hx with y | ⟨y1, y2⟩
    · exact R'.ale x y (leW x z)
    · obtain ⟨o, ho⟩ := Re.there y1
      exact Re.ale x y1 z
theorem fin_call {C : Ct} {f : String} {rs : List Rv} {vs : List V} {Q : VK} (s0 : Step w0 w) (Re : Rep S σ e w) (r : RvReps S σ w vs rs q) (nd : q.Nodup) (nw : New w0 q) (g : Good S W σ w0 (doCall C f rs e) (postR S σ w0 Q)) :
    spF S (C.call f) vs w.H Q (WE W σ) := by
  unfold doCall at g
  cases hm : mkArgs e rs 0 with
  | none => rw [hm] at g; exact g.elim
  | some t =>
    obtain ⟨ss, ps, ls⟩ := t
    rw [hm] at g
    simp only at g
    split at g
    · rename_i ha
      obtain ⟨pa, fl, Hd⟩ := mkArgs_ok Re r nd hm ha
      refine ⟨pa, ss, ps, inW w fl ls, rfl, Hd.lens, in_rep Re r Hd ha, fun s hs => ?_, ?_⟩
      · obtain ⟨i, hi⟩ := List.getElem?_of_mem hs
        obtain ⟨v, _, z⟩ := Hd.slot i s hi
        rcases z with ⟨d, z, _⟩ | ⟨m, a, z, _⟩
        · exact .inl ⟨d, z⟩
        · exact .inr ⟨_, z⟩
      · have res : ∀ {r : Rv} {ps' : List Pst} (_ : ∀ l, r ≠ .loc l) (_ : Good S W σ w0 (match putBack e ps' ls with | some e => .ok r e | none => .bad) (postR S σ w0 Q)) (v : V) (w' : Wo) (q' : List Addr), Step (inW w fl ls) w' → Rep (S.with pa) [] ⟨[], ps'⟩ w' → RvRep (S.with pa) [] w' v r q' → New (inW w fl ls) q' → Q v w'.H := fun {r0 ps'} nl g v w' q' st R' hr n' => by
          cases hb : putBack e ps' ls with
          | none => rw [hb] at g; exact g.elim
          | some e2 =>
            rw [hb] at g
            obtain ⟨s2, R2, has2, leW⟩ := back_ok s0 Re r nw Hd ha st R' hb
            have hr2 : RvRep S σ (outW w w' ls) v r0 q' := by
              cases r0 with
              | val d => exact ⟨hr.1, Dat.unpa _ _ hr.2⟩
              | fresh ds =>
                obtain ⟨a, e1, o, n, off⟩ := hr
                refine ⟨a, e1, o.unpa, n, fun x hx => ⟨(off x hx).1, fun z => ?_, fun z => (off x hx).2.2 (leW x z)⟩⟩
                rcases has2 x z with y | ⟨y1, y2⟩
                · exact (off x hx).2.1 y
                · obtain ⟨o', ho'⟩ := Re.there y1
                  exact y2 (n' x hx o' ho')
              | loc l => exact absurd rfl (nl l)
            refine g _ s2 R2 v q' hr2 fun x hx o ho => ?_
            obtain ⟨o', ho'⟩ := s0.e x o ho
            rcases Hd.src x (inW_has.mp (n' x hx o' ho')) with ⟨j, l, _, z⟩ | z
            · by_cases y : w0.has x
              · exact y
              · exact absurd ⟨l, z⟩ (s0.c x o ho y)
            · exact nw x z o ho
        cases hC : C.call f ss ps with
        | bad => rw [hC] at g; exact g.elim
        | ok r0 ps' =>
          rw [hC] at g
          cases r0 with
          | loc l => exact g.elim
          | val d => exact fun v w' q' => res (fun l z => by cases z) g v w' q'
          | fresh ds => exact fun v w' q' => res (fun l z => by cases z) g v w' q'
        | ex c d ps' =>
          rw [hC] at g
          simp only at g
          intro Ca dx w' u hc st R' hd du
          cases hb : putBack e ps' ls with
          | none => rw [hb] at g; exact g.elim
          | some e2 =>
            rw [hb] at g
            obtain ⟨s2, R2, has2, leW⟩ := back_ok s0 Re r nw Hd ha st R' hb
            exact g Ca dx (outW w w' ls) u hc s2 R2 hd (Dat.unpa _ _ du)
    · exact g.elim
end

/-! ### calls by name -/
section
variable {X : L2.Cx} {S : Se} {W : WX} {a b c : Expr} {ea eb ec : Env → R Rv} {pos p kpos : Pos} {es rest : List Expr} {eas : Env → R (List Rv)} {C : Ct} {f : String} {fa : Addr} {fd : FuncData} {ps : List Str} {k : Nat} {x : Str}
theorem s_call (F : FnOk X.prog X.w X.K X.mg X.base (L2.CX X.prog X.w) k fa fd ps (spF S (C.call f))) (hr : Room k X.A) (hg : Gl X x) (hm : X.mg x = some (.ref fa)) (hk : PySem.W.keepIn X.K (.ref fa) = true) (hb : Binds X.K fd ps []) (tk : Takes X W)
    (ha : PA X (a :: es) (tA S W eas)) (hdb : (x == ("__debug__" : Str)) = false) (he : starEach (a :: es) X.env = (false, eval a X.env) :: starEach es X.env) (hpl : (backTo pos (starEach es X.env)).any (·.1) = false) :
    PE X (.Call (.Name x p) (a :: es) [] pos) (tE S W fun e => (eas e).bind fun rs e => doCall C f rs e) :=
  PE.imp (pe_callS F hr hg hm hk hb (fun σ => passAt tk σ) ha hdb he hpl) fun σ H Q ⟨e, w, hw, R, g⟩ => tA.one hw R g fun vs rs q e w' s R' hr n nd g => fin_call s R' hr nd n g

/-- keywords: their values -/
theorem PK.imp {kws : List Keyword} {t t' : TA} (h : PK X kws t) (k : ∀ σ H Q, t' σ H Q → t σ H Q) : PK X kws t' := ⟨fun pos pins s σ H Q I z => h.run pos pins s σ H Q I (k σ H Q z)⟩
theorem s_knil : PK X [] (tA S W fun e => .ok [] e) := PK.imp pk_nil fun σ H Q ⟨e, w, hw, R, g⟩ => by
  subst hw
  exact g w (Step.refl w) R [] [] ⟨rfl, rfl⟩ (New.nil _) List.nodup_nil
theorem s_kcons {nm : Option Str} {kws : List Keyword} (ha : PE X a (tE S W ea)) (hr : PK X kws (tA S W eas)) : PK X (⟨nm, a, kpos⟩ :: kws) (tA S W fun e => (ea e).bind fun r e => (eas e).bind fun rs e => .ok (r :: rs) e) :=
  PK.imp (pk_cons ha hr) fun σ H Q ⟨e, w, hw, R, g⟩ => tE.one hw R g fun v r q e w1 s R1 hr1 n1 g => tA.on s R1 g fun vs rs q2 e w2 s2 s02 R2 hr2 n2 n12 nd g =>
    g w2 s02 R2 (v :: vs) (q ++ q2) ⟨v, vs, q, q2, rfl, rfl, hr1.step s2, hr2⟩ (mem_app_new n1 n2) (List.nodup_append.mpr ⟨hr1.nd, nd, fun a ha b hb z => by
      subst z
      obtain ⟨us, hu⟩ := hr1.there a ha
      exact (hr1.off a ha).2.1 (n12 a hb _ hu)⟩)
/-- how such a call binds: the positional values, then the keywords' values at the places js -/
structure KwB (K : PySem.W.Frag) (fd : FuncData) (ps ks : List Str) (n : Nat) (js : List Nat) : Prop where
  to : ∀ (s : Shared) (us ws : List Value), us.length = n → ws.length = ks.length → BindsTo s fd ⟨us, ks.zip ws⟩ (ps.zip (us ++ js.map fun j => ws.getD j .none))
  len : ps.length = n + js.length
  lt : ∀ j ∈ js, j < ks.length
theorem vals_getD {vs : List V} {us : List Value} (r : Vals vs us) {j : Nat} (h : j < vs.length) : RelV (vs.getD j .non) (us.getD j .none) := by
  have h1 : vs[j]? = some (vs.getD j .non) := by rw [List.getD_eq_getElem?_getD, List.getElem?_eq_getElem h]; rfl
  obtain ⟨u, hu, ru⟩ := r.get h1
  have : us.getD j .none = u := by rw [List.getD_eq_getElem?_getD, hu]; rfl
  rw [this]; exact ru
theorem vals_perm {vs : List V} {us : List Value} (r : Vals vs us) : ∀ {js : List Nat}, (∀ j ∈ js, j < vs.length) → Vals (js.map fun j => vs.getD j .non) (js.map fun j => us.getD j .none)
  | [], _ => .nil
  | j :: js, h => .cons (vals_getD r (h j (by simp))) (vals_perm r fun i hi => h i (by simp [hi]))
theorem run_fnKS {CX : CXT} {sp : Sp} {E : L2.St → XK} {ks : List Str} {n : Nat} {js : List Nat} {pins : List (Addr × Obj)} {σ : L2.St} {H : Hp} {s : Shared} {Q : VK} {us ws : List Value} {vs zs : List V} (F : FnOk X.prog X.w X.K X.mg X.base CX k fa fd ps sp) (hr : Room k X.A)
    (hb : KwB X.K fd ps ks n js) (hx : PassesAt CX X σ (E σ)) (I : Inv X pins σ H s) (r : Vals vs us) (rz : Vals zs ws) (hn : vs.length = n) (hz : zs.length = ks.length) (h : sp (vs ++ js.map fun j => zs.getD j .non) H Q (E σ)) :
    wpAny (model X.prog X.w) X.A (call (.ref fa) us (ks.zip ws)) (EP X pins σ Q) X.xe s := by
  have r2 : Vals (vs ++ js.map fun j => zs.getD j .non) (us ++ js.map fun j => ws.getD j .none) := r.append (vals_perm rz fun j hj => by rw [hz]; exact hb.lt j hj)
  have b := hb.to s us ws (r.length.symm.trans hn) (rz.length.symm.trans hz)
  refine wpAny_call (codeAny_mono (F.run X.A X.stack s H ⟨us, ks.zip ws⟩ _ _ Q (E σ) hr I.env0 b r2 h) fun r s' hq => ?_)
  cases r with
  | error e => exact hx pins H s e s' I hq
  | ok fl =>
    cases fl with
    | ret u => exact I.after hq
    | next => exact False.elim hq
    | brk => exact False.elim hq
    | cont => exact False.elim hq
def tCallKS (sp : Sp) (n m : Nat) (js : List Nat) (E : L2.St → XK) (t tk : TA) : TE := fun σ H Q => t σ H fun vs H1 => tk σ H1 fun zs H2 => vs.length = n ∧ zs.length = m ∧ sp (vs ++ js.map fun j => zs.getD j .non) H2 Q (E σ)
theorem pe_callKS {CX : CXT} {sp : Sp} {E : L2.St → XK} {ks : List Str} {n : Nat} {js : List Nat} {kws : List Keyword} {t tk : TA} (F : FnOk X.prog X.w X.K X.mg X.base CX k fa fd ps sp) (hr : Room k X.A) (hg : Gl X x) (hm : X.mg x = some (.ref fa)) (hk : PySem.W.keepIn X.K (.ref fa) = true)
    (hb : KwB X.K fd ps ks n js) (hx : ∀ σ, PassesAt CX X σ (E σ)) (ha : PA X (a :: es) t) (hkw : PK X kws tk) (hall : (backToKw pos (keywordEach kws X.env)).all (·.1.isSome) = true) (hks : (backToKw pos (keywordEach kws X.env)).filterMap (·.1) = ks)
    (hdb : (x == ("__debug__" : Str)) = false) (he : starEach (a :: es) X.env = (false, eval a X.env) :: starEach es X.env) (hpl : ((backTo pos (starEach (a :: es) X.env)).any (·.1) || (backToKw pos (keywordEach kws X.env)).any (·.1.isNone)) = false) :
    PE X (.Call (.Name x p) (a :: es) kws pos) (tCallKS sp n ks.length js E t tk) := by
  refine ⟨fun pins s σ H Q I h => ?_⟩
  refine wpAny_Call_Name_kw (ld_glob I hg hm ?_ hdb)
  refine PySem.W.callWith_KW (h₀ := X.base) I.ok.mod.kin hk hall (thn (ha.run pos pins s σ H _ I h) fun us s1 ⟨vs, H1, I1, r, q⟩ => ?_) hpl he
  refine thn (hkw.run pos pins s1 σ H1 _ I1 q) fun ws s2 ⟨zs, H2, I2, rz, hn, hz, q2⟩ => ⟨I2.kIn, ?_⟩
  rw [hks]
  exact run_fnKS F hr hb (hx σ) I2 r rz hn hz q2
theorem pe_callKS0 {CX : CXT} {sp : Sp} {E : L2.St → XK} {ks : List Str} {js : List Nat} {kws : List Keyword} {tk : TA} (F : FnOk X.prog X.w X.K X.mg X.base CX k fa fd ps sp) (hr : Room k X.A) (hg : Gl X x) (hm : X.mg x = some (.ref fa)) (hk : PySem.W.keepIn X.K (.ref fa) = true)
    (hb : KwB X.K fd ps ks 0 js) (hx : ∀ σ, PassesAt CX X σ (E σ)) (hkw : PK X kws tk) (hall : (backToKw pos (keywordEach kws X.env)).all (·.1.isSome) = true) (hks : (backToKw pos (keywordEach kws X.env)).filterMap (·.1) = ks)
    (hdb : (x == ("__debug__" : Str)) = false) (hpl : ((backTo pos (starEach [] X.env)).any (·.1) || (backToKw pos (keywordEach kws X.env)).any (·.1.isNone)) = false) :
    PE X (.Call (.Name x p) [] kws pos) (tCallKS sp 0 ks.length js E tNil tk) := by
  refine ⟨fun pins s σ H Q I h => ?_⟩
  refine wpAny_Call_Name_kw (ld_glob I hg hm ?_ hdb)
  refine PySem.W.callWith_KW0 (h₀ := X.base) I.ok.mod.kin hk hall (thn (hkw.run pos pins s σ H _ I h) fun ws s2 ⟨zs, H2, I2, rz, hn, hz, q2⟩ => ⟨I2.kIn, ?_⟩) hpl
  rw [hks]
  exact run_fnKS (us := []) (vs := []) F hr hb (hx σ) I2 .nil rz rfl hz q2
end
end Fp
/-! FpCall2: calls with keywords, isinstance. -/
namespace Fp
open PySem PySem.Spec PyProof.Rows L2
section
variable {S : Se} {W : WX} {σ : L2.St} {e e' : Env} {w w' w0 w1 w2 : Wo} {v : V} {r x y : Rv} {q q' : List Addr} {α β : Type}
theorem old_nil (h : RvRep S σ w v x q) (o : x.old = true) : q = [] := by
  cases x with
  | val d => exact h.1
  | fresh ds => cases o
  | loc l => cases l with
    | s i => exact h.1
    | p k => exact h.1
theorem olds : ∀ {ws : List Rv} {zs : List V} {q : List Addr}, RvReps S σ w zs ws q → ws.all Rv.old = true → q = [] ∧ ∀ j < ws.length, RvRep S σ w (zs.getD j .non) (ws.getD j (.val .non)) []
  | [], zs, q, h, _ => ⟨h.2, fun j hj => by simp at hj⟩
  | x :: ws, zs, q, h, o => by
    obtain ⟨v, us, f, g, rfl, rfl, r1, r2⟩ := h
    simp only [List.all_cons, Bool.and_eq_true] at o
    have e1 := old_nil r1 o.1
    obtain ⟨e2, r3⟩ := olds r2 o.2
    subst e1
    refine ⟨by rw [e2]; rfl, fun j hj => ?_⟩
    cases j with
    | zero => exact r1
    | succ j => exact r3 j (by simpa using hj)
theorem perm_reps {ws : List Rv} {zs : List V} (h : ∀ j < ws.length, RvRep S σ w (zs.getD j .non) (ws.getD j (.val .non)) []) : ∀ {js : List Nat}, (∀ j ∈ js, j < ws.length) → RvReps S σ w (js.map fun j => zs.getD j .non) (js.map fun j => ws.getD j (.val .non)) []
  | [], _ => ⟨rfl, rfl⟩
  | j :: js, k => ⟨_, _, [], [], rfl, rfl, h j (k j (by simp)), perm_reps h fun i hi => k i (by simp [hi])⟩
theorem RvReps.append : ∀ {rs ws : List Rv} {vs zs : List V} {q q' : List Addr}, RvReps S σ w vs rs q → RvReps S σ w zs ws q' → RvReps S σ w (vs ++ zs) (rs ++ ws) (q ++ q')
  | [], ws, vs, zs, q, q', h, h' => by rw [h.1, h.2]; exact h'
  | x :: rs, ws, vs, zs, q, q', h, h' => by
    obtain ⟨v, us, f, g, rfl, rfl, r1, r2⟩ := h
    exact ⟨v, us ++ zs, f, g ++ q', rfl, by rw [List.append_assoc], r1, r2.append h'⟩
theorem kw_fin {C : Ct} {f : String} {ps ks : List String} {js : List Nat} {m : Nat} {rs ws : List Rv} {vs zs : List V} {Q : VK} (hp : ∀ n, n = m → kwPerm ps ks n = some js) (s0 : Step w0 w) (Re : Rep S σ e w) (r : RvReps S σ w vs rs q) (nd : q.Nodup) (nw : New w0 q)
    (r' : RvReps S σ w zs ws q') (hm : rs.length = m) (g : Good S W σ w0 (match kwRvs ps ks rs ws with | some us => doCall C f us e | none => .bad) (postR S σ w0 Q)) :
    vs.length = m ∧ zs.length = ks.length ∧ spF S (C.call f) (vs ++ js.map fun j => zs.getD j .non) w.H Q (WE W σ) := by
  unfold kwRvs at g
  rw [hp _ hm] at g
  simp only at g
  split at g
  · rename_i us hus
    split at hus
    · rename_i hh
      cases hus
      obtain ⟨e1, r1⟩ := olds r' hh.2.1
      have r3 := r.append (perm_reps r1 (js := js) fun j hj => by rw [hh.1]; exact hh.2.2 j hj)
      rw [List.append_nil] at r3
      exact ⟨r.len.symm.trans hm, r'.len.symm.trans hh.1, fin_call s0 Re r3 nd nw g⟩
    · cases hus
  · exact g.elim
end
section
variable {X : L2.Cx} {S : Se} {W : WX} {a b c : Expr} {ea eb ec : Env → R Rv} {pos p kpos : Pos} {es rest : List Expr} {eas eks : Env → R (List Rv)} {C : Ct} {f : String} {fa : Addr} {fd : FuncData} {ps ks : List Str} {k : Nat} {x : Str} {kws : List Keyword} {n : Nat} {js : List Nat} {psS ksS : List String}
theorem s_callk (F : FnOk X.prog X.w X.K X.mg X.base (L2.CX X.prog X.w) k fa fd ps (spF S (C.call f))) (hr : Room k X.A) (hg : Gl X x) (hm : X.mg x = some (.ref fa)) (hk : PySem.W.keepIn X.K (.ref fa) = true) (hb : KwB X.K fd ps ks n js) (tk : Takes X W)
    (hl : ksS.length = ks.length) (hp : kwPerm psS ksS n = some js) (hn : ∀ e rs e', eas e = .ok rs e' → rs.length = n)
    (ha : PA X (a :: es) (tA S W eas)) (hkw : PK X kws (tA S W eks)) (hall : (backToKw pos (keywordEach kws X.env)).all (·.1.isSome) = true) (hks : (backToKw pos (keywordEach kws X.env)).filterMap (·.1) = ks)
    (hdb : (x == ("__debug__" : Str)) = false) (he : starEach (a :: es) X.env = (false, eval a X.env) :: starEach es X.env) (hpl : ((backTo pos (starEach (a :: es) X.env)).any (·.1) || (backToKw pos (keywordEach kws X.env)).any (·.1.isNone)) = false) :
    PE X (.Call (.Name x p) (a :: es) kws pos) (tE S W fun e => (eas e).bind fun rs e => (eks e).bind fun ws e => match kwRvs psS ksS rs ws with | some us => doCall C f us e | none => .bad) :=
  PE.imp (pe_callKS F hr hg hm hk hb (fun σ => passAt tk σ) ha hkw hall hks hdb he hpl) fun σ H Q ⟨e, w, hw, R, g⟩ => by
    subst hw
    refine ⟨e, w, rfl, R, ?_⟩
    have g : Good S W σ w ((eas e).bind fun rs e => (eks e).bind fun ws e => match kwRvs psS ksS rs ws with | some us => doCall C f us e | none => .bad) (postR S σ w Q) := g
    cases hea : eas e with
    | bad => rw [hea] at g; exact g.elim
    | ex c d e1 => rw [hea] at g; exact g
    | ok rs e1 =>
      rw [hea] at g
      intro w1 s1 R1 vs q hr1 n1 nd
      refine tA.on s1 R1 g fun zs ws q2 e2 w2 s2 s02 R2 hr2 n2 n12 nd2 g2 => ?_
      rw [← hl]
      exact kw_fin (fun m e => by rw [e]; exact hp) s02 R2 (hr1.step s2) nd n1 hr2 (hn _ _ _ hea) g2
theorem s_callk0 (F : FnOk X.prog X.w X.K X.mg X.base (L2.CX X.prog X.w) k fa fd ps (spF S (C.call f))) (hr : Room k X.A) (hg : Gl X x) (hm : X.mg x = some (.ref fa)) (hk : PySem.W.keepIn X.K (.ref fa) = true) (hb : KwB X.K fd ps ks 0 js) (tk : Takes X W)
    (hl : ksS.length = ks.length) (hp : kwPerm psS ksS 0 = some js)
    (hkw : PK X kws (tA S W eks)) (hall : (backToKw pos (keywordEach kws X.env)).all (·.1.isSome) = true) (hks : (backToKw pos (keywordEach kws X.env)).filterMap (·.1) = ks)
    (hdb : (x == ("__debug__" : Str)) = false) (hpl : ((backTo pos (starEach [] X.env)).any (·.1) || (backToKw pos (keywordEach kws X.env)).any (·.1.isNone)) = false) :
    PE X (.Call (.Name x p) [] kws pos) (tE S W fun e => (R.ok [] e).bind fun rs e => (eks e).bind fun ws e => match kwRvs psS ksS rs ws with | some us => doCall C f us e | none => .bad) :=
  PE.imp (pe_callKS0 F hr hg hm hk hb (fun σ => passAt tk σ) hkw hall hks hdb hpl) fun σ H Q ⟨e, w, hw, R, g⟩ => by
    subst hw
    have g : Good S W σ w ((eks e).bind fun ws e => match kwRvs psS ksS [] ws with | some us => doCall C f us e | none => .bad) (postR S σ w Q) := g
    refine tA.on (Step.refl w) R g fun zs ws q2 e2 w2 s2 s02 R2 hr2 n2 n12 nd2 g2 => ?_
    rw [← hl]
    exact kw_fin (vs := []) (rs := []) (q := []) (fun m e => by rw [e]; exact hp) s02 R2 ⟨rfl, rfl⟩ List.nodup_nil (New.nil _) hr2 rfl g2
end

/-! ### isinstance -/
/-- what a class is called, in the text and as a value -/
structure ClsOk (X : L2.Cx) (S : Se) (c : String) (cv : V) (cu : Value) : Prop where
  val : ClsV cv cu
/-- the value's type -/
def tyD (S : Se) : D → Option Value
  | .non => some (.type "NoneType")
  | .bl _ => some (.type "bool")
  | .int _ => some (.type "int")
  | .str _ => some (.type "str")
  | .tup _ => some (.type "tuple")
  | .lst _ => some (.type "list")
  | .dic _ _ => some (.type "dict")
  | _ => none
end Fp
/-! FpExpr5: constants, isinstance, chains, methods of lists. -/
namespace Fp
open PySem PySem.Spec PyProof.Rows L2
section
variable {S : Se} {W : WX} {σ : L2.St} {e e' : Env} {w w' w0 w1 w2 : Wo} {v v1 v2 : V} {r x y : Rv} {q q1 q2 : List Addr} {α β : Type} {l : Fp.Loc} {d : D}
/-- the value's type -/
theorem Red.ty (s : Same w.F w.H) {d : D} (h : Red S w d v) (t : String) (ht : (match d with | .non => "NoneType" | .bl _ => "bool" | .int _ => "int" | .str _ => "str" | .tup _ => "tuple" | .lst _ => "list" | .dic _ _ => "dict" | _ => "") = t) (hn : t ≠ "") : TyX S.K w.H v (.type t) := by
  subst ht
  cases d with
  | non => cases (show v = .non from h); exact .base .non
  | bl b => cases (show v = .bl b from h); exact .base (.bl b)
  | int i => cases (show v = .int i from h); exact .base (.int i)
  | str z => cases (show v = .str z from h); exact .base (.str z)
  | tup ds =>
    obtain ⟨a, vs, rfl, hq, _⟩ := h.tup s
    rcases hq with (hq | ⟨o, hq⟩) | ⟨o, its, n, h1, h2, _⟩
    · exact .base (.tup hq)
    · exact .fTuple hq
    · exact .kTuple h1 h2
  | lst ds =>
    obtain ⟨a, vs, rfl, hq, _⟩ := h.lst
    rcases hq with hq | ⟨o, hq⟩
    · exact .base (.lst hq)
    · exact .base (.frz hq)
  | dic ks vs =>
    obtain ⟨a, rfl, _, _, hq⟩ := h
    exact .base (.dK (s _ _ hq))
  | olst _ => exact absurd rfl hn
  | exc _ _ => exact absurd rfl hn
  | klst _ => exact absurd rfl hn
theorem isOne_cls {C : Ct} {d : D} {c : String} {b : Bool} (ho : isOne C d c = some b) : c = "int" ∨ c = "bool" ∨ c = "str" ∨ c = "tuple" ∨ c = "list" := by
  unfold isOne at ho
  split at ho
  · cases ho
  · cases ho
  · split at ho <;> first | (cases ho; done) | simp
theorem pureTy (s : Same w.F w.H) {d : D} (h : Red S w d v) : (∀ (C : Ct) (c : String), isOne C d c = none) ∨ ∃ t, TyX S.K w.H v t ∧ ∀ (C : Ct) (c : String) (b : Bool), isOne C d c = some b → PySem.W.kitOne S.K t (.type c) = some b := by
  have go : ∀ (t : String), TyX S.K w.H v (.type t) → (∀ (C : Ct) (c : String) (b : Bool), isOne C d c = some b → (c = "int" ∨ c = "bool" ∨ c = "str" ∨ c = "tuple" ∨ c = "list") → kitB t c = some b) → (∀ (C : Ct) (c : String), isOne C d c = none) ∨ ∃ t, TyX S.K w.H v t ∧ ∀ (C : Ct) (c : String) (b : Bool), isOne C d c = some b → PySem.W.kitOne S.K t (.type c) = some b :=
    fun t a b => .inr ⟨.type t, a, fun C c k ho => kit_ty (b C c k ho (isOne_cls ho))⟩
  cases d with
  | exc _ _ => exact .inl fun _ _ => rfl
  | klst _ => exact .inl fun _ _ => rfl
  | olst _ => exact h.elim
  | non => exact go "NoneType" (h.ty s _ rfl (by decide)) fun C c k ho hc => by rcases hc with rfl | rfl | rfl | rfl | rfl <;> cases ho <;> first | exact (show kitB _ _ = some true by decide +kernel) | exact (show kitB _ _ = some false by decide +kernel)
  | bl _ => exact go "bool" (h.ty s _ rfl (by decide)) fun C c k ho hc => by rcases hc with rfl | rfl | rfl | rfl | rfl <;> cases ho <;> first | exact (show kitB _ _ = some true by decide +kernel) | exact (show kitB _ _ = some false by decide +kernel)
  | int _ => exact go "int" (h.ty s _ rfl (by decide)) fun C c k ho hc => by rcases hc with rfl | rfl | rfl | rfl | rfl <;> cases ho <;> first | exact (show kitB _ _ = some true by decide +kernel) | exact (show kitB _ _ = some false by decide +kernel)
  | str _ => exact go "str" (h.ty s _ rfl (by decide)) fun C c k ho hc => by rcases hc with rfl | rfl | rfl | rfl | rfl <;> cases ho <;> first | exact (show kitB _ _ = some true by decide +kernel) | exact (show kitB _ _ = some false by decide +kernel)
  | tup _ => exact go "tuple" (h.ty s _ rfl (by decide)) fun C c k ho hc => by rcases hc with rfl | rfl | rfl | rfl | rfl <;> cases ho <;> first | exact (show kitB _ _ = some true by decide +kernel) | exact (show kitB _ _ = some false by decide +kernel)
  | lst _ => exact go "list" (h.ty s _ rfl (by decide)) fun C c k ho hc => by rcases hc with rfl | rfl | rfl | rfl | rfl <;> cases ho <;> first | exact (show kitB _ _ = some true by decide +kernel) | exact (show kitB _ _ = some false by decide +kernel)
  | dic _ _ => exact go "dict" (h.ty s _ rfl (by decide)) fun C c k ho hc => by rcases hc with rfl | rfl | rfl | rfl | rfl <;> cases ho <;> first | exact (show kitB _ _ = some true by decide +kernel) | exact (show kitB _ _ = some false by decide +kernel)
theorem kitAny_of {K : PySem.W.Frag} {t : Value} {C : Ct} {d : D} (h : ∀ (c : String) (b : Bool), isOne C d c = some b → PySem.W.kitOne K t (.type c) = some b) : ∀ {cs : List String} {b : Bool}, isAny C d cs = some b → PySem.W.kitAny K t (cs.map fun c => Value.type c) = some b
  | [], b, e => by cases e; rfl
  | c :: cs, b, e => by
    unfold isAny at e
    cases ho : isOne C d c with
    | none => rw [ho] at e; cases e
    | some k =>
      rw [ho] at e
      refine kitAny_cons (h c k ho) (fun z => ?_) (fun z => ?_)
      · subst z; exact kitAny_of h e
      · subst z; cases e; rfl
theorem fin_isi {C : Ct} {cs : List String} {Q : VK} (s0 : Step w0 w) (Re : Rep S σ e w) (rd : Red S w d v) (g : Good S W σ w0 (match isAny C d cs with | some b => .ok (.val (.bl b)) e | none => .bad) (postR S σ w0 Q)) (hne : cs ≠ []) :
    ∃ t b, TyX S.K w.H v t ∧ (∀ c k, isOne C d c = some k → PySem.W.kitOne S.K t (.type c) = some k) ∧ isAny C d cs = some b ∧ Q (.bl b) w.H := by
  cases hb : isAny C d cs with
  | none => rw [hb] at g; exact g.elim
  | some b =>
    rw [hb] at g
    have q := g.val s0 Re (v := .bl b) rfl
    rcases pureTy Re.sub rd with no | ⟨t, ht, k⟩
    · cases cs with
      | nil => exact absurd rfl hne
      | cons c cs =>
        unfold isAny at hb
        rw [no C c] at hb
        cases hb
    · exact ⟨t, b, ht, fun c k' => k C c k', rfl, q⟩
end

section
variable {X : L2.Cx} {S : Se} {W : WX} {a b c : Expr} {ea eb ec : Env → R Rv} {pos p pc pt : Pos} {es rest : List Expr} {eas : Env → R (List Rv)} {C : Ct}
theorem s_nev : PE X a (tE S W fun _ => .bad) := ⟨fun _ _ _ _ _ _ ⟨_, _, _, _, g⟩ => g.elim⟩
theorem Dat.free {F : Hp} {d : D} {v : V} (h : Dat S (fun _ => none) d v) : Dat S F d v := Dat.mono (fun _ _ z => by cases z) d v h
theorem s_glo {x : Str} {n : String} {v : V} {u : Value} {d : D} (hg : Gl X x) (hm : X.mg x = some u) (r : RelV v u) (hd : Dat S (fun _ => none) d v) (hdb : (x == ("__debug__" : Str)) = false) (hc : C.glo n = some d) :
    PE X (.Name x pos) (tE S W fun e => match C.glo n with | some d => .ok (.val d) e | none => .bad) :=
  PE.imp (pe_glob hg hm r hdb) fun σ H Q ⟨e, w, hw, R, g⟩ => by
    subst hw
    rw [hc] at g
    exact Good.val (S := S) (W := W) g (Step.refl w) R hd.free
theorem s_dic0 : PE X (.Dict [] [] pos) (tE S W fun e => .ok (.val (.dic [] [])) e) :=
  PE.imp pe_dnewK fun σ H Q ⟨e, w, hw, R, g⟩ => by
    subst hw
    intro p hp
    obtain ⟨R', s'⟩ := alloc_val R (o := .dK []) hp
    exact Good.val (S := S) (W := W) g s' R' (v := .ref p) ⟨p, rfl, rfl, rfl, upd_same⟩
/-- the classes' names, as a tuple's items -/
inductive ClsEs (X : L2.Cx) : List Expr → List String → Prop where
  | nil : ClsEs X [] []
  | cons {x : Str} {c : String} {p : Pos} {es : List Expr} {cs : List String} (hg : Gl X x) (hm : X.mg x = none) (hv : bootBuiltins x = some (.type c)) (hn : x ≠ "__name__") (hd : (x == ("__debug__" : Str)) = false)
      (hs : starEach (.Name x p :: es) X.env = (false, eval (.Name x p) X.env) :: starEach es X.env) (h : ClsEs X es cs) : ClsEs X (.Name x p :: es) (c :: cs)
theorem clsEs_pa {es : List Expr} {cs : List String} (h : ClsEs X es cs) : PA X es (fun _ H Q => Q (cs.map fun c => V.ty c) H) := by
  induction h with
  | nil => exact pa_nil
  | cons hg hm hv hn hd hs h ih => exact PA.imp (pa_cons (pe_bltn hg hm hv (v := V.ty _) rfl hn hd) ih hs) fun σ H Q z => z
theorem clsPair : ∀ (cs : List String), Paired ClsV (cs.map fun c => V.ty c) (cs.map fun c => Value.type c)
  | [] => .nil
  | c :: cs => .cons (.ty c) (clsPair cs)
theorem s_isi1 (hK : S.K = X.K) (ha : PE X a (tE S W ea)) {x : Str} {c : String} (hc : ClsEs X [.Name x pc] [c]) (hg : Gl X "isinstance") (hm : X.mg "isinstance" = none)
    (hs : starEach [a, .Name x pc] X.env = (false, eval a X.env) :: starEach [.Name x pc] X.env) (hpl : (backTo pos (starEach [.Name x pc] X.env)).any (·.1) = false) :
    PE X (.Call (.Name "isinstance" p) [a, .Name x pc] [] pos) (tE S W fun e => (ea e).bind fun x e => (e.peek x).bind fun d e => match isAny C d [c] with | some b => .ok (.val (.bl b)) e | none => .bad) :=
  PE.imp (pe_callB call_isi hg hm (by decide +kernel) (pa_cons ha (clsEs_pa hc) hs) (by decide) (by decide) hs hpl) fun σ H Q ⟨e, w, hw, R, g⟩ => tE.one hw R g fun v r q e w' s R' hr n g => by
    obtain ⟨w2, e2, d, hH, G, s2, R2, rd, g2⟩ := peek1 s R' hr n g
    obtain ⟨t, b, ht, hk, hb, qq⟩ := fin_isi s2 R2 rd g2 (by simp)
    rw [← hH, ← hK]
    have h1 : isOne C d c = some b := by
      unfold isAny at hb
      cases ho : isOne C d c with
      | none => rw [ho] at hb; cases hb
      | some k =>
        rw [ho] at hb
        cases k with
        | true => cases hb; rfl
        | false => cases hb; rfl
    exact ⟨v, .ty c, t, .type c, b, rfl, .ty c, ht, hk c b h1, qq⟩
theorem s_isiT (hK : S.K = X.K) (ha : PE X a (tE S W ea)) {cs : List String} {k : Nat} (hc : ClsEs X es cs) (hne : cs ≠ []) (hl : cs.length ≤ 1000) (hg : Gl X "isinstance") (hm : X.mg "isinstance" = none)
    (hs : starEach [a, .Tuple es k pt] X.env = (false, eval a X.env) :: starEach [.Tuple es k pt] X.env) (hs2 : starEach [.Tuple es k pt] X.env = (false, eval (.Tuple es k pt) X.env) :: starEach [] X.env) (hpl : (backTo pos (starEach [.Tuple es k pt] X.env)).any (·.1) = false) :
    PE X (.Call (.Name "isinstance" p) [a, .Tuple es k pt] [] pos) (tE S W fun e => (ea e).bind fun x e => (e.peek x).bind fun d e => match isAny C d cs with | some b => .ok (.val (.bl b)) e | none => .bad) :=
  PE.imp (pe_callB call_isiT hg hm (by decide +kernel) (pa_cons ha (pa_cons (pe_tup (clsEs_pa hc)) pa_nil hs2) hs) (by decide) (by decide) hs hpl) fun σ H Q ⟨e, w, hw, R, g⟩ => tE.one hw R g fun v r q e w' s R' hr n g => by
    obtain ⟨w2, e2, d, hH, G, s2, R2, rd, g2⟩ := peek1 s R' hr n g
    refine ⟨by rw [List.length_map, ← LIM_eq]; exact Nat.le_trans hl (by decide), fun pp hp => ?_⟩
    rw [← hH] at hp ⊢
    obtain ⟨R3, s3⟩ := alloc_val R2 (o := .tup (cs.map fun c => V.ty c)) hp
    have rd3 : Red S ⟨upd w2.F pp (.tup (cs.map fun c => V.ty c)), upd w2.H pp (.tup (cs.map fun c => V.ty c)), w2.fp, w2.lf⟩ d v := by
      cases d with
      | lst ds =>
        obtain ⟨a, vs, e1, q1, q2⟩ := rd
        exact ⟨a, vs, e1, rdSame (sameUpd hp) q1, q2.mono s3.a⟩
      | _ => exact Dat.mono s3.a _ _ rd
    obtain ⟨t, b, ht, hk, hb, qq⟩ := fin_isi (s2.trans s3) R3 rd3 g2 hne
    rw [← hK]
    exact ⟨v, pp, _, t, cs.map fun c => Value.type c, b, rfl, upd_same, clsPair cs, ht, kitAny_of hk hb, qq⟩
end
end Fp
/-! FpMeth: a place's own list is written; append, pop; chains. -/
namespace Fp
open PySem PySem.Spec PyProof.Rows L2
section
variable {S : Se} {W : WX} {σ : L2.St} {e e' : Env} {w w' w0 w1 w2 : Wo} {v v1 v2 : V} {r x y : Rv} {q q1 q2 : List Addr} {α β : Type} {l : Fp.Loc} {d : D}
theorem OwnIs.there2 {ds : List D} {vs : List V} {g : List Addr} {F H : Hp} (h : OwnIs S F H ds vs g) {a : Addr} (ha : H a = none) : a ∉ g := fun z => by
  obtain ⟨us, hu⟩ := h.there a z
  rw [ha] at hu; cases hu
/-- a place's own list is written -/
theorem own_write (Re : Rep S σ e w) (s0 : Step w0 w) {ds ds' : List D} {a : Addr} {vs vs' : List V} {g g' : List Addr} (hl : e.at l = some (.own ds)) (hH : w.H a = some (.lst vs)) (la : LocA S σ l a) (hfp : w.fp l = a :: g)
    (o' : OwnIs S w.F w.H ds' vs' g') (nd : g'.Nodup) (hg : ∀ x ∈ g', x ∈ g ∨ (w.F x = none ∧ ¬ w.has x ∧ ¬ w.le x)) (nw : New w0 g') :
    Step w0 ⟨w.F, upd w.H a (.lst vs'), updL w.fp l (a :: g'), w.lf⟩ ∧ Rep S σ (e.put l (.own ds')) ⟨w.F, upd w.H a (.lst vs'), updL w.fp l (a :: g'), w.lf⟩ := by
  have al : a ∈ w.fp l := by rw [hfp]; exact List.mem_cons_self
  have ah : w.has a := ⟨l, al⟩
  have nda : (a :: g).Nodup := by rw [← hfp]; exact Re.nd l
  have ag : a ∉ g' := fun z => (hg a z).elim (List.nodup_cons.mp nda).1 fun y => y.2.1 ah
  have hx : ∀ x, (∃ m, x ∈ updL w.fp l (a :: g') m) → w.has x ∨ x ∈ g' := fun x ⟨m, hm⟩ => by
    by_cases z : m = l
    · subst z
      rw [updL_same] at hm
      rcases List.mem_cons.mp hm with rfl | hm
      · exact .inl ah
      · exact .inr hm
    · rw [updL_ne z] at hm
      exact .inl ⟨m, hm⟩
  have ne : ∀ x o, w0.H x = some o → ¬ w0.has x → x ≠ a := fun x o h n z => s0.c x o h n (by rw [z]; exact ah)
  refine ⟨⟨s0.a, fun x o h n => ?_, fun x o h n z => ?_, fun x o h n z => s0.d x o h n z, fun x o h => ?_, fun x o h n z => s0.f x o h n z, fun x m z => s0.g x m z⟩, ?_⟩
  · show upd w.H a _ x = some o
    rw [upd_ne (ne x o h n)]
    exact s0.b x o h n
  · rcases hx x z with y | y
    · exact s0.c x o h n y
    · exact n (nw x y o h)
  · by_cases z : x = a
    · subst z
      exact ⟨_, upd_same⟩
    · obtain ⟨o2, h2⟩ := s0.e x o h
      exact ⟨o2, by show upd w.H a _ x = _; rw [upd_ne z]; exact h2⟩
  · have oo : OwnIs S w.F (upd w.H a (.lst vs')) ds' vs' g' := o'.mono (Same.refl _) fun x hx => upd_ne fun z => ag (by rw [← z]; exact hx)
    refine Re.upd l (.own ds') (.own ds) hl (Same.refl _) (fun b o z => ?_) (fun x o h n => ?_) (fun x h _ => Re.off x h) (fun x m _ z => z) (List.nodup_cons.mpr ⟨ag, nd⟩) (fun x h => ?_) (fun x h => ?_) (fun x h _ => Classical.not_not.mp (Re.ale x h)) (fun x z => ?_)
      (PlRep.mk_own la ⟨vs', g', upd_same, rfl, oo⟩)
    · have : b ≠ a := fun y => by rw [y, Re.off a ah] at z; cases z
      rw [upd_ne this]; exact Re.sub b o z
    · rw [upd_ne fun z => n (by rw [z]; exact al)]; exact h
    · rcases List.mem_cons.mp h with rfl | h
      · exact ⟨Re.off _ ah, Classical.not_not.mp (Re.ale _ ah)⟩
      · rcases hg x h with z | z
        · have : w.has x := ⟨l, by rw [hfp]; exact List.mem_cons_of_mem _ z⟩
          exact ⟨Re.off _ this, Classical.not_not.mp (Re.ale _ this)⟩
        · exact ⟨z.1, Classical.not_not.mp z.2.2⟩
    · rcases List.mem_cons.mp h with rfl | h
      · exact .inl al
      · rcases hg x h with z | z
        · exact .inl (by rw [hfp]; exact List.mem_cons_of_mem _ z)
        · exact .inr z.2.1
    · obtain ⟨o, ho⟩ := Re.leh x z
      by_cases y : x = a
      · subst y; exact ⟨_, upd_same⟩
      · exact ⟨o, by rw [upd_ne y]; exact ho⟩
/-- its address, items -/
theorem Rep.ownAt (Re : Rep S σ e w) {ds : List D} (hl : e.at l = some (.own ds)) : ∃ a vs g, w.H a = some (.lst vs) ∧ LocA S σ l a ∧ w.fp l = a :: g ∧ OwnIs S w.F w.H ds vs g ∧ g.Nodup ∧ (∀ x ∈ g, w.has x) ∧ a ∉ g := by
  obtain ⟨a, ra, vs, g, q, eg, os⟩ := (Re.at hl).own
  have nd := Re.nd l
  rw [eg] at nd
  exact ⟨a, vs, g, q, ra.locA, eg, os, (List.nodup_cons.mp nd).2, fun x hx => ⟨l, by rw [eg]; exact List.mem_cons_of_mem _ hx⟩, (List.nodup_cons.mp nd).1⟩
theorem Step.newHas (s0 : Step w0 w) {q : List Addr} (h : ∀ x ∈ q, w.has x) : New w0 q := fun x hx o ho => Classical.not_not.mp fun z => s0.c x o ho z (h x hx)
/-- an item is taken out: what it is -/
theorem OwnIs.take : ∀ {ds : List D} {vs : List V} {g : List Addr} {F H : Hp} {j : Nat} {d : D}, OwnIs S F H ds vs g → g.Nodup → ds[j]? = some d →
    ∃ v f g', vs[j]? = some v ∧ OwnI S F H d v f ∧ OwnIs S F H (ds.eraseIdx j) (vs.eraseIdx j) g' ∧ g'.Nodup ∧ (∀ x ∈ g', x ∈ g ∧ x ∉ f) ∧ ∀ x ∈ f, x ∈ g
  | [], _, _, _, _, _, _, _, _, e => by simp at e
  | x :: ds, vs, g, F, H, 0, d, h, nd, e => by
    obtain ⟨v, us, f, g1, rfl, rfl, t, r⟩ := h
    simp at e
    subst e
    have nd' := List.nodup_append.mp nd
    exact ⟨v, f, g1, rfl, t, r, nd'.2.1, fun y hy => ⟨List.mem_append_right _ hy, fun z => nd'.2.2 y z y hy rfl⟩, fun y hy => List.mem_append_left _ hy⟩
  | x :: ds, vs, g, F, H, j + 1, d, h, nd, e => by
    obtain ⟨v, us, f, g1, rfl, rfl, t, r⟩ := h
    simp at e
    have nd' := List.nodup_append.mp nd
    obtain ⟨u, f2, g2, e1, o2, r2, n2, k2, k3⟩ := OwnIs.take (j := j) r nd'.2.1 e
    refine ⟨u, f2, f ++ g2, by simpa using e1, o2, ⟨v, us.eraseIdx j, f, g2, rfl, rfl, t, r2⟩, List.nodup_append.mpr ⟨nd'.1, n2, fun a ha b hb z => nd'.2.2 a ha b (k2 b hb).1 z⟩, fun y hy => ?_, fun y hy => List.mem_append_right _ (k3 y hy)⟩
    rcases List.mem_append.mp hy with hy | hy
    · exact ⟨List.mem_append_left _ hy, fun z => nd'.2.2 y hy y (k3 y z) rfl⟩
    · exact ⟨List.mem_append_right _ (k2 y hy).1, (k2 y hy).2⟩
theorem eraseLast {α : Type} (xs : List α) : xs.eraseIdx (xs.length - 1) = xs.dropLast := by
  induction xs with
  | nil => rfl
  | cons a xs ih =>
    cases xs with
    | nil => rfl
    | cons b xs => 
      have := ih
      simp at this ⊢
      exact this
theorem fin_append (s0 : Step w0 w) (Re : Rep S σ e w) {rs : List Rv} {vs : List V} (r1 : RvRep S σ w v (.loc l) q1) (r2 : RvReps S σ w vs rs q) (nd : q.Nodup) (nw : New w0 q) {Q : VK}
    (g : Good S W σ w0 (opApp l rs e) (postR S σ w0 Q)) : rAppend v vs w.H Q := by
  unfold opApp at g
  match rs, r2 with
  | [], _ => exact g.elim
  | _ :: _ :: _, _ => exact g.elim
  | [r], ⟨u, us, f, g0, e1, e2, hr, h0, h1⟩ =>
    subst h0 h1 e1 e2
    simp only [List.append_nil] at nd nw
    simp only at g
    rcases item_nx (e := e) (x := r) with ⟨d, e1, h⟩ | h
    · rw [h, Fp.R.bind_ok] at g
      obtain ⟨w1, g1, R1, G, oi, sub, n1, off⟩ := item_ok Re hr h
      split at g
      · rename_i ds hl
        split at g
        · rename_i hlen
          obtain ⟨a, vs, gg, q1, la, hfp, os, n2, hh, ag⟩ := R1.ownAt hl
          have s1 := s0.gh G nw
          have dis : ∀ x ∈ gg, x ∉ g1 := fun x hx z => (off x z).2.1 (hh x hx)
          obtain ⟨s2, R2⟩ := own_write (g' := gg ++ (g1 ++ [])) (vs' := vs ++ [u]) (ds' := ds ++ [d]) R1 s1 hl q1 la hfp (os.app ⟨u, [], g1, [], rfl, rfl, oi, rfl, rfl⟩) (by rw [List.append_nil]; exact List.nodup_append.mpr ⟨n2, n1, fun x hx y hy z => dis x hx (z ▸ hy)⟩)
            (fun x hx => by
              rw [List.append_nil] at hx
              rcases List.mem_append.mp hx with hx | hx
              · exact .inl hx
              · exact .inr (off x hx)) (fun x hx => by
              rw [List.append_nil] at hx
              rcases List.mem_append.mp hx with hx | hx
              · exact s1.newHas hh x hx
              · exact nw x (sub x hx))
          rw [LIM_eq, os.len] at hlen
          refine ⟨a, vs, u, rvLoc la r1, rfl, by rw [← G.h]; exact q1, hlen, ?_⟩
          rw [← G.h]
          exact Good.val (S := S) (W := W) (v := .non) g s2 R2 rfl
        · exact g.elim
      · exact g.elim
    · rw [h] at g; exact g.elim
/-- an item goes: as a new list or as a value -/
theorem fin_take (s0 : Step w0 w) (Re : Rep S σ e w) {ds : List D} {j : Nat} {d : D} {Q : VK} (hl : e.at l = some (.own ds)) (hj : ds[j]? = some d) (r1 : RvRep S σ w v (.loc l) q1)
    (g : Good S W σ w0 (takeAt l ds j e) (postR S σ w0 Q)) :
    ∃ a vs y, v = .ref a ∧ w.H a = some (.lst vs) ∧ vs.length = ds.length ∧ vs[j]? = some y ∧ Q y (upd w.H a (.lst (vs.eraseIdx j))) := by
  unfold takeAt at g
  rw [hj] at g
  obtain ⟨a, vs, gg, q1, la, hfp, os, n2, hh, ag⟩ := Re.ownAt hl
  obtain ⟨y, f, g', hy, oi, os', n', k1, k2⟩ := os.take n2 hj
  obtain ⟨s2, R2⟩ := own_write (g' := g') Re s0 hl q1 la hfp os' n' (fun x hx => .inl (k1 x hx).1) (s0.newHas fun x hx => hh x (k1 x hx).1)
  refine ⟨a, vs, y, rvLoc la r1, q1, os.len.symm, hy, ?_⟩
  have vl : ∀ {d'}, Good S W σ w0 (.ok (.val d') (e.put l (.own (ds.eraseIdx j)))) (postR S σ w0 Q) → Dat S w.F d' y → Q y (upd w.H a (.lst (vs.eraseIdx j))) := fun g hd => g.val s2 R2 hd
  cases d with
  | olst xs =>
    obtain ⟨b, us, rfl, rfl, hb, du⟩ := oi
    have hbh : w.has b := hh b (k2 b (by simp))
    have ba : b ≠ a := fun z => ag (by rw [← z]; exact k2 b (by simp))
    refine g _ s2 R2 (.ref b) [b] ⟨b, rfl, ⟨us, [], by show upd w.H a _ b = _; rw [upd_ne ba]; exact hb, rfl, OwnIs.of_dats du⟩, by simp, fun x hx => ?_⟩ (s0.newHas fun x hx => by rw [List.mem_singleton.mp hx]; exact hbh)
    rw [List.mem_singleton.mp hx]
    refine ⟨Re.off b hbh, fun ⟨m, hm⟩ => ?_, Re.ale b hbh⟩
    have hm' : b ∈ updL w.fp l (a :: g') m := hm
    by_cases z : m = l
    · subst z
      rw [updL_same] at hm'
      rcases List.mem_cons.mp hm' with z | z
      · exact ba z
      · exact (k1 b z).2 (by simp)
    · rw [updL_ne z] at hm'
      exact z (Re.dis m l b hm' (by rw [hfp]; exact List.mem_cons_of_mem _ (k2 b (by simp))))
  | non => exact vl g oi.2
  | bl _ => exact vl g oi.2
  | int _ => exact vl g oi.2
  | str _ => exact vl g oi.2
  | tup _ => exact vl g oi.2
  | lst _ => exact vl g oi.2
  | dic _ _ => exact vl g oi.2
  | exc _ _ => exact vl g oi.2
  | klst _ => exact vl g oi.2
theorem fin_pop0 (s0 : Step w0 w) (Re : Rep S σ e w) (r1 : RvRep S σ w v (.loc l) q1) {Q : VK} (g : Good S W σ w0 (opPop l [] e) (postR S σ w0 Q)) : rPop v [] w.H Q := by
  unfold opPop at g
  split at g
  · rename_i ds hl
    simp only at g
    cases hj : ds[ds.length - 1]? with
    | none => unfold takeAt at g; rw [hj] at g; exact g.elim
    | some d =>
      obtain ⟨a, vs, y, e1, e2, e3, e4, q⟩ := fin_take s0 Re hl hj r1 g
      rw [← e3, eraseLast] at q
      exact ⟨a, vs, y, e1, rfl, e2, by rw [e3]; exact e4, q⟩
  · exact g.elim
theorem fin_pop1 (s0 : Step w0 w) (Re : Rep S σ e w) (r1 : RvRep S σ w v (.loc l) q1) {Q : VK} {i : Int} (g : Good S W σ w0 (opPop l [.val (.int i)] e) (postR S σ w0 Q)) : rPopAt v [.int i] w.H Q := by
  unfold opPop at g
  split at g
  · rename_i ds hl
    simp only at g
    split at g
    · rename_i hi
      cases hk : seqIndex? i ds.length with
      | none => rw [hk] at g; exact g.elim
      | some j =>
        rw [hk] at g
        simp only at g
        cases hj : ds[j]? with
        | none => unfold takeAt at g; rw [hj] at g; exact g.elim
        | some d =>
          obtain ⟨a, vs, y, e1, e2, e3, e4, q⟩ := fin_take s0 Re hl hj r1 g
          exact ⟨a, vs, i, j, y, e1, rfl, e2, hi.1, hi.2, by rw [e3]; exact hk, e4, q⟩
    · exact g.elim
  · exact g.elim
theorem Rep.isLst (Re : Rep S σ e w) (r1 : RvRep S σ w v x q) (h : e.isLst x = true) : tyV S.K "list" v w.H := by
  unfold Env.isLst at h
  split at h
  · rename_i l
    cases hl : e.at l with
    | none => rw [hl] at h; cases h
    | some p =>
      have hp := Re.at hl
      cases p with
      | own ds =>
        obtain ⟨a, vs, g, q1, la, _⟩ := Re.ownAt hl
        rw [rvLoc la r1]
        exact .inl ⟨rfl, vs, .inl (.inl q1)⟩
      | lea ds =>
        obtain ⟨a, vs, e1, h1, _⟩ := hp.rd Re.sub r1 (.inl rfl)
        rw [e1]
        exact .inl ⟨rfl, vs, .inl h1⟩
      | frz ds =>
        obtain ⟨a, vs, e1, h1, _⟩ := hp.rd Re.sub r1 (.inr rfl)
        rw [e1]
        exact .inl ⟨rfl, vs, .inl h1⟩
  · cases h
end
section
variable {X : L2.Cx} {S : Se} {W : WX} {a b c : Expr} {ea eb ec : Env → R Rv} {pos p apos pt : Pos} {es rest : List Expr} {eas : Env → R (List Rv)} {C : Ct}
theorem tA.len {σ : L2.St} {H : Hp} {w : Wo} {e : Env} : True := trivial
theorem s_append (hK : S.K = X.K) (ho : PE X a (tE S W ea)) (ha : PA X (b :: es) (tA S W eas))
    (hbase : attributeBase a "append" X.env (eval a X.env) = eval a X.env)
    (hfew : ((backTo pos (starEach (b :: es) X.env)).all (fun x => !x.1) && (backToKw pos (keywordEach [] X.env)).all (fun x => x.1.isSome) && decide ((b :: es).length + ([] : List Keyword).length + (if ([] : List Keyword).isEmpty then 0 else 1) < 30)) = true)
    (hline : (apos.endLine == pos.line) = true) (hs : starEach (b :: es) X.env = (false, eval b X.env) :: starEach es X.env) (hpl : (backTo pos (starEach es X.env)).any (·.1) = false) :
    PE X (.Call (.Attribute a "append" apos) (b :: es) [] pos) (tE S W fun e => (ea e).bind fun x e => if e.isLst x then (eas e).bind fun rs e => opMeth "append" x rs e else .bad) :=
  PE.imp (pe_bm PySem.F.plainAttrs_list PySem.F.slot_list_append PySem.F.type_list_append mt_append ho ha hbase hfew hline hs hpl) fun σ H Q ⟨e, w, hw, R, g⟩ => tE.one hw R g fun v r q e w' s R' hr n g => by
    by_cases hl : e.isLst r = true
    · rw [if_pos hl] at g
      refine ⟨by rw [← hK]; exact R'.isLst hr hl, tA.on s R' g fun vs rs q2 e w2 s2 s02 R2 hr2 n2 n12 nd g => ?_⟩
      cases r with
      | loc l => exact fin_append s02 R2 (hr.step s2) hr2 nd n2 g
      | val d => exact g.elim
      | fresh d => exact g.elim
    · rw [if_neg hl] at g
      exact g.elim
theorem s_pop1 (hK : S.K = X.K) (ho : PE X a (tE S W ea)) (ha : PA X (b :: es) (tA S W eas)) (hi : ∀ e rs e', eas e = .ok rs e' → ∃ r, rs = [r])
    (hbase : attributeBase a "pop" X.env (eval a X.env) = eval a X.env)
    (hfew : ((backTo pos (starEach (b :: es) X.env)).all (fun x => !x.1) && (backToKw pos (keywordEach [] X.env)).all (fun x => x.1.isSome) && decide ((b :: es).length + ([] : List Keyword).length + (if ([] : List Keyword).isEmpty then 0 else 1) < 30)) = true)
    (hline : (apos.endLine == pos.line) = true) (hs : starEach (b :: es) X.env = (false, eval b X.env) :: starEach es X.env) (hpl : (backTo pos (starEach es X.env)).any (·.1) = false) :
    PE X (.Call (.Attribute a "pop" apos) (b :: es) [] pos) (tE S W fun e => (ea e).bind fun x e => if e.isLst x then (eas e).bind fun rs e => opMeth "pop" x rs e else .bad) :=
  PE.imp (pe_bm PySem.F.plainAttrs_list PySem.F.slot_list_pop PySem.F.type_list_pop mt_popAt ho ha hbase hfew hline hs hpl) fun σ H Q ⟨e, w, hw, R, g⟩ => tE.one hw R g fun v r q e w' s R' hr n g => by
    by_cases hl : e.isLst r = true
    · rw [if_pos hl] at g
      refine ⟨by rw [← hK]; exact R'.isLst hr hl, ?_⟩
      have g : Good S W σ w ((eas e).bind fun rs e => opMeth "pop" r rs e) (postR S σ w Q) := g
      cases hea : eas e with
      | bad => rw [hea] at g; exact g.elim
      | ex c d e1 =>
        rw [hea] at g
        refine ⟨e, w', rfl, R', ?_⟩
        rw [hea]
        exact fun C dx w u ec t => g C dx w u ec (s.trans t)
      | ok rs e1 =>
        obtain ⟨r1, rfl⟩ := hi _ _ _ hea
        rw [hea] at g
        refine ⟨e, w', rfl, R', ?_⟩
        rw [hea]
        intro w2 s2 R2 vs q2 hr2 n2 nd
        have g : Good S W σ w (opMeth "pop" r [r1] e1) (postR S σ w Q) := g
        cases r with
        | loc l =>
          have g : Good S W σ w (opPop l [r1] e1) (postR S σ w Q) := g
          obtain ⟨u, us, f, g0, e1', e2', h1, h0, h0'⟩ := hr2
          subst h0 h0' e1' e2'
          cases r1 with
          | val d =>
            cases d with
            | int i =>
              obtain ⟨_, hi'⟩ := h1
              rw [show u = .int i from hi']
              exact fin_pop1 (s.trans s2) R2 (hr.step s2) g
            | _ =>
              unfold opPop at g
              split at g <;> exact g.elim
          | fresh d =>
            unfold opPop at g
            split at g <;> exact g.elim
          | loc d =>
            unfold opPop at g
            split at g <;> exact g.elim
        | val d => exact g.elim
        | fresh d => exact g.elim
    · rw [if_neg hl] at g
      exact g.elim
theorem s_pop0 (hK : S.K = X.K) (ho : PE X a (tE S W ea)) (hbase : attributeBase a "pop" X.env (eval a X.env) = eval a X.env) (hline : (apos.endLine == pos.line) = true) :
    PE X (.Call (.Attribute a "pop" apos) [] [] pos) (tE S W fun e => (ea e).bind fun x e => if e.isLst x then (R.ok [] e).bind fun rs e => opMeth "pop" x rs e else .bad) :=
  PE.imp (pe_bm0 PySem.F.plainAttrs_list PySem.F.slot_list_pop PySem.F.type_list_pop mt_pop ho hbase hline) fun σ H Q ⟨e, w, hw, R, g⟩ => tE.one hw R g fun v r q e w' s R' hr n g => by
    by_cases hl : e.isLst r = true
    · rw [if_pos hl] at g
      refine ⟨by rw [← hK]; exact R'.isLst hr hl, ?_⟩
      cases r with
      | loc l => exact fin_pop0 s R' hr g
      | val d => exact g.elim
      | fresh d => exact g.elim
    · rw [if_neg hl] at g
      exact g.elim
/-- a op1 b op2 c -/
theorem s_chain (hK : S.K = X.K) (hu : X.A.units + 65 < cLine) (o o' : Cop) (ha : PE X a (tE S W ea)) (hb : PE X b (tE S W eb)) (hc : PE X c (tE S W ec)) (hm : lastMarks [copOf o, copOf o'] [b, c] = false) :
    PE X (.Compare a [copOf o, copOf o'] [b, c] pos) (tE S W fun e => ((ea e).bind fun x e => (eb e).bind fun y e => match x, y with
    | .val (.int i), .val (.int j) => match cmpI o i j with
      | some t => if t then (ec e).bind fun z e => opCmp o' (.val (.int j)) z e else .ok false e
      | none => .bad
    | _, _ => .bad).blV) :=
  PE.imp (pe_chain (op_cop hu o) (op_cop hu o') ha hb hc hm) fun σ H Q ⟨e, w, hw, R, g⟩ => by
    refine tE.two (P := fun v1 v2 H2 => rCop X.K o v1 v2 H2 fun z H3 => ∃ k, z = .bl k ∧ (if k = true then tE S W ec σ H3 fun w' H4 => rCop X.K o' v2 w' H4 Q else Q (.bl false) H3)) (p := fun _ b e w => Q (.bl b) w.H) ⟨e, w, hw, R, g.blV⟩ fun w0 w e x y v1 v2 q1 q2 s R r1 r2 ap n1 n2 g => ?_
    split at g
    · rename_i i j
      obtain ⟨_, h1⟩ := r1
      obtain ⟨_, h2⟩ := r2
      cases hk : cmpI o i j with
      | none => rw [hk] at g; exact g.elim
      | some t =>
        rw [hk] at g
        refine .inl ⟨i, j, t, h1, h2, hk, t, rfl, ?_⟩
        cases t with
        | false => exact g w s R
        | true =>
          simp only [if_true] at g ⊢
          refine tE.on s R g fun v3 z q3 e3 w3 s3 s03 R3 r3 n3 n23 g3 => ?_
          rw [← hK]
          exact fin_cmp s03 R3 (x := .val (.int j)) (q1 := []) ⟨rfl, h2⟩ r3 (fun _ h => by simp at h) (New.nil _) n3 g3
    · exact g.elim
end
end Fp
/-! FpIter: enumerate over a tuple. -/
namespace Fp
open PySem PySem.Spec PyProof.Rows L2
theorem enumNew1 {v : Value} {o : Obj} {P : Heap → Prop} (B : Begins v o P) : Meets (Builtin.«enumerate.__new__» ⟨[.type "enumerate", v], []⟩) (fun _ G s => P s.heap ∧
    G (.ok (.ret (.ref (s.heap.push o).objs.size))) { s with heap := (s.heap.push o).push { cls := .type "enumerate", data := .fields #[.none, .bool false, .ref s.heap.objs.size, rawInt 0, .none, .none] } }) :=
  .of_wp fun pg wd Ar G sh hyp => by
    obtain ⟨hp, g, d, tk, os⟩ := sh; obtain ⟨hP, hyp⟩ := hyp
    have sb := sub_enumerate
    have go : ∀ {A' : Around} {E : Value → Shared → Prop} {Q : Value → Shared → Prop}, Q (.ref hp.objs.size) ⟨hp.push o, g, d, tk, os⟩ → wpAny (model pg wd) A' (pyIter v) Q E ⟨hp, g, d, tk, os⟩ := fun q => B.iter pg wd _ _ ⟨hp, g, d, tk, os⟩ _ hP q
    wp_walk using go
    refine wpAny_stack_any fun _ => wpAny_pure ?_
    split
    · rename_i c _ _ _ _ _
      cases (c == Value.type "enumerate") <;> (wp_walk using go; exact ⟨_, rfl, hyp⟩)
    · wp_walk using go; exact ⟨_, rfl, hyp⟩
theorem enumBegin {prog : Program} {w : World} {A : Around} {E : Value → Shared → Prop} {s : Shared} {v : Value} {o : Obj} {P : Heap → Prop} {Q : Value → Shared → Prop} (B : Begins v o P) (hP : P s.heap)
    (h : ∀ h', IsEnum h' (s.heap.objs.size + 1) s.heap.objs.size 0 .none → h'.get? s.heap.objs.size = some o → (∀ b o', s.heap.get? b = some o' → h'.get? b = some o') → Q (.ref (s.heap.objs.size + 1)) { s with heap := h' }) :
    wpAny (model prog w) A (call (.type "enumerate") [v]) Q E s := by
  refine callType_new F.called_enumerate (by decide) (F.typeCall_enumerate_1 _) (F.newCall_enumerate_1 _) (fun obj => F.args_object_init_2 obj _) F.entry_enumerate_new (enumNew1 B) ⟨hP, ?_⟩
  have sz : (s.heap.push o).objs.size = s.heap.objs.size + 1 := Heap.size_push ..
  have at_ := Heap.get?_push_size (s.heap.push o) (o := { cls := .type "enumerate", data := .fields #[.none, .bool false, .ref s.heap.objs.size, rawInt 0, .none, .none] }) rfl
  rw [sz] at at_
  show _ ∧ _
  rw [sz]
  exact ⟨⟨_, at_, rfl⟩, h _ at_ (Heap.get?_push_of_some _ (Heap.get?_push_size _ B.free)) fun b o' x => Heap.get?_push_of_some _ (Heap.get?_push_of_some _ x)⟩
/-- the tuple at a, each item in a new pair -/
def IteT (K : PySem.W.Frag) (a : Addr) : It :=
  ⟨fun i H => ∃ (xs : List V) (x : V), SqT K H a xs ∧ xs[i]? = some x, fun i H v H' => ∃ T x, v = .ref T ∧ H T = none ∧ H' = upd H T (.tup [.int (i : Nat), x]) ∧ ∀ xs, SqT K H a xs → xs[i]? = some x, fun i H => ∃ xs : List V, SqT K H a xs ∧ xs.length ≤ i⟩
theorem turnEnumT {P : Program} {w : World} {K : PySem.W.Frag} {elts : List Expr} {kk : Nat} {tpos : Pos} (a e it : Addr) :
    Turn P w K (.Tuple elts kk tpos) (IteT K a) [e, it] e (fun i h => (∃ old, IsEnum h e it ((i : Nat) : Int) old) ∧ h.IsTupleIter it a i ∧ e ≠ it) where
  mem := by simp
  obj := fun i h st b hb => by
    obtain ⟨⟨old, he⟩, ⟨o, ho, hc, hd⟩, _⟩ := st
    rcases (show b = e ∨ b = it by simpa using hb) with z | z
    · rw [z]; exact ⟨_, he, fun v q => nomatch q⟩
    · exact ⟨o, by rw [z]; exact ho, fun v q => by rw [hd] at q; cases q⟩
  keep := fun i h h' st k => let ⟨⟨old, he⟩, hi, hne⟩ := st; ⟨⟨old, k e (by simp) _ he⟩, hi.at fun o q => k it (by simp) o q, hne⟩
  item := by
    intro X hP hw hK hc i pins s σ H E I hf st hg
    subst hP hw hK
    obtain ⟨⟨old, he⟩, hit, hne⟩ := st
    obtain ⟨xs, x, hq, hx⟩ := hg
    obtain ⟨its, rv, p, hz⟩ := I.tuple hq
    obtain ⟨u, hu, ru⟩ := rv.get hx
    have hel : e < s.heap.objs.size := Heap.lt_size he
    have hil : it < s.heap.objs.size := by obtain ⟨_, q, _⟩ := hit; exact Heap.lt_size q
    have hT0 : s.heap.IsTuple a its.toArray := p
    have ai : a ≠ it := fun z => by
      obtain ⟨o1, h1, c1, _⟩ := hT0
      obtain ⟨o2, h2, c2, _⟩ := hit
      rw [z, h2] at h1; cases h1; rw [c2] at c1; exact absurd c1 (by decide)
    have ea : e ≠ a := fun z => by
      obtain ⟨o1, h1, c1, _⟩ := hT0
      have he' : s.heap.get? e = some _ := he
      rw [z, h1] at he'; cases he'; exact absurd (show Value.type "enumerate" = Value.type "tuple" from c1) (by decide)
    have hlt : i < its.toArray.size := by
      have := (List.getElem?_eq_some_iff.mp hu).1
      simpa using this
    refine wpAny_pyNext_enum_itemD (Draws.tuple (prog := X.prog) (w := X.w) (A := X.A.in1) (show X.A.in1.handled = none from I.ok.hd hc) it a ai its.toArray) he ⟨hit, hT0⟩ hlt hne (by simp [hne, ea]) fun x' h' tk hPx ho ⟨hit', _⟩ hT hsz hk => ?_
    have ex : x' = u := by
      have q : its.toArray[i]? = some x' := hPx
      have q2 : its.toArray[i]? = some u := by simpa using hu
      rw [q2] at q; cases q; rfl
    subst ex
    refine ⟨_, rfl, wpAny_letOwnedTupleGo_enum (s := { s with heap := h', toks := tk + 1 }) ho fun h'' he' sb => ?_⟩
    have hT2 : h''.get? s.heap.objs.size = some { cls := .type "tuple", data := .seq #[.int i tk, x'] } := (sb.2 _ (Nat.ne_of_gt hel)).trans hT
    have new : ObjOk X.prog X.w (upd H s.heap.objs.size (.tup [.int (i : Nat), x])) h'' s.heap.objs.size (.tup [.int (i : Nat), x]) :=
      ⟨by show 2 ≤ sizeLine; decide, [.int i tk, x'], .cons ⟨_, rfl⟩ (.cons ru .nil), ⟨_, hT2, rfl, _, rfl⟩⟩
    have I1 : Inv X pins σ (upd H s.heap.objs.size (.tup [.int (i : Nat), x])) { s with heap := h'', toks := tk + 1 } :=
      I.turnedNew (ch := [e, it]) (fun b ob hb q => (sb.2 b (fun z => hb (by simp [z]))).trans (hk b ob (fun z => hb (by simp [z])) (fun z => hb (by simp [z])) q)) hf (Nat.le_refl _) new
    refine ⟨.ref s.heap.objs.size, _, I1, rfl, ⟨_, x, rfl, I.hok.fresh (Nat.le_refl _), rfl, fun ys hy => by rw [I.tuple_inj hy hq]; exact hx⟩, ⟨⟨x', ?_⟩, hit'.at fun o q => (sb.2 it (Ne.symm hne)).trans q, hne⟩, fun b hb => ?_⟩
    · rw [show ((i + 1 : Nat) : Int) = (i : Int) + 1 by omega]; exact he'
    · have hb' : b < s.heap.objs.size := by
        rcases (show b = e ∨ b = it by simpa using hb) with z | z
        · rw [z]; exact hel
        · rw [z]; exact hil
      rw [upd_ne (Nat.ne_of_lt hb')]
      exact (hf b hb).1
  done := by
    intro X hP hw hK hc i pins s σ H E I hf st hg
    subst hP hw hK
    obtain ⟨⟨old, he⟩, hit, hne⟩ := st
    obtain ⟨xs, hq, hx⟩ := hg
    obtain ⟨its, rv, p, hz⟩ := I.tuple hq
    obtain ⟨f0, f1, f2, f3, f4, f5⟩ := hf it (by simp)
    have hl := rv.length
    have hT0 : s.heap.IsTuple a its.toArray := p
    have hT : s.TypeIs (.ref e) "enumerate" := ⟨_, he, rfl⟩
    unfold pyNext
    refine wpAny_bind (wpAny_attempt (wpAny_callSpecial?_slot (name := Str.ofString "__next__") hT F.slot_enumerate_next (wpAny_call_entry F.slot_enumerate_next hT F.entry_enumerate_next ?_ (F.args_enumerate_next_1 _))))
    show wpAny _ _ (field (.ref e) 2 >>= _) _ _ _
    refine wpAny_bind (wpAny_field he rfl (x := .ref it) rfl ?_)
    refine wpAny_bind (wpAny_nextOf_tuple_end (show X.A.in1.handled = none from I.ok.hd hc) hit hT0 (by simp; omega) fun h' y hx' ⟨o, ho, hcl⟩ => ?_)
    refine wpAny_bind (wpAny_isInstance (T := "StopIteration") (b := true) ⟨o, ho, hcl⟩ isSubtype_stop ?_)
    exact wpAny_pure ⟨rfl, I.turned (t' := s.toks) (fun b o hb q => hx' b o hb q) f0 f1 f3 f4 f5⟩
  self := fun A i s Q E st h => let ⟨⟨_, he⟩, _⟩ := st; wpAny_pyIter_enum he h
/-- enumerate over a list or a tuple -/
def iEnumA (K : PySem.W.Frag) (ta : TA) : TI := fun σ H R => ta σ H fun vs H1 => ∃ a xs, vs = [.ref a] ∧ ((SqL K H1 a xs ∧ R (Ite K a) H1) ∨ (SqT K H1 a xs ∧ R (IteT K a) H1))
theorem pi_enumA {X : Cx} {e : Expr} {ta : TA} {p pos tpos : Pos} {elts : List Expr} {kk : Nat} (hg : Gl X "enumerate") (hm : X.mg "enumerate" = none) (ha : PA X [e] ta) (hs : starEach [e] X.env = [(false, eval e X.env)]) :
    PI X (.Tuple elts kk tpos) (.Call (.Name "enumerate" p) [e] [] pos) (iEnumA X.K ta) := by
  refine ⟨fun pins s σ H G I h => Call_ (ld_blt I hg hm boot_enumerate (PyProof.Rows.callWith_type1 (thn (ha.run pos pins s σ H _ I h) fun us s1 ⟨vs, H1, I1, r1, q1⟩ => ?_) hs rfl))⟩
  obtain ⟨a, xs, ex, q1⟩ := q1
  subst ex
  have fresh : ∀ b, b ∈ [s1.heap.objs.size + 1, s1.heap.objs.size] → FpOk X pins H1 b := fun b hb => by
    have hle : s1.heap.objs.size ≤ b := by
      rcases (show b = s1.heap.objs.size + 1 ∨ b = s1.heap.objs.size by simpa using hb) with z | z
      · rw [z]; exact Nat.le_add_right _ _
      · rw [z]; exact Nat.le_refl _
    exact I1.fpOk hle (I1.hok.fresh hle)
  cases r1 with
  | cons r rr =>
    cases rr
    cases r
    rcases q1 with ⟨hq, q⟩ | ⟨hq, q⟩
    · obtain ⟨its, rv, p', hz⟩ := I1.list hq
      refine call_enumerate_list p'.isList fun h' he hit hsz hk => wpAny_pyIter_enum he ?_
      exact ⟨s1.heap.objs.size + 1, [s1.heap.objs.size + 1, s1.heap.objs.size], _, _, H1, rfl, I1.kept (t' := s1.toks) hk, turn_enum a (s1.heap.objs.size + 1) s1.heap.objs.size, ⟨⟨.none, he⟩, hit, Nat.succ_ne_self _⟩, fresh, q⟩
    · obtain ⟨its, rv, p', hz⟩ := I1.tuple hq
      have hT0 : s1.heap.IsTuple a its.toArray := p'
      refine enumBegin (begins_tuple a its.toArray) hT0 fun h' he hit hk => wpAny_pyIter_enum he ?_
      exact ⟨s1.heap.objs.size + 1, [s1.heap.objs.size + 1, s1.heap.objs.size], _, _, H1, rfl, I1.kept (t' := s1.toks) hk, turnEnumT a (s1.heap.objs.size + 1) s1.heap.objs.size, ⟨⟨.none, he⟩, ⟨_, hit, rfl, rfl⟩, Nat.succ_ne_self _⟩, fresh, q⟩
end Fp
/-! FpTgt: a slot is set; targets. -/
namespace Fp
open PySem PySem.Spec PyProof.Rows L2
section
variable {S : Se} {W : WX} {σ : L2.St} {e e' : Env} {w w' w0 w1 w2 : Wo} {v v1 v2 : V} {r x y : Rv} {q q1 q2 : List Addr} {l : Fp.Loc} {d : D}
theorem updL_has {i : Fp.Loc} {g : List Addr} {x : Addr} (h : ∃ m, x ∈ updL w.fp i g m) : x ∈ g ∨ w.has x := by
  obtain ⟨m, hm⟩ := h
  by_cases z : m = i
  · subst z; rw [updL_same] at hm; exact .inl hm
  · rw [updL_ne z] at hm; exact .inr ⟨m, hm⟩
/-- a slot is set anew -/
theorem Rep.setSl (Re : Rep S σ e w) {i : Nat} (hi : i < e.sl.length) {s : Sl} {o : Option V} {g : List Addr} (new : SlRep S ⟨w.F, w.H, updL w.fp (.s i) g, w.lf⟩ (.s i) o s g) (gn : g.Nodup) (gd : Off w g) :
    Rep S (σ.set i o) ⟨e.sl.set i s, e.ps⟩ ⟨w.F, w.H, updL w.fp (.s i) g, w.lf⟩ := by
  have keep : ∀ {o : Option V} {s : Sl} {m : Fp.Loc}, m ≠ .s i → SlRep S w m o s (w.fp m) → SlRep S ⟨w.F, w.H, updL w.fp (.s i) g, w.lf⟩ m o s (updL w.fp (.s i) g m) := fun {o s m} hm h => by
    rw [updL_ne hm]
    cases s <;> exact h
  refine ⟨Re.sub, by simp [Re.len], Re.plen, fun j s' hs => ?_, fun j hj => ?_, fun k p hp => ?_, fun k hk => ?_, fun m => ?_, fun m m' a h1 h2 => ?_, fun x hx => ?_, fun x hx z => ?_, Re.leh⟩
  · by_cases hj : j = i
    · subst hj
      have : (e.sl.set j s)[j]? = some s' := hs
      rw [List.getElem?_set_self hi] at this
      cases this
      rw [List.getElem?_set_self (by rw [← Re.len]; exact hi)]
      show SlRep S _ _ _ _ (updL w.fp (.s j) g (.s j))
      rw [updL_same]
      exact new
    · have : (e.sl.set i s)[j]? = some s' := hs
      rw [List.getElem?_set_ne (Ne.symm hj)] at this
      rw [List.getElem?_set_ne (Ne.symm hj)]
      exact keep (fun z => hj (by cases z; rfl)) (Re.slot j s' this)
  · have hj' : e.sl.length ≤ j := by simpa using hj
    have : (Loc.s j : Fp.Loc) ≠ .s i := fun z => by cases z; omega
    show updL w.fp (.s i) g (.s j) = []
    rw [updL_ne this]
    exact Re.out j hj'
  · obtain ⟨a, ea, h⟩ := Re.par k p hp
    refine ⟨a, ea, ?_⟩
    show PsRep S _ _ a p (updL w.fp (.s i) g (.p k))
    rw [updL_ne (fun z => by cases z)]
    cases p <;> exact h
  · show updL w.fp (.s i) g (.p k) = []
    rw [updL_ne (fun z => by cases z)]
    exact Re.pout k hk
  · show (updL w.fp (.s i) g m).Nodup
    by_cases hm : m = .s i
    · subst hm; rw [updL_same]; exact gn
    · rw [updL_ne hm]; exact Re.nd m
  · have h1' : a ∈ updL w.fp (.s i) g m := h1
    have h2' : a ∈ updL w.fp (.s i) g m' := h2
    by_cases hm : m = .s i <;> by_cases hm' : m' = .s i
    · rw [hm, hm']
    · subst hm
      rw [updL_same] at h1'
      rw [updL_ne hm'] at h2'
      exact absurd ⟨m', h2'⟩ (gd a h1').2.1
    · subst hm'
      rw [updL_same] at h2'
      rw [updL_ne hm] at h1'
      exact absurd ⟨m, h1'⟩ (gd a h2').2.1
    · rw [updL_ne hm] at h1'
      rw [updL_ne hm'] at h2'
      exact Re.dis m m' a h1' h2'
  · rcases updL_has hx with h | h
    · exact (gd x h).1
    · exact Re.off x h
  · rcases updL_has hx with h | h
    · exact (gd x h).2.2 z
    · exact Re.ale x h z
theorem Step.setSl (s0 : Step w0 w) {i : Fp.Loc} {g : List Addr} (n : New w0 g) : Step w0 ⟨w.F, w.H, updL w.fp i g, w.lf⟩ :=
  ⟨s0.a, s0.b, fun x o h z t => (updL_has t).elim (fun y => z (n x y o h)) (s0.c x o h z), s0.d, s0.e, s0.f, s0.g⟩
theorem Rep.setVal (Re : Rep S σ e w) {i : Nat} (hi : i < e.sl.length) (h : Dat S w.F d v) : Rep S (σ.set i (some v)) ⟨e.sl.set i (.val d), e.ps⟩ ⟨w.F, w.H, updL w.fp (.s i) [], w.lf⟩ :=
  Re.setSl hi ⟨rfl, v, rfl, h⟩ List.nodup_nil (fun _ z => by simp at z)
/-- what a value's slot is -/
theorem ofRv_ok (Re : Rep S σ e w) (r1 : RvRep S σ w v x q) {s : Sl} (h : Sl.ofRv e x = .ok s e') {i : Nat} (hi : i < e.sl.length) : ∃ w' g, w'.H = w.H ∧ Gh w w' q ∧ (∀ y ∈ g, y ∈ q) ∧ Rep S (σ.set i (some v)) ⟨e'.sl.set i s, e'.ps⟩ ⟨w'.F, w'.H, updL w'.fp (.s i) g, w'.lf⟩ ∧ Rep S σ e' w' ∧ i < e'.sl.length := by
  have len : ∀ {e' : Env} {w' : Wo}, Rep S σ e' w' → i < e'.sl.length := fun R' => by rw [R'.len, ← Re.len]; exact hi
  cases x with
  | val d =>
    cases h
    exact ⟨w, [], rfl, (Gh.refl w).mono (by simp), by simp, Re.setVal hi r1.2, Re, hi⟩
  | fresh ds =>
    cases h
    obtain ⟨a, rfl, o, nd, off⟩ := r1
    exact ⟨w, q, rfl, (Gh.refl w).mono (by simp), fun y hy => hy, Re.setSl hi ⟨a, rfl, o⟩ nd off, Re, hi⟩
  | loc l =>
    unfold Sl.ofRv at h
    simp only at h
    rcases asVal_nx (e := e) (x := .loc l) with ⟨d, e1, h1⟩ | h1
    · rw [h1] at h
      cases h
      obtain ⟨w', R', G, dd⟩ := asVal_ok Re r1 h1
      exact ⟨w', [], G.h, G, by simp, R'.setVal (len R') dd, R', len R'⟩
    · rw [h1] at h; cases h

/-! ### targets -/
mutual
def Tg.slots : Tg → List Nat
  | .nm i => [i]
  | .tp ts => Tg.slotss ts
def Tg.slotss : List Tg → List Nat
  | [] => []
  | t :: ts => Tg.slots t ++ Tg.slotss ts
end
/-- a value bound to a target -/
def gT (S : Se) (t : Tg) : TG := fun v σ H Q => ∃ e w d e', w.H = H ∧ Rep S σ e w ∧ Dat S w.F d v ∧ bindD t d e = some e' ∧
  ∀ σ' w', Step w w' → w'.H = H → Rep S σ' e' w' → (∀ j, j ∉ t.slots → σ'[j]? = σ[j]?) → σ'.length = σ.length → Q σ' H
def gTs (S : Se) (ts : List Tg) : TGs := fun vs σ H Q => ∃ e w ds e', w.H = H ∧ Rep S σ e w ∧ Dats S w.F ds vs ∧ bindDs ts ds e = some e' ∧
  ∀ σ' w', Step w w' → w'.H = H → Rep S σ' e' w' → (∀ j, j ∉ Tg.slotss ts → σ'[j]? = σ[j]?) → σ'.length = σ.length → Q σ' H
end
section
variable {X : L2.Cx} {S : Se} {pos : Pos}
theorem PG.imp {tg : Expr} {t t' : TG} (h : PG X tg t) (k : ∀ v σ H Q, t' v σ H Q → t v σ H Q) : PG X tg t' := ⟨fun pins s σ H v u Q I r z => h.run pins s σ H v u Q I r (k v σ H Q z)⟩
theorem PGs.imp {ts : List Expr} {t t' : TGs} (h : PGs X ts t) (k : ∀ v σ H Q, t' v σ H Q → t v σ H Q) : PGs X ts t' := ⟨fun pins s σ H v u Q I r z => h.run pins s σ H v u Q I r (k v σ H Q z)⟩
theorem g_nm {i : Nat} {x : Str} (hN : X.N.Nodup) (hi : X.N[i]? = some x) (hx : L2.Loc X.env.scope x) (hf : X.fn x = true ∨ X.env.scope.names.lookup x = some .local) : PG X (.Name x pos) (gT S (.nm i)) :=
  PG.imp (pg_name hN hi hx hf) fun v σ H Q ⟨e, w, d, e', hw, Re, hd, hb, k⟩ => by
    unfold bindD at hb
    split at hb
    · rename_i hlt
      cases hb
      refine k _ _ ((Step.refl w).setSl (i := .s i) (New.nil _)) hw (Re.setVal hlt hd) (fun j hj => ?_) (by simp)
      exact List.getElem?_set_ne fun z => hj (by simp [Tg.slots, z])
    · cases hb
theorem gs_nil : PGs X [] (gTs S []) := PGs.imp pgs_nil fun vs σ H Q ⟨e, w, ds, e', hw, Re, hd, hb, k⟩ => by
  cases ds with
  | nil =>
    cases hb
    exact ⟨hd.nil_inv, k σ w (Step.refl w) hw Re (fun _ _ => rfl) rfl⟩
  | cons _ _ => cases hb
theorem gs_cons {tg : Expr} {tgs : List Expr} {t : Tg} {ts : List Tg} (h1 : PG X tg (gT S t)) (h2 : PGs X tgs (gTs S ts)) (hs : (assignEach (tg :: tgs) X.env).map (·.2) = assign tg X.env :: (assignEach tgs X.env).map (·.2)) : PGs X (tg :: tgs) (gTs S (t :: ts)) :=
  PGs.imp (pgs_cons h1 h2 hs) fun vs σ H Q ⟨e, w, ds, e', hw, Re, hd, hb, k⟩ => by
    cases ds with
    | nil => cases hb
    | cons d ds =>
      obtain ⟨v, us, rfl, hv, hus⟩ := hd.cons_inv
      unfold bindDs at hb
      cases h1 : bindD t d e with
      | none => rw [h1] at hb; cases hb
      | some e1 =>
        rw [h1] at hb
        refine ⟨v, us, rfl, e, w, d, e1, hw, Re, hv, h1, fun σ1 w1 s1 e1H R1 k1 l1 => ⟨e1, w1, ds, e', e1H, R1, hus.mono s1.a, hb, fun σ2 w2 s2 e2H R2 k2 l2 => ?_⟩⟩
        refine k σ2 w2 (s1.trans s2) e2H R2 (fun j hj => ?_) (l2.trans l1)
        have hj' : j ∉ t.slots ∧ j ∉ Tg.slotss ts := by simpa [Tg.slotss] using hj
        exact (k2 j hj'.2).trans (k1 j hj'.1)
theorem bindDs_len : ∀ {ts : List Tg} {ds : List D} {e e' : Env}, bindDs ts ds e = some e' → ds.length = ts.length
  | [], [], _, _, _ => rfl
  | [], _ :: _, _, _, h => by cases h
  | _ :: _, [], _, _, h => by cases h
  | t :: ts, d :: ds, e, e', h => by
    unfold bindDs at h
    split at h
    · simp [bindDs_len h]
    · cases h
theorem g_tp (hK : S.K = X.K) (hc : X.calm = true) {es : List Expr} {ts : List Tg} {k : Nat} (h : PGs X es (gTs S ts)) (hn : (assignEach es X.env).length = ts.length) (hst : (assignEach es X.env).findIdx? (·.1) = none) : PG X (.Tuple es k pos) (gT S (.tp ts)) :=
  PG.imp (pg_tup hc h hn hst) fun v σ H Q ⟨e, w, d, e', hw, Re, hd, hb, k⟩ => by
    cases d with
    | tup ds =>
      unfold bindD at hb
      obtain ⟨a, vs, rfl, hq, hds⟩ := Red.tup (v := v) Re.sub hd
      subst hw
      exact ⟨a, vs, rfl, by rw [← hK]; exact hq, by rw [← hds.len]; exact bindDs_len hb, e, w, ds, e', rfl, Re, hds, hb, k⟩
    | _ => unfold bindD at hb; cases hb
end
end Fp
/-! FpSrc: what a loop walks. -/
namespace Fp
open PySem PySem.Spec PyProof.Rows L2
section
variable {S : Se} {W : WX} {σ : L2.St} {e e' : Env} {w w' w0 w1 w2 : Wo} {v v1 v2 : V} {r x y : Rv} {q q1 q2 : List Addr} {l : Fp.Loc} {d : D} {α : Type}
/-- a list or tuple that stands while it is walked -/
def Hold (S : Se) (w : Wo) (d : D) (v : V) : Prop := Dat S w.F d v ∨ ∃ ds a vs, d = .lst ds ∧ v = .ref a ∧ w.H a = some (.lst vs) ∧ ¬ w.has a ∧ w.le a ∧ Dats S w.F ds vs
theorem Hold.gh (g : Gh w w' q) (h : Hold S w d v) : Hold S w' d v := by
  rcases h with h | ⟨ds, a, vs, e1, e2, e3, e4, e5, e6⟩
  · exact .inl (Dat.mono g.a _ _ h)
  · refine .inr ⟨ds, a, vs, e1, e2, by rw [g.h]; exact e3, fun z => e4 (g.p a z), ?_, e6.mono g.a⟩
    obtain ⟨m, hm⟩ := Option.ne_none_iff_exists'.mp e5
    show w'.lf a ≠ none
    rw [g.m a m hm]; exact fun z => nomatch z
/-- what was lent since w0 -/
def LsOk (S : Se) (σ : L2.St) (w0 w : Wo) (ls : List (Option Fp.Loc)) : Prop := ∀ l, some l ∈ ls → ∃ a, LocA S σ l a ∧ w.lf a = some l ∧ w.F a = none ∧ ¬ w.has a ∧ w0.lf a = none ∧ New w0 [a] ∧ ∃ vs, w.H a = some (.lst vs)
theorem LsOk.step (s : Step w w') {ls : List (Option Fp.Loc)} (h : LsOk S σ w0 w ls) : LsOk S σ w0 w' ls := fun l hl => by
  obtain ⟨a, h1, h2, h3, h4, h5, h6, vs, h7⟩ := h l hl
  exact ⟨a, h1, s.g a l h2, s.d a _ h7 h4 h3, s.c a _ h7 h4, h5, h6, vs, s.b a _ h7 h4⟩
theorem LsOk.gh (g : Gh w w' q) (hq : ∀ y ∈ q, ¬ w.le y) {ls : List (Option Fp.Loc)} (h : LsOk S σ w0 w ls) : LsOk S σ w0 w' ls := fun l hl => by
  obtain ⟨a, h1, h2, h3, h4, h5, h6, vs, h7⟩ := h l hl
  exact ⟨a, h1, g.m a l h2, g.f a h3 h4 (fun z => hq a z (by show w.lf a ≠ none; rw [h2]; exact fun z => nomatch z)), fun z => h4 (g.p a z), h5, h6, vs, by rw [g.h]; exact h7⟩
theorem LsOk.nil : LsOk S σ w0 w [] := fun l h => by simp at h
theorem LsOk.none : LsOk S σ w0 w [none] := fun l h => by simp at h
theorem LsOk.app {l1 l2 : List (Option Fp.Loc)} (h1 : LsOk S σ w0 w l1) (h2 : LsOk S σ w0 w l2) : LsOk S σ w0 w (l1 ++ l2) := fun l h => (List.mem_append.mp h).elim (h1 l) (h2 l)
theorem lend_nx {fz : Bool} : (∃ p e', e.lend fz x = .ok p e') ∨ e.lend fz x = .bad := by
  have val : (∃ p e', ((e.asVal x).bind fun d e => R.ok (d, (none : Option Fp.Loc)) e) = .ok p e') ∨ ((e.asVal x).bind fun d e => R.ok (d, (none : Option Fp.Loc)) e) = .bad := by
    rcases asVal_nx (e := e) (x := x) with ⟨d, e1, h⟩ | h
    · rw [h]; exact .inl ⟨_, _, rfl⟩
    · rw [h]; exact .inr rfl
  unfold Env.lend
  split
  · exact val
  · unfold Env.lease
    cases x with
    | loc l =>
      simp only
      cases e.at l with
      | none => exact .inr rfl
      | some p => cases p <;> exact .inl ⟨_, _, rfl⟩
    | val _ => exact val
    | fresh _ => exact val
theorem lend_ok (Re : Rep S σ e w) (s0 : Step w0 w) (r1 : RvRep S σ w v x q) {fz : Bool} {p : D × Option Fp.Loc} (h : e.lend fz x = .ok p e') :
    ∃ w', w'.H = w.H ∧ Gh w w' q ∧ Rep S σ e' w' ∧ LsOk S σ w0 w' [p.2] ∧ Hold S w' p.1 v := by
  have val : ∀ {p}, ((e.asVal x).bind fun d e => R.ok (d, (none : Option Fp.Loc)) e) = .ok p e' → ∃ w', w'.H = w.H ∧ Gh w w' q ∧ Rep S σ e' w' ∧ LsOk S σ w0 w' [p.2] ∧ Hold S w' p.1 v := fun {p} h => by
    rcases asVal_nx (e := e) (x := x) with ⟨d, e1, h1⟩ | h1
    · rw [h1] at h
      cases h
      obtain ⟨w', R', G, dd⟩ := asVal_ok Re r1 h1
      exact ⟨w', G.h, G, R', LsOk.none, .inl dd⟩
    · rw [h1] at h; cases h
  unfold Env.lend at h
  split at h
  · exact val h
  · unfold Env.lease at h
    cases x with
    | val _ => exact val h
    | fresh _ => exact val h
    | loc l =>
      simp only at h
      cases hl : e.at l with
      | none => rw [hl] at h; cases h
      | some p0 =>
        rw [hl] at h
        cases p0 with
        | own ds =>
          cases h
          obtain ⟨w', a, vs, R', G, la, q1, dd, lf1, f1, has1, has2⟩ := ghost_lea Re hl
          have hle : w'.le a := by show w'.lf a ≠ none; rw [lf1]; exact fun z => nomatch z
          refine ⟨w', G.h, G.mono (by simp), R', fun l' hl' => ?_, .inr ⟨_, a, vs, rfl, rvLoc la r1, q1, has2, hle, dd⟩⟩
          obtain rfl : l' = l := by simpa using hl'
          refine ⟨a, la, lf1, f1, has2, ?_, s0.newHas fun y hy => by rw [List.mem_singleton.mp hy]; exact has1, vs, q1⟩
          cases z : w0.lf a with
          | none => rfl
          | some m => exact absurd (show w.le a by show w.lf a ≠ none; rw [s0.g a m z]; exact fun z => nomatch z) (Re.ale a has1)
        | lea ds =>
          cases h
          refine ⟨w, rfl, (Gh.refl w).mono (by simp), Re, LsOk.none, .inr ?_⟩
          have hp := Re.at hl
          cases l with
          | s i =>
            obtain ⟨_, a, vs, e1, q1, dd, lf1⟩ := hp
            have hle : w.le a := by show w.lf a ≠ none; rw [lf1]; exact fun z => nomatch z
            have ev : v = .ref a := by
              have z := r1.2
              rw [z] at e1
              simpa using e1
            exact ⟨_, a, vs, rfl, ev, q1, fun z => Re.ale a z hle, hle, dd⟩
          | p k =>
            obtain ⟨a, ea, _, vs, q1, dd, lf1⟩ := hp
            have hle : w.le a := by show w.lf a ≠ none; rw [lf1]; exact fun z => nomatch z
            exact ⟨_, a, vs, rfl, rvLoc (l := .p k) ea r1, q1, fun z => Re.ale a z hle, hle, dd⟩
        | frz ds =>
          cases h
          exact ⟨w, rfl, (Gh.refl w).mono (by simp), Re, LsOk.none, .inl ((Re.at hl).frzDat r1)⟩
/-- items by the turn -/
structure Snap (S : Se) (w1 : Wo) (J : It) (ds : List D) : Prop where
  go : ∀ (i : Nat) (w : Wo), Step w1 w → Same w.F w.H → i < ds.length → J.go i w.H
  stop : ∀ (i : Nat) (w : Wo), Step w1 w → Same w.F w.H → ds.length ≤ i → J.stop i w.H
  yld : ∀ (i : Nat) (w : Wo) (σ : L2.St) (e : Env) (x : V) (H' : Hp) (d : D), Step w1 w → Rep S σ e w → ds[i]? = some d → J.yld i w.H x H' → ∃ w', w'.H = H' ∧ Step w w' ∧ Rep S σ e w' ∧ Dat S w'.F d x
theorem Hold.list {ds : List D} (s1 : Same w1.F w1.H) (h : Hold S w1 (.lst ds) v) : ∃ a vs, v = .ref a ∧ Dats S w1.F ds vs ∧ ∀ w, Step w1 w → Same w.F w.H → SqL S.K w.H a vs := by
  rcases h with ⟨a, vs, e1, q, r⟩ | ⟨_, a, vs, e0, e1, e2, e3, e4, e5⟩
  · exact ⟨a, vs, e1, r, fun w s sw => .inl (rdSame (s.a.trans sw) q)⟩
  · cases e0
    exact ⟨a, vs, e1, e5, fun w s sw => .inl (.inl (s.b a _ e2 e3))⟩
theorem Hold.tup {ds : List D} (h : Hold S w1 (.tup ds) v) : ∃ a vs, v = .ref a ∧ Dats S w1.F ds vs ∧ ∀ w, Step w1 w → Same w.F w.H → SqT S.K w.H a vs := by
  rcases h with ⟨a, vs, e1, q, r⟩ | ⟨_, a, vs, e0, _⟩
  · exact ⟨a, vs, e1, r, fun w s sw => Same.seqT (s.a.trans sw) q⟩
  · cases e0
theorem get_some {α : Type} {xs : List α} {i : Nat} (h : i < xs.length) : ∃ x, xs[i]? = some x := ⟨xs[i], by simp [h]⟩
theorem snap_list {ds : List D} {a : Addr} {vs : List V} (dd : Dats S w1.F ds vs) (h : ∀ w, Step w1 w → Same w.F w.H → SqL S.K w.H a vs) : Snap S w1 (Itl S.K a) ds where
  go := fun i w s sw hi => let ⟨x, hx⟩ := get_some (xs := vs) (by rw [← dd.len]; exact hi); ⟨vs, x, h w s sw, hx⟩
  stop := fun i w s sw hi => ⟨vs, h w s sw, by rw [← dd.len]; exact hi⟩
  yld := fun i w σ e x H' d s Re hd ⟨e1, hy⟩ => by
    subst e1
    obtain ⟨u, hu, du⟩ := dd.get hd
    have := hy vs (h w s Re.sub)
    rw [hu] at this
    cases this
    exact ⟨w, rfl, Step.refl w, Re, Dat.mono s.a _ _ du⟩
theorem snap_tup {ds : List D} {a : Addr} {vs : List V} (dd : Dats S w1.F ds vs) (h : ∀ w, Step w1 w → Same w.F w.H → SqT S.K w.H a vs) : Snap S w1 (Itt S.K a) ds where
  go := fun i w s sw hi => let ⟨x, hx⟩ := get_some (xs := vs) (by rw [← dd.len]; exact hi); ⟨vs, x, h w s sw, hx⟩
  stop := fun i w s sw hi => ⟨vs, h w s sw, by rw [← dd.len]; exact hi⟩
  yld := fun i w σ e x H' d s Re hd ⟨e1, hy⟩ => by
    subst e1
    obtain ⟨u, hu, du⟩ := dd.get hd
    have := hy vs (h w s Re.sub)
    rw [hu] at this
    cases this
    exact ⟨w, rfl, Step.refl w, Re, Dat.mono s.a _ _ du⟩
theorem intsD_len (lo : Int) (n : Nat) : (intsD lo n).length = n := by simp [intsD]
theorem snap_range (lo : Int) (n : Nat) : Snap S w1 (Itr lo n) (intsD lo n) where
  go := fun i w s sw hi => by rw [intsD_len] at hi; exact hi
  stop := fun i w s sw hi => by rw [intsD_len] at hi; exact hi
  yld := fun i w σ e x H' d s Re hd ⟨e1, hy⟩ => by
    subst e1 hy
    have hi : i < n := by
      have := (List.getElem?_eq_some_iff.mp hd).1
      rwa [intsD_len] at this
    have : d = .int (lo + (i : Nat)) := by
      simp [intsD, hi] at hd
      exact hd.symm
    rw [this]
    exact ⟨w, rfl, Step.refl w, Re, rfl⟩
theorem enums_len : ∀ (ds : List D) (k : Nat), (enums ds k).length = ds.length
  | [], _ => rfl
  | d :: ds, k => by simp [enums, enums_len ds]
theorem enums_get : ∀ {ds : List D} {k i : Nat} {d : D}, (enums ds k)[i]? = some d → ∃ d', ds[i]? = some d' ∧ d = .tup [.int ((k + i : Nat) : Int), d']
  | [], _, _, _, h => by simp [enums] at h
  | x :: ds, k, 0, d, h => by
    simp [enums] at h
    exact ⟨x, rfl, h.symm⟩
  | x :: ds, k, i + 1, d, h => by
    simp [enums] at h
    obtain ⟨d', h1, h2⟩ := enums_get h
    exact ⟨d', by simpa using h1, by rw [h2, show k + 1 + i = k + (i + 1) by omega]⟩
theorem snap_enumL {ds : List D} {a : Addr} {vs : List V} (dd : Dats S w1.F ds vs) (h : ∀ w, Step w1 w → Same w.F w.H → SqL S.K w.H a vs) : Snap S w1 (Ite S.K a) (enums ds 0) where
  go := fun i w s sw hi => let ⟨x, hx⟩ := get_some (xs := vs) (by rw [← dd.len, ← enums_len ds 0]; exact hi); ⟨vs, x, h w s sw, hx⟩
  stop := fun i w s sw hi => ⟨vs, h w s sw, by rw [← dd.len, ← enums_len ds 0]; exact hi⟩
  yld := fun i w σ e x H' d s Re hd ⟨T, z, e1, hT, e2, hy⟩ => by
    subst e1 e2
    obtain ⟨d', hd', rfl⟩ := enums_get hd
    obtain ⟨u, hu, du⟩ := dd.get hd'
    have := hy vs (h w s Re.sub)
    rw [hu] at this
    cases this
    obtain ⟨R', s'⟩ := alloc_val Re (o := .tup [.int (i : Nat), z]) hT
    exact ⟨_, rfl, s', R', T, _, rfl, SqT.of upd_same, by show V.int (i : Nat) = V.int ((0 + i : Nat) : Int); rw [Nat.zero_add], Dat.mono (s.trans s').a _ _ du, trivial⟩
theorem snap_enumT {ds : List D} {a : Addr} {vs : List V} (dd : Dats S w1.F ds vs) (h : ∀ w, Step w1 w → Same w.F w.H → SqT S.K w.H a vs) : Snap S w1 (IteT S.K a) (enums ds 0) where
  go := fun i w s sw hi => let ⟨x, hx⟩ := get_some (xs := vs) (by rw [← dd.len, ← enums_len ds 0]; exact hi); ⟨vs, x, h w s sw, hx⟩
  stop := fun i w s sw hi => ⟨vs, h w s sw, by rw [← dd.len, ← enums_len ds 0]; exact hi⟩
  yld := fun i w σ e x H' d s Re hd ⟨T, z, e1, hT, e2, hy⟩ => by
    subst e1 e2
    obtain ⟨d', hd', rfl⟩ := enums_get hd
    obtain ⟨u, hu, du⟩ := dd.get hd'
    have := hy vs (h w s Re.sub)
    rw [hu] at this
    cases this
    obtain ⟨R', s'⟩ := alloc_val Re (o := .tup [.int (i : Nat), z]) hT
    exact ⟨_, rfl, s', R', T, _, rfl, SqT.of upd_same, by show V.int (i : Nat) = V.int ((0 + i : Nat) : Int); rw [Nat.zero_add], Dat.mono (s.trans s').a _ _ du, trivial⟩
theorem zips_len : ∀ (ds es : List D), (zips ds es).length = min ds.length es.length
  | [], _ => by simp [zips]
  | _ :: _, [] => by simp [zips]
  | d :: ds, c :: es => by simp [zips, zips_len ds es, Nat.succ_min_succ]
theorem zips_get : ∀ {ds es : List D} {i : Nat} {d : D}, (zips ds es)[i]? = some d → ∃ x y, ds[i]? = some x ∧ es[i]? = some y ∧ d = .tup [x, y]
  | [], _, _, _, h => by simp [zips] at h
  | _ :: _, [], _, _, h => by simp [zips] at h
  | x :: ds, y :: es, 0, d, h => by
    simp [zips] at h
    exact ⟨x, y, rfl, rfl, h.symm⟩
  | x :: ds, y :: es, i + 1, d, h => by
    simp [zips] at h
    obtain ⟨a, b, h1, h2, h3⟩ := zips_get h
    exact ⟨a, b, by simpa using h1, by simpa using h2, h3⟩
theorem snap_zipL {ds es : List D} {a b : Addr} {vs us : List V} (dd : Dats S w1.F ds vs) (de : Dats S w1.F es us) (h : ∀ w, Step w1 w → Same w.F w.H → SqL S.K w.H a vs) (h' : ∀ w, Step w1 w → Same w.F w.H → SqL S.K w.H b us) : Snap S w1 (Itz S.K a b) (zips ds es) where
  go := fun i w s sw hi => by
    rw [zips_len, dd.len, de.len] at hi
    obtain ⟨x, hx⟩ := get_some (xs := vs) (i := i) (by omega)
    obtain ⟨y, hy⟩ := get_some (xs := us) (i := i) (by omega)
    exact ⟨vs, us, x, y, h w s sw, h' w s sw, hx, hy⟩
  stop := fun i w s sw hi => by
    rw [zips_len, dd.len, de.len] at hi
    exact ⟨vs, us, h w s sw, h' w s sw, by omega⟩
  yld := fun i w σ e x H' d s Re hd ⟨T, z1, z2, e1, hT, e2, hy1, hy2⟩ => by
    subst e1 e2
    obtain ⟨d1, d2, hd1, hd2, rfl⟩ := zips_get hd
    obtain ⟨u1, hu1, du1⟩ := dd.get hd1
    obtain ⟨u2, hu2, du2⟩ := de.get hd2
    have t1 := hy1 vs (h w s Re.sub)
    have t2 := hy2 us (h' w s Re.sub)
    rw [hu1] at t1
    rw [hu2] at t2
    cases t1
    cases t2
    obtain ⟨R', s'⟩ := alloc_val Re (o := .tup [z1, z2]) hT
    exact ⟨_, rfl, s', R', T, _, rfl, SqT.of upd_same, Dat.mono (s.trans s').a _ _ du1, Dat.mono (s.trans s').a _ _ du2, trivial⟩
theorem snap_zipT {ds es : List D} {a b : Addr} {vs us : List V} (dd : Dats S w1.F ds vs) (de : Dats S w1.F es us) (h : ∀ w, Step w1 w → Same w.F w.H → SqT S.K w.H a vs) (h' : ∀ w, Step w1 w → Same w.F w.H → SqT S.K w.H b us) : Snap S w1 (RZ.ItzT S.K a b) (zips ds es) where
  go := fun i w s sw hi => by
    rw [zips_len, dd.len, de.len] at hi
    obtain ⟨x, hx⟩ := get_some (xs := vs) (i := i) (by omega)
    obtain ⟨y, hy⟩ := get_some (xs := us) (i := i) (by omega)
    exact ⟨vs, us, x, y, h w s sw, h' w s sw, hx, hy⟩
  stop := fun i w s sw hi => by
    rw [zips_len, dd.len, de.len] at hi
    exact ⟨vs, us, h w s sw, h' w s sw, by omega⟩
  yld := fun i w σ e x H' d s Re hd ⟨T, z1, z2, e1, hT, e2, hy1, hy2⟩ => by
    subst e1 e2
    obtain ⟨d1, d2, hd1, hd2, rfl⟩ := zips_get hd
    obtain ⟨u1, hu1, du1⟩ := dd.get hd1
    obtain ⟨u2, hu2, du2⟩ := de.get hd2
    have t1 := hy1 vs (h w s Re.sub)
    have t2 := hy2 us (h' w s Re.sub)
    rw [hu1] at t1
    rw [hu2] at t2
    cases t1
    cases t2
    obtain ⟨R', s'⟩ := alloc_val Re (o := .tup [z1, z2]) hT
    exact ⟨_, rfl, s', R', T, _, rfl, SqT.of upd_same, Dat.mono (s.trans s').a _ _ du1, Dat.mono (s.trans s').a _ _ du2, trivial⟩
/-- a source's reading -/
def iS (S : Se) (W : WX) (ev : Env → Fp.R (List D × List (Option Fp.Loc))) : TI := fun σ H Q => ∃ e w, w.H = H ∧ Rep S σ e w ∧ Good S W σ w (ev e) fun p _ w' => ∀ J, Snap S w' J p.1 → LsOk S σ w w' p.2 → Q J w'.H
theorem lend1 (s0 : Step w0 w) (Re : Rep S σ e w) (r1 : RvRep S σ w v x q) (n1 : New w0 q) {fz : Bool} {k : D × Option Fp.Loc → Env → Fp.R α} {p : α → Env → Wo → Prop} (g : Good S W σ w0 ((e.lend fz x).bind k) p) :
    ∃ w' e' d, w'.H = w.H ∧ Gh w w' q ∧ Step w0 w' ∧ Rep S σ e' w' ∧ LsOk S σ w0 w' [d.2] ∧ Hold S w' d.1 v ∧ Good S W σ w0 (k d e') p := by
  rcases lend_nx (e := e) (x := x) (fz := fz) with ⟨d, e', h⟩ | h
  · rw [h, Fp.R.bind_ok] at g
    obtain ⟨w', hH, G, R', ls, hd⟩ := lend_ok Re s0 r1 h
    exact ⟨w', e', d, hH, G, s0.gh G n1, R', ls, hd, g⟩
  · rw [h] at g
    exact g.elim
end
section
variable {X : L2.Cx} {S : Se} {W : WX} {a b c tg : Expr} {ea eb ec : Env → Fp.R Rv} {pos p pc pt : Pos} {es rest : List Expr} {eas : Env → Fp.R (List Rv)}
theorem PI.imp {tg it : Expr} {t t' : TI} (h : PI X tg it t) (k : ∀ σ H Q, t' σ H Q → t σ H Q) : PI X tg it t' := ⟨fun pins s σ H Q I z => h.run pins s σ H Q I (k σ H Q z)⟩
def iSeq (K : PySem.W.Frag) (tl : TE) : TI := fun σ H Q => tl σ H fun x H1 => ∃ a xs, x = .ref a ∧ ((SqL K H1 a xs ∧ Q (Itl K a) H1) ∨ (SqT K H1 a xs ∧ Q (Itt K a) H1))
theorem pi_seq {l : Expr} {tl : TE} (hl : PE X l tl) : PI X tg l (iSeq X.K tl) := by
  refine ⟨fun pins s σ H Q I h => thn (hl.run pins s σ H _ I h) fun v s1 ⟨x, H1, I1, r1, a, xs, ex, q1⟩ => ?_⟩
  subst ex
  cases r1
  have fresh : ∀ b ∈ [s1.heap.objs.size], FpOk X pins H1 b := fun b hb => by
    rw [List.mem_singleton.mp hb]
    exact I1.fpOk (Nat.le_refl _) (I1.hok.fresh (Nat.le_refl _))
  rcases q1 with ⟨hq, q⟩ | ⟨hq, q⟩
  · obtain ⟨its, rv, p, hz⟩ := I1.list hq
    refine wpAny_pyIter_list p.isList ?_
    exact ⟨s1.heap.objs.size, [s1.heap.objs.size], _, _, H1, rfl, I1.kept (t' := s1.toks) fun b o e => Heap.get?_push_of_some _ e, turn_list a _, ⟨_, Heap.get?_push_size _ rfl, rfl, rfl⟩, fresh, q⟩
  · obtain ⟨its, rv, p, hz⟩ := I1.tuple hq
    refine wpAny_pyIter_tuple (show s1.heap.IsTuple a its.toArray from p) ?_
    exact ⟨s1.heap.objs.size, [s1.heap.objs.size], _, _, H1, rfl, I1.kept (t' := s1.toks) fun b o e => Heap.get?_push_of_some _ e, turn_tuple a _, ⟨_, Heap.get?_push_size _ rfl, rfl, rfl⟩, fresh, q⟩
theorem src_ov (hK : S.K = X.K) (ha : PE X a (tE S W ea)) (fz : Bool) : PI X tg a (iS S W fun e => (ea e).bind fun x e => (e.lend fz x).bind fun (d, l) e => match itemsOf d with
    | some ds => .ok (ds, [l]) e
    | none => .bad) :=
  PI.imp (pi_seq ha) fun σ H Q ⟨e, w, hw, R, g⟩ => tE.one hw R g fun v r q e w' s R' hr n g => by
    obtain ⟨w2, e2, ⟨d, l⟩, hH, G, s2, R2, ls, hd, g2⟩ := lend1 s R' hr n g
    rw [← hH, ← hK]
    cases d with
    | lst ds =>
      obtain ⟨a, vs, rfl, dd, hh⟩ := Hold.list R2.sub hd
      exact ⟨a, vs, rfl, .inl ⟨hh w2 (Step.refl w2) R2.sub, g2 w2 s2 R2 _ (snap_list dd hh) ls⟩⟩
    | tup ds =>
      obtain ⟨a, vs, rfl, dd, hh⟩ := Hold.tup hd
      exact ⟨a, vs, rfl, .inr ⟨hh w2 (Step.refl w2) R2.sub, g2 w2 s2 R2 _ (snap_tup dd hh) ls⟩⟩
    | _ => exact g2.elim
theorem src_rng (ha : PA X [a] (tA S W fun e => (ea e).bind fun x e => (Fp.R.ok [] e).bind fun rs e => .ok (x :: rs) e)) (hg : Gl X "range") (hm : X.mg "range" = none) (hs : starEach [a] X.env = [(false, eval a X.env)]) :
    PI X tg (.Call (.Name "range" p) [a] [] pos) (iS S W fun e => (ea e).bind fun x e => match x with
    | .val (.int j) => if small62 j then .ok (intsD 0 j.toNat, []) e else .bad
    | _ => .bad) :=
  PI.imp (pi_range1 hg hm ha hs) fun σ H Q ⟨e, w, hw, R, g⟩ => by
    subst hw
    refine ⟨e, w, rfl, R, ?_⟩
    dsimp only
    have g : Good S W σ w ((ea e).bind fun x e => match x with
    | .val (.int j) => if small62 j then Fp.R.ok (intsD 0 j.toNat, ([] : List (Option Fp.Loc))) e else .bad
    | _ => .bad) _ := g
    cases he : ea e with
    | bad => rw [he] at g; exact g.elim
    | ex c d e1 => rw [he] at g; exact g
    | ok r e1 =>
      rw [he] at g
      intro w1 s1 R1 vs q ⟨u, us, f, g0, e1', e2', h1, h0, h0'⟩ n nd
      subst h0 h0' e1' e2'
      cases r with
      | val d => cases d with
        | int j =>
          have g : Good S W σ w (if small62 j then Fp.R.ok (intsD 0 j.toNat, ([] : List (Option Fp.Loc))) e1 else .bad) _ := g
          split at g
          · rename_i hj
            unfold small62 at hj
            rw [decide_eq_true_eq] at hj
            exact ⟨j, by rw [show u = .int j from h1.2], hj.1, hj.2, g w1 s1 R1 _ (snap_range 0 j.toNat) LsOk.nil⟩
          · exact g.elim
        | _ => exact g.elim
      | fresh _ => exact g.elim
      | loc _ => exact g.elim
theorem src_rng2 (ha : PA X [a, b] (tA S W fun e => (ea e).bind fun x e => ((eb e).bind fun y e => (Fp.R.ok [] e).bind fun rs e => .ok (y :: rs) e).bind fun rs e => .ok (x :: rs) e)) (hg : Gl X "range") (hm : X.mg "range" = none)
    (hs : starEach [a, b] X.env = [(false, eval a X.env), (false, eval b X.env)]) (hs2 : starEach [b] X.env = [(false, eval b X.env)]) :
    PI X tg (.Call (.Name "range" p) [a, b] [] pos) (iS S W fun e => (ea e).bind fun x e => (eb e).bind fun y e => match x, y with
    | .val (.int i), .val (.int j) => if small62 i && small62 j then .ok (intsD i (j - i).toNat, []) e else .bad
    | _, _ => .bad) :=
  PI.imp (pi_range2 hg hm ha hs hs2) fun σ H Q ⟨e, w, hw, R, g⟩ => by
    subst hw
    refine ⟨e, w, rfl, R, ?_⟩
    dsimp only
    have g : Good S W σ w ((ea e).bind fun x e => (eb e).bind fun y e => match x, y with
    | .val (.int i), .val (.int j) => if small62 i && small62 j then Fp.R.ok (intsD i (j - i).toNat, ([] : List (Option Fp.Loc))) e else .bad
    | _, _ => .bad) _ := g
    cases he : ea e with
    | bad => rw [he] at g; exact g.elim
    | ex c d e1 => rw [he] at g; exact g
    | ok r e1 =>
      rw [he, Fp.R.bind_ok] at g
      rw [Fp.R.bind_ok]
      cases he2 : eb e1 with
      | bad => rw [he2] at g; exact g.elim
      | ex c d e2 => rw [he2] at g; exact g
      | ok r2 e2 =>
        rw [he2] at g
        intro w1 s1 R1 vs q hr n nd
        obtain ⟨u, us, f, g0, e1', e2', h1, u2, us2, f2, g02, e3', e4', h2, h0, h0'⟩ := hr
        subst h0 h0' e3' e4' e1' e2'
        have g : Good S W σ w (match r, r2 with
          | .val (.int i), .val (.int j) => if small62 i && small62 j then Fp.R.ok (intsD i (j - i).toNat, ([] : List (Option Fp.Loc))) e2 else .bad
          | _, _ => .bad) _ := g
        split at g
        · rename_i i j _
          split at g
          · rename_i hj
            unfold small62 at hj
            rw [Bool.and_eq_true, decide_eq_true_eq, decide_eq_true_eq] at hj
            exact ⟨i, j, by rw [show u = .int i from h1.2, show u2 = .int j from h2.2], ⟨hj.1.1, hj.1.2, hj.2.1, hj.2.2⟩, g w1 s1 R1 _ (snap_range i (j - i).toNat) LsOk.nil⟩
          · exact g.elim
        · exact g.elim
theorem src_enu {elts : List Expr} {kk : Nat} {tpos : Pos} (hK : S.K = X.K) (ha : PA X [a] (tA S W fun e => (ea e).bind fun x e => (Fp.R.ok [] e).bind fun rs e => .ok (x :: rs) e)) (fz : Bool) (hg : Gl X "enumerate") (hm : X.mg "enumerate" = none) (hs : starEach [a] X.env = [(false, eval a X.env)]) :
    PI X (.Tuple elts kk tpos) (.Call (.Name "enumerate" p) [a] [] pos) (iS S W fun e => (ea e).bind fun x e => (e.lend fz x).bind fun (d, l) e => match itemsOf d with
    | some ds => .ok (enums ds 0, [l]) e
    | none => .bad) :=
  PI.imp (pi_enumA hg hm ha hs) fun σ H Q ⟨e, w, hw, R, g⟩ => by
    subst hw
    refine ⟨e, w, rfl, R, ?_⟩
    dsimp only
    have g : Good S W σ w ((ea e).bind fun x e => (e.lend fz x).bind fun (d, l) e => match itemsOf d with
    | some ds => Fp.R.ok (enums ds 0, [l]) e
    | none => .bad) _ := g
    cases he : ea e with
    | bad => rw [he] at g; exact g.elim
    | ex c d e1 => rw [he] at g; exact g
    | ok r e1 =>
      rw [he] at g
      intro w1 s1 R1 vs q ⟨u, us, f, g0, e1', e2', h1, h0, h0'⟩ n nd
      subst h0 h0' e1' e2'
      rw [List.append_nil] at n nd
      obtain ⟨w2, e2, ⟨d, l⟩, hH, G, s2, R2, ls, hd, g2⟩ := lend1 s1 R1 h1 n g
      rw [← hH, ← hK]
      cases d with
      | lst ds =>
        obtain ⟨a, vs, rfl, dd, hh⟩ := Hold.list R2.sub hd
        exact ⟨a, vs, rfl, .inl ⟨hh w2 (Step.refl w2) R2.sub, g2 w2 s2 R2 _ (snap_enumL dd hh) ls⟩⟩
      | tup ds =>
        obtain ⟨a, vs, rfl, dd, hh⟩ := Hold.tup hd
        exact ⟨a, vs, rfl, .inr ⟨hh w2 (Step.refl w2) R2.sub, g2 w2 s2 R2 _ (snap_enumT dd hh) ls⟩⟩
      | _ => exact g2.elim
theorem src_zip {elts : List Expr} {kk : Nat} {tpos : Pos} (hK : S.K = X.K) (ha : PA X [a, b] (tA S W fun e => (ea e).bind fun x e => ((eb e).bind fun y e => (Fp.R.ok [] e).bind fun rs e => .ok (y :: rs) e).bind fun rs e => .ok (x :: rs) e)) (fz : Bool) (hg : Gl X "zip") (hm : X.mg "zip" = none)
    (hs : starEach [a, b] X.env = (false, eval a X.env) :: starEach [b] X.env) (hpl : (backTo pos (starEach [b] X.env)).any (·.1) = false) :
    PI X (.Tuple elts kk tpos) (.Call (.Name "zip" p) [a, b] [] pos) (iS S W fun e => (ea e).bind fun x e => (eb e).bind fun y e => (e.lend fz x).bind fun (d, l) e => (e.lend fz y).bind fun (d', l') e => match d, d' with
    | .lst ds, .lst ds' => .ok (zips ds ds', [l, l']) e
    | .tup ds, .tup ds' => .ok (zips ds ds', [l, l']) e
    | _, _ => .bad) :=
  PI.imp (RZ.pi_zipA hg hm ha hs hpl) fun σ H Q ⟨e, w, hw, R, g⟩ => by
    subst hw
    refine ⟨e, w, rfl, R, ?_⟩
    dsimp only
    have g : Good S W σ w ((ea e).bind fun x e => (eb e).bind fun y e => (e.lend fz x).bind fun (d, l) e => (e.lend fz y).bind fun (d', l') e => match d, d' with
    | .lst ds, .lst ds' => Fp.R.ok (zips ds ds', [l, l']) e
    | .tup ds, .tup ds' => .ok (zips ds ds', [l, l']) e
    | _, _ => .bad) _ := g
    cases he : ea e with
    | bad => rw [he] at g; exact g.elim
    | ex c d e1 => rw [he] at g; exact g
    | ok r e1 =>
      rw [he, Fp.R.bind_ok] at g
      rw [Fp.R.bind_ok]
      cases he2 : eb e1 with
      | bad => rw [he2] at g; exact g.elim
      | ex c d e2 => rw [he2] at g; exact g
      | ok r2 e2 =>
        rw [he2] at g
        intro w1 s1 R1 vs q hr n nd
        obtain ⟨u, us, f, g0, e1', e2', h1, u2, us2, f2, g02, e3', e4', h2, h0, h0'⟩ := hr
        subst h0 h0' e3' e4' e1' e2'
        rw [List.append_nil] at n nd
        have nd' := List.nodup_append.mp nd
        obtain ⟨w2, e3, ⟨d, l⟩, hH, G, s2, R2, ls, hd, g2⟩ := lend1 s1 R1 h1 (fun x hx => n x (List.mem_append_left _ hx)) g
        have h2' := h2.gh G fun x hx hx' => nd'.2.2 x hx' x hx rfl
        obtain ⟨w3, e4, ⟨d', l'⟩, hH3, G3, s3, R3, ls3, hd3, g3⟩ := lend1 s2 R2 h2' (fun x hx => n x (List.mem_append_right _ hx)) g2
        have hd' := hd.gh G3
        have ls' := (ls.gh G3 fun y hy => (h2'.off y hy).2.2).app ls3
        rw [← hH, ← hH3, ← hK]
        cases d with
        | lst ds =>
          cases d' with
          | lst ds' =>
            obtain ⟨a, vs, rfl, dd, hh⟩ := Hold.list R3.sub hd'
            obtain ⟨a', vs', rfl, dd', hh'⟩ := Hold.list R3.sub hd3
            exact ⟨a, a', vs, vs', rfl, .inl ⟨hh w3 (Step.refl w3) R3.sub, hh' w3 (Step.refl w3) R3.sub, g3 w3 s3 R3 _ (snap_zipL dd dd' hh hh') ls'⟩⟩
          | _ => exact g3.elim
        | tup ds =>
          cases d' with
          | tup ds' =>
            obtain ⟨a, vs, rfl, dd, hh⟩ := Hold.tup hd'
            obtain ⟨a', vs', rfl, dd', hh'⟩ := Hold.tup hd3
            exact ⟨a, a', vs, vs', rfl, .inr ⟨hh w3 (Step.refl w3) R3.sub, hh' w3 (Step.refl w3) R3.sub, g3 w3 s3 R3 _ (snap_zipT dd dd' hh hh') ls'⟩⟩
          | _ => exact g3.elim
        | _ => exact g3.elim
end
end Fp
/-! FpComp: list comprehensions. -/
namespace Fp
open PySem PySem.Spec PyProof.Rows L2
section
variable {S : Se} {W : WX} {σ σ2 : L2.St} {e e' e1 e2 : Env} {w w' w0 w1 w2 : Wo} {v v1 v2 : V} {r x y : Rv} {q q1 q2 : List Addr} {l : Fp.Loc} {d : D} {α : Type}
theorem wo_same (h : w.fp l = []) : (⟨w.F, w.H, updL w.fp l [], w.lf⟩ : Wo) = w := by
  have : updL w.fp l [] = w.fp := by
    funext m
    by_cases z : m = l
    · subst z; rw [updL_same, h]
    · rw [updL_ne z]
  rw [this]
/-- w' is w but for slots that hold no list any more -/
structure Drop (w w' : Wo) : Prop where
  F : w'.F = w.F
  H : w'.H = w.H
  lf : w'.lf = w.lf
  has : ∀ x, w'.has x → w.has x
theorem Drop.refl (w : Wo) : Drop w w := ⟨rfl, rfl, rfl, fun _ h => h⟩
theorem Drop.trans (a : Drop w w1) (b : Drop w1 w2) : Drop w w2 := ⟨b.F.trans a.F, b.H.trans a.H, b.lf.trans a.lf, fun x h => a.has x (b.has x h)⟩
theorem Drop.step (a : Drop w w1) (s : Step w0 w) : Step w0 w1 where
  a := by rw [a.F]; exact s.a
  b := by rw [a.H]; exact s.b
  c := fun x o h n z => s.c x o h n (a.has x z)
  d := by rw [a.F]; exact s.d
  e := by rw [a.H]; exact s.e
  f := fun x o h n z y => s.f x o h n z (by show w.lf x ≠ none; rw [← a.lf]; exact y)
  g := by rw [a.lf]; exact s.g
theorem Drop.rv (a : Drop w w1) (h : RvRep S σ w v x q) : RvRep S σ w1 v x q := h.keep (by rw [a.F]; exact Same.refl _) fun y hy => by
  obtain ⟨z1, z2, z3⟩ := h.off y hy
  exact ⟨by rw [a.H], by rw [a.F]; exact z1, fun z => z2 (a.has y z), fun z => z3 (by show w.lf y ≠ none; rw [← a.lf]; exact z)⟩
theorem RvRep.fresh_any {ds : List D} (h : RvRep S σ w v (.fresh ds) q) : RvRep S σ2 w v (.fresh ds) q := h
theorem setSl_drop {i : Nat} : Drop w ⟨w.F, w.H, updL w.fp (.s i) [], w.lf⟩ := ⟨rfl, rfl, rfl, fun x h => (updL_has h).elim (fun z => by simp at z) id⟩
theorem wipeS_len (sl : List Sl) : ∀ own : List Nat, (wipeS sl own).length = sl.length
  | [] => rfl
  | i :: is => by simp [wipeS, wipeS_len sl is]
/-- the block's own slots forgotten -/
theorem wipe_any (Re : Rep S σ e w) : ∀ {own : List Nat}, (∀ i ∈ own, i < e.sl.length) → ∃ w', Drop w w' ∧ Rep S (wipe σ own) ⟨wipeS e.sl own, e.ps⟩ w'
  | [], _ => ⟨w, Drop.refl w, Re⟩
  | i :: is, h => by
    obtain ⟨w1, d1, R1⟩ := wipe_any Re (own := is) fun j hj => h j (List.mem_cons_of_mem _ hj)
    have hi : i < (wipeS e.sl is).length := by rw [wipeS_len]; exact h i List.mem_cons_self
    exact ⟨_, d1.trans setSl_drop, R1.setSl (s := .no) (o := none) (g := []) hi rfl List.nodup_nil fun _ z => by simp at z⟩
theorem clear_mem {sl : List Sl} : ∀ {own : List Nat}, clearS sl own = true → ∀ i ∈ own, ∃ s, sl[i]? = some s ∧ (∀ ds, s ≠ .own ds) ∧ ∀ ds, s ≠ .lea ds
  | [], _, i, h => by simp at h
  | j :: is, h, i, hi => by
    unfold clearS at h
    rw [Bool.and_eq_true] at h
    rcases List.mem_cons.mp hi with rfl | hi
    · obtain ⟨h1, _⟩ := h
      cases hs : sl[i]? with
      | none => rw [hs] at h1; cases h1
      | some s =>
        rw [hs] at h1
        cases s with
        | own _ => cases h1
        | lea _ => cases h1
        | no => exact ⟨_, rfl, fun _ z => (by cases z), fun _ z => (by cases z)⟩
        | val _ => exact ⟨_, rfl, fun _ z => (by cases z), fun _ z => (by cases z)⟩
        | lnk _ => exact ⟨_, rfl, fun _ z => (by cases z), fun _ z => (by cases z)⟩
    · exact clear_mem h.2 i hi
theorem Rep.fpNil (Re : Rep S σ e w) {i : Nat} {s : Sl} (hs : e.sl[i]? = some s) (h : ∀ ds, s ≠ .own ds) : w.fp (.s i) = [] := by
  have z := Re.slot i s hs
  cases s with
  | own ds => exact absurd rfl (h ds)
  | no => exact z
  | val _ => exact z.1
  | lea _ => exact z.1
  | lnk _ => exact z.1
theorem wipeS_get (sl : List Sl) {i : Nat} {s : Sl} : ∀ {own : List Nat}, (wipeS sl own)[i]? = some s → s = .no ∨ sl[i]? = some s
  | [], h => .inr h
  | j :: is, h => by
    unfold wipeS at h
    by_cases z : j = i
    · subst z
      by_cases hl : j < (wipeS sl is).length
      · rw [List.getElem?_set_self hl] at h
        cases h; exact .inl rfl
      · rw [List.getElem?_eq_none (by simpa using hl)] at h; cases h
    · rw [List.getElem?_set_ne z] at h
      exact wipeS_get sl h
theorem wipe_clear (Re : Rep S σ e w) : ∀ {own : List Nat}, clearS e.sl own = true → Rep S (wipe σ own) ⟨wipeS e.sl own, e.ps⟩ w
  | [], _ => Re
  | i :: is, h => by
    have h2 : clearS e.sl is = true := by unfold clearS at h; rw [Bool.and_eq_true] at h; exact h.2
    have R1 := wipe_clear Re h2
    obtain ⟨s, hs, n1, n2⟩ := clear_mem h i List.mem_cons_self
    have hi : i < (wipeS e.sl is).length := by rw [wipeS_len]; exact (List.getElem?_eq_some_iff.mp hs).1
    have R2 := R1.setSl (s := .no) (o := none) (g := []) hi rfl List.nodup_nil fun _ z => by simp at z
    rw [wo_same] at R2
    · exact R2
    · obtain ⟨s2, hs2⟩ := get_some hi
      refine R1.fpNil hs2 fun ds z => ?_
      rcases wipeS_get e.sl hs2 with y | y
      · rw [y] at z; cases z
      · rw [hs] at y; cases y; exact n1 ds z
theorem wipe_get (σ : L2.St) {j : Nat} : ∀ {own : List Nat}, j ∉ own → (wipe σ own)[j]? = σ[j]?
  | [], _ => rfl
  | i :: is, h => by
    unfold wipe
    rw [List.getElem?_set_ne fun z => h (by rw [z]; exact List.mem_cons_self)]
    exact wipe_get σ fun z => h (List.mem_cons_of_mem _ z)
theorem wipe_in (σ : L2.St) {j : Nat} : ∀ {own : List Nat}, j ∈ own → j < σ.length → (wipe σ own)[j]? = some none
  | [], h, _ => by simp at h
  | i :: is, h, hj => by
    unfold wipe
    by_cases z : i = j
    · subst z
      exact List.getElem?_set_self (by rw [wipe_length]; exact hj)
    · rw [List.getElem?_set_ne z]
      exact wipe_in σ ((List.mem_cons.mp h).resolve_left fun y => z y.symm) hj
theorem wipe_eq {own sl : List Nat} (hs : ∀ j ∈ sl, j ∈ own) (h : ∀ j, j ∉ sl → σ2[j]? = (wipe σ own)[j]?) (hl : σ2.length = (wipe σ own).length) : wipe σ2 own = wipe σ own := by
  have hl' : σ2.length = σ.length := by rw [hl, wipe_length]
  refine List.ext_getElem? fun j => ?_
  by_cases hj : j ∈ own
  · by_cases hlt : j < σ.length
    · rw [wipe_in σ hj hlt, wipe_in σ2 hj (by rw [hl']; exact hlt)]
    · rw [List.getElem?_eq_none (by rw [wipe_length, hl']; omega), List.getElem?_eq_none (by rw [wipe_length]; omega)]
  · rw [wipe_get σ2 hj, h j fun z => hj (hs j z)]
/-- the slots as they were, put back -/
def backV (σ σ2 : L2.St) : List Nat → L2.St
  | [] => σ2
  | i :: is => (backV σ σ2 is).set i (σ[i]?).join
theorem backV_len (σ σ2 : L2.St) : ∀ own : List Nat, (backV σ σ2 own).length = σ2.length
  | [] => rfl
  | i :: is => by simp [backV, backV_len σ σ2 is]
theorem backV_get (σ σ2 : L2.St) {j : Nat} : ∀ {own : List Nat}, σ2.length = σ.length → (backV σ σ2 own)[j]? = if j ∈ own then σ[j]? else σ2[j]?
  | [], _ => by simp [backV]
  | i :: is, hl => by
    unfold backV
    by_cases z : i = j
    · subst z
      rw [if_pos List.mem_cons_self]
      by_cases hj : i < σ.length
      · rw [List.getElem?_set_self (by rw [backV_len, hl]; exact hj)]
        simp [hj]
      · rw [List.getElem?_eq_none (by rw [List.length_set, backV_len, hl]; omega), List.getElem?_eq_none (by omega)]
    · rw [List.getElem?_set_ne z, backV_get σ σ2 hl]
      have : (j ∈ i :: is) ↔ j ∈ is := by simp [Ne.symm z]
      simp only [this]
theorem backV_wipe {own : List Nat} : backV σ (wipe σ own) own = σ := by
  refine List.ext_getElem? fun j => ?_
  rw [backV_get σ _ (wipe_length σ own)]
  split
  · rfl
  · rename_i h; exact wipe_get σ h
theorem backS_len (old new : List Sl) : ∀ own : List Nat, (backS old new own).length = new.length
  | [] => rfl
  | i :: is => by simp [backS, backS_len old new is]
theorem back_rep (R1 : Rep S σ e1 w1) (s : Same w1.F w2.F) (R2 : Rep S σ2 e2 w2) (hl : e1.sl.length = e2.sl.length) : ∀ {own : List Nat}, clearS e1.sl own = true → ∃ w3, Drop w2 w3 ∧ Rep S (backV σ σ2 own) ⟨backS e1.sl e2.sl own, e2.ps⟩ w3
  | [], _ => ⟨w2, Drop.refl w2, R2⟩
  | i :: is, h => by
    have h2 : clearS e1.sl is = true := by unfold clearS at h; rw [Bool.and_eq_true] at h; exact h.2
    obtain ⟨w3, d3, R3⟩ := back_rep R1 s R2 hl h2
    obtain ⟨sl, hs, n1, n2⟩ := clear_mem h i List.mem_cons_self
    have hi1 := (List.getElem?_eq_some_iff.mp hs).1
    have hi : i < (backS e1.sl e2.sl is).length := by rw [backS_len, ← hl]; exact hi1
    have hg : e1.sl.getD i .no = sl := by rw [List.getD_eq_getElem?_getD, hs]; rfl
    have z := R1.slot i sl hs
    refine ⟨_, d3.trans (setSl_drop (i := i)), ?_⟩
    show Rep S ((backV σ σ2 is).set i (σ[i]?).join) ⟨(backS e1.sl e2.sl is).set i (e1.sl.getD i .no), e2.ps⟩ _
    rw [hg]
    refine R3.setSl (s := sl) (g := []) hi ?_ List.nodup_nil fun _ z => by simp at z
    cases sl with
    | own ds => exact absurd rfl (n1 ds)
    | lea ds => exact absurd rfl (n2 ds)
    | no => rfl
    | val d =>
      obtain ⟨_, v, hv, dv⟩ := z
      exact ⟨rfl, v, hv, by show Dat S w3.F d v; rw [d3.F]; exact Dat.mono s _ _ dv⟩
    | lnk k =>
      obtain ⟨_, a, ha, hk⟩ := z
      exact ⟨rfl, a, ha, hk⟩
/-- what was lent is had alone again -/
theorem unlease_ok (s0 : Step w0 w) : ∀ {ls : List (Option Fp.Loc)} {e : Env} {w : Wo}, Step w0 w → Rep S σ e w → (∀ l ds, some l ∈ ls → e.at l = some (.lea ds) → ∃ a, LocA S σ l a ∧ w.lf a = some l ∧ w.F a = none ∧ ¬ w.has a ∧ w0.lf a = none ∧ New w0 [a]) →
    ∃ w', Step w0 w' ∧ Rep S σ (e.unlease ls) w' ∧ w'.H = w.H ∧ w'.F = w.F ∧ (∀ x, w'.has x → w.has x ∨ w.le x) ∧ ∀ x, w'.le x → w.le x
  | [], e, w, s, Re, _ => ⟨w, s, Re, rfl, rfl, fun _ h => .inl h, fun _ h => h⟩
  | none :: ls, e, w, s, Re, h => unlease_ok s0 (ls := ls) s Re fun l ds hl => h l ds (List.mem_cons_of_mem _ hl)
  | some l :: ls, e, w, s, Re, h => by
    unfold Env.unlease
    split
    · rename_i ds hl
      obtain ⟨a, la, lf1, f1, nh, l0, nw⟩ := h l ds List.mem_cons_self hl
      have hle : w.le a := by show w.lf a ≠ none; rw [lf1]; exact fun z => nomatch z
      have hp : ∃ vs, w.H a = some (.lst vs) ∧ Dats S w.F ds vs := by
        have hp := Re.at hl
        cases l with
        | s i =>
          obtain ⟨_, b, vs, e1, q1, dd, _⟩ := hp
          have := LocA.join la
          rw [this] at e1
          cases e1
          exact ⟨vs, q1, dd⟩
        | p k =>
          obtain ⟨b, eb, _, vs, q1, dd, _⟩ := hp
          have la' : S.pa[k]? = some a := la
          rw [la'] at eb
          cases eb
          exact ⟨vs, q1, dd⟩
      obtain ⟨vs, q1, dd⟩ := hp
      have fpl : w.fp l = [] := by
        have hp := Re.at hl
        cases l with
        | s i => exact hp.1
        | p k =>
          obtain ⟨b, eb, h1, _⟩ := hp
          exact h1
      have R1 : Rep S σ (e.put l (.own ds)) ⟨w.F, w.H, updL w.fp l [a], fun x => if x = a then none else w.lf x⟩ := by
        refine Re.upd l (.own ds) (.lea ds) hl (Same.refl _) Re.sub (fun x o h _ => h) (fun x h _ => Re.off x h) (fun x m hm z => ?_) (by simp) (fun x hx => ?_) (fun x hx => .inr ?_) (fun x hx _ => ?_) (fun x z => ?_) (PlRep.mk_own la (Own.of_dats q1 dd))
        · by_cases y : x = a
          · rw [y, lf1] at z; cases z; exact absurd rfl hm
          · rw [if_neg y]; exact z
        · rw [List.mem_singleton.mp hx]; exact ⟨f1, if_pos rfl⟩
        · rw [List.mem_singleton.mp hx]; exact nh
        · by_cases y : x = a
          · rw [if_pos y]
          · rw [if_neg y]; exact Classical.not_not.mp (Re.ale x hx)
        · by_cases y : x = a
          · rw [y]; exact ⟨_, q1⟩
          · exact Re.leh x (by intro t; rw [if_neg y] at z; exact z t)
      have hx1 : ∀ x, (∃ m, x ∈ updL w.fp l [a] m) → w.has x ∨ x = a := fun x hx => (updL_has hx).symm.imp id fun z => List.mem_singleton.mp z
      have s1 : Step w0 ⟨w.F, w.H, updL w.fp l [a], fun x => if x = a then none else w.lf x⟩ := by
        refine ⟨s.a, s.b, fun x o h1 n z => ?_, s.d, s.e, fun x o h1 n z y => ?_, fun x m z => ?_⟩
        · rcases hx1 x z with t | t
          · exact s.c x o h1 n t
          · exact n (nw x (by simp [t]) o h1)
        · by_cases t : x = a
          · exact y (if_pos t)
          · exact s.f x o h1 n z (fun u => y ((if_neg t).trans u))
        · by_cases t : x = a
          · rw [t, l0] at z; cases z
          · exact (if_neg t).trans (s.g x m z)
      obtain ⟨w', s', R', hH, hF, hh, hl'⟩ := unlease_ok s0 (ls := ls) s1 R1 fun l' ds' hm hat => by
        by_cases t : l' = l
        · subst t
          have : (e.put l' (.own ds)).at l' = some (.own ds) := by
            cases l' with
            | s i =>
              have hi : i < e.sl.length := by
                rcases Nat.lt_or_ge i e.sl.length with z | z
                · exact z
                · have : e.sl[i]? = none := List.getElem?_eq_none_iff.mpr z
                  simp [Env.at, this] at hl
              simp [Env.at, Env.put, Sl.ofP, hi]
            | p k =>
              have hk : k < e.ps.length := by
                rcases Nat.lt_or_ge k e.ps.length with z | z
                · exact z
                · have : e.ps[k]? = none := List.getElem?_eq_none_iff.mpr z
                  simp [Env.at, this] at hl
              simp [Env.at, Env.put, hk]
          rw [this] at hat; cases hat
        · have : (e.put l (.own ds)).at l' = e.at l' := by
            cases l' with
            | s i => cases l with
              | s j => simp only [Env.at, Env.put]; rw [List.getElem?_set_ne (fun z => t (by rw [z]))]
              | p k => rfl
            | p i => cases l with
              | s j => rfl
              | p k => simp only [Env.at, Env.put]; rw [List.getElem?_set_ne (fun z => t (by rw [z]))]
          rw [this] at hat
          obtain ⟨a', la', lf', f', nh', l0', nw'⟩ := h l' ds' (List.mem_cons_of_mem _ hm) hat
          have ne : a' ≠ a := fun z => t (by rw [z, lf1] at lf'; exact (Option.some.inj lf').symm)
          refine ⟨a', la', (if_neg ne).trans lf', f', fun z => ?_, l0', nw'⟩
          rcases hx1 a' z with y | y
          · exact nh' y
          · exact ne y
      refine ⟨w', s', R', hH, hF, fun x hx => ?_, fun x hx z => ?_⟩
      · rcases hh x hx with z | z
        · rcases hx1 x z with y | y
          · exact .inl y
          · exact .inr (by rw [y]; exact hle)
        · exact .inr fun y => z (by
            show (if x = a then none else w.lf x) = none
            split
            · rfl
            · exact y)
      · refine hl' x hx ?_
        show (if x = a then none else w.lf x) = none
        split
        · rfl
        · exact z
    · exact unlease_ok s0 (ls := ls) s Re fun l' ds' hl' => h l' ds' (List.mem_cons_of_mem _ hl')
/-- a held new list is written -/
theorem held_write (Re : Rep S σ e w) (s0 : Step w0 w) {a : Addr} (hF : w.F a = none) (hh : ¬ w.has a) (hl : ¬ w.le a) (h0 : w0.H a = none) {o : HO} : Rep S σ e ⟨w.F, upd w.H a o, w.fp, w.lf⟩ ∧ Step w0 ⟨w.F, upd w.H a o, w.fp, w.lf⟩ := by
  have ne : ∀ x, w.has x → x ≠ a := fun x hx z => hh (by rw [← z]; exact hx)
  have nl : ∀ x, w.le x → x ≠ a := fun x hx z => hl (by rw [← z]; exact hx)
  refine ⟨⟨fun b u z => ?_, Re.len, Re.plen, fun i s hs => ?_, Re.out, fun k p hp => ?_, Re.pout, Re.nd, Re.dis, Re.off, Re.ale, fun x z => ?_⟩, ⟨s0.a, fun x u h n => ?_, s0.c, s0.d, fun x u h => ?_, s0.f, s0.g⟩⟩
  · show upd w.H a o b = some u
    rw [upd_ne fun y => by rw [y, hF] at z; cases z]
    exact Re.sub b u z
  · have h := Re.slot i s hs
    cases s with
    | no => exact h
    | val d => exact h
    | own ds =>
      obtain ⟨b, e1, r⟩ := h
      exact ⟨b, e1, r.mono (Same.refl _) fun x hx => upd_ne (ne x ⟨_, hx⟩)⟩
    | lea ds =>
      obtain ⟨e1, b, vs, e2, q, r, z⟩ := h
      exact ⟨e1, b, vs, e2, by show upd w.H a o b = _; rw [upd_ne (nl b (by show w.lf b ≠ none; rw [z]; exact fun y => nomatch y))]; exact q, r, z⟩
    | lnk k => exact h
  · obtain ⟨b, eb, h⟩ := Re.par k p hp
    refine ⟨b, eb, ?_⟩
    cases p with
    | own ds =>
      have r : Own S w.F w.H b ds (w.fp (.p k)) := h
      exact Own.mono (S := S) (Same.refl _) (fun x hx => upd_ne (ne x ⟨_, hx⟩)) r
    | lea ds =>
      obtain ⟨e1, vs, q, r, z⟩ := h
      exact ⟨e1, vs, by show upd w.H a o b = _; rw [upd_ne (nl b (by show w.lf b ≠ none; rw [z]; exact fun y => nomatch y))]; exact q, r, z⟩
    | frz ds => exact h
  · obtain ⟨u, hu⟩ := Re.leh x z
    exact ⟨u, by show upd w.H a o x = some u; rw [upd_ne (nl x z)]; exact hu⟩
  · show upd w.H a o x = some u
    rw [upd_ne (ne_of_none h h0)]
    exact s0.b x u h n
  · obtain ⟨u', h'⟩ := s0.e x u h
    exact ⟨u', by show upd w.H a o x = some u'; rw [upd_ne (ne_of_none h h0)]; exact h'⟩
end
end Fp
/-! FpComp2: list comprehensions: the rule. -/
namespace Fp
open PySem PySem.Spec PyProof.Rows L2
/-- no error at all -/
abbrev W0 : WX := fun _ _ _ _ => False
theorem takes0 (X : L2.Cx) : Takes X W0 := fun u s' x => by
  obtain ⟨_, _, _, _, _, _, _, _, _, _, _, _, _, _, _, _, h⟩ := x
  exact h.elim
section
variable {S : Se} {W : WX} {σ σ2 : L2.St} {e e' e1 e2 : Env} {w w' w0 w1 w2 : Wo} {v v1 v2 : V} {r x y : Rv} {q q1 q2 : List Addr} {l : Fp.Loc} {d : D} {α β : Type}
theorem bind_inv {m : Fp.R α} {k : α → Env → Fp.R β} {b : β} (h : m.bind k = .ok b e') : ∃ a e, m = .ok a e ∧ k a e = .ok b e' := by
  cases m with
  | ok a e => exact ⟨a, e, rfl, h⟩
  | ex _ _ _ => cases h
  | bad => cases h
theorem noex_inv {m : Fp.R α} {b : α} (h : m.noex = .ok b e') : m = .ok b e' := by
  cases m with
  | ok a e => exact h
  | ex _ _ _ => cases h
  | bad => cases h
theorem compF_nx {t : Tg} {c : Env → Fp.R Bool} {ex : Env → Fp.R Rv} {own : List Nat} {s : String} {d' : D} : compF t c ex own d e ≠ .ex s d' e' := by
  unfold compF
  split
  · rename_i e1 _
    generalize ((c e1).bind fun b e => if b then (ex e).bind fun r e => (e.item r).bind fun y e => Fp.R.ok (some y) ⟨wipeS e.sl own, e.ps⟩ else .ok none ⟨wipeS e.sl own, e.ps⟩) = m
    cases m <;> exact fun z => by cases z
  · exact fun z => by cases z
theorem compL_nx {f : D → Env → Fp.R (Option D)} (hf : ∀ d e s d' e', f d e ≠ .ex s d' e') {s : String} {d' : D} : ∀ {ds : List D} {e e' : Env}, compL f ds e ≠ .ex s d' e'
  | [], e, e', h => by cases h
  | d :: ds, e, e', h => by
    unfold compL at h
    cases h1 : f d e with
    | bad => rw [h1] at h; cases h
    | ex a b c => exact hf _ _ _ _ _ h1
    | ok o e1 =>
      rw [h1, Fp.R.bind_ok] at h
      cases h2 : compL f ds e1 with
      | bad => rw [h2] at h; cases h
      | ex a b c => exact compL_nx hf h2
      | ok r e2 => rw [h2] at h; cases h
end
section
variable {X : L2.Cx} {S : Se} {W : WX} {elt tg iter : Expr} {ifs : List Expr} {scope : Scope} {own : List (Str × Nat)} {pos : Pos} {es : Env → Fp.R (List D × List (Option Fp.Loc))} {ct : Env → Fp.R Bool} {ex : Env → Fp.R Rv} {t : Tg}
/-- the comprehension as a reading -/
theorem comp_core (htS : ∀ j ∈ t.slots, j ∈ own.map (·.2)) {σ : L2.St} {H : Hp} {Q : VK}
    (h : tE S W (fun e => (es e).bind fun p e => if clearS e.sl (own.map (·.2)) then (compL (compF t ct ex (own.map (·.2))) p.1 ⟨wipeS e.sl (own.map (·.2)), e.ps⟩).bind fun ys e' => if ys.length ≤ LIM then .ok (.fresh ys) (Env.unlease ⟨backS e.sl e'.sl (own.map (·.2)), e'.ps⟩ p.2) else .bad else .bad) σ H Q) :
    tLc (iS S W es) (gT S t) (tT S W0 ct) (tE S W0 ex) (own.map (·.2)) σ H Q := by
  generalize own.map (·.2) = ow at *
  obtain ⟨e0, w0, hw, R0, g⟩ := h
  subst hw
  refine ⟨e0, w0, rfl, R0, ?_⟩
  have g : Good S W σ w0 ((es e0).bind _) (postR S σ w0 Q) := g
  refine g.bind.mono fun p e1 w1 s1 R1 g J sn ls L hD => ?_
  obtain ⟨items, lss⟩ := p
  have g : Good S W σ w0 (if clearS e1.sl ow then (compL (compF t ct ex ow) items ⟨wipeS e1.sl ow, e1.ps⟩).bind fun ys e' => if ys.length ≤ LIM then .ok (.fresh ys) (Env.unlease ⟨backS e1.sl e'.sl ow, e'.ps⟩ lss) else .bad else .bad) (postR S σ w0 Q) := g
  split at g
  case isFalse => exact g.elim
  rename_i hclr
  obtain ⟨rr, ee, hcomp⟩ : ∃ rr ee, compL (compF t ct ex ow) items ⟨wipeS e1.sl ow, e1.ps⟩ = .ok rr ee := by
    cases hc : compL (compF t ct ex ow) items ⟨wipeS e1.sl ow, e1.ps⟩ with
    | ok r e => exact ⟨r, e, rfl⟩
    | ex a b c => exact absurd hc (compL_nx fun d e s d' e' => compF_nx)
    | bad => rw [hc] at g; exact g.elim
  rw [hcomp, Fp.R.bind_ok] at g
  split at g
  case isFalse => exact g.elim
  rename_i hlen
  have D0 : w0.H L = none := by
    cases z : w0.H L with
    | none => rfl
    | some o =>
      obtain ⟨o', h'⟩ := s1.e L o z
      rw [hD] at h'; cases h'
  have snX := sn
  -- the invariant
  refine ⟨fun i m H => m = items.length - i ∧ i ≤ items.length ∧ ∃ (e : Env) (w : Wo) (ys r : List D) (q : List Addr), w.H = H ∧ Rep S (wipe σ ow) e w ∧ Step w1 w ∧ RvRep S σ w (.ref L) (.fresh ys) q ∧ New w0 q ∧ compL (compF t ct ex ow) (items.drop i) e = .ok r ee ∧ ys ++ r = rr, ⟨items.length, rfl, Nat.zero_le _, ?_⟩, ?_⟩
  · -- the beginning
    have Rw := wipe_clear R1 hclr
    have off : w1.F L = none ∧ ¬ w1.has L ∧ ¬ w1.le L := ⟨same_none R1.sub hD, R1.nofp hD, fun z => by obtain ⟨o, ho⟩ := R1.leh L z; rw [hD] at ho; cases ho⟩
    obtain ⟨Rn, sn2⟩ := held_write Rw (Step.refl w1) (o := .lst []) off.1 off.2.1 off.2.2 hD
    refine ⟨_, ⟨w1.F, upd w1.H L (.lst []), w1.fp, w1.lf⟩, [], rr, [L], rfl, Rn, sn2, ⟨L, rfl, ⟨[], [], upd_same, rfl, rfl, rfl⟩, by simp, fun x hx => by rw [List.mem_singleton.mp hx]; exact off⟩, (fun x hx o ho => by rw [List.mem_singleton.mp hx, D0] at ho; cases ho), hcomp, rfl⟩
  · rintro i m H ⟨rfl, hi, e, w, ys, r, q, rfl, Re, s, hr, nw, hc, hys⟩
    by_cases hlt : i < items.length
    · -- a turn
      obtain ⟨d, hd⟩ := get_some hlt
      have hdrop : items.drop i = d :: items.drop (i + 1) := by
        rw [List.drop_eq_getElem_cons hlt]
        congr 1
        rw [List.getElem?_eq_getElem hlt] at hd
        exact Option.some.inj hd
      rw [hdrop] at hc
      unfold compL at hc
      obtain ⟨o, e2, hf, hca⟩ := bind_inv hc
      obtain ⟨r2, e3, hcb, he⟩ := bind_inv hca
      clear hc hca
      injection he with he1 he2
      subst he2
      refine .inr ⟨sn.go i w s Re.sub hlt, fun H => ∃ (e : Env) (w : Wo) (ys r : List D) (q : List Addr), w.H = H ∧ Rep S (wipe σ ow) e w ∧ Step w1 w ∧ RvRep S σ w (.ref L) (.fresh ys) q ∧ New w0 q ∧ compL (compF t ct ex ow) (items.drop (i + 1)) e = .ok r e3 ∧ ys ++ r = rr, fun H' h' => ⟨items.length - (i + 1), by omega, rfl, hlt, h'⟩, fun x H' hy => ?_⟩
      obtain ⟨wy, rfl, sy, Ry, dx⟩ := sn.yld i w _ e x H' d s Re hd hy
      have hry := hr.step sy
      unfold compF at hf
      split at hf
      case h_2 => cases hf
      rename_i eb hb
      have hf := noex_inv hf
      obtain ⟨b, ec, hct, hf⟩ := bind_inv hf
      refine ⟨e, wy, d, eb, rfl, Ry, dx, hb, fun σ2 wt st hH Rt ag ln => ⟨wipe_eq (σ := σ) htS ag ln, eb, wt, hH, Rt, ?_⟩⟩
      rw [hct]
      intro wc sc Rc
      have hrc := (hry.step st).step sc
      have s1c := ((s.trans sy).trans st).trans sc
      have fin : ∀ {e4 : Env} {w4 : Wo} {ys4 : List D} {q4 : List Addr}, Rep S σ2 e4 w4 → Step w1 w4 → RvRep S σ w4 (.ref L) (.fresh ys4) q4 → New w0 q4 → (⟨wipeS e4.sl ow, e4.ps⟩ : Env) = e2 → ys4 ++ r2 = rr →
          ∃ (e : Env) (w : Wo) (ys r : List D) (q : List Addr), w.H = w4.H ∧ Rep S (wipe σ ow) e w ∧ Step w1 w ∧ RvRep S σ w (.ref L) (.fresh ys) q ∧ New w0 q ∧ compL (compF t ct ex ow) (items.drop (i + 1)) e = .ok r e3 ∧ ys ++ r = rr := fun {e4 w4 ys4 q4} R4 s4 h4 n4 he4 hy4 => by
        have lenE : e4.sl.length = e1.sl.length := by rw [R4.len, ln, wipe_length, R1.len]
        obtain ⟨w5, d5, R5⟩ := wipe_any R4 (own := ow) fun j hj => by
          obtain ⟨s, hs, _⟩ := clear_mem hclr j hj
          rw [lenE]
          exact (List.getElem?_eq_some_iff.mp hs).1
        rw [wipe_eq (σ := σ) htS ag ln, he4] at R5
        exact ⟨e2, w5, ys4, r2, q4, d5.H, R5, d5.step s4, d5.rv h4, n4, hcb, hy4⟩
      cases b with
      | false =>
        simp only [Bool.false_eq_true, if_false] at hf ⊢
        injection hf with hf1 hf2
        subst hf1
        simp only at he1
        exact fin Rc s1c hrc nw hf2 (by rw [he1]; exact hys)
      | true =>
        simp only [if_true] at hf ⊢
        obtain ⟨rv, ed, hex, hf⟩ := bind_inv hf
        obtain ⟨yv, ei, hit, hf⟩ := bind_inv hf
        injection hf with hf1 hf2
        subst hf1
        simp only at he1
        refine ⟨ec, wc, rfl, Rc, ?_⟩
        rw [hex]
        intro w4 s4 R4 yy q4 hr4 n4
        have hrD := hrc.step s4
        obtain ⟨w5, g5, R5, G5, oi, sub5, nd5, off5⟩ := item_ok R4 hr4 hit
        have ap : ∀ z ∈ q, z ∉ q4 := apart (v2 := yy) (y := rv) hrc n4
        have hr5 := hrD.gh G5 ap
        obtain ⟨aD, eD, ⟨vs, gD, hvs, eq, os⟩, ndq, offq⟩ := hr5
        cases eD
        have aq : L ∈ q := by rw [eq]; exact List.mem_cons_self
        obtain ⟨f1, f2, f3⟩ := offq L aq
        have lenys : vs.length = ys.length := os.len.symm
        have hlim : ys.length < LIM := by
          have : (ys ++ r).length ≤ LIM := by rw [hys]; exact hlen
          rw [← he1] at this
          simp at this
          omega
        refine ⟨vs, by rw [← G5.h]; exact hvs, by rw [lenys, ← LIM_eq]; exact hlim, ?_⟩
        rw [← G5.h]
        have hD1 : w1.H L = none := hD
        have s15 : Step w1 w5 := (s1c.trans s4).gh G5 fun x hx o ho => by
          have := n4 x hx
          cases hz : wc.H x with
          | none =>
            obtain ⟨o', h'⟩ := s1c.e x o ho
            rw [hz] at h'; cases h'
          | some u =>
            have hh := this u hz
            exact Classical.not_not.mp fun n => s1c.c x o ho n hh
        obtain ⟨R6, s6⟩ := held_write R5 s15 (o := .lst (vs ++ [yy])) f1 f2 f3 hD1
        have Dg : L ∉ gD := by rw [eq] at ndq; exact (List.nodup_cons.mp ndq).1
        have Dg5 : L ∉ g5 := fun z => ap L aq (sub5 L z)
        have dis : ∀ z ∈ gD, z ∉ g5 := fun z hz hz5 => ap z (by rw [eq]; exact List.mem_cons_of_mem _ hz) (sub5 z hz5)
        have o6 : OwnIs S w5.F (upd w5.H L (.lst (vs ++ [yy]))) (ys ++ [yv]) (vs ++ [yy]) (gD ++ g5) := by
          have z := os.app (es := [yv]) (ws := [yy]) (g := g5) ⟨yy, [], g5, [], rfl, (List.append_nil _).symm, oi, rfl, rfl⟩
          exact z.mono (Same.refl _) fun x hx => upd_ne fun y => by
            rw [y] at hx
            exact (List.mem_append.mp hx).elim Dg Dg5
        refine fin R6 s6 (q4 := L :: (gD ++ g5)) ⟨L, rfl, ⟨vs ++ [yy], gD ++ g5, upd_same, rfl, o6⟩, ?_, fun x hx => ?_⟩ (fun x hx => ?_) hf2 (by rw [List.append_assoc]; show ys ++ (yv :: r2) = rr; rw [he1]; exact hys)
        · refine List.nodup_cons.mpr ⟨fun z => (List.mem_append.mp z).elim Dg Dg5, List.nodup_append.mpr ⟨?_, nd5, fun x hx y hy z => dis x hx (z ▸ hy)⟩⟩
          rw [eq] at ndq
          exact (List.nodup_cons.mp ndq).2
        · rcases List.mem_cons.mp hx with z | hx
          · rw [z]; exact ⟨f1, f2, f3⟩
          · rcases List.mem_append.mp hx with hx | hx
            · exact offq x (by rw [eq]; exact List.mem_cons_of_mem _ hx)
            · exact off5 x hx
        · have nq4 : New w0 q4 := n4.step (s1.trans s1c)
          rcases List.mem_cons.mp hx with z | hx
          · rw [z]; exact nw L aq
          · rcases List.mem_append.mp hx with hx | hx
            · exact nw x (by rw [eq]; exact List.mem_cons_of_mem _ hx)
            · exact nq4 x (sub5 x hx)
    · -- the end
      have ei : i = items.length := by omega
      subst ei
      rw [List.drop_length] at hc
      injection hc with hc1 hc2
      subst hc1 hc2
      rw [List.append_nil] at hys
      subst hys
      refine .inl ⟨sn.stop _ w s Re.sub (Nat.le_refl _), ?_⟩
      have s0w := s1.trans s
      have hl2 : e1.sl.length = e.sl.length := by rw [R1.len, Re.len, wipe_length]
      obtain ⟨w3, d3, R3⟩ := back_rep R1 s.a Re hl2 hclr
      rw [backV_wipe] at R3
      have ls3 := ls.step s
      obtain ⟨w4, s4, R4, hH4, hF4, hh4, hl4⟩ := unlease_ok (ls := lss) (d3.step s0w) (d3.step s0w) R3 fun l ds hl hat => by
        obtain ⟨a, h1, h2, h3, h4, h5, h6, vs, h7⟩ := ls3 l hl
        exact ⟨a, h1, by rw [d3.lf]; exact h2, by rw [d3.F]; exact h3, fun z => h4 (d3.has a z), h5, h6⟩
      have hr3 := d3.rv hr
      have e4 : w4.H = w.H := hH4.trans d3.H
      rw [← e4]
      refine g w4 s4 R4 _ q (hr3.keep (by rw [hF4]; exact Same.refl _) fun x hx => ?_) nw
      obtain ⟨z1, z2, z3⟩ := hr3.off x hx
      exact ⟨by rw [hH4], by rw [hF4]; exact z1, fun z => (hh4 x z).elim z2 z3, fun z => z3 (hl4 x z)⟩
theorem s_comp (hc : X.calm = true) (hN : X.N.Nodup) (hi : PI X tg iter (iS S W es)) (ok : BlkOk X.N X.env.scope scope own) (htS : ∀ j ∈ t.slots, j ∈ own.map (·.2))
    (hg : ∀ (s : Shared) (H : Hp) (C : Addr) (cl : List (Str × Addr)) (fp : List Addr), PG (X.blk s H scope (compEnvC scope cl C X.env) fp) tg (gT S t)) (ht : ∀ (s : Shared) (H : Hp) (C : Addr) (cl : List (Str × Addr)) (fp : List Addr), PTs (X.blk s H scope (compEnvC scope cl C X.env) fp) ifs (tT S W0 ct))
    (he : ∀ (s : Shared) (H : Hp) (C : Addr) (cl : List (Str × Addr)) (fp : List Addr), PE (X.blk s H scope (compEnvC scope cl C X.env) fp) elt (tE S W0 ex)) (hs : ∀ x, foldedSetIterable iter X.env x = pure x) :
    PE X (.ListComp elt [⟨tg, iter, ifs, 0⟩] scope pos) (tE S W fun e => (es e).bind fun p e => if clearS e.sl (own.map (·.2)) then (compL (compF t ct ex (own.map (·.2))) p.1 ⟨wipeS e.sl (own.map (·.2)), e.ps⟩).bind fun ys e' => if ys.length ≤ LIM then .ok (.fresh ys) (Env.unlease ⟨backS e.sl e'.sl (own.map (·.2)), e'.ps⟩ p.2) else .bad else .bad) :=
  PE.imp (pe_lc hc hN hi ok hg ht he hs) fun σ H Q h => comp_core htS h
theorem PTs.imp {X : L2.Cx} {cs : List Expr} {t t' : TT} (h : PTs X cs t) (k : ∀ σ H Q, t' σ H Q → t σ H Q) : PTs X cs t' := ⟨fun pins s σ H Q I z => h.run pins s σ H Q I (k σ H Q z)⟩
theorem ts_nil : PTs X [] (tT S W fun e => .ok true e) := PTs.imp pts_nil fun σ H Q ⟨e, w, hw, R, g⟩ => by
  subst hw
  exact g w (Step.refl w) R
end
end Fp
/-! FpStmt: statements. -/
namespace Fp
open PySem PySem.Spec PyProof.Rows L2
/-- what a statement is to reach -/
def GS (S : Se) (W : WX) (w0 : Wo) (m : SR) (E : Ends) : Prop :=
  match m with
  | .nx e => ∀ σ w, Step w0 w → Rep S σ e w → E.nx σ w.H
  | .bk e => ∀ σ w, Step w0 w → Rep S σ e w → E.bk σ w.H
  | .ct e => ∀ σ w, Step w0 w → Rep S σ e w → E.ct σ w.H
  | .ret r e => ∀ σ w v q, Step w0 w → Rep S σ e w → RvRep S σ w v r q → New w0 q → E.rt v w.H
  | .ex c d e => ∀ σ C dx w u, S.cl c = some C → Step w0 w → Rep S σ e w → w.F dx = some (.xd [(("value" : Str), u)]) → Dat S w.F d u → W (.ref C) (some dx) σ w.H
  | .bad => False
def tSm (S : Se) (W : WX) (ev : Env → SR) : TS := fun E σ H => ∃ e w, w.H = H ∧ Rep S σ e w ∧ GS S W w (ev e) E
section
variable {S : Se} {W : WX} {σ σ2 : L2.St} {e e' e1 e2 : Env} {w w' w0 w1 w2 : Wo} {v v1 v2 : V} {r x y : Rv} {q q1 q2 : List Addr} {l : Fp.Loc} {d : D} {α β : Type} {E E' : Ends}
theorem GS.base (s : Step w0 w1) {m : SR} (g : GS S W w0 m E) : GS S W w1 m E := by
  cases m with
  | nx e => exact fun σ w t => g σ w (s.trans t)
  | bk e => exact fun σ w t => g σ w (s.trans t)
  | ct e => exact fun σ w t => g σ w (s.trans t)
  | ret r e => exact fun σ w v q t R h n => g σ w v q (s.trans t) R h (n.step s)
  | ex c d e => exact fun σ C dx w u hc t => g σ C dx w u hc (s.trans t)
  | bad => exact g
theorem GS.st {m : Fp.R α} {k : α → Env → SR} (g : GS S W w0 (m.st k) E) : Good S W σ w0 m fun a e _ => GS S W w0 (k a e) E := by
  cases m with
  | ok a e => exact fun w s R => g
  | ex c d e => exact g σ
  | bad => exact g
/-- an expression, then the rest -/
theorem tE.st {ev : Env → Fp.R Rv} {k : Rv → Env → SR} {Q : VK} {H : Hp} (hw : w.H = H) (R : Rep S σ e w) (g : GS S W w ((ev e).st k) E)
    (h : ∀ v r q e w', Step w w' → Rep S σ e w' → RvRep S σ w' v r q → New w q → GS S W w (k r e) E → Q v w'.H) : tE S W ev σ H Q :=
  ⟨e, w, hw, R, g.st.mono fun r e' w' s R' g' v q hr n => h v r q e' w' s R' hr n g'⟩
theorem tT.st {ev : Env → Fp.R Bool} {k : Bool → Env → SR} {Q : Bool → Hp → Prop} {H : Hp} (hw : w.H = H) (R : Rep S σ e w) (g : GS S W w ((ev e).st k) E)
    (h : ∀ b e w', Step w w' → Rep S σ e w' → GS S W w (k b e) E → Q b w'.H) : tT S W ev σ H Q :=
  ⟨e, w, hw, R, g.st.mono fun r e' w' s R' g' => h r e' w' s R' g'⟩
theorem tA.st {ev : Env → Fp.R (List Rv)} {k : List Rv → Env → SR} {Q : List V → Hp → Prop} {H : Hp} (hw : w.H = H) (R : Rep S σ e w) (g : GS S W w ((ev e).st k) E)
    (h : ∀ vs rs q e w', Step w w' → Rep S σ e w' → RvReps S σ w' vs rs q → New w q → q.Nodup → GS S W w (k rs e) E → Q vs w'.H) : tA S W ev σ H Q :=
  ⟨e, w, hw, R, g.st.mono fun rs e' w' s R' g' vs q hr n nd => h vs rs q e' w' s R' hr n nd g'⟩
/-- further on in one expression after another -/
theorem tE.st2 {ev : Env → Fp.R Rv} {k : Rv → Env → SR} {Q : VK} (s0 : Step w0 w) (R : Rep S σ e w) (g : GS S W w0 ((ev e).st k) E)
    (h : ∀ v r q e w', Step w w' → Step w0 w' → Rep S σ e w' → RvRep S σ w' v r q → New w0 q → New w q → GS S W w0 (k r e) E → Q v w'.H) : tE S W ev σ w.H Q :=
  ⟨e, w, rfl, R, (g.st.base s0).mono fun r e' w' s R' g' v q hr n => h v r q e' w' s g'.1 R' hr (n.step s0) n g'.2⟩

theorem tT.st2 {ev : Env → Fp.R Bool} {k : Bool → Env → SR} {Q : Bool → Hp → Prop} (s0 : Step w0 w) (R : Rep S σ e w) (g : GS S W w0 ((ev e).st k) E)
    (h : ∀ b e w', Step w w' → Step w0 w' → Rep S σ e w' → GS S W w0 (k b e) E → Q b w'.H) : tT S W ev σ w.H Q :=
  ⟨e, w, rfl, R, (g.st.base s0).mono fun b e' w' s R' g' => h b e' w' s g'.1 R' g'.2⟩
/-- a turn of a loop -/
theorem GS.turn {m : SR} {k : Env → SR} {N : L2.St → Hp → Prop} (s0 : Step w0 w) (g : GS S W w0 (m.turn k) E) (h : ∀ σ e w', Step w w' → Rep S σ e w' → GS S W w0 (k e) E → N σ w'.H) : GS S W w m { E with nx := N, ct := N, bk := E.nx } := by
  cases m with
  | nx e => exact fun σ w' s R => h σ e w' s R g
  | ct e => exact fun σ w' s R => h σ e w' s R g
  | bk e => exact fun σ w' s R => g σ w' (s0.trans s) R
  | ret r e => exact fun σ w' v q s R hr n => g σ w' v q (s0.trans s) R hr (n.step s0)
  | ex c d e => exact fun σ C dx w' u hc s => g σ C dx w' u hc (s0.trans s)
  | bad => exact g
/-! ### several names at once -/
/-- a slot's coming content -/
def SlNew (S : Se) (w : Wo) (s : Sl) (v : V) (g : List Addr) : Prop := (∃ d, s = .val d ∧ g = [] ∧ Dat S w.F d v) ∨ ∃ ds a, s = .own ds ∧ v = .ref a ∧ Own S w.F w.H a ds g ∧ g.Nodup ∧ Off w g
theorem SlNew.gh (G : Gh w w' q) {s : Sl} {g : List Addr} (d : ∀ x ∈ g, x ∉ q) (h : SlNew S w s v g) : SlNew S w' s v g := by
  rcases h with ⟨d0, e1, e2, h⟩ | ⟨ds, a, e1, e2, o, n, off⟩
  · exact .inl ⟨d0, e1, e2, Dat.mono G.a _ _ h⟩
  · exact .inr ⟨ds, a, e1, e2, o.mono G.a (fun x _ => by rw [G.h]), n, off.gh G d⟩
theorem SlNew.set {s : Sl} {g g' : List Addr} {i : Fp.Loc} (d : ∀ x ∈ g, x ∉ g') (h : SlNew S w s v g) : SlNew S ⟨w.F, w.H, updL w.fp i g', w.lf⟩ s v g := by
  rcases h with h | ⟨ds, a, e1, e2, o, n, off⟩
  · exact .inl h
  · exact .inr ⟨ds, a, e1, e2, o, n, fun x hx => ⟨(off x hx).1, fun z => (updL_has z).elim (d x hx) (off x hx).2.1, (off x hx).2.2⟩⟩
theorem SlNew.put (Re : Rep S σ e w) {s : Sl} {g : List Addr} (h : SlNew S w s v g) {i : Nat} (hi : i < e.sl.length) : Rep S (σ.set i (some v)) ⟨e.sl.set i s, e.ps⟩ ⟨w.F, w.H, updL w.fp (.s i) g, w.lf⟩ := by
  rcases h with ⟨d, rfl, rfl, h⟩ | ⟨ds, a, rfl, rfl, o, n, off⟩
  · exact Re.setVal hi h
  · exact Re.setSl hi ⟨a, rfl, o⟩ n off
theorem ofRv_new (Re : Rep S σ e w) (r1 : RvRep S σ w v x q) {s : Sl} (h : Sl.ofRv e x = .ok s e') : ∃ w' g, Rep S σ e' w' ∧ Gh w w' q ∧ (∀ y ∈ g, y ∈ q) ∧ SlNew S w' s v g := by
  cases x with
  | val d => cases h; exact ⟨w, [], Re, (Gh.refl w).mono (by simp), by simp, .inl ⟨d, rfl, rfl, r1.2⟩⟩
  | fresh ds =>
    cases h
    obtain ⟨a, rfl, o, nd, off⟩ := r1
    exact ⟨w, q, Re, (Gh.refl w).mono (by simp), fun y hy => hy, .inr ⟨ds, a, rfl, rfl, o, nd, off⟩⟩
  | loc l =>
    unfold Sl.ofRv at h
    simp only at h
    rcases asVal_nx (e := e) (x := .loc l) with ⟨d, e1, h1⟩ | h1
    · rw [h1] at h
      cases h
      obtain ⟨w', R', G, dd⟩ := asVal_ok Re r1 h1
      exact ⟨w', [], R', G, by simp, .inl ⟨d, rfl, rfl, dd⟩⟩
    · rw [h1] at h; cases h
theorem ofRv_nx {e : Env} {x : Rv} : (∃ s e', Sl.ofRv e x = .ok s e') ∨ Sl.ofRv e x = .bad := by
  cases x with
  | val d => exact .inl ⟨_, _, rfl⟩
  | fresh ds => exact .inl ⟨_, _, rfl⟩
  | loc l =>
    unfold Sl.ofRv
    simp only
    rcases asVal_nx (e := e) (x := .loc l) with ⟨d, e1, h1⟩ | h1
    · rw [h1]; exact .inl ⟨_, _, rfl⟩
    · rw [h1]; exact .inr rfl
theorem bindPar_nx : ∀ {is : List Nat} {rs : List Rv} {e : Env}, (∃ e', bindPar is rs e = .ok () e') ∨ bindPar is rs e = .bad
  | [], [], e => .inl ⟨_, rfl⟩
  | [], _ :: _, e => .inr rfl
  | _ :: _, [], e => .inr rfl
  | i :: is, r :: rs, e => by
    unfold bindPar
    rcases ofRv_nx (e := e) (x := r) with ⟨s, e1, h1⟩ | h1
    · rw [h1, Fp.R.bind_ok]
      rcases bindPar_nx (is := is) (rs := rs) (e := e1) with ⟨e2, h2⟩ | h2
      · rw [h2, Fp.R.bind_ok]
        split
        · exact .inl ⟨_, rfl⟩
        · exact .inr rfl
      · rw [h2]; exact .inr rfl
    · rw [h1]; exact .inr rfl
def setAll (σ : L2.St) : List Nat → List V → L2.St
  | i :: is, v :: vs => (setAll σ is vs).set i (some v)
  | _, _ => σ
theorem bindPar_ok : ∀ {is : List Nat} {rs : List Rv} {vs : List V} {q : List Addr} {e e' : Env} {w : Wo}, Rep S σ e w → RvReps S σ w vs rs q → q.Nodup → bindPar is rs e = .ok () e' →
    ∃ w', w'.H = w.H ∧ Rep S (setAll σ is vs) e' w' ∧ (∀ w0, Step w0 w → New w0 q → Step w0 w') ∧ ∀ s v g, SlNew S w s v g → (∀ x ∈ g, x ∉ q) → SlNew S w' s v g
  | [], [], vs, q, e, e', w, Re, r, nd, h => by
    cases h
    obtain ⟨rfl, rfl⟩ := r
    exact ⟨w, rfl, Re, fun _ s _ => s, fun _ _ _ h _ => h⟩
  | [], _ :: _, vs, q, e, e', w, Re, r, nd, h => by cases h
  | _ :: _, [], vs, q, e, e', w, Re, r, nd, h => by cases h
  | i :: is, x :: rs, vs, q, e, e', w, Re, r, nd, h => by
    obtain ⟨v, us, f, g, rfl, rfl, r1, r2⟩ := r
    have nd' := List.nodup_append.mp nd
    have dis : ∀ x ∈ g, x ∉ f := fun x hx hf => nd'.2.2 x hf x hx rfl
    unfold bindPar at h
    rcases ofRv_nx (e := e) (x := x) with ⟨s, e1, h1⟩ | h1
    · rw [h1, Fp.R.bind_ok] at h
      obtain ⟨w1, gs, R1, G1, sub, new⟩ := ofRv_new Re r1 h1
      rcases bindPar_nx (is := is) (rs := rs) (e := e1) with ⟨e2, h2⟩ | h2
      · rw [h2, Fp.R.bind_ok] at h
        split at h
        · rename_i hi
          cases h
          obtain ⟨w2, hH, R2, st, keep⟩ := bindPar_ok R1 (r2.gh G1 dis) nd'.2.1 h2
          have new2 := keep s v gs new fun x hx hg => dis x hg (sub x hx)
          refine ⟨⟨w2.F, w2.H, updL w2.fp (.s i) gs, w2.lf⟩, hH.trans G1.h, new2.put R2 hi, fun w0 s0 n0 => ?_, fun s' v' g' h' d' => ?_⟩
          · have s1 := s0.gh G1 fun x hx => n0 x (List.mem_append_left _ hx)
            exact (st w0 s1 fun x hx => n0 x (List.mem_append_right _ hx)).setSl (i := .s i) fun x hx => n0 x (List.mem_append_left _ (sub x hx))
          · refine (keep s' v' g' (h'.gh G1 fun x hx hf => d' x hx (List.mem_append_left _ hf)) fun x hx hg => d' x hx (List.mem_append_right _ hg)).set fun x hx hs => d' x hx (List.mem_append_left _ (sub x hs))
        · cases h
      · rw [h2] at h; cases h
    · rw [h1] at h; cases h
end
section
variable {X : L2.Cx} {S : Se} {W : WX} {a b c tg : Expr} {ea eb ec : Env → Fp.R Rv} {tc : Env → Fp.R Bool} {pos p p' pc pt : Pos} {es rest : List Expr} {eas : Env → Fp.R (List Rv)} {st : Stmt} {sts body orelse : List Stmt} {m n : Env → SR}
theorem PS.imp {st : Stmt} {t t' : TS} (h : PS X st t) (k : ∀ D σ H, t' D σ H → t D σ H) : PS X st t' := ⟨fun pins s σ H D I z => h.run pins s σ H D I (k D σ H z)⟩
theorem PSs.imp {st : List Stmt} {t t' : TS} (h : PSs X st t) (k : ∀ D σ H, t' D σ H → t D σ H) : PSs X st t' := ⟨fun pins s σ H D I z => h.run pins s σ H D I (k D σ H z)⟩
theorem st_nil : PSs X [] (tSm S W fun e => .nx e) := PSs.imp pss_nil fun D σ H ⟨e, w, hw, R, g⟩ => by
  subst hw
  exact g σ w (Step.refl w) R
theorem st_cons (h1 : PS X st (tSm S W m)) (h2 : PSs X sts (tSm S W n)) : PSs X (st :: sts) (tSm S W fun e => (m e).andThen n) :=
  PSs.imp (pss_cons h1 h2) fun D σ H ⟨e, w, hw, R, g⟩ => by
    refine ⟨e, w, hw, R, ?_⟩
    have g : GS S W w ((m e).andThen n) D := g
    cases hm : m e with
    | nx e1 =>
      rw [hm] at g
      exact fun σ w' s R' => ⟨e1, w', rfl, R', g.base s⟩
    | bk _ => rw [hm] at g; exact g
    | ct _ => rw [hm] at g; exact g
    | ret _ _ => rw [hm] at g; exact g
    | ex _ _ _ => rw [hm] at g; exact g
    | bad => rw [hm] at g; exact g
theorem st_nev : PS X st (tSm S W fun _ => .bad) := ⟨fun _ _ _ _ _ _ ⟨_, _, _, _, g⟩ => g.elim⟩
theorem st_pas : PS X (.Pass pos) (tSm S W fun e => .nx e) := PS.imp ps_pass fun D σ H ⟨e, w, hw, R, g⟩ => by
  subst hw
  exact g σ w (Step.refl w) R
theorem st_doc {x : Str} {j : Nat} : PS X (.Expr (.Constant (.str x) j p) pos) (tSm S W fun e => .nx e) := PS.imp ps_doc fun D σ H ⟨e, w, hw, R, g⟩ => by
  subst hw
  exact g σ w (Step.refl w) R
theorem st_brk : PS X (.Break pos) (tSm S W fun e => .bk e) := PS.imp ps_break fun D σ H ⟨e, w, hw, R, g⟩ => by
  subst hw
  exact g σ w (Step.refl w) R
theorem st_cnt : PS X (.Continue pos) (tSm S W fun e => .ct e) := PS.imp ps_continue fun D σ H ⟨e, w, hw, R, g⟩ => by
  subst hw
  exact g σ w (Step.refl w) R
theorem st_exp (ha : PE X a (tE S W ea)) (hs : swapsWith a none pos.line X.env = pure false) : PS X (.Expr a pos) (tSm S W fun e => (ea e).st fun _ e => .nx e) :=
  PS.imp (ps_expr ha hs) fun D σ H ⟨e, w, hw, R, g⟩ => tE.st hw R g fun v r q e w' s R' hr n g => g σ w' s R'
theorem st_ret (ha : PE X a (tE S W ea)) : PS X (.Return (some a) pos) (tSm S W fun e => (ea e).st fun r e => .ret r e) :=
  PS.imp (ps_ret ha) fun D σ H ⟨e, w, hw, R, g⟩ => tE.st hw R g fun v r q e w' s R' hr n g => g σ w' v q s R' hr n
theorem st_retn : PS X (.Return none pos) (tSm S W fun e => .ret (.val .non) e) := PS.imp ps_retN fun D σ H ⟨e, w, hw, R, g⟩ => by
  subst hw
  exact g σ w .non [] (Step.refl w) R ⟨rfl, rfl⟩ (New.nil _)
theorem st_if (hc : PT X c (tT S W tc)) (ha : PSs X sts (tSm S W m)) (hb : PSs X orelse (tSm S W n)) : PS X (.If c sts orelse pos) (tSm S W fun e => (tc e).st fun t e => if t then m e else n e) :=
  PS.imp (ps_if hc ha hb) fun D σ H ⟨e, w, hw, R, g⟩ => tT.st (Q := fun b H1 => if b = true then tSm S W m D σ H1 else tSm S W n D σ H1) hw R g fun t e w' s R' g => by
    cases t with
    | true => exact ⟨e, w', rfl, R', g.base s⟩
    | false => exact ⟨e, w', rfl, R', g.base s⟩
/-- name = .. -/
theorem set_core {i : Nat} {σ : L2.St} {e : Env} {w w0 : Wo} {v : V} {r : Rv} {q : List Addr} {D : Ends} (s : Step w0 w) (R : Rep S σ e w) (hr : RvRep S σ w v r q) (n : New w0 q) (g : GS S W w0 ((bindT (.nm i) r e).st fun _ e => .nx e) D) : D.nx (σ.set i (some v)) w.H := by
  unfold bindT at g
  simp only at g
  rcases ofRv_nx (e := e) (x := r) with ⟨sl, e1, h1⟩ | h1
  · rw [h1, Fp.R.bind_ok] at g
    obtain ⟨w1, gs, R1, G1, sub, new⟩ := ofRv_new R hr h1
    split at g
    · rename_i hi
      have := g _ _ ((s.gh G1 n).setSl (i := .s i) fun x hx => n x (sub x hx)) (new.put R1 hi)
      rw [← G1.h]
      exact this
    · exact g.elim
  · rw [h1] at g; exact g.elim
theorem st_set {i : Nat} {x : Str} (hN : X.N.Nodup) (hi : X.N[i]? = some x) (hx : L2.Loc X.env.scope x) (hf : X.fn x = true ∨ X.env.scope.names.lookup x = some .local) (ha : PE X a (tE S W ea)) (hs : swapsWith a (some (.Name x p')) pos.line X.env = pure false) :
    PS X (.Assign [.Name x p'] a pos) (tSm S W fun e => (ea e).st fun r e => (bindT (.nm i) r e).st fun _ e => .nx e) :=
  PS.imp (ps_set hN hi hx ha hs hf) fun D σ H ⟨e, w, hw, R, g⟩ => tE.st hw R g fun v r q e w' s R' hr n g => set_core s R' hr n g
/-- (a, b) = .. -/
theorem st_tup {ts : List Tg} {tgs : List Expr} {k : Nat} (hg : PG X (.Tuple tgs k pt) (gT S (.tp ts))) (ha : PE X a (tE S W ea)) (hs : swapsWithSole [.Tuple tgs k pt] a pos.line X.env = pure false) (hw : swappedStores [.Tuple tgs k pt] a X.env = pure none)
    (h1 : (assignEach [.Tuple tgs k pt] X.env).map (·.2) = [assign (.Tuple tgs k pt) X.env]) : PS X (.Assign [.Tuple tgs k pt] a pos) (tSm S W fun e => (ea e).st fun r e => (bindT (.tp ts) r e).st fun _ e => .nx e) :=
  PS.imp (ps_asg ha hg hs hw h1) fun D σ H ⟨e, w, hw, R, g⟩ => tE.st hw R g fun v r q e w' s R' hr n g => by
    unfold bindT at g
    simp only at g
    rcases asVal_nx (e := e) (x := r) with ⟨d, e1, h⟩ | h
    · rw [h, Fp.R.bind_ok] at g
      obtain ⟨w1, R1, G1, dd⟩ := asVal_ok R' hr h
      cases hb : bindD (.tp ts) d e1 with
      | none => rw [hb] at g; exact g.elim
      | some e2 =>
        rw [hb] at g
        rw [← G1.h]
        refine ⟨e1, w1, d, e2, rfl, R1, dd, hb, fun σ2 w2 s2 hH R2 _ _ => ?_⟩
        rw [← hH]
        exact g σ2 w2 ((s.gh G1 n).trans s2) R2
    · rw [h] at g; exact g.elim
/-- a, b = x, y -/
theorem par_core {is : List Nat} {σ : L2.St} {e : Env} {w w0 : Wo} {vs : List V} {rs : List Rv} {q : List Addr} {D : Ends} (s : Step w0 w) (R : Rep S σ e w) (hr : RvReps S σ w vs rs q) (n : New w0 q) (nd : q.Nodup) (g : GS S W w0 ((bindPar is rs e).st fun _ e => .nx e) D) :
    rs.length = is.length ∧ D.nx (setAll σ is vs) w.H := by
  have lenP : ∀ {is : List Nat} {rs : List Rv} {e e' : Env}, bindPar is rs e = .ok () e' → rs.length = is.length := by
    intro is
    induction is with
    | nil =>
      intro rs e e' h
      cases rs with
      | nil => rfl
      | cons _ _ => cases h
    | cons i is ih =>
      intro rs e e' h
      cases rs with
      | nil => cases h
      | cons r rs =>
        unfold bindPar at h
        obtain ⟨s, e1, _, h⟩ := bind_inv h
        obtain ⟨_, e2, h2, _⟩ := bind_inv h
        simp [ih h2]
  rcases bindPar_nx (is := is) (rs := rs) (e := e) with ⟨e1, h1⟩ | h1
  · rw [h1] at g
    obtain ⟨w1, hH, R1, st, _⟩ := bindPar_ok R hr nd h1
    refine ⟨lenP h1, ?_⟩
    rw [← hH]
    exact g _ w1 (st w0 s n) R1
  · rw [h1] at g; exact g.elim
theorem st_par2 {i j : Nat} {x y : Str} {px py : Pos} {kt k2 : Nat} {pt2 : Pos} (hc : X.calm = true) (hN : X.N.Nodup) (hi : X.N[i]? = some x) (hj : X.N[j]? = some y) (hij : i ≠ j)
    (hx : X.env.scope.names.lookup x = some .local) (hy : X.env.scope.names.lookup y = some .local) (ha : PA X [a, b] (tA S W eas))
    (hw : swappedStores [.Tuple [.Name x px, .Name y py] kt pt] (.Tuple [a, b] k2 pt2) X.env = pure (some [x, y])) (hs : swapsWithSole [.Tuple [.Name x px, .Name y py] kt pt] (.Tuple [a, b] k2 pt2) pos.line X.env = pure false) :
    PS X (.Assign [.Tuple [.Name x px, .Name y py] kt pt] (.Tuple [a, b] k2 pt2) pos) (tSm S W fun e => (eas e).st fun rs e => (bindPar [i, j] rs e).st fun _ e => .nx e) :=
  PS.imp (ps_par hc hN hi hj hij hx hy ha hw hs) fun D σ H ⟨e, w, hw, R, g⟩ => tA.st hw R g fun vs rs q e w' s R' hr n nd g => by
    obtain ⟨l, h⟩ := par_core s R' hr n nd g
    have l2 := hr.len
    match vs, l2, h with
    | [], l2, h => rw [l] at l2; cases l2
    | [_], l2, h => rw [l] at l2; cases l2
    | _ :: _ :: _ :: _, l2, h => rw [l] at l2; simp at l2
    | [v, u], l2, h => exact ⟨v, u, rfl, by rw [List.set_comm _ _ hij]; exact h⟩
theorem st_par3 {i j k : Nat} {x y z : Str} {px py pz : Pos} {kt k2 : Nat} {pt2 : Pos} (hc : X.calm = true) (hN : X.N.Nodup) (hi : X.N[i]? = some x) (hj : X.N[j]? = some y) (hk : X.N[k]? = some z) (hij : i ≠ j) (hik : i ≠ k) (hjk : j ≠ k)
    (hx : X.env.scope.names.lookup x = some .local) (hy : X.env.scope.names.lookup y = some .local) (hz : X.env.scope.names.lookup z = some .local) (ha : PA X [a, b, c] (tA S W eas))
    (hw : swappedStores [.Tuple [.Name x px, .Name y py, .Name z pz] kt pt] (.Tuple [a, b, c] k2 pt2) X.env = pure (some [x, y, z])) (hs : swapsWithSole [.Tuple [.Name x px, .Name y py, .Name z pz] kt pt] (.Tuple [a, b, c] k2 pt2) pos.line X.env = pure false) :
    PS X (.Assign [.Tuple [.Name x px, .Name y py, .Name z pz] kt pt] (.Tuple [a, b, c] k2 pt2) pos) (tSm S W fun e => (eas e).st fun rs e => (bindPar [i, j, k] rs e).st fun _ e => .nx e) :=
  PS.imp (ps_par3 hc hN hi hj hk hij hik hjk hx hy hz ha hw hs) fun D σ H ⟨e, w, hw, R, g⟩ => tA.st hw R g fun vs rs q e w' s R' hr n nd g => by
    obtain ⟨l, h⟩ := par_core s R' hr n nd g
    have l2 := hr.len
    match vs, l2, h with
    | [], l2, h => rw [l] at l2; cases l2
    | [_], l2, h => rw [l] at l2; cases l2
    | [_, _], l2, h => rw [l] at l2; cases l2
    | _ :: _ :: _ :: _ :: _, l2, h => rw [l] at l2; simp at l2
    | [v, u, t], l2, h =>
      refine ⟨v, u, t, rfl, ?_⟩
      have h : D.nx (((σ.set k (some t)).set j (some u)).set i (some v)) w'.H := h
      rw [List.set_comm (some u) (some v) (Ne.symm hij), List.set_comm (some t) (some v) (Ne.symm hik), List.set_comm (some t) (some u) (Ne.symm hjk)] at h
      exact h
/-! ### loops -/
theorem st_while (hp : PassesOwn (model X.prog X.w) X.A X.env X.xe) (hc : PT X c (tT S W tc)) (hb : PSs X body (tSm S W m)) : PS X (.While c body [] pos) (tSm S W fun e => whileE tc m e) :=
  PS.imp (ps_while hp hc hb) fun D σ H ⟨e, w, hw, R, g⟩ => by
    have g : GS S W w (whileE tc m e) D := g
    obtain ⟨k, hk⟩ := whileE_some (c := tc) (b := m) (e := e) fun z => by rw [z] at g; exact g
    rw [← hk] at g
    refine ⟨fun k σ H => ∃ e w', w'.H = H ∧ Rep S σ e w' ∧ Step w w' ∧ GS S W w (whileN tc m k e) D, ⟨k, e, w, hw, R, Step.refl w, g⟩, ?_⟩
    rintro k σ H ⟨e, w1, rfl, R1, s1, g⟩
    cases k with
    | zero => exact g.elim
    | succ k =>
      rw [whileN_succ] at g
      refine tT.st2 s1 R1 g fun t e w2 s2 s02 R2 g => ?_
      cases t with
      | false => exact g σ w2 s02 R2
      | true =>
        simp only [if_true] at g ⊢
        exact ⟨fun σ H => ∃ e w', w'.H = H ∧ Rep S σ e w' ∧ Step w w' ∧ GS S W w (whileN tc m k e) D, fun σ' H' h => ⟨k, Nat.lt_succ_self k, h⟩, e, w2, rfl, R2, g.turn s02 fun σ e w' s R' g' => ⟨e, w', rfl, R', s02.trans s, g'⟩⟩
theorem st_for {es : Env → Fp.R (List D × List (Option Fp.Loc))} {t : Tg} {it : Expr} (hp : PassesOwn (model X.prog X.w) X.A X.env X.xe) (hc : X.calm = true) (hi : PI X tg it (iS S W es)) (hg : PG X tg (gT S t)) (hb : PSs X body (tSm S W m)) (hs : ∀ x, foldedSetIterable it X.env x = pure x) :
    PS X (.For tg it body [] pos) (tSm S W fun e => (es e).st fun p e => forL (fun d e => match bindD t d e with
      | some e => m e
      | none => .bad) p.1 e) :=
  PS.imp (ps_for hp hc hi hg hb hs) fun D σ H ⟨e0, w0, hw, R0, g⟩ => by
    subst hw
    refine ⟨e0, w0, rfl, R0, ?_⟩
    have g : GS S W w0 ((es e0).st fun p e => forL (fun d e => match bindD t d e with
      | some e => m e
      | none => .bad) p.1 e) D := g
    refine g.st.mono fun p e1 w1 s1 R1 g J sn ls => ?_
    obtain ⟨items, lss⟩ := p
    refine ⟨fun i k σ H => k = items.length - i ∧ i ≤ items.length ∧ ∃ e w, w.H = H ∧ Rep S σ e w ∧ Step w1 w ∧ GS S W w0 (forL (fun d e => match bindD t d e with
      | some e => m e
      | none => .bad) (items.drop i) e) D, ⟨items.length, rfl, Nat.zero_le _, e1, w1, rfl, R1, Step.refl w1, g⟩, ?_⟩
    rintro i k σ H ⟨rfl, hi, e, w, rfl, Re, s, g⟩
    by_cases hlt : i < items.length
    · obtain ⟨d, hd⟩ := get_some hlt
      have hdrop : items.drop i = d :: items.drop (i + 1) := by
        rw [List.drop_eq_getElem_cons hlt]
        congr 1
        rw [List.getElem?_eq_getElem hlt] at hd
        exact Option.some.inj hd
      rw [hdrop] at g
      refine .inr ⟨sn.go i w s Re.sub hlt, fun σ H => ∃ e w, w.H = H ∧ Rep S σ e w ∧ Step w1 w ∧ GS S W w0 (forL (fun d e => match bindD t d e with
        | some e => m e
        | none => .bad) (items.drop (i + 1)) e) D, fun σ' H' h => ⟨items.length - (i + 1), by omega, rfl, hlt, h⟩, fun x H' hy => ?_⟩
      obtain ⟨wy, rfl, sy, Ry, dx⟩ := sn.yld i w _ e x H' d s Re hd hy
      unfold forL at g
      cases hb : bindD t d e with
      | none => rw [hb] at g; exact g.elim
      | some eb =>
        rw [hb] at g
        refine ⟨e, wy, d, eb, rfl, Ry, dx, hb, fun σ2 wt st hH Rt _ _ => ⟨eb, wt, hH, Rt, ?_⟩⟩
        have s1t := (s.trans sy).trans st
        exact g.turn (s1.trans s1t) fun σ e w' s' R' g' => ⟨e, w', rfl, R', s1t.trans s', g'⟩
    · have ei : i = items.length := by omega
      subst ei
      rw [List.drop_length] at g
      exact .inl ⟨sn.stop _ w s Re.sub (Nat.le_refl _), g σ w (s1.trans s) Re⟩
end
end Fp
/-! FpStmt2: stores into lists, +=, a comprehension on a name's own line. -/
namespace Fp
open PySem PySem.Spec PyProof.Rows L2
section
variable {S : Se} {W : WX} {σ σ2 : L2.St} {e e' e1 e2 : Env} {w w' w0 w1 w2 : Wo} {v v1 v2 : V} {r x y : Rv} {q q1 q2 : List Addr} {l : Fp.Loc} {d : D} {α β : Type} {E E' : Ends}
/-- an item is put in another's place -/
theorem OwnIs.put : ∀ {ds : List D} {vs : List V} {g gn : List Addr} {F H : Hp} {j : Nat} {d : D} {v : V}, OwnIs S F H ds vs g → g.Nodup → OwnI S F H d v gn → j < ds.length →
    ∃ g1 g2, OwnIs S F H (ds.set j d) (vs.set j v) (g1 ++ gn ++ g2) ∧ (∀ x ∈ g1, x ∈ g) ∧ (∀ x ∈ g2, x ∈ g) ∧ (g1 ++ g2).Nodup
  | [], _, _, _, _, _, _, _, _, _, _, _, h => by simp at h
  | x :: ds, vs, g, gn, F, H, 0, d, v, h, nd, o, _ => by
    obtain ⟨u, us, f, g', rfl, rfl, t, r⟩ := h
    exact ⟨[], g', ⟨v, us, gn, g', rfl, rfl, o, r⟩, fun _ h => by simp at h, fun y hy => List.mem_append_right _ hy, (List.nodup_append.mp nd).2.1⟩
  | x :: ds, vs, g, gn, F, H, j + 1, d, v, h, nd, o, hj => by
    obtain ⟨u, us, f, g', rfl, rfl, t, r⟩ := h
    have nd' := List.nodup_append.mp nd
    obtain ⟨g1, g2, r2, k1, k2, n2⟩ := OwnIs.put (j := j) r nd'.2.1 o (by simpa using hj)
    refine ⟨f ++ g1, g2, ⟨u, us.set j v, f, g1 ++ gn ++ g2, rfl, by simp, t, r2⟩, fun y hy => ?_, fun y hy => List.mem_append_right _ (k2 y hy), ?_⟩
    · rcases List.mem_append.mp hy with hy | hy
      · exact List.mem_append_left _ hy
      · exact List.mem_append_right _ (k1 y hy)
    · rw [List.append_assoc]
      refine List.nodup_append.mpr ⟨nd'.1, n2, fun a ha b hb z => ?_⟩
      rcases List.mem_append.mp hb with hb | hb
      · exact nd'.2.2 a ha b (k1 b hb) z
      · exact nd'.2.2 a ha b (k2 b hb) z
theorem setIx_ok (s0 : Step w0 w) (Re : Rep S σ e w) (r1 : ∀ l, x = .loc l → RvRep S σ w v1 (.loc l) []) (r2 : ∀ i, y = .val (.int i) → v2 = .int i) {gn : List Addr} (oi : OwnI S w.F w.H d v gn) (ndn : gn.Nodup) (off : Off w gn) (nw : New w0 gn) (h : setIx x y d e = .ok () e') :
    ∃ p xs k j w', v1 = .ref p ∧ v2 = .int k ∧ w.H p = some (.lst xs) ∧ ixN xs.length k = some j ∧ w'.H = upd w.H p (.lst (xs.set j v)) ∧ Step w0 w' ∧ Rep S σ e' w' := by
  unfold setIx at h
  split at h
  · rename_i l i
    split at h
    · rename_i ds hl
      cases hj : ixN ds.length i with
      | none => rw [hj] at h; cases h
      | some j =>
        rw [hj] at h
        injection h with _ h
        obtain ⟨a, vs, gg, q0, la, hfp, os, n2, hh, ag⟩ := Re.ownAt hl
        have hjl : j < ds.length := (ixN_seq hj).2.1
        obtain ⟨g1, g2, o2, k1, k2, n12⟩ := os.put n2 oi hjl
        have dis : ∀ z ∈ gn, z ∉ gg := fun z hz h => (off z hz).2.1 (hh z h)
        have n12' := List.nodup_append.mp n12
        obtain ⟨s2, R2⟩ := own_write (g' := g1 ++ gn ++ g2) (ds' := ds.set j d) (vs' := vs.set j v) Re s0 hl q0 la hfp o2
          (List.nodup_append.mpr ⟨List.nodup_append.mpr ⟨n12'.1, ndn, fun a ha b hb z => dis b hb (z ▸ k1 a ha)⟩, n12'.2.1, fun a ha b hb z => by
            rcases List.mem_append.mp ha with ha | ha
            · exact n12'.2.2 a ha b hb z
            · exact dis a ha (z ▸ k2 b hb)⟩)
          (fun z hz => by
            rcases List.mem_append.mp hz with hz | hz
            · rcases List.mem_append.mp hz with hz | hz
              · exact .inl (k1 z hz)
              · exact .inr (off z hz)
            · exact .inl (k2 z hz))
          (fun z hz => by
            rcases List.mem_append.mp hz with hz | hz
            · rcases List.mem_append.mp hz with hz | hz
              · exact s0.newHas hh z (k1 z hz)
              · exact nw z hz
            · exact s0.newHas hh z (k2 z hz))
        rw [h] at R2
        exact ⟨a, vs, i, j, _, rvLoc la (r1 _ rfl), r2 _ rfl, q0, by rw [← os.len]; exact hj, rfl, s2, R2⟩
    · cases h
  · cases h
theorem RvRep.toLoc (h : RvRep S σ w v x q) : ∀ l, x = .loc l → ∀ w', RvRep S σ w' v (.loc l) [] := fun l e w' => by
  subst e
  cases l with
  | s i => exact ⟨rfl, h.2⟩
  | p k => exact ⟨rfl, h.2⟩
theorem RvRep.toInt (h : RvRep S σ w v x q) : ∀ i, x = .val (.int i) → v = .int i := fun i e => by
  subst e
  exact h.2
theorem setIx_nx {x y : Rv} {d : D} {e : Env} : (∃ e', setIx x y d e = .ok () e') ∨ setIx x y d e = .bad := by
  unfold setIx
  split
  · split
    · split
      · exact .inl ⟨_, rfl⟩
      · exact .inr rfl
    · exact .inr rfl
  · exact .inr rfl
end
section
variable {X : L2.Cx} {S : Se} {W : WX} {a b c tg : Expr} {ea eb ec : Env → Fp.R Rv} {pos p p' pc pt : Pos}
/-- b[i] = x -/
theorem st_setI (ha : PE X a (tE S W ea)) (hb : PE X b (tE S W eb)) (hc : PE X c (tE S W ec)) (hs : swapsWithSole [.Subscript b c pt] a pos.line X.env = pure false) (hw : swappedStores [.Subscript b c pt] a X.env = pure none)
    (h1 : (assignEach [.Subscript b c pt] X.env).map (·.2) = [assign (.Subscript b c pt) X.env]) (h2 : ∀ v, assign (.Subscript b c pt) X.env v = (do
      let ov ← holding [v] (eval b X.env)
      let iv ← holding [v, ov] (eval c X.env)
      standAt pt
      holding [v, ov, iv] (setItem ov iv v)
      release [v, ov, iv] [])) :
    PS X (.Assign [.Subscript b c pt] a pos) (tSm S W fun e => (ea e).st fun r e => (eb e).st fun y e => (ec e).st fun z e => (e.item r).st fun d e => (setIx y z d e).st fun _ e => .nx e) :=
  PS.imp (ps_asg ha (pg_sub hb hc set_list h2) hs hw h1) fun D σ H ⟨e, w, hw, R, g⟩ => tE.st hw R g fun v r q e1 w1 s1 R1 r1 n1 g => tE.st2 s1 R1 g fun v2 y q2 e2 w2 s2 s02 R2 r2 n2 n12 g => tE.st2 s02 R2 g fun v3 z q3 e3 w3 s3 s03 R3 r3 n3 n23 g => by
    have r1' := (r1.step s2).step s3
    rcases item_nx (e := e3) (x := r) with ⟨d, e4, h⟩ | h
    · rw [h] at g
      obtain ⟨w4, gn, R4, G, oi, sub, nd, off⟩ := item_ok R3 r1' h
      have g : GS S W w ((setIx y z d e4).st fun _ e => .nx e) D := g
      rcases setIx_nx (x := y) (y := z) (d := d) (e := e4) with ⟨e5, h5⟩ | h5
      · rw [h5] at g
        obtain ⟨pa, xs, k, j, w5, e6, e7, e8, e9, e10, s5, R5⟩ := setIx_ok (s03.gh G n1) R4 (fun l hl => r2.toLoc l hl w4) r3.toInt oi nd off (fun x hx => n1 x (sub x hx)) h5
        refine ⟨pa, xs, k, j, e6, e7, by rw [← G.h]; exact e8, e9, ?_⟩
        rw [← G.h, ← e10]
        exact g σ w5 s5 R5
      · rw [h5] at g; exact g.elim
    · rw [h] at g; exact g.elim
/-- name += x -/
theorem st_aug {i : Nat} {x : Str} (hN : X.N.Nodup) (hi : X.N[i]? = some x) (hx : L2.Loc X.env.scope x) (hf : X.fn x = true ∨ X.env.scope.names.lookup x = some .local) (ha : PE X a (tE S W ea)) :
    PS X (.AugAssign (.Name x p') .Add a pos) (tSm S W fun e => (e.var i).st fun y e => match y with
    | .val (.int a) => (ea e).st fun z e => match z with
      | .val (.int b) => if i < e.sl.length then .nx ⟨e.sl.set i (.val (.int (a + b))), e.ps⟩ else .bad
      | _ => .bad
    | _ => .bad) :=
  PS.imp (ps_aug hN hi hx ha ip_add hf) fun D σ H ⟨e, w, hw, R, g⟩ => by
    subst hw
    have g : GS S W w ((e.var i).st fun y e => match y with
      | .val (.int a) => (ea e).st fun z e => match z with
        | .val (.int b) => if i < e.sl.length then .nx ⟨e.sl.set i (.val (.int (a + b))), e.ps⟩ else .bad
        | _ => .bad
      | _ => .bad) D := g
    unfold Env.var at g
    cases hs : e.sl[i]? with
    | none => rw [hs] at g; exact g.elim
    | some sl =>
      rw [hs] at g
      have h0 := R.slot i sl hs
      have bad : ∀ {l : Fp.Loc}, ¬ GS S W w ((Fp.R.ok (Rv.loc l) e).st fun y e => match y with
        | .val (.int a) => (ea e).st fun z e => match z with
          | .val (.int b) => if i < e.sl.length then .nx ⟨e.sl.set i (.val (.int (a + b))), e.ps⟩ else .bad
          | _ => .bad
        | _ => .bad) D := fun h => h
      cases sl with
      | no => exact g.elim
      | own ds => exact (bad g).elim
      | lea ds => exact (bad g).elim
      | lnk k =>
        simp only at g
        cases hp : e.ps[k]? with
        | none => rw [hp] at g; exact g.elim
        | some pp =>
          rw [hp] at g
          cases pp with
          | own ds => exact (bad g).elim
          | lea ds => exact (bad g).elim
          | frz ds => exact g.elim
      | val d =>
        cases d with
        | int m =>
          obtain ⟨_, v, hv, hd⟩ := h0
          have hv' : σ[i]? = some (some (.int m)) := by
            cases z : σ[i]? with
            | none => rw [z] at hv; cases hv
            | some t => rw [z] at hv; rw [show t = some v from hv, show v = V.int m from hd]
          refine ⟨.int m, hv', tE.st rfl R g fun v2 r q e1 w1 s1 R1 r1 n1 g => ?_⟩
          cases r with
          | val d2 =>
            cases d2 with
            | int m2 =>
              have g : GS S W w (if i < e1.sl.length then .nx ⟨e1.sl.set i (.val (.int (m + m2))), e1.ps⟩ else .bad) D := g
              split at g
              · rename_i hlt
                exact ⟨m, m2, rfl, r1.2, g _ ⟨w1.F, w1.H, updL w1.fp (.s i) [], w1.lf⟩ (s1.setSl (i := .s i) (New.nil _)) (R1.setVal (d := .int (m + m2)) hlt (v := .int (m + m2)) rfl)⟩
              · exact g.elim
            | _ => exact g.elim
          | fresh _ => exact g.elim
          | loc _ => exact g.elim
        | _ => exact g.elim
/-- o[i], by values -/
theorem get_any : PGet X (rIx X.K) := by
  intro pins s σ H o i ov iv G I ro ri h
  rcases h with ⟨p, xs, k, z, rfl, rfl, hq, he, q⟩ | ⟨p, xs, k, z, rfl, rfl, hq, he, q⟩ | ⟨z, k, c, rfl, rfl, hz, he, q⟩
  · cases ro
    obtain ⟨t, rfl⟩ := ri
    obtain ⟨its, r, pl, hz⟩ := I.list hq
    obtain ⟨j, h1, h2, h3, h4, h5⟩ := atI_get he
    obtain ⟨u, eu, ru⟩ := r.get h2
    have hl := r.length
    have hn := line63
    have fin : EP X pins σ G u s := ⟨z, H, I, ru, q⟩
    by_cases h0 : 0 ≤ k
    · have hj : k.toNat = j := by
        rw [seqIndex_of h0 h5] at h1
        exact Option.some.inj h1
      exact wpAny_getItem_list pl.isList h0 (by omega) (by rw [hj]; simpa using eu) fin
    · have hj : (k + (its.toArray.size : Int)).toNat = j := by
        rw [seqIndex_neg (by omega) h4] at h1
        rw [List.size_toArray, ← hl]
        exact Option.some.inj h1
      exact wpAny_getItem_list_neg pl.isList (by omega) (by rw [List.size_toArray] <;> omega) (by omega) (by rw [hj]; simpa using eu) fin
  · cases ro
    obtain ⟨t, rfl⟩ := ri
    obtain ⟨its, r, pl, hz⟩ := I.tuple hq
    obtain ⟨j, h1, h2, h3, h4, h5⟩ := atI_get he
    obtain ⟨u, eu, ru⟩ := r.get h2
    have hl := r.length
    have hn := line63
    exact getItem_tuple (j := j) pl (by omega) (by omega) (by rw [List.size_toArray, ← hl]; exact h1) (by simpa using eu) ⟨z, H, I, ru, q⟩
  · obtain ⟨t, rfl⟩ := ro
    obtain ⟨t', rfl⟩ := ri
    obtain ⟨j, h1, h2, h3, h4, h5⟩ := atI_get he
    have hl : z.cps.toList.length = z.length := by simp [Str.length]
    rw [hl] at h1 h4 h5
    have hn := line63
    exact getItem_str (c := c) (by rw [decide_eq_false (by omega), decide_eq_false (by omega), Bool.or_false]) (by rw [h1]; simpa using h2) ⟨.str ⟨#[c]⟩, H, I.tok _, ⟨_, rfl⟩, q⟩
theorem idx_nx {x y : Rv} {e : Env} : (∃ r e', opIdx x y e = .ok r e') ∨ opIdx x y e = .bad := by
  unfold opIdx
  repeat' split
  all_goals first
    | exact .inl ⟨_, _, rfl⟩
    | exact .inr rfl
/-- b[i] += x -/
theorem st_augI (hK : S.K = X.K) (hb : PE X b (tE S W eb)) (hc : PE X c (tE S W ec)) (ha : PE X a (tE S W ea)) (h2 : ∀ ov iv new, augStore c ov iv new = (do holding [new, ov, iv] (setItem ov iv new); release [new, ov, iv] []; pure .next)) :
    PS X (.AugAssign (.Subscript b c pt) .Add a pos) (tSm S W fun e => (eb e).st fun y e => (ec e).st fun z e => (opIdx y z e).st fun u e => match u with
    | .val (.int a) => (ea e).st fun v e => match v with
      | .val (.int c) => (setIx y z (.int (a + c)) e).st fun _ e => .nx e
      | _ => .bad
    | _ => .bad) :=
  PS.imp (ps_augS hb hc get_any ha ip_add set_list h2) fun D σ H ⟨e, w, hw, R, g⟩ => tE.st hw R g fun v y q e1 w1 s1 R1 r1 n1 g => tE.st2 s1 R1 g fun v2 z q2 e2 w2 s2 s02 R2 r2 n2 n12 g => by
    have r1' := r1.step s2
    have gg : Good S W σ w (opIdx y z e2) (postR S σ w fun x H3 => tE S W ea σ H3 fun y1 H4 => ipI (fun i j => i + j) x y1 H4 fun z1 H5 => rSetL v v2 z1 H5 fun H6 => D.nx σ H6) := by
      rcases idx_nx (x := y) (y := z) (e := e2) with ⟨u, e3, h3⟩ | h3
      · rw [h3] at g ⊢
        intro w3 s3 R3 x q3 r3 n3
        rw [Fp.R.st_ok] at g
        cases u with
        | val d =>
          cases d with
          | int m =>
            have ex : x = .int m := r3.2
            subst ex
            refine tE.st2 s3 R3 g fun y1 t q4 e4 w4 s4 s04 R4 r4 n4 n34 g => ?_
            cases t with
            | val d2 =>
              cases d2 with
              | int m2 =>
                refine ⟨m, m2, rfl, r4.2, ?_⟩
                have g : GS S W w ((setIx y z (.int (m + m2)) e4).st fun _ e => .nx e) D := g
                rcases setIx_nx (x := y) (y := z) (d := .int (m + m2)) (e := e4) with ⟨e5, h5⟩ | h5
                · rw [h5] at g
                  obtain ⟨pa, xs, k, j, w5, e6, e7, e8, e9, e10, s5, R5⟩ := setIx_ok (v := .int (m + m2)) (d := .int (m + m2)) (gn := []) s04 R4 (fun l hl => r1.toLoc l hl w4) r2.toInt ⟨rfl, rfl⟩ List.nodup_nil (fun _ h => by simp at h) (New.nil _) h5
                  refine ⟨pa, xs, k, j, e6, e7, e8, e9, ?_⟩
                  rw [← e10]
                  exact g σ w5 s5 R5
                · rw [h5] at g; exact g.elim
              | _ => exact g.elim
            | fresh _ => exact g.elim
            | loc _ => exact g.elim
          | _ => exact g.elim
        | fresh _ => exact g.elim
        | loc _ => exact g.elim
      · rw [h3] at g; exact g.elim
    rw [← hK]
    exact fin_idx s02 R2 r1' r2 n1 gg
/-- name = [..] on one line -/
theorem st_setLc {elt iter : Expr} {ifs : List Expr} {scope : Scope} {own : List (Str × Nat)} {es : Env → Fp.R (List D × List (Option Fp.Loc))} {ct : Env → Fp.R Bool} {ex : Env → Fp.R Rv} {t : Tg} {spos : Pos} {i : Nat} {y : Str}
    (hc : X.calm = true) (hN : X.N.Nodup) (hy : X.N[i]? = some y) (hyl : X.env.scope.names.lookup y = some .local) (hsw : swapsWith (.ListComp elt [⟨tg, iter, ifs, 0⟩] scope pos) (some (.Name y p')) spos.line X.env = pure true)
    (hi : PI X tg iter (iS S W es)) (ok : BlkOk X.N X.env.scope scope own) (htS : ∀ j ∈ t.slots, j ∈ own.map (·.2))
    (hg : ∀ (s : Shared) (H : Hp) (C : Addr) (cl : List (Str × Addr)) (fp : List Addr), PG (X.blk s H scope (compEnvC scope cl C X.env) fp) tg (gT S t)) (ht : ∀ (s : Shared) (H : Hp) (C : Addr) (cl : List (Str × Addr)) (fp : List Addr), PTs (X.blk s H scope (compEnvC scope cl C X.env) fp) ifs (tT S W0 ct))
    (he : ∀ (s : Shared) (H : Hp) (C : Addr) (cl : List (Str × Addr)) (fp : List Addr), PE (X.blk s H scope (compEnvC scope cl C X.env) fp) elt (tE S W0 ex)) (hs : ∀ x, foldedSetIterable iter X.env x = pure x) :
    PS X (.Assign [.Name y p'] (.ListComp elt [⟨tg, iter, ifs, 0⟩] scope pos) spos) (tSm S W fun e => ((es e).bind fun p e => if clearS e.sl (own.map (·.2)) then (compL (compF t ct ex (own.map (·.2))) p.1 ⟨wipeS e.sl (own.map (·.2)), e.ps⟩).bind fun ys e' => if ys.length ≤ LIM then .ok (.fresh ys) (Env.unlease ⟨backS e.sl e'.sl (own.map (·.2)), e'.ps⟩ p.2) else .bad else .bad).st fun r e => (bindT (.nm i) r e).st fun _ e => .nx e) :=
  PS.imp (ps_setLc hc hN hy hyl hsw hi ok hg ht he hs) fun D σ H ⟨e, w, hw, R, g⟩ => comp_core htS (tE.st hw R g fun v r q e w' s R' hr n g => set_core s R' hr n g)
end
end Fp
/-! FpFn: defs keep what the evaluator says. -/
namespace Fp
open PySem PySem.Spec PyProof.Rows L2
section
variable {S : Se} {W : WX} {σ σ2 : L2.St} {e e' e1 e2 : Env} {w w' w0 w1 w2 : Wo} {v v1 v2 : V} {r x y : Rv} {q q1 q2 : List Addr} {l : Fp.Loc} {d : D} {E E' : Ends}
/-- the def's slots are gone -/
theorem drop_slots (Re : Rep S σ e w) : ∃ w', Drop w w' ∧ Rep S [] ⟨[], e.ps⟩ w' ∧ ∀ x, w'.has x → ∃ k, x ∈ w.fp (.p k) := by
  have hp : ∀ x, (∃ m : Fp.Loc, x ∈ (fun l : Fp.Loc => match l with | .s _ => ([] : List Addr) | .p k => w.fp (.p k)) m) → ∃ k, x ∈ w.fp (.p k) := fun x ⟨m, hm⟩ => by
    cases m with
    | s i => exact absurd (show x ∈ ([] : List Addr) from hm) (by simp)
    | p k => exact ⟨k, hm⟩
  refine ⟨⟨w.F, w.H, fun l => match l with | .s _ => [] | .p k => w.fp (.p k), w.lf⟩, ⟨rfl, rfl, rfl, fun x h => let ⟨k, hk⟩ := hp x h; ⟨.p k, hk⟩⟩, ⟨Re.sub, rfl, Re.plen, fun i s h => by simp at h, fun i _ => rfl, fun k p h => ?_, fun k h => Re.pout k h, fun l => ?_, fun l l' a h1 h2 => ?_, fun x hx => ?_, fun x hx => ?_, Re.leh⟩, hp⟩
  · obtain ⟨a, ea, z⟩ := Re.par k p h
    refine ⟨a, ea, ?_⟩
    cases p <;> exact z
  · cases l with
    | s i => exact List.nodup_nil
    | p k => exact Re.nd (.p k)
  · cases l with
    | s i => exact absurd (show a ∈ ([] : List Addr) from h1) (by simp)
    | p k => cases l' with
      | s i => exact absurd (show a ∈ ([] : List Addr) from h2) (by simp)
      | p k' => exact Re.dis _ _ a h1 h2
  · obtain ⟨k, hk⟩ := hp x hx
    exact Re.off x ⟨_, hk⟩
  · obtain ⟨k, hk⟩ := hp x hx
    exact Re.ale x ⟨_, hk⟩
/-- the def's slots as it begins -/
theorem start_rep {vs : List V} {ss : List Sl} {ps : List Pst} {N : List Str} (Re : Rep S (vs.map some) ⟨ss, ps⟩ w) (hl : ss.length ≤ N.length) : Rep S (start N vs) ⟨ss ++ List.replicate (N.length - ss.length) .no, ps⟩ w := by
  have hv : ss.length = vs.length := by have := Re.len; simpa using this
  refine ⟨Re.sub, by simp [L2.start, hv], Re.plen, fun i s h => ?_, fun i h => ?_, Re.par, Re.pout, Re.nd, Re.dis, Re.off, Re.ale, Re.leh⟩
  · by_cases hi : i < ss.length
    · have h1 : ss[i]? = some s := by
        have : (ss ++ List.replicate (N.length - ss.length) Sl.no)[i]? = some s := h
        rwa [List.getElem?_append_left hi] at this
      have h2 : (start N vs)[i]? = (vs.map some)[i]? := List.getElem?_append_left (by simp; omega)
      rw [h2]
      exact Re.slot i s h1
    · have : (ss ++ List.replicate (N.length - ss.length) Sl.no)[i]? = some s := h
      rw [List.getElem?_append_right (by omega), List.getElem?_replicate] at this
      split at this
      · cases this
        exact Re.out i (by show ss.length ≤ i; omega)
      · cases this
  · exact Re.out i (by
      have : ss.length ≤ (ss ++ List.replicate (N.length - ss.length) Sl.no).length := by simp
      exact Nat.le_trans this h)
/-- the body's end is the call's end -/
theorem fin_body {m : SR} {Q : VK} {E : XK} (g : GoodC S w (finish m) Q E) : GS S (fun c d _ H => E c d H) w m { nx := fun _ H => Q .non H, rt := Q } := by
  have vals : ∀ {d : D} {ps : List Pst}, GoodC S w (.ok (.val d) ps) Q E → ∀ {σ e w' v}, e.ps = ps → Step w w' → Rep S σ e w' → Dat S w'.F d v → Q v w'.H := fun {d ps} g {σ e w' v} hp s R hd => by
    obtain ⟨w2, dr, R2, _⟩ := drop_slots R
    rw [← dr.H]
    rw [hp] at R2
    exact g v w2 [] (dr.step s) R2 ⟨rfl, by rw [dr.F]; exact hd⟩ (New.nil _)
  cases m with
  | nx e => exact fun σ w' s R => vals (d := .non) g rfl s R (v := .non) rfl
  | bk e => exact g.elim
  | ct e => exact g.elim
  | bad => exact g.elim
  | ex c d e =>
    intro σ C dx w' u hc s R hd du
    obtain ⟨w2, dr, R2, _⟩ := drop_slots R
    show E (.ref C) (some dx) w'.H
    rw [← dr.H]
    exact g C dx w2 u hc (dr.step s) R2 (by rw [dr.F]; exact hd) (by rw [dr.F]; exact du)
  | ret r e =>
    intro σ w' v q s R hr n
    cases r with
    | val d => exact vals g rfl s R hr.2
    | fresh ds =>
      obtain ⟨w2, dr, R2, _⟩ := drop_slots R
      have g : GoodC S w (.ok (.fresh ds) e.ps) Q E := g
      show Q v w'.H
      rw [← dr.H]
      exact g v w2 q (dr.step s) R2 (dr.rv (S := S) (σ := []) hr) n
    | loc l =>
      cases l with
      | s i =>
        unfold finish at g
        simp only at g
        cases hl : e.at (.s i) with
        | none => rw [hl] at g; exact g.elim
        | some p =>
          rw [hl] at g
          cases p with
          | lea ds => exact g.elim
          | frz ds => exact vals g rfl s R ((R.at hl).frzDat hr)
          | own ds =>
            obtain ⟨a, vs, gg, q0, la, hfp, os, n2, hh, ag⟩ := R.ownAt hl
            obtain ⟨w2, dr, R2, hp⟩ := drop_slots R
            have ha : w'.has a := ⟨.s i, by rw [hfp]; exact List.mem_cons_self⟩
            have hall : ∀ x ∈ a :: gg, w'.has x ∧ x ∈ w'.fp (.s i) := fun x hx => ⟨⟨.s i, by rw [hfp]; exact hx⟩, by rw [hfp]; exact hx⟩
            show Q v w'.H
            rw [← dr.H]
            refine g v w2 (a :: gg) (dr.step s) R2 ⟨a, rvLoc la hr, ⟨vs, gg, by rw [dr.H]; exact q0, rfl, by rw [dr.F, dr.H]; exact os⟩, List.nodup_cons.mpr ⟨ag, n2⟩, fun x hx => ?_⟩ (s.newHas fun x hx => (hall x hx).1)
            obtain ⟨h1, h2⟩ := hall x hx
            refine ⟨by rw [dr.F]; exact R.off x h1, fun z => ?_, fun z => R.ale x h1 (by show w'.lf x ≠ none; rw [← dr.lf]; exact z)⟩
            obtain ⟨k, hk⟩ := hp x z
            have := R.dis _ _ x hk h2
            cases this
      | p k =>
        unfold finish at g
        simp only at g
        rcases asVal_nx (e := e) (x := .loc (.p k)) with ⟨d, e1, h⟩ | h
        · rw [h] at g
          obtain ⟨w1, R1, G1, dd⟩ := asVal_ok R hr h
          show Q v w'.H
          rw [← G1.h]
          exact vals g rfl (s.gh G1 n) R1 dd
        · rw [h] at g; exact g.elim
end
section
variable {P : Program} {w : World} {K : PySem.W.Frag} {mg : Str → Option Value} {base : Heap} {x qual : Str} {params : Arguments} {body : List Stmt} {scope : Scope} {fa : Addr} {fd : FuncData} {N ps : List Str} {T : Tb} {n : Nat} {f : String} {F : Fn} {S : Se}
/-- THE RULE: a def whose body the evaluator runs -/
theorem fn_ok (FD : FunD K x qual params body scope [] [] fa fd) (Sc : FnScope N ps scope) (hT : T.fns f = some F) (hl : F.ps.length = ps.length) (hn : N.length = F.n)
    (hbody : ∀ (cdv : Value) (A : Around) (outer : List PySem.Env) (s : Shared) (H : Hp) (E : XK) (pa : List Addr), Room n (A.deeper (envOfC qual scope s.heap.objs.size fa cdv)) →
      PSs (cxOf (L2.CX P w) P w K mg base N qual scope fa cdv A outer s H E) body (tSm (S.with pa) (fun c d _ H => E c d H) (execSs (T.ct n) F.body))) :
    FnOk P w K mg base (L2.CX P w) (n + 1) fa fd ps (spF S (callN T (n + 1) f)) := by
  have open_ : ∀ {vs H Q E}, spF S (callN T (n + 1) f) vs H Q E → ∃ pa ss pst w0, w0.H = H ∧ ss.length = vs.length ∧ Rep (S.with pa) (vs.map some) ⟨ss, pst⟩ w0 ∧ ss.length = F.ps.length ∧ F.ps.length ≤ F.n ∧
      GoodC (S.with pa) w0 (finish (execSs (T.ct n) F.body ⟨ss ++ List.replicate (F.n - ss.length) .no, pst⟩)) Q E := fun {vs H Q E} h => by
    obtain ⟨pa, ss, pst, w0, e1, e2, R, _, g⟩ := h
    unfold callN at g
    rw [hT] at g
    simp only at g
    split at g
    · rename_i hh
      exact ⟨pa, ss, pst, w0, e1, e2, R, hh.1, hh.2, g⟩
    · exact g.elim
  refine FD.ok Sc (fun vs H Q E h => ?_) (fun cdv A outer s H vs Q E hr h => ?_)
  · obtain ⟨pa, ss, pst, w0, e1, e2, R, e3, e4, g⟩ := open_ h
    rw [← e2, e3, hl]
  · obtain ⟨pa, ss, pst, w0, e1, e2, R, e3, e4, g⟩ := open_ h
    refine ⟨_, hbody cdv A outer s H E pa hr, ?_⟩
    refine ⟨⟨ss ++ List.replicate (F.n - ss.length) .no, pst⟩, w0, e1, ?_, fin_body g⟩
    rw [← hn]
    exact start_rep R (by rw [e3, hn]; exact e4)
theorem fn_zero : FnOk P w K mg base (L2.CX P w) 0 fa fd ps (spF S (callN T 0 f)) := by
  have no : ∀ {vs H Q E}, ¬ spF S (callN T 0 f) vs H Q E := fun {vs H Q E} ⟨_, _, _, _, _, _, _, _, g⟩ => g
  exact ⟨fun vs H Q E h => (no h).elim, fun A outer s H args us vs Q E hr e0 hb r h => (no h).elim⟩
end
end Fp
/-! FpTr: the text led over into the evaluator's syntax. -/
namespace Fp
open PySem
/-- the names of the module: defs, constants, calls by keyword that are proved to bind -/
structure Gt where
  fns : List (Str × String)
  glo : List (Str × String)
  kws : List (String × List String × Nat)
  pars : String → Option (List String)
  gcd : Bool
def isStar : Expr → Bool
  | .Starred _ _ => true
  | _ => false
def isTup : Expr → Bool
  | .Tuple _ _ _ => true
  | _ => false
def isSet : Expr → Bool
  | .Set _ _ _ => true
  | _ => false
def isSlice : Expr → Bool
  | .Slice _ _ _ _ => true
  | _ => false
def isComp : Expr → Bool
  | .ListComp _ _ _ _ => true
  | .SetComp _ _ _ _ => true
  | .DictComp _ _ _ _ _ => true
  | _ => false
def plainO : Expr → Bool
  | .Name _ _ => true
  | .Subscript _ _ _ => true
  | .Attribute _ _ _ => true
  | _ => false
def noStar (es : List Expr) : Bool := es.all fun e => !isStar e
def visB (sc : Scope) (x : Str) : Bool :=
  match sc.names.lookup x with
  | some .local => true
  | some .cell => true
  | some .free => true
  | _ => false
def locB (sc : Scope) (x : Str) : Bool :=
  match sc.names.lookup x with
  | some .local => true
  | some .cell => true
  | _ => false
def localB (sc : Scope) (x : Str) : Bool :=
  match sc.names.lookup x with
  | some .local => true
  | _ => false
def glB (sc : Scope) (x : Str) : Bool :=
  match sc.names.lookup x with
  | some .globalImplicit => true
  | _ => false
def bopIs : Operator → Option Bop
  | .Add => some .add
  | .Sub => some .sub
  | .Mult => some .mul
  | .FloorDiv => some .fdiv
  | .Mod => some .mod
  | .Pow => some .pow
  | _ => none
def copIs : CmpOp → Option Cop
  | .Eq => some .eq
  | .NotEq => some .ne
  | .Lt => some .lt
  | .LtE => some .le
  | .Gt => some .gt
  | .GtE => some .ge
  | .Is => some .is
  | .IsNot => some .isnot
  | .In => some .isin
  | .NotIn => some .notin
def blt1N : List (Str × String) := [("len", "len"), ("abs", "abs"), ("int", "int"), ("tuple", "tuple"), ("list", "list"), ("all", "all"), ("any", "any"), ("sum", "sum")]
def blt2N : List (Str × String) := [("min", "min"), ("max", "max")]
def clsN : List (Str × String) := [("int", "int"), ("bool", "bool"), ("str", "str"), ("tuple", "tuple"), ("list", "list")]
/-- the builtins that the module must not hide -/
def bltAll : List Str := ["len", "abs", "int", "tuple", "list", "all", "any", "sum", "min", "max", "bool", "str", "isinstance", "range", "enumerate", "zip"]
def dbg (x : Str) : Bool := (x == ("__debug__" : Str)) || (x == ("__classdict__" : Str))
def clsOf (sc : Scope) : List Expr → Option (List String)
  | [] => some []
  | .Name x _ :: es => if glB sc x && !dbg x then match clsN.lookup x, clsOf sc es with
    | some c, some cs => some (c :: cs)
    | _, _ => none else none
  | _ => none
/-- isinstance -/
def isiEx (sc : Scope) (y : Ex) (c : Expr) : Ex :=
  match c with
  | .Tuple cs _ _ => if noStar cs then match clsOf sc cs with
    | some (c :: cs) => if cs.length < 900 then .isi y (c :: cs) else .nev
    | _ => .nev else .nev
  | .Name x q => match clsOf sc [.Name x q] with
    | some [c] => .isi y [c]
    | _ => .nev
  | _ => .nev
def ownOf (N : List Str) (scope : Scope) : List (Str × Nat) := scope.names.filterMap fun y => match y.2 with
  | .local => (N.idxOf? y.1).map fun i => (y.1, i)
  | .cell => (N.idxOf? y.1).map fun i => (y.1, i)
  | _ => none
def kwNames : List Keyword → Option (List Str)
  | [] => some []
  | ⟨some x, _, _⟩ :: ks => (kwNames ks).map (x :: ·)
  | _ => none
/-- a keyword's name as the evaluator has it -/
def kwStr (ps : List String) (x : Str) : Option String := ps.find? fun p => decide (Str.ofString p = x)
def kwStrs (ps : List String) : List Str → Option (List String)
  | [] => some []
  | x :: xs => match kwStr ps x, kwStrs ps xs with
    | some p, some q => some (p :: q)
    | _, _ => none

mutual
def trTg (N : List Str) (sc : Scope) (fnc : Str → Bool) : Nat → Expr → Option Tg
  | 0, _ => none
  | n + 1, .Name x _ => match N.idxOf? x with
    | some i => if locB sc x && (fnc x || localB sc x) then some (.nm i) else none
    | none => none
  | n + 1, .Tuple es _ _ => if noStar es then (trTgs N sc fnc n es).map .tp else none
  | _ + 1, _ => none
def trTgs (N : List Str) (sc : Scope) (fnc : Str → Bool) : Nat → List Expr → Option (List Tg)
  | _, [] => some []
  | 0, _ :: _ => none
  | n + 1, e :: es => match trTg N sc fnc n e, trTgs N sc fnc n es with
    | some t, some ts => some (t :: ts)
    | _, _ => none
end
mutual
def trE (G : Gt) (N : List Str) : Nat → Scope → Expr → Ex
  | 0, _, _ => .nev
  | n + 1, sc, e => match e with
    | .Constant (.int i) _ _ => .cst (.int i)
    | .Constant (.bool b) _ _ => .cst (.bl b)
    | .Constant .none _ _ => .cst .non
    | .Constant (.str x) _ _ => .cst (.str x)
    | .Name x _ => if dbg x then .nev else if visB sc x then match N.idxOf? x with
        | some i => .var i
        | none => .nev
      else if glB sc x then match G.glo.lookup x with
        | some c => .glo c
        | none => .nev
      else .nev
    | .BinOp a o b _ => match bopIs o with
      | some o => .bin o (trE G N n sc a) (trE G N n sc b)
      | none => .nev
    | .UnaryOp .USub a _ => .neg (trE G N n sc a)
    | .UnaryOp .Not a _ => .not (trE G N n sc a)
    | .BoolOp .And es _ => trAnd G N n sc es
    | .BoolOp .Or es _ => trOr G N n sc es
    | .IfExp c a b _ => .ite (trT G N n sc c) (trE G N n sc a) (trE G N n sc b)
    | .Compare a [o] [b] _ => if isSet b then .nev else match copIs o with
      | some o => .cmp o (trE G N n sc a) (trE G N n sc b)
      | none => .nev
    | .Compare a [o, o'] [b, c] _ => if isSet c then .nev else match copIs o, copIs o' with
      | some o, some o' => .chain o o' (trE G N n sc a) (trE G N n sc b) (trE G N n sc c)
      | _, _ => .nev
    | .Tuple es _ _ => if noStar es then .tup (trEs G N n sc es) else .nev
    | .List es _ => if noStar es then .lst (trEs G N n sc es) else .nev
    | .Dict [] [] _ => .dic0
    | .Subscript a (.Slice lo hi none _) _ => .slc (trE G N n sc a) (trO G N n sc lo) (trO G N n sc hi)
    | .Subscript a b _ => if isSlice b then .nev else .idx (trE G N n sc a) (trE G N n sc b)
    | .ListComp x [⟨tg, it, ifs, 0⟩] scope _ => if isSet it then .nev else if L2.blkC N sc scope (ownOf N scope) then
        match trTg N (L2.relS scope sc) (fun y => scope.names.lookup y == some .cell) n tg, ifs with
        | some t, [] => if t.slots.all fun j => decide (j ∈ (ownOf N scope).map (·.2)) then .comp (trE G N n (L2.relS scope sc) x) t (trSrc G N n sc tg it) none ((ownOf N scope).map (·.2)) else .nev
        | some t, [c] => if t.slots.all fun j => decide (j ∈ (ownOf N scope).map (·.2)) then .comp (trE G N n (L2.relS scope sc) x) t (trSrc G N n sc tg it) (some (trT G N n (L2.relS scope sc) c)) ((ownOf N scope).map (·.2)) else .nev
        | _, _ => .nev
      else .nev
    | .Call (.Attribute o m ap) es [] p => if plainO o && noStar es && (ap.endLine == p.line) then
        if m == "append" then match es with
          | [a] => .meth "append" (trE G N n sc o) [trE G N n sc a]
          | _ => .nev
        else if m == "pop" then match es with
          | [] => .meth "pop" (trE G N n sc o) []
          | [a] => .meth "pop" (trE G N n sc o) [trE G N n sc a]
          | _ => .nev
        else .nev
      else .nev
    | .Call (.Name x _) es [] _ => if dbg x || !glB sc x || !noStar es then .nev else match G.fns.lookup x with
      | some f => match es with
        | [] => .nev
        | a :: es => .call f (trEs G N n sc (a :: es))
      | none => match blt1N.lookup x, blt2N.lookup x, es with
        | some b, _, [a] => .blt b [trE G N n sc a]
        | _, some b, [a, c] => .blt b [trE G N n sc a, trE G N n sc c]
        | _, _, [a, c] => if x == "gcd" then (if G.gcd then .blt "gcd" [trE G N n sc a, trE G N n sc c] else .nev)
          else if x == "isinstance" then isiEx sc (trE G N n sc a) c
          else .nev
        | _, _, _ => .nev
    | .Call (.Name x _) es (k :: ks) _ => if dbg x || !glB sc x || !noStar es then .nev else match G.fns.lookup x with
      | some f => match G.pars f, kwNames (k :: ks) with
        | some ps, some xs => match kwStrs ps xs with
          | some ys => if decide ((f, ys, es.length) ∈ G.kws) && (kwPerm ps ys es.length).isSome && decide ((trKs G N n sc ys (k :: ks)).map (·.1) = ys) then .callk f (trEs G N n sc es) (trKs G N n sc ys (k :: ks)) else .nev
          | none => .nev
        | _, _ => .nev
      | none => .nev
    | _ => .nev
/-- and, or: the first, the rest -/
def trAnd (G : Gt) (N : List Str) : Nat → Scope → List Expr → Ex
  | _, _, [] => .nev
  | 0, _, _ => .nev
  | n + 1, sc, [a] => trE G N n sc a
  | n + 1, sc, a :: b :: es => .and (trE G N n sc a) (trAnd G N n sc (b :: es))
def trOr (G : Gt) (N : List Str) : Nat → Scope → List Expr → Ex
  | _, _, [] => .nev
  | 0, _, _ => .nev
  | n + 1, sc, [a] => trE G N n sc a
  | n + 1, sc, a :: b :: es => .or (trE G N n sc a) (trOr G N n sc (b :: es))
/-- a test -/
def trT (G : Gt) (N : List Str) : Nat → Scope → Expr → Ex
  | 0, _, _ => .nev
  | n + 1, sc, e => match e with
    | .UnaryOp .Not a _ => .not (trT G N n sc a)
    | .BoolOp .And es _ => trTAnd G N n sc es
    | .BoolOp .Or es _ => trTOr G N n sc es
    | .IfExp _ _ _ _ => .nev
    | .Compare a [o] [b] _ => if isSet b then .nev else match copIs o with
      | some o => .cmp o (trE G N n sc a) (trE G N n sc b)
      | none => .nev
    | .Compare _ _ _ _ => .nev
    | e => match trE G N n sc e with
      | .and _ _ => .nev
      | .or _ _ => .nev
      | .not _ => .nev
      | x => x
def trTAnd (G : Gt) (N : List Str) : Nat → Scope → List Expr → Ex
  | _, _, [] => .nev
  | 0, _, _ => .nev
  | n + 1, sc, [a] => trT G N n sc a
  | n + 1, sc, a :: b :: es => .and (trT G N n sc a) (trTAnd G N n sc (b :: es))
def trTOr (G : Gt) (N : List Str) : Nat → Scope → List Expr → Ex
  | _, _, [] => .nev
  | 0, _, _ => .nev
  | n + 1, sc, [a] => trT G N n sc a
  | n + 1, sc, a :: b :: es => .or (trT G N n sc a) (trTOr G N n sc (b :: es))
def trEs (G : Gt) (N : List Str) : Nat → Scope → List Expr → List Ex
  | _, _, [] => []
  | 0, _, _ :: _ => [.nev]
  | n + 1, sc, a :: es => trE G N n sc a :: trEs G N n sc es
def trKs (G : Gt) (N : List Str) : Nat → Scope → List String → List Keyword → List (String × Ex)
  | _, _, _, [] => []
  | 0, _, _, _ :: _ => [("", .nev)]
  | n + 1, sc, y :: ys, k :: ks => (y, trE G N n sc k.value) :: trKs G N n sc ys ks
  | n + 1, sc, [], k :: ks => [("", .nev)]
def trO (G : Gt) (N : List Str) : Nat → Scope → Option Expr → Option Ex
  | _, _, none => none
  | 0, _, some _ => some .nev
  | n + 1, sc, some a => some (trE G N n sc a)
def trSrc (G : Gt) (N : List Str) : Nat → Scope → Expr → Expr → Src
  | 0, _, _, _ => .ov .nev
  | n + 1, sc, tg, e => match e with
    | .Call (.Name x _) es [] _ => if dbg x || !glB sc x || !noStar es then .ov .nev
      else if x == "range" then match es with
        | [a] => .rng (trE G N n sc a)
        | [a, b] => .rng2 (trE G N n sc a) (trE G N n sc b)
        | _ => .ov .nev
      else if x == "enumerate" then match es with
        | [a] => if isTup tg then .enu (trE G N n sc a) else .ov .nev
        | _ => .ov .nev
      else if x == "zip" then match es with
        | [a, b] => if isTup tg then .zip (trE G N n sc a) (trE G N n sc b) else .ov .nev
        | _ => .ov .nev
      else .ov (trE G N n sc e)
    | e => .ov (trE G N n sc e)
end
/-- whether a comprehension is stored on its own line by the swap -/
def lcSwap (sc : Scope) (y : Str) (py : Pos) (scope : Scope) (pos : Pos) : Bool := localB sc y && (py.line == pos.line) && !(scope.names.any fun p => p.1 == y && (p.2 == .local || p.2 == .cell))
def parOk (sc : Scope) (l : Nat) : List Expr → Option (List Str)
  | [] => some []
  | .Name x p :: es => if localB sc x && (p.line == l) then (parOk sc l es).map (x :: ·) else none
  | _ => none
def lineOf : List Expr → Nat
  | e :: _ => e.pos.line
  | [] => 0
mutual
def trS (G : Gt) (N : List Str) : Nat → Scope → Stmt → Sm
  | 0, _, _ => .nev
  | n + 1, sc, s => match s with
    | .Assign [.Name x p] a pos => match N.idxOf? x with
      | some i => if locB sc x then (match a with
        | .ListComp _ _ scope q => if lcSwap sc x p scope q then .asg (.nm i) (trE G N (n + 1) sc a) else .asg (.nm i) (trE G N n sc a)
        | _ => if isComp a then .nev else .asg (.nm i) (trE G N n sc a)) else .nev
      | none => .nev
    | .Assign [.Tuple ts _ _] a _ => if isComp a then .nev else match a with
      | .Tuple vs _ _ => if vs.all (foldedForSure 8) || decide (3 < ts.length) then (match trTg N sc (fun _ => true) n (.Tuple ts 0 ⟨0, 0, 0, 0⟩) with
          | some t => .asg t (trE G N n sc a)
          | none => .nev)
        else match ts with
          | [.Name x p, .Name y q] => if localB sc x && localB sc y && (p.line == q.line) && decide (x ≠ y) then
              (if noStar vs && !(vs.all (constantsAlone 8)) then match vs with
                | [a, b] => match N.idxOf? x, N.idxOf? y with
                  | some i, some j => .par [i, j] [trE G N n sc a, trE G N n sc b]
                  | _, _ => .nev
                | _ => .nev else .nev)
            else match trTg N sc (fun _ => true) n (.Tuple ts 0 ⟨0, 0, 0, 0⟩) with
              | some t => .asg t (trE G N n sc a)
              | none => .nev
          | [.Name x p, .Name y q, .Name z r] => if localB sc x && localB sc y && localB sc z && (p.line == q.line) && (p.line == r.line) then
              (if noStar vs && !(vs.all (constantsAlone 8)) && decide (x ≠ y) && decide (x ≠ z) && decide (y ≠ z) then match vs with
                | [a, b, c] => match N.idxOf? x, N.idxOf? y, N.idxOf? z with
                  | some i, some j, some k => .par [i, j, k] [trE G N n sc a, trE G N n sc b, trE G N n sc c]
                  | _, _, _ => .nev
                | _ => .nev else .nev)
            else match trTg N sc (fun _ => true) n (.Tuple ts 0 ⟨0, 0, 0, 0⟩) with
              | some t => .asg t (trE G N n sc a)
              | none => .nev
          | _ => .nev
      | a => match trTg N sc (fun _ => true) n (.Tuple ts 0 ⟨0, 0, 0, 0⟩) with
          | some t => .asg t (trE G N n sc a)
          | none => .nev
    | .Assign [.Subscript b c _] a _ => if isSlice c then .nev else .setI (trE G N n sc b) (trE G N n sc c) (trE G N n sc a)
    | .AugAssign (.Name x _) .Add a _ => match N.idxOf? x with
      | some i => if locB sc x then .aug i (trE G N n sc a) else .nev
      | none => .nev
    | .AugAssign (.Subscript b c _) .Add a _ => if isSlice c then .nev else .augI (trE G N n sc b) (trE G N n sc c) (trE G N n sc a)
    | .If c a b _ => .ite (trT G N n sc c) (trSs G N n sc a) (trSs G N n sc b)
    | .While c b [] _ => .whl (trT G N n sc c) (trSs G N n sc b)
    | .For tg it b [] _ => if isSet it then .nev else match trTg N sc (fun _ => true) n tg with
      | some t => .for_ t (trSrc G N n sc tg it) (trSs G N n sc b)
      | none => .nev
    | .Return (some a) _ => .ret (trE G N n sc a)
    | .Return none _ => .retn
    | .Expr (.Constant (.str _) _ _) _ => .pas
    | .Expr a _ => if isComp a then .nev else .exp (trE G N n sc a)
    | .Pass _ => .pas
    | .Break _ => .brk
    | .Continue _ => .cnt
    | _ => .nev
def trSs (G : Gt) (N : List Str) : Nat → Scope → List Stmt → List Sm
  | _, _, [] => []
  | 0, _, _ :: _ => [.nev]
  | n + 1, sc, s :: ss => trS G N n sc s :: trSs G N n sc ss
end
-- the names of the blocks within
mutual
def colE : Nat → Expr → List Str
  | 0, _ => []
  | n + 1, e => match e with
    | .BoolOp _ es _ => colEs n es
    | .BinOp a _ b _ => colE n a ++ colE n b
    | .UnaryOp _ a _ => colE n a
    | .IfExp a b c _ => colE n a ++ colE n b ++ colE n c
    | .Compare a _ es _ => colE n a ++ colEs n es
    | .Tuple es _ _ => colEs n es
    | .List es _ => colEs n es
    | .Subscript a b _ => colE n a ++ colE n b
    | .Slice a b _ _ => colEs n (a.toList ++ b.toList)
    | .Attribute a _ _ => colE n a
    | .Call f es ks _ => colE n f ++ colEs n es ++ colEs n (ks.map fun k => k.value)
    | .ListComp x gs scope _ => (scope.names.filterMap fun y => match y.2 with
      | .local => some y.1
      | .cell => some y.1
      | _ => none) ++ colE n x ++ colEs n (gs.flatMap fun g => g.iter :: g.ifs)
    | _ => []
def colEs : Nat → List Expr → List Str
  | _, [] => []
  | 0, _ => []
  | n + 1, e :: es => colE n e ++ colEs n es
end
mutual
def colS : Nat → Stmt → List Str
  | 0, _ => []
  | n + 1, s => match s with
    | .Assign ts a _ => colEs n ts ++ colE n a
    | .AugAssign t _ a _ => colE n t ++ colE n a
    | .If c a b _ => colE n c ++ colSs n a ++ colSs n b
    | .While c a b _ => colE n c ++ colSs n a ++ colSs n b
    | .For _ it a b _ => colE n it ++ colSs n a ++ colSs n b
    | .Return (some a) _ => colE n a
    | .Expr a _ => colE n a
    | _ => []
def colSs : Nat → List Stmt → List Str
  | _, [] => []
  | 0, _ => []
  | n + 1, s :: ss => colS n s ++ colSs n ss
end
def namesOf (ps : List Str) (sc : Scope) (body : List Stmt) : List Str := (ps ++ (sc.names.filterMap fun y => match y.2 with
  | .local => some y.1
  | .cell => some y.1
  | _ => none) ++ colSs 200 body).eraseDups
end Fp
/-! FpEq: the evaluator's equations; what the text's helpers do at plain expressions. -/
namespace Fp
open PySem PySem.Spec PyProof.Rows L2
section
variable {C : Ct} {a b c : Ex} {es : List Ex}
theorem ev_nev : evalE C .nev = fun _ => .bad := by funext e; rw [evalE]
theorem ev_cst {d : D} : evalE C (.cst d) = fun e => .ok (.val d) e := by funext e; rw [evalE]
theorem ev_var {i : Nat} : evalE C (.var i) = fun e => e.var i := by funext e; rw [evalE]
theorem ev_glo {x : String} : evalE C (.glo x) = fun e => match C.glo x with | some d => .ok (.val d) e | none => .bad := by funext e; rw [evalE] <;> rfl
theorem ev_bin {o : Bop} : evalE C (.bin o a b) = fun e => (evalE C a e).bind fun x e => (evalE C b e).bind fun y e => opBin o x y e := by funext e; rw [evalE]
theorem ev_neg : evalE C (.neg a) = fun e => (evalE C a e).bind fun x e => match x with
    | .val (.int i) => .ok (.val (.int (-i))) e
    | _ => .bad := by funext e; rw [evalE] <;> rfl
theorem ev_not : evalE C (.not a) = fun e => ((evalE C a e).bind fun x e => (opTru x e).bind fun b e => .ok (!b) e).blV := by funext e; rw [evalE]
theorem ev_cmp {o : Cop} : evalE C (.cmp o a b) = fun e => ((evalE C a e).bind fun x e => (evalE C b e).bind fun y e => opCmp o x y e).blV := by funext e; rw [evalE]
theorem ev_chain {o o' : Cop} : evalE C (.chain o o' a b c) = fun e => ((evalE C a e).bind fun x e => (evalE C b e).bind fun y e => match x, y with
    | .val (.int i), .val (.int j) => match cmpI o i j with
      | some t => if t then (evalE C c e).bind fun z e => opCmp o' (.val (.int j)) z e else .ok false e
      | none => .bad
    | _, _ => .bad).blV := by funext e; rw [evalE] <;> rfl
theorem ev_and : evalE C (.and a b) = fun e => (evalE C a e).bind fun x e => match x with
    | .val (.bl true) => evalE C b e
    | .val (.bl false) => .ok (.val (.bl false)) e
    | _ => .bad := by funext e; rw [evalE] <;> rfl
theorem ev_or : evalE C (.or a b) = fun e => (evalE C a e).bind fun x e => match x with
    | .val (.bl true) => .ok (.val (.bl true)) e
    | .val (.bl false) => evalE C b e
    | _ => .bad := by funext e; rw [evalE] <;> rfl
theorem ev_ite : evalE C (.ite c a b) = fun e => (evalT C c e).bind fun t e => if t then evalE C a e else evalE C b e := by funext e; rw [evalE]
theorem ev_tup : evalE C (.tup es) = fun e => (evalEs C es e).bind fun rs e => (e.asVals rs).bind fun ds e => if ds.length ≤ LIM then .ok (.val (.tup ds)) e else .bad := by funext e; rw [evalE]
theorem ev_lst : evalE C (.lst es) = fun e => (evalEs C es e).bind fun rs e => (e.items rs).bind fun ds e => if ds.length ≤ LIM then .ok (.fresh ds) e else .bad := by funext e; rw [evalE]
theorem ev_dic0 : evalE C .dic0 = fun e => .ok (.val (.dic [] [])) e := by funext e; rw [evalE]
theorem ev_idx : evalE C (.idx a b) = fun e => (evalE C a e).bind fun x e => (evalE C b e).bind fun y e => opIdx x y e := by funext e; rw [evalE]
theorem ev_slc {lo hi : Option Ex} : evalE C (.slc a lo hi) = fun e => (evalE C a e).bind fun x e => (evalO C lo e).bind fun l e => (evalO C hi e).bind fun h e => (e.peek x).bind fun d e => opSlc d l h e := by funext e; rw [evalE]
theorem ev_call {f : String} : evalE C (.call f es) = fun e => (evalEs C es e).bind fun rs e => doCall C f rs e := by funext e; rw [evalE]
theorem ev_callk {f : String} {ks : List (String × Ex)} {ps : List String} (h : C.pars f = some ps) : evalE C (.callk f es ks) = fun e => (evalEs C es e).bind fun rs e => (evalKs C ks e).bind fun ws e => match kwRvs ps (ks.map (·.1)) rs ws with
      | some us => doCall C f us e
      | none => .bad := by funext e; rw [evalE, h] <;> rfl
theorem ev_blt {f : String} : evalE C (.blt f es) = fun e => (evalEs C es e).bind fun rs e => opBlt f rs e := by funext e; rw [evalE]
theorem ev_isi {cs : List String} : evalE C (.isi a cs) = fun e => (evalE C a e).bind fun x e => (e.peek x).bind fun d e => match isAny C d cs with
    | some b => .ok (.val (.bl b)) e
    | none => .bad := by funext e; rw [evalE] <;> rfl
theorem ev_comp {t : Tg} {s : Src} {k : Option Ex} {own : List Nat} : evalE C (.comp a t s k own) = fun e => (evalS C false s e).bind fun p e => if clearS e.sl own then (compL (compF t (match k with
      | none => fun e => .ok true e
      | some c => fun e => evalT C c e) (fun e => evalE C a e) own) p.1 ⟨wipeS e.sl own, e.ps⟩).bind fun ys e' => if ys.length ≤ LIM then .ok (.fresh ys) (Env.unlease ⟨backS e.sl e'.sl own, e'.ps⟩ p.2) else .bad else .bad := by
  funext e
  cases k <;> rw [evalE]
theorem ev_meth {m : String} : evalE C (.meth m a es) = fun e => (evalE C a e).bind fun x e => if e.isLst x then (evalEs C es e).bind fun rs e => opMeth m x rs e else .bad := by funext e; rw [evalE]
theorem et_and : evalT C (.and a b) = fun e => (evalT C a e).bind fun t e => if t then evalT C b e else .ok false e := by funext e; rw [evalT]
theorem et_or : evalT C (.or a b) = fun e => (evalT C a e).bind fun t e => if t then .ok true e else evalT C b e := by funext e; rw [evalT]
theorem et_not : evalT C (.not a) = fun e => (evalT C a e).bind fun t e => .ok (!t) e := by funext e; rw [evalT]
theorem et_val (h1 : ∀ x y, a ≠ .and x y) (h2 : ∀ x y, a ≠ .or x y) (h3 : ∀ x, a ≠ .not x) : evalT C a = fun e => (evalE C a e).bind fun r e => opTru r e := by
  funext e
  cases a <;> first | exact absurd rfl (h1 _ _) | exact absurd rfl (h2 _ _) | exact absurd rfl (h3 _) | (rw [evalT] <;> first | (intro _ _ h; cases h) | (intro _ h; cases h))
theorem et_cmp {o : Cop} : evalT C (.cmp o a b) = fun e => (evalE C a e).bind fun x e => (evalE C b e).bind fun y e => opCmp o x y e := by
  rw [et_val (fun _ _ h => by cases h) (fun _ _ h => by cases h) (fun _ h => by cases h), ev_cmp]
  funext e
  exact blV_tru _
theorem es_nil : evalEs C [] = fun e => .ok [] e := by funext e; rw [evalEs]
theorem es_cons : evalEs C (a :: es) = fun e => (evalE C a e).bind fun r e => (evalEs C es e).bind fun rs e => .ok (r :: rs) e := by funext e; rw [evalEs]
theorem ek_nil : evalKs C [] = fun e => .ok [] e := by funext e; rw [evalKs]
theorem ek_cons {n : String} {ks : List (String × Ex)} : evalKs C ((n, a) :: ks) = fun e => (evalE C a e).bind fun r e => (evalKs C ks e).bind fun rs e => .ok (r :: rs) e := by funext e; rw [evalKs]
theorem eo_none : evalO C none = fun e => .ok none e := by funext e; rw [evalO]
theorem eo_some : evalO C (some a) = fun e => (evalE C a e).bind fun r e => match r with
    | .val (.int i) => .ok (some i) e
    | _ => .bad := by funext e; rw [evalO] <;> rfl
variable {fz : Bool}
theorem er_ov : evalS C fz (.ov a) = fun e => (evalE C a e).bind fun x e => (e.lend fz x).bind fun (d, l) e => match itemsOf d with
    | some ds => .ok (ds, [l]) e
    | none => .bad := by funext e; rw [evalS] <;> rfl
theorem er_rng : evalS C fz (.rng a) = fun e => (evalE C a e).bind fun x e => match x with
    | .val (.int j) => if small62 j then .ok (intsD 0 j.toNat, []) e else .bad
    | _ => .bad := by funext e; rw [evalS] <;> rfl
theorem er_rng2 : evalS C fz (.rng2 a b) = fun e => (evalE C a e).bind fun x e => (evalE C b e).bind fun y e => match x, y with
    | .val (.int i), .val (.int j) => if small62 i && small62 j then .ok (intsD i (j - i).toNat, []) e else .bad
    | _, _ => .bad := by funext e; rw [evalS] <;> rfl
theorem er_enu : evalS C fz (.enu a) = fun e => (evalE C a e).bind fun x e => (e.lend fz x).bind fun (d, l) e => match itemsOf d with
    | some ds => .ok (enums ds 0, [l]) e
    | none => .bad := by funext e; rw [evalS] <;> rfl
theorem er_zip : evalS C fz (.zip a b) = fun e => (evalE C a e).bind fun x e => (evalE C b e).bind fun y e => (e.lend fz x).bind fun (d, l) e => (e.lend fz y).bind fun (d', l') e => match d, d' with
    | .lst ds, .lst ds' => .ok (zips ds ds', [l, l']) e
    | .tup ds, .tup ds' => .ok (zips ds ds', [l, l']) e
    | _, _ => .bad := by funext e; rw [evalS] <;> rfl
end
/-! ### the text's helpers -/
section
variable {env : PySem.Env} {a b c : Expr} {es : List Expr} {pos : Pos}
theorem star_cons (h : isStar a = false) : starEach (a :: es) env = (false, eval a env) :: starEach es env := by
  cases a <;> first | rfl | cases h
theorem noStar_cons (h : noStar (a :: es) = true) : isStar a = false ∧ noStar es = true := by
  unfold noStar at h ⊢
  simpa using h
theorem noStar_pl : ∀ {es : List Expr}, noStar es = true → (backTo pos (starEach es env)).any (·.1) = false
  | [], _ => rfl
  | a :: es, h => by
    obtain ⟨h1, h2⟩ := noStar_cons h
    rw [star_cons h1]
    show (false || (backTo pos (starEach es env)).any (·.1)) = false
    rw [noStar_pl h2]
    rfl
theorem assign_cons (h : isStar a = false) : assignEach (a :: es) env = (false, assign a env) :: assignEach es env := by
  cases a <;> first | rfl | cases h
theorem assign_len : ∀ {es : List Expr}, noStar es = true → (assignEach es env).length = es.length
  | [], _ => rfl
  | a :: es, h => by
    obtain ⟨h1, h2⟩ := noStar_cons h
    rw [assign_cons h1, List.length_cons, List.length_cons, assign_len h2]
theorem assign_find : ∀ {es : List Expr}, noStar es = true → (assignEach es env).findIdx? (·.1) = none
  | [], _ => rfl
  | a :: es, h => by
    obtain ⟨h1, h2⟩ := noStar_cons h
    rw [assign_cons h1, List.findIdx?_cons, assign_find h2]
    rfl
theorem fold_iter (h : isSet a = false) (x : Value) : foldedSetIterable a env x = pure x := by
  cases a <;> first | rfl | cases h
theorem behind (h : isSet a = false) (op : CmpOp) : behindInMarks op a = false := by
  cases a <;> first | rfl | cases h
theorem plainIx (h : isSlice b = false) : PlainIx b := fun o i => by
  cases b <;> first | rfl | cases h
theorem aug_store (h : isSlice c = false) (ov iv new : Value) : augStore c ov iv new = (do holding [new, ov, iv] (setItem ov iv new); release [new, ov, iv] []; pure .next) := by
  cases c <;> first | rfl | cases h
theorem attr_base {m : Str} {whole : Sem Value} (h : plainO a = true) : attributeBase a m env whole = whole := by
  cases a <;> first | rfl | cases h
theorem swap_none {l : Nat} {t : Option Expr} (h : isComp a = false) : swapsWith a t l env = pure false := by
  cases a <;> first | rfl | cases h
theorem swap_sole {l : Nat} {t : Expr} (h : isComp a = false) : swapsWithSole [t] a l env = pure false := swap_none h
theorem vis_of {sc : Scope} {x : Str} (h : visB sc x = true) : Vis sc x := by
  unfold visB at h
  unfold Vis
  split at h <;> simp_all
theorem loc_of {sc : Scope} {x : Str} (h : locB sc x = true) : L2.Loc sc x := by
  unfold locB at h
  unfold L2.Loc
  split at h <;> simp_all
theorem local_of {sc : Scope} {x : Str} (h : localB sc x = true) : sc.names.lookup x = some .local := by
  unfold localB at h
  split at h <;> simp_all
theorem gl_of {sc : Scope} {x : Str} (h : glB sc x = true) : sc.names.lookup x = some .globalImplicit := by
  unfold glB at h
  split at h <;> simp_all
theorem dbg_of {x : Str} (h : dbg x = false) : (x == ("__debug__" : Str)) = false ∧ (x == ("__classdict__" : Str)) = false := by
  unfold dbg at h
  simpa using h
theorem idx_get {N : List Str} {x : Str} {i : Nat} (h : N.idxOf? x = some i) : N[i]? = some x := by
  unfold List.idxOf? at h
  rw [List.findIdx?_eq_some_iff_getElem] at h
  obtain ⟨hlt, h1, _⟩ := h
  rw [List.getElem?_eq_getElem hlt]
  congr 1
  exact eq_of_beq h1
end
end Fp
/-! FpSnd: the text does what its translation says: expressions. -/
namespace Fp
open PySem PySem.Spec PyProof.Rows L2
/-- a def as a caller sees it -/
structure FnC (G : Gt) (T : Tb) (m : Nat) (X : L2.Cx) (S : Se) (x : Str) (f : String) (fa : Addr) (fd : FuncData) (ps : List Str) : Prop where
  mg : X.mg x = some (.ref fa)
  kp : PySem.W.keepIn X.K (.ref fa) = true
  bd : Binds X.K fd ps []
  kw : ∀ (pn ys : List String) (xs : List Str) (n : Nat) (js : List Nat), (f, ys, n) ∈ G.kws → G.pars f = some pn → kwStrs pn xs = some ys → kwPerm pn ys n = some js → KwB X.K fd ps xs n js
  ok : FnOk X.prog X.w X.K X.mg X.base (L2.CX X.prog X.w) m fa fd ps (spF S (callN T m f))
/-- the facts of a context -/
structure Cy (G : Gt) (T : Tb) (m : Nat) (N : List Str) (sc : Scope) (X : L2.Cx) (S : Se) (W : WX) : Prop where
  hK : S.K = X.K
  hN : X.N = N
  nd : N.Nodup
  hsc : X.env.scope = sc
  calm : X.calm = true
  takes : Takes X W
  room : Room m X.A
  fns : ∀ x f, G.fns.lookup x = some f → ∃ fa fd ps, FnC G T m X S x f fa fd ps
  pars : ∀ f ps, G.pars f = some ps → (T.ct m).pars f = some ps
  nob : ∀ x ∈ bltAll, X.mg x = none
  gcd : G.gcd = true → X.mg "gcd" = some (.builtin "math.gcd")
  glo : ∀ x c, G.glo.lookup x = some c → ∃ v u d, X.mg x = some u ∧ RelV v u ∧ T.glo c = some d ∧ Dat S (fun _ => none) d v
section
variable {G : Gt} {T : Tb} {m : Nat} {N : List Str} {sc : Scope} {X : L2.Cx} {S : Se} {W : WX}
theorem Cy.units (c : Cy G T m N sc X S W) : X.A.units + 65 < cLine := by have := c.room.un; omega
/-- a comprehension's block -/
theorem Cy.blk (c : Cy G T m N sc X S W) (s : Shared) (H : Hp) (scope : Scope) (C : Addr) (cl : List (Str × Addr)) (fp : List Addr) : Cy G T m N (relS scope sc) (X.blk s H scope (compEnvC scope cl C X.env) fp) S W0 where
  hK := c.hK
  hN := c.hN
  nd := c.nd
  hsc := by
    have := c.hsc
    subst this
    rfl
  calm := c.calm
  takes := takes0 _
  room := c.room
  fns := fun x f h => by
    obtain ⟨fa, fd, ps, F⟩ := c.fns x f h
    exact ⟨fa, fd, ps, F.mg, F.kp, F.bd, F.kw, F.ok⟩
  pars := c.pars
  nob := c.nob
  gcd := c.gcd
  glo := c.glo
/-! ### targets -/
structure TgC (N : List Str) (sc : Scope) (fnc : Str → Bool) (X : L2.Cx) (S : Se) : Prop where
  hK : S.K = X.K
  hN : X.N = N
  nd : N.Nodup
  hsc : X.env.scope = sc
  calm : X.calm = true
  fn : ∀ x, fnc x = true → X.fn x = true
theorem tg_all {fnc : Str → Bool} (c : TgC N sc fnc X S) : ∀ n : Nat, (∀ (e : Expr) (t : Tg), trTg N sc fnc n e = some t → PG X e (gT S t)) ∧ ∀ (es : List Expr) (ts : List Tg), noStar es = true → trTgs N sc fnc n es = some ts → PGs X es (gTs S ts) ∧ es.length = ts.length
  | 0 => by
    refine ⟨fun e t h => (by unfold trTg at h; cases h), fun es ts ns h => ?_⟩
    cases es with
    | nil =>
      unfold trTgs at h
      cases h
      exact ⟨gs_nil, rfl⟩
    | cons e es => unfold trTgs at h; cases h
  | n + 1 => by
    obtain ⟨ih1, ih2⟩ := tg_all c n
    refine ⟨fun e t h => ?_, fun es ts ns h => ?_⟩
    · cases e with
      | Name x p =>
        unfold trTg at h
        split at h
        · rename_i i hi
          split at h
          · rename_i hl
            cases h
            rw [Bool.and_eq_true, Bool.or_eq_true] at hl
            refine g_nm (by rw [c.hN]; exact c.nd) (by rw [c.hN]; exact idx_get hi) (by rw [c.hsc]; exact loc_of hl.1) ?_
            rcases hl.2 with z | z
            · exact .inl (c.fn x z)
            · exact .inr (by rw [c.hsc]; exact local_of z)
          · cases h
        · cases h
      | Tuple es k p =>
        unfold trTg at h
        split at h
        · rename_i ns
          cases hts : trTgs N sc fnc n es with
          | none => rw [hts] at h; cases h
          | some ts =>
            rw [hts] at h
            cases h
            obtain ⟨h1, h2⟩ := ih2 es ts ns hts
            exact g_tp c.hK c.calm h1 ((assign_len ns).trans h2) (assign_find ns)
        · cases h
      | _ => unfold trTg at h; cases h
    · cases es with
      | nil =>
        unfold trTgs at h
        cases h
        exact ⟨gs_nil, rfl⟩
      | cons e es =>
        obtain ⟨n1, n2⟩ := noStar_cons ns
        unfold trTgs at h
        split at h
        · rename_i t ts h1 h2
          cases h
          obtain ⟨h3, h4⟩ := ih2 es ts n2 h2
          exact ⟨gs_cons (ih1 e t h1) h3 (by rw [assign_cons n1] <;> rfl), by simp [h4]⟩
        · cases h
theorem tg_tup {fnc : Str → Bool} (c : TgC N sc fnc X S) {n k0 : Nat} {p0 : Pos} {es : List Expr} {t : Tg} (h : trTg N sc fnc n (.Tuple es k0 p0) = some t) (k : Nat) (p : Pos) : ∃ ts, t = .tp ts ∧ PG X (.Tuple es k p) (gT S t) := by
  cases n with
  | zero => unfold trTg at h; cases h
  | succ n =>
    unfold trTg at h
    split at h
    · rename_i ns
      cases hts : trTgs N sc fnc n es with
      | none => rw [hts] at h; cases h
      | some ts =>
        rw [hts] at h
        cases h
        obtain ⟨h1, h2⟩ := (tg_all c n).2 es ts ns hts
        exact ⟨ts, rfl, g_tp c.hK c.calm h1 ((assign_len ns).trans h2) (assign_find ns)⟩
    · cases h
/-! ### classes, keywords -/
theorem cls_ok (c : Cy G T m N sc X S W) : ∀ {es : List Expr} {cs : List String}, clsOf sc es = some cs → ClsEs X es cs
  | [], cs, h => by unfold clsOf at h; cases h; exact .nil
  | e :: es, cs, h => by
    unfold clsOf at h
    split at h
    · rename_i hh; cases hh
    · rename_i x p es' he
      cases he
      split at h
      · rename_i hb
        split at h
        · rename_i k ks h1 h2
          cases h
          rw [Bool.and_eq_true] at hb
          have hd : dbg x = false := by simpa using hb.2
          have key : x ∈ bltAll ∧ bootBuiltins x = some (.type k) ∧ x ≠ "__name__" := by
            have mem : (x, k) ∈ clsN := by
              have := List.lookup_eq_some_iff.mp h1
              obtain ⟨l1, l2, e1, _⟩ := this
              rw [e1]; simp
            simp only [clsN, List.mem_cons, Prod.mk.injEq, List.not_mem_nil, or_false] at mem
            rcases mem with ⟨rfl, rfl⟩ | ⟨rfl, rfl⟩ | ⟨rfl, rfl⟩ | ⟨rfl, rfl⟩ | ⟨rfl, rfl⟩ <;> exact ⟨by decide, by decide +kernel, by decide⟩
          exact .cons (by show X.env.kindOf x = _; unfold PySem.Env.kindOf; rw [c.hsc]; exact gl_of hb.1) (c.nob x key.1) key.2.1 key.2.2 (dbg_of hd).1 (star_cons rfl) (cls_ok c h2)
        · cases h
      · cases h
    · cases h
theorem kw_all : ∀ {ks : List Keyword} {xs : List Str} {env : PySem.Env} {pos : Pos}, kwNames ks = some xs → (backToKw pos (keywordEach ks env)).all (·.1.isSome) = true ∧ (backToKw pos (keywordEach ks env)).filterMap (·.1) = xs ∧ (backToKw pos (keywordEach ks env)).any (·.1.isNone) = false ∧ ks.length = xs.length
  | [], xs, env, pos, h => by unfold kwNames at h; cases h; exact ⟨rfl, rfl, rfl, rfl⟩
  | ⟨none, _, _⟩ :: ks, xs, env, pos, h => by unfold kwNames at h; cases h
  | ⟨some x, v, p⟩ :: ks, xs, env, pos, h => by
    unfold kwNames at h
    cases h1 : kwNames ks with
    | none => rw [h1] at h; cases h
    | some ys =>
      rw [h1] at h
      cases h
      obtain ⟨a1, a2, a3, a4⟩ := kw_all (env := env) (pos := pos) h1
      refine ⟨?_, ?_, ?_, by simp [a4]⟩
      · show (true && (backToKw pos (keywordEach ks env)).all (·.1.isSome)) = true
        rw [a1]; rfl
      · show x :: (backToKw pos (keywordEach ks env)).filterMap (·.1) = x :: ys
        rw [a2]
      · show (false || (backToKw pos (keywordEach ks env)).any (·.1.isNone)) = false
        rw [a3]; rfl
theorem kwStrs_len {ps : List String} : ∀ {xs : List Str} {ys : List String}, kwStrs ps xs = some ys → xs.length = ys.length
  | [], ys, h => by unfold kwStrs at h; cases h; rfl
  | x :: xs, ys, h => by
    unfold kwStrs at h
    split at h
    · rename_i p q h1 h2
      cases h
      simp [kwStrs_len h2]
    · cases h
end
end Fp
/-! FpSnd2: the text does what its translation says: expressions, the induction. -/
namespace Fp
open PySem PySem.Spec PyProof.Rows L2
section
variable {X : L2.Cx} {a : Expr} {t : TE} {p : Pos}
theorem pe_and1 (h : PE X a t) : PE X (.BoolOp .And [a] p) t := ⟨fun pins s σ H Q I z => h.run pins s σ H Q I z⟩
theorem pe_or1 (h : PE X a t) : PE X (.BoolOp .Or [a] p) t := ⟨fun pins s σ H Q I z => h.run pins s σ H Q I z⟩
end
theorem bopIs_of {o : Operator} {b : Bop} (h : bopIs o = some b) : o = bopOf b := by
  cases o <;> cases h <;> rfl
theorem copIs_of {o : CmpOp} {b : Cop} (h : copIs o = some b) : o = copOf b := by
  cases o <;> cases h <;> rfl
/-- what the induction carries -/
structure Snd (G : Gt) (T : Tb) (m : Nat) (N : List Str) (n : Nat) : Prop where
  E : ∀ {sc : Scope} {X : L2.Cx} {S : Se} {W : WX}, Cy G T m N sc X S W → ∀ e, PE X e (tE S W (evalE (T.ct m) (trE G N n sc e)))
  A : ∀ {sc : Scope} {X : L2.Cx} {S : Se} {W : WX}, Cy G T m N sc X S W → ∀ es p, PE X (.BoolOp .And es p) (tE S W (evalE (T.ct m) (trAnd G N n sc es)))
  O : ∀ {sc : Scope} {X : L2.Cx} {S : Se} {W : WX}, Cy G T m N sc X S W → ∀ es p, PE X (.BoolOp .Or es p) (tE S W (evalE (T.ct m) (trOr G N n sc es)))
  T_ : ∀ {sc : Scope} {X : L2.Cx} {S : Se} {W : WX}, Cy G T m N sc X S W → ∀ e, PT X e (tT S W (evalT (T.ct m) (trT G N n sc e)))
  TA : ∀ {sc : Scope} {X : L2.Cx} {S : Se} {W : WX}, Cy G T m N sc X S W → ∀ es p, PW X (.BoolOp .And es p) (tT S W (evalT (T.ct m) (trTAnd G N n sc es)))
  TO : ∀ {sc : Scope} {X : L2.Cx} {S : Se} {W : WX}, Cy G T m N sc X S W → ∀ es p, PW X (.BoolOp .Or es p) (tT S W (evalT (T.ct m) (trTOr G N n sc es)))
  Es : ∀ {sc : Scope} {X : L2.Cx} {S : Se} {W : WX}, Cy G T m N sc X S W → ∀ es, noStar es = true → PA X es (tA S W (evalEs (T.ct m) (trEs G N n sc es)))
  Ks : ∀ {sc : Scope} {X : L2.Cx} {S : Se} {W : WX}, Cy G T m N sc X S W → ∀ ys ks, ks.length = ys.length → PK X ks (tA S W (evalKs (T.ct m) (trKs G N n sc ys ks)))
  P : ∀ {sc : Scope} {X : L2.Cx} {S : Se} {W : WX}, Cy G T m N sc X S W → ∀ o, PO X o (tO S W (evalO (T.ct m) (trO G N n sc o)))
  R : ∀ {sc : Scope} {X : L2.Cx} {S : Se} {W : WX}, Cy G T m N sc X S W → ∀ tg e fz, PI X tg e (iS S W (evalS (T.ct m) fz (trSrc G N n sc tg e)))
section
variable {G : Gt} {T : Tb} {m : Nat} {N : List Str} {sc : Scope} {X : L2.Cx} {S : Se} {W : WX} {e a b c : Expr} {es : List Expr} {p pos : Pos}
theorem badE : PE X e (tE S W (evalE (T.ct m) .nev)) := by rw [ev_nev]; exact s_nev
theorem badT : PT X e (tT S W (evalT (T.ct m) .nev)) := by
  rw [et_val (fun _ _ h => by cases h) (fun _ _ h => by cases h) (fun _ h => by cases h), ev_nev]
  exact ⟨fun _ _ _ _ _ _ ⟨_, _, _, _, g⟩ => g.elim⟩
theorem badW : PW X e (tT S W (evalT (T.ct m) .nev)) := by
  rw [et_val (fun _ _ h => by cases h) (fun _ _ h => by cases h) (fun _ h => by cases h), ev_nev]
  exact ⟨fun _ _ _ _ _ _ _ ⟨_, _, _, _, g⟩ => g.elim⟩
theorem badR {tg : Expr} {fz : Bool} : PI X tg e (iS S W (evalS (T.ct m) fz (.ov .nev))) := by
  rw [er_ov, ev_nev]
  exact ⟨fun _ _ _ _ _ _ ⟨_, _, _, _, g⟩ => g.elim⟩
theorem Cy.gl (c : Cy G T m N sc X S W) {x : Str} (h : glB sc x = true) : Gl X x := by
  show X.env.kindOf x = _
  unfold PySem.Env.kindOf
  rw [c.hsc]
  exact gl_of h
theorem es1 {C : Ct} {x : Ex} : evalEs C [x] = fun e => (evalE C x e).bind fun r e => (Fp.R.ok [] e).bind fun rs e => .ok (r :: rs) e := by rw [es_cons, es_nil]
theorem es2 {C : Ct} {x y : Ex} : evalEs C [x, y] = fun e => (evalE C x e).bind fun r e => ((evalE C y e).bind fun r e => (Fp.R.ok [] e).bind fun rs e => .ok (r :: rs) e).bind fun rs e => .ok (r :: rs) e := by rw [es_cons, es1]
theorem es_len {C : Ct} : ∀ {xs : List Ex} {e e' : Env} {rs : List Rv}, evalEs C xs e = .ok rs e' → rs.length = xs.length
  | [], e, e', rs, h => by rw [es_nil] at h; cases h; rfl
  | x :: xs, e, e', rs, h => by
    rw [es_cons] at h
    obtain ⟨r, e1, _, h⟩ := bind_inv h
    obtain ⟨rs1, e2, h1, h⟩ := bind_inv h
    injection h with h2 _
    rw [← h2, List.length_cons, List.length_cons, es_len h1]
theorem trEs_len {C : Ct} {n : Nat} : ∀ {n : Nat} {es : List Expr} {e e' : Env} {rs : List Rv}, evalEs C (trEs G N n sc es) e = .ok rs e' → rs.length = es.length
  | n, [], e, e', rs, h => by
    have : trEs G N n sc [] = [] := by cases n <;> (unfold trEs; rfl)
    rw [this] at h
    exact es_len h
  | 0, a :: es, e, e', rs, h => by
    unfold trEs at h
    rw [es_cons, ev_nev] at h
    cases h
  | n + 1, a :: es, e, e', rs, h => by
    unfold trEs at h
    rw [es_cons] at h
    obtain ⟨r, e1, _, h⟩ := bind_inv h
    obtain ⟨rs1, e2, h1, h⟩ := bind_inv h
    injection h with h2 _
    rw [← h2, List.length_cons, List.length_cons, trEs_len (n := n) h1]
theorem one_ {C : Ct} {x : Ex} : ∀ e rs e', evalEs C [x] e = .ok rs e' → rs.length = 1 := fun e rs e' h => es_len h
theorem two_ {C : Ct} {x y : Ex} : ∀ e rs e', evalEs C [x, y] e = .ok rs e' → rs.length = 2 := fun e rs e' h => es_len h
variable {n : Nat}
/-- a builtin of one argument -/
theorem snd_b1 (IH : Snd G T m N n) (c : Cy G T m N sc X S W) {x : Str} {k : String} (hb : blt1N.lookup x = some k) (hg : glB sc x = true) (hs : noStar [a] = true) : PE X (.Call (.Name x p) [a] [] pos) (tE S W (evalE (T.ct m) (.blt k [trE G N n sc a]))) := by
  have pa : PA X [a] (tA S W (evalEs (T.ct m) [trE G N n sc a])) := by
    rw [es1]
    exact s_cons (IH.E c a) s_nil (star_cons (noStar_cons hs).1)
  have st := star_cons (env := X.env) (es := []) (noStar_cons hs).1
  have pl : (backTo pos (starEach [] X.env)).any (·.1) = false := rfl
  have mem : (x, k) ∈ blt1N := by
    obtain ⟨l1, l2, e1, _⟩ := List.lookup_eq_some_iff.mp hb
    rw [e1]; simp
  rw [ev_blt]
  have G_ := c.gl hg
  simp only [blt1N, List.mem_cons, Prod.mk.injEq, List.not_mem_nil, or_false] at mem
  rcases mem with ⟨rfl, rfl⟩ | ⟨rfl, rfl⟩ | ⟨rfl, rfl⟩ | ⟨rfl, rfl⟩ | ⟨rfl, rfl⟩ | ⟨rfl, rfl⟩ | ⟨rfl, rfl⟩ | ⟨rfl, rfl⟩
  · exact s_len pa st pl c.hK one_ G_ (c.nob _ (by decide))
  · exact s_abs pa st pl one_ G_ (c.nob _ (by decide))
  · exact s_int pa st pl one_ G_ (c.nob _ (by decide))
  · exact s_tuple pa st pl c.hK one_ G_ (c.nob _ (by decide))
  · exact s_list pa st pl c.hK one_ G_ (c.nob _ (by decide))
  · exact s_all pa st pl c.hK c.calm one_ G_ (c.nob _ (by decide))
  · exact s_any pa st pl c.hK c.calm one_ G_ (c.nob _ (by decide))
  · exact s_sum pa st pl c.hK c.calm one_ G_ (c.nob _ (by decide))
theorem pa2 (IH : Snd G T m N n) (c : Cy G T m N sc X S W) (hs : noStar [a, b] = true) : PA X [a, b] (tA S W (evalEs (T.ct m) [trE G N n sc a, trE G N n sc b])) := by
  obtain ⟨h1, h2⟩ := noStar_cons hs
  rw [es2]
  exact s_cons (IH.E c a) (s_cons (IH.E c b) s_nil (star_cons (noStar_cons h2).1)) (star_cons h1)
theorem snd_b2 (IH : Snd G T m N n) (c : Cy G T m N sc X S W) {x : Str} {k : String} (hb : blt2N.lookup x = some k) (hg : glB sc x = true) (hs : noStar [a, b] = true) : PE X (.Call (.Name x p) [a, b] [] pos) (tE S W (evalE (T.ct m) (.blt k [trE G N n sc a, trE G N n sc b]))) := by
  have pa := pa2 IH c hs
  have st := star_cons (env := X.env) (es := [b]) (noStar_cons hs).1
  have pl : (backTo pos (starEach [b] X.env)).any (·.1) = false := noStar_pl (noStar_cons hs).2
  have mem : (x, k) ∈ blt2N := by
    obtain ⟨l1, l2, e1, _⟩ := List.lookup_eq_some_iff.mp hb
    rw [e1]; simp
  rw [ev_blt]
  have G_ := c.gl hg
  simp only [blt2N, List.mem_cons, Prod.mk.injEq, List.not_mem_nil, or_false] at mem
  rcases mem with ⟨rfl, rfl⟩ | ⟨rfl, rfl⟩
  · exact s_min pa st pl c.calm two_ G_ (c.nob _ (by decide))
  · exact s_max pa st pl c.calm two_ G_ (c.nob _ (by decide))
theorem snd_gcd (IH : Snd G T m N n) (c : Cy G T m N sc X S W) (hg : glB sc "gcd" = true) (hG : G.gcd = true) (hs : noStar [a, b] = true) : PE X (.Call (.Name "gcd" p) [a, b] [] pos) (tE S W (evalE (T.ct m) (.blt "gcd" [trE G N n sc a, trE G N n sc b]))) := by
  rw [ev_blt]
  exact s_gcd (pa2 IH c hs) (star_cons (noStar_cons hs).1) (noStar_pl (noStar_cons hs).2) two_ (c.gl hg) (c.gcd hG)
end
end Fp
/-! FpSnd3: expressions, the step of the induction. -/
namespace Fp
open PySem PySem.Spec PyProof.Rows L2
section
variable {G : Gt} {T : Tb} {m : Nat} {N : List Str} {sc : Scope} {X : L2.Cx} {S : Se} {W : WX} {e a b o : Expr} {es : List Expr} {p pos : Pos} {n : Nat}
theorem snd_name (c : Cy G T m N sc X S W) {x : Str} : PE X (.Name x p) (tE S W (evalE (T.ct m) (trE G N (n + 1) sc (.Name x p)))) := by
  simp only [trE]
  split
  · exact badE
  · rename_i hd
    have hd : dbg x = false := by simpa using hd
    split
    · rename_i hv
      split
      · rename_i i hi
        rw [ev_var]
        exact s_var (pe_var (by rw [c.hN]; exact idx_get hi) (by rw [c.hsc]; exact vis_of hv) (dbg_of hd).1 (dbg_of hd).2)
      · exact badE
    · split
      · rename_i hg
        split
        · rename_i k hk
          obtain ⟨v, u, d, h1, h2, h3, h4⟩ := c.glo x k hk
          rw [ev_glo]
          exact s_glo (c.gl hg) h1 h2 h4 (dbg_of hd).1 (C := T.ct m) h3
        · exact badE
      · exact badE
theorem snd_meth (IH : Snd G T m N n) (c : Cy G T m N sc X S W) {x : Str} {ap : Pos} : PE X (.Call (.Attribute o x ap) es [] p) (tE S W (evalE (T.ct m) (trE G N (n + 1) sc (.Call (.Attribute o x ap) es [] p)))) := by
  simp only [trE]
  split
  case isFalse => exact badE
  rename_i hh
  simp only [Bool.and_eq_true] at hh
  obtain ⟨⟨h1, h2⟩, h3⟩ := hh
  split
  · rename_i hx
    obtain rfl := eq_of_beq hx
    match es, h2 with
    | [], _ => exact badE
    | _ :: _ :: _, _ => exact badE
    | [b], h2 =>
      have sb := (noStar_cons h2).1
      simp only
      rw [ev_meth]
      refine s_append c.hK (IH.E c o) (eas := evalEs (T.ct m) [trE G N n sc b]) (by rw [es1]; exact s_cons (IH.E c b) s_nil (star_cons sb)) (attr_base h1) ?_ h3 (star_cons sb) rfl
      rw [star_cons sb]
      rfl
  · split
    · rename_i hx
      obtain rfl := eq_of_beq hx
      match es, h2 with
      | _ :: _ :: _, _ => exact badE
      | [], _ =>
        simp only
        rw [ev_meth, es_nil]
        exact s_pop0 c.hK (IH.E c o) (attr_base h1) h3
      | [b], h2 =>
        have sb := (noStar_cons h2).1
        simp only
        rw [ev_meth]
        refine s_pop1 c.hK (IH.E c o) (eas := evalEs (T.ct m) [trE G N n sc b]) (by rw [es1]; exact s_cons (IH.E c b) s_nil (star_cons sb)) (fun e rs e' h => ?_) (attr_base h1) ?_ h3 (star_cons sb) rfl
        · match rs, one_ e rs e' h with
          | [r], _ => exact ⟨r, rfl⟩
        · rw [star_cons sb]
          rfl
    · exact badE
theorem snd_fn (IH : Snd G T m N n) (c : Cy G T m N sc X S W) {x : Str} {q : Pos} : PE X (.Call (.Name x q) es [] p) (tE S W (evalE (T.ct m) (trE G N (n + 1) sc (.Call (.Name x q) es [] p)))) := by
  simp only [trE]
  split
  · exact badE
  · rename_i hh
    simp only [Bool.or_eq_true, not_or, Bool.not_eq_true, Bool.not_eq_false'] at hh
    obtain ⟨⟨hd, hg⟩, hs⟩ := hh
    have hdb := (dbg_of hd).1
    split
    · rename_i f hf
      obtain ⟨fa, fd, ps, F⟩ := c.fns x f hf
      cases es with
      | nil => exact badE
      | cons a es =>
        simp only
        rw [ev_call]
        exact s_call (C := T.ct m) F.ok c.room (c.gl hg) F.mg F.kp F.bd c.takes (IH.Es c (a :: es) hs) hdb (star_cons (noStar_cons hs).1) (noStar_pl (noStar_cons hs).2)
    · match es, hs with
      | [], hs =>
        cases blt1N.lookup x <;> cases blt2N.lookup x <;> exact badE
      | [a], hs =>
        cases h1 : blt1N.lookup x with
        | some k => exact snd_b1 IH c h1 hg hs
        | none => cases blt2N.lookup x <;> exact badE
      | _ :: _ :: _ :: _, hs => cases blt1N.lookup x <;> cases blt2N.lookup x <;> exact badE
      | [a, b], hs =>
        cases h2 : blt2N.lookup x with
        | some k => cases blt1N.lookup x <;> exact snd_b2 IH c h2 hg hs
        | none =>
          have go : PE X (.Call (.Name x q) [a, b] [] p) (tE S W (evalE (T.ct m) (if x == "gcd" then (if G.gcd then .blt "gcd" [trE G N n sc a, trE G N n sc b] else .nev)
            else if x == "isinstance" then isiEx sc (trE G N n sc a) b
            else .nev))) := by
            split
            · rename_i hx
              obtain rfl := eq_of_beq hx
              split
              · rename_i hG
                exact snd_gcd IH c hg hG hs
              · exact badE
            · split
              · rename_i hx
                obtain rfl := eq_of_beq hx
                have st := star_cons (env := X.env) (es := [b]) (noStar_cons hs).1
                unfold isiEx
                cases b with
                | Tuple cs k pt =>
                  simp only
                  split
                  · split
                    · rename_i c1 cs1 hc
                      split
                      · rename_i hl
                        rw [ev_isi]
                        exact s_isiT c.hK (IH.E c a) (cls_ok c hc) (by simp) (by simp; omega) (c.gl hg) (c.nob _ (by decide)) st (star_cons rfl) (noStar_pl (noStar_cons hs).2)
                      · exact badE
                    · exact badE
                  · exact badE
                | Name y q' =>
                  simp only
                  split
                  · rename_i c1 hc
                    rw [ev_isi]
                    exact s_isi1 c.hK (IH.E c a) (cls_ok c hc) (c.gl hg) (c.nob _ (by decide)) st (noStar_pl (noStar_cons hs).2)
                  · exact badE
                | _ => exact badE
              · exact badE
          cases blt1N.lookup x <;> exact go
theorem snd_kw (IH : Snd G T m N n) (c : Cy G T m N sc X S W) {x : Str} {q : Pos} {k : Keyword} {ks : List Keyword} : PE X (.Call (.Name x q) es (k :: ks) p) (tE S W (evalE (T.ct m) (trE G N (n + 1) sc (.Call (.Name x q) es (k :: ks) p)))) := by
  simp only [trE]
  split
  · exact badE
  · rename_i hh
    simp only [Bool.or_eq_true, not_or, Bool.not_eq_true, Bool.not_eq_false'] at hh
    obtain ⟨⟨hd, hg⟩, hs⟩ := hh
    have hdb := (dbg_of hd).1
    split
    · rename_i f hf
      split
      · rename_i pn xs hp hx
        split
        · rename_i ys hy
          split
          · rename_i hk
            simp only [Bool.and_eq_true, decide_eq_true_eq] at hk
            obtain ⟨⟨h1, h2⟩, h3⟩ := hk
            obtain ⟨js, hj⟩ := Option.isSome_iff_exists.mp h2
            obtain ⟨fa, fd, ps, F⟩ := c.fns x f hf
            have kb := F.kw pn ys xs es.length js h1 hp hy hj
            obtain ⟨k1, k2, k3, k4⟩ := kw_all (env := X.env) (pos := p) hx
            have hl := kwStrs_len hy
            rw [ev_callk (c.pars f pn hp), h3]
            have hks := IH.Ks c ys (k :: ks) (k4.trans hl)
            cases es with
            | nil =>
              have e0 : evalEs (T.ct m) (trEs G N n sc []) = fun e => .ok [] e := by
                have : trEs G N n sc [] = [] := by cases n <;> (unfold trEs; rfl)
                rw [this, es_nil]
              rw [e0]
              exact s_callk0 (C := T.ct m) F.ok c.room (c.gl hg) F.mg F.kp kb c.takes hl.symm hj hks k1 k2 hdb (by
                show (false || (backToKw p (keywordEach (k :: ks) X.env)).any (·.1.isNone)) = false
                rw [k3]; rfl)
            | cons a es =>
              exact s_callk (C := T.ct m) F.ok c.room (c.gl hg) F.mg F.kp kb c.takes hl.symm hj (fun e rs e' h => trEs_len (n := 0) h) (IH.Es c (a :: es) hs) hks k1 k2 hdb (star_cons (noStar_cons hs).1) (by
                rw [noStar_pl hs, k3]; rfl)
          · exact badE
        · exact badE
      · exact badE
    · exact badE
end
end Fp
/-! FpSnd4: expressions: comprehensions, sources, tests; the induction. -/
namespace Fp
open PySem PySem.Spec PyProof.Rows L2
section
variable {G : Gt} {T : Tb} {m : Nat} {N : List Str} {sc : Scope} {X : L2.Cx} {S : Se} {W : WX} {e a b o elt tg it : Expr} {es : List Expr} {p pos : Pos} {n : Nat}
theorem own_ok (c : Cy G T m N sc X S W) {scope : Scope} {own : List (Str × Nat)} (h : blkC N sc scope own = true) : BlkOk X.N X.env.scope scope own := by
  rw [c.hN, c.hsc]
  exact blkOk_by h
theorem blk_tg (c : Cy G T m N sc X S W) {scope : Scope} {t : Tg} (h : trTg N (relS scope sc) (fun y => scope.names.lookup y == some .cell) n tg = some t) (s : Shared) (H : Hp) (C : Addr) (cl : List (Str × Addr)) (fp : List Addr) : PG (X.blk s H scope (compEnvC scope cl C X.env) fp) tg (gT S t) := by
  have c' := c.blk s H scope C cl fp
  exact (tg_all (fnc := fun y => scope.names.lookup y == some .cell) ⟨c'.hK, c'.hN, c'.nd, c'.hsc, c'.calm, fun x hx => hx⟩ n).1 tg t h
theorem slots_ok {t : Tg} {own : List Nat} (h : (t.slots.all fun j => decide (j ∈ own)) = true) : ∀ j ∈ t.slots, j ∈ own := fun j hj => by
  have := List.all_eq_true.mp h j hj
  simpa using this
theorem snd_lc (IH : Snd G T m N n) (c : Cy G T m N sc X S W) {ifs : List Expr} {scope : Scope} : PE X (.ListComp elt [⟨tg, it, ifs, 0⟩] scope p) (tE S W (evalE (T.ct m) (trE G N (n + 1) sc (.ListComp elt [⟨tg, it, ifs, 0⟩] scope p)))) := by
  simp only [trE]
  split
  · exact badE
  · rename_i hset
    have hset : isSet it = false := by simpa using hset
    split
    · rename_i hb
      split
      · rename_i t ht
        split
        · rename_i hsl
          rw [ev_comp]
          exact s_comp (ifs := []) (ct := fun e => .ok true e) (ex := evalE (T.ct m) (trE G N n (relS scope sc) elt)) (own := ownOf N scope) c.calm (by rw [c.hN]; exact c.nd) (IH.R c tg it false) (own_ok c hb) (slots_ok hsl) (fun s H C cl fp => blk_tg c ht s H C cl fp) (fun s H C cl fp => ts_nil)
            (fun s H C cl fp => IH.E (c.blk s H scope C cl fp) elt) (fold_iter hset)
        · exact badE
      · rename_i t k ht
        split
        · rename_i hsl
          rw [ev_comp]
          exact s_comp (ifs := [k]) (ct := evalT (T.ct m) (trT G N n (relS scope sc) k)) (ex := evalE (T.ct m) (trE G N n (relS scope sc) elt)) (own := ownOf N scope) c.calm (by rw [c.hN]; exact c.nd) (IH.R c tg it false) (own_ok c hb) (slots_ok hsl) (fun s H C cl fp => blk_tg c ht s H C cl fp)
            (fun s H C cl fp => pts_one (IH.T_ (c.blk s H scope C cl fp) k)) (fun s H C cl fp => IH.E (c.blk s H scope C cl fp) elt) (fold_iter hset)
        · exact badE
      · exact badE
    · exact badE
theorem trE_lc_no {x : Ex} {gs : List Comprehension} {scope : Scope} (h : ∀ tg it ifs, gs ≠ [⟨tg, it, ifs, 0⟩]) : trE G N (n + 1) sc (.ListComp elt gs scope p) = .nev := by
  unfold trE
  split <;> first | rfl | skip
  all_goals (rename_i hh; first | (cases hh; done) | (cases hh; exact absurd rfl (h _ _ _)))
theorem snd_E (IH : Snd G T m N n) (c : Cy G T m N sc X S W) (e : Expr) : PE X e (tE S W (evalE (T.ct m) (trE G N (n + 1) sc e))) := by
  cases e with
  | Constant k j p =>
    cases k with
    | int i => simp only [trE]; rw [ev_cst]; exact s_cst pe_int fun F => rfl
    | bool i => simp only [trE]; rw [ev_cst]; exact s_cst pe_bl fun F => rfl
    | none => simp only [trE]; rw [ev_cst]; exact s_cst pe_non fun F => rfl
    | str i => simp only [trE]; rw [ev_cst]; exact s_cst pe_str fun F => rfl
    | _ => simp only [trE]; exact badE
  | Name x p => exact snd_name c
  | BinOp a o b p =>
    simp only [trE]
    cases h : bopIs o with
    | none => exact badE
    | some k =>
      rw [bopIs_of h]
      simp only
      rw [ev_bin]
      exact s_bin c.hK k (IH.E c a) (IH.E c b)
  | UnaryOp o a p =>
    cases o with
    | USub => simp only [trE]; rw [ev_neg]; exact s_neg (IH.E c a)
    | Not => simp only [trE]; rw [ev_not]; exact s_not c.hK (IH.E c a)
    | _ => simp only [trE]; exact badE
  | BoolOp o es p =>
    cases o with
    | And => simp only [trE]; exact IH.A c es p
    | Or => simp only [trE]; exact IH.O c es p
  | IfExp a b d p => simp only [trE]; rw [ev_ite]; exact s_ite (IH.T_ c a) (IH.E c b) (IH.E c d)
  | Compare a os bs p =>
    match os, bs with
    | [], bs => simp only [trE]; exact badE
    | [o], [] => simp only [trE]; exact badE
    | [o], [b] =>
      simp only [trE]
      split
      · exact badE
      · rename_i hs
        have hs : isSet b = false := by simpa using hs
        cases h : copIs o with
        | none => exact badE
        | some k =>
          rw [copIs_of h]
          simp only
          rw [ev_cmp]
          exact s_cmp c.hK c.units k (IH.E c a) (IH.E c b) (behind hs _)
    | [o], _ :: _ :: _ => simp only [trE]; exact badE
    | [o, o'], [] => simp only [trE]; exact badE
    | [o, o'], [b] => simp only [trE]; exact badE
    | [o, o'], [b, d] =>
      simp only [trE]
      split
      · exact badE
      · rename_i hs
        have hs : isSet d = false := by simpa using hs
        cases h : copIs o with
        | none => exact badE
        | some k => cases h' : copIs o' with
          | none => exact badE
          | some k' =>
            rw [copIs_of h, copIs_of h']
            simp only
            rw [ev_chain]
            exact s_chain c.hK c.units k k' (IH.E c a) (IH.E c b) (IH.E c d) (behind hs _)
    | [o, o'], _ :: _ :: _ :: _ => simp only [trE]; exact badE
    | _ :: _ :: _ :: _, bs => simp only [trE]; exact badE
  | Tuple es k p =>
    simp only [trE]
    split
    · rename_i hs
      rw [ev_tup]
      exact s_tup (IH.Es c es hs)
    · exact badE
  | List es p =>
    simp only [trE]
    split
    · rename_i hs
      rw [ev_lst]
      exact s_lst (IH.Es c es hs)
    · exact badE
  | Dict ks vs p =>
    match ks, vs with
    | [], [] => simp only [trE]; rw [ev_dic0]; exact s_dic0
    | _ :: _, _ => simp only [trE]; exact badE
    | [], _ :: _ => simp only [trE]; exact badE
  | Subscript a b p =>
    have plain : isSlice b = false → PE X (.Subscript a b p) (tE S W (evalE (T.ct m) (.idx (trE G N n sc a) (trE G N n sc b)))) := fun h => by
      rw [ev_idx]
      exact s_idx c.hK (IH.E c a) (IH.E c b) (plainIx h)
    cases b with
    | Slice lo hi st q =>
      cases st with
      | none =>
        simp only [trE]
        rw [ev_slc]
        exact s_slc c.hK (IH.E c a) (IH.P c lo) (IH.P c hi)
      | some st => simp only [trE, isSlice, if_true]; exact badE
    | _ => simp only [trE, isSlice, Bool.false_eq_true, if_false]; exact plain rfl
  | ListComp x gs scope p =>
    by_cases h : ∃ tg it ifs, gs = [⟨tg, it, ifs, 0⟩]
    · obtain ⟨tg, it, ifs, rfl⟩ := h
      exact snd_lc IH c
    · rw [trE_lc_no (x := .nev) fun tg it ifs z => h ⟨tg, it, ifs, z⟩]
      exact badE
  | Call f es ks p =>
    cases f with
    | Attribute o x q =>
      cases ks with
      | nil => exact snd_meth IH c
      | cons k ks => simp only [trE]; exact badE
    | Name x q =>
      cases ks with
      | nil => exact snd_fn IH c
      | cons k ks => exact snd_kw IH c
    | _ => simp only [trE]; exact badE
  | _ => simp only [trE]; exact badE
end
end Fp
/-! FpSnd5: expressions: the induction. -/
namespace Fp
open PySem PySem.Spec PyProof.Rows L2
section
variable {G : Gt} {T : Tb} {m : Nat} {N : List Str} {sc : Scope} {X : L2.Cx} {S : Se} {W : WX} {e a b o elt tg it : Expr} {es : List Expr} {p pos : Pos} {n : Nat}
theorem snd_And (IH : Snd G T m N n) (c : Cy G T m N sc X S W) (es : List Expr) (p : Pos) : PE X (.BoolOp .And es p) (tE S W (evalE (T.ct m) (trAnd G N (n + 1) sc es))) := by
  match es with
  | [] => unfold trAnd; exact badE
  | [a] => unfold trAnd; exact pe_and1 (IH.E c a)
  | a :: b :: es => unfold trAnd; rw [ev_and]; exact s_and (IH.E c a) (IH.A c (b :: es) p)
theorem snd_Or (IH : Snd G T m N n) (c : Cy G T m N sc X S W) (es : List Expr) (p : Pos) : PE X (.BoolOp .Or es p) (tE S W (evalE (T.ct m) (trOr G N (n + 1) sc es))) := by
  match es with
  | [] => unfold trOr; exact badE
  | [a] => unfold trOr; exact pe_or1 (IH.E c a)
  | a :: b :: es => unfold trOr; rw [ev_or]; exact s_or (IH.E c a) (IH.O c (b :: es) p)
theorem snd_TAnd (IH : Snd G T m N n) (c : Cy G T m N sc X S W) (es : List Expr) (p : Pos) : PW X (.BoolOp .And es p) (tT S W (evalT (T.ct m) (trTAnd G N (n + 1) sc es))) := by
  match es with
  | [] => unfold trTAnd; exact badW
  | [a] => unfold trTAnd; exact t_and1 (IH.T_ c a)
  | a :: b :: es => unfold trTAnd; rw [et_and]; exact t_and (IH.T_ c a) (IH.TA c (b :: es) p)
theorem snd_TOr (IH : Snd G T m N n) (c : Cy G T m N sc X S W) (es : List Expr) (p : Pos) : PW X (.BoolOp .Or es p) (tT S W (evalT (T.ct m) (trTOr G N (n + 1) sc es))) := by
  match es with
  | [] => unfold trTOr; exact badW
  | [a] => unfold trTOr; exact t_or1 (IH.T_ c a)
  | a :: b :: es => unfold trTOr; rw [et_or]; exact t_or (IH.T_ c a) (IH.TO c (b :: es) p)
/-- a test that is a value -/
theorem snd_Tv (IH : Snd G T m N n) (c : Cy G T m N sc X S W) (e : Expr) (he : ∀ whole, isTrue e X.env whole = (do let v ← whole; standAt e.pos; holding [v] (truthy v))) :
    PT X e (tT S W (evalT (T.ct m) (match trE G N n sc e with | .and _ _ => .nev | .or _ _ => .nev | .not _ => .nev | x => x))) := by
  have h := t_val c.hK (IH.E c e) he
  split
  · exact badT
  · exact badT
  · exact badT
  · rename_i h1 h2 h3
    rw [et_val (fun x y z => h1 x y z) (fun x y z => h2 x y z) (fun x z => h3 x z)]
    exact h
theorem snd_T (IH : Snd G T m N n) (c : Cy G T m N sc X S W) (e : Expr) : PT X e (tT S W (evalT (T.ct m) (trT G N (n + 1) sc e))) := by
  cases e with
  | UnaryOp o a p =>
    cases o with
    | Not => simp only [trT]; rw [et_not]; exact t_not (IH.T_ c a)
    | _ => simp only [trT]; exact snd_Tv IH c _ fun _ => rfl
  | BoolOp o es p =>
    cases o with
    | And => simp only [trT]; exact (IH.TA c es p).pt
    | Or => simp only [trT]; exact (IH.TO c es p).pt
  | IfExp a b d p => simp only [trT]; exact badT
  | Compare a os bs p =>
    match os, bs with
    | [], bs => simp only [trT]; exact badT
    | [o], [] => simp only [trT]; exact badT
    | [o], [b] =>
      simp only [trT]
      split
      · exact badT
      · rename_i hs
        have hs : isSet b = false := by simpa using hs
        cases h : copIs o with
        | none => exact badT
        | some k =>
          rw [copIs_of h]
          simp only
          rw [et_cmp]
          exact t_cmp c.hK c.units k (IH.E c a) (IH.E c b) (behind hs _)
    | [o], _ :: _ :: _ => simp only [trT]; exact badT
    | _ :: _ :: _, bs => simp only [trT]; exact badT
  | _ => simp only [trT]; exact snd_Tv IH c _ fun _ => rfl
theorem snd_Es (IH : Snd G T m N n) (c : Cy G T m N sc X S W) (es : List Expr) (h : noStar es = true) : PA X es (tA S W (evalEs (T.ct m) (trEs G N (n + 1) sc es))) := by
  cases es with
  | nil => unfold trEs; rw [es_nil]; exact s_nil
  | cons a es =>
    obtain ⟨h1, h2⟩ := noStar_cons h
    unfold trEs
    rw [es_cons]
    exact s_cons (IH.E c a) (IH.Es c es h2) (star_cons h1)
theorem snd_Ks (IH : Snd G T m N n) (c : Cy G T m N sc X S W) (ys : List String) (ks : List Keyword) (h : ks.length = ys.length) : PK X ks (tA S W (evalKs (T.ct m) (trKs G N (n + 1) sc ys ks))) := by
  match ys, ks, h with
  | [], [], _ => unfold trKs; rw [ek_nil]; exact s_knil
  | y :: ys, ⟨nm, v, q⟩ :: ks, h =>
    unfold trKs
    rw [ek_cons]
    exact s_kcons (IH.E c v) (IH.Ks c ys ks (by simpa using h))
theorem snd_P (IH : Snd G T m N n) (c : Cy G T m N sc X S W) (o : Option Expr) : PO X o (tO S W (evalO (T.ct m) (trO G N (n + 1) sc o))) := by
  cases o with
  | none => unfold trO; rw [eo_none]; exact s_none
  | some a => unfold trO; rw [eo_some]; exact s_some (IH.E c a)
theorem snd_ov (IH : Snd G T m N n) (c : Cy G T m N sc X S W) (tg e : Expr) (fz : Bool) : PI X tg e (iS S W (evalS (T.ct m) fz (.ov (trE G N n sc e)))) := by
  rw [er_ov]
  exact src_ov c.hK (IH.E c e) fz
theorem pa1 (IH : Snd G T m N n) (c : Cy G T m N sc X S W) (hs : noStar [a] = true) : PA X [a] (tA S W fun e => (evalE (T.ct m) (trE G N n sc a) e).bind fun x e => (Fp.R.ok [] e).bind fun rs e => .ok (x :: rs) e) :=
  s_cons (IH.E c a) s_nil (star_cons (noStar_cons hs).1)
theorem snd_R (IH : Snd G T m N n) (c : Cy G T m N sc X S W) (tg e : Expr) (fz : Bool) : PI X tg e (iS S W (evalS (T.ct m) fz (trSrc G N (n + 1) sc tg e))) := by
  cases e with
  | Call f es ks p =>
    cases f with
    | Name x q =>
      cases ks with
      | nil =>
        simp only [trSrc]
        split
        · exact badR
        · rename_i hh
          simp only [Bool.or_eq_true, not_or, Bool.not_eq_true, Bool.not_eq_false'] at hh
          obtain ⟨⟨hd, hg⟩, hs⟩ := hh
          split
          · rename_i hx
            obtain rfl := eq_of_beq hx
            match es, hs with
            | [], _ => exact badR
            | [a], hs =>
              simp only
              rw [er_rng]
              exact src_rng (pa1 IH c hs) (c.gl hg) (c.nob _ (by decide)) (by rw [star_cons (noStar_cons hs).1] <;> rfl)
            | [a, b], hs =>
              obtain ⟨h1, h2⟩ := noStar_cons hs
              simp only
              rw [er_rng2]
              exact src_rng2 (s_cons (IH.E c a) (pa1 IH c h2) (star_cons h1)) (c.gl hg) (c.nob _ (by decide)) (by rw [star_cons h1, star_cons (noStar_cons h2).1] <;> rfl) (by rw [star_cons (noStar_cons h2).1] <;> rfl)
            | _ :: _ :: _ :: _, _ => exact badR
          · split
            · rename_i hx
              obtain rfl := eq_of_beq hx
              match es, hs with
              | [], _ => exact badR
              | _ :: _ :: _, _ => exact badR
              | [a], hs =>
                simp only
                cases tg with
                | Tuple ts k pt =>
                  simp only [isTup, if_true]
                  rw [er_enu]
                  exact src_enu c.hK (pa1 IH c hs) fz (c.gl hg) (c.nob _ (by decide)) (by rw [star_cons (noStar_cons hs).1] <;> rfl)
                | _ => exact badR
            · split
              · rename_i hx
                obtain rfl := eq_of_beq hx
                match es, hs with
                | [], _ => exact badR
                | [_], _ => exact badR
                | _ :: _ :: _ :: _, _ => exact badR
                | [a, b], hs =>
                  obtain ⟨h1, h2⟩ := noStar_cons hs
                  simp only
                  cases tg with
                  | Tuple ts k pt =>
                    simp only [isTup, if_true]
                    rw [er_zip]
                    exact src_zip c.hK (s_cons (IH.E c a) (pa1 IH c h2) (star_cons h1)) fz (c.gl hg) (c.nob _ (by decide)) (star_cons h1) (noStar_pl h2)
                  | _ => exact badR
              · exact snd_ov IH c tg _ fz
      | cons k ks => simp only [trSrc]; exact snd_ov IH c tg _ fz
    | _ => simp only [trSrc]; exact snd_ov IH c tg _ fz
  | _ => simp only [trSrc]; exact snd_ov IH c tg _ fz
end
theorem badA {T : Tb} {m : Nat} {X : L2.Cx} {S : Se} {W : WX} {es : List Expr} : PA X es (tA S W (evalEs (T.ct m) [.nev])) := by
  rw [es_cons, ev_nev]
  exact ⟨fun _ _ _ _ _ _ _ ⟨_, _, _, _, g⟩ => g.elim⟩
theorem snd_all {G : Gt} {T : Tb} {m : Nat} {N : List Str} : ∀ n : Nat, Snd G T m N n
  | 0 => {
    E := fun c e => by unfold trE; exact badE
    A := fun c es p => by cases es <;> (unfold trAnd; exact badE)
    O := fun c es p => by cases es <;> (unfold trOr; exact badE)
    T_ := fun c e => by unfold trT; exact badT
    TA := fun c es p => by cases es <;> (unfold trTAnd; exact badW)
    TO := fun c es p => by cases es <;> (unfold trTOr; exact badW)
    Es := fun c es h => by
      cases es with
      | nil => unfold trEs; rw [es_nil]; exact s_nil
      | cons a es => unfold trEs; exact badA
    Ks := fun c ys ks h => by
      cases ks with
      | nil => unfold trKs; rw [ek_nil]; exact s_knil
      | cons k ks =>
        unfold trKs
        rw [ek_cons, ev_nev]
        exact ⟨fun _ _ _ _ _ _ _ ⟨_, _, _, _, g⟩ => g.elim⟩
    P := fun c o => by
      cases o with
      | none => unfold trO; rw [eo_none]; exact s_none
      | some a =>
        unfold trO
        rw [eo_some, ev_nev]
        exact ⟨fun _ _ _ _ _ _ ⟨_, _, _, _, g⟩ => g.elim⟩
    R := fun c tg e fz => by unfold trSrc; exact badR }
  | n + 1 =>
    have IH := snd_all (G := G) (T := T) (m := m) (N := N) n
    ⟨fun c e => snd_E IH c e, fun c es p => snd_And IH c es p, fun c es p => snd_Or IH c es p, fun c e => snd_T IH c e, fun c es p => snd_TAnd IH c es p, fun c es p => snd_TOr IH c es p, fun c es h => snd_Es IH c es h, fun c ys ks h => snd_Ks IH c ys ks h,
      fun c o => snd_P IH c o, fun c tg e fz => snd_R IH c tg e fz⟩
end Fp
/-! FpSnd6: the text does what its translation says: statements. -/
namespace Fp
open PySem PySem.Spec PyProof.Rows L2
section
variable {C : Ct} {a b c x : Ex} {es : List Ex} {ss tt : List Sm} {i : Nat} {t : Tg}
theorem xs_nev : execS C .nev = fun _ => .bad := by funext e; rw [execS]
theorem xs_asg : execS C (.asg t x) = fun e => (evalE C x e).st fun r e => (bindT t r e).st fun _ e => .nx e := by funext e; rw [execS]
theorem xs_par {is : List Nat} : execS C (.par is es) = fun e => (evalEs C es e).st fun rs e => (bindPar is rs e).st fun _ e => .nx e := by funext e; rw [execS]
theorem xs_setI : execS C (.setI b c a) = fun e => (evalE C a e).st fun r e => (evalE C b e).st fun y e => (evalE C c e).st fun z e => (e.item r).st fun d e => (setIx y z d e).st fun _ e => .nx e := by funext e; rw [execS]
theorem xs_aug : execS C (.aug i x) = fun e => (e.var i).st fun y e => match y with
    | .val (.int a) => (evalE C x e).st fun z e => match z with
      | .val (.int b) => if i < e.sl.length then .nx ⟨e.sl.set i (.val (.int (a + b))), e.ps⟩ else .bad
      | _ => .bad
    | _ => .bad := by funext e; rw [execS] <;> rfl
theorem xs_augI : execS C (.augI b c x) = fun e => (evalE C b e).st fun y e => (evalE C c e).st fun z e => (opIdx y z e).st fun u e => match u with
    | .val (.int a) => (evalE C x e).st fun v e => match v with
      | .val (.int c) => (setIx y z (.int (a + c)) e).st fun _ e => .nx e
      | _ => .bad
    | _ => .bad := by funext e; rw [execS] <;> rfl
theorem xs_ite : execS C (.ite c ss tt) = fun e => (evalT C c e).st fun t e => if t then execSs C ss e else execSs C tt e := by funext e; rw [execS]
theorem xs_whl : execS C (.whl c ss) = fun e => whileE (evalT C c) (execSs C ss) e := by funext e; rw [execS]
theorem xs_for {s : Src} : execS C (.for_ t s ss) = fun e => (evalS C true s e).st fun p e => forL (fun d e => match bindD t d e with
      | some e => execSs C ss e
      | none => .bad) p.1 e := by funext e; rw [execS] <;> rfl
theorem xs_ret : execS C (.ret x) = fun e => (evalE C x e).st fun r e => .ret r e := by funext e; rw [execS]
theorem xs_retn : execS C .retn = fun e => .ret (.val .non) e := by funext e; rw [execS]
theorem xs_exp : execS C (.exp x) = fun e => (evalE C x e).st fun _ e => .nx e := by funext e; rw [execS]
theorem xs_brk : execS C .brk = fun e => .bk e := by funext e; rw [execS]
theorem xs_cnt : execS C .cnt = fun e => .ct e := by funext e; rw [execS]
theorem xs_pas : execS C .pas = fun e => .nx e := by funext e; rw [execS]
theorem xss_nil : execSs C [] = fun e => .nx e := by funext e; rw [execSs]
theorem xss_cons {s : Sm} : execSs C (s :: ss) = fun e => (execS C s e).andThen (execSs C ss) := by funext e; rw [execSs]
end
/-! ### the text's helpers -/
section
variable {env : PySem.Env} {sc : Scope}
theorem blk_kind (hk : env.scope.kind = .function) : env.blockKind = .function := by
  unfold PySem.Env.blockKind
  rw [hk]
  rfl
theorem kind_local (hs : env.scope = sc) (x : Str) : (env.kindOf x == some .local) = localB sc x := by
  unfold PySem.Env.kindOf localB
  rw [hs]
  cases h : sc.names.lookup x with
  | none => rfl
  | some k => cases k <;> rfl
theorem swap_lc {elt : Expr} {gs : List Comprehension} {scope : Scope} {q p : Pos} {x : Str} {l : Nat} (hk : env.scope.kind = .function) (hs : env.scope = sc) : swapsWith (.ListComp elt gs scope q) (some (.Name x p)) l env = pure (lcSwap sc x p scope q) := by
  unfold swapsWith lcSwap
  simp only [blk_kind hk, kind_local hs, Expr.pos]
  rfl
theorem swap_no {ts : List Expr} {k : Nat} {pt : Pos} {a : Expr} (h : ∀ vs k2 p2, a ≠ .Tuple vs k2 p2) : swappedStores [.Tuple ts k pt] a env = pure none := by
  cases a <;> first | rfl | exact absurd rfl (h _ _ _)
theorem swap_fold {ts vs : List Expr} {k k2 : Nat} {pt p2 : Pos} (h : (vs.all (foldedForSure 8) || decide (3 < ts.length)) = true) : swappedStores [.Tuple ts k pt] (.Tuple vs k2 p2) env = pure none := by
  unfold swappedStores
  simp only
  split
  · rfl
  · rename_i h1
    have hf : vs.all (foldedForSure 8) = true := by
      rcases (Bool.or_eq_true _ _).mp h with z | z
      · exact z
      · exfalso
        apply h1
        have : 3 < ts.length := of_decide_eq_true z
        have e2 : (ts.length == 2) = false := by simp; omega
        have e3 : (ts.length == 3) = false := by simp; omega
        rw [e2, e3]
        rfl
    split
    · rfl
    · split
      · rfl
      · first
          | rfl
          | (rw [if_pos hf]; rfl)
theorem star_any : ∀ {vs : List Expr}, noStar vs = true → (vs.any fun | .Starred .. => true | _ => false) = false
  | [], _ => rfl
  | a :: vs, h => by
    obtain ⟨h1, h2⟩ := noStar_cons h
    have ih := star_any h2
    rw [List.any_cons, ih]
    cases a <;> first | rfl | cases h1
theorem star_mem {vs : List Expr} (hv : noStar vs = true) {x1 : Expr} (h1 : x1 ∈ vs) : isStar x1 = false := by
  unfold noStar at hv
  have := List.all_eq_true.mp hv x1 h1
  simpa using this
theorem swap_two {x y : Str} {p q : Pos} {k k2 : Nat} {pt p2 : Pos} {vs : List Expr} (hk : env.scope.kind = .function) (hs : env.scope = sc) (hl : vs.length = 2) (hv : noStar vs = true) (hf : vs.all (foldedForSure 8) = false) (hc : vs.all (constantsAlone 8) = false)
    (hx : localB sc x = true) (hy : localB sc y = true) (hp : (p.line == q.line) = true) (hne : x ≠ y) : swappedStores [.Tuple [.Name x p, .Name y q] k pt] (.Tuple vs k2 p2) env = pure (some [x, y]) := by
  have l2 : (vs.length != 2) = false := by rw [hl]; rfl
  have bk : (env.blockKind != ScopeKind.function) = false := by rw [blk_kind hk]; rfl
  have e1 : (q.line == p.line) = true := by rw [eq_of_beq hp]; exact beq_self_eq_true _
  have e2 : (p.line == p.line) = true := beq_self_eq_true _
  have dd : ([x, y].eraseDups.length != [x, y].length) = false := by
    have : ([x, y] : List Str).eraseDups = [x, y] := by
      simp [List.eraseDups_cons, Ne.symm hne]
    rw [this]; rfl
  unfold swappedStores
  simp only [List.length_cons, List.length_nil, List.head?_cons, Option.map_some, Option.getD_some, Expr.pos, List.filterMap_cons, List.filterMap_nil, kind_local hs, hx, hy, e1, e2, Bool.and_self, if_true, star_any hv, hf, hc]
  simp [hl, bk, dd, List.eraseDups_cons, Ne.symm hne, hne]
  intro x1 h1 h2
  have h3 := star_mem hv h1
  cases x1 <;> first | (cases h2; done) | cases h3
theorem swap_three {x y z : Str} {p q r : Pos} {k k2 : Nat} {pt p2 : Pos} {vs : List Expr} (hk : env.scope.kind = .function) (hs : env.scope = sc) (hl : vs.length = 3) (hv : noStar vs = true) (hf : vs.all (foldedForSure 8) = false) (hc : vs.all (constantsAlone 8) = false)
    (hx : localB sc x = true) (hy : localB sc y = true) (hz : localB sc z = true) (hp : (p.line == q.line) = true) (hp2 : (p.line == r.line) = true) (hxy : x ≠ y) (hxz : x ≠ z) (hyz : y ≠ z) :
    swappedStores [.Tuple [.Name x p, .Name y q, .Name z r] k pt] (.Tuple vs k2 p2) env = pure (some [x, y, z]) := by
  have bk : (env.blockKind != ScopeKind.function) = false := by rw [blk_kind hk]; rfl
  have e1 : (q.line == p.line) = true := by rw [eq_of_beq hp]; exact beq_self_eq_true _
  have e3 : (r.line == p.line) = true := by rw [eq_of_beq hp2]; exact beq_self_eq_true _
  have e2 : (p.line == p.line) = true := beq_self_eq_true _
  unfold swappedStores
  simp only [List.length_cons, List.length_nil, List.head?_cons, Option.map_some, Option.getD_some, Expr.pos, List.filterMap_cons, List.filterMap_nil, kind_local hs, hx, hy, hz, e1, e2, e3, Bool.and_self, if_true, star_any hv, hf, hc]
  simp [hl, bk, List.eraseDups_cons, Ne.symm hxy, hxy, Ne.symm hxz, hxz, Ne.symm hyz, hyz]
  intro x1 h1 h2
  have h3 := star_mem hv h1
  cases x1 <;> first | (cases h2; done) | cases h3
theorem nat_beq_comm (a b : Nat) : (a == b) = (b == a) := by
  by_cases h : a = b
  · subst h; rfl
  · rw [beq_false_of_ne h, beq_false_of_ne (Ne.symm h)]
theorem swap_two_no {x y : Str} {p q : Pos} {k k2 : Nat} {pt p2 : Pos} {vs : List Expr} (hs : env.scope = sc) (h : (localB sc x && localB sc y && (p.line == q.line) && decide (x ≠ y)) = false) : swappedStores [.Tuple [.Name x p, .Name y q] k pt] (.Tuple vs k2 p2) env = pure none := by
  have e2 : (p.line == p.line) = true := beq_self_eq_true _
  have ec : (q.line == p.line) = (p.line == q.line) := nat_beq_comm _ _
  unfold swappedStores
  simp only [List.length_cons, List.length_nil, List.head?_cons, Option.map_some, Option.getD_some, Expr.pos, List.filterMap_cons, List.filterMap_nil, kind_local hs, e2, ec, Bool.and_true]
  cases hx : localB sc x <;> cases hy : localB sc y <;> cases hp : (p.line == q.line) <;> rw [hx, hy, hp] at h <;> simp [List.eraseDups_cons] at h ⊢ <;> (try (subst h)) <;> simp
theorem swap_three_no {x y z : Str} {p q r : Pos} {k k2 : Nat} {pt p2 : Pos} {vs : List Expr} (hs : env.scope = sc) (h : (localB sc x && localB sc y && localB sc z && (p.line == q.line) && (p.line == r.line)) = false) : swappedStores [.Tuple [.Name x p, .Name y q, .Name z r] k pt] (.Tuple vs k2 p2) env = pure none := by
  have e2 : (p.line == p.line) = true := beq_self_eq_true _
  have ec : (q.line == p.line) = (p.line == q.line) := nat_beq_comm _ _
  have ed : (r.line == p.line) = (p.line == r.line) := nat_beq_comm _ _
  unfold swappedStores
  simp only [List.length_cons, List.length_nil, List.head?_cons, Option.map_some, Option.getD_some, Expr.pos, List.filterMap_cons, List.filterMap_nil, kind_local hs, e2, ec, ed, Bool.and_true]
  cases hx : localB sc x <;> cases hy : localB sc y <;> cases hz : localB sc z <;> cases hp : (p.line == q.line) <;> cases hp2 : (p.line == r.line) <;> rw [hx, hy, hz, hp, hp2] at h <;> simp at h ⊢
end
end Fp
/-! FpSnd7: the text does what its translation says: statements. -/
namespace Fp
open PySem PySem.Spec PyProof.Rows L2
/-- a def's body -/
structure Cb (G : Gt) (T : Tb) (m : Nat) (N : List Str) (sc : Scope) (X : L2.Cx) (S : Se) (W : WX) : Prop extends Cy G T m N sc X S W where
  pass : PassesOwn (model X.prog X.w) X.A X.env X.xe
  fn : ∀ x, X.fn x = true
  kind : X.env.scope.kind = .function
section
variable {G : Gt} {T : Tb} {m : Nat} {N : List Str} {sc : Scope} {X : L2.Cx} {S : Se} {W : WX} {e a b o elt tg it : Expr} {es : List Expr} {p pos : Pos} {n : Nat}
theorem badS {s : Stmt} : PS X s (tSm S W (execS (T.ct m) .nev)) := by rw [xs_nev]; exact st_nev
theorem Cb.toTg (c : Cb G T m N sc X S W) : TgC N sc (fun _ => true) X S := ⟨c.hK, c.hN, c.nd, c.hsc, c.calm, fun x _ => c.fn x⟩
theorem snd_setN (c : Cb G T m N sc X S W) {x : Str} {i : Nat} (hi : N.idxOf? x = some i) (hl : locB sc x = true) (hs : swapsWith a (some (.Name x p)) pos.line X.env = pure false) : PS X (.Assign [.Name x p] a pos) (tSm S W (execS (T.ct m) (.asg (.nm i) (trE G N n sc a)))) := by
  rw [xs_asg]
  exact st_set (by rw [c.hN]; exact c.nd) (by rw [c.hN]; exact idx_get hi) (by rw [c.hsc]; exact loc_of hl) (.inl (c.fn x)) ((snd_all n).E c.toCy a) hs
theorem snd_setLc (c : Cb G T m N sc X S W) {x : Str} {i : Nat} (hi : N.idxOf? x = some i) {gs : List Comprehension} {scope : Scope} {q : Pos} (hw : lcSwap sc x p scope q = true) :
    PS X (.Assign [.Name x p] (.ListComp elt gs scope q) pos) (tSm S W (execS (T.ct m) (.asg (.nm i) (trE G N (n + 1) sc (.ListComp elt gs scope q))))) := by
  have IH := snd_all (G := G) (T := T) (m := m) (N := N) n
  have hsw : swapsWith (.ListComp elt gs scope q) (some (.Name x p)) pos.line X.env = pure true := by rw [swap_lc c.kind c.hsc, hw]
  have hloc : X.env.scope.names.lookup x = some .local := by
    rw [c.hsc]
    unfold lcSwap at hw
    simp only [Bool.and_eq_true] at hw
    exact local_of hw.1.1
  have bad : PS X (.Assign [.Name x p] (.ListComp elt gs scope q) pos) (tSm S W (execS (T.ct m) (.asg (.nm i) .nev))) := by
    rw [xs_asg, ev_nev]
    exact st_nev
  by_cases h : ∃ tg it ifs, gs = [⟨tg, it, ifs, 0⟩]
  · obtain ⟨tg, it, ifs, rfl⟩ := h
    simp only [trE]
    split
    · exact bad
    · rename_i hset
      have hset : isSet it = false := by simpa using hset
      split
      · rename_i hb
        split
        · rename_i t ht
          split
          · rename_i hsl
            rw [xs_asg, ev_comp]
            exact st_setLc (ifs := []) (ct := fun e => .ok true e) (ex := evalE (T.ct m) (trE G N n (relS scope sc) elt)) (own := ownOf N scope) c.calm (by rw [c.hN]; exact c.nd) (by rw [c.hN]; exact idx_get hi) hloc hsw (IH.R c.toCy tg it false) (own_ok c.toCy hb) (slots_ok hsl)
              (fun s H C cl fp => blk_tg c.toCy ht s H C cl fp) (fun s H C cl fp => ts_nil) (fun s H C cl fp => IH.E (c.toCy.blk s H scope C cl fp) elt) (fold_iter hset)
          · exact bad
        · rename_i t k ht
          split
          · rename_i hsl
            rw [xs_asg, ev_comp]
            exact st_setLc (ifs := [k]) (ct := evalT (T.ct m) (trT G N n (relS scope sc) k)) (ex := evalE (T.ct m) (trE G N n (relS scope sc) elt)) (own := ownOf N scope) c.calm (by rw [c.hN]; exact c.nd) (by rw [c.hN]; exact idx_get hi) hloc hsw (IH.R c.toCy tg it false) (own_ok c.toCy hb) (slots_ok hsl)
              (fun s H C cl fp => blk_tg c.toCy ht s H C cl fp) (fun s H C cl fp => pts_one (IH.T_ (c.toCy.blk s H scope C cl fp) k)) (fun s H C cl fp => IH.E (c.toCy.blk s H scope C cl fp) elt) (fold_iter hset)
          · exact bad
        · exact bad
      · exact bad
  · rw [trE_lc_no (x := .nev) fun tg it ifs z => h ⟨tg, it, ifs, z⟩]
    exact bad
theorem snd_tupS (c : Cb G T m N sc X S W) {ts : List Expr} {k : Nat} {pt : Pos} (hc : isComp a = false) (hw : swappedStores [.Tuple ts k pt] a X.env = pure none) :
    PS X (.Assign [.Tuple ts k pt] a pos) (tSm S W (execS (T.ct m) (match trTg N sc (fun _ => true) n (.Tuple ts 0 ⟨0, 0, 0, 0⟩) with | some t => .asg t (trE G N n sc a) | none => .nev))) := by
  split
  · rename_i t ht
    obtain ⟨tt, rfl, hg⟩ := tg_tup c.toTg ht k pt
    rw [xs_asg]
    exact st_tup hg ((snd_all n).E c.toCy a) (swap_sole hc) hw rfl
  · exact badS
theorem snd_par2 (c : Cb G T m N sc X S W) {x y : Str} {p q pt p2 : Pos} {k k2 : Nat} {i j : Nat} (hi : N.idxOf? x = some i) (hj : N.idxOf? y = some j) (hv : noStar [a, b] = true) (hf : [a, b].all (foldedForSure 8) = false) (hc : [a, b].all (constantsAlone 8) = false)
    (hx : localB sc x = true) (hy : localB sc y = true) (hp : (p.line == q.line) = true) (hne : x ≠ y) : PS X (.Assign [.Tuple [.Name x p, .Name y q] k pt] (.Tuple [a, b] k2 p2) pos) (tSm S W (execS (T.ct m) (.par [i, j] [trE G N n sc a, trE G N n sc b]))) := by
  rw [xs_par]
  have IH := snd_all (G := G) (T := T) (m := m) (N := N) n
  have hij : i ≠ j := fun z => hne (by
    have h1 := idx_get hi
    rw [z, idx_get hj] at h1
    exact (Option.some.inj h1).symm)
  exact st_par2 c.calm (by rw [c.hN]; exact c.nd) (by rw [c.hN]; exact idx_get hi) (by rw [c.hN]; exact idx_get hj) hij (by rw [c.hsc]; exact local_of hx) (by rw [c.hsc]; exact local_of hy) (pa2 IH c.toCy hv) (swap_two c.kind c.hsc rfl hv hf hc hx hy hp hne) rfl
theorem snd_par3 (c : Cb G T m N sc X S W) {d : Expr} {x y z : Str} {p q r pt p2 : Pos} {k k2 : Nat} {i j l : Nat} (hi : N.idxOf? x = some i) (hj : N.idxOf? y = some j) (hl : N.idxOf? z = some l) (hv : noStar [a, b, d] = true) (hf : [a, b, d].all (foldedForSure 8) = false) (hc : [a, b, d].all (constantsAlone 8) = false)
    (hx : localB sc x = true) (hy : localB sc y = true) (hz : localB sc z = true) (hp : (p.line == q.line) = true) (hp2 : (p.line == r.line) = true) (hxy : x ≠ y) (hxz : x ≠ z) (hyz : y ≠ z) :
    PS X (.Assign [.Tuple [.Name x p, .Name y q, .Name z r] k pt] (.Tuple [a, b, d] k2 p2) pos) (tSm S W (execS (T.ct m) (.par [i, j, l] [trE G N n sc a, trE G N n sc b, trE G N n sc d]))) := by
  rw [xs_par]
  have IH := snd_all (G := G) (T := T) (m := m) (N := N) n
  have ne : ∀ {x y : Str} {i j : Nat}, N.idxOf? x = some i → N.idxOf? y = some j → x ≠ y → i ≠ j := fun {x y i j} hi hj hne z => hne (by
    have h1 := idx_get hi
    rw [z, idx_get hj] at h1
    exact (Option.some.inj h1).symm)
  obtain ⟨h1, h2⟩ := noStar_cons hv
  refine st_par3 c.calm (by rw [c.hN]; exact c.nd) (by rw [c.hN]; exact idx_get hi) (by rw [c.hN]; exact idx_get hj) (by rw [c.hN]; exact idx_get hl) (ne hi hj hxy) (ne hi hl hxz) (ne hj hl hyz) (by rw [c.hsc]; exact local_of hx) (by rw [c.hsc]; exact local_of hy) (by rw [c.hsc]; exact local_of hz) ?_ (swap_three c.kind c.hsc rfl hv hf hc hx hy hz hp hp2 hxy hxz hyz) rfl
  rw [es_cons]
  exact s_cons (IH.E c.toCy a) (pa2 IH c.toCy h2) (star_cons h1)
end
end Fp
/-! FpSnd8: statements: the induction. -/
namespace Fp
open PySem PySem.Spec PyProof.Rows L2
structure SndS (G : Gt) (T : Tb) (m : Nat) (N : List Str) (n : Nat) : Prop where
  s : ∀ {sc : Scope} {X : L2.Cx} {S : Se} {W : WX}, Cb G T m N sc X S W → ∀ s, PS X s (tSm S W (execS (T.ct m) (trS G N n sc s)))
  ss : ∀ {sc : Scope} {X : L2.Cx} {S : Se} {W : WX}, Cb G T m N sc X S W → ∀ ss, PSs X ss (tSm S W (execSs (T.ct m) (trSs G N n sc ss)))
section
variable {G : Gt} {T : Tb} {m : Nat} {N : List Str} {sc : Scope} {X : L2.Cx} {S : Se} {W : WX} {e a b o elt tg it : Expr} {es : List Expr} {p pos : Pos} {n : Nat}
theorem snd_asgN (c : Cb G T m N sc X S W) {x : Str} : PS X (.Assign [.Name x p] a pos) (tSm S W (execS (T.ct m) (trS G N (n + 1) sc (.Assign [.Name x p] a pos)))) := by
  unfold trS
  simp only
  split
  · rename_i i hi
    split
    · rename_i hl
      split
      · rename_i elt gs scope q
        split
        · rename_i hw
          exact snd_setLc c hi hw
        · rename_i hw
          exact snd_setN c hi hl (by rw [swap_lc c.kind c.hsc]; simp at hw; rw [hw])
      · split
        · exact badS
        · rename_i hc
          exact snd_setN c hi hl (swap_none (by simpa using hc))
    · exact badS
  · exact badS
theorem snd_asgT (c : Cb G T m N sc X S W) {ts : List Expr} {k : Nat} {pt : Pos} : PS X (.Assign [.Tuple ts k pt] a pos) (tSm S W (execS (T.ct m) (trS G N (n + 1) sc (.Assign [.Tuple ts k pt] a pos)))) := by
  unfold trS
  simp only
  split
  · exact badS
  · rename_i hc
    have hc : isComp a = false := by simpa using hc
    split
    · rename_i vs k2 p2
      split
      · rename_i hf
        exact snd_tupS c hc (swap_fold hf)
      · rename_i hf
        simp only [Bool.or_eq_true, not_or, Bool.not_eq_true] at hf
        split
        · rename_i x p y q
          split
          · rename_i hh
            simp only [Bool.and_eq_true, decide_eq_true_eq] at hh
            obtain ⟨⟨⟨h1, h2⟩, h3⟩, h4⟩ := hh
            split
            · rename_i hv
              simp only [Bool.and_eq_true, Bool.not_eq_true'] at hv
              split
              · rename_i a b
                split
                · rename_i i j hi hj
                  exact snd_par2 c hi hj hv.1 hf.1 hv.2 h1 h2 h3 h4
                · exact badS
              · exact badS
            · exact badS
          · rename_i hh
            exact snd_tupS c hc (swap_two_no c.hsc (by simpa using hh))
        · rename_i x p y q z r
          split
          · rename_i hh
            simp only [Bool.and_eq_true] at hh
            obtain ⟨⟨⟨⟨h1, h2⟩, h3⟩, h4⟩, h5⟩ := hh
            split
            · rename_i hv
              simp only [Bool.and_eq_true, Bool.not_eq_true', decide_eq_true_eq] at hv
              obtain ⟨⟨⟨⟨v1, v2⟩, h6⟩, h7⟩, h8⟩ := hv
              split
              · rename_i a b d
                split
                · rename_i i j l hi hj hl
                  exact snd_par3 c hi hj hl v1 hf.1 v2 h1 h2 h3 h4 h5 h6 h7 h8
                · exact badS
              · exact badS
            · exact badS
          · rename_i hh
            exact snd_tupS c hc (swap_three_no c.hsc (by simpa using hh))
        · exact badS
    · rename_i hno
      exact snd_tupS c hc (swap_no fun vs k2 p2 h => hno vs k2 p2 h)
theorem snd_S (IH : SndS G T m N n) (c : Cb G T m N sc X S W) (s : Stmt) : PS X s (tSm S W (execS (T.ct m) (trS G N (n + 1) sc s))) := by
  have IE := snd_all (G := G) (T := T) (m := m) (N := N) n
  cases s with
  | Assign ts a pos =>
    match ts with
    | [] => unfold trS; exact badS
    | t1 :: t2 :: _ =>
      unfold trS
      split <;> first | exact badS | (rename_i h; cases h)
    | [t] =>
      cases t with
      | Name x p => exact snd_asgN c
      | Tuple es k p => exact snd_asgT c
      | Subscript b d p =>
        unfold trS
        simp only
        split
        · exact badS
        · rename_i hs
          have sw : swapsWithSole [.Subscript b d p] a pos.line X.env = pure false := by
            have e1 : swapsWithSole [.Subscript b d p] a pos.line X.env = swapsWith a (some (.Subscript b d p)) pos.line X.env := by rfl
            rw [e1]
            cases a <;> rfl
          have sw2 : swappedStores [.Subscript b d p] a X.env = pure none := by cases a <;> rfl
          rw [xs_setI]
          exact st_setI (IE.E c.toCy a) (IE.E c.toCy b) (IE.E c.toCy d) sw sw2 (by rfl) (by
            intro v
            have hs : isSlice d = false := by simpa using hs
            cases d <;> first | rfl | cases hs)
      | _ => unfold trS; exact badS
  | AugAssign t op a pos =>
    cases op with
    | Add =>
      cases t with
      | Name x p =>
        unfold trS
        simp only
        split
        · rename_i i hi
          split
          · rename_i hl
            rw [xs_aug]
            exact st_aug (by rw [c.hN]; exact c.nd) (by rw [c.hN]; exact idx_get hi) (by rw [c.hsc]; exact loc_of hl) (.inl (c.fn x)) (IE.E c.toCy a)
          · exact badS
        · exact badS
      | Subscript b d p =>
        unfold trS
        simp only
        split
        · exact badS
        · rename_i hs
          rw [xs_augI]
          exact st_augI c.hK (IE.E c.toCy b) (IE.E c.toCy d) (IE.E c.toCy a) fun ov iv new => aug_store (by simpa using hs) ov iv new
      | _ => unfold trS; exact badS
    | _ => cases t <;> (unfold trS; exact badS)
  | If t a b pos =>
    unfold trS
    rw [xs_ite]
    exact st_if (IE.T_ c.toCy t) (IH.ss c a) (IH.ss c b)
  | While t a b pos =>
    cases b with
    | nil =>
      unfold trS
      rw [xs_whl]
      exact st_while c.pass (IE.T_ c.toCy t) (IH.ss c a)
    | cons _ _ => unfold trS; exact badS
  | For tg it b r pos =>
    cases r with
    | nil =>
      unfold trS
      simp only
      split
      · exact badS
      · rename_i hs
        split
        · rename_i t ht
          rw [xs_for]
          exact st_for c.pass c.calm (IE.R c.toCy tg it true) ((tg_all c.toTg n).1 tg t ht) (IH.ss c b) (fold_iter (by simpa using hs))
        · exact badS
    | cons _ _ => unfold trS; exact badS
  | Return a pos =>
    cases a with
    | none => unfold trS; rw [xs_retn]; exact st_retn
    | some a => unfold trS; rw [xs_ret]; exact st_ret (IE.E c.toCy a)
  | Expr a pos =>
    have gen : isComp a = false → PS X (.Expr a pos) (tSm S W (execS (T.ct m) (.exp (trE G N n sc a)))) := fun h => by
      rw [xs_exp]
      exact st_exp (IE.E c.toCy a) (swap_none h)
    cases a with
    | Constant k j p =>
      cases k with
      | str x => unfold trS; rw [xs_pas]; exact st_doc
      | _ => unfold trS; exact gen rfl
    | ListComp _ _ _ _ => unfold trS; exact badS
    | SetComp _ _ _ _ => unfold trS; exact badS
    | DictComp _ _ _ _ _ => unfold trS; exact badS
    | _ => unfold trS; exact gen rfl
  | Pass pos => unfold trS; rw [xs_pas]; exact st_pas
  | Break pos => unfold trS; rw [xs_brk]; exact st_brk
  | Continue pos => unfold trS; rw [xs_cnt]; exact st_cnt
  | _ => unfold trS; exact badS
theorem snd_allS {G : Gt} {T : Tb} {m : Nat} {N : List Str} : ∀ n : Nat, SndS G T m N n
  | 0 => ⟨fun c s => by unfold trS; exact badS, fun c ss => by
    cases ss with
    | nil => unfold trSs; rw [xss_nil]; exact st_nil
    | cons s ss =>
      unfold trSs
      rw [xss_cons, xs_nev]
      exact ⟨fun _ _ _ _ _ _ ⟨_, _, _, _, g⟩ => g.elim⟩⟩
  | n + 1 => by
    have IH := snd_allS (G := G) (T := T) (m := m) (N := N) n
    refine ⟨fun c s => snd_S IH c s, fun c ss => ?_⟩
    cases ss with
    | nil => unfold trSs; rw [xss_nil]; exact st_nil
    | cons s ss =>
      unfold trSs
      rw [xss_cons]
      exact st_cons (IH.s c s) (IH.ss c ss)
end
end Fp
/-! FpTop: all defs of a module; the law's def. -/
namespace Fp
open PySem PySem.Spec PyProof.Rows L2
/-- a def's text -/
structure Df where
  x : Str
  f : String
  args : Arguments
  body : List Stmt
  sc : Scope
  ps : List String
def Df.psS (d : Df) : List Str := d.ps.map Str.ofString
def Df.N (d : Df) : List Str := namesOf d.psS d.sc d.body
def Df.fn (G : Gt) (d : Df) : Fn := ⟨d.ps, d.N.length, trSs G d.N 200 d.sc d.body⟩
/-- what a def's text must show -/
structure DfOk (G : Gt) (T : Tb) (d : Df) : Prop where
  T : T.fns d.f = some (d.fn G)
  sc : FnScope d.N d.psS d.sc
  bd : ∀ (kV doc pm : Value) (an : Option Addr) (cdv ct : Value) (us : List Value), us.length = d.psS.length → bindArgs (PySem.W.fnOf d.x d.x d.args d.body d.sc .none kV doc pm an cdv ct) ⟨us, []⟩ = pure (d.psS.zip us)
  kw : ∀ (pn ys : List String) (xs : List Str) (n : Nat) (js : List Nat), (d.f, ys, n) ∈ G.kws → G.pars d.f = some pn → kwStrs pn xs = some ys → kwPerm pn ys n = some js →
    ∀ (kV doc pm : Value) (an : Option Addr) (cdv ct : Value) (us ws : List Value), us.length = n → ws.length = xs.length → bindArgs (PySem.W.fnOf d.x d.x d.args d.body d.sc .none kV doc pm an cdv ct) ⟨us, xs.zip ws⟩ = pure (d.psS.zip (us ++ js.map fun j => ws.getD j .none))
  kl : ∀ (pn ys : List String) (xs : List Str) (n : Nat) (js : List Nat), (d.f, ys, n) ∈ G.kws → G.pars d.f = some pn → kwStrs pn xs = some ys → kwPerm pn ys n = some js → d.psS.length = n + js.length ∧ ∀ j ∈ js, j < xs.length
section
variable {G : Gt} {T : Tb} {P : Program} {w : World} {K : PySem.W.Frag} {mg : Str → Option Value} {base : Heap} {S : Se} {d : Df} {fa : Addr} {fd : FuncData} {m : Nat}
theorem DfOk.kwb (D : DfOk G T d) (F : FunD K d.x d.x d.args d.body d.sc [] [] fa fd) : ∀ (pn ys : List String) (xs : List Str) (n : Nat) (js : List Nat), (d.f, ys, n) ∈ G.kws → G.pars d.f = some pn → kwStrs pn xs = some ys → kwPerm pn ys n = some js → KwB K fd d.psS xs n js := fun pn ys xs n js h1 h2 h3 h4 => by
  obtain ⟨oc, od, dV, kV, doc, pm, an, cdv, ct, osl, rfl, lk, hcd, hD, hK⟩ := F.ex
  obtain ⟨k1, k2⟩ := D.kl pn ys xs n js h1 h2 h3 h4
  rcases hD with ⟨_, rfl⟩ | ⟨e, _⟩
  · exact ⟨fun s us ws hu hw => .of_eq (D.kw pn ys xs n js h1 h2 h3 h4 kV doc pm an cdv ct us ws hu hw), k1, k2⟩
  · exact absurd rfl e
/-- the module: all its defs, at every level -/
structure Md (G : Gt) (T : Tb) (K : PySem.W.Frag) (mg : Str → Option Value) (S : Se) : Prop where
  hK : S.K = K
  defs : ∀ x f, G.fns.lookup x = some f → ∃ d : Df, d.x = x ∧ d.f = f ∧ DfOk G T d ∧ ∃ fa fd, FunD K d.x d.x d.args d.body d.sc [] [] fa fd ∧ mg x = some (.ref fa)
  pars : ∀ f ps, G.pars f = some ps → (T.fns f).map (·.ps) = some ps
  nob : ∀ x ∈ bltAll, mg x = none
  gcd : G.gcd = true → mg "gcd" = some (.builtin "math.gcd")
  glo : ∀ x c, G.glo.lookup x = some c → ∃ v u d, mg x = some u ∧ RelV v u ∧ T.glo c = some d ∧ Dat S (fun _ => none) d v
theorem Md.body (M : Md G T K mg S) (D : DfOk G T d) (ih : ∀ x f, G.fns.lookup x = some f → ∃ d : Df, d.x = x ∧ d.f = f ∧ ∃ fa fd, FunD K d.x d.x d.args d.body d.sc [] [] fa fd ∧ mg x = some (.ref fa) ∧ Binds K fd d.psS [] ∧
      (∀ (pn ys : List String) (xs : List Str) (n : Nat) (js : List Nat), (d.f, ys, n) ∈ G.kws → G.pars d.f = some pn → kwStrs pn xs = some ys → kwPerm pn ys n = some js → KwB K fd d.psS xs n js) ∧ FnOk P w K mg base (L2.CX P w) m fa fd d.psS (spF S (callN T m d.f)))
    (cdv : Value) (A : Around) (outer : List PySem.Env) (s : Shared) (H : Hp) (E : XK) (pa : List Addr) (hr : Room m (A.deeper (envOfC d.x d.sc s.heap.objs.size fa cdv))) :
    PSs (cxOf (L2.CX P w) P w K mg base d.N d.x d.sc fa cdv A outer s H E) d.body (tSm (S.with pa) (fun c d _ H => E c d H) (execSs (T.ct m) (d.fn G).body)) := by
  refine (snd_allS (G := G) (T := T) (m := m) (N := d.N) 200).ss (sc := d.sc) ?_ d.body
  exact {
    hK := M.hK
    hN := rfl
    nd := D.sc.nd
    hsc := rfl
    calm := rfl
    takes := takes_of rfl rfl rfl rfl
    room := hr
    fns := fun x f h => by
      obtain ⟨d', rfl, rfl, fa', fd', F, hm, bd, kb, ok⟩ := ih x f h
      exact ⟨fa', fd', d'.psS, hm, F.kp, bd, kb, ok⟩
    pars := M.pars
    nob := M.nob
    gcd := M.gcd
    glo := fun x c h => by
      obtain ⟨v, u, d, h1, h2, h3, h4⟩ := M.glo x c h
      exact ⟨v, u, d, h1, h2, h3, Dat.pa _ _ h4⟩
    pass := passes_of rfl
    fn := fun _ => rfl
    kind := D.sc.kind }
theorem Md.all (M : Md G T K mg S) : ∀ m : Nat, ∀ x f, G.fns.lookup x = some f → ∃ d : Df, d.x = x ∧ d.f = f ∧ ∃ fa fd, FunD K d.x d.x d.args d.body d.sc [] [] fa fd ∧ mg x = some (.ref fa) ∧ Binds K fd d.psS [] ∧
      (∀ (pn ys : List String) (xs : List Str) (n : Nat) (js : List Nat), (d.f, ys, n) ∈ G.kws → G.pars d.f = some pn → kwStrs pn xs = some ys → kwPerm pn ys n = some js → KwB K fd d.psS xs n js) ∧ FnOk P w K mg base (L2.CX P w) m fa fd d.psS (spF S (callN T m d.f))
  | 0, x, f, h => by
    obtain ⟨d, rfl, rfl, D, fa, fd, F, hm⟩ := M.defs x f h
    exact ⟨d, rfl, rfl, fa, fd, F, hm, F.bindsN D.bd, D.kwb F, fn_zero⟩
  | m + 1, x, f, h => by
    obtain ⟨d, rfl, rfl, D, fa, fd, F, hm⟩ := M.defs x f h
    refine ⟨d, rfl, rfl, fa, fd, F, hm, F.bindsN D.bd, D.kwb F, ?_⟩
    exact fn_ok F D.sc D.T (by simp [Df.fn, Df.psS]) rfl fun cdv A outer s H E pa hr => M.body D (M.all m) cdv A outer s H E pa hr
/-- no error leaves -/
theorem FnOk.quiet {k : Nat} {ps : List Str} {sp : Sp} (F : FnOk P w K mg base (L2.CX P w) k fa fd ps sp) : FnOk P w K mg base L2.CX0 k fa fd ps (fun vs H Q _ => sp vs H Q fun _ _ _ => False) :=
  ⟨fun vs H Q E h => F.len vs H Q _ h, fun A outer s H args us vs Q E hr he hb hv hs => codeAny_mono (F.run A outer s H args us vs Q _ hr he hb hv hs) fun r s' h => by
    cases r with
    | ok x => cases x <;> exact h
    | error e =>
      obtain ⟨_, _, _, _, _, _, _, _, _, _, _, _, z⟩ := h
      exact z.elim⟩
/-- the law's def at its script -/
theorem law_sp {f : String} {a : Addr} {ns : List Int} {H : Hp} {E : XK} (hK : S.K = K) (hS : SqL K H a (ns.map V.int)) (h : callN T m f [.val (.klst (ns.map D.int))] [] = .ok (.val (.bl true)) []) : spF S (callN T m f) [.ref a] H (fun v _ => v = .bl true) E := by
  have dts : ∀ ns : List Int, Dats (S.with []) H (ns.map D.int) (ns.map V.int) := by
    intro ns
    induction ns with
    | nil => trivial
    | cons i ns ih => exact ⟨rfl, ih⟩
  refine ⟨[], [.val (.klst (ns.map D.int))], [], ⟨H, H, fun _ => [], fun _ => none⟩, rfl, rfl, ⟨Same.refl _, rfl, rfl, fun i s hs => ?_, fun _ _ => rfl, fun k p hp => by simp at hp, fun _ _ => rfl, fun _ => List.nodup_nil, fun _ _ _ h1 => absurd h1 (by simp), fun x ⟨l, hx⟩ => absurd hx (by simp), fun x ⟨l, hx⟩ => absurd hx (by simp), fun x hx => absurd rfl hx⟩, fun s hs => .inl ⟨_, List.mem_singleton.mp hs⟩, ?_⟩
  · cases i with
    | zero =>
      simp at hs
      subst hs
      exact ⟨rfl, .ref a, rfl, a, _, rfl, by show SqL S.K H a _; rw [hK]; exact hS, dts ns⟩
    | succ i => simp at hs
  · rw [h]
    exact fun v w q _ _ hr _ => hr.2
end
end Fp
namespace Fp
open PySem PySem.Spec PyProof.Rows L2
theorem kwStrs_eq {ps : List String} : ∀ {xs : List Str} {ys : List String}, kwStrs ps xs = some ys → xs = ys.map Str.ofString
  | [], ys, h => by unfold kwStrs at h; cases h; rfl
  | x :: xs, ys, h => by
    unfold kwStrs at h
    split at h
    · rename_i p q h1 h2
      cases h
      have e := List.find?_some h1
      rw [List.map_cons, ← kwStrs_eq h2, of_decide_eq_true e]
    · cases h
/-- the calls by keyword of one def: each bound as it should be -/
structure KwOk (G : Gt) (d : Df) (ys : List String) (n : Nat) (pn : List String) (js : List Nat) : Prop where
  hp : G.pars d.f = some pn
  hj : kwPerm pn ys n = some js
  len : d.psS.length = n + js.length ∧ ∀ j ∈ js, j < ys.length
  bd : ∀ (kV doc pm : Value) (an : Option Addr) (cdv ct : Value) (us ws : List Value), us.length = n → ws.length = ys.length → bindArgs (PySem.W.fnOf d.x d.x d.args d.body d.sc .none kV doc pm an cdv ct) ⟨us, (ys.map Str.ofString).zip ws⟩ = pure (d.psS.zip (us ++ js.map fun j => ws.getD j .none))
theorem DfOk.of {G : Gt} {T : Tb} {d : Df} (hT : T.fns d.f = some (d.fn G)) (sc : FnScope d.N d.psS d.sc)
    (bd : ∀ (kV doc pm : Value) (an : Option Addr) (cdv ct : Value) (us : List Value), us.length = d.psS.length → bindArgs (PySem.W.fnOf d.x d.x d.args d.body d.sc .none kV doc pm an cdv ct) ⟨us, []⟩ = pure (d.psS.zip us))
    (kw : ∀ t ∈ G.kws.filter (fun t => t.1 == d.f), ∃ pn js, KwOk G d t.2.1 t.2.2 pn js) : DfOk G T d := by
  have get : ∀ {ys : List String} {n : Nat}, (d.f, ys, n) ∈ G.kws → ∃ pn js, KwOk G d ys n pn js := fun {ys n} h => kw (d.f, ys, n) (List.mem_filter.mpr ⟨h, beq_self_eq_true _⟩)
  refine ⟨hT, sc, bd, fun pn ys xs n js h1 h2 h3 h4 kV doc pm an cdv ct us ws hu hw => ?_, fun pn ys xs n js h1 h2 h3 h4 => ?_⟩
  · obtain ⟨pn', js', K⟩ := get h1
    rw [K.hp] at h2
    cases h2
    rw [K.hj] at h4
    cases h4
    have e := kwStrs_eq h3
    subst e
    exact K.bd kV doc pm an cdv ct us ws hu (by simpa using hw)
  · obtain ⟨pn', js', K⟩ := get h1
    rw [K.hp] at h2
    cases h2
    rw [K.hj] at h4
    cases h4
    have e := kwStrs_eq h3
    subst e
    simpa using K.len
end Fp
/-! FpHead: what stands behind the module's top: its defs, constants, imported functions. -/
namespace Fp
open PySem PySem.Spec PyProof.Rows L2
/-- a constant of the module, as data -/
def datB (K : PySem.W.Frag) : Nat → Value → D → Bool
  | 0, _, _ => false
  | n + 1, u, d => match u, d with
    | .none, .non => true
    | .bool b, .bl c => b == c
    | .int i _, .int j => decide (i = j)
    | .str x _, .str y => decide (x = y)
    | .ref a, .tup ds => match K.lookup a with
      | some ⟨.type c, _, .seq its _, _⟩ => decide (c = "tuple") && decide (its.size ≤ sizeLine) && decide (its.toList.length = ds.length) && (its.toList.zip ds).all fun p => datB K n p.1 p.2
      | _ => false
    | _, _ => false
theorem datB_ok {S : Se} {K : PySem.W.Frag} (hK : S.K = K) : ∀ {n : Nat} {u : Value} {d : D}, datB K n u d = true → ∃ v, RelV v u ∧ Dat S (fun _ => none) d v
  | 0, _, _, h => by cases h
  | n + 1, u, d, h => by
    unfold datB at h
    split at h
    · exact ⟨.non, rfl, rfl⟩
    · rename_i b c
      exact ⟨.bl b, rfl, by rw [eq_of_beq h]; rfl⟩
    · rename_i i t j
      exact ⟨.int i, ⟨t, rfl⟩, by rw [of_decide_eq_true h]; rfl⟩
    · rename_i x t y
      exact ⟨.str x, ⟨t, rfl⟩, by rw [of_decide_eq_true h]; rfl⟩
    · rename_i a ds
      split at h
      · rename_i c dd its m sl q
        simp only [Bool.and_eq_true, decide_eq_true_eq] at h
        obtain ⟨⟨⟨h1, h2⟩, h3⟩, h4⟩ := h
        have go : ∀ (us : List Value) (es : List D), us.length = es.length → ((us.zip es).all fun p => datB K n p.1 p.2) = true → ∃ vs, Vals vs us ∧ Dats S (fun _ => none) es vs := by
          intro us
          induction us with
          | nil =>
            intro es hl _
            cases es with
            | nil => exact ⟨[], .nil, trivial⟩
            | cons _ _ => cases hl
          | cons u us ih =>
            intro es hl hh
            cases es with
            | nil => cases hl
            | cons e es =>
              simp only [List.zip_cons_cons, List.all_cons, Bool.and_eq_true] at hh
              obtain ⟨v, r, dv⟩ := datB_ok hK hh.1
              obtain ⟨vs, rs, dvs⟩ := ih es (by simpa using hl) hh.2
              exact ⟨v :: vs, .cons r rs, dv, dvs⟩
        obtain ⟨vs, r, dv⟩ := go its.toList ds h3 h4
        subst h1
        exact ⟨.ref a, rfl, a, vs, rfl, .inr ⟨_, its, m, by rw [hK]; exact q, rfl, rfl, h2, r⟩, dv⟩
      · cases h
    · cases h
/-- the constants and functions of the module's names -/
def moreB (K : PySem.W.Frag) (cs : List (Str × D)) (bs : List (Str × String)) : Bool :=
  (cs.all fun p => match PySem.W.nsIn K mainGlobals p.1 with
    | some (some u) => datB K 20 u p.2
    | _ => false) && bs.all fun p => decide (PySem.W.nsIn K mainGlobals p.1 = some (some (.builtin p.2)))
theorem more_glo {S : Se} {K : PySem.W.Frag} {cs : List (Str × D)} {bs : List (Str × String)} {h : Heap} {mg : Str → Option Value} (hK : S.K = K) (X : K.In h) (G : h.Ns mainGlobals mg) (c : moreB K cs bs = true) {x : Str} {d : D} (hx : (x, d) ∈ cs) :
    ∃ v u, mg x = some u ∧ RelV v u ∧ Dat S (fun _ => none) d v := by
  have c1 := List.all_eq_true.mp (Bool.and_eq_true_iff.mp c).1 (x, d) hx
  cases e : PySem.W.nsIn K mainGlobals x with
  | none => simp [e] at c1
  | some o => cases o with
    | none => simp [e] at c1
    | some u =>
      simp only [e] at c1
      obtain ⟨v, r, dv⟩ := datB_ok hK c1
      exact ⟨v, u, PySem.W.mg_of X G e, r, dv⟩
theorem more_blt {K : PySem.W.Frag} {cs : List (Str × D)} {bs : List (Str × String)} {h : Heap} {mg : Str → Option Value} (X : K.In h) (G : h.Ns mainGlobals mg) (c : moreB K cs bs = true) {x : Str} {b : String} (hx : (x, b) ∈ bs) : mg x = some (.builtin b) := by
  have c1 := List.all_eq_true.mp (Bool.and_eq_true_iff.mp c).2 (x, b) hx
  exact PySem.W.mg_of X G (of_decide_eq_true c1)
/-- the hook: defs, names, constants -/
abbrev AlF : Type := He.AlD × Bool
def obsF (n : Nat) (fa : List He.Fa) (fn : List He.DefD) (cs : List (Str × D)) (bs : List (Str × String)) (g : Addr → Option Obj) : AlF := (He.obsDG n fa fn g, moreB (He.frG g (He.asD g n)) cs bs)
def hookF (n : Nat) (fa : List He.Fa) (fn : List He.DefD) (cs : List (Str × D)) (bs : List (Str × String)) : PySem.W.Hook where
  α := AlF
  obs := fun s => obsF n fa fn cs bs s.heap.get?
  val := fun _ => (He.valD fn, true)
  says := fun _ h => ∃ K : PySem.W.Frag, K.In h ∧ He.SaysD fa fn K ∧ moreB K cs bs = true
  of := fun _ _ e => ⟨_, He.frG_in, congrArg (fun z : AlF => z.1) e, congrArg (fun z : AlF => z.2) e⟩
  keeps := fun _ _ _ ⟨K, hK, c⟩ k => ⟨K, PySem.W.Frag.In.keeps hK k, c⟩
theorem obsF_eq {n : Nat} {fa : List He.Fa} {fn : List He.DefD} {cs : List (Str × D)} {bs : List (Str × String)} {g : Addr → Option Obj} {s : Shared} (h : ∀ a, g a = s.heap.get? a) : obsF n fa fn cs bs g = (hookF n fa fn cs bs).obs s := by
  have e : g = s.heap.get? := funext h
  rw [e] <;> rfl
/-- a def as the hook asks for it -/
def Df.he (d : Df) : He.DefD := ⟨(d.x, none), d.x, d.x, d.args, d.body, d.sc, [], []⟩
theorem md_of {G : Gt} {T : Tb} {K : PySem.W.Frag} {mg : Str → Option Value} {h : Heap} {fa : List He.Fa} {ds : List Df} {cs : List (Str × D)} {bs : List (Str × String)} (X : K.In h) (Gn : h.Ns mainGlobals mg) (c : He.SaysD fa (ds.map Df.he) K) (m : moreB K cs bs = true)
    (hG : G.fns = ds.map fun d => (d.x, d.f)) (hok : ∀ d ∈ ds, DfOk G T d) (hfa : ∀ d ∈ ds, He.Fa.glo d.x ∈ fa) (hfree : ∀ x ∈ bltAll, He.Fa.free x ∈ fa) (hp : ∀ f ps, G.pars f = some ps → (T.fns f).map (·.ps) = some ps)
    (hg : G.gcd = true → (("gcd" : Str), "math.gcd") ∈ bs) (hc : ∀ x k, G.glo.lookup x = some k → ∃ d, (x, d) ∈ cs ∧ T.glo k = some d) : Md G T K mg ⟨K, fun _ => none, []⟩ := by
  have fact : ∀ f ∈ fa, f.ok K = true := fun f hf => by
    obtain ⟨i, hi⟩ := List.getElem?_of_mem hf
    exact c.fact i hi
  refine ⟨rfl, fun x f hx => ?_, hp, fun x hx => He.free_ok X Gn (fact _ (hfree x hx)), fun z => more_blt X Gn m (hg z), fun x k hx => ?_⟩
  · rw [hG] at hx
    obtain ⟨l1, l2, e, _⟩ := List.lookup_eq_some_iff.mp hx
    have mem : (x, f) ∈ ds.map fun d => (d.x, d.f) := by rw [e]; simp
    obtain ⟨d, hd, he⟩ := List.mem_map.mp mem
    cases he
    obtain ⟨i, hi⟩ := List.getElem?_of_mem hd
    obtain ⟨fd, F⟩ := c.def_ i (d := d.he) (by rw [List.getElem?_map, hi] <;> rfl)
    exact ⟨d, rfl, rfl, hok d hd, _, fd, F, He.glo_ok X Gn (fact _ (hfa d hd))⟩
  · obtain ⟨d, hd, ht⟩ := hc x k hx
    obtain ⟨v, u, h1, h2, h3⟩ := more_glo (S := ⟨K, fun _ => none, []⟩) rfl X Gn m hd
    exact ⟨v, u, d, h1, h2, ht, h3⟩
theorem Md.top {G : Gt} {T : Tb} {P : Program} {w : World} {K : PySem.W.Frag} {mg : Str → Option Value} {S : Se} (M : Md G T K mg S) (m : Nat) (x : Str) (f : String) (h : G.fns.lookup x = some f) : ∃ d : Df, d.x = x ∧ d.f = f ∧ DfOk G T d ∧ ∃ fa fd, FunD K d.x d.x d.args d.body d.sc [] [] fa fd ∧ mg x = some (.ref fa) ∧
    ∀ base : Heap, FnOk P w K mg base (L2.CX P w) (m + 1) fa fd d.psS (spF S (callN T (m + 1) d.f)) := by
  obtain ⟨d, rfl, rfl, D, fa, fd, F, hm⟩ := M.defs x f h
  exact ⟨d, rfl, rfl, D, fa, fd, F, hm, fun base => Fp.fn_ok F D.sc D.T (by simp [Df.fn, Df.psS]) rfl fun cdv A outer s H E pa hr => M.body D (M.all m) cdv A outer s H E pa hr⟩
/-- the law's def: its promise over every base -/
theorem law_facts {P : Program} {w : World} {G : Gt} {T : Tb} {K : PySem.W.Frag} {mg : Str → Option Value} {n m : Nat} {fa : Addr} (M : Md G T K mg ⟨K, fun _ => none, []⟩) (hl : G.fns.lookup ("law" : Str) = some "law") (hmg : mg ("law" : Str) = some (.ref fa)) (hps : ∀ F : Fn, T.fns "law" = some F → F.ps = ["script"])
    (plain : ∀ ns : List Int, ns.length ≤ n → callN T (m + 1) "law" [.val (.klst (ns.map D.int))] [] = .ok (.val (.bl true)) []) :
    ∃ (fd : FuncData) (sp : Sp), (∀ (s : Shared) (v : Value), BindsTo s fd ⟨[v], []⟩ [(("script" : Str), v)]) ∧ (∀ (H : Hp) (a : Addr) (ns : List Int), ns.length ≤ n → SqL K H a (ns.map V.int) → sp [.ref a] H (fun v _ => v = .bl true) fun _ _ _ => False) ∧
      ∀ base : Heap, FnOk P w K mg base L2.CX0 (m + 1) fa fd ["script"] sp := by
  obtain ⟨d, hx, hf, D0, fa', fd, F, hm, ok⟩ := M.top (P := P) (w := w) m _ _ hl
  have hps' : d.psS = [("script" : Str)] := by
    have := hps (d.fn G) (by rw [← hf]; exact D0.T)
    show d.ps.map Str.ofString = _
    rw [show d.ps = ["script"] from this]
    rfl
  rw [hmg] at hm
  cases hm
  rw [hf, hps'] at ok
  refine ⟨fd, fun vs H Q _ => spF ⟨K, fun _ => none, []⟩ (callN T (m + 1) "law") vs H Q fun _ _ _ => False, fun s v => ?_, fun H a ns hn hS => law_sp rfl hS (plain ns hn), fun base => FnOk.quiet (ok base)⟩
  have b := FunD.bindsA (ps := d.psS) F D0.bd s [v] (by rw [hps']; rfl)
  rw [hps'] at b
  exact b
theorem fm_nil {α : Type} {P : α → Prop} : ∀ x ∈ ([] : List α), P x := fun _ h => nomatch h
theorem fm_cons {α : Type} {P : α → Prop} {a : α} {l : List α} (h : P a) (t : ∀ x ∈ l, P x) : ∀ x ∈ a :: l, P x := fun x hx => by
  rcases List.mem_cons.mp hx with rfl | hx
  · exact h
  · exact t x hx
theorem lk_nil {κ α : Type} [BEq κ] {P : κ → α → Prop} : ∀ x a, ([] : List (κ × α)).lookup x = some a → P x a := fun _ _ h => nomatch h
theorem lk_cons {κ α : Type} [BEq κ] [LawfulBEq κ] {P : κ → α → Prop} {y : κ} {b : α} {xs : List (κ × α)} (h : P y b) (t : ∀ x a, xs.lookup x = some a → P x a) : ∀ x a, ((y, b) :: xs).lookup x = some a → P x a := fun x a hx => by
  rw [List.lookup_cons] at hx
  cases q : x == y with
  | true =>
    rw [q] at hx
    cases hx
    rw [eq_of_beq q]
    exact h
  | false =>
    rw [q] at hx
    exact t x a hx
end Fp
/-! FpLaw: running the evaluator by hand: its equations as rewrite rows, loops by invariants. -/
namespace Fp.Z
open PySem Fp
/-! ### a call's answer -/
def _root_.Fp.CR.gives (c : CR) (P : Rv → List Pst → Prop) : Prop := ∃ r ps, c = .ok r ps ∧ P r ps
theorem gives_ok {r : Rv} {ps : List Pst} {P : Rv → List Pst → Prop} (h : P r ps) : (CR.ok r ps).gives P := ⟨r, ps, rfl, h⟩
theorem callN_eq {T : Tb} {n : Nat} {f : String} {ss : List Sl} {ps : List Pst} {F : Fn} (h : T.fns f = some F) (hl : ss.length = F.ps.length ∧ F.ps.length ≤ F.n) :
    callN T (n + 1) f ss ps = finish (execSs (T.ct n) F.body ⟨ss ++ List.replicate (F.n - ss.length) .no, ps⟩) := by
  rw [callN, h]
  exact if_pos hl
@[simp] theorem ct_call {T : Tb} {n : Nat} : (T.ct n).call = callN T n := nr rfl
@[simp] theorem ct_glo {T : Tb} {n : Nat} : (T.ct n).glo = T.glo := nr rfl
@[simp] theorem ct_pars {T : Tb} {n : Nat} {f : String} : (T.ct n).pars f = (T.fns f).map (·.ps) := nr rfl
/-! ### expressions -/
section
variable {C : Ct} {a b c : Ex} {es : List Ex} {e : Env}
def gloR (e : Env) : Option D → R Rv
  | some d => .ok (.val d) e
  | none => .bad
@[simp] theorem gloR_some {d : D} : gloR e (some d) = .ok (.val d) e := nr rfl
def negR (x : Rv) (e : Env) : R Rv := match x with
  | .val (.int i) => .ok (.val (.int (-i))) e
  | _ => .bad
@[simp] theorem negR_int {i : Int} : negR (.val (.int i)) e = .ok (.val (.int (-i))) e := nr rfl
def andR (C : Ct) (b : Ex) (x : Rv) (e : Env) : R Rv := match x with
  | .val (.bl true) => evalE C b e
  | .val (.bl false) => .ok (.val (.bl false)) e
  | _ => .bad
@[simp] theorem andR_t : andR C b (.val (.bl true)) e = evalE C b e := nr rfl
@[simp] theorem andR_f : andR C b (.val (.bl false)) e = .ok (.val (.bl false)) e := nr rfl
def orR (C : Ct) (b : Ex) (x : Rv) (e : Env) : R Rv := match x with
  | .val (.bl true) => .ok (.val (.bl true)) e
  | .val (.bl false) => evalE C b e
  | _ => .bad
@[simp] theorem orR_t : orR C b (.val (.bl true)) e = .ok (.val (.bl true)) e := nr rfl
@[simp] theorem orR_f : orR C b (.val (.bl false)) e = evalE C b e := nr rfl
def chainR (C : Ct) (o o' : Cop) (c : Ex) (x y : Rv) (e : Env) : R Bool :=
  match x, y with
    | .val (.int i), .val (.int j) => match cmpI o i j with
      | some t => if t then (evalE C c e).bind fun z e => opCmp o' (.val (.int j)) z e else .ok false e
      | none => .bad
    | _, _ => .bad
def chainK (C : Ct) (o' : Cop) (c : Ex) (j : Int) (e : Env) : Option Bool → R Bool
  | some t => if t then (evalE C c e).bind fun z e => opCmp o' (.val (.int j)) z e else .ok false e
  | none => .bad
@[simp] theorem chainR_int {o o' : Cop} {i j : Int} : chainR C o o' c (.val (.int i)) (.val (.int j)) e = chainK C o' c j e (cmpI o i j) := nr rfl
@[simp] theorem chainK_some {o' : Cop} {j : Int} {t : Bool} : chainK C o' c j e (some t) = if t then (evalE C c e).bind fun z e => opCmp o' (.val (.int j)) z e else .ok false e := nr rfl
def tupR (ds : List D) (e : Env) : R Rv := if ds.length ≤ LIM then .ok (.val (.tup ds)) e else .bad
def lstR (ds : List D) (e : Env) : R Rv := if ds.length ≤ LIM then .ok (.fresh ds) e else .bad
@[simp] theorem tupR_eq {ds : List D} : tupR ds e = if ds.length ≤ LIM then .ok (.val (.tup ds)) e else .bad := nr rfl
@[simp] theorem lstR_eq {ds : List D} : lstR ds e = if ds.length ≤ LIM then .ok (.fresh ds) e else .bad := nr rfl
theorem tupR_ok {ds : List D} (h : ds.length ≤ LIM) : tupR ds e = .ok (.val (.tup ds)) e := if_pos h
theorem lstR_ok {ds : List D} (h : ds.length ≤ LIM) : lstR ds e = .ok (.fresh ds) e := if_pos h
def isiR (C : Ct) (cs : List String) (d : D) (e : Env) : R Rv := match isAny C d cs with
    | some b => .ok (.val (.bl b)) e
    | none => .bad
theorem isiR_ok {cs : List String} {d : D} {t : Bool} (h : isAny C d cs = some t) : isiR C cs d e = .ok (.val (.bl t)) e := by unfold isiR; rw [h]
def revR (d : D) (e : Env) : R Rv := match d with
  | .tup ds => .ok (.val (.tup ds.reverse)) e
  | .lst ds => .ok (.fresh ds.reverse) e
  | _ => .bad
@[simp] theorem revR_t {ds : List D} : revR (.tup ds) e = .ok (.val (.tup ds.reverse)) e := nr rfl
@[simp] theorem revR_l {ds : List D} : revR (.lst ds) e = .ok (.fresh ds.reverse) e := nr rfl
def back (e : Env) (ls : List (Nat × Loc)) : CR → R Rv
  | .ok (.loc _) _ => .bad
  | .ok r ps' => match putBack e ps' ls with
    | some e => .ok r e
    | none => .bad
  | .ex c d ps' => match putBack e ps' ls with
    | some e => .ex c d e
    | none => .bad
  | .bad => .bad
def backV (r : Rv) : Option Env → R Rv
  | some e => .ok r e
  | none => .bad
def backX (c : String) (d : D) : Option Env → R Rv
  | some e => .ex c d e
  | none => .bad
@[simp] theorem backV_some {r : Rv} : backV r (some e) = .ok r e := nr rfl
@[simp] theorem backX_some {c : String} {d : D} : backX c d (some e) = .ex c d e := nr rfl
@[simp] theorem back_val {ls : List (Nat × Loc)} {d : D} {ps : List Pst} : back e ls (.ok (.val d) ps) = backV (.val d) (putBack e ps ls) := nr rfl
@[simp] theorem back_fresh {ls : List (Nat × Loc)} {ds : List D} {ps : List Pst} : back e ls (.ok (.fresh ds) ps) = backV (.fresh ds) (putBack e ps ls) := nr rfl
@[simp] theorem back_ex {ls : List (Nat × Loc)} {c : String} {d : D} {ps : List Pst} : back e ls (.ex c d ps) = backX c d (putBack e ps ls) := nr rfl
def call2 (C : Ct) (f : String) (e : Env) : Option (List Sl × List Pst × List (Nat × Loc)) → R Rv
  | some (ss, ps, ls) => if locsApart ls then back e ls (C.call f ss ps) else .bad
  | none => .bad
@[simp] theorem call2_some {f : String} {ss : List Sl} {ps : List Pst} {ls : List (Nat × Loc)} : call2 C f e (some (ss, ps, ls)) = if locsApart ls then back e ls (C.call f ss ps) else .bad := nr rfl
@[simp] theorem doCall_eq {f : String} {rs : List Rv} : doCall C f rs e = call2 C f e (mkArgs e rs 0) := by
  unfold doCall call2 back
  cases mkArgs e rs 0 with
  | none => rfl
  | some x =>
    obtain ⟨ss, ps, ls⟩ := x
    rfl
def kwCall (C : Ct) (f : String) (e : Env) : Option (List Rv) → R Rv
  | some us => doCall C f us e
  | none => .bad
@[simp] theorem kwCall_some {f : String} {us : List Rv} : kwCall C f e (some us) = doCall C f us e := nr rfl
def kwGo (C : Ct) (f : String) (ks : List String) (rs ws : List Rv) (e : Env) : Option (List String) → R Rv
  | some ps => kwCall C f e (kwRvs ps ks rs ws)
  | none => .bad
@[simp] theorem kwGo_some {f : String} {ks ps : List String} {rs ws : List Rv} : kwGo C f ks rs ws e (some ps) = kwCall C f e (kwRvs ps ks rs ws) := nr rfl
def binJ (o : Bop) (x y : Rv) (e : Env) : R Rv := opBin o x y e
def binK (C : Ct) (o : Bop) (b : Ex) (x : Rv) (e : Env) : R Rv := (evalE C b e).bind (binJ o x)
@[simp] theorem binJ_eq {o : Bop} {x y : Rv} : binJ o x y e = opBin o x y e := nr rfl
@[simp] theorem binK_eq {o : Bop} {x : Rv} : binK C o b x e = (evalE C b e).bind (binJ o x) := nr rfl
def notB (t : Bool) (e : Env) : R Bool := .ok (!t) e
def notK (x : Rv) (e : Env) : R Bool := (opTru x e).bind notB
@[simp] theorem notB_eq {t : Bool} : notB t e = .ok (!t) e := nr rfl
@[simp] theorem notK_eq {x : Rv} : notK x e = (opTru x e).bind notB := nr rfl
def cmpJ (o : Cop) (x y : Rv) (e : Env) : R Bool := opCmp o x y e
def cmpK (C : Ct) (o : Cop) (b : Ex) (x : Rv) (e : Env) : R Bool := (evalE C b e).bind (cmpJ o x)
@[simp] theorem cmpJ_eq {o : Cop} {x y : Rv} : cmpJ o x y e = opCmp o x y e := nr rfl
@[simp] theorem cmpK_eq {o : Cop} {x : Rv} : cmpK C o b x e = (evalE C b e).bind (cmpJ o x) := nr rfl
def chainL (C : Ct) (o o' : Cop) (b c : Ex) (x : Rv) (e : Env) : R Bool := (evalE C b e).bind (chainR C o o' c x)
@[simp] theorem chainL_eq {o o' : Cop} {x : Rv} : chainL C o o' b c x e = (evalE C b e).bind (chainR C o o' c x) := nr rfl
def iteK (C : Ct) (a b : Ex) (t : Bool) (e : Env) : R Rv := if t then evalE C a e else evalE C b e
@[simp] theorem iteK_t : iteK C a b true e = evalE C a e := nr rfl
@[simp] theorem iteK_f : iteK C a b false e = evalE C b e := nr rfl
def tupJ (rs : List Rv) (e : Env) : R Rv := (e.asVals rs).bind tupR
@[simp] theorem tupJ_eq {rs : List Rv} : tupJ rs e = (e.asVals rs).bind tupR := nr rfl
def lstJ (rs : List Rv) (e : Env) : R Rv := (e.items rs).bind lstR
@[simp] theorem lstJ_eq {rs : List Rv} : lstJ rs e = (e.items rs).bind lstR := nr rfl
def idxB (x y : Rv) (e : Env) : R Rv := opIdx x y e
def idxA (C : Ct) (b : Ex) (x : Rv) (e : Env) : R Rv := (evalE C b e).bind (idxB x)
@[simp] theorem idxB_eq {x y : Rv} : idxB x y e = opIdx x y e := nr rfl
@[simp] theorem idxA_eq {x : Rv} : idxA C b x e = (evalE C b e).bind (idxB x) := nr rfl
def slcC (l h : Option Int) (d : D) (e : Env) : R Rv := opSlc d l h e
def slcB (x : Rv) (l h : Option Int) (e : Env) : R Rv := (e.peek x).bind (slcC l h)
def slcA (C : Ct) (hi : Option Ex) (x : Rv) (l : Option Int) (e : Env) : R Rv := (evalO C hi e).bind (slcB x l)
def slcO (C : Ct) (lo hi : Option Ex) (x : Rv) (e : Env) : R Rv := (evalO C lo e).bind (slcA C hi x)
@[simp] theorem slcC_eq {l h : Option Int} {d : D} : slcC l h d e = opSlc d l h e := nr rfl
@[simp] theorem slcB_eq {x : Rv} {l h : Option Int} : slcB x l h e = (e.peek x).bind (slcC l h) := nr rfl
@[simp] theorem slcA_eq {hi : Option Ex} {x : Rv} {l : Option Int} : slcA C hi x l e = (evalO C hi e).bind (slcB x l) := nr rfl
@[simp] theorem slcO_eq {lo hi : Option Ex} {x : Rv} : slcO C lo hi x e = (evalO C lo e).bind (slcA C hi x) := nr rfl
def revA (x : Rv) (e : Env) : R Rv := (e.peek x).bind revR
@[simp] theorem revA_eq {x : Rv} : revA x e = (e.peek x).bind revR := nr rfl
def callA (C : Ct) (f : String) (rs : List Rv) (e : Env) : R Rv := call2 C f e (mkArgs e rs 0)
@[simp] theorem callA_eq {f : String} {rs : List Rv} : callA C f rs e = call2 C f e (mkArgs e rs 0) := nr rfl
def callkB (C : Ct) (f : String) (ks : List String) (rs ws : List Rv) (e : Env) : R Rv := kwGo C f ks rs ws e (C.pars f)
def callkA (C : Ct) (f : String) (ks : List (String × Ex)) (rs : List Rv) (e : Env) : R Rv := (evalKs C ks e).bind (callkB C f (ks.map (·.1)) rs)
@[simp] theorem callkB_eq {f : String} {ks : List String} {rs ws : List Rv} : callkB C f ks rs ws e = kwGo C f ks rs ws e (C.pars f) := nr rfl
@[simp] theorem callkA_eq {f : String} {ks : List (String × Ex)} {rs : List Rv} : callkA C f ks rs e = (evalKs C ks e).bind (callkB C f (ks.map (·.1)) rs) := nr rfl
def isiA (C : Ct) (cs : List String) (x : Rv) (e : Env) : R Rv := (e.peek x).bind (isiR C cs)
@[simp] theorem isiA_eq {cs : List String} {x : Rv} : isiA C cs x e = (e.peek x).bind (isiR C cs) := nr rfl
def methB (m : String) (x : Rv) (rs : List Rv) (e : Env) : R Rv := opMeth m x rs e
def methA (C : Ct) (m : String) (es : List Ex) (x : Rv) (e : Env) : R Rv := if e.isLst x then (evalEs C es e).bind (methB m x) else .bad
@[simp] theorem methB_eq {m : String} {x : Rv} {rs : List Rv} : methB m x rs e = opMeth m x rs e := nr rfl
@[simp] theorem methA_eq {m : String} {x : Rv} : methA C m es x e = if e.isLst x then (evalEs C es e).bind (methB m x) else .bad := nr rfl
def tandK (C : Ct) (b : Ex) (t : Bool) (e : Env) : R Bool := if t then evalT C b e else .ok false e
@[simp] theorem tandK_t : tandK C b true e = evalT C b e := nr rfl
@[simp] theorem tandK_f : tandK C b false e = .ok false e := nr rfl
def torK (C : Ct) (b : Ex) (t : Bool) (e : Env) : R Bool := if t then .ok true e else evalT C b e
@[simp] theorem torK_t : torK C b true e = .ok true e := nr rfl
@[simp] theorem torK_f : torK C b false e = evalT C b e := nr rfl
def esJ (r : Rv) (rs : List Rv) (e : Env) : R (List Rv) := .ok (r :: rs) e
def esK (C : Ct) (es : List Ex) (r : Rv) (e : Env) : R (List Rv) := (evalEs C es e).bind (esJ r)
@[simp] theorem esJ_eq {r : Rv} {rs : List Rv} : esJ r rs e = .ok (r :: rs) e := nr rfl
@[simp] theorem esK_eq {r : Rv} : esK C es r e = (evalEs C es e).bind (esJ r) := nr rfl
def ksK (C : Ct) (ks : List (String × Ex)) (r : Rv) (e : Env) : R (List Rv) := (evalKs C ks e).bind (esJ r)
@[simp] theorem ksK_eq {ks : List (String × Ex)} {r : Rv} : ksK C ks r e = (evalKs C ks e).bind (esJ r) := nr rfl
@[simp] theorem x_cst {d : D} : evalE C (.cst d) e = .ok (.val d) e := by rw [evalE]
@[simp] theorem x_var {i : Nat} : evalE C (.var i) e = e.var i := by rw [evalE]
@[simp] theorem x_glo {x : String} : evalE C (.glo x) e = gloR e (C.glo x) := by rw [evalE]; rfl
@[simp] theorem x_bin {o : Bop} : evalE C (.bin o a b) e = (evalE C a e).bind (binK C o b) := by rw [evalE]; rfl
@[simp] theorem x_neg : evalE C (.neg a) e = (evalE C a e).bind negR := by rw [evalE]; rfl
@[simp] theorem x_not : evalE C (.not a) e = ((evalE C a e).bind notK).blV := by rw [evalE]; rfl
@[simp] theorem x_cmp {o : Cop} : evalE C (.cmp o a b) e = ((evalE C a e).bind (cmpK C o b)).blV := by rw [evalE]; rfl
@[simp] theorem x_chain {o o' : Cop} : evalE C (.chain o o' a b c) e = ((evalE C a e).bind (chainL C o o' b c)).blV := by rw [evalE]; rfl
@[simp] theorem x_and : evalE C (.and a b) e = (evalE C a e).bind (andR C b) := by rw [evalE]; rfl
@[simp] theorem x_or : evalE C (.or a b) e = (evalE C a e).bind (orR C b) := by rw [evalE]; rfl
@[simp] theorem x_ite : evalE C (.ite c a b) e = (evalT C c e).bind (iteK C a b) := by rw [evalE]; rfl
@[simp] theorem x_tup : evalE C (.tup es) e = (evalEs C es e).bind tupJ := by rw [evalE]; rfl
@[simp] theorem x_lst : evalE C (.lst es) e = (evalEs C es e).bind lstJ := by rw [evalE]; rfl
@[simp] theorem x_dic0 : evalE C .dic0 e = .ok (.val (.dic [] [])) e := by rw [evalE]
@[simp] theorem x_idx : evalE C (.idx a b) e = (evalE C a e).bind (idxA C b) := by rw [evalE]; rfl
@[simp] theorem x_slc {lo hi : Option Ex} : evalE C (.slc a lo hi) e = (evalE C a e).bind (slcO C lo hi) := by rw [evalE]; rfl
@[simp] theorem x_rev : evalE C (.rev a) e = (evalE C a e).bind revA := by rw [evalE]; rfl
@[simp] theorem x_call {f : String} : evalE C (.call f es) e = (evalEs C es e).bind (callA C f) := by
  rw [evalE]
  exact congrArg _ (funext fun rs => funext fun e => doCall_eq)
@[simp] theorem x_callk {f : String} {ks : List (String × Ex)} : evalE C (.callk f es ks) e = (evalEs C es e).bind (callkA C f ks) := by rw [evalE]; rfl
@[simp] theorem x_blt {f : String} : evalE C (.blt f es) e = (evalEs C es e).bind (opBlt f) := by rw [evalE]
@[simp] theorem x_isi {cs : List String} : evalE C (.isi a cs) e = (evalE C a e).bind (isiA C cs) := by rw [evalE]; rfl
@[simp] theorem x_meth {m : String} : evalE C (.meth m a es) e = (evalE C a e).bind (methA C m es) := by rw [evalE]; rfl
/-- a comprehension's turn, a test or none -/
def condR (C : Ct) : Option Ex → Env → R Bool
  | none, e => .ok true e
  | some c, e => evalT C c e
@[simp] theorem condR_n : condR C none e = .ok true e := nr rfl
@[simp] theorem condR_s : condR C (some c) e = evalT C c e := nr rfl
def compB (C : Ct) (x : Ex) (t : Tg) (k : Option Ex) (own : List Nat) : D → Env → R (Option D) := compF t (condR C k) (evalE C x) own
def compK (sl : List Sl) (own : List Nat) (ls : List (Option Loc)) (ys : List D) (e' : Env) : R Rv := if ys.length ≤ LIM then .ok (.fresh ys) (Env.unlease ⟨backS sl e'.sl own, e'.ps⟩ ls) else .bad
def compGo (C : Ct) (x : Ex) (t : Tg) (k : Option Ex) (own : List Nat) (p : List D × List (Option Loc)) (e : Env) : R Rv := if clearS e.sl own then (compL (compB C x t k own) p.1 ⟨wipeS e.sl own, e.ps⟩).bind (compK e.sl own p.2) else .bad
@[simp] theorem x_comp {t : Tg} {s : Src} {k : Option Ex} {own : List Nat} : evalE C (.comp a t s k own) e = (evalS C false s e).bind (compGo C a t k own) := by
  cases k <;> rw [evalE] <;> rfl
@[simp] theorem t_and : evalT C (.and a b) e = (evalT C a e).bind (tandK C b) := by rw [evalT]; rfl
@[simp] theorem t_or : evalT C (.or a b) e = (evalT C a e).bind (torK C b) := by rw [evalT]; rfl
@[simp] theorem t_not : evalT C (.not a) e = (evalT C a e).bind notB := by rw [evalT]; rfl
@[simp] theorem t_cmp {o : Cop} : evalT C (.cmp o a b) e = (evalE C (.cmp o a b) e).bind opTru := by rw [evalT] <;> first | rfl | (intro _ _ h; cases h) | (intro _ h; cases h)
@[simp] theorem t_call {f : String} : evalT C (.call f es) e = (evalE C (.call f es) e).bind opTru := by rw [evalT] <;> first | rfl | (intro _ _ h; cases h) | (intro _ h; cases h)
@[simp] theorem t_callk {f : String} {ks : List (String × Ex)} : evalT C (.callk f es ks) e = (evalE C (.callk f es ks) e).bind opTru := by rw [evalT] <;> first | rfl | (intro _ _ h; cases h) | (intro _ h; cases h)
@[simp] theorem t_blt {f : String} : evalT C (.blt f es) e = (evalE C (.blt f es) e).bind opTru := by rw [evalT] <;> first | rfl | (intro _ _ h; cases h) | (intro _ h; cases h)
@[simp] theorem t_isi {cs : List String} : evalT C (.isi a cs) e = (evalE C (.isi a cs) e).bind opTru := by rw [evalT] <;> first | rfl | (intro _ _ h; cases h) | (intro _ h; cases h)
@[simp] theorem t_var {i : Nat} : evalT C (.var i) e = (evalE C (.var i) e).bind opTru := by rw [evalT] <;> first | rfl | (intro _ _ h; cases h) | (intro _ h; cases h)
@[simp] theorem t_cst {d : D} : evalT C (.cst d) e = (evalE C (.cst d) e).bind opTru := by rw [evalT] <;> first | rfl | (intro _ _ h; cases h) | (intro _ h; cases h)
@[simp] theorem t_idx : evalT C (.idx a b) e = (evalE C (.idx a b) e).bind opTru := by rw [evalT] <;> first | rfl | (intro _ _ h; cases h) | (intro _ h; cases h)
@[simp] theorem es_nil : evalEs C [] e = .ok [] e := by rw [evalEs]
@[simp] theorem es_cons : evalEs C (a :: es) e = (evalE C a e).bind (esK C es) := by rw [evalEs]; rfl
@[simp] theorem ks_nil : evalKs C [] e = .ok [] e := by rw [evalKs]
@[simp] theorem ks_cons {y : String} {ks : List (String × Ex)} : evalKs C ((y, a) :: ks) e = (evalE C a e).bind (ksK C ks) := by rw [evalKs]; rfl
def optI (x : Rv) (e : Env) : R (Option Int) := match x with
  | .val (.int i) => .ok (some i) e
  | _ => .bad
@[simp] theorem optI_int {i : Int} : optI (.val (.int i)) e = .ok (some i) e := nr rfl
@[simp] theorem o_none : evalO C none e = .ok none e := by rw [evalO]
@[simp] theorem o_some : evalO C (some a) e = (evalE C a e).bind optI := by rw [evalO]; rfl
def srcK (l : Option Loc) (e : Env) : Option (List D) → R (List D × List (Option Loc))
  | some ds => .ok (ds, [l]) e
  | none => .bad
@[simp] theorem srcK_some {l : Option Loc} {ds : List D} : srcK l e (some ds) = .ok (ds, [l]) e := nr rfl
def enuK (l : Option Loc) (e : Env) : Option (List D) → R (List D × List (Option Loc))
  | some ds => .ok (enums ds 0, [l]) e
  | none => .bad
@[simp] theorem enuK_some {l : Option Loc} {ds : List D} : enuK l e (some ds) = .ok (enums ds 0, [l]) e := nr rfl
def rngK (x : Rv) (e : Env) : R (List D × List (Option Loc)) := match x with
  | .val (.int j) => if small62 j then .ok (intsD 0 j.toNat, []) e else .bad
  | _ => .bad
@[simp] theorem rngK_int {j : Int} : rngK (.val (.int j)) e = if small62 j then .ok (intsD 0 j.toNat, []) e else .bad := nr rfl
def rng2K (x y : Rv) (e : Env) : R (List D × List (Option Loc)) := match x, y with
  | .val (.int i), .val (.int j) => if small62 i && small62 j then .ok (intsD i (j - i).toNat, []) e else .bad
  | _, _ => .bad
@[simp] theorem rng2K_int {i j : Int} : rng2K (.val (.int i)) (.val (.int j)) e = if small62 i && small62 j then .ok (intsD i (j - i).toNat, []) e else .bad := nr rfl
def zipK (d d' : D) (ls : List (Option Loc)) (e : Env) : R (List D × List (Option Loc)) := match d, d' with
  | .lst ds, .lst ds' => .ok (zips ds ds', ls) e
  | .tup ds, .tup ds' => .ok (zips ds ds', ls) e
  | _, _ => .bad
@[simp] theorem zipK_l {ds ds' : List D} {ls : List (Option Loc)} : zipK (.lst ds) (.lst ds') ls e = .ok (zips ds ds', ls) e := nr rfl
@[simp] theorem zipK_t {ds ds' : List D} {ls : List (Option Loc)} : zipK (.tup ds) (.tup ds') ls e = .ok (zips ds ds', ls) e := nr rfl
def ovJ (p : D × Option Loc) (e : Env) : R (List D × List (Option Loc)) := srcK p.2 e (itemsOf p.1)
def ovK (fz : Bool) (x : Rv) (e : Env) : R (List D × List (Option Loc)) := (e.lend fz x).bind ovJ
@[simp] theorem ovJ_eq {p : D × Option Loc} : ovJ p e = srcK p.2 e (itemsOf p.1) := nr rfl
@[simp] theorem ovK_eq {fz : Bool} {x : Rv} : ovK fz x e = (e.lend fz x).bind ovJ := nr rfl
def enuJ (p : D × Option Loc) (e : Env) : R (List D × List (Option Loc)) := enuK p.2 e (itemsOf p.1)
def enuL (fz : Bool) (x : Rv) (e : Env) : R (List D × List (Option Loc)) := (e.lend fz x).bind enuJ
@[simp] theorem enuJ_eq {p : D × Option Loc} : enuJ p e = enuK p.2 e (itemsOf p.1) := nr rfl
@[simp] theorem enuL_eq {fz : Bool} {x : Rv} : enuL fz x e = (e.lend fz x).bind enuJ := nr rfl
def rng2A (C : Ct) (b : Ex) (x : Rv) (e : Env) : R (List D × List (Option Loc)) := (evalE C b e).bind (rng2K x)
@[simp] theorem rng2A_eq {x : Rv} : rng2A C b x e = (evalE C b e).bind (rng2K x) := nr rfl
def zipJ (p p' : D × Option Loc) (e : Env) : R (List D × List (Option Loc)) := zipK p.1 p'.1 [p.2, p'.2] e
def zipI (fz : Bool) (y : Rv) (p : D × Option Loc) (e : Env) : R (List D × List (Option Loc)) := (e.lend fz y).bind (zipJ p)
def zipH (fz : Bool) (x y : Rv) (e : Env) : R (List D × List (Option Loc)) := (e.lend fz x).bind (zipI fz y)
def zipA (C : Ct) (fz : Bool) (b : Ex) (x : Rv) (e : Env) : R (List D × List (Option Loc)) := (evalE C b e).bind (zipH fz x)
@[simp] theorem zipJ_eq {p p' : D × Option Loc} : zipJ p p' e = zipK p.1 p'.1 [p.2, p'.2] e := nr rfl
@[simp] theorem zipI_eq {fz : Bool} {y : Rv} {p : D × Option Loc} : zipI fz y p e = (e.lend fz y).bind (zipJ p) := nr rfl
@[simp] theorem zipH_eq {fz : Bool} {x y : Rv} : zipH fz x y e = (e.lend fz x).bind (zipI fz y) := nr rfl
@[simp] theorem zipA_eq {fz : Bool} {x : Rv} : zipA C fz b x e = (evalE C b e).bind (zipH fz x) := nr rfl
@[simp] theorem s_ov {fz : Bool} : evalS C fz (.ov a) e = (evalE C a e).bind (ovK fz) := by rw [evalS]; rfl
@[simp] theorem s_enu {fz : Bool} : evalS C fz (.enu a) e = (evalE C a e).bind (enuL fz) := by rw [evalS]; rfl
@[simp] theorem s_rng {fz : Bool} : evalS C fz (.rng a) e = (evalE C a e).bind rngK := by rw [evalS]; rfl
@[simp] theorem s_rng2 {fz : Bool} : evalS C fz (.rng2 a b) e = (evalE C a e).bind (rng2A C b) := by rw [evalS]; rfl
@[simp] theorem s_zip {fz : Bool} : evalS C fz (.zip a b) e = (evalE C a e).bind (zipA C fz b) := by rw [evalS]; rfl
end
/-! ### statements -/
section
variable {C : Ct} {a b c x : Ex} {es : List Ex} {e : Env} {ss ss' : List Sm} {s : Sm}
noncomputable def forB (C : Ct) (t : Tg) (b : List Sm) (d : D) (e : Env) : SR := match bindD t d e with
      | some e => execSs C b e
      | none => .bad
theorem forB_eq {t : Tg} {d : D} {e' : Env} (h : bindD t d e = some e') : forB C t ss d e = execSs C ss e' := by unfold forB; rw [h]
def augJ (i : Nat) (a : Int) (z : Rv) (e : Env) : SR := match z with
      | .val (.int b) => if i < e.sl.length then .nx ⟨e.sl.set i (.val (.int (a + b))), e.ps⟩ else .bad
      | _ => .bad
def augK (C : Ct) (i : Nat) (x : Ex) (y : Rv) (e : Env) : SR := match y with
  | .val (.int a) => (evalE C x e).st (augJ i a)
  | _ => .bad
@[simp] theorem augK_int {i : Nat} {a : Int} : augK C i x (.val (.int a)) e = (evalE C x e).st (augJ i a) := nr rfl
@[simp] theorem augJ_int {i : Nat} {a b : Int} : augJ i a (.val (.int b)) e = if i < e.sl.length then .nx ⟨e.sl.set i (.val (.int (a + b))), e.ps⟩ else .bad := nr rfl
def nxU (_ : Unit) (e : Env) : SR := .nx e
@[simp] theorem nxU_eq {u : Unit} : nxU u e = .nx e := nr rfl
def augIJ (y z : Rv) (a : Int) (v : Rv) (e : Env) : SR := match v with
  | .val (.int c) => (setIx y z (.int (a + c)) e).st nxU
  | _ => .bad
def augIK (C : Ct) (x : Ex) (y z u : Rv) (e : Env) : SR := match u with
  | .val (.int a) => (evalE C x e).st (augIJ y z a)
  | _ => .bad
@[simp] theorem augIK_int {y z : Rv} {a : Int} : augIK C x y z (.val (.int a)) e = (evalE C x e).st (augIJ y z a) := nr rfl
@[simp] theorem augIJ_int {y z : Rv} {a c : Int} : augIJ y z a (.val (.int c)) e = (setIx y z (.int (a + c)) e).st nxU := nr rfl
def nxR (_ : Rv) (e : Env) : SR := .nx e
@[simp] theorem nxR_eq {r : Rv} : nxR r e = .nx e := nr rfl
def asgK (t : Tg) (r : Rv) (e : Env) : SR := (bindT t r e).st nxU
@[simp] theorem asgK_eq {t : Tg} {r : Rv} : asgK t r e = (bindT t r e).st nxU := nr rfl
def parK (is : List Nat) (rs : List Rv) (e : Env) : SR := (bindPar is rs e).st nxU
@[simp] theorem parK_eq {is : List Nat} {rs : List Rv} : parK is rs e = (bindPar is rs e).st nxU := nr rfl
def setD (y z : Rv) (d : D) (e : Env) : SR := (setIx y z d e).st nxU
def setC (r y z : Rv) (e : Env) : SR := (e.item r).st (setD y z)
def setB (C : Ct) (i : Ex) (r y : Rv) (e : Env) : SR := (evalE C i e).st (setC r y)
def setA (C : Ct) (b i : Ex) (r : Rv) (e : Env) : SR := (evalE C b e).st (setB C i r)
@[simp] theorem setD_eq {y z : Rv} {d : D} : setD y z d e = (setIx y z d e).st nxU := nr rfl
@[simp] theorem setC_eq {r y z : Rv} : setC r y z e = (e.item r).st (setD y z) := nr rfl
@[simp] theorem setB_eq {i : Ex} {r y : Rv} : setB C i r y e = (evalE C i e).st (setC r y) := nr rfl
@[simp] theorem setA_eq {i : Ex} {r : Rv} : setA C b i r e = (evalE C b e).st (setB C i r) := nr rfl
def augIB (C : Ct) (x : Ex) (y z : Rv) (e : Env) : SR := (opIdx y z e).st (augIK C x y z)
def augIA (C : Ct) (i x : Ex) (y : Rv) (e : Env) : SR := (evalE C i e).st (augIB C x y)
@[simp] theorem augIB_eq {y z : Rv} : augIB C x y z e = (opIdx y z e).st (augIK C x y z) := nr rfl
@[simp] theorem augIA_eq {i : Ex} {y : Rv} : augIA C i x y e = (evalE C i e).st (augIB C x y) := nr rfl
noncomputable def ifK (C : Ct) (ss ss' : List Sm) (t : Bool) (e : Env) : SR := if t then execSs C ss e else execSs C ss' e
@[simp] theorem ifK_t : ifK C ss ss' true e = execSs C ss e := nr rfl
@[simp] theorem ifK_f : ifK C ss ss' false e = execSs C ss' e := nr rfl
noncomputable def forK (C : Ct) (t : Tg) (b : List Sm) (p : List D × List (Option Loc)) (e : Env) : SR := forL (forB C t b) p.1 e
@[simp] theorem forK_eq {t : Tg} {p : List D × List (Option Loc)} : forK C t ss p e = forL (forB C t ss) p.1 e := nr rfl
def retK (r : Rv) (e : Env) : SR := .ret r e
@[simp] theorem retK_eq {r : Rv} : retK r e = .ret r e := nr rfl
@[simp] theorem ss_nil : execSs C [] e = .nx e := by rw [execSs]
@[simp] theorem ss_cons : execSs C (s :: ss) e = (execS C s e).andThen (execSs C ss) := by rw [execSs]
@[simp] theorem m_asg {t : Tg} : execS C (.asg t x) e = (evalE C x e).st (asgK t) := by rw [execS]; rfl
@[simp] theorem m_par {is : List Nat} : execS C (.par is es) e = (evalEs C es e).st (parK is) := by rw [execS]; rfl
@[simp] theorem m_setI {i : Ex} : execS C (.setI b i x) e = (evalE C x e).st (setA C b i) := by rw [execS]; rfl
@[simp] theorem m_aug {i : Nat} : execS C (.aug i x) e = (e.var i).st (augK C i x) := by rw [execS]; rfl
@[simp] theorem m_augI {i : Ex} : execS C (.augI b i x) e = (evalE C b e).st (augIA C i x) := by rw [execS]; rfl
@[simp] theorem m_ite : execS C (.ite c ss ss') e = (evalT C c e).st (ifK C ss ss') := by rw [execS]; rfl
@[simp] theorem m_whl : execS C (.whl c ss) e = whileE (evalT C c) (execSs C ss) e := by rw [execS]
@[simp] theorem m_for {t : Tg} {s : Src} : execS C (.for_ t s ss) e = (evalS C true s e).st (forK C t ss) := by rw [execS]; rfl
@[simp] theorem m_ret : execS C (.ret x) e = (evalE C x e).st retK := by rw [execS]; rfl
@[simp] theorem m_retn : execS C .retn e = .ret (.val .non) e := by rw [execS]
@[simp] theorem m_exp : execS C (.exp x) e = (evalE C x e).st nxR := by rw [execS]; rfl
@[simp] theorem m_brk : execS C .brk e = .bk e := by rw [execS]
@[simp] theorem m_cnt : execS C .cnt e = .ct e := by rw [execS]
@[simp] theorem m_pas : execS C .pas e = .nx e := by rw [execS]
end
/-! ### the environment -/
section
variable {sl : List Sl} {ps : List Pst} {i k : Nat} {d : D} {ds : List D}
def varK (e : Env) (i : Nat) : Option Sl → R Rv
  | some (.val d) => .ok (.val d) e
  | some (.own _) => .ok (.loc (.s i)) e
  | some (.lea _) => .ok (.loc (.s i)) e
  | some (.lnk k) => match e.ps[k]? with
    | some (.own _) => .ok (.loc (.p k)) e
    | some (.lea _) => .ok (.loc (.p k)) e
    | some (.frz ds) => .ok (.val (.lst ds)) e
    | none => .bad
  | _ => .bad
def varP (e : Env) (k : Nat) : Option Pst → R Rv
  | some (.own _) => .ok (.loc (.p k)) e
  | some (.lea _) => .ok (.loc (.p k)) e
  | some (.frz ds) => .ok (.val (.lst ds)) e
  | none => .bad
@[simp] theorem var_eq {e : Env} : e.var i = varK e i e.sl[i]? := nr rfl
@[simp] theorem varK_val {e : Env} : varK e i (some (.val d)) = .ok (.val d) e := nr rfl
@[simp] theorem varK_own {e : Env} : varK e i (some (.own ds)) = .ok (.loc (.s i)) e := nr rfl
@[simp] theorem varK_lea {e : Env} : varK e i (some (.lea ds)) = .ok (.loc (.s i)) e := nr rfl
@[simp] theorem varK_lnk {e : Env} : varK e i (some (.lnk k)) = varP e k e.ps[k]? := nr rfl
@[simp] theorem varP_own {e : Env} : varP e k (some (.own ds)) = .ok (.loc (.p k)) e := nr rfl
@[simp] theorem varP_lea {e : Env} : varP e k (some (.lea ds)) = .ok (.loc (.p k)) e := nr rfl
@[simp] theorem varP_frz {e : Env} : varP e k (some (.frz ds)) = .ok (.val (.lst ds)) e := nr rfl
def atK : Option Sl → Option Pst
    | some (.own ds) => some (.own ds)
    | some (.lea ds) => some (.lea ds)
    | some (.val (.lst ds)) => some (.frz ds)
    | _ => none
@[simp] theorem at_s {e : Env} : e.at (.s i) = atK e.sl[i]? := nr rfl
@[simp] theorem at_p {e : Env} : e.at (.p k) = e.ps[k]? := nr rfl
@[simp] theorem atK_own : atK (some (.own ds)) = some (.own ds) := nr rfl
@[simp] theorem atK_lea : atK (some (.lea ds)) = some (.lea ds) := nr rfl
@[simp] theorem atK_frz : atK (some (.val (.lst ds))) = some (.frz ds) := nr rfl
@[simp] theorem put_s {p : Pst} : Env.put ⟨sl, ps⟩ (.s i) p = ⟨sl.set i (.ofP p), ps⟩ := nr rfl
@[simp] theorem put_p {p : Pst} : Env.put ⟨sl, ps⟩ (.p k) p = ⟨sl, ps.set k p⟩ := nr rfl
@[simp] theorem ofP_own : Sl.ofP (.own ds) = .own ds := nr rfl
@[simp] theorem ofP_lea : Sl.ofP (.lea ds) = .lea ds := nr rfl
@[simp] theorem ofP_frz : Sl.ofP (.frz ds) = .val (.lst ds) := nr rfl
def peekK (e : Env) (l : Loc) : Option Pst → R D
    | some (.own ds) => .ok (.lst (ds.map frz1)) (e.put l (.own (ds.map frz1)))
    | some (.lea ds) => .ok (.lst ds) e
    | some (.frz ds) => .ok (.lst ds) e
    | none => .bad
@[simp] theorem peek_val {e : Env} : e.peek (.val d) = .ok d e := nr rfl
@[simp] theorem peek_fresh {e : Env} : e.peek (.fresh ds) = .ok (.lst (ds.map frz1)) e := nr rfl
@[simp] theorem peek_loc {e : Env} {l : Loc} : e.peek (.loc l) = peekK e l (e.at l) := nr rfl
@[simp] theorem peekK_own {e : Env} {l : Loc} : peekK e l (some (.own ds)) = .ok (.lst (ds.map frz1)) (e.put l (.own (ds.map frz1))) := nr rfl
@[simp] theorem peekK_lea {e : Env} {l : Loc} : peekK e l (some (.lea ds)) = .ok (.lst ds) e := nr rfl
@[simp] theorem peekK_frz {e : Env} {l : Loc} : peekK e l (some (.frz ds)) = .ok (.lst ds) e := nr rfl
def asValK (e : Env) (l : Loc) : Option Pst → R D
    | some (.own ds) => .ok (.lst (ds.map frz1)) (e.put l (.frz (ds.map frz1)))
    | some (.frz ds) => .ok (.lst ds) e
    | _ => .bad
@[simp] theorem asVal_val {e : Env} : e.asVal (.val d) = .ok d e := nr rfl
@[simp] theorem asVal_fresh {e : Env} : e.asVal (.fresh ds) = .ok (.lst (ds.map frz1)) e := nr rfl
@[simp] theorem asVal_loc {e : Env} {l : Loc} : e.asVal (.loc l) = asValK e l (e.at l) := nr rfl
@[simp] theorem asValK_own {e : Env} {l : Loc} : asValK e l (some (.own ds)) = .ok (.lst (ds.map frz1)) (e.put l (.frz (ds.map frz1))) := nr rfl
@[simp] theorem asValK_frz {e : Env} {l : Loc} : asValK e l (some (.frz ds)) = .ok (.lst ds) e := nr rfl
def consD (d : D) (ds : List D) (e : Env) : R (List D) := .ok (d :: ds) e
@[simp] theorem consD_eq {e : Env} : consD d ds e = .ok (d :: ds) e := nr rfl
def asVsK (rs : List Rv) (d : D) (e : Env) : R (List D) := (e.asVals rs).bind (consD d)
@[simp] theorem asVsK_eq {e : Env} {rs : List Rv} : asVsK rs d e = (e.asVals rs).bind (consD d) := nr rfl
def itsK (rs : List Rv) (d : D) (e : Env) : R (List D) := (e.items rs).bind (consD d)
@[simp] theorem itsK_eq {e : Env} {rs : List Rv} : itsK rs d e = (e.items rs).bind (consD d) := nr rfl
def slV (d : D) (e : Env) : R Sl := .ok (.val d) e
@[simp] theorem slV_eq {e : Env} : slV d e = .ok (.val d) e := nr rfl
def setSl (i : Nat) (s : Sl) (e : Env) : R Unit := if i < e.sl.length then .ok () ⟨e.sl.set i s, e.ps⟩ else .bad
@[simp] theorem setSl_eq {e : Env} {s : Sl} : setSl i s e = if i < e.sl.length then .ok () ⟨e.sl.set i s, e.ps⟩ else .bad := nr rfl
def bindTD (ts : List Tg) (d : D) (e : Env) : R Unit := match bindD (.tp ts) d e with
    | some e => .ok () e
    | none => .bad
def parJ (i : Nat) (s : Sl) (_ : Unit) (e : Env) : R Unit := if i < e.sl.length then .ok () ⟨e.sl.set i s, e.ps⟩ else .bad
@[simp] theorem parJ_eq {e : Env} {s : Sl} {u : Unit} : parJ i s u e = if i < e.sl.length then .ok () ⟨e.sl.set i s, e.ps⟩ else .bad := nr rfl
def parI (i : Nat) (is : List Nat) (rs : List Rv) (s : Sl) (e : Env) : R Unit := (bindPar is rs e).bind (parJ i s)
@[simp] theorem parI_eq {e : Env} {s : Sl} {is : List Nat} {rs : List Rv} : parI i is rs s e = (bindPar is rs e).bind (parJ i s) := nr rfl
@[simp] theorem asVals_nil {e : Env} : e.asVals [] = .ok [] e := nr rfl
@[simp] theorem asVals_cons {e : Env} {r : Rv} {rs : List Rv} : e.asVals (r :: rs) = (e.asVal r).bind (asVsK rs) := nr rfl
@[simp] theorem item_val {e : Env} : e.item (.val d) = .ok d e := nr rfl
@[simp] theorem item_fresh {e : Env} : e.item (.fresh ds) = .ok (if ds.all D.flat1 then .olst ds else .lst (ds.map frz1)) e := nr rfl
@[simp] theorem item_loc {e : Env} {l : Loc} : e.item (.loc l) = e.asVal (.loc l) := nr rfl
@[simp] theorem items_nil {e : Env} : e.items [] = .ok [] e := nr rfl
@[simp] theorem items_cons {e : Env} {r : Rv} {rs : List Rv} : e.items (r :: rs) = (e.item r).bind (itsK rs) := nr rfl
@[simp] theorem frz1_int {i : Int} : frz1 (.int i) = .int i := nr rfl
@[simp] theorem frz1_bl {b : Bool} : frz1 (.bl b) = .bl b := nr rfl
@[simp] theorem frz1_non : frz1 .non = .non := nr rfl
@[simp] theorem frz1_str {x : Str} : frz1 (.str x) = .str x := nr rfl
@[simp] theorem frz1_tup : frz1 (.tup ds) = .tup ds := nr rfl
@[simp] theorem frz1_lst : frz1 (.lst ds) = .lst ds := nr rfl
@[simp] theorem frz1_olst : frz1 (.olst ds) = .lst ds := nr rfl
@[simp] theorem frz1_dic {ks vs : List D} : frz1 (.dic ks vs) = .dic ks vs := nr rfl
@[simp] theorem flat1_int {i : Int} : D.flat1 (.int i) = true := nr rfl
@[simp] theorem flat1_bl {b : Bool} : D.flat1 (.bl b) = true := nr rfl
@[simp] theorem flat1_non : D.flat1 .non = true := nr rfl
@[simp] theorem flat1_str {x : Str} : D.flat1 (.str x) = true := nr rfl
@[simp] theorem flat1_tup : D.flat1 (.tup ds) = true := nr rfl
@[simp] theorem flat1_lst : D.flat1 (.lst ds) = true := nr rfl
@[simp] theorem flat1_dic {ks vs : List D} : D.flat1 (.dic ks vs) = true := nr rfl
@[simp] theorem flat1_olst : D.flat1 (.olst ds) = false := nr rfl
@[simp] theorem mk_nil {e : Env} : mkArgs e [] k = some ([], [], []) := nr rfl
def mkV (d : D) : Option (List Sl × List Pst × List (Nat × Loc)) → Option (List Sl × List Pst × List (Nat × Loc))
  | some (ss, ps, ls) => some (.val d :: ss, ps, ls)
  | none => none
def mkO (k : Nat) (ds : List D) : Option (List Sl × List Pst × List (Nat × Loc)) → Option (List Sl × List Pst × List (Nat × Loc))
  | some (ss, ps, ls) => some (.lnk k :: ss, .own ds :: ps, ls)
  | none => none
def mkL (k : Nat) (l : Loc) (p : Pst) : Option (List Sl × List Pst × List (Nat × Loc)) → Option (List Sl × List Pst × List (Nat × Loc))
  | some (ss, ps, ls) => some (.lnk k :: ss, p :: ps, (k, l) :: ls)
  | none => none
@[simp] theorem mkV_some {ss : List Sl} {ps : List Pst} {ls : List (Nat × Loc)} : mkV d (some (ss, ps, ls)) = some (.val d :: ss, ps, ls) := nr rfl
@[simp] theorem mkO_some {ss : List Sl} {ps : List Pst} {ls : List (Nat × Loc)} : mkO k ds (some (ss, ps, ls)) = some (.lnk k :: ss, .own ds :: ps, ls) := nr rfl
@[simp] theorem mkL_some {l : Loc} {p : Pst} {ss : List Sl} {ps : List Pst} {ls : List (Nat × Loc)} : mkL k l p (some (ss, ps, ls)) = some (.lnk k :: ss, p :: ps, (k, l) :: ls) := nr rfl
def mkLoc (e : Env) (k : Nat) (l : Loc) (rs : List Rv) : Option Pst → Option (List Sl × List Pst × List (Nat × Loc))
    | some (.frz ds) => mkV (.lst ds) (mkArgs e rs k)
    | some p => mkL k l p (mkArgs e rs (k + 1))
    | none => none
@[simp] theorem mk_val {e : Env} {rs : List Rv} : mkArgs e (.val d :: rs) k = mkV d (mkArgs e rs k) := by rw [mkArgs]; rfl
@[simp] theorem mk_fresh {e : Env} {rs : List Rv} : mkArgs e (.fresh ds :: rs) k = mkO k ds (mkArgs e rs (k + 1)) := by rw [mkArgs]; rfl
@[simp] theorem mk_loc {e : Env} {l : Loc} {rs : List Rv} : mkArgs e (.loc l :: rs) k = mkLoc e k l rs (e.at l) := by
  rw [mkArgs]
  unfold mkLoc
  cases e.at l with
  | none => rfl
  | some p => cases p <;> rfl
@[simp] theorem mkLoc_own {e : Env} {l : Loc} {rs : List Rv} : mkLoc e k l rs (some (.own ds)) = mkL k l (.own ds) (mkArgs e rs (k + 1)) := nr rfl
@[simp] theorem mkLoc_lea {e : Env} {l : Loc} {rs : List Rv} : mkLoc e k l rs (some (.lea ds)) = mkL k l (.lea ds) (mkArgs e rs (k + 1)) := nr rfl
@[simp] theorem mkLoc_frz {e : Env} {l : Loc} {rs : List Rv} : mkLoc e k l rs (some (.frz ds)) = mkV (.lst ds) (mkArgs e rs k) := nr rfl
@[simp] theorem lA_nil : locsApart [] = true := nr rfl
@[simp] theorem lA_one {q : Nat × Loc} : locsApart [q] = true := by obtain ⟨_, _⟩ := q; simp [locsApart]
theorem lA_two {q r : Nat × Loc} (h : r.2 ≠ q.2) : locsApart [q, r] = true := by obtain ⟨_, _⟩ := q; simp [locsApart, h]
def putK (e : Env) (ps : List Pst) (r : List (Nat × Loc)) (l : Loc) : Option Pst → Option Pst → Option Env
  | some p, some p0 => if backOk p0 p then putBack (e.put l p) ps r else none
  | _, _ => none
@[simp] theorem putBack_nil {e : Env} : putBack e ps [] = some e := nr rfl
@[simp] theorem putBack_cons {e : Env} {l : Loc} {r : List (Nat × Loc)} : putBack e ps ((k, l) :: r) = putK e ps r l ps[k]? (e.at l) := by
  rw [putBack]
  rfl
@[simp] theorem putK_oo {e : Env} {r : List (Nat × Loc)} {l : Loc} {ds ds' : List D} : putK e ps r l (some (.own ds)) (some (.own ds')) = putBack (e.put l (.own ds)) ps r := by simp [putK, backOk]
@[simp] theorem putK_fo {e : Env} {r : List (Nat × Loc)} {l : Loc} {ds ds' : List D} : putK e ps r l (some (.frz ds)) (some (.own ds')) = putBack (e.put l (.frz ds)) ps r := by simp [putK, backOk]
@[simp] theorem putK_ll {e : Env} {r : List (Nat × Loc)} {l : Loc} {ds ds' : List D} : putK e ps r l (some (.lea ds)) (some (.lea ds')) = putBack (e.put l (.lea ds)) ps r := by simp [putK, backOk]
@[simp] theorem ofRv_val {e : Env} : Sl.ofRv e (.val d) = .ok (.val d) e := nr rfl
@[simp] theorem ofRv_fresh {e : Env} : Sl.ofRv e (.fresh ds) = .ok (.own ds) e := nr rfl
@[simp] theorem ofRv_loc {e : Env} {l : Loc} : Sl.ofRv e (.loc l) = (e.asVal (.loc l)).bind slV := nr rfl
@[simp] theorem bindT_nm {e : Env} {r : Rv} : bindT (.nm i) r e = (Sl.ofRv e r).bind (setSl i) := nr rfl
def bindTK : Option Env → R Unit
    | some e => .ok () e
    | none => .bad
@[simp] theorem bindTK_some {e : Env} : bindTK (some e) = .ok () e := nr rfl
@[simp] theorem bindT_tp {e : Env} {r : Rv} {ts : List Tg} : bindT (.tp ts) r e = (e.asVal r).bind (bindTD ts) := nr rfl
@[simp] theorem bindTD_eq {e : Env} {ts : List Tg} : bindTD ts d e = bindTK (bindD (.tp ts) d e) := nr rfl
@[simp] theorem bindD_nm {e : Env} : bindD (.nm i) d e = if i < e.sl.length then some ⟨e.sl.set i (.val d), e.ps⟩ else none := by rw [bindD]
@[simp] theorem bindD_tp {e : Env} {ts : List Tg} : bindD (.tp ts) (.tup ds) e = bindDs ts ds e := by rw [bindD]
def bindDK (ts : List Tg) (ds : List D) : Option Env → Option Env
    | some e => bindDs ts ds e
    | none => none
@[simp] theorem bindDK_some {e : Env} {ts : List Tg} : bindDK ts ds (some e) = bindDs ts ds e := nr rfl
@[simp] theorem bindDs_nil {e : Env} : bindDs [] [] e = some e := by rw [bindDs]
@[simp] theorem bindDs_cons {e : Env} {t : Tg} {ts : List Tg} : bindDs (t :: ts) (d :: ds) e = bindDK ts ds (bindD t d e) := by rw [bindDs]; rfl
@[simp] theorem bindPar_nil {e : Env} : bindPar [] [] e = .ok () e := nr rfl
@[simp] theorem bindPar_cons {e : Env} {r : Rv} {rs : List Rv} {is : List Nat} : bindPar (i :: is) (r :: rs) e = (Sl.ofRv e r).bind (parI i is rs) := nr rfl
end
/-! ### operations -/
section
variable {e : Env} {i j : Int} {d : D} {ds : List D} {C : Ct}
def arithR (e : Env) : Option Int → R Rv
    | some k => .ok (.val (.int k)) e
    | none => .bad
@[simp] theorem arithR_some {k : Int} : arithR e (some k) = .ok (.val (.int k)) e := nr rfl
@[simp] theorem opBin_int {o : Bop} : opBin o (.val (.int i)) (.val (.int j)) e = arithR e (arith o i j) := nr rfl
@[simp] theorem ar_add : arith .add i j = some (i + j) := nr rfl
@[simp] theorem ar_sub : arith .sub i j = some (i - j) := nr rfl
theorem ar_mul (h : mulOk i j = true) : arith .mul i j = some (i * j) := by simp [arith, h]
theorem ar_fdiv (h : fdivOk i j = true) : arith .fdiv i j = some (i.fdiv j) := by simp [arith, h]
theorem ar_mod (h : j ≠ 0) : arith .mod i j = some (i.fmod j) := by simp [arith, h]
theorem ar_pow (h : powOk i j = true) : arith .pow i j = some (i ^ j.toNat) := by simp [arith, h]
theorem opBin_seq {o : Bop} {x y : Rv} (h : ∀ i j, ¬ (x = .val (.int i) ∧ y = .val (.int j))) : opBin o x y e = (e.peek x).bind fun x e => (e.peek y).bind fun y e => opSeq o x y e := by
  unfold opBin
  split
  · exact absurd ⟨rfl, rfl⟩ (h _ _)
  · rfl
def seqJ (o : Bop) (x y : D) (e : Env) : R Rv := opSeq o x y e
@[simp] theorem seqJ_eq {o : Bop} {x y : D} : seqJ o x y e = opSeq o x y e := nr rfl
def seqK (o : Bop) (y : Rv) (x : D) (e : Env) : R Rv := (e.peek y).bind (seqJ o x)
@[simp] theorem seqK_eq {o : Bop} {x : D} {y : Rv} : seqK o y x e = (e.peek y).bind (seqJ o x) := nr rfl
def cdJ (o : Cop) (y x : D) (e : Env) : R Bool := cmpD o x y e
@[simp] theorem cdJ_eq {o : Cop} {x y : D} : cdJ o y x e = cmpD o x y e := nr rfl
def bltJ (f : String) (d : D) (e : Env) : R Rv := blt1 f d e
@[simp] theorem bltJ_eq {f : String} : bltJ f d e = blt1 f d e := nr rfl
def bltI (f : String) (d d' : D) (e : Env) : R Rv := blt2 f d d' e
@[simp] theorem bltI_eq {f : String} {d' : D} : bltI f d d' e = blt2 f d d' e := nr rfl
def bltH (f : String) (y : Rv) (d : D) (e : Env) : R Rv := (e.asVal y).bind (bltI f d)
@[simp] theorem bltH_eq {f : String} {y : Rv} : bltH f y d e = (e.asVal y).bind (bltI f d) := nr rfl
def appA (l : Loc) (d : D) (e : Env) : R Rv := match e.at l with
    | some (.own ds) => if ds.length < LIM then .ok (.val .non) (e.put l (.own (ds ++ [d]))) else .bad
    | _ => .bad
def lendJ (d : D) (e : Env) : R (D × Option Loc) := .ok (d, none) e
@[simp] theorem lendJ_eq : lendJ d e = .ok (d, none) e := nr rfl
@[simp] theorem opBin_f {o : Bop} {y : Rv} : opBin o (.fresh ds) y e = (e.peek (.fresh ds)).bind (seqK o y) := opBin_seq fun _ _ h => by cases h.1
@[simp] theorem opBin_l {o : Bop} {y : Rv} {l : Loc} : opBin o (.loc l) y e = (e.peek (.loc l)).bind (seqK o y) := opBin_seq fun _ _ h => by cases h.1
@[simp] theorem opBin_vt {o : Bop} {y : Rv} : opBin o (.val (.tup ds)) y e = (e.peek y).bind (seqJ o (.tup ds)) := opBin_seq fun _ _ h => by cases h.1
@[simp] theorem opBin_vl {o : Bop} {y : Rv} : opBin o (.val (.lst ds)) y e = (e.peek y).bind (seqJ o (.lst ds)) := opBin_seq fun _ _ h => by cases h.1
@[simp] theorem opBin_vs {o : Bop} {y : Rv} {x : Str} : opBin o (.val (.str x)) y e = (e.peek y).bind (seqJ o (.str x)) := opBin_seq fun _ _ h => by cases h.1
@[simp] theorem sq_addl {xs ys : List D} : opSeq .add (.lst xs) (.lst ys) e = if xs.length + ys.length ≤ LIM then .ok (.fresh (xs ++ ys)) e else .bad := nr rfl
@[simp] theorem sq_addt {xs ys : List D} : opSeq .add (.tup xs) (.tup ys) e = if xs.length + ys.length ≤ LIM then .ok (.val (.tup (xs ++ ys))) e else .bad := nr rfl
@[simp] theorem sq_mull {xs : List D} {k : Int} : opSeq .mul (.lst xs) (.int k) e = if -(2 ^ 63) ≤ k ∧ k < 2 ^ 63 ∧ xs.length * k.toNat ≤ LIM then .ok (.fresh (List.replicate k.toNat xs).flatten) e else .bad := nr rfl
@[simp] theorem sq_mult {xs : List D} {k : Int} : opSeq .mul (.tup xs) (.int k) e = if -(2 ^ 63) ≤ k ∧ k ≤ 1000 ∧ xs.length ≤ 1000 then .ok (.val (.tup (List.replicate k.toNat xs).flatten)) e else .bad := nr rfl
def cmpR (e : Env) : Option Bool → R Bool
    | some b => .ok b e
    | none => .bad
@[simp] theorem cmpR_some {b : Bool} : cmpR e (some b) = .ok b e := nr rfl
@[simp] theorem opCmp_int {o : Cop} : opCmp o (.val (.int i)) (.val (.int j)) e = cmpR e (cmpI o i j) := nr rfl
@[simp] theorem ci_eq : cmpI .eq i j = some (decide (i = j)) := nr rfl
@[simp] theorem ci_ne : cmpI .ne i j = some (!decide (i = j)) := nr rfl
@[simp] theorem ci_lt : cmpI .lt i j = some (decide (i < j)) := nr rfl
@[simp] theorem ci_le : cmpI .le i j = some (decide (i ≤ j)) := nr rfl
@[simp] theorem ci_gt : cmpI .gt i j = some (decide (j < i)) := nr rfl
@[simp] theorem ci_ge : cmpI .ge i j = some (decide (j ≤ i)) := nr rfl
theorem opCmp_gen {o : Cop} {x y : Rv} (h : ∀ i j, ¬ (x = .val (.int i) ∧ y = .val (.int j))) : opCmp o x y e = (e.peek x).bind fun x e => (e.peek y).bind fun y e => cmpD o x y e := by
  unfold opCmp
  split
  · exact absurd ⟨rfl, rfl⟩ (h _ _)
  · rfl
@[simp] theorem opCmp_xf {o : Cop} {x : Rv} : opCmp o x (.fresh ds) e = (e.peek x).bind (cdJ o (.lst (ds.map frz1))) := opCmp_gen fun _ _ h => by cases h.2
@[simp] theorem opCmp_xt {o : Cop} {x : Rv} : opCmp o x (.val (.tup ds)) e = (e.peek x).bind (cdJ o (.tup ds)) := opCmp_gen fun _ _ h => by cases h.2
@[simp] theorem opCmp_xl {o : Cop} {x : Rv} : opCmp o x (.val (.lst ds)) e = (e.peek x).bind (cdJ o (.lst ds)) := opCmp_gen fun _ _ h => by cases h.2
@[simp] theorem opCmp_xs {o : Cop} {x : Rv} {z : Str} : opCmp o x (.val (.str z)) e = (e.peek x).bind (cdJ o (.str z)) := opCmp_gen fun _ _ h => by cases h.2
@[simp] theorem opCmp_xn {o : Cop} {x : Rv} : opCmp o x (.val .non) e = (e.peek x).bind (cdJ o .non) := opCmp_gen fun _ _ h => by cases h.2
@[simp] theorem opCmp_xb {o : Cop} {x : Rv} {b : Bool} : opCmp o x (.val (.bl b)) e = (e.peek x).bind (cdJ o (.bl b)) := opCmp_gen fun _ _ h => by cases h.2
@[simp] theorem cd_is : cmpD .is d .non e = .ok d.isNon e := by cases d <;> rfl
@[simp] theorem cd_isn : cmpD .isnot d .non e = .ok (!d.isNon) e := by cases d <;> rfl
@[simp] theorem cd_eq {d' : D} : cmpD .eq d d' e = if d.eqOk && d'.eqOk then .ok (d.eqv d') e else .bad := by
  unfold cmpD
  rfl
@[simp] theorem cd_ne {d' : D} : cmpD .ne d d' e = if d.eqOk && d'.eqOk then .ok (!d.eqv d') e else .bad := by
  unfold cmpD
  rfl
@[simp] theorem cd_int {ys : List D} : cmpD .isin d (.tup ys) e = if d.eqOk && (D.tup ys).eqOk then .ok (ys.any fun y => y.eqv d) e else .bad := by
  unfold cmpD
  rfl
@[simp] theorem cd_inl {ys : List D} : cmpD .isin d (.lst ys) e = if d.eqOk && (D.lst ys).eqOk then .ok (ys.any fun y => y.eqv d) e else .bad := by
  unfold cmpD
  rfl
@[simp] theorem cd_nint {ys : List D} : cmpD .notin d (.tup ys) e = if d.eqOk && (D.tup ys).eqOk then .ok (!ys.any fun y => y.eqv d) e else .bad := by
  unfold cmpD
  rfl
@[simp] theorem cd_ninl {ys : List D} : cmpD .notin d (.lst ys) e = if d.eqOk && (D.lst ys).eqOk then .ok (!ys.any fun y => y.eqv d) e else .bad := by
  unfold cmpD
  rfl
@[simp] theorem blV_ok {b : Bool} : R.blV (.ok b e) = .ok (.val (.bl b)) e := nr rfl
@[simp] theorem tru_bl {b : Bool} : opTru (.val (.bl b)) e = .ok b e := nr rfl
def truK (e : Env) : Option Bool → R Bool
    | some b => .ok b e
    | none => .bad
theorem opTru_val (h : ∀ b, d ≠ .bl b) : opTru (.val d) e = truK e (truth d) := by
  unfold opTru
  split
  · rename_i b q
    cases q
    exact absurd rfl (h b)
  · rfl
def idxK (e : Env) : Option D → R Rv
  | some d => .ok (.val d) e
  | none => .bad
@[simp] theorem idxK_some : idxK e (some d) = .ok (.val d) e := nr rfl
@[simp] theorem opIdx_t : opIdx (.val (.tup ds)) (.val (.int i)) e = idxK e (L2.atI ds i) := nr rfl
@[simp] theorem opIdx_l : opIdx (.val (.lst ds)) (.val (.int i)) e = idxK e (L2.atI ds i) := nr rfl
def idxF (e : Env) : Option D → R Rv
  | some d => .ok (.val (frz1 d)) e
  | none => .bad
@[simp] theorem idxF_some : idxF e (some d) = .ok (.val (frz1 d)) e := nr rfl
@[simp] theorem opIdx_f : opIdx (.fresh ds) (.val (.int i)) e = idxF e (L2.atI ds i) := nr rfl
def idxO (e : Env) (l : Loc) (ds : List D) (j : Nat) : Option D → R Rv
          | some (.olst xs) => .ok (.val (.lst xs)) (e.put l (.own (ds.set j (.lst xs))))
          | some d => .ok (.val d) e
          | none => .bad
theorem idxO_flat {l : Loc} {j : Nat} (h : d.flat1 = true) : idxO e l ds j (some d) = .ok (.val d) e := by cases d <;> first | rfl | cases h
@[simp] theorem idxO_int {l : Loc} {j : Nat} : idxO e l ds j (some (.int i)) = .ok (.val (.int i)) e := nr rfl
@[simp] theorem idxO_bl {l : Loc} {j : Nat} {b : Bool} : idxO e l ds j (some (.bl b)) = .ok (.val (.bl b)) e := nr rfl
@[simp] theorem idxO_tup {l : Loc} {j : Nat} {xs : List D} : idxO e l ds j (some (.tup xs)) = .ok (.val (.tup xs)) e := nr rfl
@[simp] theorem idxO_lst {l : Loc} {j : Nat} {xs : List D} : idxO e l ds j (some (.lst xs)) = .ok (.val (.lst xs)) e := nr rfl
@[simp] theorem idxO_non {l : Loc} {j : Nat} : idxO e l ds j (some .non) = .ok (.val .non) e := nr rfl
@[simp] theorem idxO_str {l : Loc} {j : Nat} {x : Str} : idxO e l ds j (some (.str x)) = .ok (.val (.str x)) e := nr rfl
@[simp] theorem idxO_dic {l : Loc} {j : Nat} {ks vs : List D} : idxO e l ds j (some (.dic ks vs)) = .ok (.val (.dic ks vs)) e := nr rfl
@[simp] theorem idxO_olst {l : Loc} {j : Nat} {xs : List D} : idxO e l ds j (some (.olst xs)) = .ok (.val (.lst xs)) (e.put l (.own (ds.set j (.lst xs)))) := nr rfl
def idxJ (e : Env) (l : Loc) (ds : List D) : Option Nat → R Rv
  | some j => idxO e l ds j ds[j]?
  | none => .bad
@[simp] theorem idxJ_some {l : Loc} {j : Nat} : idxJ e l ds (some j) = idxO e l ds j ds[j]? := nr rfl
def idxP (e : Env) (l : Loc) (i : Int) : Option Pst → R Rv
      | some (.own ds) => idxJ e l ds (L2.ixN ds.length i)
      | some (.lea ds) => idxK e (L2.atI ds i)
      | some (.frz ds) => idxK e (L2.atI ds i)
      | none => .bad
@[simp] theorem opIdx_loc {l : Loc} : opIdx (.loc l) (.val (.int i)) e = idxP e l i (e.at l) := by
  show _ = _
  unfold opIdx
  simp only
  unfold idxP
  generalize e.at l = p
  cases p with
  | none => rfl
  | some p =>
    cases p with
    | own ds =>
      simp only
      unfold idxJ
      cases L2.ixN ds.length i with
      | none => rfl
      | some j => rfl
    | lea ds => rfl
    | frz ds => rfl
@[simp] theorem idxP_own {l : Loc} : idxP e l i (some (.own ds)) = idxJ e l ds (L2.ixN ds.length i) := nr rfl
@[simp] theorem idxP_lea {l : Loc} : idxP e l i (some (.lea ds)) = idxK e (L2.atI ds i) := nr rfl
@[simp] theorem idxP_frz {l : Loc} : idxP e l i (some (.frz ds)) = idxK e (L2.atI ds i) := nr rfl
def setJ (e : Env) (l : Loc) (d : D) (ds : List D) : Option Nat → R Unit
      | some j => .ok () (e.put l (.own (ds.set j d)))
      | none => .bad
@[simp] theorem setJ_some {l : Loc} {j : Nat} : setJ e l d ds (some j) = .ok () (e.put l (.own (ds.set j d))) := nr rfl
def setP (e : Env) (l : Loc) (i : Int) (d : D) : Option Pst → R Unit
    | some (.own ds) => setJ e l d ds (L2.ixN ds.length i)
    | _ => .bad
@[simp] theorem setP_own {l : Loc} : setP e l i d (some (.own ds)) = setJ e l d ds (L2.ixN ds.length i) := nr rfl
@[simp] theorem setIx_eq {l : Loc} : setIx (.loc l) (.val (.int i)) d e = setP e l i d (e.at l) := by
  unfold setIx setP
  simp only
  cases e.at l with
  | none => rfl
  | some p =>
    cases p with
    | own ds =>
      simp only
      unfold setJ
      cases L2.ixN ds.length i <;> rfl
    | _ => rfl
@[simp] theorem blt_one {f : String} {x : Rv} : opBlt f [x] e = (e.peek x).bind (bltJ f) := nr rfl
@[simp] theorem blt_two {f : String} {x y : Rv} : opBlt f [x, y] e = (e.asVal x).bind (bltH f y) := nr rfl
@[simp] theorem b_lent : blt1 "len" (.tup ds) e = .ok (.val (.int ds.length)) e := by rw [blt1]
@[simp] theorem b_lenl : blt1 "len" (.lst ds) e = .ok (.val (.int ds.length)) e := by rw [blt1]
@[simp] theorem b_lenk : blt1 "len" (.klst ds) e = .ok (.val (.int ds.length)) e := by rw [blt1]
@[simp] theorem b_listk : blt1 "list" (.klst ds) e = .ok (.fresh ds) e := by rw [blt1]
@[simp] theorem b_abs : blt1 "abs" (.int i) e = .ok (.val (.int (if i < 0 then -i else i))) e := by rw [blt1]
@[simp] theorem b_int : blt1 "int" (.int i) e = .ok (.val (.int i)) e := by rw [blt1]
@[simp] theorem b_intb {b : Bool} : blt1 "int" (.bl b) e = .ok (.val (.int (if b then 1 else 0))) e := by rw [blt1]
@[simp] theorem b_tupt : blt1 "tuple" (.tup ds) e = .ok (.val (.tup ds)) e := by rw [blt1]
@[simp] theorem b_tupl : blt1 "tuple" (.lst ds) e = .ok (.val (.tup ds)) e := by rw [blt1]
@[simp] theorem b_listt : blt1 "list" (.tup ds) e = .ok (.fresh ds) e := by rw [blt1]
@[simp] theorem b_listl : blt1 "list" (.lst ds) e = .ok (.fresh ds) e := by rw [blt1]
def allK (e : Env) : Option (List Bool) → R Rv
  | some bs => .ok (.val (.bl (bs.all id))) e
  | none => .bad
@[simp] theorem allK_some {bs : List Bool} : allK e (some bs) = .ok (.val (.bl (bs.all id))) e := nr rfl
@[simp] theorem b_all : blt1 "all" (.lst ds) e = allK e (allBl ds) := by rw [blt1]; rfl
def anyK (e : Env) : Option (List Bool) → R Rv
  | some bs => .ok (.val (.bl (bs.any id))) e
  | none => .bad
@[simp] theorem anyK_some {bs : List Bool} : anyK e (some bs) = .ok (.val (.bl (bs.any id))) e := nr rfl
@[simp] theorem b_any : blt1 "any" (.lst ds) e = anyK e (allBl ds) := by rw [blt1]; rfl
@[simp] theorem b_min : blt2 "min" (.int i) (.int j) e = .ok (.val (.int (min i j))) e := by
  rw [blt2, show min i j = if j < i then j else i by split <;> omega]
@[simp] theorem b_max : blt2 "max" (.int i) (.int j) e = .ok (.val (.int (max i j))) e := by
  rw [blt2, show max i j = if j > i then j else i by split <;> omega]
@[simp] theorem b_gcd : blt2 "gcd" (.int i) (.int j) e = .ok (.val (.int (Int.gcd i j))) e := by rw [blt2]
theorem allBl_map {α : Type} {f : α → Bool} {xs : List α} : allBl (xs.map fun x => .bl (f x)) = some (xs.map f) := by
  induction xs with
  | nil => rfl
  | cons x xs ih => simp [allBl, ih]
@[simp] theorem isLst_s {e : Env} {l : Loc} : e.isLst (.loc l) = (e.at l).isSome := by
  unfold Env.isLst
  simp only
  cases e.at l <;> rfl
def appK (l : Loc) (d : D) (e : Env) : Option Pst → R Rv
    | some (.own ds) => if ds.length < LIM then .ok (.val .non) (e.put l (.own (ds ++ [d]))) else .bad
    | _ => .bad
@[simp] theorem opMeth_app {l : Loc} {r : Rv} : opMeth "append" (.loc l) [r] e = (e.item r).bind (appA l) := by
  show opApp l [r] e = _
  rfl
@[simp] theorem appA_eq {l : Loc} : appA l d e = appK l d e (e.at l) := by
  unfold appA appK
  cases e.at l with
  | none => rfl
  | some p => cases p <;> rfl
@[simp] theorem appK_own {l : Loc} : appK l d e (some (.own ds)) = if ds.length < LIM then .ok (.val .non) (e.put l (.own (ds ++ [d]))) else .bad := nr rfl
@[simp] theorem slc_t {lo hi : Option Int} : opSlc (.tup ds) lo hi e = .ok (.val (.tup (cutD ds lo hi))) e := nr rfl
@[simp] theorem slc_l {lo hi : Option Int} : opSlc (.lst ds) lo hi e = .ok (.fresh (cutD ds lo hi)) e := nr rfl
@[simp] theorem lend_t {r : Rv} : e.lend true r = (e.asVal r).bind lendJ := nr rfl
@[simp] theorem lend_f {r : Rv} : e.lend false r = e.lease r := nr rfl
def leaseK (e : Env) (l : Loc) : Option Pst → R (D × Option Loc)
    | some (.own ds) => .ok (.lst (ds.map frz1), some l) (e.put l (.lea (ds.map frz1)))
    | some (.lea ds) => .ok (.lst ds, none) e
    | some (.frz ds) => .ok (.lst ds, none) e
    | none => .bad
@[simp] theorem lease_val : e.lease (.val d) = .ok (d, none) e := nr rfl
@[simp] theorem lease_fresh : e.lease (.fresh ds) = .ok (.lst (ds.map frz1), none) e := nr rfl
@[simp] theorem lease_loc {l : Loc} : e.lease (.loc l) = leaseK e l (e.at l) := nr rfl
@[simp] theorem leaseK_own {l : Loc} : leaseK e l (some (.own ds)) = .ok (.lst (ds.map frz1), some l) (e.put l (.lea (ds.map frz1))) := nr rfl
@[simp] theorem leaseK_lea {l : Loc} : leaseK e l (some (.lea ds)) = .ok (.lst ds, none) e := nr rfl
@[simp] theorem leaseK_frz {l : Loc} : leaseK e l (some (.frz ds)) = .ok (.lst ds, none) e := nr rfl
@[simp] theorem items_t : itemsOf (.tup ds) = some ds := nr rfl
@[simp] theorem items_l : itemsOf (.lst ds) = some ds := nr rfl
@[simp] theorem unl_nil : e.unlease [] = e := nr rfl
@[simp] theorem unl_none {ls : List (Option Loc)} : e.unlease (none :: ls) = e.unlease ls := nr rfl
def unlK (e : Env) (l : Loc) (ls : List (Option Loc)) : Option Pst → Env
    | some (.lea ds) => (e.put l (.own ds)).unlease ls
    | _ => e.unlease ls
@[simp] theorem unl_some {l : Loc} {ls : List (Option Loc)} : e.unlease (some l :: ls) = unlK e l ls (e.at l) := by
  rw [Env.unlease]
  unfold unlK
  cases e.at l with
  | none => rfl
  | some p => cases p <;> rfl
@[simp] theorem unlK_lea {l : Loc} {ls : List (Option Loc)} : unlK e l ls (some (.lea ds)) = (e.put l (.own ds)).unlease ls := nr rfl
@[simp] theorem fin_ret {e : Env} : finish (.ret (.val d) e) = .ok (.val d) e.ps := nr rfl
@[simp] theorem fin_fresh {e : Env} : finish (.ret (.fresh ds) e) = .ok (.fresh ds) e.ps := nr rfl
@[simp] theorem fin_nx {e : Env} : finish (.nx e) = .ok (.val .non) e.ps := nr rfl
@[simp] theorem fin_ex {e : Env} {c : String} : finish (.ex c d e) = .ex c d e.ps := nr rfl
def finS (ps : List Pst) : Option Pst → CR
    | some (.own ds) => .ok (.fresh ds) ps
    | some (.frz ds) => .ok (.val (.lst ds)) ps
    | _ => .bad
@[simp] theorem fin_s {e : Env} {k : Nat} : finish (.ret (.loc (.s k)) e) = finS e.ps (e.at (.s k)) := by
  unfold finish finS
  simp only
  first
  | done
  | (cases e.at (.s k) with
    | none => rfl
    | some p => cases p <;> rfl)
@[simp] theorem finS_own {ps : List Pst} : finS ps (some (.own ds)) = .ok (.fresh ds) ps := nr rfl
@[simp] theorem finS_frz {ps : List Pst} : finS ps (some (.frz ds)) = .ok (.val (.lst ds)) ps := nr rfl
end
end Fp.Z
/-! FpLaw2: loops by invariants, comprehensions, small numbers. -/
namespace Fp.Z
open PySem Fp
/-- a loop by an invariant over the items that are left; it may be left by break, return, error -/
theorem forL_sat {b : D → Env → SR} {I : List D → Env → Prop} {Q : SR → Prop} (hb : ∀ d ds e, I (d :: ds) e → (∃ e', (b d e = .nx e' ∨ b d e = .ct e') ∧ I ds e') ∨ (∃ e', b d e = .bk e' ∧ Q (.nx e')) ∨ (∃ r, b d e = r ∧ (∀ f, r.turn f = r) ∧ Q r)) (hn : ∀ e, I [] e → Q (.nx e)) :
    ∀ (ds : List D) (e : Env), I ds e → Q (forL b ds e)
  | [], e, h => hn e h
  | d :: ds, e, h => by
    show Q ((b d e).turn (forL b ds))
    rcases hb d ds e h with ⟨e', h1 | h1, h2⟩ | ⟨e', h1, h2⟩ | ⟨r, h1, h2, h3⟩
    · rw [h1]
      exact forL_sat hb hn ds e' h2
    · rw [h1]
      exact forL_sat hb hn ds e' h2
    · rw [h1]
      exact h2
    · rw [h1, h2]
      exact h3
/-- a loop that goes through -/
theorem forL_nx {b : D → Env → SR} {I : List D → Env → Prop} (hb : ∀ d ds e, I (d :: ds) e → ∃ e', (b d e = .nx e' ∨ b d e = .ct e') ∧ I ds e') {ds : List D} {e : Env} (h : I ds e) : ∃ e', forL b ds e = .nx e' ∧ I [] e' :=
  forL_sat (Q := fun r => ∃ e', r = .nx e' ∧ I [] e') (fun d ds e h => .inl (hb d ds e h)) (fun e h => ⟨e, rfl, h⟩) ds e h
/-- a loop whose turns are told: the state behind each is a function of the state ahead -/
theorem forL_fold {σ : Type} {b : D → Env → SR} {st : σ → Env} {f : σ → D → σ} (P : σ → List D → Prop) (hb : ∀ s d ds, P s (d :: ds) → (b d (st s) = .nx (st (f s d)) ∨ b d (st s) = .ct (st (f s d))) ∧ P (f s d) ds) :
    ∀ (ds : List D) (s : σ), P s ds → forL b ds (st s) = .nx (st (ds.foldl f s)) ∧ P (ds.foldl f s) []
  | [], s, h => ⟨rfl, h⟩
  | d :: ds, s, h => by
    obtain ⟨h1, h2⟩ := hb s d ds h
    have ih := forL_fold P hb ds (f s d) h2
    refine ⟨?_, ih.2⟩
    show (b d (st s)).turn (forL b ds) = _
    rcases h1 with h1 | h1 <;> rw [h1] <;> exact ih.1
/-- a comprehension whose turns change nothing -/
theorem compL_map {f : D → Env → R (Option D)} {g : D → D} {e : Env} : ∀ {ds : List D}, (∀ d ∈ ds, f d e = .ok (some (g d)) e) → compL f ds e = .ok (ds.map g) e
  | [], _ => rfl
  | d :: ds, h => by
    rw [compL, h d (List.mem_cons_self ..)]
    simp only [R.bind_ok]
    rw [compL_map fun d hd => h d (List.mem_cons_of_mem _ hd)]
    rfl
theorem compL_filter {f : D → Env → R (Option D)} {g : D → Option D} {e : Env} : ∀ {ds : List D}, (∀ d ∈ ds, f d e = .ok (g d) e) → compL f ds e = .ok (ds.filterMap g) e
  | [], _ => rfl
  | d :: ds, h => by
    rw [compL, h d (List.mem_cons_self ..)]
    simp only [R.bind_ok]
    rw [compL_filter fun d hd => h d (List.mem_cons_of_mem _ hd)]
    cases q : g d <;> simp [q]
/-- a comprehension with a state -/
theorem compL_st {f : D → Env → R (Option D)} {I : List D → Env → Prop} {P : D → Prop} (hf : ∀ d ds e, I (d :: ds) e → ∃ y e', f d e = .ok (some y) e' ∧ P y ∧ I ds e') : ∀ {ds : List D} {e : Env}, I ds e → ∃ ys e', compL f ds e = .ok ys e' ∧ (∀ y ∈ ys, P y) ∧ ys.length = ds.length ∧ I [] e'
  | [], e, h => ⟨[], e, rfl, fun _ h => (nomatch h), rfl, h⟩
  | d :: ds, e, h => by
    obtain ⟨y, e1, h1, h2, h3⟩ := hf d ds e h
    obtain ⟨ys, e2, g1, g2, g3, g4⟩ := compL_st hf h3
    refine ⟨y :: ys, e2, ?_, ?_, by simp [g3], g4⟩
    · rw [compL, h1]
      simp only [R.bind_ok]
      rw [g1]
      rfl
    · intro z hz
      rcases List.mem_cons.mp hz with rfl | hz
      · exact h2
      · exact g2 z hz
/-! ### small numbers -/
theorem bits_lt {i : Int} {n : Nat} (h : i.natAbs < 2 ^ n) : Builtin.Int.intBits i ≤ n := by
  unfold Builtin.Int.intBits
  by_cases h0 : i = 0
  · subst h0
    exact Nat.zero_le _
  · have : (i == 0) = false := by simpa using h0
    rw [this]
    simp only [Bool.false_eq_true, if_false]
    have := Nat.log2_lt (n := i.natAbs) (k := n) (by omega) |>.mpr h
    omega
theorem mulOk_bits {i j : Int} {n m : Nat} (hi : i.natAbs < 2 ^ n) (hj : j.natAbs < 2 ^ m) (h : n + m ≤ 134217728) : mulOk i j = true := by
  have a := bits_lt hi
  have b := bits_lt hj
  unfold mulOk Builtin.Int.intTooBig
  have e : bitsLine = 134217728 := by decide
  have : decide (((Builtin.Int.intBits i : Int) + (Builtin.Int.intBits j : Int)) > (bitsLine : Int)) = false := by
    rw [decide_eq_false_iff_not, e]
    omega
  rw [this]
  simp
theorem mulOk_l {i j : Int} (hi : i.natAbs < 2 ^ 64) : mulOk i j = true := by
  have a := bits_lt hi
  unfold mulOk
  have : decide (Builtin.Int.intBits i > shortFactorBits) = false := by
    rw [decide_eq_false_iff_not]
    show ¬ (_ > 64)
    omega
  rw [this]
  simp
theorem mulOk_r {i j : Int} (hj : j.natAbs < 2 ^ 64) : mulOk i j = true := by
  have a := bits_lt hj
  unfold mulOk
  have : decide (Builtin.Int.intBits j > shortFactorBits) = false := by
    rw [decide_eq_false_iff_not]
    show ¬ (_ > 64)
    omega
  rw [this]
  simp
theorem fdivOk_small {i j : Int} (h0 : j ≠ 0) (hj : j.natAbs < 2 ^ 9000) : fdivOk i j = true := by
  unfold fdivOk Builtin.divisionGoesByPylong
  have h1 : (j == 0) = false := by simpa using h0
  have h2 := Nat.log2_lt (n := j.natAbs) (k := 9000) (by omega) |>.mpr hj
  have h3 : ¬ (j.natAbs.log2 / 30 + 1 > 300) := by omega
  simp [h0, h3]
theorem natAbs_lt_of {i : Int} {n : Nat} (h : -(2 ^ n : Int) < i) (h' : i < (2 ^ n : Int)) : i.natAbs < 2 ^ n := by
  have : ((i.natAbs : Nat) : Int) < ((2 ^ n : Nat) : Int) := by
    rw [Int.natCast_pow]
    show ((i.natAbs : Nat) : Int) < (2 : Int) ^ n
    omega
  exact_mod_cast this
theorem fmod_lt {i j : Int} (h : 0 < j) : 0 ≤ i.fmod j ∧ i.fmod j < j := ⟨Int.fmod_nonneg_of_pos i h, Int.fmod_lt_of_pos i h⟩
theorem atI_pos {ds : List D} {i : Int} (h0 : 0 ≤ i) (h1 : i < ds.length) : ∃ d, L2.atI ds i = some d ∧ d ∈ ds := by
  have h : i.toNat < ds.length := by omega
  refine ⟨ds[i.toNat], ?_, List.getElem_mem h⟩
  unfold L2.atI L2.ixN
  rw [if_pos h0, if_pos h1]
  exact List.getElem?_eq_getElem h
theorem ixN_pos {n : Nat} {i : Int} (h0 : 0 ≤ i) (h1 : i < n) : L2.ixN n i = some i.toNat := by
  unfold L2.ixN
  rw [if_pos h0, if_pos h1]
theorem small62_of {j : Int} (h : 0 ≤ j) (h' : j < 2 ^ 62) : small62 j = true := by
  unfold small62
  exact decide_eq_true ⟨by omega, h'⟩
/-! ### the pot -/
def iD (ns : List Int) : List D := ns.map D.int
@[simp] theorem iD_frz {ns : List Int} : (iD ns).map frz1 = iD ns := by
  unfold iD
  rw [List.map_map]
  rfl
@[simp] theorem iD_len {ns : List Int} : (iD ns).length = ns.length := by simp [iD]
theorem iD_get {ns : List Int} {k : Nat} : (iD ns)[k]? = ns[k]?.map D.int := by simp [iD]
theorem iD_set {ns : List Int} {k : Nat} {i : Int} : (iD ns).set k (.int i) = iD (ns.set k i) := by simp [iD, List.map_set]
/-! ### arithmetic by the plain signs -/
@[simp] theorem ar_mulL {i j : Int} (h : -18446744073709551616 < i ∧ i < 18446744073709551616) : arith .mul i j = some (i * j) := ar_mul (mulOk_l (natAbs_lt_of (n := 64) (by omega) (by omega)))
@[simp] theorem ar_mulR {i j : Int} (h : -18446744073709551616 < j ∧ j < 18446744073709551616) : arith .mul i j = some (i * j) := ar_mul (mulOk_r (natAbs_lt_of (n := 64) (by omega) (by omega)))
@[simp] theorem ar_modP {i j : Int} (h : 0 < j) : arith .mod i j = some (i % j) := by rw [ar_mod (by omega), Int.fmod_eq_emod_of_nonneg i (by omega)]
def DL : Nat := 2 ^ 9000
theorem ar_fdivP {i j : Int} (h : 0 < j) (h' : j.natAbs < 2 ^ 9000) : arith .fdiv i j = some (i / j) := by rw [ar_fdiv (fdivOk_small (by omega) h'), Int.fdiv_eq_ediv_of_nonneg i (by omega)]
@[simp] theorem ar_fdivS {i j : Int} (h : 0 < j ∧ j < 18446744073709551616) : arith .fdiv i j = some (i / j) := ar_fdivP h.1 (Nat.lt_of_lt_of_le (natAbs_lt_of (n := 64) (by omega) (by omega)) (Nat.pow_le_pow_right (by decide) (by decide)))
@[simp] theorem ixN_P {n : Nat} {i : Int} (h : 0 ≤ i ∧ i < n) : L2.ixN n i = some i.toNat := ixN_pos h.1 h.2
@[simp] theorem LIM_eq : LIM = 16777216 := nr rfl
@[simp] theorem small62_ok {j : Int} (h : -4611686018427387904 ≤ j ∧ j < 4611686018427387904) : small62 j = true := by
  unfold small62
  exact decide_eq_true ⟨by omega, by omega⟩
@[simp] theorem ifT {α : Type} {p : Prop} [Decidable p] {a b : α} (h : p) : (if p then a else b) = a := if_pos h
@[simp] theorem ifF {α : Type} {p : Prop} [Decidable p] {a b : α} (h : ¬ p) : (if p then a else b) = b := if_neg h
@[simp] theorem iD_cons {i : Int} {ns : List Int} : iD (i :: ns) = .int i :: iD ns := nr rfl
@[simp] theorem iD_nil : iD [] = [] := nr rfl
@[simp] theorem dec_t {p : Prop} [Decidable p] (h : p) : decide p = true := decide_eq_true h
@[simp] theorem dec_f {p : Prop} [Decidable p] (h : ¬ p) : decide p = false := decide_eq_false h
@[simp] theorem gz {α : Type} {a : α} {l : List α} : (a :: l)[0]? = some a := nr rfl
@[simp] theorem gs {α : Type} {a : α} {l : List α} {i : Nat} : (a :: l)[i + 1]? = l[i]? := nr rfl
theorem gives_of {c : CR} {Q : Rv → List Pst → Prop} (h : ∀ P : Rv → List Pst → Prop, (∀ r ps, Q r ps → P r ps) → c.gives P) : c.gives Q := h Q fun _ _ h => h
/-! ### kinds -/
section
variable {C : Ct} {d : D} {ds ks vs : List D} {i : Int} {b : Bool} {x : Str} {cs : List String} {c : String}
@[simp] theorem k_non_int : isOne C .non "int" = some false := by rw [isOne] <;> simp
@[simp] theorem k_non_bool : isOne C .non "bool" = some false := by rw [isOne] <;> simp
@[simp] theorem k_non_str : isOne C .non "str" = some false := by rw [isOne] <;> simp
@[simp] theorem k_non_tuple : isOne C .non "tuple" = some false := by rw [isOne] <;> simp
@[simp] theorem k_non_list : isOne C .non "list" = some false := by rw [isOne] <;> simp
@[simp] theorem k_bl_int : isOne C (.bl b) "int" = some true := by rw [isOne] <;> simp
@[simp] theorem k_bl_bool : isOne C (.bl b) "bool" = some true := by rw [isOne] <;> simp
@[simp] theorem k_bl_str : isOne C (.bl b) "str" = some false := by rw [isOne] <;> simp
@[simp] theorem k_bl_tuple : isOne C (.bl b) "tuple" = some false := by rw [isOne] <;> simp
@[simp] theorem k_bl_list : isOne C (.bl b) "list" = some false := by rw [isOne] <;> simp
@[simp] theorem k_int_int : isOne C (.int i) "int" = some true := by rw [isOne] <;> simp
@[simp] theorem k_int_bool : isOne C (.int i) "bool" = some false := by rw [isOne] <;> simp
@[simp] theorem k_int_str : isOne C (.int i) "str" = some false := by rw [isOne] <;> simp
@[simp] theorem k_int_tuple : isOne C (.int i) "tuple" = some false := by rw [isOne] <;> simp
@[simp] theorem k_int_list : isOne C (.int i) "list" = some false := by rw [isOne] <;> simp
@[simp] theorem k_str_int : isOne C (.str x) "int" = some false := by rw [isOne] <;> simp
@[simp] theorem k_str_bool : isOne C (.str x) "bool" = some false := by rw [isOne] <;> simp
@[simp] theorem k_str_str : isOne C (.str x) "str" = some true := by rw [isOne] <;> simp
@[simp] theorem k_str_tuple : isOne C (.str x) "tuple" = some false := by rw [isOne] <;> simp
@[simp] theorem k_str_list : isOne C (.str x) "list" = some false := by rw [isOne] <;> simp
@[simp] theorem k_tup_int : isOne C (.tup ds) "int" = some false := by rw [isOne] <;> simp
@[simp] theorem k_tup_bool : isOne C (.tup ds) "bool" = some false := by rw [isOne] <;> simp
@[simp] theorem k_tup_str : isOne C (.tup ds) "str" = some false := by rw [isOne] <;> simp
@[simp] theorem k_tup_tuple : isOne C (.tup ds) "tuple" = some true := by rw [isOne] <;> simp
@[simp] theorem k_tup_list : isOne C (.tup ds) "list" = some false := by rw [isOne] <;> simp
@[simp] theorem k_lst_int : isOne C (.lst ds) "int" = some false := by rw [isOne] <;> simp
@[simp] theorem k_lst_bool : isOne C (.lst ds) "bool" = some false := by rw [isOne] <;> simp
@[simp] theorem k_lst_str : isOne C (.lst ds) "str" = some false := by rw [isOne] <;> simp
@[simp] theorem k_lst_tuple : isOne C (.lst ds) "tuple" = some false := by rw [isOne] <;> simp
@[simp] theorem k_lst_list : isOne C (.lst ds) "list" = some true := by rw [isOne] <;> simp
@[simp] theorem k_dic_int : isOne C (.dic ks vs) "int" = some false := by rw [isOne] <;> simp
@[simp] theorem k_dic_bool : isOne C (.dic ks vs) "bool" = some false := by rw [isOne] <;> simp
@[simp] theorem k_dic_str : isOne C (.dic ks vs) "str" = some false := by rw [isOne] <;> simp
@[simp] theorem k_dic_tuple : isOne C (.dic ks vs) "tuple" = some false := by rw [isOne] <;> simp
@[simp] theorem k_dic_list : isOne C (.dic ks vs) "list" = some false := by rw [isOne] <;> simp
def isAnyK (C : Ct) (d : D) (cs : List String) : Option Bool → Option Bool
    | some true => some true
    | some false => isAny C d cs
    | none => none
@[simp] theorem isAny_nil : isAny C d [] = some false := nr rfl
@[simp] theorem isAny_cons : isAny C d (c :: cs) = isAnyK C d cs (isOne C d c) := by
  rw [isAny]
  unfold isAnyK
  cases isOne C d c with
  | none => rfl
  | some b => cases b <;> rfl
@[simp] theorem isAnyK_t : isAnyK C d cs (some true) = some true := nr rfl
@[simp] theorem isAnyK_f : isAnyK C d cs (some false) = isAny C d cs := nr rfl
def isiO (e : Env) : Option Bool → R Rv
    | some b => .ok (.val (.bl b)) e
    | none => .bad
@[simp] theorem isiO_some {e : Env} : isiO e (some b) = .ok (.val (.bl b)) e := nr rfl
@[simp] theorem isiR_eq {e : Env} : isiR C cs d e = isiO e (isAny C d cs) := by
  unfold isiR isiO
  cases isAny C d cs <;> rfl
end
/-! ### comprehensions -/
section
variable {C : Ct} {x : Ex} {t : Tg} {k : Option Ex} {own : List Nat} {p : List D × List (Option Loc)} {e e' : Env} {sl new : List Sl} {i : Nat} {is : List Nat} {ls : List (Option Loc)} {ys : List D} {d : D}
@[simp] theorem compGo_eq : compGo C x t k own p e = if clearS e.sl own then (compL (compB C x t k own) p.1 ⟨wipeS e.sl own, e.ps⟩).bind (compK e.sl own p.2) else .bad := nr rfl
@[simp] theorem compK_eq : compK sl own ls ys e' = if ys.length ≤ LIM then .ok (.fresh ys) (Env.unlease ⟨backS sl e'.sl own, e'.ps⟩ ls) else .bad := nr rfl
def clr : Option Sl → Bool
  | some (.own _) => false
  | some (.lea _) => false
  | some _ => true
  | none => false
@[simp] theorem clr_no : clr (some .no) = true := nr rfl
@[simp] theorem clr_val : clr (some (.val d)) = true := nr rfl
@[simp] theorem clr_lnk : clr (some (.lnk i)) = true := nr rfl
@[simp] theorem clearS_nil : clearS sl [] = true := nr rfl
@[simp] theorem clearS_cons : clearS sl (i :: is) = (clr sl[i]? && clearS sl is) := by
  rw [clearS]
  congr 1
@[simp] theorem wipeS_nil : wipeS sl [] = sl := nr rfl
@[simp] theorem wipeS_cons : wipeS sl (i :: is) = (wipeS sl is).set i .no := nr rfl
@[simp] theorem backS_nil : backS sl new [] = new := nr rfl
@[simp] theorem backS_cons : backS sl new (i :: is) = (backS sl new is).set i (sl.getD i .no) := nr rfl
@[simp] theorem getD_z {α : Type} {a b : α} {l : List α} : (a :: l).getD 0 b = a := nr rfl
@[simp] theorem getD_s {α : Type} {a b : α} {l : List α} : (a :: l).getD (i + 1) b = l.getD i b := nr rfl
def compC (own : List Nat) (y : D) (e : Env) : R (Option D) := .ok (some y) ⟨wipeS e.sl own, e.ps⟩
@[simp] theorem compC_eq {y : D} : compC own y e = .ok (some y) ⟨wipeS e.sl own, e.ps⟩ := nr rfl
def compI (own : List Nat) (r : Rv) (e : Env) : R (Option D) := (e.item r).bind (compC own)
@[simp] theorem compI_eq {r : Rv} : compI own r e = (e.item r).bind (compC own) := nr rfl
def compH (C : Ct) (x : Ex) (own : List Nat) (b : Bool) (e : Env) : R (Option D) := if b then (evalE C x e).bind (compI own) else .ok none ⟨wipeS e.sl own, e.ps⟩
@[simp] theorem compH_t : compH C x own true e = (evalE C x e).bind (compI own) := nr rfl
@[simp] theorem compH_f : compH C x own false e = .ok none ⟨wipeS e.sl own, e.ps⟩ := nr rfl
def compJ (C : Ct) (x : Ex) (k : Option Ex) (own : List Nat) : Option Env → R (Option D)
  | some e => ((condR C k e).bind (compH C x own)).noex
  | none => .bad
@[simp] theorem compJ_some : compJ C x k own (some e) = ((condR C k e).bind (compH C x own)).noex := nr rfl
@[simp] theorem compB_eq : compB C x t k own d e = compJ C x k own (bindD t d e) := by
  unfold compB compF compJ
  cases bindD t d e <;> rfl
@[simp] theorem noex_ok {α : Type} {a : α} : (R.ok a e).noex = .ok a e := nr rfl
noncomputable def forBK (C : Ct) (b : List Sm) : Option Env → SR
  | some e => execSs C b e
  | none => .bad
@[simp] theorem forBK_some {b : List Sm} : forBK C b (some e) = execSs C b e := nr rfl
@[simp] theorem forB_e {b : List Sm} : forB C t b d e = forBK C b (bindD t d e) := by
  unfold forB forBK
  cases bindD t d e <;> rfl
end
end Fp.Z
/-! FpTake: the law's drawing of numbers. -/
namespace Fp.Z
open PySem Fp
def b_law_take : List Sm := [.ite (.and (.cmp .eq (.idx (.var 0) (.cst (.int 0))) (.cst (.int 0))) (.cmp .lt (.idx (.var 0) (.cst (.int 2))) (.blt "len" [.var 0]))) [.asg (.nm 2) (.idx (.var 0) (.idx (.var 0) (.cst (.int 2)))), .augI (.var 0) (.cst (.int 2)) (.cst (.int 1)), .ite (.cmp .ge (.var 2) (.bin .pow (.cst (.int 10)) (.cst (.int 18)))) [.setI (.var 0) (.cst (.int 0)) (.bin .sub (.var 2) (.bin .pow (.cst (.int 10)) (.cst (.int 18))))] [.asg (.nm 3) (.bin .mod (.blt "int" [.var 2]) (.cst (.int 2147483647))), .asg (.nm 3) (.bin .mod (.blt "int" [.bin .add (.bin .add (.bin .mul (.var 3) (.var 3)) (.bin .mul (.cst (.int 69621)) (.var 3))) (.bin .mul (.cst (.int 977)) (.idx (.var 0) (.cst (.int 2))))]) (.cst (.int 2147483629))), .setI (.var 0) (.cst (.int 1)) (.bin .mod (.blt "int" [.bin .add (.idx (.var 0) (.cst (.int 1))) (.var 3)]) (.cst (.int 2147483629)))]] [], .ite (.cmp .gt (.idx (.var 0) (.cst (.int 0))) (.cst (.int 0))) [.asg (.nm 4) (.bin .mod (.blt "int" [.idx (.var 0) (.cst (.int 0))]) (.var 1)), .setI (.var 0) (.cst (.int 0)) (.bin .fdiv (.idx (.var 0) (.cst (.int 0))) (.var 1)), .ret (.var 4)] [], .setI (.var 0) (.cst (.int 1)) (.bin .mod (.blt "int" [.bin .add (.bin .add (.bin .mul (.idx (.var 0) (.cst (.int 1))) (.cst (.int 48271))) (.bin .mul (.cst (.int 40692)) (.idx (.var 0) (.cst (.int 2))))) (.cst (.int 11))]) (.cst (.int 2147483647))), .setI (.var 0) (.cst (.int 1)) (.bin .mod (.blt "int" [.bin .add (.bin .mul (.idx (.var 0) (.cst (.int 1))) (.idx (.var 0) (.cst (.int 1)))) (.cst (.int 7))]) (.cst (.int 2147483629))), .ret (.bin .mod (.blt "int" [.bin .fdiv (.idx (.var 0) (.cst (.int 1))) (.cst (.int 8))]) (.var 1))]
def F_law_take : Fn := ⟨["pot", "many"], 5, b_law_take⟩
structure Pot (l : List D) : Prop where
  ex : ∃ (a b : Int) (c : Nat) (ns : List Int), l = .int a :: .int b :: .int (c : Int) :: iD ns ∧ 0 ≤ a ∧ 0 ≤ b ∧ b < 2147483647 ∧ 3 ≤ c ∧ c ≤ ns.length + 3 ∧ ns.length ≤ 63
theorem Pot.frz {l : List D} (h : Pot l) : l.map frz1 = l := by
  obtain ⟨a, b, c, ns, rfl, _⟩ := h.ex
  simp
theorem pow18 : (10 : Int) ^ (18 : Int).toNat = 1000000000000000000 := by decide
theorem take_spec {T : Tb} {n : Nat} (hT : T.fns "_law_take" = some F_law_take) {l : List D} (hp : Pot l) {many : Int} (h0 : 0 < many) (h1 : many < 2 ^ 200) :
    (callN T (n + 1) "_law_take" [.lnk 0, .val (.int many)] [.own l]).gives fun r ps => ∃ (i : Int) (l' : List D), r = .val (.int i) ∧ ps = [.own l'] ∧ 0 ≤ i ∧ i < many ∧ Pot l' := by
  apply gives_of
  intro P hP
  obtain ⟨a, b, c, ns, rfl, ha, hb, hb', hc, hc', hn⟩ := hp.ex
  rw [callN_eq hT ⟨rfl, by decide⟩]
  have hpw : arith .pow 10 18 = some 1000000000000000000 := by decide +kernel
  have hdv : ∀ i, arith .fdiv i many = some (i / many) := fun i => ar_fdivP h0 (Nat.lt_of_lt_of_le (natAbs_lt_of (n := 200) (by omega) h1) (Nat.pow_le_pow_right (by decide) (by decide)))
  have m0 : ∀ i : Int, 0 ≤ i % many := fun i => Int.emod_nonneg i (by omega)
  have m1 : ∀ i : Int, i % many < many := fun i => Int.emod_lt_of_pos i h0
  by_cases h : a = 0
  · subst h
    by_cases hl : c < ns.length + 3
    · have hx : ∃ x : Int, (D.int 0 :: D.int b :: D.int ↑c :: iD ns)[c]? = some (.int x) := by
        obtain ⟨k, rfl⟩ : ∃ k, c = k + 3 := ⟨c - 3, by omega⟩
        refine ⟨ns[k]'(by omega), ?_⟩
        simp [iD_get]
      obtain ⟨x, hx⟩ := hx
      by_cases hg : 1000000000000000000 ≤ x
      · by_cases hz : x = 1000000000000000000
        · subst hz
          simp (disch := omega) [F_law_take, b_law_take, hpw, dec_t, dec_f, hx]
          refine gives_ok (hP _ _ ⟨_, _, rfl, rfl, m0 _, m1 _, ⟨0, _, c + 1, ns, rfl, by omega, by omega, by omega, by omega, by omega, hn⟩⟩)
        · simp (disch := omega) [F_law_take, b_law_take, hpw, dec_t, dec_f, hx, hdv]
          refine gives_ok (hP _ _ ⟨_, _, rfl, rfl, m0 _, m1 _, ⟨_, b, c + 1, ns, rfl, Int.ediv_nonneg (by omega) (by omega), by omega, by omega, by omega, by omega, hn⟩⟩)
      · simp (disch := omega) [F_law_take, b_law_take, hpw, dec_t, dec_f, hx]
        refine gives_ok (hP _ _ ⟨_, _, rfl, rfl, m0 _, m1 _, ⟨0, _, c + 1, ns, rfl, by omega, by omega, by omega, by omega, by omega, hn⟩⟩)
    · simp (disch := omega) [F_law_take, b_law_take, hpw, dec_t, dec_f]
      refine gives_ok (hP _ _ ⟨_, _, rfl, rfl, m0 _, m1 _, ⟨0, _, c, ns, rfl, by omega, by omega, by omega, by omega, by omega, hn⟩⟩)
  · simp (disch := omega) [F_law_take, b_law_take, h, hpw, dec_t, dec_f, hdv]
    refine gives_ok (hP _ _ ⟨_, _, rfl, rfl, m0 _, m1 _, ⟨_, b, c, ns, rfl, Int.ediv_nonneg (by omega) (by omega), by omega, by omega, by omega, by omega, hn⟩⟩)
end Fp.Z
/-! FpBase: what is an integer, a polynomial. -/
namespace Fp.Z
open PySem Fp
/-! ### data that may be compared -/
def Sim : Nat → D → Prop
  | _, .non => True
  | _, .bl _ => True
  | _, .int _ => True
  | _, .str x => PyData.strOk x = true
  | k + 1, .tup ds => ∀ d ∈ ds, Sim k d
  | k + 1, .lst ds => ∀ d ∈ ds, Sim k d
  | _, _ => False
@[simp] theorem Sim_int {k : Nat} {i : Int} : Sim k (.int i) := by cases k <;> trivial
@[simp] theorem Sim_bl {k : Nat} {b : Bool} : Sim k (.bl b) := by cases k <;> trivial
@[simp] theorem Sim_non {k : Nat} : Sim k .non := by cases k <;> trivial
theorem Sim_str {k : Nat} {x : Str} (h : PyData.strOk x = true) : Sim k (.str x) := by cases k <;> exact h
theorem toPs_all {P : D → Prop} {f : PyData → Bool} {g : List PyData → Bool} (h0 : g [] = true) (hc : ∀ x xs, g (x :: xs) = (f x && g xs)) : ∀ {ds : List D}, (∀ d ∈ ds, f d.toP = true) → g (D.toPs ds) = true
  | [], _ => by rw [D.toPs]; exact h0
  | d :: ds, h => by
    rw [D.toPs, hc, h d (List.mem_cons_self ..), toPs_all (P := P) h0 hc fun d hd => h d (List.mem_cons_of_mem _ hd)]
    rfl
theorem pures_all : ∀ {ds : List D}, (∀ d ∈ ds, d.pure = true) → D.pures ds = true
  | [], _ => by rw [D.pures]
  | d :: ds, h => by
    rw [D.pures, h d (List.mem_cons_self ..), pures_all fun d hd => h d (List.mem_cons_of_mem _ hd)]
    rfl
theorem depths_all {k : Nat} : ∀ {ds : List D}, (∀ d ∈ ds, d.toP.depth ≤ k) → PyData.depthAll (D.toPs ds) ≤ k
  | [], _ => by rw [D.toPs, PyData.depthAll]; exact Nat.zero_le _
  | d :: ds, h => by
    have h1 := h d (List.mem_cons_self ..)
    have h2 := depths_all fun d hd => h d (List.mem_cons_of_mem _ hd)
    rw [D.toPs, PyData.depthAll]
    omega
theorem Sim.ok : ∀ {k : Nat} {d : D}, Sim k d → d.pure = true ∧ d.toP.canLay0 = true ∧ d.toP.depth ≤ k
  | k, .non, _ => by simp [D.pure, D.toP, PyData.canLay0, PyData.depth]
  | k, .bl _, _ => by simp [D.pure, D.toP, PyData.canLay0, PyData.depth]
  | k, .int _, _ => by simp [D.pure, D.toP, PyData.canLay0, PyData.depth]
  | k, .str x, h => by
    have h : PyData.strOk x = true := by cases k <;> exact h
    simp [D.pure, D.toP, PyData.canLay0, PyData.depth, h]
  | k + 1, .tup ds, h => by
    have ih : ∀ d ∈ ds, _ := fun d hd => Sim.ok (h d hd)
    refine ⟨?_, ?_, ?_⟩
    · rw [D.pure]
      exact pures_all fun d hd => (ih d hd).1
    · rw [D.toP, PyData.canLay0]
      exact toPs_all (P := fun _ => True) (by rw [PyData.canLayAll0]) (fun _ _ => by rw [PyData.canLayAll0]) fun d hd => (ih d hd).2.1
    · rw [D.toP, PyData.depth]
      exact Nat.succ_le_succ (depths_all fun d hd => (ih d hd).2.2)
  | k + 1, .lst ds, h => by
    have ih : ∀ d ∈ ds, _ := fun d hd => Sim.ok (h d hd)
    refine ⟨?_, ?_, ?_⟩
    · rw [D.pure]
      exact pures_all fun d hd => (ih d hd).1
    · rw [D.toP, PyData.canLay0]
      exact toPs_all (P := fun _ => True) (by rw [PyData.canLayAll0]) (fun _ _ => by rw [PyData.canLayAll0]) fun d hd => (ih d hd).2.1
    · rw [D.toP, PyData.depth]
      exact Nat.succ_le_succ (depths_all fun d hd => (ih d hd).2.2)
  | 0, .tup _, h => h.elim
  | 0, .lst _, h => h.elim
  | 0, .olst _, h => h.elim
  | 0, .dic _ _, h => h.elim
  | 0, .exc _ _, h => h.elim
  | 0, .klst _, h => h.elim
  | k + 1, .olst _, h => h.elim
  | k + 1, .dic _ _, h => h.elim
  | k + 1, .exc _ _, h => h.elim
  | k + 1, .klst _, h => h.elim
theorem Sim.eqOk {k : Nat} {d : D} (h : Sim k d) (hk : k ≤ 64) : d.eqOk = true := by
  obtain ⟨h1, h2, h3⟩ := h.ok
  unfold D.eqOk SeqAt.shaped
  rw [h1, h2, decide_eq_true (Nat.le_trans h3 hk)]
  rfl
theorem Sim.mono : ∀ {k m : Nat} {d : D}, Sim k d → k ≤ m → Sim m d
  | k, m, .non, _, _ => Sim_non
  | k, m, .bl _, _, _ => Sim_bl
  | k, m, .int _, _, _ => Sim_int
  | k, m, .str x, h, _ => Sim_str (by cases k <;> exact h)
  | k + 1, m + 1, .tup ds, h, hk => fun d hd => Sim.mono (h d hd) (by omega)
  | k + 1, m + 1, .lst ds, h, hk => fun d hd => Sim.mono (h d hd) (by omega)
  | k + 1, 0, .tup ds, h, hk => absurd hk (by omega)
  | k + 1, 0, .lst ds, h, hk => absurd hk (by omega)
  | 0, _, .tup _, h, _ => h.elim
  | 0, _, .lst _, h, _ => h.elim
  | 0, _, .olst _, h, _ => h.elim
  | 0, _, .dic _ _, h, _ => h.elim
  | 0, _, .exc _ _, h, _ => h.elim
  | 0, _, .klst _, h, _ => h.elim
  | k + 1, _, .olst _, h, _ => h.elim
  | k + 1, _, .dic _ _, h, _ => h.elim
  | k + 1, _, .exc _ _, h, _ => h.elim
  | k + 1, _, .klst _, h, _ => h.elim
theorem Sim.ints {k : Nat} {ns : List Int} : Sim (k + 1) (.tup (iD ns)) := fun d hd => by
  obtain ⟨i, _, rfl⟩ := List.mem_map.mp hd
  exact Sim_int
@[simp] theorem eqOk_ints {ns : List Int} : (D.tup (iD ns)).eqOk = true := (Sim.ints (k := 0)).eqOk (by decide)
@[simp] theorem eqOk_cons {i : Int} {ns : List Int} : (D.tup (.int i :: iD ns)).eqOk = true := eqOk_ints (ns := i :: ns)
@[simp] theorem eqOk_i {i : Int} : (D.int i).eqOk = true := (Sim_int (k := 0)).eqOk (by decide)
@[simp] theorem eqOk_b {b : Bool} : (D.bl b).eqOk = true := (Sim_bl (k := 0)).eqOk (by decide)
@[simp] theorem eqOk_n : D.non.eqOk = true := (Sim_non (k := 0)).eqOk (by decide)
@[simp] theorem eqOk_nil : (D.tup []).eqOk = true := eqOk_ints (ns := [])
/-! ### equality -/
theorem eqvs_refl : ∀ {ds : List PyData}, (∀ d ∈ ds, PyData.eqv d d = true) → PyData.eqvAll ds ds = true
  | [], _ => by rw [PyData.eqvAll]
  | d :: ds, h => by
    rw [PyData.eqvAll, h d (List.mem_cons_self ..), eqvs_refl fun d hd => h d (List.mem_cons_of_mem _ hd)]
    rfl
theorem eqv_toPs : ∀ {xs ys : List D}, (PyData.eqvAll (D.toPs xs) (D.toPs ys)) = (decide (xs.length = ys.length) && (xs.zip ys).all fun p => p.1.eqv p.2)
  | [], [] => by simp [D.toPs, PyData.eqvAll]
  | [], y :: ys => by simp [D.toPs, PyData.eqvAll]
  | x :: xs, [] => by simp [D.toPs, PyData.eqvAll]
  | x :: xs, y :: ys => by
    rw [D.toPs, D.toPs, PyData.eqvAll, eqv_toPs]
    simp only [List.length_cons, List.zip_cons_cons, List.all_cons, Nat.add_right_cancel_iff]
    show (PyData.eqv x.toP y.toP && _) = _
    rw [show PyData.eqv x.toP y.toP = x.eqv y from rfl]
    cases x.eqv y <;> simp
@[simp] theorem eqv_int {i j : Int} : (D.int i).eqv (.int j) = decide (i = j) := by
  show PyData.eqv (D.int i).toP (D.int j).toP = _
  rw [D.toP, D.toP, PyData.eqv]
  exact Bool.beq_eq_decide_eq _ _
@[simp] theorem eqv_tup {xs ys : List D} : (D.tup xs).eqv (.tup ys) = (decide (xs.length = ys.length) && (xs.zip ys).all fun p => p.1.eqv p.2) := by
  show PyData.eqv (D.tup xs).toP (D.tup ys).toP = _
  rw [D.toP, D.toP, PyData.eqv, eqv_toPs]
@[simp] theorem eqv_lst {xs ys : List D} : (D.lst xs).eqv (.lst ys) = (decide (xs.length = ys.length) && (xs.zip ys).all fun p => p.1.eqv p.2) := by
  show PyData.eqv (D.lst xs).toP (D.lst ys).toP = _
  rw [D.toP, D.toP, PyData.eqv, eqv_toPs]
@[simp] theorem eqv_bl {b c : Bool} : (D.bl b).eqv (.bl c) = decide (b = c) := by
  show PyData.eqv (D.bl b).toP (D.bl c).toP = _
  rw [D.toP, D.toP, PyData.eqv]
  exact Bool.beq_eq_decide_eq _ _
/-! ### integers -/
def b_is_integer : List Sm := [.ret (.and (.isi (.var 0) ["int"]) (.not (.isi (.var 0) ["bool"])))]
def F_is_integer : Fn := ⟨["value"], 1, b_is_integer⟩
def b_is_polynomial : List Sm := [.ite (.or (.not (.isi (.var 0) ["tuple"])) (.not (.blt "all" [.comp (.call "is_integer" [.var 2]) (.nm 2) (.ov (.var 0)) none [1, 2]]))) [.ret (.cst (.bl false))] [], .ret (.or (.cmp .eq (.var 0) (.tup [])) (.cmp .ne (.idx (.var 0) (.cst (.int 0))) (.cst (.int 0))))]
def F_is_polynomial : Fn := ⟨["told"], 3, b_is_polynomial⟩
def isI : D → Bool
  | .int _ => true
  | _ => false
/-- no error, no script -/
def ok1 : D → Bool
  | .exc _ _ => false
  | .klst _ => false
  | .olst _ => false
  | _ => true
theorem all_isI : ∀ {ds : List D}, ds.all isI = true → ∃ ns, ds = iD ns
  | [], _ => ⟨[], rfl⟩
  | d :: ds, h => by
    rw [List.all_cons, Bool.and_eq_true_iff] at h
    obtain ⟨ns, rfl⟩ := all_isI h.2
    cases d <;> first | exact ⟨_ :: ns, rfl⟩ | exact absurd h.1 (by simp [isI])
theorem isint_spec {T : Tb} {n : Nat} {f p : String} (hT : T.fns f = some ⟨[p], 1, b_is_integer⟩) {d : D} (hd : ok1 d = true) : callN T (n + 1) f [.val d] [] = .ok (.val (.bl (isI d))) [] := by
  rw [callN_eq hT ⟨rfl, Nat.le_refl _⟩]
  cases d <;> first | (cases hd; done) | simp (disch := omega) [b_is_integer, isI]
@[simp] theorem allBl_map2 {α : Type} {f : α → Bool} {xs : List α} : allBl (xs.map (frz1 ∘ fun x => .bl (f x))) = some (xs.map f) := allBl_map
/-- [f(a) for a in told] with told in slot 0 -/
theorem comp_spec {T : Tb} {n : Nat} {f : String} {g : D → Bool} {s : Sl} {ds : List D} (h : ∀ d ∈ ds, callN T n f [.val d] [] = .ok (.val (.bl (g d))) []) :
    compL (compB (T.ct n) (.call f [.var 2]) (.nm 2) none [1, 2]) ds ⟨[s, .no, .no], []⟩ = .ok (ds.map fun d => .bl (g d)) ⟨[s, .no, .no], []⟩ :=
  compL_map (g := fun d => .bl (g d)) fun d hd => by simp (disch := omega) [h d hd]
/-- a polynomial as the document has it -/
def polyB : D → Bool
  | .tup ds => ds.all isI && match ds with
    | .int i :: _ => !decide (i = 0)
    | _ => true
  | _ => false
theorem ispoly_spec {T : Tb} {n : Nat} (hT : T.fns "is_polynomial" = some F_is_polynomial) (hI : T.fns "is_integer" = some ⟨["value"], 1, b_is_integer⟩) {d : D} (hd : ok1 d = true) (hs : ∀ ds, d = .tup ds → ds.length ≤ 16777216 ∧ ∀ x ∈ ds, ok1 x = true) : callN T (n + 2) "is_polynomial" [.val d] [] = .ok (.val (.bl (polyB d))) [] := by
  rw [callN_eq hT ⟨rfl, by decide⟩]
  cases d with
  | tup ds =>
    obtain ⟨h1, h2⟩ := hs ds rfl
    have hc := comp_spec (T := T) (n := n + 1) (f := "is_integer") (g := isI) (s := .val (.tup ds)) (ds := ds) fun d hd => isint_spec hI (h2 d hd)
    cases hA : ds.all isI with
    | false => simp (disch := omega) [F_is_polynomial, b_is_polynomial, hc, h1, hA, polyB]
    | true =>
      obtain ⟨ns, rfl⟩ := all_isI hA
      rw [iD_len] at h1
      simp (disch := omega) [F_is_polynomial, b_is_polynomial, hc, h1, hA, polyB]

      cases ns with
      | nil => simp (disch := omega)
      | cons i ns => simp (disch := omega) [L2.atI]
  | _ => first | (cases hd; done) | simp (disch := omega) [F_is_polynomial, b_is_polynomial, polyB]
end Fp.Z
/-! FpLow: the law's fractions in lowest terms. -/
namespace Fp.Z
open PySem Fp
def b_law_low : List Sm := [.par [2, 3] [.blt "abs" [.var 0], .blt "abs" [.var 1]], .for_ (.nm 4) (.rng (.cst (.int 100000))) [.ite (.cmp .eq (.var 3) (.cst (.int 0))) [.brk] [], .par [2, 3] [.var 3, .bin .mod (.blt "int" [.var 2]) (.var 3)]], .asg (.nm 5) (.ite (.cmp .gt (.var 1) (.cst (.int 0))) (.cst (.int 1)) (.neg (.cst (.int 1)))), .ret (.tup [.bin .fdiv (.bin .mul (.var 5) (.var 0)) (.var 2), .bin .fdiv (.bin .mul (.var 5) (.var 1)) (.var 2)])]
def F_law_low : Fn := ⟨["top", "bottom"], 6, b_law_low⟩
theorem intsD_len {lo : Int} {n : Nat} : (intsD lo n).length = n := by simp [intsD]
/-- one turn of Euclid halves the product -/
theorem euclid_half {x y : Nat} (h : y ≤ x) (hy : y ≠ 0) : x % y < y ∧ 2 * (y * (x % y)) ≤ x * y := by
  have h1 : x % y < y := Nat.mod_lt _ (by omega)
  have h2 := Nat.div_add_mod x y
  have h3 : 1 ≤ x / y := (Nat.one_le_div_iff (by omega)).mpr h
  refine ⟨h1, ?_⟩
  have h4 : y * 1 ≤ y * (x / y) := Nat.mul_le_mul_left y h3
  have h5 : 2 * (x % y) ≤ x := by omega
  calc 2 * (y * (x % y)) = 2 * (x % y) * y := by rw [Nat.mul_comm y, Nat.mul_assoc]
    _ ≤ x * y := Nat.mul_le_mul_right y h5
def EuOk (len x y : Nat) : Prop := (y ≤ x ∧ x * y < 2 ^ len) ∨ (y < 2 ^ 9000 ∧ 18001 ≤ len)
theorem EuOk.step {len x y : Nat} (h : EuOk (len + 1) x y) (hy : y ≠ 0) : EuOk len y (x % y) := by
  have hm : x % y < y := Nat.mod_lt _ (by omega)
  left
  refine ⟨by omega, ?_⟩
  rcases h with ⟨h1, h2⟩ | ⟨h1, h2⟩
  · have := (euclid_half h1 hy).2
    rw [Nat.pow_succ] at h2
    omega
  · have a : y * (x % y) < 2 ^ 9000 * 2 ^ 9000 := Nat.mul_lt_mul'' h1 (by omega)
    have b : (2 : Nat) ^ 9000 * 2 ^ 9000 = 2 ^ 18000 := by rw [← Nat.pow_add]
    have c : (2 : Nat) ^ 18000 ≤ 2 ^ len := Nat.pow_le_pow_right (by decide) (by omega)
    omega
theorem EuOk.zero {x y : Nat} (h : EuOk 0 x y) : y = 0 := by
  rcases h with ⟨h1, h2⟩ | ⟨_, h2⟩
  · have : x * y = 0 := by omega
    rcases Nat.mul_eq_zero.mp this with h | h <;> omega
  · omega
theorem abs_eq {i : Int} : (if i < 0 then -i else i) = (i.natAbs : Int) := by
  split <;> omega
theorem low_loop {C : Ct} {top bottom : D} {g : Nat} (ds : List D) (x y : Nat) (s : Sl) (hg : Nat.gcd x y = g) (hk : EuOk ds.length x y) :
    ∃ s' z, forL (forB C (.nm 4) [.ite (.cmp .eq (.var 3) (.cst (.int 0))) [.brk] [], .par [2, 3] [.var 3, .bin .mod (.blt "int" [.var 2]) (.var 3)]]) ds ⟨[.val top, .val bottom, .val (.int x), .val (.int y), s, .no], []⟩
      = .nx ⟨[.val top, .val bottom, .val (.int g), .val (.int z), s', .no], []⟩ := by
  refine forL_sat (I := fun ds e => ∃ (x y : Nat) (s : Sl), e = ⟨[.val top, .val bottom, .val (.int x), .val (.int y), s, .no], []⟩ ∧ Nat.gcd x y = g ∧ EuOk ds.length x y)
    (Q := fun r => ∃ s' z, r = .nx ⟨[.val top, .val bottom, .val (.int g), .val (.int z), s', .no], []⟩) ?_ ?_ ds _ ⟨x, y, s, rfl, hg, hk⟩
  · rintro d ds _ ⟨x, y, s, rfl, hg, hk⟩
    by_cases hy : y = 0
    · subst hy
      refine .inr (.inl ⟨_, by simp (disch := omega); rfl, ?_⟩)
      rw [Nat.gcd_zero_right] at hg
      subst hg
      exact ⟨_, _, rfl⟩
    · refine .inl ⟨_, .inl (by simp (disch := omega); rfl), y, x % y, .val d, ?_, ?_, hk.step hy⟩
      · simp
      · rw [← hg, Nat.gcd_comm x y, Nat.gcd_rec y x, Nat.gcd_comm]
  · rintro _ ⟨x, y, s, rfl, hg, hk⟩
    have := hk.zero
    subst this
    rw [Nat.gcd_zero_right] at hg
    subst hg
    exact ⟨_, _, rfl⟩
/-- top and bottom without what they have in common -/
def lowD (t b : Int) : D := .tup [.int (t / (Int.gcd t b : Nat)), .int (b / (Int.gcd t b : Nat))]
theorem low_spec {T : Tb} {n : Nat} (hT : T.fns "_law_low" = some F_law_low) {t b : Int} (hb : 0 < b) (hb' : b < 2 ^ 9000) :
    callN T (n + 1) "_law_low" [.val (.int t), .val (.int b)] [] = .ok (.val (lowD t b)) [] := by
  rw [callN_eq hT ⟨rfl, by decide⟩]
  obtain ⟨m, rfl⟩ : ∃ m : Nat, b = m := ⟨b.toNat, by omega⟩
  have hbn : m < 2 ^ 9000 := by exact_mod_cast hb'
  obtain ⟨s', z, hl⟩ := low_loop (C := T.ct n) (top := .int t) (bottom := .int m) (intsD 0 100000) t.natAbs m .no rfl (.inr ⟨hbn, by rw [intsD_len]; decide⟩)
  have hg : 0 < Nat.gcd t.natAbs m := Nat.gcd_pos_of_pos_right _ (by omega)
  have hgb : Nat.gcd t.natAbs m ≤ m := Nat.le_of_dvd (by omega) (Nat.gcd_dvd_right ..)
  have hd : ∀ i, arith .fdiv i (Nat.gcd t.natAbs m : Nat) = some (i / (Nat.gcd t.natAbs m : Nat)) := fun i => ar_fdivP (by omega) (by rw [Int.natAbs_natCast]; omega)
  have hd1 := hd t
  have hd2 := hd m
  have e : Int.gcd t m = Nat.gcd t.natAbs m := rfl
  have hm : ¬ (m : Int) < 0 := by omega
  simp (disch := omega) [F_law_low, b_law_low, abs_eq, hl, hd1, hd2, lowD, e]
end Fp.Z
/-! FpSame: the law's comparison of equal data. -/
namespace Fp.Z
open PySem Fp
def b_law_same : List Sm := [.ite (.cmp .is (.var 1) (.cst .non)) [.ret (.cmp .is (.var 0) (.cst .non))] [], .ite (.isi (.var 1) ["bool", "str"]) [.ret (.and (.cmp .eq (.isi (.var 0) ["bool"]) (.isi (.var 1) ["bool"])) (.and (.isi (.var 0) ["bool", "str"]) (.cmp .eq (.var 0) (.var 1))))] [], .ite (.isi (.var 1) ["int"]) [.ret (.and (.isi (.var 0) ["int"]) (.and (.not (.isi (.var 0) ["bool"])) (.cmp .eq (.var 0) (.var 1))))] [], .ite (.or (.cmp .ne (.isi (.var 1) ["list"]) (.isi (.var 0) ["list"])) (.cmp .ne (.isi (.var 1) ["tuple"]) (.isi (.var 0) ["tuple"]))) [.ret (.cst (.bl false))] [], .ret (.and (.cmp .eq (.blt "len" [.var 0]) (.blt "len" [.var 1])) (.blt "all" [.comp (.call "_law_same" [.idx (.var 0) (.var 3), .idx (.var 1) (.var 3)]) (.nm 3) (.rng (.blt "len" [.var 1])) none [2, 3]]))]
def F_law_same : Fn := ⟨["got", "due"], 4, b_law_same⟩
theorem mem_intsD {lo : Int} {n : Nat} {d : D} (h : d ∈ intsD lo n) : ∃ j, j < n ∧ d = .int (lo + (j : Nat)) := by
  obtain ⟨j, hj, rfl⟩ := List.mem_map.mp h
  exact ⟨j, List.mem_range.mp hj, rfl⟩
/-- Sim, of bounded length -/
def Lv : Nat → D → Prop
  | _, .non => True
  | _, .bl _ => True
  | _, .int _ => True
  | _, .str x => PyData.strOk x = true
  | k + 1, .tup ds => ds.length ≤ 16777216 ∧ ∀ d ∈ ds, Lv k d
  | k + 1, .lst ds => ds.length ≤ 16777216 ∧ ∀ d ∈ ds, Lv k d
  | _, _ => False
@[simp] theorem Lv_int {k : Nat} {i : Int} : Lv k (.int i) := by cases k <;> trivial
@[simp] theorem Lv_bl {k : Nat} {b : Bool} : Lv k (.bl b) := by cases k <;> trivial
@[simp] theorem Lv_non {k : Nat} : Lv k .non := by cases k <;> trivial
theorem Lv.flat {k : Nat} {d : D} (h : Lv k d) : d.flat1 = true := by
  cases d <;> first | rfl | (cases k <;> exact h.elim)
theorem Lv.frz {k : Nat} {d : D} (h : Lv k d) : frz1 d = d := by
  cases d <;> first | rfl | (cases k <;> exact h.elim)
theorem Lv.ints {k : Nat} {ns : List Int} (h : ns.length ≤ 16777216) : Lv (k + 1) (.tup (iD ns)) := ⟨by rw [iD_len]; exact h, fun d hd => by
  obtain ⟨i, _, rfl⟩ := List.mem_map.mp hd
  exact Lv_int⟩
theorem eqv_refl_int {i : Int} : (D.int i).eqv (.int i) = true := by simp
theorem eqvS {x : Str} : (D.str x).eqv (.str x) = true := by
  show PyData.eqv (D.str x).toP (D.str x).toP = true
  rw [D.toP, PyData.eqv]
  exact beq_self_eq_true x
theorem same_spec {T : Tb} (hT : T.fns "_law_same" = some F_law_same) (k : Nat) : ∀ (d : D) (n : Nat), k < n → Lv k d → callN T n "_law_same" [.val d, .val d] [] = .ok (.val (.bl true)) [] := by
  induction k with
  | zero =>
    intro d n hk hl
    obtain ⟨n, rfl⟩ : ∃ m, n = m + 1 := ⟨n - 1, by omega⟩
    rw [callN_eq hT ⟨rfl, by decide⟩]
    cases d with
    | str x =>
      have e : (D.str x).eqOk = true := (Sim_str (k := 0) hl).eqOk (by decide)
      simp (disch := omega) [F_law_same, b_law_same, D.isNon, e, eqvS]
    | _ => first | exact hl.elim | simp (disch := omega) [F_law_same, b_law_same, D.isNon]
  | succ k ih =>
    intro d n hk hl
    obtain ⟨n, rfl⟩ : ∃ m, n = m + 1 := ⟨n - 1, by omega⟩
    rw [callN_eq hT ⟨rfl, by decide⟩]
    cases d with
    | str x =>
      have e : (D.str x).eqOk = true := (Sim_str (k := 0) hl).eqOk (by decide)
      simp (disch := omega) [F_law_same, b_law_same, D.isNon, e, eqvS]
    | tup ds =>
      obtain ⟨h1, h2⟩ := hl
      have hc := compL_map (f := compB (T.ct n) (.call "_law_same" [.idx (.var 0) (.var 3), .idx (.var 1) (.var 3)]) (.nm 3) none [2, 3]) (g := fun _ => .bl true) (e := ⟨[.val (.tup ds), .val (.tup ds), .no, .no], []⟩) (ds := intsD 0 ds.length) (fun d hd => by
        obtain ⟨j, hj, rfl⟩ := mem_intsD hd
        have ha : L2.atI ds (j : Int) = some ds[j] := L2.atI_nat (List.getElem?_eq_getElem hj)
        have ih := ih ds[j] n (by omega) (h2 _ (List.getElem_mem hj))
        simp (disch := omega) [ha, ih])
      simp (disch := omega) [F_law_same, b_law_same, D.isNon, hc, intsD_len]
    | lst ds =>
      obtain ⟨h1, h2⟩ := hl
      have hc := compL_map (f := compB (T.ct n) (.call "_law_same" [.idx (.var 0) (.var 3), .idx (.var 1) (.var 3)]) (.nm 3) none [2, 3]) (g := fun _ => .bl true) (e := ⟨[.val (.lst ds), .val (.lst ds), .no, .no], []⟩) (ds := intsD 0 ds.length) (fun d hd => by
        obtain ⟨j, hj, rfl⟩ := mem_intsD hd
        have ha : L2.atI ds (j : Int) = some ds[j] := L2.atI_nat (List.getElem?_eq_getElem hj)
        have ih := ih ds[j] n (by omega) (h2 _ (List.getElem_mem hj))
        simp (disch := omega) [ha, ih])
      simp (disch := omega) [F_law_same, b_law_same, D.isNon, hc, intsD_len]
    | _ => first | exact hl.elim | simp (disch := omega) [F_law_same, b_law_same, D.isNon]
theorem frz2 {xs : List D} : (xs.map frz1).map frz1 = xs.map frz1 := by
  rw [List.map_map]
  apply List.map_congr_left
  intro d _
  cases d <;> rfl
/-- two lists of one's own -/
theorem same_own {T : Tb} (hT : T.fns "_law_same" = some F_law_same) {k n : Nat} {xs ys zs : List D} (hk : k < n) (hx : xs.map frz1 = zs) (hy : ys.map frz1 = zs) (hl : Lv (k + 1) (.lst zs)) :
    callN T (n + 1) "_law_same" [.lnk 0, .lnk 1] [.own xs, .own ys] = .ok (.val (.bl true)) [.own zs, .own zs] := by
  rw [callN_eq hT ⟨rfl, by decide⟩]
  obtain ⟨h1, h2⟩ := hl
  have hz : zs.map frz1 = zs := by rw [← hx, frz2]
  have hc := compL_map (f := compB (T.ct n) (.call "_law_same" [.idx (.var 0) (.var 3), .idx (.var 1) (.var 3)]) (.nm 3) none [2, 3]) (g := fun _ => .bl true) (e := ⟨[.lnk 0, .lnk 1, .no, .no], [.own zs, .own zs]⟩) (ds := intsD 0 zs.length) (fun d hd => by
    obtain ⟨j, hj, rfl⟩ := mem_intsD hd
    have ha : ∀ e l, idxO e l zs j (some zs[j]) = .ok (.val zs[j]) e := fun e l => idxO_flat (h2 _ (List.getElem_mem hj)).flat
    have hb : zs[j]? = some zs[j] := List.getElem?_eq_getElem hj
    have ih := same_spec hT k zs[j] n hk (h2 _ (List.getElem_mem hj))
    simp (disch := omega) [ha, hb, ih])
  simp (disch := omega) [F_law_same, b_law_same, D.isNon, hx, hy, hz, hc, intsD_len]
end Fp.Z
/-! FpNum: numbers and broken polynomials, by the program and by the law. -/
namespace Fp.Z
open PySem Fp
def b_is_number : List Sm := [.ite (.or (.not (.isi (.var 0) ["tuple"])) (.or (.cmp .ne (.blt "len" [.var 0]) (.cst (.int 2))) (.not (.blt "all" [.comp (.call "is_integer" [.var 2]) (.nm 2) (.ov (.var 0)) none [1, 2]])))) [.ret (.cst (.bl false))] [], .ret (.and (.cmp .gt (.idx (.var 0) (.cst (.int 1))) (.cst (.int 0))) (.cmp .eq (.blt "gcd" [.idx (.var 0) (.cst (.int 0)), .idx (.var 0) (.cst (.int 1))]) (.cst (.int 1))))]
def F_is_number : Fn := ⟨["told"], 3, b_is_number⟩
def b_is_broken : List Sm := [.ite (.or (.not (.isi (.var 0) ["tuple"])) (.not (.blt "all" [.comp (.call "is_number" [.var 2]) (.nm 2) (.ov (.var 0)) none [1, 2]]))) [.ret (.cst (.bl false))] [], .ret (.or (.cmp .eq (.var 0) (.tup [])) (.cmp .ne (.idx (.var 0) (.cst (.int 0))) (.glo "ZERO")))]
def F_is_broken : Fn := ⟨["told"], 3, b_is_broken⟩
def b_law_is_number : List Sm := [.ite (.or (.not (.isi (.var 0) ["tuple"])) (.or (.cmp .ne (.blt "len" [.var 0]) (.cst (.int 2))) (.not (.blt "all" [.comp (.call "_law_is_integer" [.var 2]) (.nm 2) (.ov (.var 0)) none [1, 2]])))) [.ret (.cst (.bl false))] [], .ret (.and (.cmp .gt (.idx (.var 0) (.cst (.int 1))) (.cst (.int 0))) (.cmp .eq (.call "_law_low" [.idx (.var 0) (.cst (.int 0)), .idx (.var 0) (.cst (.int 1))]) (.var 0)))]
def F_law_is_number : Fn := ⟨["told"], 3, b_law_is_number⟩
def b_law_is_polynomial : List Sm := [.ite (.or (.not (.isi (.var 0) ["tuple"])) (.not (.blt "all" [.comp (.call "_law_is_integer" [.var 2]) (.nm 2) (.ov (.var 0)) none [1, 2]]))) [.ret (.cst (.bl false))] [], .ret (.or (.cmp .eq (.blt "len" [.var 0]) (.cst (.int 0))) (.cmp .ne (.idx (.var 0) (.cst (.int 0))) (.cst (.int 0))))]
def F_law_is_polynomial : Fn := ⟨["told"], 3, b_law_is_polynomial⟩
def b_law_is_broken : List Sm := [.ite (.or (.not (.isi (.var 0) ["tuple"])) (.not (.blt "all" [.comp (.call "_law_is_number" [.var 2]) (.nm 2) (.ov (.var 0)) none [1, 2]]))) [.ret (.cst (.bl false))] [], .ret (.or (.cmp .eq (.blt "len" [.var 0]) (.cst (.int 0))) (.cmp .ne (.idx (.idx (.var 0) (.cst (.int 0))) (.cst (.int 0))) (.cst (.int 0))))]
def F_law_is_broken : Fn := ⟨["told"], 3, b_law_is_broken⟩
def b_check_polynomial : List Sm := [.ite (.not (.call "is_polynomial" [.var 0])) [.nev] []]
def F_check_polynomial : Fn := ⟨["f"], 1, b_check_polynomial⟩
def b_degree : List Sm := [.exp (.call "check_polynomial" [.var 0]), .ret (.bin .sub (.blt "len" [.var 0]) (.cst (.int 1)))]
def F_degree : Fn := ⟨["f"], 1, b_degree⟩
/-- an item of what is judged -/
structure Nb (x : D) : Prop where
  o : ok1 x = true
  t : ∀ xs, x = .tup xs → xs.length ≤ 16777216 ∧ ∀ y ∈ xs, ok1 y = true ∧ ∀ i, y = .int i → i < 2 ^ 9000
def numB : D → Bool
  | .tup [.int a, .int b] => decide (0 < b) && decide (Int.gcd a b = 1)
  | _ => false
theorem isnum_spec {T : Tb} {n : Nat} (hT : T.fns "is_number" = some F_is_number) (hI : T.fns "is_integer" = some ⟨["value"], 1, b_is_integer⟩) {d : D} (hd : Nb d) : callN T (n + 2) "is_number" [.val d] [] = .ok (.val (.bl (numB d))) [] := by
  rw [callN_eq hT ⟨rfl, by decide⟩]
  cases d with
  | tup ds =>
    obtain ⟨h1, h2⟩ := hd.t ds rfl
    by_cases hl : ds.length = 2
    · have hc := comp_spec (T := T) (n := n + 1) (f := "is_integer") (g := isI) (s := .val (.tup ds)) (ds := ds) fun d hd => isint_spec hI (h2 d hd).1
      cases hA : ds.all isI with
      | false =>
        have e : numB (.tup ds) = false := by
          match ds, hl with
          | [x, y], _ => cases x <;> cases y <;> first | rfl | cases hA
        simp (disch := omega) [F_is_number, b_is_number, h1, hl, hc, hA, e]
      | true =>
        obtain ⟨ns, rfl⟩ := all_isI hA
        rw [iD_len] at h1 hl
        match ns, hl with
        | [i, j], _ =>
          by_cases h0 : 0 < j
          · simp (disch := omega) [F_is_number, b_is_number, hc, hA, h0, L2.atI, numB, -iD_cons]
            simp (disch := omega) [iD_cons, L2.atI]
            omega
          · simp (disch := omega) [F_is_number, b_is_number, hc, hA, h0, L2.atI, numB, -iD_cons]
            simp (disch := omega) [iD_cons, L2.atI]
    · have e : numB (.tup ds) = false := by
        match ds, hl with
        | [], _ => rfl
        | [x], _ => cases x <;> rfl
        | x :: y :: _ :: _, _ => cases x <;> cases y <;> rfl
        | [_, _], h => exact absurd rfl h
      simp (disch := omega) [F_is_number, b_is_number, h1, hl, e]
  | _ => first | (cases hd.o; done) | simp (disch := omega) [F_is_number, b_is_number, numB]
theorem fracEq {a b : Int} (hb : 0 < b) : (lowD a b).eqv (.tup [.int a, .int b]) = decide (Int.gcd a b = 1) := by
  unfold lowD
  have hg : 0 < Int.gcd a b := Int.gcd_pos_iff.mpr (.inr (by omega))
  by_cases h : Int.gcd a b = 1
  · simp [h]
  · have : b / (Int.gcd a b : Nat) ≠ b := by
      intro e
      have h2 : (2 : Int) ≤ (Int.gcd a b : Nat) := by omega
      have h3 := Int.ediv_lt_self_of_pos_of_ne_one hb (y := (Int.gcd a b : Nat)) (by omega)
      omega
    simp [h, this]
theorem lisnum_spec {T : Tb} {n : Nat} (hT : T.fns "_law_is_number" = some F_law_is_number) (hI : T.fns "_law_is_integer" = some ⟨["told"], 1, b_is_integer⟩) (hL : T.fns "_law_low" = some F_law_low) {d : D} (hd : Nb d) : callN T (n + 2) "_law_is_number" [.val d] [] = .ok (.val (.bl (numB d))) [] := by
  rw [callN_eq hT ⟨rfl, by decide⟩]
  cases d with
  | tup ds =>
    obtain ⟨h1, h2⟩ := hd.t ds rfl
    by_cases hl : ds.length = 2
    · have hc := comp_spec (T := T) (n := n + 1) (f := "_law_is_integer") (g := isI) (s := .val (.tup ds)) (ds := ds) fun d hd => isint_spec hI (h2 d hd).1
      cases hA : ds.all isI with
      | false =>
        have e : numB (.tup ds) = false := by
          match ds, hl with
          | [x, y], _ => cases x <;> cases y <;> first | rfl | cases hA
        simp (disch := omega) [F_law_is_number, b_law_is_number, h1, hl, hc, hA, e]
      | true =>
        obtain ⟨ns, rfl⟩ := all_isI hA
        rw [iD_len] at h1 hl
        match ns, hl with
        | [i, j], _ =>
          have hj : j < 2 ^ 9000 := (h2 (.int j) (by simp)).2 j rfl
          by_cases h0 : 0 < j
          · have hlow := low_spec (n := n) (t := i) hL h0 hj
            have he : (lowD i j).eqOk = true := eqOk_ints (ns := [_, _])
            have he2 : (D.tup [.int i, .int j]).eqOk = true := eqOk_ints (ns := [_, _])
            have hq := fracEq (a := i) h0
            simp (disch := omega) [F_law_is_number, b_law_is_number, hc, hA, h0, L2.atI, numB, -iD_cons]
            simp (disch := omega) [iD_cons, L2.atI, hlow, he, he2, hq]
          · simp (disch := omega) [F_law_is_number, b_law_is_number, hc, hA, h0, L2.atI, numB, -iD_cons]
            simp (disch := omega) [iD_cons, L2.atI]
    · have e : numB (.tup ds) = false := by
        match ds, hl with
        | [], _ => rfl
        | [x], _ => cases x <;> rfl
        | x :: y :: _ :: _, _ => cases x <;> cases y <;> rfl
        | [_, _], h => exact absurd rfl h
      simp (disch := omega) [F_law_is_number, b_law_is_number, h1, hl, e]
  | _ => first | (cases hd.o; done) | simp (disch := omega) [F_law_is_number, b_law_is_number, numB]
/-- what is judged -/
structure Bt (x : D) : Prop where
  o : ok1 x = true
  t : ∀ xs, x = .tup xs → xs.length ≤ 16777216 ∧ ∀ y ∈ xs, Nb y
theorem lispoly_spec {T : Tb} {n : Nat} (hT : T.fns "_law_is_polynomial" = some F_law_is_polynomial) (hI : T.fns "_law_is_integer" = some ⟨["told"], 1, b_is_integer⟩) {d : D} (hd : Bt d) : callN T (n + 2) "_law_is_polynomial" [.val d] [] = .ok (.val (.bl (polyB d))) [] := by
  rw [callN_eq hT ⟨rfl, by decide⟩]
  cases d with
  | tup ds =>
    obtain ⟨h1, h2⟩ := hd.t ds rfl
    have hc := comp_spec (T := T) (n := n + 1) (f := "_law_is_integer") (g := isI) (s := .val (.tup ds)) (ds := ds) fun d hd => isint_spec hI (h2 d hd).o
    cases hA : ds.all isI with
    | false => simp (disch := omega) [F_law_is_polynomial, b_law_is_polynomial, hc, h1, hA, polyB]
    | true =>
      obtain ⟨ns, rfl⟩ := all_isI hA
      rw [iD_len] at h1
      simp (disch := omega) [F_law_is_polynomial, b_law_is_polynomial, hc, h1, hA, polyB]
      cases ns with
      | nil => simp (disch := omega)
      | cons i ns => simp (disch := omega) [L2.atI]
  | _ => first | (cases hd.o; done) | simp (disch := omega) [F_law_is_polynomial, b_law_is_polynomial, polyB]
theorem all_num : ∀ {ds : List D}, ds.all numB = true → ∀ x ∈ ds, ∃ a b, x = .tup [.int a, .int b] ∧ 0 < b ∧ Int.gcd a b = 1 := by
  intro ds h x hx
  have := List.all_eq_true.mp h x hx
  unfold numB at this
  split at this
  · rename_i a b
    simp only [Bool.and_eq_true, decide_eq_true_eq] at this
    exact ⟨a, b, rfl, this.1, this.2⟩
  · cases this
def brokB : D → Bool
  | .tup ds => ds.all numB && match ds with
    | .tup (.int a :: _) :: _ => !decide (a = 0)
    | _ => true
  | _ => false
theorem eqOk_nums {ds : List D} (h : ds.all numB = true) : (D.tup ds).eqOk = true :=
  Sim.eqOk (k := 2) (fun x hx => by
    obtain ⟨a, b, rfl, _⟩ := all_num h x hx
    exact Sim.ints (ns := [a, b])) (by decide)
theorem isbrok_spec {T : Tb} {n : Nat} (hT : T.fns "is_broken" = some F_is_broken) (hN : T.fns "is_number" = some F_is_number) (hI : T.fns "is_integer" = some ⟨["value"], 1, b_is_integer⟩) (hZ : T.glo "ZERO" = some (.tup [.int 0, .int 1])) {d : D} (hd : Bt d) : callN T (n + 3) "is_broken" [.val d] [] = .ok (.val (.bl (brokB d))) [] := by
  rw [callN_eq hT ⟨rfl, by decide⟩]
  cases d with
  | tup ds =>
    obtain ⟨h1, h2⟩ := hd.t ds rfl
    have hc := comp_spec (T := T) (n := n + 2) (f := "is_number") (g := numB) (s := .val (.tup ds)) (ds := ds) fun d hd => isnum_spec hN hI (h2 d hd)
    cases hA : ds.all numB with
    | false => simp (disch := omega) [F_is_broken, b_is_broken, hc, h1, hA, brokB]
    | true =>
      have he := eqOk_nums hA
      simp (disch := omega) [F_is_broken, b_is_broken, hc, h1, hA, brokB, he]
      cases ds with
      | nil => simp (disch := omega)
      | cons x ds =>
        obtain ⟨a, b, rfl, hb, hg⟩ := all_num hA _ (List.mem_cons_self ..)
        have he2 : (D.tup [.int a, .int b]).eqOk = true := eqOk_ints (ns := [_, _])
        have he3 : (D.tup [.int 0, .int 1]).eqOk = true := eqOk_ints (ns := [_, _])
        simp (disch := omega) [L2.atI, hZ, he2, he3]
        by_cases h0 : a = 0
        · subst h0
          rw [Int.gcd_zero_left] at hg
          simp
          omega
        · simp [h0]
  | _ => first | (cases hd.o; done) | simp (disch := omega) [F_is_broken, b_is_broken, brokB]
theorem lisbrok_spec {T : Tb} {n : Nat} (hT : T.fns "_law_is_broken" = some F_law_is_broken) (hN : T.fns "_law_is_number" = some F_law_is_number) (hI : T.fns "_law_is_integer" = some ⟨["told"], 1, b_is_integer⟩) (hL : T.fns "_law_low" = some F_law_low) {d : D} (hd : Bt d) : callN T (n + 3) "_law_is_broken" [.val d] [] = .ok (.val (.bl (brokB d))) [] := by
  rw [callN_eq hT ⟨rfl, by decide⟩]
  cases d with
  | tup ds =>
    obtain ⟨h1, h2⟩ := hd.t ds rfl
    have hc := comp_spec (T := T) (n := n + 2) (f := "_law_is_number") (g := numB) (s := .val (.tup ds)) (ds := ds) fun d hd => lisnum_spec hN hI hL (h2 d hd)
    cases hA : ds.all numB with
    | false => simp (disch := omega) [F_law_is_broken, b_law_is_broken, hc, h1, hA, brokB]
    | true =>
      simp (disch := omega) [F_law_is_broken, b_law_is_broken, hc, h1, hA, brokB]
      cases ds with
      | nil => simp (disch := omega)
      | cons x ds =>
        obtain ⟨a, b, rfl, hb, hg⟩ := all_num hA _ (List.mem_cons_self ..)
        simp (disch := omega) [L2.atI]
  | _ => first | (cases hd.o; done) | simp (disch := omega) [F_law_is_broken, b_law_is_broken, brokB]
theorem big9000 {i : Int} (h : i ≤ 1000000000000000000000000000001) : i < 2 ^ 9000 := by
  have : (1000000000000000000000000000001 : Int) < 2 ^ 9000 := by
    have : (2 : Int) ^ 200 ≤ 2 ^ 9000 := by
      have := Nat.pow_le_pow_right (n := 2) (by decide) (show 200 ≤ 9000 by decide)
      exact_mod_cast this
    omega
  omega
theorem Nb.ofSc {x : D} (h : ok1 x = true) (h2 : ∀ xs, x ≠ .tup xs) : Nb x := ⟨h, fun xs e => absurd e (h2 xs)⟩
theorem Nb.ints {ns : List Int} (h : ns.length ≤ 16777216) (h2 : ∀ i ∈ ns, i ≤ 1000000000000000000000000000001) : Nb (.tup (iD ns)) := ⟨rfl, fun xs e => by
  cases e
  refine ⟨by rw [iD_len]; exact h, fun y hy => ?_⟩
  obtain ⟨i, hi, rfl⟩ := List.mem_map.mp hy
  exact ⟨rfl, fun j e => by cases e; exact big9000 (h2 i hi)⟩⟩
theorem Nb.ints' {p q : Int} (hp : p ≤ 1000000000000000000000000000001) (hq : q ≤ 1000000000000000000000000000001) : Nb (.tup [.int p, .int q]) := Nb.ints (ns := [p, q]) (by simp) fun i hi => by
  rcases List.mem_cons.mp hi with rfl | hi
  · exact hp
  · rw [List.mem_singleton.mp hi]
    exact hq
end Fp.Z
/-! FpArr: rows of integers: sums, products, values; plain facts. -/
namespace Fp.Z
open PySem Fp
/-! ### fractions -/
theorem gcd_pos_r {a b : Int} (hb : 0 < b) : 0 < Int.gcd a b := Int.gcd_pos_iff.mpr (.inr (by omega))
theorem low_parts {t b : Int} (hb : 0 < b) : ∃ u v g : Int, 0 < g ∧ t = g * u ∧ b = g * v ∧ 0 < v ∧ Int.gcd u v = 1 ∧ lowD t b = .tup [.int u, .int v] := by
  have hg := gcd_pos_r (a := t) hb
  refine ⟨t / (Int.gcd t b : Nat), b / (Int.gcd t b : Nat), (Int.gcd t b : Nat), by omega, ?_, ?_, ?_, Int.gcd_ediv_gcd_ediv_gcd hg, rfl⟩
  · exact (Int.mul_ediv_cancel' (Int.gcd_dvd_left ..)).symm
  · exact (Int.mul_ediv_cancel' (Int.gcd_dvd_right ..)).symm
  · exact Int.ediv_pos_of_pos_of_dvd hb (by omega) (Int.gcd_dvd_right ..)
theorem cop_dvd {u v w : Int} (h : Int.gcd u v = 1) (hd : v ∣ u * w) : v ∣ w := by
  have h1 : v.natAbs ∣ u.natAbs * w.natAbs := by rw [← Int.natAbs_mul]; exact Int.natAbs_dvd_natAbs.mpr hd
  have h2 : Nat.Coprime v.natAbs u.natAbs := by rw [Nat.coprime_comm]; exact h
  exact Int.natAbs_dvd_natAbs.mp (Nat.Coprime.dvd_of_dvd_mul_left h2 h1)
theorem frac_unique {u v u' v' : Int} (hv : 0 < v) (hv' : 0 < v') (h1 : Int.gcd u v = 1) (h2 : Int.gcd u' v' = 1) (h : u * v' = u' * v) : u = u' ∧ v = v' := by
  have d1 : v ∣ v' := by
    have : v ∣ u * v' := ⟨u', by rw [h]; exact Int.mul_comm _ _⟩
    exact cop_dvd h1 this
  have d2 : v' ∣ v := by
    have : v' ∣ u' * v := ⟨u, by rw [← h]; exact Int.mul_comm _ _⟩
    exact cop_dvd h2 this
  have e : v = v' := Int.dvd_antisymm (by omega) (by omega) d1 d2
  subst e
  exact ⟨Int.eq_of_mul_eq_mul_right (by omega) h, rfl⟩
theorem lowD_eq {t b t' b' : Int} (hb : 0 < b) (hb' : 0 < b') (h : t * b' = t' * b) : lowD t b = lowD t' b' := by
  obtain ⟨u, v, g, hg, ht, hbv, hv, hc, e⟩ := low_parts (t := t) hb
  obtain ⟨u', v', g', hg', ht', hbv', hv', hc', e'⟩ := low_parts (t := t') hb'
  rw [e, e']
  have : u * v' = u' * v := by
    have h1 : (g * g') * (u * v') = (g * g') * (u' * v) := by
      rw [ht, hbv', ht', hbv] at h
      grind
    exact Int.eq_of_mul_eq_mul_left (by have := Int.mul_pos hg hg'; omega) h1
  obtain ⟨rfl, rfl⟩ := frac_unique hv hv' hc hc' this
  rfl
/-! ### the size of a row -/
def nrm : List Int → Nat
  | [] => 0
  | a :: f => a.natAbs + nrm f
theorem nrm_mem : ∀ {f : List Int} {a : Int}, a ∈ f → a.natAbs ≤ nrm f
  | b :: f, a, h => by
    rcases List.mem_cons.mp h with rfl | h
    · simp [nrm]
    · have := nrm_mem h
      simp [nrm]
      omega
theorem nrm_set : ∀ {f : List Int} {k : Nat} {v : Int}, nrm (f.set k (f.getD k 0 + v)) ≤ nrm f + v.natAbs
  | [], k, v => by simp [nrm]
  | a :: f, 0, v => by simp [nrm]; omega
  | a :: f, k + 1, v => by
    have := nrm_set (f := f) (k := k) (v := v)
    simp [nrm] at this ⊢
    omega
@[simp] theorem nrm_rep {n : Nat} : nrm (List.replicate n 0) = 0 := by
  induction n with
  | zero => rfl
  | succ n ih => simp [List.replicate_succ, nrm, ih]
/-! ### products -/
def addc (found : List Int) (k : Nat) (v : Int) : List Int := found.set k (found.getD k 0 + v)
@[simp] theorem addc_len {f : List Int} {k : Nat} {v : Int} : (addc f k v).length = f.length := by simp [addc]
def inner (i : Nat) (a : Int) : List Int → Nat → List Int → List Int
  | acc, _, [] => acc
  | acc, j, b :: bs => inner i a (addc acc (i + j) (a * b)) (j + 1) bs
def outer (g : List Int) : List Int → Nat → List Int → List Int
  | acc, _, [] => acc
  | acc, i, a :: as => outer g (inner i a acc 0 g) (i + 1) as
def conv (f g : List Int) : List Int := outer g (List.replicate (f.length + g.length - 1) 0) 0 f
@[simp] theorem inner_len {i : Nat} {a : Int} : ∀ {bs acc : List Int} {j : Nat}, (inner i a acc j bs).length = acc.length
  | [], acc, j => rfl
  | b :: bs, acc, j => by rw [inner, inner_len]; simp
@[simp] theorem outer_len {g : List Int} : ∀ {as acc : List Int} {i : Nat}, (outer g acc i as).length = acc.length
  | [], acc, j => rfl
  | b :: bs, acc, j => by rw [outer, outer_len]; simp
@[simp] theorem conv_len {f g : List Int} : (conv f g).length = f.length + g.length - 1 := by simp [conv]
theorem inner_nrm {i : Nat} {a : Int} : ∀ {bs acc : List Int} {j : Nat}, nrm (inner i a acc j bs) ≤ nrm acc + a.natAbs * nrm bs
  | [], acc, j => by simp [inner, nrm]
  | b :: bs, acc, j => by
    have h1 := inner_nrm (i := i) (a := a) (bs := bs) (acc := addc acc (i + j) (a * b)) (j := j + 1)
    have h2 := nrm_set (f := acc) (k := i + j) (v := a * b)
    rw [Int.natAbs_mul] at h2
    rw [inner, nrm, Nat.mul_add]
    unfold addc at h1 ⊢
    omega
theorem outer_nrm {g : List Int} : ∀ {as acc : List Int} {i : Nat}, nrm (outer g acc i as) ≤ nrm acc + nrm as * nrm g
  | [], acc, i => by simp [outer, nrm]
  | a :: as, acc, i => by
    have h1 := outer_nrm (g := g) (as := as) (acc := inner i a acc 0 g) (i := i + 1)
    have h2 := inner_nrm (i := i) (a := a) (bs := g) (acc := acc) (j := 0)
    rw [outer, nrm, Nat.add_mul]
    omega
theorem conv_nrm {f g : List Int} : nrm (conv f g) ≤ nrm f * nrm g := by
  have := outer_nrm (g := g) (as := f) (acc := List.replicate (f.length + g.length - 1) 0) (i := 0)
  rw [nrm_rep] at this
  unfold conv
  omega
/-! ### values: the sum of f_k p^(n-k) q^k -/
def hom (p q : Int) : List Int → Int
  | [] => 0
  | a :: f => a * p ^ f.length + q * hom p q f
theorem hom_snoc {p q : Int} : ∀ {f : List Int} {a : Int}, hom p q (f ++ [a]) = hom p q f * p + a * q ^ f.length
  | [], a => by simp [hom]
  | b :: f, a => by
    simp only [List.cons_append, hom, hom_snoc (f := f), List.length_append, List.length_cons, List.length_nil]
    rw [Int.pow_succ, Int.pow_succ]
    grind
theorem hom_rep {p q : Int} {f : List Int} : ∀ {z : Nat}, hom p q (List.replicate z 0 ++ f) = q ^ z * hom p q f
  | 0 => by simp
  | z + 1 => by
    rw [List.replicate_succ, List.cons_append, hom, hom_rep, Int.pow_succ]
    grind
theorem hom_add {p q : Int} : ∀ {f g : List Int}, f.length = g.length → hom p q (List.zipWith (· + ·) f g) = hom p q f + hom p q g
  | [], [], _ => by simp [hom]
  | a :: f, b :: g, h => by
    have h : f.length = g.length := by simpa using h
    have e : (List.zipWith (· + ·) f g).length = g.length := by simp [h]
    simp only [List.zipWith_cons_cons, hom, hom_add h, e, h]
    grind
theorem hom_scale {p q k : Int} : ∀ {f : List Int}, hom p q (f.map fun a => k * a) = k * hom p q f
  | [] => by simp [hom]
  | a :: f => by
    simp only [List.map_cons, hom, hom_scale (f := f), List.length_map]
    grind
/-- the sum from the k-th weight on -/
def wsum (p q : Int) (n : Nat) : Nat → List Int → Int
  | _, [] => 0
  | k, a :: f => a * p ^ (n - k) * q ^ k + wsum p q n (k + 1) f
theorem wsum_hom {p q : Int} {n : Nat} : ∀ {f : List Int} {k : Nat}, k + f.length = n + 1 → wsum p q n k f = q ^ k * hom p q f
  | [], k, h => by simp [wsum, hom]
  | a :: f, k, h => by
    simp only [List.length_cons] at h
    have e : n - k = f.length := by omega
    rw [wsum, hom, wsum_hom (by omega), e, Int.pow_succ]
    grind
theorem wsum_addc {p q : Int} {n : Nat} : ∀ {f : List Int} {m k : Nat} {v : Int}, k < f.length → wsum p q n m (addc f k v) = wsum p q n m f + v * p ^ (n - (m + k)) * q ^ (m + k)
  | [], m, k, v, h => by simp at h
  | a :: f, m, 0, v, h => by
    simp only [addc, List.set_cons_zero, wsum, List.getD_cons_zero, Nat.add_zero]
    grind
  | a :: f, m, k + 1, v, h => by
    have ih := wsum_addc (p := p) (q := q) (n := n) (f := f) (m := m + 1) (k := k) (v := v) (by simpa using h)
    unfold addc at ih
    simp only [addc, List.set_cons_succ, wsum, List.getD_cons_succ, ih]
    have e : m + 1 + k = m + (k + 1) := by omega
    rw [e]
    grind
theorem inner_w {p q : Int} {n r : Nat} {i : Nat} {a : Int} : ∀ {bs acc : List Int} {j : Nat}, i + j + bs.length ≤ acc.length → i ≤ n → j + bs.length = r + 1 → wsum p q (n + r) 0 (inner i a acc j bs) = wsum p q (n + r) 0 acc + a * p ^ (n - i) * q ^ i * wsum p q r j bs
  | [], acc, j, h, hi, hj => by simp [inner, wsum]
  | b :: bs, acc, j, h, hi, hj => by
    simp only [List.length_cons] at h hj
    rw [inner, inner_w (by simp; omega) hi (by omega), wsum_addc (by omega), wsum]
    have e1 : n + r - (0 + (i + j)) = (n - i) + (r - j) := by omega
    rw [e1, Nat.zero_add, Int.pow_add, Int.pow_add]
    grind
theorem outer_w {p q : Int} {n r : Nat} {g : List Int} (hg : g.length = r + 1) : ∀ {as acc : List Int} {i : Nat}, i + as.length = n + 1 → acc.length = n + r + 1 → wsum p q (n + r) 0 (outer g acc i as) = wsum p q (n + r) 0 acc + wsum p q n i as * wsum p q r 0 g
  | [], acc, i, h, hl => by simp [outer, wsum]
  | a :: as, acc, i, h, hl => by
    simp only [List.length_cons] at h
    rw [outer, outer_w hg (by omega) (by simp [hl]), inner_w (by omega) (by omega) (by omega), wsum]
    grind
theorem wsum_rep {p q : Int} {n : Nat} : ∀ {m k : Nat}, wsum p q n k (List.replicate m 0) = 0
  | 0, k => rfl
  | m + 1, k => by rw [List.replicate_succ, wsum, wsum_rep]; simp
theorem hom_conv {p q : Int} {f g : List Int} (hf : f ≠ []) (hg : g ≠ []) : hom p q (conv f g) = hom p q f * hom p q g := by
  obtain ⟨n, hn⟩ : ∃ n, f.length = n + 1 := ⟨f.length - 1, by have := List.length_pos_iff.mpr hf; omega⟩
  obtain ⟨r, hr⟩ : ∃ r, g.length = r + 1 := ⟨g.length - 1, by have := List.length_pos_iff.mpr hg; omega⟩
  have h1 := wsum_hom (p := p) (q := q) (n := n + r) (f := conv f g) (k := 0) (by simp; omega)
  have h2 := wsum_hom (p := p) (q := q) (n := n) (f := f) (k := 0) (by omega)
  have h3 := wsum_hom (p := p) (q := q) (n := r) (f := g) (k := 0) (by omega)
  have h4 := outer_w (p := p) (q := q) (n := n) hr (as := f) (acc := List.replicate (f.length + g.length - 1) 0) (i := 0) (by omega) (by simp; omega)
  rw [wsum_rep] at h4
  simp at h1 h2 h3
  unfold conv at h1 ⊢
  rw [← h1, h4, h2, h3]
  simp
end Fp.Z
/-! FpPoly: the program's sums, products and values of polynomials. -/
namespace Fp.Z
open PySem Fp
def b_lowest : List Sm := [.asg (.nm 2) (.blt "gcd" [.var 0, .var 1]), .ite (.cmp .lt (.var 1) (.cst (.int 0))) [.asg (.nm 2) (.neg (.var 2))] [], .ret (.tup [.bin .fdiv (.var 0) (.var 2), .bin .fdiv (.var 1) (.var 2)])]
def F_lowest : Fn := ⟨["top", "bottom"], 3, b_lowest⟩
def b_check_number : List Sm := [.ite (.not (.call "is_number" [.var 0])) [.nev] []]
def F_check_number : Fn := ⟨["told"], 1, b_check_number⟩
def b_check_integer : List Sm := [.ite (.or (.not (.call "is_integer" [.var 0])) (.and (.cmp .isnot (.var 1) (.cst .non)) (.cmp .lt (.var 0) (.var 1)))) [.nev] []]
def F_check_integer : Fn := ⟨["told", "least"], 2, b_check_integer⟩
def b_stripped : List Sm := [.asg (.nm 2) (.cst (.int 0)), .whl (.and (.cmp .lt (.var 2) (.blt "len" [.var 0])) (.cmp .eq (.idx (.var 0) (.var 2)) (.var 1))) [.asg (.nm 2) (.bin .add (.var 2) (.cst (.int 1)))], .ret (.blt "tuple" [.slc (.var 0) (some (.var 2)) none])]
def F_stripped : Fn := ⟨["row", "nought"], 3, b_stripped⟩
def b_value_of : List Sm := [.asg (.tp [.nm 2, .nm 3]) (.tup [.cst (.int 0), .cst (.int 1)]), .for_ (.tp [.nm 4, .nm 5]) (.enu (.var 0)) [.asg (.nm 3) (.ite (.cmp .gt (.var 4) (.cst (.int 0))) (.bin .mul (.var 3) (.idx (.var 1) (.cst (.int 1)))) (.cst (.int 1))), .asg (.nm 2) (.bin .add (.bin .mul (.var 2) (.idx (.var 1) (.cst (.int 0)))) (.bin .mul (.var 5) (.var 3)))], .ret (.call "lowest" [.var 2, .var 3])]
def F_value_of : Fn := ⟨["f", "x"], 6, b_value_of⟩
def b_value : List Sm := [.exp (.call "check_polynomial" [.var 0]), .exp (.call "check_number" [.var 1]), .ret (.call "value_of" [.var 0, .var 1])]
def F_value : Fn := ⟨["f", "x"], 2, b_value⟩
def b_padded : List Sm := [.ret (.bin .add (.bin .mul (.tup [.var 2]) (.bin .sub (.var 1) (.blt "len" [.var 0]))) (.blt "tuple" [.var 0]))]
def F_padded : Fn := ⟨["row", "many", "nought"], 3, b_padded⟩
def b_sum_of : List Sm := [.asg (.nm 2) (.blt "max" [.blt "len" [.var 0], .blt "len" [.var 1]]), .ret (.call "stripped" [.comp (.bin .add (.var 4) (.var 5)) (.tp [.nm 4, .nm 5]) (.zip (.call "padded" [.var 0, .var 2, .cst (.int 0)]) (.call "padded" [.var 1, .var 2, .cst (.int 0)])) none [3, 4, 5], .cst (.int 0)])]
def F_sum_of : Fn := ⟨["f", "g"], 6, b_sum_of⟩
def b_times_of_two : List Sm := [.asg (.nm 2) (.bin .mul (.lst [.cst (.int 0)]) (.blt "max" [.cst (.int 0), .bin .sub (.bin .add (.blt "len" [.var 0]) (.blt "len" [.var 1])) (.cst (.int 1))])), .for_ (.tp [.nm 3, .nm 4]) (.enu (.var 0)) [.for_ (.tp [.nm 5, .nm 6]) (.enu (.var 1)) [.setI (.var 2) (.bin .add (.var 3) (.var 5)) (.bin .add (.idx (.var 2) (.bin .add (.var 3) (.var 5))) (.bin .mul (.var 4) (.var 6)))]], .ret (.ite (.and (.cmp .ne (.var 0) (.tup [])) (.cmp .ne (.var 1) (.tup []))) (.blt "tuple" [.var 2]) (.tup []))]
def F_times_of_two : Fn := ⟨["f", "g"], 7, b_times_of_two⟩
def b_scaled_by : List Sm := [.ret (.ite (.cmp .ne (.var 1) (.cst (.int 0))) (.blt "tuple" [.comp (.bin .mul (.var 1) (.var 3)) (.nm 3) (.ov (.var 0)) none [2, 3]]) (.tup []))]
def F_scaled_by : Fn := ⟨["f", "k"], 4, b_scaled_by⟩
def b_plus : List Sm := [.exp (.call "check_polynomial" [.var 0]), .exp (.call "check_polynomial" [.var 1]), .ret (.call "sum_of" [.var 0, .var 1])]
def F_plus : Fn := ⟨["f", "g"], 2, b_plus⟩
def b_times : List Sm := [.exp (.call "check_polynomial" [.var 0]), .exp (.call "check_polynomial" [.var 1]), .ret (.call "times_of_two" [.var 0, .var 1])]
def F_times : Fn := ⟨["f", "g"], 2, b_times⟩
def b_scaled : List Sm := [.exp (.call "check_polynomial" [.var 0]), .exp (.call "check_integer" [.var 1, .cst .non]), .ret (.call "scaled_by" [.var 0, .var 1])]
def F_scaled : Fn := ⟨["f", "k"], 2, b_scaled⟩
def b_power : List Sm := [.exp (.call "check_polynomial" [.var 0]), .exp (.call "check_integer" [.var 1, .cst (.int 0)]), .ite (.cmp .gt (.var 1) (.cst (.int 6))) [.nev] [], .asg (.nm 2) (.tup [.cst (.int 1)]), .for_ (.nm 3) (.rng (.var 1)) [.asg (.nm 2) (.call "times_of_two" [.var 2, .var 0])], .ret (.var 2)]
def F_power : Fn := ⟨["f", "k"], 4, b_power⟩
variable {T : Tb} {n : Nat}
def PolyL (f : List Int) : Prop := ∀ a r, f = a :: r → a ≠ 0
theorem PolyL.poly {f : List Int} (h : PolyL f) : polyB (.tup (iD f)) = true := by
  unfold polyB
  rw [Bool.and_eq_true_iff]
  refine ⟨List.all_eq_true.mpr fun x hx => ?_, ?_⟩
  · obtain ⟨i, _, rfl⟩ := List.mem_map.mp hx
    rfl
  · cases f with
    | nil => rfl
    | cons a f => simp [h a f rfl]
theorem ok1_iD {f : List Int} : ∀ x ∈ iD f, ok1 x = true := fun x hx => by
  obtain ⟨i, _, rfl⟩ := List.mem_map.mp hx
  rfl
/-- what the program's checks lean on -/
structure ChkOk (T : Tb) : Prop where
  is_integer : T.fns "is_integer" = some ⟨["value"], 1, b_is_integer⟩
  is_polynomial : T.fns "is_polynomial" = some F_is_polynomial
  check_polynomial : T.fns "check_polynomial" = some F_check_polynomial
theorem checkpoly_spec (h : ChkOk T) {f : List Int} (hf : PolyL f) (hl : f.length ≤ 16777216) : callN T (n + 3) "check_polynomial" [.val (.tup (iD f))] [] = .ok (.val .non) [] := by
  have e1 := ispoly_spec (n := n) h.is_polynomial h.is_integer (d := .tup (iD f)) rfl fun xs e => by cases e; exact ⟨by rw [iD_len]; exact hl, ok1_iD⟩
  rw [hf.poly] at e1
  rw [callN_eq h.check_polynomial ⟨rfl, by decide⟩]
  simp (disch := omega) [F_check_polynomial, b_check_polynomial, e1]
theorem checknum_spec (hT : T.fns "check_number" = some F_check_number) (hN : T.fns "is_number" = some F_is_number) (hI : T.fns "is_integer" = some ⟨["value"], 1, b_is_integer⟩) {p q : Int} (h : numB (.tup [.int p, .int q]) = true) (hp : p ≤ 1000000000000000000000000000001) (hq : q ≤ 1000000000000000000000000000001) : callN T (n + 3) "check_number" [.val (.tup [.int p, .int q])] [] = .ok (.val .non) [] := by
  have e1 := isnum_spec (n := n) hN hI (d := .tup [.int p, .int q]) (Nb.ints' hp hq)
  rw [h] at e1
  rw [callN_eq hT ⟨rfl, by decide⟩]
  simp (disch := omega) [F_check_number, b_check_number, e1]
theorem lowest_spec (hT : T.fns "lowest" = some F_lowest) {t b : Int} (hb : 0 < b) (hb' : b < 2 ^ 9000) : callN T (n + 1) "lowest" [.val (.int t), .val (.int b)] [] = .ok (.val (lowD t b)) [] := by
  rw [callN_eq hT ⟨rfl, by decide⟩]
  have hg := gcd_pos_r (a := t) hb
  have hgb : Int.gcd t b ≤ b.natAbs := Nat.le_of_dvd (by omega) (Nat.gcd_dvd_right ..)
  have hbn : b.natAbs < 2 ^ 9000 := natAbs_lt_of (n := 9000) (by omega) hb'
  have hd : ∀ i, arith .fdiv i (Int.gcd t b : Nat) = some (i / (Int.gcd t b : Nat)) := fun i => ar_fdivP (by omega) (by rw [Int.natAbs_natCast]; omega)
  have hd1 := hd t
  have hd2 := hd b
  simp (disch := omega) [F_lowest, b_lowest, hd1, hd2, lowD]
/-! ### without noughts ahead -/
def lead : List Int → Nat
  | [] => 0
  | a :: f => if a = 0 then lead f + 1 else 0
def trim (f : List Int) : List Int := f.drop (lead f)
theorem lead_le : ∀ {f : List Int}, lead f ≤ f.length
  | [] => by simp [lead]
  | a :: f => by
    have := lead_le (f := f)
    unfold lead
    split <;> simp <;> omega
theorem trim_poly : ∀ {f : List Int}, PolyL (trim f)
  | [] => fun a r e => by simp [trim, lead] at e
  | a :: f => fun b r e => by
    by_cases h : a = 0
    · have : trim (a :: f) = trim f := by simp [trim, lead, h]
      rw [this] at e
      exact trim_poly b r e
    · simp [trim, lead, h] at e
      rw [← e.1]
      exact h
theorem cutD_from {xs : List D} {k : Nat} (h : k ≤ xs.length) : cutD xs (some (k : Int)) none = xs.drop k := by
  unfold cutD
  rw [HT.sIx_nat, HT.sIx_none, Nat.min_eq_left h]
  exact List.take_of_length_le (by simp)
theorem iD_drop {f : List Int} {k : Nat} : (iD f).drop k = iD (f.drop k) := by simp [iD, List.map_drop]
theorem whE {c : Env → R Bool} {b : Env → SR} {e e1 e2 : Env} {r : SR} (hc : c e = .ok true e1) (hb : b e1 = .nx e2) (h : whileE c b e2 = r) (hr : r ≠ .bad) : whileE c b e = r := by
  apply whileE_unf hr
  rw [hc]
  simp only [R.st_ok, if_true, hb, SR.turn_nx]
  exact h
theorem whF {c : Env → R Bool} {b : Env → SR} {e e1 : Env} (hc : c e = .ok false e1) : whileE c b e = .nx e1 := by
  refine whileE_unf (r := .nx e1) (fun h => nomatch h) ?_
  rw [hc]
  simp
theorem iD_at {pre f : List Int} {a : Int} : (iD (pre ++ a :: f))[pre.length]? = some (.int a) := by
  simp [iD]
theorem strip_loop {C : Ct} : ∀ (f pre : List Int), (pre ++ f).length ≤ 16777216 →
    whileE (evalT C (.and (.cmp .lt (.var 2) (.blt "len" [.var 0])) (.cmp .eq (.idx (.var 0) (.var 2)) (.var 1)))) (execSs C [.asg (.nm 2) (.bin .add (.var 2) (.cst (.int 1)))]) ⟨[.lnk 0, .val (.int 0), .val (.int pre.length)], [.own (iD (pre ++ f))]⟩ =
    .nx ⟨[.lnk 0, .val (.int 0), .val (.int (pre.length + lead f : Nat))], [.own (iD (pre ++ f))]⟩
  | [], pre, h => by
    apply whF
    simp (disch := omega) [lead]
  | a :: f, pre, h => by
    have hi := iD_at (pre := pre) (f := f) (a := a)
    have hl : (iD (pre ++ a :: f)).length = pre.length + (f.length + 1) := by simp
    simp only [List.length_append, List.length_cons] at h
    by_cases h0 : a = 0
    · subst h0
      refine whE (e1 := ⟨[.lnk 0, .val (.int 0), .val (.int pre.length)], [.own (iD (pre ++ 0 :: f))]⟩) (e2 := ⟨[.lnk 0, .val (.int 0), .val (.int ((pre ++ [0]).length : Nat))], [.own (iD ((pre ++ [0]) ++ f))]⟩) ?_ ?_ ((strip_loop f (pre ++ [0]) (by simp; omega)).trans ?_) (fun h => nomatch h)
      · simp (disch := omega) [hi, hl, -iD_len, -getElem?_pos]
      · simp (disch := omega)
      · simp [lead]
        omega
    · rw [show lead (a :: f) = 0 by simp [lead, h0]]
      apply whF
      simp (disch := omega) [hi, hl, -iD_len, h0, -getElem?_pos]
theorem stripped_spec (hT : T.fns "stripped" = some F_stripped) {f : List Int} (hl : f.length ≤ 16777216) : callN T (n + 1) "stripped" [.lnk 0, .val (.int 0)] [.own (iD f)] = .ok (.val (.tup (iD (trim f)))) [.own (iD f)] := by
  rw [callN_eq hT ⟨rfl, by decide⟩]
  have hw := strip_loop (C := T.ct n) f [] (by simpa using hl)
  have hc := cutD_from (xs := iD f) (k := lead f) (by rw [iD_len]; exact lead_le)
  simp only [List.nil_append, List.length_nil, Nat.zero_add, show ((0 : Nat) : Int) = 0 from rfl] at hw
  simp (disch := omega) [F_stripped, b_stripped, hw, hc, iD_drop, trim]
/-! ### values -/
theorem enums_cons {d : D} {ds : List D} {k : Nat} : enums (d :: ds) k = .tup [.int (k : Nat), d] :: enums ds (k + 1) := rfl
theorem pow_small {q : Int} {m : Nat} (h0 : 0 < q) (h1 : q < 1048576) (hm : m ≤ 300) : 0 < q ^ m ∧ q ^ m < 2 ^ 6000 := by
  refine ⟨Int.pow_pos h0, ?_⟩
  obtain ⟨k, rfl⟩ : ∃ k : Nat, q = k := ⟨q.toNat, by omega⟩
  have h2 : k ^ m ≤ (2 ^ 20) ^ m := Nat.pow_le_pow_left (by omega) m
  have h3 : ((2 : Nat) ^ 20) ^ m ≤ 2 ^ 6000 := by
    rw [← Nat.pow_mul]
    exact Nat.pow_le_pow_right (by decide) (by omega)
  have h4 : k ^ m < 2 ^ 6000 := by
    by_cases hm0 : m = 0
    · subst hm0
      exact Nat.one_lt_two_pow (by decide)
    · have : k ^ m < (2 ^ 20) ^ m := Nat.pow_lt_pow_left (by omega) hm0
      omega
  exact_mod_cast h4
/-- mulOk of a coefficient and a power -/
theorem ar_mulB {i j : Int} {a b : Nat} (hi : i.natAbs < 2 ^ a) (hj : j.natAbs < 2 ^ b) (h : a + b ≤ 134217728) : arith .mul i j = some (i * j) := ar_mul (mulOk_bits hi hj h)
theorem value_loop {C : Ct} {p q : Int} (hp : -1048576 < p ∧ p < 1048576) (hq : 0 < q ∧ q < 1048576) {F : D} : ∀ (f pre : List Int) (s4 s5 : Sl), pre ≠ [] → (pre ++ f).length ≤ 300 → (∀ a ∈ f, a.natAbs < 2 ^ 9000) →
    ∃ s4' s5', forL (forB C (.tp [.nm 4, .nm 5]) [.asg (.nm 3) (.ite (.cmp .gt (.var 4) (.cst (.int 0))) (.bin .mul (.var 3) (.idx (.var 1) (.cst (.int 1)))) (.cst (.int 1))), .asg (.nm 2) (.bin .add (.bin .mul (.var 2) (.idx (.var 1) (.cst (.int 0)))) (.bin .mul (.var 5) (.var 3)))])
      (enums (iD f) pre.length) ⟨[.val F, .val (.tup [.int p, .int q]), .val (.int (hom p q pre)), .val (.int (q ^ (pre.length - 1))), s4, s5], []⟩ = .nx ⟨[.val F, .val (.tup [.int p, .int q]), .val (.int (hom p q (pre ++ f))), .val (.int (q ^ ((pre ++ f).length - 1))), s4', s5'], []⟩
  | [], pre, s4, s5, h0, hl, hb => ⟨s4, s5, by simp [enums, forL]⟩
  | a :: f, pre, s4, s5, h0, hl, hb => by
    have hlp := List.length_pos_iff.mpr h0
    have e1 : (pre ++ [a]).length = pre.length + 1 := by simp
    have hl' : pre.length + (f.length + 1) ≤ 300 := by simpa using hl
    obtain ⟨s4', s5', ih⟩ := value_loop (C := C) hp hq (F := F) f (pre ++ [a]) (.val (.int pre.length)) (.val (.int a)) (by simp) (by simp; omega) (fun b hb' => hb b (List.mem_cons_of_mem _ hb'))
    refine ⟨s4', s5', ?_⟩
    have e2 : q ^ (pre.length - 1) * q = q ^ pre.length := by rw [← Int.pow_succ]; congr 1; omega
    have hpw := pow_small hq.1 hq.2 (m := pre.length) (by omega)
    have e3 : arith .mul a (q ^ pre.length) = some (a * q ^ pre.length) := ar_mulB (a := 9000) (b := 6000) (hb a (List.mem_cons_self ..)) (natAbs_lt_of (by omega) hpw.2) (by omega)
    rw [e1, hom_snoc] at ih
    simp only [List.append_assoc, List.singleton_append, Nat.add_sub_cancel] at ih
    rw [iD_cons, enums_cons, forL]
    have turn : forB C (.tp [.nm 4, .nm 5]) [.asg (.nm 3) (.ite (.cmp .gt (.var 4) (.cst (.int 0))) (.bin .mul (.var 3) (.idx (.var 1) (.cst (.int 1)))) (.cst (.int 1))), .asg (.nm 2) (.bin .add (.bin .mul (.var 2) (.idx (.var 1) (.cst (.int 0)))) (.bin .mul (.var 5) (.var 3)))] (.tup [.int (pre.length : Nat), .int a]) ⟨[.val F, .val (.tup [.int p, .int q]), .val (.int (hom p q pre)), .val (.int (q ^ (pre.length - 1))), s4, s5], []⟩
      = .nx ⟨[.val F, .val (.tup [.int p, .int q]), .val (.int (hom p q pre * p + a * q ^ pre.length)), .val (.int (q ^ pre.length)), .val (.int (pre.length : Nat)), .val (.int a)], []⟩ := by
      simp (disch := omega) [L2.atI, e2, e3]
    rw [turn, SR.turn_nx]
    exact ih
theorem value_of_spec (hT : T.fns "value_of" = some F_value_of) (hL : T.fns "lowest" = some F_lowest) {p q : Int} (hp : -1048576 < p ∧ p < 1048576) (hq : 0 < q ∧ q < 1048576) {f : List Int} (hl : f.length ≤ 300) (hb : ∀ a ∈ f, a.natAbs < 2 ^ 9000) :
    callN T (n + 2) "value_of" [.val (.tup (iD f)), .val (.tup [.int p, .int q])] [] = .ok (.val (lowD (hom p q f) (q ^ (f.length - 1)))) [] := by
  rw [callN_eq hT ⟨rfl, by decide⟩]
  cases f with
  | nil =>
    have hlow := lowest_spec (n := n) hL (t := 0) (b := 1) (by omega) (by decide)
    simp (disch := omega) [F_value_of, b_value_of, enums, forL, hlow, hom]
  | cons a f =>
    obtain ⟨s4, s5, hlp⟩ := value_loop (C := T.ct (n + 1)) hp hq (F := .tup (iD (a :: f))) f [a] (.val (.int 0)) (.val (.int a)) (by simp) (by simpa using hl) (fun b h => hb b (List.mem_cons_of_mem _ h))
    have hpw := pow_small hq.1 hq.2 (m := f.length) (by simp at hl; omega)
    have hlow := lowest_spec (n := n) hL (t := hom p q (a :: f)) (b := q ^ f.length) hpw.1 (by
      have : (2 : Int) ^ 6000 ≤ 2 ^ 9000 := by
        have := Nat.pow_le_pow_right (n := 2) (by decide) (show 6000 ≤ 9000 by decide)
        exact_mod_cast this
      omega)
    simp only [List.singleton_append, List.length_cons, List.length_nil, Nat.zero_add, Nat.sub_self, Nat.add_sub_cancel] at hlp
    have h0 : hom p q [a] = a := by simp [hom]
    rw [h0] at hlp
    simp (disch := omega) [F_value_of, b_value_of, enums_cons, forL, L2.atI] at hlp ⊢
    simp (disch := omega) [hlp, hlow]
theorem value_spec (h : ChkOk T) (hT : T.fns "value" = some F_value) (hV : T.fns "value_of" = some F_value_of) (hL : T.fns "lowest" = some F_lowest) (hC : T.fns "check_number" = some F_check_number) (hN : T.fns "is_number" = some F_is_number) {p q : Int} (hp : -1048576 < p ∧ p < 1048576) (hq : 0 < q ∧ q < 1048576) (hc : Int.gcd p q = 1) {f : List Int} (hf : PolyL f) (hl : f.length ≤ 300) (hb : ∀ a ∈ f, a.natAbs < 2 ^ 9000) :
    callN T (n + 4) "value" [.val (.tup (iD f)), .val (.tup [.int p, .int q])] [] = .ok (.val (lowD (hom p q f) (q ^ (f.length - 1)))) [] := by
  have e1 := checkpoly_spec (n := n) h hf (by omega)
  have hn : numB (.tup [.int p, .int q]) = true := by simp [numB, hc, hq.1]
  have e2 := checknum_spec (n := n) hC hN h.is_integer hn (by omega) (by omega)
  have e3 := value_of_spec (n := n + 1) hV hL hp hq hl hb
  rw [callN_eq hT ⟨rfl, by decide⟩]
  simp (disch := omega) [F_value, b_value, e1, e2, e3]
/-! ### sums -/
def padL (m : Nat) (f : List Int) : List Int := List.replicate (m - f.length) 0 ++ f
@[simp] theorem padL_len {m : Nat} {f : List Int} (h : f.length ≤ m) : (padL m f).length = m := by simp [padL]; omega
theorem rep_flat {d : D} : ∀ {k : Nat}, (List.replicate k [d]).flatten = List.replicate k d
  | 0 => rfl
  | k + 1 => by rw [List.replicate_succ, List.flatten_cons, rep_flat]; rfl
theorem iD_rep {k : Nat} : List.replicate k (D.int 0) = iD (List.replicate k 0) := by simp [iD]
theorem iD_app {f g : List Int} : iD f ++ iD g = iD (f ++ g) := by simp [iD]
theorem padded_spec (hT : T.fns "padded" = some F_padded) {f : List Int} {m : Nat} (hm : m ≤ 1000) (hl : f.length ≤ m) : callN T (n + 1) "padded" [.val (.tup (iD f)), .val (.int m), .val (.int 0)] [] = .ok (.val (.tup (iD (padL m f)))) [] := by
  rw [callN_eq hT ⟨rfl, by decide⟩]
  have e : ((m : Int) - (f.length : Int)).toNat = m - f.length := by omega
  simp (disch := omega) [F_padded, b_padded, e, rep_flat, iD_rep, iD_app, padL]
theorem zips_iD : ∀ {f g : List Int}, zips (iD f) (iD g) = (f.zip g).map fun p => .tup [.int p.1, .int p.2]
  | [], g => by simp [zips]
  | a :: f, [] => by simp [zips]
  | a :: f, b :: g => by simp [zips, zips_iD]
theorem compL_mapL {α : Type} {h : α → D} {f : D → Env → R (Option D)} {g : α → D} {e : Env} : ∀ {ps : List α}, (∀ p ∈ ps, f (h p) e = .ok (some (g p)) e) → compL f (ps.map h) e = .ok (ps.map g) e
  | [], _ => rfl
  | p :: ps, q => by
    rw [List.map_cons, compL, q p (List.mem_cons_self ..)]
    simp only [R.bind_ok]
    rw [compL_mapL fun d hd => q d (List.mem_cons_of_mem _ hd)]
    rfl
def sumL (f g : List Int) : List Int := trim (List.zipWith (· + ·) (padL (max f.length g.length) f) (padL (max f.length g.length) g))
theorem zip_add {f g : List Int} : (f.zip g).map (fun p => D.int (p.1 + p.2)) = iD (List.zipWith (· + ·) f g) := by
  simp [iD, List.zip, List.map_zipWith]
theorem sum_of_spec (hT : T.fns "sum_of" = some F_sum_of) (hP : T.fns "padded" = some F_padded) (hS : T.fns "stripped" = some F_stripped) {f g : List Int} (hf : f.length ≤ 1000) (hg : g.length ≤ 1000) : callN T (n + 2) "sum_of" [.val (.tup (iD f)), .val (.tup (iD g))] [] = .ok (.val (.tup (iD (sumL f g)))) [] := by
  rw [callN_eq hT ⟨rfl, by decide⟩]
  have hm1 : f.length ≤ max f.length g.length := Nat.le_max_left ..
  have hm2 : g.length ≤ max f.length g.length := Nat.le_max_right ..
  have hmx : max (f.length : Int) (g.length : Int) = (max f.length g.length : Nat) := by omega
  generalize hM : max f.length g.length = m at hm1 hm2 hmx
  have e1 := padded_spec (n := n) hP (f := f) (m := m) (by omega) hm1
  have e2 := padded_spec (n := n) hP (f := g) (m := m) (by omega) hm2
  have hc := compL_mapL (ps := (padL m f).zip (padL m g)) (h := fun p => D.tup [.int p.1, .int p.2]) (f := compB (T.ct (n + 1)) (.bin .add (.var 4) (.var 5)) (.tp [.nm 4, .nm 5]) none [3, 4, 5]) (g := fun p => D.int (p.1 + p.2)) (e := ⟨[.val (.tup (iD f)), .val (.tup (iD g)), .val (.int m), .no, .no, .no], []⟩) fun p _ => by simp (disch := omega)
  rw [← zips_iD, zip_add] at hc
  have hl : (List.zipWith (· + ·) (padL m f) (padL m g)).length = m := by simp [hm1, hm2]
  have e3 := stripped_spec (n := n) hS (f := List.zipWith (· + ·) (padL m f) (padL m g)) (by omega)
  simp (disch := omega) [F_sum_of, b_sum_of, hmx, e1, e2, hc, hm1, hm2, e3, sumL, hM]
  trace_state
theorem plus_spec (h : ChkOk T) (hT : T.fns "plus" = some F_plus) (hO : T.fns "sum_of" = some F_sum_of) (hP : T.fns "padded" = some F_padded) (hS : T.fns "stripped" = some F_stripped) {f g : List Int} (pf : PolyL f) (pg : PolyL g) (hf : f.length ≤ 1000) (hg : g.length ≤ 1000) : callN T (n + 4) "plus" [.val (.tup (iD f)), .val (.tup (iD g))] [] = .ok (.val (.tup (iD (sumL f g)))) [] := by
  have e1 := checkpoly_spec (n := n) h pf (by omega)
  have e2 := checkpoly_spec (n := n) h pg (by omega)
  have e3 := sum_of_spec (n := n + 1) hO hP hS hf hg
  rw [callN_eq hT ⟨rfl, by decide⟩]
  simp (disch := omega) [F_plus, b_plus, e1, e2, e3]
/-! ### products -/
def prodL (f g : List Int) : List Int := if f = [] ∨ g = [] then [] else conv f g
theorem getD_eq {f : List Int} {k : Nat} (h : k < f.length) : f[k]? = some (f.getD k 0) := by
  rw [List.getD_eq_getElem?_getD, List.getElem?_eq_getElem h]
  rfl
theorem times_inner {C : Ct} {A B : D} {a : Int} {i : Nat} (hb : ∀ b : Int, ∃ q, q = a * b) : ∀ (g acc : List Int) (j : Nat) (s5 s6 : Sl), i + j + g.length ≤ acc.length → acc.length ≤ 16777216 → (∀ b ∈ g, arith .mul a b = some (a * b)) →
    ∃ s5' s6', forL (forB C (.tp [.nm 5, .nm 6]) [.setI (.var 2) (.bin .add (.var 3) (.var 5)) (.bin .add (.idx (.var 2) (.bin .add (.var 3) (.var 5))) (.bin .mul (.var 4) (.var 6)))]) (enums (iD g) j) ⟨[.val A, .val B, .own (iD acc), .val (.int i), .val (.int a), s5, s6], []⟩
      = .nx ⟨[.val A, .val B, .own (iD (inner i a acc j g)), .val (.int i), .val (.int a), s5', s6'], []⟩
  | [], acc, j, s5, s6, h, hl, hm => ⟨s5, s6, by simp [enums, forL, inner]⟩
  | b :: g, acc, j, s5, s6, h, hl, hm => by
    simp only [List.length_cons] at h
    obtain ⟨s5', s6', ih⟩ := times_inner (C := C) (A := A) (B := B) (i := i) hb g (addc acc (i + j) (a * b)) (j + 1) (.val (.int j)) (.val (.int b)) (by simp; omega) (by simp; omega) (fun b hb' => hm b (List.mem_cons_of_mem _ hb'))
    refine ⟨s5', s6', ?_⟩
    have hk : i + j < acc.length := by omega
    have e1 : (iD acc)[i + j]? = some (.int (acc.getD (i + j) 0)) := by rw [iD_get, getD_eq hk]; rfl
    have e2 := hm b (List.mem_cons_self ..)
    have e3 : ((i : Int) + (j : Int)).toNat = i + j := by omega
    have e4 : (iD acc).set (i + j) (.int (acc[i + j]?.getD 0 + a * b)) = iD (addc acc (i + j) (a * b)) := by rw [← List.getD_eq_getElem?_getD, iD_set]; rfl
    rw [iD_cons, enums_cons, forL]
    have turn : forB C (.tp [.nm 5, .nm 6]) [.setI (.var 2) (.bin .add (.var 3) (.var 5)) (.bin .add (.idx (.var 2) (.bin .add (.var 3) (.var 5))) (.bin .mul (.var 4) (.var 6)))] (.tup [.int (j : Nat), .int b]) ⟨[.val A, .val B, .own (iD acc), .val (.int i), .val (.int a), s5, s6], []⟩
        = .nx ⟨[.val A, .val B, .own (iD (addc acc (i + j) (a * b))), .val (.int i), .val (.int a), .val (.int j), .val (.int b)], []⟩ := by
      simp (disch := omega) [e1, e2, e3, e4, -getElem?_pos]
    rw [turn, SR.turn_nx]
    exact ih
theorem times_outer {C : Ct} {A : D} {g : List Int} : ∀ (f acc : List Int) (i : Nat) (s3 s4 s5 s6 : Sl), i + f.length + g.length ≤ acc.length + 1 → acc.length ≤ 16777216 → (∀ a ∈ f, ∀ b ∈ g, arith .mul a b = some (a * b)) →
    ∃ s3' s4' s5' s6', forL (forB C (.tp [.nm 3, .nm 4]) [.for_ (.tp [.nm 5, .nm 6]) (.enu (.var 1)) [.setI (.var 2) (.bin .add (.var 3) (.var 5)) (.bin .add (.idx (.var 2) (.bin .add (.var 3) (.var 5))) (.bin .mul (.var 4) (.var 6)))]]) (enums (iD f) i) ⟨[.val A, .val (.tup (iD g)), .own (iD acc), s3, s4, s5, s6], []⟩
      = .nx ⟨[.val A, .val (.tup (iD g)), .own (iD (outer g acc i f)), s3', s4', s5', s6'], []⟩
  | [], acc, i, s3, s4, s5, s6, h, hl, hm => ⟨s3, s4, s5, s6, by simp [enums, forL, outer]⟩
  | a :: f, acc, i, s3, s4, s5, s6, h, hl, hm => by
    simp only [List.length_cons] at h
    obtain ⟨t5, t6, hin⟩ := times_inner (C := C) (A := A) (B := .tup (iD g)) (a := a) (i := i) (fun b => ⟨_, rfl⟩) g acc 0 s5 s6 (by omega) hl (hm a (List.mem_cons_self ..))
    obtain ⟨s3', s4', s5', s6', ih⟩ := times_outer (C := C) (A := A) (g := g) f (inner i a acc 0 g) (i + 1) (.val (.int i)) (.val (.int a)) t5 t6 (by simp; omega) (by simp; omega) (fun b hb' => hm b (List.mem_cons_of_mem _ hb'))
    refine ⟨s3', s4', s5', s6', ?_⟩
    rw [iD_cons, enums_cons, forL]
    have turn : forB C (.tp [.nm 3, .nm 4]) [.for_ (.tp [.nm 5, .nm 6]) (.enu (.var 1)) [.setI (.var 2) (.bin .add (.var 3) (.var 5)) (.bin .add (.idx (.var 2) (.bin .add (.var 3) (.var 5))) (.bin .mul (.var 4) (.var 6)))]] (.tup [.int (i : Nat), .int a]) ⟨[.val A, .val (.tup (iD g)), .own (iD acc), s3, s4, s5, s6], []⟩
        = .nx ⟨[.val A, .val (.tup (iD g)), .own (iD (inner i a acc 0 g)), .val (.int i), .val (.int a), t5, t6], []⟩ := by
      simp (disch := omega) [hin]
    rw [turn, SR.turn_nx]
    exact ih
theorem iD_nil_iff {f : List Int} : (iD f).isEmpty = decide (f = []) := by cases f <;> simp
theorem eqv_nil {f : List Int} : (D.tup (iD f)).eqv (.tup []) = decide (f = []) := by cases f <;> simp
theorem times_of_two_spec (hT : T.fns "times_of_two" = some F_times_of_two) {f g : List Int} (hf : f.length ≤ 1000) (hg : g.length ≤ 1000) (hm : ∀ a ∈ f, ∀ b ∈ g, arith .mul a b = some (a * b)) : callN T (n + 1) "times_of_two" [.val (.tup (iD f)), .val (.tup (iD g))] [] = .ok (.val (.tup (iD (prodL f g)))) [] := by
  rw [callN_eq hT ⟨rfl, by decide⟩]
  have hmx : max (0 : Int) ((f.length : Int) + (g.length : Int) - 1) = ((f.length + g.length - 1 : Nat) : Int) := by omega
  have hz : (List.replicate (f.length + g.length - 1) [D.int 0]).flatten = iD (List.replicate (f.length + g.length - 1) 0) := by rw [rep_flat, iD_rep]
  by_cases h0 : f = []
  · subst h0
    simp (disch := omega) [F_times_of_two, b_times_of_two, hmx, hz, enums, forL, prodL]
  · have hfl := List.length_pos_iff.mpr h0
    by_cases h1 : g = []
    · subst h1
      obtain ⟨s3, s4, s5, s6, hlp⟩ := times_outer (C := T.ct n) (A := .tup (iD f)) (g := []) f (List.replicate (f.length - 1) 0) 0 .no .no .no .no (by simp; omega) (by simp; omega) (by simp)
      simp at hz hmx
      simp only [iD_nil] at hlp
      simp (disch := omega) [F_times_of_two, b_times_of_two, hmx, hz, hlp, prodL, h0, eqv_nil]
    · have hgl := List.length_pos_iff.mpr h1
      obtain ⟨s3, s4, s5, s6, hlp⟩ := times_outer (C := T.ct n) (A := .tup (iD f)) (g := g) f (List.replicate (f.length + g.length - 1) 0) 0 .no .no .no .no (by simp; omega) (by simp; omega) hm
      simp (disch := omega) [F_times_of_two, b_times_of_two, hmx, hz, hlp, prodL, h0, h1, eqv_nil]
      rfl
theorem times_spec (h : ChkOk T) (hT : T.fns "times" = some F_times) (hO : T.fns "times_of_two" = some F_times_of_two) {f g : List Int} (pf : PolyL f) (pg : PolyL g) (hf : f.length ≤ 1000) (hg : g.length ≤ 1000) (hm : ∀ a ∈ f, ∀ b ∈ g, arith .mul a b = some (a * b)) : callN T (n + 4) "times" [.val (.tup (iD f)), .val (.tup (iD g))] [] = .ok (.val (.tup (iD (prodL f g)))) [] := by
  have e1 := checkpoly_spec (n := n) h pf (by omega)
  have e2 := checkpoly_spec (n := n) h pg (by omega)
  have e3 := times_of_two_spec (n := n + 2) hO hf hg hm
  rw [callN_eq hT ⟨rfl, by decide⟩]
  simp (disch := omega) [F_times, b_times, e1, e2, e3]
def scaleL (k : Int) (f : List Int) : List Int := if k = 0 then [] else f.map fun a => k * a
theorem scaled_by_spec (hT : T.fns "scaled_by" = some F_scaled_by) {f : List Int} {k : Int} (hf : f.length ≤ 1000) (hm : ∀ a ∈ f, arith .mul k a = some (k * a)) : callN T (n + 1) "scaled_by" [.val (.tup (iD f)), .val (.int k)] [] = .ok (.val (.tup (iD (scaleL k f)))) [] := by
  rw [callN_eq hT ⟨rfl, by decide⟩]
  by_cases h0 : k = 0
  · simp (disch := omega) [F_scaled_by, b_scaled_by, h0, scaleL]
  · have hc := compL_mapL (ps := f) (h := D.int) (f := compB (T.ct n) (.bin .mul (.var 1) (.var 3)) (.nm 3) none [2, 3]) (g := fun a => D.int (k * a)) (e := ⟨[.val (.tup (iD f)), .val (.int k), .no, .no], []⟩) fun a ha => by simp (disch := omega) [hm a ha]
    have hc : compL (compB (T.ct n) (.bin .mul (.var 1) (.var 3)) (.nm 3) none [2, 3]) (iD f) ⟨[.val (.tup (iD f)), .val (.int k), .no, .no], []⟩ = .ok (iD (f.map fun a => k * a)) ⟨[.val (.tup (iD f)), .val (.int k), .no, .no], []⟩ := by
      have e : (f.map fun a => D.int (k * a)) = iD (f.map fun a => k * a) := by simp [iD]
      rw [← e]
      exact hc
    simp (disch := omega) [F_scaled_by, b_scaled_by, h0, scaleL, hc]
theorem checkint_spec (hT : T.fns "check_integer" = some F_check_integer) (hI : T.fns "is_integer" = some ⟨["value"], 1, b_is_integer⟩) {k : Int} : callN T (n + 2) "check_integer" [.val (.int k), .val .non] [] = .ok (.val .non) [] := by
  have e1 := isint_spec (n := n) hI (d := .int k) rfl
  rw [callN_eq hT ⟨rfl, by decide⟩]
  simp (disch := omega) [F_check_integer, b_check_integer, e1, isI, D.isNon]
theorem checkint0_spec (hT : T.fns "check_integer" = some F_check_integer) (hI : T.fns "is_integer" = some ⟨["value"], 1, b_is_integer⟩) {k m : Int} (hk : m ≤ k) : callN T (n + 2) "check_integer" [.val (.int k), .val (.int m)] [] = .ok (.val .non) [] := by
  have e1 := isint_spec (n := n) hI (d := .int k) rfl
  rw [callN_eq hT ⟨rfl, by decide⟩]
  simp (disch := omega) [F_check_integer, b_check_integer, e1, isI, D.isNon]
theorem scaled_spec (h : ChkOk T) (hT : T.fns "scaled" = some F_scaled) (hB : T.fns "scaled_by" = some F_scaled_by) (hC : T.fns "check_integer" = some F_check_integer) {f : List Int} {k : Int} (pf : PolyL f) (hf : f.length ≤ 1000) (hm : ∀ a ∈ f, arith .mul k a = some (k * a)) : callN T (n + 4) "scaled" [.val (.tup (iD f)), .val (.int k)] [] = .ok (.val (.tup (iD (scaleL k f)))) [] := by
  have e1 := checkpoly_spec (n := n) h pf (by omega)
  have e2 := checkint_spec (n := n + 1) hC h.is_integer (k := k)
  have e3 := scaled_by_spec (n := n + 2) hB hf hm
  rw [callN_eq hT ⟨rfl, by decide⟩]
  simp (disch := omega) [F_scaled, b_scaled, e1, e2, e3]
/-- the k-th power -/
def powL (f : List Int) : Nat → List Int
  | 0 => [1]
  | k + 1 => prodL (powL f k) f
theorem prodL_len {f g : List Int} : (prodL f g).length ≤ f.length + g.length := by
  unfold prodL
  split
  · simp
  · rw [conv_len]; omega
theorem prodL_nrm {f g : List Int} : nrm (prodL f g) ≤ nrm f * nrm g := by
  unfold prodL
  split
  · simp [nrm]
  · exact conv_nrm
theorem powL_len {f : List Int} : ∀ {k : Nat}, (powL f k).length ≤ k * f.length + 1
  | 0 => by simp [powL]
  | k + 1 => by
    have h1 := prodL_len (f := powL f k) (g := f)
    have h2 := powL_len (f := f) (k := k)
    rw [Nat.add_mul, Nat.one_mul]
    show (prodL (powL f k) f).length ≤ _
    omega
theorem powL_nrm {f : List Int} : ∀ {k : Nat}, nrm (powL f k) ≤ nrm f ^ k
  | 0 => by simp [powL, nrm]
  | k + 1 => by
    have h1 := prodL_nrm (f := powL f k) (g := f)
    have h2 := powL_nrm (f := f) (k := k)
    have h3 : nrm (powL f k) * nrm f ≤ nrm f ^ k * nrm f := Nat.mul_le_mul_right _ h2
    rw [Nat.pow_succ]
    show nrm (prodL (powL f k) f) ≤ _
    omega
theorem ar_mulN {f g : List Int} {a b : Nat} (hf : nrm f < 2 ^ a) (hg : nrm g < 2 ^ b) (h : a + b ≤ 134217728) : ∀ x ∈ f, ∀ y ∈ g, arith .mul x y = some (x * y) := fun x hx y hy =>
  ar_mulB (a := a) (b := b) (by have := nrm_mem hx; omega) (by have := nrm_mem hy; omega) h
theorem powL_mul {f : List Int} {b k : Nat} (hf : nrm f < 2 ^ b) (h : b * (k + 2) ≤ 134217728) (hb : 0 < b) : ∀ x ∈ powL f k, ∀ y ∈ f, arith .mul x y = some (x * y) := by
  refine ar_mulN (a := b * k + 1) (b := b) ?_ hf ?_
  · have h1 := powL_nrm (f := f) (k := k)
    have h2 : nrm f ^ k ≤ (2 ^ b) ^ k := Nat.pow_le_pow_left (by omega) k
    rw [← Nat.pow_mul] at h2
    have h3 : (2 : Nat) ^ (b * k) < 2 ^ (b * k + 1) := Nat.pow_lt_pow_right (by decide) (by omega)
    omega
  · rw [Nat.mul_add] at h
    omega
theorem power_loop {C : Ct} {f : List Int} {K : D} {callee : ∀ k, k ≤ 12 → doCall C "times_of_two" [.val (.tup (iD (powL f k))), .val (.tup (iD f))] = fun e => .ok (.val (.tup (iD (powL f (k + 1))))) e} : True := trivial
theorem pow_loop {f : List Int} {K : D} (hO : T.fns "times_of_two" = some F_times_of_two) {b : Nat} (hf : nrm f < 2 ^ b) (hb : 0 < b) (hbb : b ≤ 1000000) (hfl : f.length ≤ 50) : ∀ (ds : List D) (k : Nat) (s : Sl), k + ds.length ≤ 10 →
    ∃ s', forL (forB (T.ct (n + 1)) (.nm 3) [.asg (.nm 2) (.call "times_of_two" [.var 2, .var 0])]) ds ⟨[.val (.tup (iD f)), .val K, .val (.tup (iD (powL f k))), s], []⟩ = .nx ⟨[.val (.tup (iD f)), .val K, .val (.tup (iD (powL f (k + ds.length)))), s'], []⟩
  | [], k, s, h => ⟨s, rfl⟩
  | d :: ds, k, s, h => by
    simp only [List.length_cons] at h ⊢
    obtain ⟨s', ih⟩ := pow_loop (K := K) hO hf hb hbb hfl ds (k + 1) (.val d) (by omega)
    refine ⟨s', ?_⟩
    have hl := powL_len (f := f) (k := k)
    have hl2 : k * f.length ≤ 10 * 50 := Nat.mul_le_mul (by omega) hfl
    have hx : b * (k + 2) ≤ 1000000 * 12 := Nat.mul_le_mul hbb (by omega)
    have e1 := times_of_two_spec (n := n) hO (f := powL f k) (g := f) (by omega) (by omega) (powL_mul hf (by omega) hb)
    rw [forL]
    have turn : forB (T.ct (n + 1)) (.nm 3) [.asg (.nm 2) (.call "times_of_two" [.var 2, .var 0])] d ⟨[.val (.tup (iD f)), .val K, .val (.tup (iD (powL f k))), s], []⟩ = .nx ⟨[.val (.tup (iD f)), .val K, .val (.tup (iD (powL f (k + 1)))), .val d], []⟩ := by
      simp (disch := omega) [e1, powL]
    rw [turn, SR.turn_nx, ih]
    congr 6
    simp only [Nat.add_assoc, Nat.add_comm 1]
theorem power_spec (h : ChkOk T) (hT : T.fns "power" = some F_power) (hO : T.fns "times_of_two" = some F_times_of_two) (hC : T.fns "check_integer" = some F_check_integer) {f : List Int} {k : Nat} (hk : k ≤ 6) (pf : PolyL f) {b : Nat} (hf : nrm f < 2 ^ b) (hb : 0 < b) (hbb : b ≤ 1000000) (hfl : f.length ≤ 50) : callN T (n + 4) "power" [.val (.tup (iD f)), .val (.int k)] [] = .ok (.val (.tup (iD (powL f k)))) [] := by
  have e1 := checkpoly_spec (n := n) h pf (by omega)
  have e2 := checkint0_spec (n := n + 1) hC h.is_integer (k := k) (m := 0) (by omega)
  obtain ⟨s', hlp⟩ := pow_loop (n := n + 2) (K := .int k) hO hf hb hbb hfl (intsD 0 k) 0 .no (by rw [intsD_len]; omega)
  rw [callN_eq hT ⟨rfl, by decide⟩]
  rw [intsD_len, Nat.zero_add, show powL f 0 = [1] from rfl] at hlp
  simp only [iD_cons, iD_nil] at hlp
  simp (disch := omega) [F_power, b_power, e1, e2, hlp]
end Fp.Z
/-! FpLawP: the law's sums, products and values of polynomials. -/
namespace Fp.Z
open PySem Fp
def b_law_plus : List Sm := [.ret (.call "_law_low" [.bin .add (.bin .mul (.idx (.var 0) (.cst (.int 0))) (.idx (.var 1) (.cst (.int 1)))) (.bin .mul (.idx (.var 1) (.cst (.int 0))) (.idx (.var 0) (.cst (.int 1)))), .bin .mul (.idx (.var 0) (.cst (.int 1))) (.idx (.var 1) (.cst (.int 1)))])]
def F_law_plus : Fn := ⟨["a", "b"], 2, b_law_plus⟩
def b_law_times : List Sm := [.ret (.call "_law_low" [.bin .mul (.idx (.var 0) (.cst (.int 0))) (.idx (.var 1) (.cst (.int 0))), .bin .mul (.idx (.var 0) (.cst (.int 1))) (.idx (.var 1) (.cst (.int 1)))])]
def F_law_times : Fn := ⟨["a", "b"], 2, b_law_times⟩
def b_law_trim : List Sm := [.asg (.nm 1) (.cst (.int 0)), .whl (.and (.cmp .lt (.var 1) (.blt "len" [.var 0])) (.cmp .isin (.idx (.var 0) (.var 1)) (.tup [.cst (.int 0), .tup [.cst (.int 0), .cst (.int 1)]]))) [.asg (.nm 1) (.bin .add (.var 1) (.cst (.int 1)))], .ret (.blt "tuple" [.slc (.var 0) (some (.var 1)) none])]
def F_law_trim : Fn := ⟨["row"], 2, b_law_trim⟩
def b_law_sum : List Sm := [.asg (.nm 2) (.blt "max" [.blt "len" [.var 0], .blt "len" [.var 1]]), .par [3, 4] [.bin .add (.bin .mul (.lst [.cst (.int 0)]) (.bin .sub (.var 2) (.blt "len" [.var 0]))) (.blt "list" [.var 0]), .bin .add (.bin .mul (.lst [.cst (.int 0)]) (.bin .sub (.var 2) (.blt "len" [.var 1]))) (.blt "list" [.var 1])], .ret (.call "_law_trim" [.comp (.bin .add (.var 6) (.var 7)) (.tp [.nm 6, .nm 7]) (.zip (.var 3) (.var 4)) none [5, 6, 7]])]
def F_law_sum : Fn := ⟨["f", "g"], 8, b_law_sum⟩
def b_law_product : List Sm := [.ite (.or (.cmp .eq (.var 0) (.tup [])) (.cmp .eq (.var 1) (.tup []))) [.ret (.tup [])] [], .asg (.nm 2) (.bin .mul (.lst [.cst (.int 0)]) (.bin .sub (.bin .add (.blt "len" [.var 0]) (.blt "len" [.var 1])) (.cst (.int 1)))), .for_ (.nm 3) (.rng (.blt "len" [.var 0])) [.for_ (.nm 4) (.rng (.blt "len" [.var 1])) [.setI (.var 2) (.bin .add (.var 3) (.var 4)) (.bin .add (.idx (.var 2) (.bin .add (.var 3) (.var 4))) (.bin .mul (.idx (.var 0) (.var 3)) (.idx (.var 1) (.var 4))))]], .ret (.blt "tuple" [.var 2])]
def F_law_product : Fn := ⟨["f", "g"], 5, b_law_product⟩
def b_law_at : List Sm := [.asg (.tp [.nm 2, .nm 3, .nm 4, .nm 5]) (.tup [.idx (.var 1) (.cst (.int 0)), .idx (.var 1) (.cst (.int 1)), .cst (.int 0), .bin .sub (.blt "len" [.var 0]) (.cst (.int 1))]), .for_ (.nm 6) (.rng (.blt "len" [.var 0])) [.asg (.nm 7) (.idx (.var 0) (.var 6)), .for_ (.nm 8) (.rng (.bin .sub (.var 5) (.var 6))) [.asg (.nm 7) (.bin .mul (.var 7) (.var 2))], .for_ (.nm 8) (.rng (.var 6)) [.asg (.nm 7) (.bin .mul (.var 7) (.var 3))], .asg (.nm 4) (.bin .add (.var 4) (.var 7))], .asg (.nm 9) (.cst (.int 1)), .for_ (.nm 8) (.rng (.blt "max" [.cst (.int 0), .var 5])) [.asg (.nm 9) (.bin .mul (.var 9) (.var 3))], .ret (.call "_law_low" [.var 4, .var 9])]
def F_law_at : Fn := ⟨["f", "x"], 10, b_law_at⟩
def b_law_polynomial : List Sm := [.ite (.cmp .eq (.call "_law_take" [.var 0, .cst (.int 14)]) (.cst (.int 0))) [.ret (.tup [])] [], .asg (.nm 3) (.comp (.bin .sub (.call "_law_take" [.var 0, .bin .add (.bin .mul (.cst (.int 2)) (.var 2)) (.cst (.int 1))]) (.var 2)) (.nm 5) (.rng (.bin .add (.cst (.int 1)) (.call "_law_take" [.var 0, .bin .add (.var 1) (.cst (.int 1))]))) none [4, 5]), .asg (.nm 3) (.comp (.ite (.cmp .gt (.call "_law_take" [.var 0, .cst (.int 4)]) (.cst (.int 0))) (.var 6) (.cst (.int 0))) (.nm 6) (.ov (.var 3)) none [4, 6]), .ret (.ite (.cmp .ne (.call "_law_trim" [.var 3]) (.tup [])) (.call "_law_trim" [.var 3]) (.tup [.bin .add (.cst (.int 1)) (.call "_law_take" [.var 0, .var 2])]))]
def F_law_polynomial : Fn := ⟨["pot", "most", "far"], 7, b_law_polynomial⟩
def b_law_drawn : List Sm := [.ret (.call "_law_low" [.bin .sub (.call "_law_take" [.var 0, .bin .add (.bin .mul (.cst (.int 2)) (.var 1)) (.cst (.int 1))]) (.var 1), .bin .add (.cst (.int 1)) (.call "_law_take" [.var 0, .idx (.lst [.cst (.int 1), .cst (.int 4), .var 1]) (.call "_law_take" [.var 0, .cst (.int 3)])])])]
def F_law_drawn : Fn := ⟨["pot", "far"], 2, b_law_drawn⟩
def b_law_far : List Sm := [.ret (.call "_law_polynomial" [.var 0, .cst (.int 8), .idx (.lst [.cst (.int 3), .cst (.int 20), .bin .pow (.cst (.int 10)) (.cst (.int 30))]) (.call "_law_take" [.var 0, .cst (.int 3)])])]
def F_law_far : Fn := ⟨["pot"], 1, b_law_far⟩
variable {T : Tb} {n : Nat}
/-! ### fractions -/
structure FrOk (F B : Int) : Prop where
  pos : 0 < B
  den : B < 2 ^ 4000
  num : F.natAbs < 2 ^ 1000000
theorem pow_le {a b : Nat} (h : a ≤ b) : (2 : Int) ^ a ≤ 2 ^ b := by
  have := Nat.pow_le_pow_right (n := 2) (by decide) h
  exact_mod_cast this
theorem FrOk.parts {F B : Int} (h : FrOk F B) : ∃ u v g : Int, 0 < g ∧ F = g * u ∧ B = g * v ∧ 0 < v ∧ v < 2 ^ 4000 ∧ u.natAbs < 2 ^ 1000000 ∧ lowD F B = .tup [.int u, .int v] := by
  obtain ⟨u, v, g, hg, hF, hB, hv, _, e⟩ := low_parts (t := F) h.pos
  refine ⟨u, v, g, hg, hF, hB, hv, ?_, ?_, e⟩
  · have : 1 * v ≤ g * v := Int.mul_le_mul_of_nonneg_right (by omega) (by omega)
    have := h.den
    omega
  · have h1 := h.num
    rw [hF, Int.natAbs_mul] at h1
    have : 1 * u.natAbs ≤ g.natAbs * u.natAbs := Nat.mul_le_mul_right _ (by omega)
    omega
theorem mul_lt_pow {v w : Int} {a b c : Nat} (hv : 0 < v) (hw : 0 < w) (h1 : v < 2 ^ a) (h2 : w < 2 ^ b) (h : a + b ≤ c) : v * w < 2 ^ c := by
  have h3 : v * w < 2 ^ a * 2 ^ b := Int.mul_lt_mul h1 (by omega) hw (by have : (0:Int) < 2 ^ a := Int.pow_pos (by decide); omega)
  rw [← Int.pow_add] at h3
  have := pow_le h
  omega
theorem lplus_spec (hT : T.fns "_law_plus" = some F_law_plus) (hL : T.fns "_law_low" = some F_law_low) {F B G C : Int} (h1 : FrOk F B) (h2 : FrOk G C) : callN T (n + 2) "_law_plus" [.val (lowD F B), .val (lowD G C)] [] = .ok (.val (lowD (F * C + G * B) (B * C))) [] := by
  rw [callN_eq hT ⟨rfl, by decide⟩]
  obtain ⟨u, v, g, hg, hF, hB, hv, hv2, hu, e⟩ := h1.parts
  obtain ⟨u', v', g', hg', hF', hB', hv', hv2', hu', e'⟩ := h2.parts
  have m1 : arith .mul u v' = some (u * v') := ar_mulB (a := 1000000) (b := 4000) hu (natAbs_lt_of (by omega) hv2') (by decide)
  have m2 : arith .mul u' v = some (u' * v) := ar_mulB (a := 1000000) (b := 4000) hu' (natAbs_lt_of (by omega) hv2) (by decide)
  have m3 : arith .mul v v' = some (v * v') := ar_mulB (a := 4000) (b := 4000) (natAbs_lt_of (by omega) hv2) (natAbs_lt_of (by omega) hv2') (by decide)
  have hlow := low_spec (n := n) hL (t := u * v' + u' * v) (b := v * v') (Int.mul_pos hv hv') (mul_lt_pow hv hv' hv2 hv2' (by decide))
  have heq : lowD (u * v' + u' * v) (v * v') = lowD (F * C + G * B) (B * C) := lowD_eq (Int.mul_pos hv hv') (Int.mul_pos h1.pos h2.pos) (by
    rw [hF, hB, hF', hB']
    grind)
  rw [e, e']
  simp (disch := omega) [F_law_plus, b_law_plus, L2.atI, m1, m2, m3, hlow, heq]
theorem ltimes_spec (hT : T.fns "_law_times" = some F_law_times) (hL : T.fns "_law_low" = some F_law_low) {F B G C : Int} (h1 : FrOk F B) (h2 : FrOk G C) : callN T (n + 2) "_law_times" [.val (lowD F B), .val (lowD G C)] [] = .ok (.val (lowD (F * G) (B * C))) [] := by
  rw [callN_eq hT ⟨rfl, by decide⟩]
  obtain ⟨u, v, g, hg, hF, hB, hv, hv2, hu, e⟩ := h1.parts
  obtain ⟨u', v', g', hg', hF', hB', hv', hv2', hu', e'⟩ := h2.parts
  have m1 : arith .mul u u' = some (u * u') := ar_mulB (a := 1000000) (b := 1000000) hu hu' (by decide)
  have m3 : arith .mul v v' = some (v * v') := ar_mulB (a := 4000) (b := 4000) (natAbs_lt_of (by omega) hv2) (natAbs_lt_of (by omega) hv2') (by decide)
  have hlow := low_spec (n := n) hL (t := u * u') (b := v * v') (Int.mul_pos hv hv') (mul_lt_pow hv hv' hv2 hv2' (by decide))
  have heq : lowD (u * u') (v * v') = lowD (F * G) (B * C) := lowD_eq (Int.mul_pos hv hv') (Int.mul_pos h1.pos h2.pos) (by
    rw [hF, hB, hF', hB']
    grind)
  rw [e, e']
  simp (disch := omega) [F_law_times, b_law_times, L2.atI, m1, m3, hlow, heq]
/-! ### sums -/
@[simp] theorem eqv_tup_int {ds : List D} {i : Int} : (D.tup ds).eqv (.int i) = false := by
  show PyData.eqv (D.tup ds).toP (D.int i).toP = false
  rw [D.toP, D.toP, PyData.eqv]
theorem eqOk_trim : (D.tup [.int 0, .tup [.int 0, .int 1]]).eqOk = true := Sim.eqOk (k := 2) (fun x hx => by
  rcases List.mem_cons.mp hx with rfl | hx
  · exact Sim_int
  · rw [List.mem_singleton.mp hx]
    exact Sim.ints (ns := [0, 1])) (by decide)
theorem trim_loop {C : Ct} : ∀ (f pre : List Int), (pre ++ f).length ≤ 16777216 →
    whileE (evalT C (.and (.cmp .lt (.var 1) (.blt "len" [.var 0])) (.cmp .isin (.idx (.var 0) (.var 1)) (.tup [.cst (.int 0), .tup [.cst (.int 0), .cst (.int 1)]])))) (execSs C [.asg (.nm 1) (.bin .add (.var 1) (.cst (.int 1)))]) ⟨[.lnk 0, .val (.int pre.length)], [.own (iD (pre ++ f))]⟩ =
    .nx ⟨[.lnk 0, .val (.int (pre.length + lead f : Nat))], [.own (iD (pre ++ f))]⟩
  | [], pre, h => by
    apply whF
    simp (disch := omega) [lead]
  | a :: f, pre, h => by
    have hi := iD_at (pre := pre) (f := f) (a := a)
    have hl : (iD (pre ++ a :: f)).length = pre.length + (f.length + 1) := by simp
    simp only [List.length_append, List.length_cons] at h
    by_cases h0 : a = 0
    · subst h0
      refine whE (e1 := ⟨[.lnk 0, .val (.int pre.length)], [.own (iD (pre ++ 0 :: f))]⟩) (e2 := ⟨[.lnk 0, .val (.int ((pre ++ [0]).length : Nat))], [.own (iD ((pre ++ [0]) ++ f))]⟩) ?_ ?_ ((trim_loop f (pre ++ [0]) (by simp; omega)).trans ?_) (fun h => nomatch h)
      · simp (disch := omega) [hi, hl, -iD_len, -getElem?_pos, eqOk_trim]
      · simp (disch := omega)
      · simp [lead]
        omega
    · rw [show lead (a :: f) = 0 by simp [lead, h0]]
      apply whF
      have h0' : ¬ (0 = a) := fun q => h0 q.symm
      simp (disch := omega) [hi, hl, -iD_len, h0', -getElem?_pos, eqOk_trim]
theorem ltrim_spec (hT : T.fns "_law_trim" = some F_law_trim) {f : List Int} (hl : f.length ≤ 16777216) : callN T (n + 1) "_law_trim" [.lnk 0] [.own (iD f)] = .ok (.val (.tup (iD (trim f)))) [.own (iD f)] := by
  rw [callN_eq hT ⟨rfl, by decide⟩]
  have hw := trim_loop (C := T.ct n) f [] (by simpa using hl)
  have hc := cutD_from (xs := iD f) (k := lead f) (by rw [iD_len]; exact lead_le)
  simp only [List.nil_append, List.length_nil, Nat.zero_add, show ((0 : Nat) : Int) = 0 from rfl] at hw
  simp (disch := omega) [F_law_trim, b_law_trim, hw, hc, iD_drop, trim]
theorem lsum_spec (hT : T.fns "_law_sum" = some F_law_sum) (hR : T.fns "_law_trim" = some F_law_trim) {f g : List Int} (hf : f.length ≤ 1000) (hg : g.length ≤ 1000) : callN T (n + 2) "_law_sum" [.val (.tup (iD f)), .val (.tup (iD g))] [] = .ok (.val (.tup (iD (sumL f g)))) [] := by
  rw [callN_eq hT ⟨rfl, by decide⟩]
  have hm1 : f.length ≤ max f.length g.length := Nat.le_max_left ..
  have hm2 : g.length ≤ max f.length g.length := Nat.le_max_right ..
  have hm3 : max f.length g.length ≤ 1000 := by omega
  have hmx : max (f.length : Int) (g.length : Int) = (max f.length g.length : Nat) := by omega
  generalize hM : max f.length g.length = m at hm1 hm2 hm3 hmx
  have e1 : ((m : Int) - (f.length : Int)).toNat = m - f.length := by omega
  have e2 : ((m : Int) - (g.length : Int)).toNat = m - g.length := by omega
  have p1 : iD (List.replicate (m - f.length) 0 ++ f) = iD (padL m f) := rfl
  have p2 : iD (List.replicate (m - g.length) 0 ++ g) = iD (padL m g) := rfl
  have hc := compL_mapL (ps := (padL m f).zip (padL m g)) (h := fun p => D.tup [.int p.1, .int p.2]) (f := compB (T.ct (n + 1)) (.bin .add (.var 6) (.var 7)) (.tp [.nm 6, .nm 7]) none [5, 6, 7]) (g := fun p => D.int (p.1 + p.2)) (e := ⟨[.val (.tup (iD f)), .val (.tup (iD g)), .val (.int m), .lea (iD (padL m f)), .lea (iD (padL m g)), .no, .no, .no], []⟩) fun p _ => by simp (disch := omega)
  rw [← zips_iD, zip_add] at hc
  have hl : (List.zipWith (· + ·) (padL m f) (padL m g)).length = m := by simp [hm1, hm2]
  have e3 := ltrim_spec (n := n) hR (f := List.zipWith (· + ·) (padL m f) (padL m g)) (by omega)
  simp (disch := omega) [F_law_sum, b_law_sum, hmx, e1, e2, rep_flat, iD_rep, iD_app, p1, p2, hc, hm1, hm2, e3, sumL, hM]
/-! ### products -/
theorem intsD_succ {lo : Nat} {k : Nat} : intsD (lo : Int) (k + 1) = .int (lo : Int) :: intsD ((lo + 1 : Nat) : Int) k := by
  unfold intsD
  rw [List.range_succ_eq_map]
  simp [List.map_map, Function.comp]
  intro a _
  omega
theorem atI_pre {pre f : List Int} {a : Int} : L2.atI (iD (pre ++ a :: f)) ((pre.length : Nat) : Int) = some (.int a) := L2.atI_nat iD_at
theorem lprod_inner {C : Ct} {A : D} {F : List D} {a : Int} {i : Nat} (hF : L2.atI F ((i : Nat) : Int) = some (.int a)) : ∀ (g pre acc : List Int) (s4 : Sl), i + pre.length + g.length ≤ acc.length → acc.length ≤ 16777216 → (∀ b ∈ g, arith .mul a b = some (a * b)) →
    ∃ s4', forL (forB C (.nm 4) [.setI (.var 2) (.bin .add (.var 3) (.var 4)) (.bin .add (.idx (.var 2) (.bin .add (.var 3) (.var 4))) (.bin .mul (.idx (.var 0) (.var 3)) (.idx (.var 1) (.var 4))))]) (intsD (pre.length : Nat) g.length) ⟨[.val (.tup F), .val (.tup (iD (pre ++ g))), .own (iD acc), .val (.int i), s4], []⟩
      = .nx ⟨[.val (.tup F), .val (.tup (iD (pre ++ g))), .own (iD (inner i a acc pre.length g)), .val (.int i), s4'], []⟩
  | [], pre, acc, s4, h, hl, hm => ⟨s4, by simp [intsD, forL, inner]⟩
  | b :: g, pre, acc, s4, h, hl, hm => by
    simp only [List.length_cons] at h
    obtain ⟨s4', ih⟩ := lprod_inner (C := C) (A := A) hF g (pre ++ [b]) (addc acc (i + pre.length) (a * b)) (.val (.int pre.length)) (by simp; omega) (by simp; omega) (fun b hb' => hm b (List.mem_cons_of_mem _ hb'))
    refine ⟨s4', ?_⟩
    have hk : i + pre.length < acc.length := by omega
    have e1 : (iD acc)[i + pre.length]? = some (.int (acc.getD (i + pre.length) 0)) := by rw [iD_get, getD_eq hk]; rfl
    have e2 := hm b (List.mem_cons_self ..)
    have e3 : ((i : Int) + (pre.length : Int)).toNat = i + pre.length := by omega
    have e4 : (iD acc).set (i + pre.length) (.int (acc[i + pre.length]?.getD 0 + a * b)) = iD (addc acc (i + pre.length) (a * b)) := by rw [← List.getD_eq_getElem?_getD, iD_set]; rfl
    have e5 := atI_pre (pre := pre) (f := g) (a := b)
    rw [List.length_cons, intsD_succ, forL]
    have turn : forB C (.nm 4) [.setI (.var 2) (.bin .add (.var 3) (.var 4)) (.bin .add (.idx (.var 2) (.bin .add (.var 3) (.var 4))) (.bin .mul (.idx (.var 0) (.var 3)) (.idx (.var 1) (.var 4))))] (.int (pre.length : Nat)) ⟨[.val (.tup F), .val (.tup (iD (pre ++ b :: g))), .own (iD acc), .val (.int i), s4], []⟩
        = .nx ⟨[.val (.tup F), .val (.tup (iD (pre ++ b :: g))), .own (iD (addc acc (i + pre.length) (a * b))), .val (.int i), .val (.int (pre.length : Nat))], []⟩ := by
      simp (disch := omega) [e1, e2, e3, e4, e5, hF, -getElem?_pos]
    rw [turn, SR.turn_nx]
    have e6 : (pre ++ [b]).length = pre.length + 1 := by simp
    rw [e6] at ih
    simp only [List.append_assoc, List.singleton_append] at ih
    rw [ih]
    rfl
theorem lprod_outer {C : Ct} {g : List Int} : ∀ (f pre acc : List Int) (s3 s4 : Sl), pre.length + f.length + g.length ≤ acc.length + 1 → acc.length ≤ 1000000 → (∀ a ∈ f, ∀ b ∈ g, arith .mul a b = some (a * b)) →
    ∃ s3' s4', forL (forB C (.nm 3) [.for_ (.nm 4) (.rng (.blt "len" [.var 1])) [.setI (.var 2) (.bin .add (.var 3) (.var 4)) (.bin .add (.idx (.var 2) (.bin .add (.var 3) (.var 4))) (.bin .mul (.idx (.var 0) (.var 3)) (.idx (.var 1) (.var 4))))]]) (intsD (pre.length : Nat) f.length) ⟨[.val (.tup (iD (pre ++ f))), .val (.tup (iD g)), .own (iD acc), s3, s4], []⟩
      = .nx ⟨[.val (.tup (iD (pre ++ f))), .val (.tup (iD g)), .own (iD (outer g acc pre.length f)), s3', s4'], []⟩
  | [], pre, acc, s3, s4, h, hl, hm => ⟨s3, s4, by simp [intsD, forL, outer]⟩
  | a :: f, pre, acc, s3, s4, h, hl, hm => by
    simp only [List.length_cons] at h
    obtain ⟨t4, hin⟩ := lprod_inner (C := C) (A := .non) (F := iD (pre ++ a :: f)) (a := a) (i := pre.length) atI_pre g [] acc s4 (by simp; omega) (by omega) (hm a (List.mem_cons_self ..))
    obtain ⟨s3', s4', ih⟩ := lprod_outer (C := C) (g := g) f (pre ++ [a]) (inner pre.length a acc 0 g) (.val (.int pre.length)) t4 (by simp; omega) (by simp; omega) (fun b hb' => hm b (List.mem_cons_of_mem _ hb'))
    refine ⟨s3', s4', ?_⟩
    simp only [List.nil_append, List.length_nil, show ((0 : Nat) : Int) = 0 from rfl] at hin
    rw [List.length_cons, intsD_succ, forL]
    have turn : forB C (.nm 3) [.for_ (.nm 4) (.rng (.blt "len" [.var 1])) [.setI (.var 2) (.bin .add (.var 3) (.var 4)) (.bin .add (.idx (.var 2) (.bin .add (.var 3) (.var 4))) (.bin .mul (.idx (.var 0) (.var 3)) (.idx (.var 1) (.var 4))))]] (.int (pre.length : Nat)) ⟨[.val (.tup (iD (pre ++ a :: f))), .val (.tup (iD g)), .own (iD acc), s3, s4], []⟩
        = .nx ⟨[.val (.tup (iD (pre ++ a :: f))), .val (.tup (iD g)), .own (iD (inner pre.length a acc 0 g)), .val (.int (pre.length : Nat)), t4], []⟩ := by
      simp (disch := omega) [hin]
    rw [turn, SR.turn_nx]
    have e6 : (pre ++ [a]).length = pre.length + 1 := by simp
    rw [e6] at ih
    simp only [List.append_assoc, List.singleton_append] at ih
    rw [ih]
    rfl
theorem lprod_spec (hT : T.fns "_law_product" = some F_law_product) {f g : List Int} (hf : f.length ≤ 1000) (hg : g.length ≤ 1000) (hm : ∀ a ∈ f, ∀ b ∈ g, arith .mul a b = some (a * b)) : callN T (n + 1) "_law_product" [.val (.tup (iD f)), .val (.tup (iD g))] [] = .ok (.val (.tup (iD (prodL f g)))) [] := by
  rw [callN_eq hT ⟨rfl, by decide⟩]
  by_cases h0 : f = []
  · subst h0
    simp (disch := omega) [F_law_product, b_law_product, prodL]
  · have hfl := List.length_pos_iff.mpr h0
    by_cases h1 : g = []
    · subst h1
      simp (disch := omega) [F_law_product, b_law_product, prodL, eqv_nil, h0]
    · have hgl := List.length_pos_iff.mpr h1
      have hmx : ((f.length : Int) + (g.length : Int) - 1).toNat = f.length + g.length - 1 := by omega
      obtain ⟨s3, s4, hlp⟩ := lprod_outer (C := T.ct n) (g := g) f [] (List.replicate (f.length + g.length - 1) 0) .no .no (by simp; omega) (by simp; omega) hm
      simp only [List.nil_append, List.length_nil, show ((0 : Nat) : Int) = 0 from rfl] at hlp
      simp (disch := omega) [F_law_product, b_law_product, hmx, rep_flat, iD_rep, hlp, prodL, h0, h1, eqv_nil]
      rfl
/-! ### values -/
theorem mul_loop {C : Ct} {i j : Nat} : True := trivial
theorem lat_p {C : Ct} {p : Int} (hp : -1048576 < p ∧ p < 1048576) {s0 s1 s3 s4 s5 s6 s9 : Sl} : ∀ (ds : List D) (v : Int) (s8 : Sl), ∃ s8', forL (forB C (.nm 8) [.asg (.nm 7) (.bin .mul (.var 7) (.var 2))]) ds ⟨[s0, s1, .val (.int p), s3, s4, s5, s6, .val (.int v), s8, s9], []⟩ = .nx ⟨[s0, s1, .val (.int p), s3, s4, s5, s6, .val (.int (v * p ^ ds.length)), s8', s9], []⟩
  | [], v, s8 => ⟨s8, by simp [forL]⟩
  | d :: ds, v, s8 => by
    obtain ⟨s8', ih⟩ := lat_p (C := C) hp (s0 := s0) (s1 := s1) (s3 := s3) (s4 := s4) (s5 := s5) (s6 := s6) (s9 := s9) ds (v * p) (.val d)
    refine ⟨s8', ?_⟩
    rw [forL]
    have turn : forB C (.nm 8) [.asg (.nm 7) (.bin .mul (.var 7) (.var 2))] d ⟨[s0, s1, .val (.int p), s3, s4, s5, s6, .val (.int v), s8, s9], []⟩ = .nx ⟨[s0, s1, .val (.int p), s3, s4, s5, s6, .val (.int (v * p)), .val d, s9], []⟩ := by
      simp (disch := omega)
    rw [turn, SR.turn_nx, ih, List.length_cons, Int.pow_succ]
    congr 8
    grind
theorem lat_q {C : Ct} {q : Int} (hq : 0 < q ∧ q < 1048576) {s0 s1 s2 s4 s5 s6 s9 : Sl} : ∀ (ds : List D) (v : Int) (s8 : Sl), ∃ s8', forL (forB C (.nm 8) [.asg (.nm 7) (.bin .mul (.var 7) (.var 3))]) ds ⟨[s0, s1, s2, .val (.int q), s4, s5, s6, .val (.int v), s8, s9], []⟩ = .nx ⟨[s0, s1, s2, .val (.int q), s4, s5, s6, .val (.int (v * q ^ ds.length)), s8', s9], []⟩
  | [], v, s8 => ⟨s8, by simp [forL]⟩
  | d :: ds, v, s8 => by
    obtain ⟨s8', ih⟩ := lat_q (C := C) hq (s0 := s0) (s1 := s1) (s2 := s2) (s4 := s4) (s5 := s5) (s6 := s6) (s9 := s9) ds (v * q) (.val d)
    refine ⟨s8', ?_⟩
    rw [forL]
    have turn : forB C (.nm 8) [.asg (.nm 7) (.bin .mul (.var 7) (.var 3))] d ⟨[s0, s1, s2, .val (.int q), s4, s5, s6, .val (.int v), s8, s9], []⟩ = .nx ⟨[s0, s1, s2, .val (.int q), s4, s5, s6, .val (.int (v * q)), .val d, s9], []⟩ := by
      simp (disch := omega)
    rw [turn, SR.turn_nx, ih, List.length_cons, Int.pow_succ]
    congr 8
    grind
theorem lat_u {C : Ct} {q : Int} (hq : 0 < q ∧ q < 1048576) {s0 s1 s2 s4 s5 s6 s7 : Sl} : ∀ (ds : List D) (v : Int) (s8 : Sl), ∃ s8', forL (forB C (.nm 8) [.asg (.nm 9) (.bin .mul (.var 9) (.var 3))]) ds ⟨[s0, s1, s2, .val (.int q), s4, s5, s6, s7, s8, .val (.int v)], []⟩ = .nx ⟨[s0, s1, s2, .val (.int q), s4, s5, s6, s7, s8', .val (.int (v * q ^ ds.length))], []⟩
  | [], v, s8 => ⟨s8, by simp [forL]⟩
  | d :: ds, v, s8 => by
    obtain ⟨s8', ih⟩ := lat_u (C := C) hq (s0 := s0) (s1 := s1) (s2 := s2) (s4 := s4) (s5 := s5) (s6 := s6) (s7 := s7) ds (v * q) (.val d)
    refine ⟨s8', ?_⟩
    rw [forL]
    have turn : forB C (.nm 8) [.asg (.nm 9) (.bin .mul (.var 9) (.var 3))] d ⟨[s0, s1, s2, .val (.int q), s4, s5, s6, s7, s8, .val (.int v)], []⟩ = .nx ⟨[s0, s1, s2, .val (.int q), s4, s5, s6, s7, .val d, .val (.int (v * q))], []⟩ := by
      simp (disch := omega)
    rw [turn, SR.turn_nx, ih, List.length_cons, Int.pow_succ]
    congr 10
    grind
theorem lat_loop {C : Ct} {p q : Int} (hp : -1048576 < p ∧ p < 1048576) (hq : 0 < q ∧ q < 1048576) {s1 s9 : Sl} {N : Nat} (hN : N ≤ 300) : ∀ (f pre : List Int) (t : Int) (s6 s7 s8 : Sl), pre.length + f.length = N + 1 →
    ∃ s6' s7' s8', forL (forB C (.nm 6) [.asg (.nm 7) (.idx (.var 0) (.var 6)), .for_ (.nm 8) (.rng (.bin .sub (.var 5) (.var 6))) [.asg (.nm 7) (.bin .mul (.var 7) (.var 2))], .for_ (.nm 8) (.rng (.var 6)) [.asg (.nm 7) (.bin .mul (.var 7) (.var 3))], .asg (.nm 4) (.bin .add (.var 4) (.var 7))]) (intsD (pre.length : Nat) f.length)
      ⟨[.val (.tup (iD (pre ++ f))), s1, .val (.int p), .val (.int q), .val (.int t), .val (.int N), s6, s7, s8, s9], []⟩ = .nx ⟨[.val (.tup (iD (pre ++ f))), s1, .val (.int p), .val (.int q), .val (.int (t + wsum p q N pre.length f)), .val (.int N), s6', s7', s8', s9], []⟩
  | [], pre, t, s6, s7, s8, h => ⟨s6, s7, s8, by simp [intsD, forL, wsum]⟩
  | a :: f, pre, t, s6, s7, s8, h => by
    simp only [List.length_cons] at h
    obtain ⟨t8, h1⟩ := lat_p (C := C) hp (s0 := .val (.tup (iD (pre ++ a :: f)))) (s1 := s1) (s3 := .val (.int q)) (s4 := .val (.int t)) (s5 := .val (.int N)) (s6 := .val (.int pre.length)) (s9 := s9) (intsD 0 (N - pre.length)) a s8
    obtain ⟨u8, h2⟩ := lat_q (C := C) hq (s0 := .val (.tup (iD (pre ++ a :: f)))) (s1 := s1) (s2 := .val (.int p)) (s4 := .val (.int t)) (s5 := .val (.int N)) (s6 := .val (.int pre.length)) (s9 := s9) (intsD 0 pre.length) (a * p ^ (N - pre.length)) t8
    rw [intsD_len] at h1 h2
    obtain ⟨s6', s7', s8', ih⟩ := lat_loop (C := C) hp hq (s1 := s1) (s9 := s9) hN f (pre ++ [a]) (t + a * p ^ (N - pre.length) * q ^ pre.length) (.val (.int pre.length)) (.val (.int (a * p ^ (N - pre.length) * q ^ pre.length))) u8 (by simp; omega)
    refine ⟨s6', s7', s8', ?_⟩
    have e1 : ((N : Int) - (pre.length : Int)).toNat = N - pre.length := by omega
    have e5 := atI_pre (pre := pre) (f := f) (a := a)
    rw [List.length_cons, intsD_succ, forL]
    have turn : forB C (.nm 6) [.asg (.nm 7) (.idx (.var 0) (.var 6)), .for_ (.nm 8) (.rng (.bin .sub (.var 5) (.var 6))) [.asg (.nm 7) (.bin .mul (.var 7) (.var 2))], .for_ (.nm 8) (.rng (.var 6)) [.asg (.nm 7) (.bin .mul (.var 7) (.var 3))], .asg (.nm 4) (.bin .add (.var 4) (.var 7))] (.int (pre.length : Nat)) ⟨[.val (.tup (iD (pre ++ a :: f))), s1, .val (.int p), .val (.int q), .val (.int t), .val (.int N), s6, s7, s8, s9], []⟩
        = .nx ⟨[.val (.tup (iD (pre ++ a :: f))), s1, .val (.int p), .val (.int q), .val (.int (t + a * p ^ (N - pre.length) * q ^ pre.length)), .val (.int N), .val (.int (pre.length : Nat)), .val (.int (a * p ^ (N - pre.length) * q ^ pre.length)), u8, s9], []⟩ := by
      simp (disch := omega) [e1, e5, h1, h2]
    rw [turn, SR.turn_nx]
    have e6 : (pre ++ [a]).length = pre.length + 1 := by simp
    rw [e6] at ih
    simp only [List.append_assoc, List.singleton_append] at ih
    rw [ih, wsum, Int.add_assoc]
theorem lat_spec (hT : T.fns "_law_at" = some F_law_at) (hL : T.fns "_law_low" = some F_law_low) {p q : Int} (hp : -1048576 < p ∧ p < 1048576) (hq : 0 < q ∧ q < 1048576) {f : List Int} (hl : f.length ≤ 300) :
    callN T (n + 2) "_law_at" [.val (.tup (iD f)), .val (.tup [.int p, .int q])] [] = .ok (.val (lowD (hom p q f) (q ^ (f.length - 1)))) [] := by
  rw [callN_eq hT ⟨rfl, by decide⟩]
  cases f with
  | nil =>
    have hlow := low_spec (n := n) hL (t := 0) (b := 1) (by omega) (by decide)
    simp (disch := omega) [F_law_at, b_law_at, intsD, forL, hlow, hom, L2.atI, show (max (0 : Int) (-1)).toNat = 0 by decide]
  | cons a f =>
    simp only [List.length_cons] at hl
    obtain ⟨s6, s7, s8, h1⟩ := lat_loop (C := T.ct (n + 1)) hp hq (s1 := .val (.tup [.int p, .int q])) (s9 := .no) (N := f.length) (by omega) (a :: f) [] 0 .no .no .no (by simp)
    obtain ⟨t8, h2⟩ := lat_u (C := T.ct (n + 1)) hq (s0 := .val (.tup (iD (a :: f)))) (s1 := .val (.tup [.int p, .int q])) (s2 := .val (.int p)) (s4 := .val (.int (hom p q (a :: f)))) (s5 := .val (.int f.length)) (s6 := s6) (s7 := s7) (intsD 0 f.length) 1 s8
    have hpw := pow_small hq.1 hq.2 (m := f.length) (by omega)
    have hlow := low_spec (n := n) hL (t := hom p q (a :: f)) (b := q ^ f.length) hpw.1 (by
      have := pow_le (show 6000 ≤ 9000 by decide)
      omega)
    have hw := wsum_hom (p := p) (q := q) (n := f.length) (f := a :: f) (k := 0) (by simp)
    rw [intsD_len, Int.one_mul] at h2
    simp only [List.nil_append, List.length_nil, List.length_cons, show ((0 : Nat) : Int) = 0 from rfl, hw, Int.pow_zero, Int.one_mul, Int.zero_add, iD_cons] at h1 h2
    have e1 : max (0 : Int) (f.length : Int) = f.length := by omega
    simp (disch := omega) [F_law_at, b_law_at, L2.atI, h1, h2, hlow, e1]
end Fp.Z
/-! FpDraw: drawn polynomials and numbers. -/
namespace Fp.Z
open PySem Fp
variable {T : Tb} {n : Nat}
theorem trim_mem {f : List Int} {a : Int} (h : a ∈ trim f) : a ∈ f := List.mem_of_mem_drop h
theorem trim_len {f : List Int} : (trim f).length ≤ f.length := by simp [trim]
theorem all_ints {P : Int → Prop} : ∀ {ys : List D}, (∀ y ∈ ys, ∃ i : Int, y = .int i ∧ P i) → ∃ ns, ys = iD ns ∧ ∀ i ∈ ns, P i
  | [], _ => ⟨[], rfl, fun _ h => nomatch h⟩
  | y :: ys, h => by
    obtain ⟨i, rfl, hi⟩ := h y (List.mem_cons_self ..)
    obtain ⟨ns, rfl, hn⟩ := all_ints (P := P) fun y hy => h y (List.mem_cons_of_mem _ hy)
    exact ⟨i :: ns, rfl, fun j hj => by
      rcases List.mem_cons.mp hj with rfl | hj
      · exact hi
      · exact hn j hj⟩
/-- what a drawn polynomial is -/
structure Drawn (m : Nat) (far : Int) (f : List Int) : Prop where
  len : f.length ≤ m
  abs : ∀ a ∈ f, -far ≤ a ∧ a ≤ far
  poly : PolyL f
theorem lpoly_spec (hT : T.fns "_law_polynomial" = some F_law_polynomial) (hK : T.fns "_law_take" = some F_law_take) (hR : T.fns "_law_trim" = some F_law_trim) {m : Nat} {far : Int} (hm : m ≤ 100) (h0 : 0 < far) (h1 : far ≤ 1000000000000000000000000000000) {l : List D} (hp : Pot l) :
    (callN T (n + 2) "_law_polynomial" [.lnk 0, .val (.int m), .val (.int far)] [.own l]).gives fun r ps => ∃ (f : List Int) (l' : List D), r = .val (.tup (iD f)) ∧ ps = [.own l'] ∧ Drawn (m + 1) far f ∧ Pot l' := by
  apply gives_of
  intro P hP
  rw [callN_eq hT ⟨rfl, by decide⟩]
  obtain ⟨_, _, e1, r, l1, rfl, rfl, g0, g1, hp1⟩ := take_spec (n := n) hK hp (many := 14) (by omega) (by omega)
  by_cases hz : r = 0
  · subst hz
    simp (disch := omega) [F_law_polynomial, b_law_polynomial, e1]
    exact gives_ok (hP _ _ ⟨[], _, rfl, rfl, ⟨by simp, (fun a h => nomatch h), (fun a r h => nomatch h)⟩, hp1⟩)
  · obtain ⟨_, _, e2, r2, l2, rfl, rfl, k0, k1, hp2⟩ := take_spec (n := n) hK hp1 (many := (m : Int) + 1) (by omega) (by omega)
    obtain ⟨ys, e', hc1, hy, hyl, l3, rfl, hp3⟩ := compL_st (f := compB (T.ct (n + 1)) (.bin .sub (.call "_law_take" [.var 0, .bin .add (.bin .mul (.cst (.int 2)) (.var 2)) (.cst (.int 1))]) (.var 2)) (.nm 5) none [4, 5])
      (I := fun _ e => ∃ l, e = ⟨[.lnk 0, .val (.int m), .val (.int far), .no, .no, .no, .no], [.own l]⟩ ∧ Pot l) (P := fun y => ∃ i : Int, y = .int i ∧ -far ≤ i ∧ i ≤ far) (by
        rintro d ds _ ⟨l, rfl, hp⟩
        obtain ⟨_, _, e3, v, l4, rfl, rfl, v0, v1, hp4⟩ := take_spec (n := n) hK hp (many := 2 * far + 1) (by omega) (by omega)
        exact ⟨.int (v - far), _, by simp (disch := omega) [e3], ⟨_, rfl, by omega, by omega⟩, _, rfl, hp4⟩) (ds := intsD 0 (1 + r2).toNat) (e := ⟨[.lnk 0, .val (.int m), .val (.int far), .no, .no, .no, .no], [.own l2]⟩) ⟨_, rfl, hp2⟩
    obtain ⟨ns, rfl, hns⟩ := all_ints hy
    rw [iD_len, intsD_len] at hyl
    obtain ⟨zs, e'', hc2, hz2, hzl, l5, rfl, hp5, _⟩ := compL_st (f := compB (T.ct (n + 1)) (.ite (.cmp .gt (.call "_law_take" [.var 0, .cst (.int 4)]) (.cst (.int 0))) (.var 6) (.cst (.int 0))) (.nm 6) none [4, 6])
      (I := fun ds e => ∃ l, e = ⟨[.lnk 0, .val (.int m), .val (.int far), .lea (iD ns), .no, .no, .no], [.own l]⟩ ∧ Pot l ∧ ∀ d ∈ ds, ∃ i : Int, d = .int i ∧ -far ≤ i ∧ i ≤ far) (P := fun y => ∃ i : Int, y = .int i ∧ -far ≤ i ∧ i ≤ far) (by
        rintro d ds _ ⟨l, rfl, hp, hd⟩
        obtain ⟨_, _, e3, v, l4, rfl, rfl, v0, v1, hp4⟩ := take_spec (n := n) hK hp (many := 4) (by omega) (by omega)
        obtain ⟨i, rfl, hi0, hi1⟩ := hd d (List.mem_cons_self ..)
        by_cases hv : 0 < v
        · exact ⟨.int i, _, by simp (disch := omega) [e3], ⟨_, rfl, by omega, by omega⟩, _, rfl, hp4, fun d h => hd d (List.mem_cons_of_mem _ h)⟩
        · exact ⟨.int 0, _, by simp (disch := omega) [e3], ⟨_, rfl, by omega, by omega⟩, _, rfl, hp4, fun d h => hd d (List.mem_cons_of_mem _ h)⟩) (ds := iD ns) (e := ⟨[.lnk 0, .val (.int m), .val (.int far), .lea (iD ns), .no, .no, .no], [.own l3]⟩) ⟨_, rfl, hp3, hy⟩
    obtain ⟨ms, rfl, hms⟩ := all_ints hz2
    rw [iD_len, iD_len] at hzl
    have e4 := ltrim_spec (n := n) hR (f := ms) (by omega)
    by_cases ht : trim ms = []
    · obtain ⟨_, _, e6, v, l6, rfl, rfl, v0, v1, hp6⟩ := take_spec (n := n) hK hp5 (many := far) (by omega) (by omega)
      simp (disch := omega) [F_law_polynomial, b_law_polynomial, e1, e2, hc1, hc2, e4, ht, e6]
      exact gives_ok (hP _ _ ⟨[1 + v], _, rfl, rfl, ⟨by simp, fun a h => by rw [List.mem_singleton.mp h]; omega, fun a r h => by cases h; omega⟩, hp6⟩)
    · simp (disch := omega) [F_law_polynomial, b_law_polynomial, e1, e2, hc1, hc2, e4, ht, eqv_nil]
      exact gives_ok (hP _ _ ⟨trim ms, _, rfl, rfl, ⟨by have := trim_len (f := ms); omega, fun a h => hms a (trim_mem h), trim_poly⟩, hp5⟩)
theorem lfar_spec (hT : T.fns "_law_far" = some F_law_far) (hO : T.fns "_law_polynomial" = some F_law_polynomial) (hK : T.fns "_law_take" = some F_law_take) (hR : T.fns "_law_trim" = some F_law_trim) {l : List D} (hp : Pot l) :
    (callN T (n + 3) "_law_far" [.lnk 0] [.own l]).gives fun r ps => ∃ (f : List Int) (l' : List D), r = .val (.tup (iD f)) ∧ ps = [.own l'] ∧ Drawn 9 1000000000000000000000000000000 f ∧ Pot l' := by
  apply gives_of
  intro P hP
  rw [callN_eq hT ⟨rfl, by decide⟩]
  obtain ⟨_, _, e1, r, l1, rfl, rfl, g0, g1, hp1⟩ := take_spec (n := n + 1) hK hp (many := 3) (by omega) (by omega)
  have hpw : arith .pow 10 30 = some 1000000000000000000000000000000 := by decide +kernel
  have key : ∀ far : Int, L2.atI [D.int 3, D.int 20, D.int 1000000000000000000000000000000] r = some (.int far) → 0 < far → far ≤ 1000000000000000000000000000000 → (finish (execSs (T.ct (n + 2)) F_law_far.body ⟨[.lnk 0] ++ List.replicate (F_law_far.n - [Sl.lnk 0].length) .no, [.own l]⟩)).gives P := by
    intro far hf h2 h3
    obtain ⟨_, _, e2, f, l2, rfl, rfl, hd, hp2⟩ := lpoly_spec (n := n) hO hK hR (m := 8) (far := far) (by omega) h2 h3 hp1
    simp only [show ((8 : Nat) : Int) = 8 from rfl] at e2
    simp (disch := omega) [F_law_far, b_law_far, e1, hpw, hf, e2]
    exact gives_ok (hP _ _ ⟨_, _, rfl, rfl, ⟨hd.len, fun a h => by have := hd.abs a h; omega, hd.poly⟩, hp2⟩)
  have : r = 0 ∨ r = 1 ∨ r = 2 := by omega
  rcases this with rfl | rfl | rfl
  · exact key 3 rfl (by omega) (by omega)
  · exact key 20 rfl (by omega) (by omega)
  · exact key _ rfl (by omega) (by omega)
theorem ldrawn_spec (hT : T.fns "_law_drawn" = some F_law_drawn) (hK : T.fns "_law_take" = some F_law_take) (hL : T.fns "_law_low" = some F_law_low) {far : Int} (h0 : 0 < far) (h1 : far ≤ 1000) {l : List D} (hp : Pot l) :
    (callN T (n + 2) "_law_drawn" [.lnk 0, .val (.int far)] [.own l]).gives fun r ps => ∃ (p q : Int) (l' : List D), r = .val (.tup [.int p, .int q]) ∧ ps = [.own l'] ∧ -far ≤ p ∧ p ≤ far ∧ 0 < q ∧ q ≤ far + 4 ∧ Int.gcd p q = 1 ∧ Pot l' := by
  apply gives_of
  intro P hP
  rw [callN_eq hT ⟨rfl, by decide⟩]
  obtain ⟨_, _, e1, r, l1, rfl, rfl, g0, g1, hp1⟩ := take_spec (n := n) hK hp (many := 2 * far + 1) (by omega) (by omega)
  obtain ⟨_, _, e2, r2, l2, rfl, rfl, k0, k1, hp2⟩ := take_spec (n := n) hK hp1 (many := 3) (by omega) (by omega)
  have key : ∀ w : Int, L2.atI [D.int 1, D.int 4, D.int far] r2 = some (.int w) → 0 < w → w ≤ far + 4 → (finish (execSs (T.ct (n + 1)) F_law_drawn.body ⟨[.lnk 0, .val (.int far)] ++ List.replicate (F_law_drawn.n - [Sl.lnk 0, Sl.val (.int far)].length) .no, [.own l]⟩)).gives P := by
    intro w hf h2 h3
    obtain ⟨_, _, e3, v, l3, rfl, rfl, v0, v1, hp3⟩ := take_spec (n := n) hK hp2 (many := w) (by omega) (by omega)
    have e4 := low_spec (n := n) hL (t := r - far) (b := 1 + v) (by omega) (big9000 (by omega))
    obtain ⟨p, q, g, hg, hpe, hqe, hq, hc, e5⟩ := low_parts (t := r - far) (b := 1 + v) (by omega)
    rw [e5] at e4
    simp (disch := omega) [F_law_drawn, b_law_drawn, e1, e2, hf, e3, e4]
    have a1 : 1 * q ≤ g * q := Int.mul_le_mul_of_nonneg_right (by omega) (by omega)
    have a2 : p.natAbs ≤ (r - far).natAbs := by
      rw [hpe, Int.natAbs_mul]
      exact Nat.le_mul_of_pos_left _ (by omega)
    exact gives_ok (hP _ _ ⟨p, q, _, rfl, rfl, by omega, by omega, hq, by omega, hc, hp3⟩)
  have : r2 = 0 ∨ r2 = 1 ∨ r2 = 2 := by omega
  rcases this with rfl | rfl | rfl
  · exact key 1 rfl (by omega) (by omega)
  · exact key 4 rfl (by omega) (by omega)
  · exact key _ rfl (by omega) (by omega)
end Fp.Z
/-! FpK02: law k02. -/
namespace Fp.Z
open PySem Fp
def b_law_right02 : List Sm := [.asg (.tp [.nm 4, .nm 5]) (.tup [.bin .sub (.call "_law_take" [.var 0, .cst (.int 41)]) (.cst (.int 20)), .call "_law_take" [.var 0, .ite (.cmp .lt (.blt "len" [.var 1]) (.cst (.int 4))) (.cst (.int 7)) (.cst (.int 3))]]), .asg (.nm 6) (.lst [.call "_law_sum" [.var 1, .var 2], .call "_law_product" [.var 1, .var 2], .ite (.cmp .ne (.var 4) (.cst (.int 0))) (.blt "tuple" [.comp (.bin .mul (.var 4) (.var 13)) (.nm 13) (.ov (.var 1)) none [12, 13]]) (.tup [])]), .asg (.nm 7) (.lst [.call "plus" [.var 1, .var 2], .call "times" [.var 1, .var 2], .call "scaled" [.var 1, .var 4]]), .ite (.or (.not (.call "_law_same" [.var 7, .var 6])) (.not (.call "_law_same" [.lst [.callk "plus" [] [("g", .var 2), ("f", .var 1)], .callk "times" [] [("g", .var 2), ("f", .var 1)], .callk "scaled" [] [("k", .var 4), ("f", .var 1)]], .var 6]))) [.ret (.cst (.bl false))] [], .asg (.nm 8) (.tup [.cst (.int 1)]), .for_ (.nm 9) (.rng (.var 5)) [.asg (.nm 8) (.call "_law_product" [.var 8, .var 1])], .ite (.not (.call "_law_same" [.lst [.call "power" [.var 1, .var 5], .callk "power" [] [("k", .var 5), ("f", .var 1)]], .lst [.var 8, .var 8]])) [.ret (.cst (.bl false))] [], .asg (.nm 10) (.lst [.call "_law_at" [.var 1, .var 3], .call "_law_at" [.var 2, .var 3]]), .ite (.not (.call "_law_same" [.lst [.call "value" [.var 1, .var 3], .callk "value" [] [("x", .var 3), ("f", .var 2)]], .var 10])) [.ret (.cst (.bl false))] [], .asg (.nm 11) (.lst [.call "_law_plus" [.idx (.var 10) (.cst (.int 0)), .idx (.var 10) (.cst (.int 1))], .call "_law_times" [.idx (.var 10) (.cst (.int 0)), .idx (.var 10) (.cst (.int 1))], .call "_law_times" [.tup [.var 4, .cst (.int 1)], .idx (.var 10) (.cst (.int 0))]]), .ret (.call "_law_same" [.lst [.call "value" [.idx (.var 7) (.cst (.int 0)), .var 3], .call "value" [.idx (.var 7) (.cst (.int 1)), .var 3], .call "value" [.idx (.var 7) (.cst (.int 2)), .var 3]], .var 11])]
def F_law_right02 : Fn := ⟨["pot", "f", "g", "x"], 14, b_law_right02⟩
def b_law02 : List Sm := [.asg (.nm 1) (.bin .add (.lst [.cst (.int 0), .cst (.int 7), .cst (.int 3)]) (.blt "list" [.var 0])), .for_ (.nm 2) (.rng (.cst (.int 8))) [.ite (.not (.call "_law_right" [.var 1, .call "_law_far" [.var 1], .call "_law_far" [.var 1], .call "_law_drawn" [.var 1, .idx (.lst [.cst (.int 3), .cst (.int 999)]) (.call "_law_take" [.var 1, .cst (.int 2)])]])) [.ret (.cst (.bl false))] []], .ret (.cst (.bl true))]
def F_law02 : Fn := ⟨["script"], 3, b_law02⟩
structure T02 (T : Tb) : Prop where
  is_integer : T.fns "is_integer" = some ⟨["value"], 1, b_is_integer⟩
  lowest : T.fns "lowest" = some F_lowest
  is_number : T.fns "is_number" = some F_is_number
  check_number : T.fns "check_number" = some F_check_number
  check_integer : T.fns "check_integer" = some F_check_integer
  is_polynomial : T.fns "is_polynomial" = some F_is_polynomial
  check_polynomial : T.fns "check_polynomial" = some F_check_polynomial
  stripped : T.fns "stripped" = some F_stripped
  value_of : T.fns "value_of" = some F_value_of
  value : T.fns "value" = some F_value
  padded : T.fns "padded" = some F_padded
  sum_of : T.fns "sum_of" = some F_sum_of
  times_of_two : T.fns "times_of_two" = some F_times_of_two
  scaled_by : T.fns "scaled_by" = some F_scaled_by
  plus : T.fns "plus" = some F_plus
  times : T.fns "times" = some F_times
  scaled : T.fns "scaled" = some F_scaled
  power : T.fns "power" = some F_power
  law_take : T.fns "_law_take" = some F_law_take
  law_same : T.fns "_law_same" = some F_law_same
  law_low : T.fns "_law_low" = some F_law_low
  law_plus : T.fns "_law_plus" = some F_law_plus
  law_times : T.fns "_law_times" = some F_law_times
  law_trim : T.fns "_law_trim" = some F_law_trim
  law_sum : T.fns "_law_sum" = some F_law_sum
  law_product : T.fns "_law_product" = some F_law_product
  law_at : T.fns "_law_at" = some F_law_at
  law_polynomial : T.fns "_law_polynomial" = some F_law_polynomial
  law_drawn : T.fns "_law_drawn" = some F_law_drawn
  law_far : T.fns "_law_far" = some F_law_far
  law_right : T.fns "_law_right" = some F_law_right02
  law : T.fns "law" = some F_law02
variable {T : Tb}
theorem T02.chk (h : T02 T) : ChkOk T := ⟨h.is_integer, h.is_polynomial, h.check_polynomial⟩
/-! ### the values of sums and products -/
theorem val_low {p q : Int} (hq : 0 < q) {f : List Int} : lowD (hom p q f) (q ^ (f.length - 1)) = lowD (q * hom p q f) (q ^ f.length) := by
  refine lowD_eq (Int.pow_pos hq) (Int.pow_pos hq) ?_
  cases f with
  | nil => simp [hom]
  | cons a f =>
    simp only [List.length_cons, Nat.add_sub_cancel, Int.pow_succ]
    grind
theorem trim_split {f : List Int} : f = List.replicate (lead f) 0 ++ trim f := by
  induction f with
  | nil => rfl
  | cons a f ih =>
    by_cases h : a = 0
    · subst h
      have e : lead (0 :: f) = lead f + 1 := by simp [lead]
      have e2 : trim (0 :: f) = trim f := by simp [trim, lead]
      rw [e, e2, List.replicate_succ, List.cons_append, ← ih]
    · simp [lead, trim, h]
theorem hom_trim {p q : Int} {f : List Int} : hom p q f = q ^ lead f * hom p q (trim f) := by
  conv => lhs; rw [trim_split (f := f)]
  exact hom_rep
theorem sum_val {p q : Int} (hq : 0 < q) {f g : List Int} : lowD (hom p q (sumL f g)) (q ^ ((sumL f g).length - 1)) = lowD (hom p q f * q ^ (g.length - 1) + hom p q g * q ^ (f.length - 1)) (q ^ (f.length - 1) * q ^ (g.length - 1)) := by
  have c1 : lowD (hom p q f * q ^ (g.length - 1) + hom p q g * q ^ (f.length - 1)) (q ^ (f.length - 1) * q ^ (g.length - 1)) = lowD (q * (hom p q f * q ^ g.length + hom p q g * q ^ f.length)) (q ^ f.length * q ^ g.length) := by
    refine lowD_eq (Int.mul_pos (Int.pow_pos hq) (Int.pow_pos hq)) (Int.mul_pos (Int.pow_pos hq) (Int.pow_pos hq)) ?_
    cases f with
    | nil =>
      cases g with
      | nil => simp [hom]
      | cons b g =>
        simp only [List.length_cons, Nat.add_sub_cancel, Int.pow_succ, hom, List.length_nil, Int.pow_zero]
        grind
    | cons a f =>
      cases g with
      | nil =>
        simp only [List.length_cons, Nat.add_sub_cancel, Int.pow_succ, hom, List.length_nil, Int.pow_zero]
        grind
      | cons b g =>
        simp only [List.length_cons, Nat.add_sub_cancel, Int.pow_succ]
        grind
  rw [val_low hq, c1]
  have hm1 : f.length ≤ max f.length g.length := Nat.le_max_left ..
  have hm2 : g.length ≤ max f.length g.length := Nat.le_max_right ..
  unfold sumL
  generalize hM : max f.length g.length = m at hm1 hm2
  generalize hz : List.zipWith (· + ·) (padL m f) (padL m g) = z
  have hzl : z.length = m := by rw [← hz]; simp [hm1, hm2]
  have e1 : hom p q z = q ^ (m - f.length) * hom p q f + q ^ (m - g.length) * hom p q g := by
    rw [← hz, hom_add (by rw [padL_len hm1, padL_len hm2]), padL, padL, hom_rep, hom_rep]
  have e2 := hom_trim (p := p) (q := q) (f := z)
  have e3 : lead z + (trim z).length = m := by
    have := lead_le (f := z)
    simp [trim]
    omega
  refine lowD_eq (Int.pow_pos hq) (Int.mul_pos (Int.pow_pos hq) (Int.pow_pos hq)) ?_
  have hne : q ^ lead z ≠ 0 := Int.ne_of_gt (Int.pow_pos hq)
  apply Int.eq_of_mul_eq_mul_left hne
  obtain ⟨i, hi⟩ : ∃ i, m = i + f.length := ⟨m - f.length, by omega⟩
  obtain ⟨j, hj⟩ : ∃ j, m = j + g.length := ⟨m - g.length, by omega⟩
  have e4 : m - f.length = i := by omega
  have e5 : m - g.length = j := by omega
  rw [e4, e5, e2] at e1
  have e6 : q ^ lead z * q ^ (trim z).length = q ^ i * q ^ f.length := by rw [← Int.pow_add, ← Int.pow_add, e3, hi]
  have e7 : q ^ i * q ^ f.length = q ^ j * q ^ g.length := by rw [← Int.pow_add, ← Int.pow_add, ← hi, hj]
  generalize q ^ lead z = A at *
  generalize q ^ (trim z).length = B at *
  generalize q ^ i = I at *
  generalize q ^ j = J at *
  generalize q ^ f.length = X at *
  generalize q ^ g.length = Y at *
  generalize hom p q (trim z) = H at *
  generalize hom p q f = F at *
  generalize hom p q g = G at *
  grind
theorem prod_val {p q : Int} (hq : 0 < q) {f g : List Int} : lowD (hom p q (prodL f g)) (q ^ ((prodL f g).length - 1)) = lowD (hom p q f * hom p q g) (q ^ (f.length - 1) * q ^ (g.length - 1)) := by
  refine lowD_eq (Int.pow_pos hq) (Int.mul_pos (Int.pow_pos hq) (Int.pow_pos hq)) ?_
  unfold prodL
  by_cases h : f = [] ∨ g = []
  · rw [if_pos h]
    rcases h with h | h <;> subst h <;> simp [hom]
  · rw [if_neg h]
    have hf : f ≠ [] := fun q => h (.inl q)
    have hg : g ≠ [] := fun q => h (.inr q)
    have a := List.length_pos_iff.mpr hf
    have b := List.length_pos_iff.mpr hg
    rw [hom_conv hf hg, conv_len, ← Int.pow_add]
    congr 2
    omega
theorem scale_val {p q k : Int} (hq : 0 < q) {f : List Int} : lowD (hom p q (scaleL k f)) (q ^ ((scaleL k f).length - 1)) = lowD (k * hom p q f) (1 * q ^ (f.length - 1)) := by
  refine lowD_eq (Int.pow_pos hq) (Int.mul_pos (by omega) (Int.pow_pos hq)) ?_
  unfold scaleL
  by_cases h : k = 0
  · simp [h, hom]
  · rw [if_neg h, hom_scale, List.length_map, Int.one_mul]
/-! ### sizes -/
theorem nrm_le {far : Int} {f : List Int} (h : ∀ a ∈ f, -far ≤ a ∧ a ≤ far) : nrm f ≤ f.length * far.toNat := by
  induction f with
  | nil => simp [nrm]
  | cons a f ih =>
    have h1 := h a (List.mem_cons_self ..)
    have h2 := ih fun b hb => h b (List.mem_cons_of_mem _ hb)
    rw [nrm, List.length_cons, Nat.add_mul, Nat.one_mul]
    omega
theorem Drawn.nrm {f : List Int} (h : Drawn 9 1000000000000000000000000000000 f) : nrm f < 2 ^ 110 := by
  have h1 := nrm_le h.abs
  have h2 : f.length * (1000000000000000000000000000000 : Int).toNat ≤ 9 * (1000000000000000000000000000000 : Int).toNat := Nat.mul_le_mul_right _ h.len
  have : (9 : Nat) * (1000000000000000000000000000000 : Int).toNat < 2 ^ 110 := by decide
  omega
theorem hom_abs {p q : Int} {M : Nat} (hp : p.natAbs ≤ M) (hq : q.natAbs ≤ M) (hM : 1 ≤ M) : ∀ {f : List Int}, (hom p q f).natAbs ≤ nrm f * M ^ f.length
  | [] => by simp [hom, nrm]
  | a :: f => by
    have ih := hom_abs hp hq hM (f := f)
    have h1 : (a * p ^ f.length).natAbs ≤ a.natAbs * M ^ (f.length + 1) := by
      rw [Int.natAbs_mul, Int.natAbs_pow]
      refine Nat.mul_le_mul_left _ (Nat.le_trans (Nat.pow_le_pow_left hp _) (Nat.pow_le_pow_right hM (by omega)))
    have h2 : (q * hom p q f).natAbs ≤ nrm f * M ^ (f.length + 1) := by
      rw [Int.natAbs_mul, Nat.pow_succ]
      calc q.natAbs * (hom p q f).natAbs ≤ M * (nrm f * M ^ f.length) := Nat.mul_le_mul hq ih
        _ = nrm f * (M ^ f.length * M) := by grind
    have h3 := Int.natAbs_add_le (a * p ^ f.length) (q * hom p q f)
    rw [hom, nrm, List.length_cons, Nat.add_mul]
    omega
theorem fr_ok {p q : Int} (hp : -1048576 < p ∧ p < 1048576) (hq : 0 < q ∧ q < 1048576) {f : List Int} (hl : f.length ≤ 100) (hn : nrm f < 2 ^ 9000) : FrOk (hom p q f) (q ^ (f.length - 1)) := by
  refine ⟨Int.pow_pos hq.1, ?_, ?_⟩
  · obtain ⟨k, rfl⟩ : ∃ k : Nat, q = k := ⟨q.toNat, by omega⟩
    have h2 : k ^ (f.length - 1) ≤ (2 ^ 20) ^ (f.length - 1) := Nat.pow_le_pow_left (by omega) _
    rw [← Nat.pow_mul] at h2
    have h3 : (2 : Nat) ^ (20 * (f.length - 1)) < 2 ^ 4000 := Nat.pow_lt_pow_right (by decide) (by omega)
    have h4 : k ^ (f.length - 1) < 2 ^ 4000 := by omega
    exact_mod_cast h4
  · have h1 := hom_abs (p := p) (q := q) (M := 2 ^ 20) (by omega) (by omega) (by decide) (f := f)
    rw [← Nat.pow_mul] at h1
    have h2 : nrm f * 2 ^ (20 * f.length) < 2 ^ 9000 * 2 ^ (20 * f.length) := Nat.mul_lt_mul_of_pos_right hn (Nat.pow_pos (by decide))
    rw [← Nat.pow_add] at h2
    have h3 : (2 : Nat) ^ (9000 + 20 * f.length) ≤ 2 ^ 1000000 := Nat.pow_le_pow_right (by decide) (by omega)
    omega
/-! ### what sums and products are -/
theorem addc_head {f : List Int} {k : Nat} {v : Int} (h : 0 < k) : (addc f k v).getD 0 0 = f.getD 0 0 := by
  cases f with
  | nil => simp [addc]
  | cons a f =>
    obtain ⟨k, rfl⟩ : ∃ m, k = m + 1 := ⟨k - 1, by omega⟩
    simp [addc]
theorem inner_head {i : Nat} {a : Int} : ∀ {bs acc : List Int} {j : Nat}, 0 < i + j → (inner i a acc j bs).getD 0 0 = acc.getD 0 0
  | [], acc, j, h => rfl
  | b :: bs, acc, j, h => by rw [inner, inner_head (by omega), addc_head h]
theorem outer_head {g : List Int} : ∀ {as acc : List Int} {i : Nat}, 0 < i → (outer g acc i as).getD 0 0 = acc.getD 0 0
  | [], acc, i, h => rfl
  | a :: as, acc, i, h => by rw [outer, outer_head (by omega), inner_head (by omega)]
theorem prod_poly {f g : List Int} (hf : PolyL f) (hg : PolyL g) : PolyL (prodL f g) := by
  unfold prodL
  by_cases h : f = [] ∨ g = []
  · rw [if_pos h]
    exact fun a r e => nomatch e
  · rw [if_neg h]
    cases f with
    | nil => exact absurd (.inl rfl) h
    | cons a f =>
      cases g with
      | nil => exact absurd (.inr rfl) h
      | cons b g =>
        intro c r e
        have e1 : (conv (a :: f) (b :: g)).getD 0 0 = a * b := by
          unfold conv
          rw [outer, outer_head (by omega), inner, inner_head (by omega)]
          have : (a :: f).length + (b :: g).length - 1 = (f.length + g.length) + 1 := by simp; omega
          rw [this, List.replicate_succ]
          simp [addc]
        rw [e] at e1
        simp at e1
        rw [e1]
        exact Int.mul_ne_zero (hf a f rfl) (hg b g rfl)
theorem scale_poly {k : Int} {f : List Int} (hf : PolyL f) : PolyL (scaleL k f) := by
  unfold scaleL
  by_cases h : k = 0
  · rw [if_pos h]
    exact fun a r e => nomatch e
  · rw [if_neg h]
    cases f with
    | nil => exact fun a r e => nomatch e
    | cons a f =>
      intro c r e
      simp at e
      rw [← e.1]
      exact Int.mul_ne_zero h (hf a f rfl)
theorem scale_nrm {k : Int} {f : List Int} : nrm (scaleL k f) ≤ k.natAbs * nrm f := by
  unfold scaleL
  split
  · simp [nrm]
  · induction f with
    | nil => simp [nrm]
    | cons a f ih =>
      simp only [List.map_cons, nrm, Int.natAbs_mul, Nat.mul_add]
      omega
theorem scale_len {k : Int} {f : List Int} : (scaleL k f).length ≤ f.length := by
  unfold scaleL
  split <;> simp
theorem nrm_drop : ∀ {f : List Int} {k : Nat}, nrm (f.drop k) ≤ nrm f
  | [], k => by simp
  | a :: f, 0 => by simp
  | a :: f, k + 1 => by
    have := nrm_drop (f := f) (k := k)
    simp [nrm]
    omega
theorem nrm_zip : ∀ {f g : List Int}, nrm (List.zipWith (· + ·) f g) ≤ nrm f + nrm g
  | [], g => by simp [nrm]
  | a :: f, [] => by simp [nrm]
  | a :: f, b :: g => by
    have := nrm_zip (f := f) (g := g)
    simp only [List.zipWith_cons_cons, nrm]
    omega
theorem nrm_app {f g : List Int} : nrm (f ++ g) = nrm f + nrm g := by
  induction f with
  | nil => simp [nrm]
  | cons a f ih => simp only [List.cons_append, nrm, ih]; omega
theorem nrm_pad {m : Nat} {f : List Int} : nrm (padL m f) = nrm f := by simp [padL, nrm_app]
theorem sum_nrm {f g : List Int} : nrm (sumL f g) ≤ nrm f + nrm g := by
  unfold sumL trim
  have h1 := nrm_drop (f := List.zipWith (· + ·) (padL (max f.length g.length) f) (padL (max f.length g.length) g)) (k := lead (List.zipWith (· + ·) (padL (max f.length g.length) f) (padL (max f.length g.length) g)))
  have h2 := nrm_zip (f := padL (max f.length g.length) f) (g := padL (max f.length g.length) g)
  rw [nrm_pad, nrm_pad] at h2
  omega
theorem sum_len {f g : List Int} : (sumL f g).length ≤ max f.length g.length := by
  unfold sumL
  refine Nat.le_trans trim_len ?_
  rw [List.length_zipWith, padL_len (Nat.le_max_left ..)]
  omega
theorem small_of {f : List Int} {b : Nat} (h : nrm f < 2 ^ b) (hb : b ≤ 9000) : ∀ a ∈ f, a.natAbs < 2 ^ 9000 := fun a ha => by
  have h1 := nrm_mem ha
  have h2 : (2 : Nat) ^ b ≤ 2 ^ 9000 := Nat.pow_le_pow_right (by decide) hb
  omega
@[simp] theorem idxO_low {e : Env} {l : Loc} {ds : List D} {j : Nat} {t b : Int} : idxO e l ds j (some (lowD t b)) = .ok (.val (lowD t b)) e := nr rfl
@[simp] theorem frz_low {t b : Int} : frz1 (lowD t b) = lowD t b := nr rfl
theorem Lv_low {k : Nat} {t b : Int} : Lv (k + 1) (lowD t b) := Lv.ints (ns := [_, _]) (by simp)
theorem lpow_loop {n : Nat} {f : List Int} (hO : T.fns "_law_product" = some F_law_product) {b : Nat} (hf : nrm f < 2 ^ b) (hb : 0 < b) (hbb : b ≤ 1000000) (hfl : f.length ≤ 50) {s0 s2 s3 s4 s5 s6 s7 s10 s11 s12 s13 : Sl} {ps : List Pst} : ∀ (ds : List D) (k : Nat) (s : Sl), k + ds.length ≤ 10 →
    ∃ s', forL (forB (T.ct (n + 1)) (.nm 9) [.asg (.nm 8) (.call "_law_product" [.var 8, .var 1])]) ds ⟨[s0, .val (.tup (iD f)), s2, s3, s4, s5, s6, s7, .val (.tup (iD (powL f k))), s, s10, s11, s12, s13], ps⟩ = .nx ⟨[s0, .val (.tup (iD f)), s2, s3, s4, s5, s6, s7, .val (.tup (iD (powL f (k + ds.length)))), s', s10, s11, s12, s13], ps⟩
  | [], k, s, h => ⟨s, rfl⟩
  | d :: ds, k, s, h => by
    simp only [List.length_cons] at h ⊢
    obtain ⟨s', ih⟩ := lpow_loop (n := n) hO hf hb hbb hfl (s0 := s0) (s2 := s2) (s3 := s3) (s4 := s4) (s5 := s5) (s6 := s6) (s7 := s7) (s10 := s10) (s11 := s11) (s12 := s12) (s13 := s13) (ps := ps) ds (k + 1) (.val d) (by omega)
    refine ⟨s', ?_⟩
    have hl := powL_len (f := f) (k := k)
    have hl2 : k * f.length ≤ 10 * 50 := Nat.mul_le_mul (by omega) hfl
    have hx : b * (k + 2) ≤ 1000000 * 12 := Nat.mul_le_mul hbb (by omega)
    have e1 := lprod_spec (n := n) hO (f := powL f k) (g := f) (by omega) (by omega) (powL_mul hf (by omega) hb)
    rw [forL]
    have turn : forB (T.ct (n + 1)) (.nm 9) [.asg (.nm 8) (.call "_law_product" [.var 8, .var 1])] d ⟨[s0, .val (.tup (iD f)), s2, s3, s4, s5, s6, s7, .val (.tup (iD (powL f k))), s, s10, s11, s12, s13], ps⟩ = .nx ⟨[s0, .val (.tup (iD f)), s2, s3, s4, s5, s6, s7, .val (.tup (iD (powL f (k + 1)))), .val d, s10, s11, s12, s13], ps⟩ := by
      simp (disch := omega) [e1, powL]
    rw [turn, SR.turn_nx, ih, show k + 1 + ds.length = k + (ds.length + 1) by omega]
theorem right02 (h : T02 T) {f g : List Int} (df : Drawn 9 1000000000000000000000000000000 f) (dg : Drawn 9 1000000000000000000000000000000 g) {p q : Int} (hp : -1048576 < p ∧ p < 1048576) (hq : 0 < q ∧ q < 1048576) (hc : Int.gcd p q = 1) {l : List D} (hpt : Pot l) :
    (callN T 20 "_law_right" [.lnk 0, .val (.tup (iD f)), .val (.tup (iD g)), .val (.tup [.int p, .int q])] [.own l]).gives fun r ps => ∃ l' : List D, r = .val (.bl true) ∧ ps = [.own l'] ∧ Pot l' := by
  apply gives_of
  intro P hP
  rw [callN_eq h.law_right ⟨rfl, by decide⟩]
  have fl := df.len
  have gl := dg.len
  have nf := df.nrm
  have ng := dg.nrm
  obtain ⟨_, _, e1, r, l1, rfl, rfl, r0, r1, hp1⟩ := take_spec (n := 18) h.law_take hpt (many := 41) (by omega) (by omega)
  obtain ⟨K, hK⟩ : ∃ K, r - 20 = K := ⟨_, rfl⟩
  obtain ⟨m, hm, mp, mle⟩ : ∃ m : Int, m = (if f.length < 4 then 7 else 3) ∧ 0 < m ∧ m ≤ 7 := ⟨_, rfl, by split <;> omega, by split <;> omega⟩
  obtain ⟨_, _, e2, v, l2, rfl, rfl, v0, v1, hp2⟩ := take_spec (n := 18) h.law_take hp1 (many := m) mp (by omega)
  obtain ⟨w, rfl⟩ : ∃ w : Nat, v = w := ⟨v.toNat, by omega⟩
  have hk : -18446744073709551616 < K ∧ K < 18446744073709551616 := by omega
  have hkm : ∀ a ∈ f, arith .mul K a = some (K * a) := fun a _ => ar_mulL hk
  have hmm := ar_mulN nf ng (by decide)
  have e3 := lsum_spec (n := 17) h.law_sum h.law_trim (f := f) (g := g) (by omega) (by omega)
  have e4 := lprod_spec (n := 18) h.law_product (f := f) (g := g) (by omega) (by omega) hmm
  have e5 := plus_spec (n := 15) h.chk h.plus h.sum_of h.padded h.stripped (f := f) (g := g) df.poly dg.poly (by omega) (by omega)
  have e6 := times_spec (n := 15) h.chk h.times h.times_of_two (f := f) (g := g) df.poly dg.poly (by omega) (by omega) hmm
  have e7 := scaled_spec (n := 15) h.chk h.scaled h.scaled_by h.check_integer (f := f) (k := K) df.poly (by omega) hkm
  have e8 := power_spec (n := 15) h.chk h.power h.times_of_two h.check_integer (f := f) (k := w) (by omega) df.poly nf (by decide) (by decide) (by omega)
  have e9 := lat_spec (n := 17) h.law_at h.law_low hp hq (f := f) (by omega)
  have e10 := lat_spec (n := 17) h.law_at h.law_low hp hq (f := g) (by omega)
  have e11 := value_spec (n := 15) h.chk h.value h.value_of h.lowest h.check_number h.is_number hp hq hc (f := f) df.poly (by omega) (small_of nf (by decide))
  have e12 := value_spec (n := 15) h.chk h.value h.value_of h.lowest h.check_number h.is_number hp hq hc (f := g) dg.poly (by omega) (small_of ng (by decide))
  have sl := sum_len (f := f) (g := g)
  have pl := prodL_len (f := f) (g := g)
  have kl := scale_len (f := f) (k := K)
  have sn := sum_nrm (f := f) (g := g)
  have pn := prodL_nrm (f := f) (g := g)
  have kn := scale_nrm (f := f) (k := K)
  have sn' : nrm (sumL f g) < 2 ^ 300 := by
    have : (2 : Nat) ^ 110 + 2 ^ 110 < 2 ^ 300 := by decide
    omega
  have pn' : nrm (prodL f g) < 2 ^ 300 := by
    have h1 : nrm f * nrm g < 2 ^ 110 * 2 ^ 110 := Nat.mul_lt_mul'' nf ng
    have : (2 : Nat) ^ 110 * 2 ^ 110 < 2 ^ 300 := by decide
    omega
  have kn' : nrm (scaleL K f) < 2 ^ 300 := by
    have h1 : K.natAbs * nrm f ≤ 100 * 2 ^ 110 := Nat.mul_le_mul (by omega) (by omega)
    have : (100 : Nat) * 2 ^ 110 < 2 ^ 300 := by decide
    omega
  have e13 := value_spec (n := 15) h.chk h.value h.value_of h.lowest h.check_number h.is_number hp hq hc (f := sumL f g) (by unfold sumL; exact trim_poly) (by omega) (small_of sn' (by decide))
  have e14 := value_spec (n := 15) h.chk h.value h.value_of h.lowest h.check_number h.is_number hp hq hc (f := prodL f g) (prod_poly df.poly dg.poly) (by omega) (small_of pn' (by decide))
  have e15 := value_spec (n := 15) h.chk h.value h.value_of h.lowest h.check_number h.is_number hp hq hc (f := scaleL K f) (scale_poly df.poly) (by omega) (small_of kn' (by decide))
  rw [sum_val hq.1] at e13
  rw [prod_val hq.1] at e14
  rw [scale_val hq.1] at e15
  have oF := fr_ok hp hq (f := f) (by omega) (by have : (2 : Nat) ^ 110 ≤ 2 ^ 9000 := Nat.pow_le_pow_right (by decide) (by decide); omega)
  have oG := fr_ok hp hq (f := g) (by omega) (by have : (2 : Nat) ^ 110 ≤ 2 ^ 9000 := Nat.pow_le_pow_right (by decide) (by decide); omega)
  have oK : FrOk K 1 := ⟨by omega, by have := pow_le (show 1 ≤ 4000 by decide); omega, by
    have : (2 : Nat) ^ 64 ≤ 2 ^ 1000000 := Nat.pow_le_pow_right (by decide) (by decide)
    omega⟩
  have kD : lowD K 1 = .tup [.int K, .int 1] := by simp [lowD]
  have e16 := lplus_spec (n := 17) h.law_plus h.law_low oF oG
  have e17 := ltimes_spec (n := 17) h.law_times h.law_low oF oG
  have e18 := ltimes_spec (n := 17) h.law_times h.law_low oK oF
  rw [kD] at e18
  obtain ⟨t9, e19⟩ := lpow_loop (n := 18) h.law_product nf (by decide) (by decide) (by omega) (s0 := .lnk 0) (s2 := .val (.tup (iD g))) (s3 := .val (.tup [.int p, .int q])) (s4 := .val (.int K)) (s5 := .val (.int w)) (s6 := .own [.tup (iD (sumL f g)), .tup (iD (prodL f g)), .tup (iD (scaleL K f))]) (s7 := .own [.tup (iD (sumL f g)), .tup (iD (prodL f g)), .tup (iD (scaleL K f))]) (s10 := .no) (s11 := .no) (s12 := .no) (s13 := .no) (ps := [.own l2]) (intsD 0 w) 0 .no (by rw [intsD_len]; omega)
  rw [intsD_len, Nat.zero_add, show powL f 0 = [1] from rfl] at e19
  simp only [iD_cons, iD_nil] at e19
  have c1 := compL_mapL (ps := f) (h := D.int) (f := compB (T.ct 19) (.bin .mul (.var 4) (.var 13)) (.nm 13) none [12, 13]) (g := fun a => D.int (K * a)) (e := ⟨[.lnk 0, .val (.tup (iD f)), .val (.tup (iD g)), .val (.tup [.int p, .int q]), .val (.int K), .val (.int w), .no, .no, .no, .no, .no, .no, .no, .no], [.own l2]⟩) fun a ha => by simp (disch := omega)
  have c2 : (f.map fun a => D.int (K * a)) = iD (f.map fun a => K * a) := by simp [iD]
  rw [c2] at c1
  have c1 : compL (compB (T.ct 19) (.bin .mul (.var 4) (.var 13)) (.nm 13) none [12, 13]) (iD f) ⟨[.lnk 0, .val (.tup (iD f)), .val (.tup (iD g)), .val (.tup [.int p, .int q]), .val (.int K), .val (.int w), .no, .no, .no, .no, .no, .no, .no, .no], [.own l2]⟩ = _ := c1
  have l3 : ∀ x ∈ [D.tup (iD (sumL f g)), D.tup (iD (prodL f g)), D.tup (iD (scaleL K f))], Lv 1 x := by
    intro x hx
    simp at hx
    rcases hx with rfl | rfl | rfl <;> exact Lv.ints (by omega)
  have s1 := same_own (n := 18) h.law_same (k := 1) (xs := [.tup (iD (sumL f g)), .tup (iD (prodL f g)), .tup (iD (scaleL K f))]) (ys := [.tup (iD (sumL f g)), .tup (iD (prodL f g)), .tup (iD (scaleL K f))]) (by omega) rfl rfl ⟨by simp, l3⟩
  have pwl := powL_len (f := f) (k := w)
  have pwl2 : w * f.length ≤ 7 * 9 := Nat.mul_le_mul (by omega) fl
  have s2 := same_own (n := 18) h.law_same (k := 1) (xs := [.tup (iD (powL f w)), .tup (iD (powL f w))]) (ys := [.tup (iD (powL f w)), .tup (iD (powL f w))]) (by omega) rfl rfl ⟨by simp, fun x hx => by
    simp at hx
    rw [hx]
    exact Lv.ints (by omega)⟩
  have s3 := same_own (n := 18) h.law_same (k := 1) (xs := [lowD (hom p q f) (q ^ (f.length - 1)), lowD (hom p q g) (q ^ (g.length - 1))]) (ys := [lowD (hom p q f) (q ^ (f.length - 1)), lowD (hom p q g) (q ^ (g.length - 1))]) (by omega) rfl rfl ⟨by simp, fun x hx => by
    simp at hx
    rcases hx with rfl | rfl <;> exact Lv_low⟩
  have s4 := same_own (n := 18) h.law_same (k := 1) (xs := [lowD (hom p q f * q ^ (g.length - 1) + hom p q g * q ^ (f.length - 1)) (q ^ (f.length - 1) * q ^ (g.length - 1)), lowD (hom p q f * hom p q g) (q ^ (f.length - 1) * q ^ (g.length - 1)), lowD (K * hom p q f) (1 * q ^ (f.length - 1))]) (ys := [lowD (hom p q f * q ^ (g.length - 1) + hom p q g * q ^ (f.length - 1)) (q ^ (f.length - 1) * q ^ (g.length - 1)), lowD (hom p q f * hom p q g) (q ^ (f.length - 1) * q ^ (g.length - 1)), lowD (K * hom p q f) (1 * q ^ (f.length - 1))]) (zs := [lowD (hom p q f * q ^ (g.length - 1) + hom p q g * q ^ (f.length - 1)) (q ^ (f.length - 1) * q ^ (g.length - 1)), lowD (hom p q f * hom p q g) (q ^ (f.length - 1) * q ^ (g.length - 1)), lowD (K * hom p q f) (1 * q ^ (f.length - 1))]) (by omega) rfl rfl ⟨by simp, fun x hx => by
    simp only [List.mem_cons, List.not_mem_nil, or_false] at hx
    rcases hx with hx | hx | hx <;> rw [hx] <;> exact Lv_low⟩
  have kw1 : (T.fns "plus").map (·.ps) = some ["f", "g"] := by rw [h.plus]; rfl
  have kw2 : (T.fns "times").map (·.ps) = some ["f", "g"] := by rw [h.times]; rfl
  have kw3 : (T.fns "scaled").map (·.ps) = some ["f", "k"] := by rw [h.scaled]; rfl
  have kw4 : (T.fns "power").map (·.ps) = some ["f", "k"] := by rw [h.power]; rfl
  have kw5 : (T.fns "value").map (·.ps) = some ["f", "x"] := by rw [h.value]; rfl
  generalize hV1 : lowD (hom p q f) (q ^ (f.length - 1)) = V1 at *
  generalize hV2 : lowD (hom p q g) (q ^ (g.length - 1)) = V2 at *
  generalize hV3 : lowD (hom p q f * q ^ (g.length - 1) + hom p q g * q ^ (f.length - 1)) (q ^ (f.length - 1) * q ^ (g.length - 1)) = V3 at *
  generalize hV4 : lowD (hom p q f * hom p q g) (q ^ (f.length - 1) * q ^ (g.length - 1)) = V4 at *
  generalize hV5 : lowD (K * hom p q f) (1 * q ^ (f.length - 1)) = V5 at *
  have i1 : ∀ e l ds j, idxO e l ds j (some V1) = .ok (.val V1) e := fun e l ds j => by rw [← hV1]; exact idxO_low
  have i2 : ∀ e l ds j, idxO e l ds j (some V2) = .ok (.val V2) e := fun e l ds j => by rw [← hV2]; exact idxO_low
  have f1 : frz1 V1 = V1 := by rw [← hV1]; rfl
  have f2 : frz1 V2 = V2 := by rw [← hV2]; rfl
  have f3 : frz1 V3 = V3 := by rw [← hV3]; rfl
  have f4 : frz1 V4 = V4 := by rw [← hV4]; rfl
  have f5 : frz1 V5 = V5 := by rw [← hV5]; rfl
  have hS : K = 0 → scaleL K f = [] := fun q => by unfold scaleL; rw [if_pos q]
  have hS' : K ≠ 0 → (f.map fun a => K * a) = scaleL K f := fun q => by unfold scaleL; rw [if_neg q]
  generalize hZ : scaleL K f = Z at *
  have kp1 : kwPerm ["f", "g"] ["g", "f"] 0 = some [1, 0] := by decide
  have kp2 : kwPerm ["f", "k"] ["k", "f"] 0 = some [1, 0] := by decide
  have kp3 : kwPerm ["f", "x"] ["x", "f"] 0 = some [1, 0] := by decide
  have fin : P (.val (.bl true)) [.own l2] := hP _ _ ⟨_, rfl, rfl, hp2⟩
  by_cases h4 : f.length < 4
  · rw [if_pos h4] at hm
    subst hm
    by_cases hk0 : K = 0
    · have := hS hk0
      subst this
      subst hk0
      simp only [iD_nil] at e7 e15 l3 s1 e19
      simp (disch := omega) [F_law_right02, b_law_right02, e1, e2, h4, hK, e3, e4, e5, e6, e7, s1, kw1, kw2, kw3, kw4, kw5, kwRvs, kp1, kp2, kp3, Rv.old, e19, e8, s2, e9, e10, e11, e12, s3, i1, i2, f1, f2, f3, f4, f5, e16, e17, e18, e13, e14, e15, s4, locsApart]
      exact gives_ok fin
    · rw [hS' hk0] at c1
      simp (disch := omega) [F_law_right02, b_law_right02, e1, e2, h4, hK, e3, e4, e5, e6, e7, s1, kw1, kw2, kw3, kw4, kw5, kwRvs, kp1, kp2, kp3, Rv.old, e19, e8, s2, e9, e10, e11, e12, s3, i1, i2, f1, f2, f3, f4, f5, e16, e17, e18, e13, e14, e15, s4, locsApart, c1, hk0]
      exact gives_ok fin
  · rw [if_neg h4] at hm
    subst hm
    by_cases hk0 : K = 0
    · have := hS hk0
      subst this
      subst hk0
      simp only [iD_nil] at e7 e15 l3 s1 e19
      simp (disch := omega) [F_law_right02, b_law_right02, e1, e2, h4, hK, e3, e4, e5, e6, e7, s1, kw1, kw2, kw3, kw4, kw5, kwRvs, kp1, kp2, kp3, Rv.old, e19, e8, s2, e9, e10, e11, e12, s3, i1, i2, f1, f2, f3, f4, f5, e16, e17, e18, e13, e14, e15, s4, locsApart]
      exact gives_ok fin
    · rw [hS' hk0] at c1
      simp (disch := omega) [F_law_right02, b_law_right02, e1, e2, h4, hK, e3, e4, e5, e6, e7, s1, kw1, kw2, kw3, kw4, kw5, kwRvs, kp1, kp2, kp3, Rv.old, e19, e8, s2, e9, e10, e11, e12, s3, i1, i2, f1, f2, f3, f4, f5, e16, e17, e18, e13, e14, e15, s4, locsApart, c1, hk0]
      exact gives_ok fin
theorem law02 (h : T02 T) (ns : List Int) (hn : ns.length ≤ 63) : callN T 21 "law" [.val (.klst (ns.map D.int))] [] = .ok (.val (.bl true)) [] := by
  rw [callN_eq h.law ⟨rfl, by decide⟩]
  have pot0 : Pot (.int 0 :: .int 7 :: .int 3 :: iD ns) := ⟨0, 7, 3, ns, rfl, by omega, by omega, by omega, by omega, by omega, hn⟩
  have hf : (ns.map D.int).map frz1 = iD ns := iD_frz
  have hl : (ns.map D.int).length = ns.length := by simp
  have hlp := forL_nx (b := forB (T.ct 20) (.nm 2) [.ite (.not (.call "_law_right" [.var 1, .call "_law_far" [.var 1], .call "_law_far" [.var 1], .call "_law_drawn" [.var 1, .idx (.lst [.cst (.int 3), .cst (.int 999)]) (.call "_law_take" [.var 1, .cst (.int 2)])]])) [.ret (.cst (.bl false))] []])
    (I := fun _ e => ∃ l s2, e = ⟨[.val (.klst (ns.map D.int)), .own l, s2], []⟩ ∧ Pot l) ?_ (ds := intsD 0 8) ⟨_, .no, rfl, pot0⟩
  · obtain ⟨e', e1, l, s2, rfl, hp⟩ := hlp
    simp (disch := omega) [F_law02, b_law02, hf, hl, e1]
  · rintro d ds _ ⟨l, s2, rfl, hp⟩
    obtain ⟨_, _, e1, f, l1, rfl, rfl, df, hp1⟩ := lfar_spec (n := 17) h.law_far h.law_polynomial h.law_take h.law_trim hp
    obtain ⟨_, _, e2, g, l2, rfl, rfl, dg, hp2⟩ := lfar_spec (n := 17) h.law_far h.law_polynomial h.law_take h.law_trim hp1
    obtain ⟨_, _, e3, r, l3, rfl, rfl, r0, r1, hp3⟩ := take_spec (n := 19) h.law_take hp2 (many := 2) (by omega) (by omega)
    obtain ⟨w, hw, w0, w1⟩ : ∃ w : Int, L2.atI [D.int 3, D.int 999] r = some (.int w) ∧ 0 < w ∧ w ≤ 999 := by
      have : r = 0 ∨ r = 1 := by omega
      rcases this with rfl | rfl
      · exact ⟨3, rfl, by omega, by omega⟩
      · exact ⟨999, rfl, by omega, by omega⟩
    obtain ⟨_, _, e4, p, q, l4, rfl, rfl, p0, p1, q0, q1, hc, hp4⟩ := ldrawn_spec (n := 18) h.law_drawn h.law_take h.law_low w0 (by omega) hp3
    obtain ⟨_, _, e5, l5, rfl, rfl, hp5⟩ := right02 h df dg (p := p) (q := q) (by omega) (by omega) hc hp4
    refine ⟨⟨[.val (.klst (ns.map D.int)), .own l5, .val d], []⟩, .inl ?_, _, _, rfl, hp5⟩
    simp (disch := omega) [e1, e2, e3, hw, e4, e5]
end Fp.Z
/-! FpPlane: the program's plane polynomials. -/
namespace Fp.Z
open PySem Fp
def b_added : List Sm := [.ret (.call "lowest" [.bin .add (.bin .mul (.idx (.var 0) (.cst (.int 0))) (.idx (.var 1) (.cst (.int 1)))) (.bin .mul (.idx (.var 1) (.cst (.int 0))) (.idx (.var 0) (.cst (.int 1)))), .bin .mul (.idx (.var 0) (.cst (.int 1))) (.idx (.var 1) (.cst (.int 1)))])]
def F_added : Fn := ⟨["a", "b"], 2, b_added⟩
def b_product : List Sm := [.ret (.call "lowest" [.bin .mul (.idx (.var 0) (.cst (.int 0))) (.idx (.var 1) (.cst (.int 0))), .bin .mul (.idx (.var 0) (.cst (.int 1))) (.idx (.var 1) (.cst (.int 1)))])]
def F_product : Fn := ⟨["a", "b"], 2, b_product⟩
def b_slope_of : List Sm := [.ret (.blt "tuple" [.comp (.bin .mul (.var 3) (.bin .sub (.bin .sub (.blt "len" [.var 0]) (.cst (.int 1))) (.var 2))) (.tp [.nm 2, .nm 3]) (.enu (.slc (.var 0) none (some (.neg (.cst (.int 1)))))) none [1, 2, 3]])]
def F_slope_of : Fn := ⟨["f"], 4, b_slope_of⟩
def b_broken_value : List Sm := [.asg (.nm 2) (.glo "ZERO"), .for_ (.nm 3) (.ov (.var 0)) [.asg (.nm 2) (.call "added" [.call "product" [.var 2, .var 1], .var 3])], .ret (.var 2)]
def F_broken_value : Fn := ⟨["p", "x"], 4, b_broken_value⟩
def b_upright : List Sm := [.asg (.nm 1) (.cst (.int 0)), .whl (.and (.cmp .lt (.var 1) (.blt "len" [.var 0])) (.cmp .eq (.idx (.var 0) (.var 1)) (.tup []))) [.asg (.nm 1) (.bin .add (.var 1) (.cst (.int 1)))], .ret (.blt "tuple" [.slc (.var 0) (some (.var 1)) none])]
def F_upright : Fn := ⟨["rows"], 2, b_upright⟩
def b_lifted : List Sm := [.ret (.bin .add (.bin .mul (.tup [.tup []]) (.bin .sub (.var 1) (.blt "len" [.var 0]))) (.blt "tuple" [.var 0]))]
def F_lifted : Fn := ⟨["f", "many"], 2, b_lifted⟩
def b_sum_of_planes : List Sm := [.asg (.nm 2) (.blt "max" [.blt "len" [.var 0], .blt "len" [.var 1]]), .ret (.call "upright" [.comp (.call "sum_of" [.var 4, .var 5]) (.tp [.nm 4, .nm 5]) (.zip (.call "lifted" [.var 0, .var 2]) (.call "lifted" [.var 1, .var 2])) none [3, 4, 5]])]
def F_sum_of_planes : Fn := ⟨["f", "g"], 6, b_sum_of_planes⟩
def b_product_of_planes : List Sm := [.ite (.or (.cmp .eq (.var 0) (.tup [])) (.cmp .eq (.var 1) (.tup []))) [.ret (.tup [])] [], .asg (.nm 2) (.bin .mul (.lst [.tup []]) (.bin .sub (.bin .add (.blt "len" [.var 0]) (.blt "len" [.var 1])) (.cst (.int 1)))), .for_ (.tp [.nm 3, .nm 4]) (.enu (.var 0)) [.for_ (.tp [.nm 5, .nm 6]) (.enu (.var 1)) [.setI (.var 2) (.bin .add (.var 3) (.var 5)) (.call "sum_of" [.idx (.var 2) (.bin .add (.var 3) (.var 5)), .call "times_of_two" [.var 4, .var 6]])]], .ret (.blt "tuple" [.var 2])]
def F_product_of_planes : Fn := ⟨["f", "g"], 7, b_product_of_planes⟩
def b_slope_up : List Sm := [.ret (.blt "tuple" [.comp (.call "scaled_by" [.var 3, .bin .sub (.bin .sub (.blt "len" [.var 0]) (.cst (.int 1))) (.var 2)]) (.tp [.nm 2, .nm 3]) (.enu (.slc (.var 0) none (some (.neg (.cst (.int 1)))))) none [1, 2, 3]])]
def F_slope_up : Fn := ⟨["f"], 4, b_slope_up⟩
def b_is_plane : List Sm := [.ite (.or (.not (.isi (.var 0) ["tuple"])) (.not (.blt "all" [.comp (.call "is_polynomial" [.var 2]) (.nm 2) (.ov (.var 0)) none [1, 2]]))) [.ret (.cst (.bl false))] [], .ret (.or (.cmp .eq (.var 0) (.tup [])) (.cmp .ne (.idx (.var 0) (.cst (.int 0))) (.tup [])))]
def F_is_plane : Fn := ⟨["told"], 3, b_is_plane⟩
def b_check_plane : List Sm := [.ite (.not (.call "is_plane" [.var 0])) [.nev] []]
def F_check_plane : Fn := ⟨["f"], 1, b_check_plane⟩
def b_plane_plus : List Sm := [.exp (.call "check_plane" [.var 0]), .exp (.call "check_plane" [.var 1]), .ret (.call "sum_of_planes" [.var 0, .var 1])]
def F_plane_plus : Fn := ⟨["f", "g"], 2, b_plane_plus⟩
def b_plane_times : List Sm := [.exp (.call "check_plane" [.var 0]), .exp (.call "check_plane" [.var 1]), .ret (.call "product_of_planes" [.var 0, .var 1])]
def F_plane_times : Fn := ⟨["f", "g"], 2, b_plane_times⟩
def b_plane_scaled : List Sm := [.exp (.call "check_plane" [.var 0]), .exp (.call "check_integer" [.var 1, .cst .non]), .ret (.call "upright" [.comp (.call "scaled_by" [.var 3, .var 1]) (.nm 3) (.ov (.var 0)) none [2, 3]])]
def F_plane_scaled : Fn := ⟨["f", "k"], 4, b_plane_scaled⟩
def b_slope_x : List Sm := [.exp (.call "check_plane" [.var 0]), .ret (.call "upright" [.comp (.call "slope_of" [.var 2]) (.nm 2) (.ov (.var 0)) none [1, 2]])]
def F_slope_x : Fn := ⟨["f"], 3, b_slope_x⟩
def b_slope_y : List Sm := [.exp (.call "check_plane" [.var 0]), .ret (.call "slope_up" [.var 0])]
def F_slope_y : Fn := ⟨["f"], 1, b_slope_y⟩
def b_plane_value_of : List Sm := [.ret (.call "broken_value" [.comp (.call "value_of" [.var 4, .var 1]) (.nm 4) (.ov (.var 0)) none [3, 4], .var 2])]
def F_plane_value_of : Fn := ⟨["f", "x", "y"], 5, b_plane_value_of⟩
def b_plane_value : List Sm := [.exp (.call "check_plane" [.var 0]), .exp (.call "check_number" [.var 1]), .exp (.call "check_number" [.var 2]), .ret (.call "plane_value_of" [.var 0, .var 1, .var 2])]
def F_plane_value : Fn := ⟨["f", "x", "y"], 3, b_plane_value⟩
variable {T : Tb} {n : Nat}
/-- a plane polynomial's rows as data -/
def pD (P : List (List Int)) : List D := P.map fun r => D.tup (iD r)
@[simp] theorem pD_len {P : List (List Int)} : (pD P).length = P.length := by simp [pD]
theorem pD_cons {r : List Int} {P : List (List Int)} : pD (r :: P) = .tup (iD r) :: pD P := rfl
@[simp] theorem pD_nil : pD [] = [] := rfl
@[simp] theorem pD_frz {P : List (List Int)} : (pD P).map frz1 = pD P := by simp [pD]
theorem pD_get {P : List (List Int)} {k : Nat} : (pD P)[k]? = P[k]?.map fun r => D.tup (iD r) := by simp [pD]
theorem pD_set {P : List (List Int)} {k : Nat} {r : List Int} : (pD P).set k (.tup (iD r)) = pD (P.set k r) := by simp [pD, List.map_set]
theorem pD_app {P Q : List (List Int)} : pD P ++ pD Q = pD (P ++ Q) := by simp [pD]
theorem pD_rep {k : Nat} : List.replicate k (D.tup []) = pD (List.replicate k []) := by simp [pD]
theorem pD_drop {P : List (List Int)} {k : Nat} : (pD P).drop k = pD (P.drop k) := by simp [pD, List.map_drop]
@[simp] theorem eqOk_plane {P : List (List Int)} : (D.tup (pD P)).eqOk = true := Sim.eqOk (k := 2) (fun x hx => by
  obtain ⟨r, _, rfl⟩ := List.mem_map.mp hx
  exact Sim.ints) (by decide)
theorem eqv_pnil {P : List (List Int)} : (D.tup (pD P)).eqv (.tup []) = decide (P = []) := by cases P <;> simp [pD]
theorem mem_pD {P : List (List Int)} {x : D} (h : x ∈ pD P) : ∃ r ∈ P, x = .tup (iD r) := by
  obtain ⟨r, hr, rfl⟩ := List.mem_map.mp h
  exact ⟨r, hr, rfl⟩
theorem pD_at {pre P : List (List Int)} {r : List Int} : (pD (pre ++ r :: P))[pre.length]? = some (.tup (iD r)) := by simp [pD]
theorem pD_atI {pre P : List (List Int)} {r : List Int} : L2.atI (pD (pre ++ r :: P)) ((pre.length : Nat) : Int) = some (.tup (iD r)) := L2.atI_nat pD_at
structure PlaneL (P : List (List Int)) : Prop where
  rows : ∀ r ∈ P, PolyL r
  head : ∀ r R, P = r :: R → r ≠ []
/-- rows of bounded length -/
def RL (B : Nat) (P : List (List Int)) : Prop := ∀ r ∈ P, r.length ≤ B
structure ChkI (T : Tb) : Prop where
  is_integer : T.fns "is_integer" = some ⟨["value"], 1, b_is_integer⟩
  is_polynomial : T.fns "is_polynomial" = some F_is_polynomial
structure PlOk (T : Tb) : Prop where
  c : ChkI T
  is_plane : T.fns "is_plane" = some F_is_plane
  check_plane : T.fns "check_plane" = some F_check_plane
theorem isplane_good (h : PlOk T) {P : List (List Int)} (hp : PlaneL P) (hl : P.length ≤ 1000) (hr : RL 1000 P) : callN T (n + 3) "is_plane" [.val (.tup (pD P))] [] = .ok (.val (.bl true)) [] := by
  rw [callN_eq h.is_plane ⟨rfl, by decide⟩]
  have hc := comp_spec (T := T) (n := n + 2) (f := "is_polynomial") (g := polyB) (s := .val (.tup (pD P))) (ds := pD P) fun d hd => by
    obtain ⟨r, hr', rfl⟩ := mem_pD hd
    exact ispoly_spec (n := n) h.c.is_polynomial h.c.is_integer rfl fun xs e => by cases e; exact ⟨by rw [iD_len]; have := hr r hr'; omega, ok1_iD⟩
  have hA : (pD P).all polyB = true := List.all_eq_true.mpr fun x hx => by
    obtain ⟨r, hr', rfl⟩ := mem_pD hx
    exact (hp.rows r hr').poly
  simp (disch := omega) [F_is_plane, b_is_plane, hc, hl, hA, eqv_pnil]
  cases P with
  | nil => simp (disch := omega)
  | cons r P =>
    have := hp.head r P rfl
    simp (disch := omega) [pD_cons, L2.atI, eqv_nil, this]
theorem checkplane_spec (h : PlOk T) {P : List (List Int)} (hp : PlaneL P) (hl : P.length ≤ 1000) (hr : RL 1000 P) : callN T (n + 4) "check_plane" [.val (.tup (pD P))] [] = .ok (.val .non) [] := by
  have e1 := isplane_good (n := n) h hp hl hr
  rw [callN_eq h.check_plane ⟨rfl, by decide⟩]
  simp (disch := omega) [F_check_plane, b_check_plane, e1]
/-! ### without empty rows ahead -/
def leadP : List (List Int) → Nat
  | [] => 0
  | r :: P => if r = [] then leadP P + 1 else 0
def trimP (P : List (List Int)) : List (List Int) := P.drop (leadP P)
theorem leadP_le : ∀ {P : List (List Int)}, leadP P ≤ P.length
  | [] => by simp [leadP]
  | r :: P => by
    have := leadP_le (P := P)
    unfold leadP
    split <;> simp <;> omega
theorem trimP_head : ∀ {P : List (List Int)} {r : List Int} {R : List (List Int)}, trimP P = r :: R → r ≠ []
  | [], r, R, e => by simp [trimP, leadP] at e
  | q :: P, r, R, e => by
    by_cases h : q = []
    · have : trimP (q :: P) = trimP P := by simp [trimP, leadP, h]
      rw [this] at e
      exact trimP_head e
    · simp [trimP, leadP, h] at e
      rw [← e.1]
      exact h
theorem trimP_mem {P : List (List Int)} {r : List Int} (h : r ∈ trimP P) : r ∈ P := List.mem_of_mem_drop h
theorem trimP_plane {P : List (List Int)} (h : ∀ r ∈ P, PolyL r) : PlaneL (trimP P) := ⟨fun r hr => h r (trimP_mem hr), fun r R e => trimP_head e⟩
theorem up_loop {C : Ct} : ∀ (P pre : List (List Int)), (pre ++ P).length ≤ 16777216 →
    whileE (evalT C (.and (.cmp .lt (.var 1) (.blt "len" [.var 0])) (.cmp .eq (.idx (.var 0) (.var 1)) (.tup [])))) (execSs C [.asg (.nm 1) (.bin .add (.var 1) (.cst (.int 1)))]) ⟨[.lnk 0, .val (.int pre.length)], [.own (pD (pre ++ P))]⟩ =
    .nx ⟨[.lnk 0, .val (.int (pre.length + leadP P : Nat))], [.own (pD (pre ++ P))]⟩
  | [], pre, h => by
    apply whF
    simp (disch := omega) [leadP]
  | r :: P, pre, h => by
    have hi := pD_at (pre := pre) (P := P) (r := r)
    have hl : (pD (pre ++ r :: P)).length = pre.length + (P.length + 1) := by simp
    simp only [List.length_append, List.length_cons] at h
    by_cases h0 : r = []
    · subst h0
      refine whE (e1 := ⟨[.lnk 0, .val (.int pre.length)], [.own (pD (pre ++ [] :: P))]⟩) (e2 := ⟨[.lnk 0, .val (.int ((pre ++ [[]]).length : Nat))], [.own (pD ((pre ++ [[]]) ++ P))]⟩) ?_ ?_ ((up_loop P (pre ++ [[]]) (by simp; omega)).trans ?_) (fun h => nomatch h)
      · simp only [iD_nil] at hi
        simp (disch := omega) [hi, hl, -pD_len, -getElem?_pos]
      · simp (disch := omega)
      · simp [leadP]
        omega
    · rw [show leadP (r :: P) = 0 by simp [leadP, h0]]
      apply whF
      simp (disch := omega) [hi, hl, -pD_len, h0, -getElem?_pos, eqv_nil]
theorem upright_gen {f pn : String} (hT : T.fns f = some ⟨[pn], 2, b_upright⟩) {P : List (List Int)} (hl : P.length ≤ 16777216) : callN T (n + 1) f [.lnk 0] [.own (pD P)] = .ok (.val (.tup (pD (trimP P)))) [.own (pD P)] := by
  rw [callN_eq hT ⟨rfl, (by decide : 1 ≤ 2)⟩]
  have hw := up_loop (C := T.ct n) P [] (by simpa using hl)
  have hc := cutD_from (xs := pD P) (k := leadP P) (by rw [pD_len]; exact leadP_le)
  simp only [List.nil_append, List.length_nil, Nat.zero_add, show ((0 : Nat) : Int) = 0 from rfl] at hw
  simp (disch := omega) [F_upright, b_upright, hw, hc, pD_drop, trimP]
/-! ### sums -/
def padP (m : Nat) (P : List (List Int)) : List (List Int) := List.replicate (m - P.length) [] ++ P
theorem padP_len {m : Nat} {P : List (List Int)} (h : P.length ≤ m) : (padP m P).length = m := by simp [padP]; omega
theorem padP_RL {m B : Nat} {P : List (List Int)} (h : RL B P) : RL B (padP m P) := fun r hr => by
  rcases List.mem_append.mp hr with hr | hr
  · rw [List.eq_of_mem_replicate hr]
    simp
  · exact h r hr
theorem lifted_spec (hT : T.fns "lifted" = some F_lifted) {P : List (List Int)} {m : Nat} (hm : m ≤ 1000) (hl : P.length ≤ m) : callN T (n + 1) "lifted" [.val (.tup (pD P)), .val (.int m)] [] = .ok (.val (.tup (pD (padP m P)))) [] := by
  rw [callN_eq hT ⟨rfl, by decide⟩]
  have e : ((m : Int) - (P.length : Int)).toNat = m - P.length := by omega
  simp (disch := omega) [F_lifted, b_lifted, e, rep_flat, pD_rep, pD_app, padP]
def sumP (P Q : List (List Int)) : List (List Int) := trimP (List.zipWith sumL (padP (max P.length Q.length) P) (padP (max P.length Q.length) Q))
theorem zips_pD : ∀ {P Q : List (List Int)}, zips (pD P) (pD Q) = (P.zip Q).map fun p => .tup [.tup (iD p.1), .tup (iD p.2)]
  | [], Q => by simp [zips]
  | a :: P, [] => by simp [zips, pD_cons]
  | a :: P, b :: Q => by simp [zips, pD_cons, zips_pD]
theorem zip_sum {P Q : List (List Int)} : (P.zip Q).map (fun p => D.tup (iD (sumL p.1 p.2))) = pD (List.zipWith sumL P Q) := by
  simp [pD, List.zip, List.map_zipWith]
theorem zip_mem {α β : Type} {xs : List α} {ys : List β} {p : α × β} (h : p ∈ xs.zip ys) : p.1 ∈ xs ∧ p.2 ∈ ys := by
  obtain ⟨a, b⟩ := p
  exact List.of_mem_zip h
theorem sum_planes_spec (hT : T.fns "sum_of_planes" = some F_sum_of_planes) (hU : T.fns "upright" = some F_upright) (hL : T.fns "lifted" = some F_lifted) (hO : T.fns "sum_of" = some F_sum_of) (hP : T.fns "padded" = some F_padded) (hS : T.fns "stripped" = some F_stripped) {P Q : List (List Int)} (lp : P.length ≤ 1000) (lq : Q.length ≤ 1000) (rp : RL 1000 P) (rq : RL 1000 Q) :
    callN T (n + 3) "sum_of_planes" [.val (.tup (pD P)), .val (.tup (pD Q))] [] = .ok (.val (.tup (pD (sumP P Q)))) [] := by
  rw [callN_eq hT ⟨rfl, by decide⟩]
  have hm1 : P.length ≤ max P.length Q.length := Nat.le_max_left ..
  have hm2 : Q.length ≤ max P.length Q.length := Nat.le_max_right ..
  have hmx : max (P.length : Int) (Q.length : Int) = (max P.length Q.length : Nat) := by omega
  have hm3 : max P.length Q.length ≤ 1000 := by omega
  generalize hM : max P.length Q.length = m at hm1 hm2 hmx hm3
  have e1 := lifted_spec (n := n + 1) hL (P := P) (m := m) hm3 hm1
  have e2 := lifted_spec (n := n + 1) hL (P := Q) (m := m) hm3 hm2
  have hc := compL_mapL (ps := (padP m P).zip (padP m Q)) (h := fun p => D.tup [.tup (iD p.1), .tup (iD p.2)]) (f := compB (T.ct (n + 2)) (.call "sum_of" [.var 4, .var 5]) (.tp [.nm 4, .nm 5]) none [3, 4, 5]) (g := fun p => D.tup (iD (sumL p.1 p.2))) (e := ⟨[.val (.tup (pD P)), .val (.tup (pD Q)), .val (.int m), .no, .no, .no], []⟩) fun p hp => by
    have e := sum_of_spec (n := n) hO hP hS (f := p.1) (g := p.2) (padP_RL rp _ (zip_mem hp).1) (padP_RL rq _ (zip_mem hp).2)
    simp (disch := omega) [e]
  rw [← zips_pD, zip_sum] at hc
  have hl : (List.zipWith sumL (padP m P) (padP m Q)).length = m := by simp [padP_len hm1, padP_len hm2]
  have e3 := upright_gen (n := n + 1) hU (P := List.zipWith sumL (padP m P) (padP m Q)) (by omega)
  simp (disch := omega) [F_sum_of_planes, b_sum_of_planes, hmx, e1, e2, hc, padP_len hm1, padP_len hm2, e3, sumP, hM]
theorem plane_plus_spec (h : PlOk T) (hT : T.fns "plane_plus" = some F_plane_plus) (hO : ∀ {P Q : List (List Int)}, P.length ≤ 1000 → Q.length ≤ 1000 → RL 1000 P → RL 1000 Q → callN T (n + 4) "sum_of_planes" [.val (.tup (pD P)), .val (.tup (pD Q))] [] = .ok (.val (.tup (pD (sumP P Q)))) []) {P Q : List (List Int)} (pp : PlaneL P) (pq : PlaneL Q) (lp : P.length ≤ 1000) (lq : Q.length ≤ 1000) (rp : RL 1000 P) (rq : RL 1000 Q) :
    callN T (n + 5) "plane_plus" [.val (.tup (pD P)), .val (.tup (pD Q))] [] = .ok (.val (.tup (pD (sumP P Q)))) [] := by
  have e1 := checkplane_spec (n := n) h pp lp rp
  have e2 := checkplane_spec (n := n) h pq lq rq
  have e3 := hO lp lq rp rq
  rw [callN_eq hT ⟨rfl, by decide⟩]
  simp (disch := omega) [F_plane_plus, b_plane_plus, e1, e2, e3]
/-! ### products -/
def paddc (F : List (List Int)) (k : Nat) (v : List Int) : List (List Int) := F.set k (sumL (F.getD k []) v)
@[simp] theorem paddc_len {F : List (List Int)} {k : Nat} {v : List Int} : (paddc F k v).length = F.length := by simp [paddc]
def pinner (i : Nat) (a : List Int) : List (List Int) → Nat → List (List Int) → List (List Int)
  | acc, _, [] => acc
  | acc, j, b :: bs => pinner i a (paddc acc (i + j) (prodL a b)) (j + 1) bs
def pouter (Q : List (List Int)) : List (List Int) → Nat → List (List Int) → List (List Int)
  | acc, _, [] => acc
  | acc, i, a :: as => pouter Q (pinner i a acc 0 Q) (i + 1) as
def pconv (P Q : List (List Int)) : List (List Int) := pouter Q (List.replicate (P.length + Q.length - 1) []) 0 P
def prodP (P Q : List (List Int)) : List (List Int) := if P = [] ∨ Q = [] then [] else pconv P Q
@[simp] theorem pinner_len {i : Nat} {a : List Int} : ∀ {bs acc : List (List Int)} {j : Nat}, (pinner i a acc j bs).length = acc.length
  | [], acc, j => rfl
  | b :: bs, acc, j => by rw [pinner, pinner_len]; simp
@[simp] theorem pouter_len {Q : List (List Int)} : ∀ {as acc : List (List Int)} {i : Nat}, (pouter Q acc i as).length = acc.length
  | [], acc, j => rfl
  | b :: bs, acc, j => by rw [pouter, pouter_len]; simp
theorem pgetD_eq {F : List (List Int)} {k : Nat} (h : k < F.length) : F[k]? = some (F.getD k []) := by
  rw [List.getD_eq_getElem?_getD, List.getElem?_eq_getElem h]
  rfl
theorem RL_getD {B k : Nat} {F : List (List Int)} (h : RL B F) : (F.getD k []).length ≤ B := by
  by_cases hk : k < F.length
  · have := pgetD_eq hk
    exact h _ (List.mem_of_getElem? this)
  · rw [List.getD_eq_getElem?_getD, List.getElem?_eq_none (by omega)]
    simp
theorem RL_set {B k : Nat} {F : List (List Int)} {r : List Int} (h : RL B F) (hr : r.length ≤ B) : RL B (F.set k r) := fun x hx => by
  rcases List.mem_or_eq_of_mem_set hx with hx | rfl
  · exact h x hx
  · exact hr
theorem RL_paddc {B k : Nat} {F : List (List Int)} {v : List Int} (h : RL B F) (hv : v.length ≤ B) : RL B (paddc F k v) := RL_set h (by
  have := sum_len (f := F.getD k []) (g := v)
  have := RL_getD (k := k) h
  omega)
/-- what the products of two rows want -/
def MulOk (a b : List Int) : Prop := ∀ x ∈ a, ∀ y ∈ b, arith .mul x y = some (x * y)
theorem pprod_inner {C : Ct} {A B : D} {a : List Int} {i : Nat} (hC : ∀ F v : List Int, F.length ≤ 1000 → v.length ≤ 1000 → C.call "sum_of" [.val (.tup (iD F)), .val (.tup (iD v))] [] = .ok (.val (.tup (iD (sumL F v)))) []) (hM : ∀ b : List Int, b.length ≤ 400 → MulOk a b → C.call "times_of_two" [.val (.tup (iD a)), .val (.tup (iD b))] [] = .ok (.val (.tup (iD (prodL a b)))) []) (ha : a.length ≤ 400) : ∀ (Q acc : List (List Int)) (j : Nat) (s5 s6 : Sl), i + j + Q.length ≤ acc.length → acc.length ≤ 100000 → RL 400 Q → RL 1000 acc → (∀ b ∈ Q, MulOk a b) →
    ∃ s5' s6', forL (forB C (.tp [.nm 5, .nm 6]) [.setI (.var 2) (.bin .add (.var 3) (.var 5)) (.call "sum_of" [.idx (.var 2) (.bin .add (.var 3) (.var 5)), .call "times_of_two" [.var 4, .var 6]])]) (enums (pD Q) j) ⟨[.val A, .val B, .own (pD acc), .val (.int i), .val (.tup (iD a)), s5, s6], []⟩
      = .nx ⟨[.val A, .val B, .own (pD (pinner i a acc j Q)), .val (.int i), .val (.tup (iD a)), s5', s6'], []⟩ ∧ RL 1000 (pinner i a acc j Q)
  | [], acc, j, s5, s6, h, hl, hQ, hR, hm => ⟨s5, s6, by simp [enums, forL, pinner], hR⟩
  | b :: Q, acc, j, s5, s6, h, hl, hQ, hR, hm => by
    simp only [List.length_cons] at h
    have hb := hQ b (List.mem_cons_self ..)
    have hpl := prodL_len (f := a) (g := b)
    obtain ⟨s5', s6', ih, hR'⟩ := pprod_inner (C := C) (A := A) (B := B) (i := i) hC hM ha Q (paddc acc (i + j) (prodL a b)) (j + 1) (.val (.int j)) (.val (.tup (iD b))) (by simp; omega) (by simp; omega) (fun r hr => hQ r (List.mem_cons_of_mem _ hr)) (RL_paddc hR (by omega)) (fun b hb' => hm b (List.mem_cons_of_mem _ hb'))
    refine ⟨s5', s6', ?_, hR'⟩
    have hk : i + j < acc.length := by omega
    have e1 : (pD acc)[i + j]? = some (.tup (iD (acc[i + j]?.getD []))) := by rw [pD_get, pgetD_eq hk]; rfl
    have e2 := hM b hb (hm b (List.mem_cons_self ..))
    have e3 : ((i : Int) + (j : Int)).toNat = i + j := by omega
    have e5 := hC (acc[i + j]?.getD []) (prodL a b) (by rw [← List.getD_eq_getElem?_getD]; exact RL_getD hR) (by omega)
    have e4 : (pD acc).set (i + j) (.tup (iD (sumL (acc[i + j]?.getD []) (prodL a b)))) = pD (paddc acc (i + j) (prodL a b)) := by rw [← List.getD_eq_getElem?_getD, pD_set]; rfl
    rw [pD_cons, enums_cons, forL]
    have turn : forB C (.tp [.nm 5, .nm 6]) [.setI (.var 2) (.bin .add (.var 3) (.var 5)) (.call "sum_of" [.idx (.var 2) (.bin .add (.var 3) (.var 5)), .call "times_of_two" [.var 4, .var 6]])] (.tup [.int (j : Nat), .tup (iD b)]) ⟨[.val A, .val B, .own (pD acc), .val (.int i), .val (.tup (iD a)), s5, s6], []⟩
        = .nx ⟨[.val A, .val B, .own (pD (paddc acc (i + j) (prodL a b))), .val (.int i), .val (.tup (iD a)), .val (.int j), .val (.tup (iD b))], []⟩ := by
      simp (disch := omega) [e1, e2, e3, e4, e5, -getElem?_pos]
    rw [turn, SR.turn_nx]
    exact ih
theorem pprod_outer {C : Ct} {A : D} {Q : List (List Int)} (hC : ∀ F v : List Int, F.length ≤ 1000 → v.length ≤ 1000 → C.call "sum_of" [.val (.tup (iD F)), .val (.tup (iD v))] [] = .ok (.val (.tup (iD (sumL F v)))) []) (hM : ∀ a b : List Int, a.length ≤ 400 → b.length ≤ 400 → MulOk a b → C.call "times_of_two" [.val (.tup (iD a)), .val (.tup (iD b))] [] = .ok (.val (.tup (iD (prodL a b)))) []) (hQ : RL 400 Q) : ∀ (P acc : List (List Int)) (i : Nat) (s3 s4 s5 s6 : Sl), i + P.length + Q.length ≤ acc.length + 1 → acc.length ≤ 100000 → RL 400 P → RL 1000 acc → (∀ a ∈ P, ∀ b ∈ Q, MulOk a b) →
    ∃ s3' s4' s5' s6', forL (forB C (.tp [.nm 3, .nm 4]) [.for_ (.tp [.nm 5, .nm 6]) (.enu (.var 1)) [.setI (.var 2) (.bin .add (.var 3) (.var 5)) (.call "sum_of" [.idx (.var 2) (.bin .add (.var 3) (.var 5)), .call "times_of_two" [.var 4, .var 6]])]]) (enums (pD P) i) ⟨[.val A, .val (.tup (pD Q)), .own (pD acc), s3, s4, s5, s6], []⟩
      = .nx ⟨[.val A, .val (.tup (pD Q)), .own (pD (pouter Q acc i P)), s3', s4', s5', s6'], []⟩ ∧ RL 1000 (pouter Q acc i P)
  | [], acc, i, s3, s4, s5, s6, h, hl, hP, hR, hm => ⟨s3, s4, s5, s6, by simp [enums, forL, pouter], hR⟩
  | a :: P, acc, i, s3, s4, s5, s6, h, hl, hP, hR, hm => by
    simp only [List.length_cons] at h
    have ha := hP a (List.mem_cons_self ..)
    obtain ⟨t5, t6, hin, hR1⟩ := pprod_inner (C := C) (A := A) (B := .tup (pD Q)) (a := a) (i := i) hC (fun b => hM a b ha) ha Q acc 0 s5 s6 (by omega) hl hQ hR (hm a (List.mem_cons_self ..))
    obtain ⟨s3', s4', s5', s6', ih, hR'⟩ := pprod_outer (C := C) (A := A) (Q := Q) hC hM hQ P (pinner i a acc 0 Q) (i + 1) (.val (.int i)) (.val (.tup (iD a))) t5 t6 (by simp; omega) (by simp; omega) (fun r hr => hP r (List.mem_cons_of_mem _ hr)) hR1 (fun b hb' => hm b (List.mem_cons_of_mem _ hb'))
    refine ⟨s3', s4', s5', s6', ?_, hR'⟩
    rw [pD_cons, enums_cons, forL]
    have turn : forB C (.tp [.nm 3, .nm 4]) [.for_ (.tp [.nm 5, .nm 6]) (.enu (.var 1)) [.setI (.var 2) (.bin .add (.var 3) (.var 5)) (.call "sum_of" [.idx (.var 2) (.bin .add (.var 3) (.var 5)), .call "times_of_two" [.var 4, .var 6]])]] (.tup [.int (i : Nat), .tup (iD a)]) ⟨[.val A, .val (.tup (pD Q)), .own (pD acc), s3, s4, s5, s6], []⟩
        = .nx ⟨[.val A, .val (.tup (pD Q)), .own (pD (pinner i a acc 0 Q)), .val (.int i), .val (.tup (iD a)), t5, t6], []⟩ := by
      simp (disch := omega) [hin]
    rw [turn, SR.turn_nx]
    exact ih
theorem prod_planes_spec (hT : T.fns "product_of_planes" = some F_product_of_planes) (hO : T.fns "sum_of" = some F_sum_of) (hP : T.fns "padded" = some F_padded) (hS : T.fns "stripped" = some F_stripped) (hW : T.fns "times_of_two" = some F_times_of_two) {P Q : List (List Int)} (lp : P.length ≤ 1000) (lq : Q.length ≤ 1000) (rp : RL 400 P) (rq : RL 400 Q) (hm : ∀ a ∈ P, ∀ b ∈ Q, MulOk a b) :
    callN T (n + 3) "product_of_planes" [.val (.tup (pD P)), .val (.tup (pD Q))] [] = .ok (.val (.tup (pD (prodP P Q)))) [] := by
  rw [callN_eq hT ⟨rfl, by decide⟩]
  by_cases h0 : P = []
  · subst h0
    simp (disch := omega) [F_product_of_planes, b_product_of_planes, prodP]
  · have hfl := List.length_pos_iff.mpr h0
    by_cases h1 : Q = []
    · subst h1
      simp (disch := omega) [F_product_of_planes, b_product_of_planes, prodP, eqv_pnil, h0]
    · have hgl := List.length_pos_iff.mpr h1
      have hmx : ((P.length : Int) + (Q.length : Int) - 1).toNat = P.length + Q.length - 1 := by omega
      obtain ⟨s3, s4, s5, s6, hlp, _⟩ := pprod_outer (C := T.ct (n + 2)) (A := .tup (pD P)) (Q := Q) (fun F v h1 h2 => sum_of_spec (n := n) hO hP hS h1 h2) (fun a b h1 h2 h3 => times_of_two_spec (n := n + 1) hW (by omega) (by omega) h3) rq P (List.replicate (P.length + Q.length - 1) []) 0 .no .no .no .no (by simp; omega) (by simp; omega) rp (fun r hr => by rw [List.eq_of_mem_replicate hr]; simp) hm
      simp (disch := omega) [F_product_of_planes, b_product_of_planes, hmx, rep_flat, pD_rep, hlp, prodP, h0, h1, eqv_pnil]
      rfl
theorem plane_times_spec (h : PlOk T) (hT : T.fns "plane_times" = some F_plane_times) (hY : T.fns "product_of_planes" = some F_product_of_planes) (hO : T.fns "sum_of" = some F_sum_of) (hP : T.fns "padded" = some F_padded) (hS : T.fns "stripped" = some F_stripped) (hW : T.fns "times_of_two" = some F_times_of_two) {P Q : List (List Int)} (pp : PlaneL P) (pq : PlaneL Q) (lp : P.length ≤ 1000) (lq : Q.length ≤ 1000) (rp : RL 400 P) (rq : RL 400 Q) (hm : ∀ a ∈ P, ∀ b ∈ Q, MulOk a b) :
    callN T (n + 5) "plane_times" [.val (.tup (pD P)), .val (.tup (pD Q))] [] = .ok (.val (.tup (pD (prodP P Q)))) [] := by
  have e1 := checkplane_spec (n := n) h pp lp (fun r hr => by have := rp r hr; omega)
  have e2 := checkplane_spec (n := n) h pq lq (fun r hr => by have := rq r hr; omega)
  have e3 := prod_planes_spec (n := n + 1) hY hO hP hS hW lp lq rp rq hm
  rw [callN_eq hT ⟨rfl, by decide⟩]
  simp (disch := omega) [F_plane_times, b_plane_times, e1, e2, e3]
/-! ### times an integer -/
def scaleP (k : Int) (P : List (List Int)) : List (List Int) := trimP (P.map (scaleL k))
theorem map_pD {g : List Int → List Int} {P : List (List Int)} : (P.map fun r => D.tup (iD (g r))) = pD (P.map g) := by simp [pD]
theorem plane_scaled_spec (h : PlOk T) (hT : T.fns "plane_scaled" = some F_plane_scaled) (hU : T.fns "upright" = some F_upright) (hB : T.fns "scaled_by" = some F_scaled_by) (hC : T.fns "check_integer" = some F_check_integer) {P : List (List Int)} {k : Int} (hk : -18446744073709551616 < k ∧ k < 18446744073709551616) (pp : PlaneL P) (lp : P.length ≤ 1000) (rp : RL 1000 P) :
    callN T (n + 5) "plane_scaled" [.val (.tup (pD P)), .val (.int k)] [] = .ok (.val (.tup (pD (scaleP k P)))) [] := by
  have e1 := checkplane_spec (n := n) h pp lp rp
  have e2 := checkint_spec (n := n + 2) hC h.c.is_integer (k := k)
  have hc := compL_mapL (ps := P) (h := fun r => D.tup (iD r)) (f := compB (T.ct (n + 4)) (.call "scaled_by" [.var 3, .var 1]) (.nm 3) none [2, 3]) (g := fun r => D.tup (iD (scaleL k r))) (e := ⟨[.val (.tup (pD P)), .val (.int k), .no, .no], []⟩) fun r hr => by
    have e := scaled_by_spec (n := n + 3) hB (f := r) (k := k) (rp r hr) (fun a _ => ar_mulL hk)
    simp (disch := omega) [e]
  rw [map_pD (g := scaleL k)] at hc
  have hc : compL (compB (T.ct (n + 4)) (.call "scaled_by" [.var 3, .var 1]) (.nm 3) none [2, 3]) (pD P) ⟨[.val (.tup (pD P)), .val (.int k), .no, .no], []⟩ = _ := hc
  have e3 := upright_gen (n := n + 3) hU (P := P.map (scaleL k)) (by simp; omega)
  rw [callN_eq hT ⟨rfl, by decide⟩]
  simp (disch := omega) [F_plane_scaled, b_plane_scaled, e1, e2, hc, e3, scaleP]
/-! ### slopes -/
/-- each integer but the last times its power -/
def slopeL : List Int → List Int
  | [] => []
  | [_] => []
  | a :: b :: f => a * ((b :: f).length : Nat) :: slopeL (b :: f)
theorem slopeL_len : ∀ {f : List Int}, (slopeL f).length = f.length - 1
  | [] => rfl
  | [_] => rfl
  | a :: b :: f => by
    have := slopeL_len (f := b :: f)
    simp [slopeL] at this ⊢
    exact this
theorem cutD_but {xs : List D} : cutD xs none (some (-1)) = xs.dropLast := by
  unfold cutD
  have e : HT.sIx xs.length xs.length (some (-1)) = xs.length - 1 := by
    show (if (-1 : Int) < 0 then ((-1 : Int) + (xs.length : Int)).toNat else min (-1 : Int).toNat xs.length) = _
    rw [if_pos (by decide)]
    omega
  rw [HT.sIx_none, e, List.drop_zero, Nat.sub_zero, List.dropLast_eq_take]
theorem enums_mapIdx {α : Type} {g : α → D} : ∀ {xs : List α} {k : Nat}, enums (xs.map g) k = (xs.zipIdx k).map fun p => .tup [.int (p.2 : Nat), g p.1]
  | [], k => rfl
  | x :: xs, k => by rw [List.map_cons, enums_cons, enums_mapIdx]; rfl
theorem slope_list : ∀ {f : List Int} {k m : Nat}, k + f.length = m → (f.dropLast.zipIdx k).map (fun p => p.1 * ((m : Int) - 1 - (p.2 : Nat))) = slopeL f
  | [], k, m, h => rfl
  | [a], k, m, h => rfl
  | a :: b :: f, k, m, h => by
    simp only [List.length_cons] at h
    have ih := slope_list (f := b :: f) (k := k + 1) (m := m) (by simp; omega)
    rw [List.dropLast_cons₂, List.zipIdx_cons, List.map_cons, ih, slopeL]
    congr 2
    simp
    omega
theorem slope_of_spec (hT : T.fns "slope_of" = some F_slope_of) {f : List Int} (hl : f.length ≤ 1000) : callN T (n + 1) "slope_of" [.val (.tup (iD f))] [] = .ok (.val (.tup (iD (slopeL f)))) [] := by
  rw [callN_eq hT ⟨rfl, by decide⟩]
  have hc := compL_mapL (ps := f.dropLast.zipIdx 0) (h := fun p => D.tup [.int (p.2 : Nat), .int p.1]) (f := compB (T.ct n) (.bin .mul (.var 3) (.bin .sub (.bin .sub (.blt "len" [.var 0]) (.cst (.int 1))) (.var 2))) (.tp [.nm 2, .nm 3]) none [1, 2, 3]) (g := fun p => D.int (p.1 * ((f.length : Int) - 1 - (p.2 : Nat)))) (e := ⟨[.val (.tup (iD f)), .no, .no, .no], []⟩) fun p hp => by
    have h2 : p.2 < f.length := by
      have := List.mem_zipIdx hp
      simp at this
      omega
    simp (disch := omega)
  have e0 : ((f.dropLast.zipIdx 0).map fun p => D.int (p.1 * ((f.length : Int) - 1 - (p.2 : Nat)))) = iD (slopeL f) := by
    rw [← slope_list (f := f) (k := 0) (m := f.length) (by omega)]
    simp [iD]
  rw [e0, ← enums_mapIdx] at hc
  have e1 : (iD f).dropLast = f.dropLast.map D.int := by simp [iD, List.map_dropLast]
  have e2 := slopeL_len (f := f)
  rw [← e1] at hc
  simp (disch := omega) [F_slope_of, b_slope_of, cutD_but, hc]
def slopeX (P : List (List Int)) : List (List Int) := trimP (P.map slopeL)
theorem slope_x_spec (h : PlOk T) (hT : T.fns "slope_x" = some F_slope_x) (hU : T.fns "upright" = some F_upright) (hS : T.fns "slope_of" = some F_slope_of) {P : List (List Int)} (pp : PlaneL P) (lp : P.length ≤ 1000) (rp : RL 1000 P) :
    callN T (n + 5) "slope_x" [.val (.tup (pD P))] [] = .ok (.val (.tup (pD (slopeX P)))) [] := by
  have e1 := checkplane_spec (n := n) h pp lp rp
  have hc := compL_mapL (ps := P) (h := fun r => D.tup (iD r)) (f := compB (T.ct (n + 4)) (.call "slope_of" [.var 2]) (.nm 2) none [1, 2]) (g := fun r => D.tup (iD (slopeL r))) (e := ⟨[.val (.tup (pD P)), .no, .no], []⟩) fun r hr => by
    have e := slope_of_spec (n := n + 3) hS (f := r) (rp r hr)
    simp (disch := omega) [e]
  rw [map_pD (g := slopeL)] at hc
  have hc : compL (compB (T.ct (n + 4)) (.call "slope_of" [.var 2]) (.nm 2) none [1, 2]) (pD P) ⟨[.val (.tup (pD P)), .no, .no], []⟩ = _ := hc
  have e3 := upright_gen (n := n + 3) hU (P := P.map slopeL) (by simp; omega)
  rw [callN_eq hT ⟨rfl, by decide⟩]
  simp (disch := omega) [F_slope_x, b_slope_x, e1, hc, e3, slopeX]
def slopeY : List (List Int) → List (List Int)
  | [] => []
  | [_] => []
  | a :: b :: P => scaleL ((b :: P).length : Nat) a :: slopeY (b :: P)
theorem slopeY_len : ∀ {P : List (List Int)}, (slopeY P).length = P.length - 1
  | [] => rfl
  | [_] => rfl
  | a :: b :: P => by
    have := slopeY_len (P := b :: P)
    simp [slopeY] at this ⊢
    exact this
theorem slopeY_list : ∀ {P : List (List Int)} {k m : Nat}, k + P.length = m → (P.dropLast.zipIdx k).map (fun p => scaleL ((m : Int) - 1 - (p.2 : Nat)) p.1) = slopeY P
  | [], k, m, h => rfl
  | [a], k, m, h => rfl
  | a :: b :: f, k, m, h => by
    simp only [List.length_cons] at h
    have ih := slopeY_list (P := b :: f) (k := k + 1) (m := m) (by simp; omega)
    rw [List.dropLast_cons₂, List.zipIdx_cons, List.map_cons, ih, slopeY]
    congr 2
    simp
    omega
theorem slope_up_spec (hT : T.fns "slope_up" = some F_slope_up) (hB : T.fns "scaled_by" = some F_scaled_by) {P : List (List Int)} (lp : P.length ≤ 1000) (rp : RL 1000 P) : callN T (n + 2) "slope_up" [.val (.tup (pD P))] [] = .ok (.val (.tup (pD (slopeY P)))) [] := by
  rw [callN_eq hT ⟨rfl, by decide⟩]
  have hc := compL_mapL (ps := P.dropLast.zipIdx 0) (h := fun p => D.tup [.int (p.2 : Nat), .tup (iD p.1)]) (f := compB (T.ct (n + 1)) (.call "scaled_by" [.var 3, .bin .sub (.bin .sub (.blt "len" [.var 0]) (.cst (.int 1))) (.var 2)]) (.tp [.nm 2, .nm 3]) none [1, 2, 3]) (g := fun p => D.tup (iD (scaleL ((P.length : Int) - 1 - (p.2 : Nat)) p.1))) (e := ⟨[.val (.tup (pD P)), .no, .no, .no], []⟩) fun p hp => by
    have hz := List.mem_zipIdx hp
    have h2 : p.2 < P.length := by
      simp at hz
      omega
    have h3 : p.1 ∈ P := by
      have : p.1 ∈ P.dropLast := by
        rw [hz.2.2]
        exact List.getElem_mem _
      exact List.dropLast_subset _ this
    have e := scaled_by_spec (n := n) hB (f := p.1) (k := (P.length : Int) - 1 - (p.2 : Nat)) (rp _ h3) (fun a _ => ar_mulL (by omega))
    simp (disch := omega) [e]
  have e0 : ((P.dropLast.zipIdx 0).map fun p => D.tup (iD (scaleL ((P.length : Int) - 1 - (p.2 : Nat)) p.1))) = pD (slopeY P) := by
    rw [← slopeY_list (P := P) (k := 0) (m := P.length) (by omega)]
    simp [pD]
  rw [e0, ← enums_mapIdx (g := fun r => D.tup (iD r))] at hc
  have e1 : (pD P).dropLast = P.dropLast.map fun r => D.tup (iD r) := by simp [pD, List.map_dropLast]
  have e2 := slopeY_len (P := P)
  rw [← e1] at hc
  simp (disch := omega) [F_slope_up, b_slope_up, cutD_but, hc]
theorem slope_y_spec (h : PlOk T) (hT : T.fns "slope_y" = some F_slope_y) (hS : T.fns "slope_up" = some F_slope_up) (hB : T.fns "scaled_by" = some F_scaled_by) {P : List (List Int)} (pp : PlaneL P) (lp : P.length ≤ 1000) (rp : RL 1000 P) :
    callN T (n + 5) "slope_y" [.val (.tup (pD P))] [] = .ok (.val (.tup (pD (slopeY P)))) [] := by
  have e1 := checkplane_spec (n := n) h pp lp rp
  have e3 := slope_up_spec (n := n + 2) hS hB lp rp
  rw [callN_eq hT ⟨rfl, by decide⟩]
  simp (disch := omega) [F_slope_y, b_slope_y, e1, e3]
end Fp.Z
/-! FpPlane2: values of plane polynomials; the law's plane polynomials. -/
namespace Fp.Z
open PySem Fp
def b_law_plane_sum : List Sm := [.asg (.nm 2) (.blt "max" [.blt "len" [.var 0], .blt "len" [.var 1]]), .par [3, 4] [.bin .add (.bin .mul (.lst [.tup []]) (.bin .sub (.var 2) (.blt "len" [.var 0]))) (.blt "list" [.var 0]), .bin .add (.bin .mul (.lst [.tup []]) (.bin .sub (.var 2) (.blt "len" [.var 1]))) (.blt "list" [.var 1])], .ret (.call "_law_upright" [.comp (.call "_law_sum" [.var 6, .var 7]) (.tp [.nm 6, .nm 7]) (.zip (.var 3) (.var 4)) none [5, 6, 7]])]
def F_law_plane_sum : Fn := ⟨["f", "g"], 8, b_law_plane_sum⟩
def b_law_plane_product : List Sm := [.ite (.or (.cmp .eq (.var 0) (.tup [])) (.cmp .eq (.var 1) (.tup []))) [.ret (.tup [])] [], .asg (.nm 2) (.bin .mul (.lst [.tup []]) (.bin .sub (.bin .add (.blt "len" [.var 0]) (.blt "len" [.var 1])) (.cst (.int 1)))), .for_ (.nm 3) (.rng (.blt "len" [.var 0])) [.for_ (.nm 4) (.rng (.blt "len" [.var 1])) [.setI (.var 2) (.bin .add (.var 3) (.var 4)) (.call "_law_sum" [.idx (.var 2) (.bin .add (.var 3) (.var 4)), .call "_law_product" [.idx (.var 0) (.var 3), .idx (.var 1) (.var 4)]])]], .ret (.blt "tuple" [.var 2])]
def F_law_plane_product : Fn := ⟨["f", "g"], 5, b_law_plane_product⟩
def b_law_plane_at : List Sm := [.asg (.nm 3) (.tup [.cst (.int 0), .cst (.int 1)]), .for_ (.nm 4) (.ov (.var 0)) [.asg (.nm 3) (.call "_law_plus" [.call "_law_times" [.var 3, .var 2], .call "_law_at" [.var 4, .var 1]])], .ret (.var 3)]
def F_law_plane_at : Fn := ⟨["f", "x", "y"], 5, b_law_plane_at⟩
def b_law_slopes : List Sm := [.asg (.nm 1) (.bin .sub (.blt "len" [.var 0]) (.cst (.int 1))), .asg (.nm 2) (.lst []), .for_ (.nm 3) (.ov (.var 0)) [.exp (.meth "append" (.var 2) [.blt "tuple" [.comp (.bin .mul (.idx (.var 3) (.var 6)) (.bin .sub (.bin .sub (.blt "len" [.var 3]) (.cst (.int 1))) (.var 6))) (.nm 6) (.rng (.bin .sub (.blt "len" [.var 3]) (.cst (.int 1)))) none [5, 6]]])], .asg (.nm 4) (.comp (.blt "tuple" [.comp (.bin .mul (.var 7) (.bin .sub (.var 1) (.var 6))) (.nm 7) (.ov (.idx (.var 0) (.var 6))) none [5, 7]]) (.nm 6) (.rng (.var 1)) none [5, 6]), .ret (.tup [.call "_law_upright" [.var 2], .blt "tuple" [.var 4]])]
def F_law_slopes : Fn := ⟨["f"], 8, b_law_slopes⟩
variable {T : Tb} {n : Nat}
theorem added_spec (hT : T.fns "added" = some F_added) (hL : T.fns "lowest" = some F_lowest) {F B G C : Int} (h1 : FrOk F B) (h2 : FrOk G C) : callN T (n + 2) "added" [.val (lowD F B), .val (lowD G C)] [] = .ok (.val (lowD (F * C + G * B) (B * C))) [] := by
  rw [callN_eq hT ⟨rfl, by decide⟩]
  obtain ⟨u, v, g, hg, hF, hB, hv, hv2, hu, e⟩ := h1.parts
  obtain ⟨u', v', g', hg', hF', hB', hv', hv2', hu', e'⟩ := h2.parts
  have m1 : arith .mul u v' = some (u * v') := ar_mulB (a := 1000000) (b := 4000) hu (natAbs_lt_of (by omega) hv2') (by decide)
  have m2 : arith .mul u' v = some (u' * v) := ar_mulB (a := 1000000) (b := 4000) hu' (natAbs_lt_of (by omega) hv2) (by decide)
  have m3 : arith .mul v v' = some (v * v') := ar_mulB (a := 4000) (b := 4000) (natAbs_lt_of (by omega) hv2) (natAbs_lt_of (by omega) hv2') (by decide)
  have hlow := lowest_spec (n := n) hL (t := u * v' + u' * v) (b := v * v') (Int.mul_pos hv hv') (mul_lt_pow hv hv' hv2 hv2' (by decide))
  have heq : lowD (u * v' + u' * v) (v * v') = lowD (F * C + G * B) (B * C) := lowD_eq (Int.mul_pos hv hv') (Int.mul_pos h1.pos h2.pos) (by
    rw [hF, hB, hF', hB']
    grind)
  rw [e, e']
  simp (disch := omega) [F_added, b_added, L2.atI, m1, m2, m3, hlow, heq]
theorem product_spec (hT : T.fns "product" = some F_product) (hL : T.fns "lowest" = some F_lowest) {F B G C : Int} (h1 : FrOk F B) (h2 : FrOk G C) : callN T (n + 2) "product" [.val (lowD F B), .val (lowD G C)] [] = .ok (.val (lowD (F * G) (B * C))) [] := by
  rw [callN_eq hT ⟨rfl, by decide⟩]
  obtain ⟨u, v, g, hg, hF, hB, hv, hv2, hu, e⟩ := h1.parts
  obtain ⟨u', v', g', hg', hF', hB', hv', hv2', hu', e'⟩ := h2.parts
  have m1 : arith .mul u u' = some (u * u') := ar_mulB (a := 1000000) (b := 1000000) hu hu' (by decide)
  have m3 : arith .mul v v' = some (v * v') := ar_mulB (a := 4000) (b := 4000) (natAbs_lt_of (by omega) hv2) (natAbs_lt_of (by omega) hv2') (by decide)
  have hlow := lowest_spec (n := n) hL (t := u * u') (b := v * v') (Int.mul_pos hv hv') (mul_lt_pow hv hv' hv2 hv2' (by decide))
  have heq : lowD (u * u') (v * v') = lowD (F * G) (B * C) := lowD_eq (Int.mul_pos hv hv') (Int.mul_pos h1.pos h2.pos) (by
    rw [hF, hB, hF', hB']
    grind)
  rw [e, e']
  simp (disch := omega) [F_product, b_product, L2.atI, m1, m3, hlow, heq]
/-- one more row: the sum times s/t, and C/D -/
def vstep (s t : Int) (a c : Int × Int) : Int × Int := (a.1 * s * c.2 + c.1 * (a.2 * t), a.2 * t * c.2)
def vfold (s t : Int) (a : Int × Int) (rs : List (Int × Int)) : Int × Int := rs.foldl (vstep s t) a
/-- a row's value, small -/
structure RvOk (c : Int × Int) : Prop where
  pos : 0 < c.2
  den : c.2 < 2 ^ 200
  num : c.1.natAbs < 2 ^ 10000
/-- a sum of k rows -/
structure VsOk (k : Nat) (a : Int × Int) : Prop where
  pos : 0 < a.2
  den : a.2 < 2 ^ (220 * k + 1)
  num : a.1.natAbs < 2 ^ (10000 * (k + 1))
theorem npow_le {a b : Nat} (h : a ≤ b) : (2 : Nat) ^ a ≤ 2 ^ b := Nat.pow_le_pow_right (by decide) h
theorem RvOk.fr {c : Int × Int} (h : RvOk c) : FrOk c.1 c.2 := ⟨h.pos, by have := h.den; have := pow_le (show 200 ≤ 4000 by decide); omega, by have := h.num; have := npow_le (show 10000 ≤ 1000000 by decide); omega⟩
theorem VsOk.fr {k : Nat} {a : Int × Int} (h : VsOk k a) (hk : k ≤ 15) : FrOk a.1 a.2 := ⟨h.pos, by have := h.den; have := pow_le (show 220 * k + 1 ≤ 4000 by omega); omega, by have := h.num; have := npow_le (show 10000 * (k + 1) ≤ 1000000 by omega); omega⟩
structure StOk (s t : Int) : Prop where
  s : -1048576 < s ∧ s < 1048576
  t : 0 < t ∧ t < 1048576
theorem StOk.fr {s t : Int} (h : StOk s t) : FrOk s t := ⟨h.t.1, by have := pow_le (show 20 ≤ 4000 by decide); have := h.t; omega, by have := npow_le (show 20 ≤ 1000000 by decide); have := h.s; omega⟩
theorem nmul_lt {x y a b : Nat} (h1 : x < 2 ^ a) (h2 : y < 2 ^ b) : x * y < 2 ^ (a + b) := by
  rw [Nat.pow_add]
  exact Nat.mul_lt_mul'' h1 h2
theorem VsOk.step {k : Nat} {s t : Int} {a c : Int × Int} (h : VsOk k a) (hs : StOk s t) (hc : RvOk c) : VsOk (k + 1) (vstep s t a c) := by
  have hb : 0 < a.2 * t := Int.mul_pos h.pos hs.t.1
  have ht : t < 2 ^ 20 := by have := hs.t; omega
  have hbt : a.2 * t < 2 ^ (220 * k + 21) := mul_lt_pow h.pos hs.t.1 h.den ht (by omega)
  refine ⟨Int.mul_pos hb hc.pos, mul_lt_pow hb hc.pos hbt hc.den (by omega), ?_⟩
  have x1 : (a.1 * s * c.2).natAbs < 2 ^ (10000 * (k + 1) + 20 + 200) := by
    rw [Int.natAbs_mul, Int.natAbs_mul]
    exact nmul_lt (nmul_lt h.num (by have := hs.s; omega)) (natAbs_lt_of (by have := hc.pos; have : (0:Int) < 2 ^ 200 := Int.pow_pos (by decide); omega) hc.den)
  have x2 : (c.1 * (a.2 * t)).natAbs < 2 ^ (10000 + (220 * k + 21)) := by
    rw [Int.natAbs_mul]
    exact nmul_lt hc.num (natAbs_lt_of (by have : (0:Int) < 2 ^ (220 * k + 21) := Int.pow_pos (by decide); omega) hbt)
  have x3 := Int.natAbs_add_le (a.1 * s * c.2) (c.1 * (a.2 * t))
  have x4 := npow_le (show 10000 * (k + 1) + 20 + 200 ≤ 10000 * (k + 1 + 1) - 1 by omega)
  have x5 := npow_le (show 10000 + (220 * k + 21) ≤ 10000 * (k + 1 + 1) - 1 by omega)
  have x6 : (2 : Nat) ^ (10000 * (k + 1 + 1)) = 2 * 2 ^ (10000 * (k + 1 + 1) - 1) := by
    rw [← Nat.pow_succ']
    congr 1
  unfold vstep
  show (a.1 * s * c.2 + c.1 * (a.2 * t)).natAbs < _
  omega
theorem VsOk.zero : VsOk 0 (0, 1) := ⟨by decide, by decide, Nat.pow_pos (by decide)⟩
theorem Vs_low {s t : Int} {a c : Int × Int} : lowD (a.1 * s * c.2 + c.1 * (a.2 * t)) (a.2 * t * c.2) = lowD (vstep s t a c).1 (vstep s t a c).2 := rfl
def lowP (rs : List (Int × Int)) : List D := rs.map fun c => lowD c.1 c.2
theorem broken_loop (hA : T.fns "added" = some F_added) (hP : T.fns "product" = some F_product) (hL : T.fns "lowest" = some F_lowest) {s t : Int} (hs : StOk s t) (hlow : lowD s t = .tup [.int s, .int t]) {s0 : Sl} {ps : List Pst} : ∀ (rs : List (Int × Int)) (k : Nat) (a : Int × Int) (s3 : Sl), VsOk k a → k + rs.length ≤ 15 → (∀ c ∈ rs, RvOk c) →
    ∃ s3', forL (forB (T.ct (n + 2)) (.nm 3) [.asg (.nm 2) (.call "added" [.call "product" [.var 2, .var 1], .var 3])]) (lowP rs) ⟨[s0, .val (.tup [.int s, .int t]), .val (lowD a.1 a.2), s3], ps⟩ = .nx ⟨[s0, .val (.tup [.int s, .int t]), .val (lowD (vfold s t a rs).1 (vfold s t a rs).2), s3'], ps⟩
  | [], k, a, s3, h, hk, hr => ⟨s3, rfl⟩
  | c :: rs, k, a, s3, h, hk, hr => by
    simp only [List.length_cons] at hk
    have hc := hr c (List.mem_cons_self ..)
    obtain ⟨s3', ih⟩ := broken_loop hA hP hL hs hlow (s0 := s0) (ps := ps) rs (k + 1) (vstep s t a c) (.val (lowD c.1 c.2)) (h.step hs hc) (by omega) (fun b hb => hr b (List.mem_cons_of_mem _ hb))
    refine ⟨s3', ?_⟩
    have e1 := product_spec (n := n) hP hL (h.fr (by omega)) hs.fr
    have f2 : FrOk (a.1 * s) (a.2 * t) := by
      refine ⟨Int.mul_pos h.pos hs.t.1, ?_, ?_⟩
      · have := mul_lt_pow h.pos hs.t.1 h.den (show t < 2 ^ 20 by have := hs.t; omega) (show 220 * k + 1 + 20 ≤ 4000 by omega)
        exact this
      · rw [Int.natAbs_mul]
        have := nmul_lt h.num (show s.natAbs < 2 ^ 20 by have := hs.s; omega)
        have := npow_le (show 10000 * (k + 1) + 20 ≤ 1000000 by omega)
        omega
    have e2 := added_spec (n := n) hA hL f2 hc.fr
    rw [hlow] at e1
    show forL _ (lowD c.1 c.2 :: lowP rs) _ = _
    rw [forL]
    have turn : forB (T.ct (n + 2)) (.nm 3) [.asg (.nm 2) (.call "added" [.call "product" [.var 2, .var 1], .var 3])] (lowD c.1 c.2) ⟨[s0, .val (.tup [.int s, .int t]), .val (lowD a.1 a.2), s3], ps⟩ = .nx ⟨[s0, .val (.tup [.int s, .int t]), .val (lowD (vstep s t a c).1 (vstep s t a c).2), .val (lowD c.1 c.2)], ps⟩ := by
      simp (disch := omega) [e1, e2, Vs_low]
    rw [turn, SR.turn_nx, ih]
    rfl
theorem lowD_self {s t : Int} (ht : 0 < t) (hc : Int.gcd s t = 1) : lowD s t = .tup [.int s, .int t] := by simp [lowD, hc]
@[simp] theorem lowP_frz {rs : List (Int × Int)} : (lowP rs).map frz1 = lowP rs := by
  simp [lowP, Function.comp]
/-- the rows' values -/
def rowsV (p q : Int) (P : List (List Int)) : List (Int × Int) := P.map fun r => (hom p q r, q ^ (r.length - 1))
theorem rowsV_ok {p q : Int} (hs : StOk p q) {P : List (List Int)} (hl : RL 10 P) (hn : ∀ r ∈ P, nrm r < 2 ^ 9000) : ∀ c ∈ rowsV p q P, RvOk c := by
  intro c hc
  obtain ⟨r, hr, rfl⟩ := List.mem_map.mp hc
  have l := hl r hr
  refine ⟨Int.pow_pos hs.t.1, ?_, ?_⟩
  · show q ^ (r.length - 1) < 2 ^ 200
    obtain ⟨k, rfl⟩ : ∃ k : Nat, q = k := ⟨q.toNat, by have := hs.t; omega⟩
    have h2 : k ^ (r.length - 1) ≤ (2 ^ 20) ^ (r.length - 1) := Nat.pow_le_pow_left (by have := hs.t; omega) _
    rw [← Nat.pow_mul] at h2
    have h3 : (2 : Nat) ^ (20 * (r.length - 1)) < 2 ^ 200 := Nat.pow_lt_pow_right (by decide) (by omega)
    have h4 : k ^ (r.length - 1) < 2 ^ 200 := by omega
    exact_mod_cast h4
  · have h1 := hom_abs (p := p) (q := q) (M := 2 ^ 20) (by have := hs.s; omega) (by have := hs.t; omega) (by decide) (f := r)
    rw [← Nat.pow_mul] at h1
    have h2 : nrm r * 2 ^ (20 * r.length) < 2 ^ 9000 * 2 ^ (20 * r.length) := Nat.mul_lt_mul_of_pos_right (hn r hr) (Nat.pow_pos (by decide))
    rw [← Nat.pow_add] at h2
    have h3 := npow_le (show 9000 + 20 * r.length ≤ 10000 by omega)
    show (hom p q r).natAbs < 2 ^ 10000
    omega
/-- a plane polynomial's value -/
def planeV (p q s t : Int) (P : List (List Int)) : D := lowD (vfold s t (0, 1) (rowsV p q P)).1 (vfold s t (0, 1) (rowsV p q P)).2
theorem plane_value_spec (h : PlOk T) (hT : T.fns "plane_value" = some F_plane_value) (hO : T.fns "plane_value_of" = some F_plane_value_of) (hBr : T.fns "broken_value" = some F_broken_value) (hA : T.fns "added" = some F_added) (hP : T.fns "product" = some F_product) (hL : T.fns "lowest" = some F_lowest) (hV : T.fns "value_of" = some F_value_of) (hC : T.fns "check_number" = some F_check_number) (hN : T.fns "is_number" = some F_is_number) (hZ : T.glo "ZERO" = some (.tup [.int 0, .int 1]))
    {p q s t : Int} (hx : StOk p q) (hy : StOk s t) (cx : Int.gcd p q = 1) (cy : Int.gcd s t = 1) {P : List (List Int)} (pp : PlaneL P) (lp : P.length ≤ 14) (rp : RL 10 P) (hn : ∀ r ∈ P, nrm r < 2 ^ 9000) :
    callN T (n + 5) "plane_value" [.val (.tup (pD P)), .val (.tup [.int p, .int q]), .val (.tup [.int s, .int t])] [] = .ok (.val (planeV p q s t P)) [] := by
  have e1 := checkplane_spec (n := n) h pp (by omega) (fun r hr => by have := rp r hr; omega)
  have n1 : numB (.tup [.int p, .int q]) = true := by simp [numB, cx, hx.t.1]
  have n2 : numB (.tup [.int s, .int t]) = true := by simp [numB, cy, hy.t.1]
  have e2 := checknum_spec (n := n + 1) hC hN h.c.is_integer n1 (by have := hx.s; omega) (by have := hx.t; omega)
  have e3 := checknum_spec (n := n + 1) hC hN h.c.is_integer n2 (by have := hy.s; omega) (by have := hy.t; omega)
  have hlow := lowD_self hy.t.1 cy
  obtain ⟨s3', hlp⟩ := broken_loop (n := n) hA hP hL hy hlow (s0 := .lnk 0) (ps := [.frz (lowP (rowsV p q P))]) (rowsV p q P) 0 (0, 1) .no VsOk.zero (by simp [rowsV]; omega) (rowsV_ok hx rp hn)
  have z01 : lowD (0 : Int) 1 = .tup [.int 0, .int 1] := by simp [lowD]
  simp only [z01] at hlp
  have e4 : callN T (n + 3) "broken_value" [.lnk 0, .val (.tup [.int s, .int t])] [.own (lowP (rowsV p q P))] = .ok (.val (planeV p q s t P)) [.frz (lowP (rowsV p q P))] := by
    rw [callN_eq hBr ⟨rfl, by decide⟩]
    simp (disch := omega) [F_broken_value, b_broken_value, hZ, hlp, planeV]
  have hc := compL_mapL (ps := P) (h := fun r => D.tup (iD r)) (f := compB (T.ct (n + 3)) (.call "value_of" [.var 4, .var 1]) (.nm 4) none [3, 4]) (g := fun r => lowD (hom p q r) (q ^ (r.length - 1))) (e := ⟨[.val (.tup (pD P)), .val (.tup [.int p, .int q]), .val (.tup [.int s, .int t]), .no, .no], []⟩) fun r hr => by
    have e := value_of_spec (n := n + 1) hV hL hx.s hx.t (f := r) (by have := rp r hr; omega) (small_of (hn r hr) (by decide))
    simp (disch := omega) [e]
  have hc2 : (P.map fun r => lowD (hom p q r) (q ^ (r.length - 1))) = lowP (rowsV p q P) := by simp [lowP, rowsV]
  rw [hc2] at hc
  have hc : compL (compB (T.ct (n + 3)) (.call "value_of" [.var 4, .var 1]) (.nm 4) none [3, 4]) (pD P) ⟨[.val (.tup (pD P)), .val (.tup [.int p, .int q]), .val (.tup [.int s, .int t]), .no, .no], []⟩ = _ := hc
  have hll : (lowP (rowsV p q P)).length = P.length := by simp [lowP, rowsV]
  have e5 : callN T (n + 4) "plane_value_of" [.val (.tup (pD P)), .val (.tup [.int p, .int q]), .val (.tup [.int s, .int t])] [] = .ok (.val (planeV p q s t P)) [] := by
    rw [callN_eq hO ⟨rfl, by decide⟩]
    simp (disch := omega) [F_plane_value_of, b_plane_value_of, hc, hll, e4]
  rw [callN_eq hT ⟨rfl, by decide⟩]
  simp (disch := omega) [F_plane_value, b_plane_value, e1, e2, e3, e5]
end Fp.Z
/-! FpPlane3: the law's plane polynomials. -/
namespace Fp.Z
open PySem Fp
variable {T : Tb} {n : Nat}
theorem lplane_sum_spec (hT : T.fns "_law_plane_sum" = some F_law_plane_sum) (hU : T.fns "_law_upright" = some ⟨["rows_told"], 2, b_upright⟩) (hO : T.fns "_law_sum" = some F_law_sum) (hR : T.fns "_law_trim" = some F_law_trim) {P Q : List (List Int)} (lp : P.length ≤ 1000) (lq : Q.length ≤ 1000) (rp : RL 1000 P) (rq : RL 1000 Q) :
    callN T (n + 3) "_law_plane_sum" [.val (.tup (pD P)), .val (.tup (pD Q))] [] = .ok (.val (.tup (pD (sumP P Q)))) [] := by
  rw [callN_eq hT ⟨rfl, by decide⟩]
  have hm1 : P.length ≤ max P.length Q.length := Nat.le_max_left ..
  have hm2 : Q.length ≤ max P.length Q.length := Nat.le_max_right ..
  have hmx : max (P.length : Int) (Q.length : Int) = (max P.length Q.length : Nat) := by omega
  have hm3 : max P.length Q.length ≤ 1000 := by omega
  generalize hM : max P.length Q.length = m at hm1 hm2 hmx hm3
  have e1 : ((m : Int) - (P.length : Int)).toNat = m - P.length := by omega
  have e2 : ((m : Int) - (Q.length : Int)).toNat = m - Q.length := by omega
  have p1 : pD (List.replicate (m - P.length) [] ++ P) = pD (padP m P) := rfl
  have p2 : pD (List.replicate (m - Q.length) [] ++ Q) = pD (padP m Q) := rfl
  have hc := compL_mapL (ps := (padP m P).zip (padP m Q)) (h := fun p => D.tup [.tup (iD p.1), .tup (iD p.2)]) (f := compB (T.ct (n + 2)) (.call "_law_sum" [.var 6, .var 7]) (.tp [.nm 6, .nm 7]) none [5, 6, 7]) (g := fun p => D.tup (iD (sumL p.1 p.2))) (e := ⟨[.val (.tup (pD P)), .val (.tup (pD Q)), .val (.int m), .lea (pD (padP m P)), .lea (pD (padP m Q)), .no, .no, .no], []⟩) fun p hp => by
    have e := lsum_spec (n := n) hO hR (f := p.1) (g := p.2) (padP_RL rp _ (zip_mem hp).1) (padP_RL rq _ (zip_mem hp).2)
    simp (disch := omega) [e]
  rw [← zips_pD, zip_sum] at hc
  have hl : (List.zipWith sumL (padP m P) (padP m Q)).length = m := by simp [padP_len hm1, padP_len hm2]
  have e3 := upright_gen (n := n + 1) hU (P := List.zipWith sumL (padP m P) (padP m Q)) (by omega)
  simp (disch := omega) [F_law_plane_sum, b_law_plane_sum, hmx, e1, e2, rep_flat, pD_rep, pD_app, p1, p2, hc, padP_len hm1, padP_len hm2, e3, sumP, hM]
theorem lpprod_inner {C : Ct} {P0 : List D} {a : List Int} {i : Nat} (hF : L2.atI P0 ((i : Nat) : Int) = some (.tup (iD a))) (hC : ∀ F v : List Int, F.length ≤ 1000 → v.length ≤ 1000 → C.call "_law_sum" [.val (.tup (iD F)), .val (.tup (iD v))] [] = .ok (.val (.tup (iD (sumL F v)))) []) (hM : ∀ b : List Int, b.length ≤ 400 → MulOk a b → C.call "_law_product" [.val (.tup (iD a)), .val (.tup (iD b))] [] = .ok (.val (.tup (iD (prodL a b)))) []) (ha : a.length ≤ 400) : ∀ (Q pre acc : List (List Int)) (s4 : Sl), i + pre.length + Q.length ≤ acc.length → acc.length ≤ 100000 → RL 400 Q → RL 1000 acc → (∀ b ∈ Q, MulOk a b) →
    ∃ s4', forL (forB C (.nm 4) [.setI (.var 2) (.bin .add (.var 3) (.var 4)) (.call "_law_sum" [.idx (.var 2) (.bin .add (.var 3) (.var 4)), .call "_law_product" [.idx (.var 0) (.var 3), .idx (.var 1) (.var 4)]])]) (intsD (pre.length : Nat) Q.length) ⟨[.val (.tup P0), .val (.tup (pD (pre ++ Q))), .own (pD acc), .val (.int i), s4], []⟩
      = .nx ⟨[.val (.tup P0), .val (.tup (pD (pre ++ Q))), .own (pD (pinner i a acc pre.length Q)), .val (.int i), s4'], []⟩ ∧ RL 1000 (pinner i a acc pre.length Q)
  | [], pre, acc, s4, h, hl, hQ, hR, hm => ⟨s4, by simp [intsD, forL, pinner], hR⟩
  | b :: Q, pre, acc, s4, h, hl, hQ, hR, hm => by
    simp only [List.length_cons] at h
    have hb := hQ b (List.mem_cons_self ..)
    have hpl := prodL_len (f := a) (g := b)
    obtain ⟨s4', ih, hR'⟩ := lpprod_inner (C := C) hF hC hM ha Q (pre ++ [b]) (paddc acc (i + pre.length) (prodL a b)) (.val (.int pre.length)) (by simp; omega) (by simp; omega) (fun r hr => hQ r (List.mem_cons_of_mem _ hr)) (RL_paddc hR (by omega)) (fun b hb' => hm b (List.mem_cons_of_mem _ hb'))
    have e6 : (pre ++ [b]).length = pre.length + 1 := by simp
    rw [e6] at ih hR'
    refine ⟨s4', ?_, hR'⟩
    have hk : i + pre.length < acc.length := by omega
    have e1 : (pD acc)[i + pre.length]? = some (.tup (iD (acc[i + pre.length]?.getD []))) := by rw [pD_get, pgetD_eq hk]; rfl
    have e2 := hM b hb (hm b (List.mem_cons_self ..))
    have e3 : ((i : Int) + (pre.length : Int)).toNat = i + pre.length := by omega
    have e5 := hC (acc[i + pre.length]?.getD []) (prodL a b) (by rw [← List.getD_eq_getElem?_getD]; exact RL_getD hR) (by omega)
    have e4 : (pD acc).set (i + pre.length) (.tup (iD (sumL (acc[i + pre.length]?.getD []) (prodL a b)))) = pD (paddc acc (i + pre.length) (prodL a b)) := by rw [← List.getD_eq_getElem?_getD, pD_set]; rfl
    have e7 := pD_atI (pre := pre) (P := Q) (r := b)
    rw [List.length_cons, intsD_succ, forL]
    have turn : forB C (.nm 4) [.setI (.var 2) (.bin .add (.var 3) (.var 4)) (.call "_law_sum" [.idx (.var 2) (.bin .add (.var 3) (.var 4)), .call "_law_product" [.idx (.var 0) (.var 3), .idx (.var 1) (.var 4)]])] (.int (pre.length : Nat)) ⟨[.val (.tup P0), .val (.tup (pD (pre ++ b :: Q))), .own (pD acc), .val (.int i), s4], []⟩
        = .nx ⟨[.val (.tup P0), .val (.tup (pD (pre ++ b :: Q))), .own (pD (paddc acc (i + pre.length) (prodL a b))), .val (.int i), .val (.int (pre.length : Nat))], []⟩ := by
      simp (disch := omega) [e1, e2, e3, e4, e5, e7, hF, -getElem?_pos]
    rw [turn, SR.turn_nx]
    simp only [List.append_assoc, List.singleton_append] at ih
    rw [ih]
    rfl
theorem lpprod_outer {C : Ct} {Q : List (List Int)} (hC : ∀ F v : List Int, F.length ≤ 1000 → v.length ≤ 1000 → C.call "_law_sum" [.val (.tup (iD F)), .val (.tup (iD v))] [] = .ok (.val (.tup (iD (sumL F v)))) []) (hM : ∀ a b : List Int, a.length ≤ 400 → b.length ≤ 400 → MulOk a b → C.call "_law_product" [.val (.tup (iD a)), .val (.tup (iD b))] [] = .ok (.val (.tup (iD (prodL a b)))) []) (hQ : RL 400 Q) (hql : Q.length ≤ 1000) : ∀ (P pre acc : List (List Int)) (s3 s4 : Sl), pre.length + P.length + Q.length ≤ acc.length + 1 → acc.length ≤ 100000 → RL 400 P → RL 1000 acc → (∀ a ∈ P, ∀ b ∈ Q, MulOk a b) →
    ∃ s3' s4', forL (forB C (.nm 3) [.for_ (.nm 4) (.rng (.blt "len" [.var 1])) [.setI (.var 2) (.bin .add (.var 3) (.var 4)) (.call "_law_sum" [.idx (.var 2) (.bin .add (.var 3) (.var 4)), .call "_law_product" [.idx (.var 0) (.var 3), .idx (.var 1) (.var 4)]])]]) (intsD (pre.length : Nat) P.length) ⟨[.val (.tup (pD (pre ++ P))), .val (.tup (pD Q)), .own (pD acc), s3, s4], []⟩
      = .nx ⟨[.val (.tup (pD (pre ++ P))), .val (.tup (pD Q)), .own (pD (pouter Q acc pre.length P)), s3', s4'], []⟩
  | [], pre, acc, s3, s4, h, hl, hP, hR, hm => ⟨s3, s4, by simp [intsD, forL, pouter]⟩
  | a :: P, pre, acc, s3, s4, h, hl, hP, hR, hm => by
    simp only [List.length_cons] at h
    have ha := hP a (List.mem_cons_self ..)
    obtain ⟨t4, hin, hR1⟩ := lpprod_inner (C := C) (P0 := pD (pre ++ a :: P)) (a := a) (i := pre.length) pD_atI hC (fun b => hM a b ha) ha Q [] acc s4 (by simp; omega) hl hQ hR (hm a (List.mem_cons_self ..))
    obtain ⟨s3', s4', ih⟩ := lpprod_outer (C := C) (Q := Q) hC hM hQ hql P (pre ++ [a]) (pinner pre.length a acc 0 Q) (.val (.int pre.length)) t4 (by simp; omega) (by simp; omega) (fun r hr => hP r (List.mem_cons_of_mem _ hr)) hR1 (fun b hb' => hm b (List.mem_cons_of_mem _ hb'))
    refine ⟨s3', s4', ?_⟩
    simp only [List.nil_append, List.length_nil, show ((0 : Nat) : Int) = 0 from rfl] at hin
    rw [List.length_cons, intsD_succ, forL]
    have turn : forB C (.nm 3) [.for_ (.nm 4) (.rng (.blt "len" [.var 1])) [.setI (.var 2) (.bin .add (.var 3) (.var 4)) (.call "_law_sum" [.idx (.var 2) (.bin .add (.var 3) (.var 4)), .call "_law_product" [.idx (.var 0) (.var 3), .idx (.var 1) (.var 4)]])]] (.int (pre.length : Nat)) ⟨[.val (.tup (pD (pre ++ a :: P))), .val (.tup (pD Q)), .own (pD acc), s3, s4], []⟩
        = .nx ⟨[.val (.tup (pD (pre ++ a :: P))), .val (.tup (pD Q)), .own (pD (pinner pre.length a acc 0 Q)), .val (.int (pre.length : Nat)), t4], []⟩ := by
      simp (disch := omega) [hin]
    rw [turn, SR.turn_nx]
    have e6 : (pre ++ [a]).length = pre.length + 1 := by simp
    rw [e6] at ih
    simp only [List.append_assoc, List.singleton_append] at ih
    rw [ih]
    rfl
theorem lplane_product_spec (hT : T.fns "_law_plane_product" = some F_law_plane_product) (hO : T.fns "_law_sum" = some F_law_sum) (hR : T.fns "_law_trim" = some F_law_trim) (hW : T.fns "_law_product" = some F_law_product) {P Q : List (List Int)} (lp : P.length ≤ 1000) (lq : Q.length ≤ 1000) (rp : RL 400 P) (rq : RL 400 Q) (hm : ∀ a ∈ P, ∀ b ∈ Q, MulOk a b) :
    callN T (n + 3) "_law_plane_product" [.val (.tup (pD P)), .val (.tup (pD Q))] [] = .ok (.val (.tup (pD (prodP P Q)))) [] := by
  rw [callN_eq hT ⟨rfl, by decide⟩]
  by_cases h0 : P = []
  · subst h0
    simp (disch := omega) [F_law_plane_product, b_law_plane_product, prodP]
  · have hfl := List.length_pos_iff.mpr h0
    by_cases h1 : Q = []
    · subst h1
      simp (disch := omega) [F_law_plane_product, b_law_plane_product, prodP, eqv_pnil, h0]
    · have hgl := List.length_pos_iff.mpr h1
      have hmx : ((P.length : Int) + (Q.length : Int) - 1).toNat = P.length + Q.length - 1 := by omega
      obtain ⟨s3, s4, hlp⟩ := lpprod_outer (C := T.ct (n + 2)) (Q := Q) (fun F v h1 h2 => lsum_spec (n := n) hO hR h1 h2) (fun a b h1 h2 h3 => lprod_spec (n := n + 1) hW (by omega) (by omega) h3) rq lq P [] (List.replicate (P.length + Q.length - 1) []) .no .no (by simp; omega) (by simp; omega) rp (fun r hr => by rw [List.eq_of_mem_replicate hr]; simp) hm
      simp only [List.nil_append, List.length_nil, show ((0 : Nat) : Int) = 0 from rfl] at hlp
      simp (disch := omega) [F_law_plane_product, b_law_plane_product, hmx, rep_flat, pD_rep, hlp, prodP, h0, h1, eqv_pnil]
      rfl
/-! ### values -/
theorem lplane_loop (hA : T.fns "_law_plus" = some F_law_plus) (hP : T.fns "_law_times" = some F_law_times) (hT : T.fns "_law_at" = some F_law_at) (hL : T.fns "_law_low" = some F_law_low) {p q s t : Int} (hx : StOk p q) (hs : StOk s t) (hlow : lowD s t = .tup [.int s, .int t]) {s0 : Sl} : ∀ (P : List (List Int)) (k : Nat) (a : Int × Int) (s4 : Sl), VsOk k a → k + P.length ≤ 15 → RL 10 P → (∀ r ∈ P, nrm r < 2 ^ 9000) →
    ∃ s4', forL (forB (T.ct (n + 2)) (.nm 4) [.asg (.nm 3) (.call "_law_plus" [.call "_law_times" [.var 3, .var 2], .call "_law_at" [.var 4, .var 1]])]) (pD P) ⟨[s0, .val (.tup [.int p, .int q]), .val (.tup [.int s, .int t]), .val (lowD a.1 a.2), s4], []⟩ = .nx ⟨[s0, .val (.tup [.int p, .int q]), .val (.tup [.int s, .int t]), .val (lowD (vfold s t a (rowsV p q P)).1 (vfold s t a (rowsV p q P)).2), s4'], []⟩
  | [], k, a, s4, h, hk, hl, hn => ⟨s4, rfl⟩
  | r :: P, k, a, s4, h, hk, hl, hn => by
    simp only [List.length_cons] at hk
    have hc : RvOk (hom p q r, q ^ (r.length - 1)) := rowsV_ok hx hl hn _ (by simp [rowsV])
    obtain ⟨s4', ih⟩ := lplane_loop hA hP hT hL hx hs hlow (s0 := s0) P (k + 1) (vstep s t a (hom p q r, q ^ (r.length - 1))) (.val (.tup (iD r))) (h.step hs hc) (by omega) (fun b hb => hl b (List.mem_cons_of_mem _ hb)) (fun b hb => hn b (List.mem_cons_of_mem _ hb))
    refine ⟨s4', ?_⟩
    have e1 := ltimes_spec (n := n) hP hL (h.fr (by omega)) hs.fr
    have f2 : FrOk (a.1 * s) (a.2 * t) := by
      refine ⟨Int.mul_pos h.pos hs.t.1, ?_, ?_⟩
      · have := mul_lt_pow h.pos hs.t.1 h.den (show t < 2 ^ 20 by have := hs.t; omega) (show 220 * k + 1 + 20 ≤ 4000 by omega)
        exact this
      · rw [Int.natAbs_mul]
        have := nmul_lt h.num (show s.natAbs < 2 ^ 20 by have := hs.s; omega)
        have := npow_le (show 10000 * (k + 1) + 20 ≤ 1000000 by omega)
        omega
    have e2 := lplus_spec (n := n) hA hL f2 hc.fr
    have e3 := lat_spec (n := n) hT hL hx.s hx.t (f := r) (by have := hl r (List.mem_cons_self ..); omega)
    rw [hlow] at e1
    rw [pD_cons, forL]
    have hv : lowD (a.1 * s * q ^ (r.length - 1) + hom p q r * (a.2 * t)) (a.2 * t * q ^ (r.length - 1)) = lowD (vstep s t a (hom p q r, q ^ (r.length - 1))).1 (vstep s t a (hom p q r, q ^ (r.length - 1))).2 := rfl
    have turn : forB (T.ct (n + 2)) (.nm 4) [.asg (.nm 3) (.call "_law_plus" [.call "_law_times" [.var 3, .var 2], .call "_law_at" [.var 4, .var 1]])] (.tup (iD r)) ⟨[s0, .val (.tup [.int p, .int q]), .val (.tup [.int s, .int t]), .val (lowD a.1 a.2), s4], []⟩ = .nx ⟨[s0, .val (.tup [.int p, .int q]), .val (.tup [.int s, .int t]), .val (lowD (vstep s t a (hom p q r, q ^ (r.length - 1))).1 (vstep s t a (hom p q r, q ^ (r.length - 1))).2), .val (.tup (iD r))], []⟩ := by
      simp (disch := omega) [e1, e2, e3, hv]
    rw [turn, SR.turn_nx, ih]
    rfl
theorem lplane_at_spec (hO : T.fns "_law_plane_at" = some F_law_plane_at) (hA : T.fns "_law_plus" = some F_law_plus) (hP : T.fns "_law_times" = some F_law_times) (hT : T.fns "_law_at" = some F_law_at) (hL : T.fns "_law_low" = some F_law_low) {p q s t : Int} (hx : StOk p q) (hy : StOk s t) (cy : Int.gcd s t = 1) {P : List (List Int)} (lp : P.length ≤ 14) (rp : RL 10 P) (hn : ∀ r ∈ P, nrm r < 2 ^ 9000) :
    callN T (n + 3) "_law_plane_at" [.val (.tup (pD P)), .val (.tup [.int p, .int q]), .val (.tup [.int s, .int t])] [] = .ok (.val (planeV p q s t P)) [] := by
  have hlow := lowD_self hy.t.1 cy
  obtain ⟨s4', hlp⟩ := lplane_loop (n := n) hA hP hT hL hx hy hlow (s0 := .val (.tup (pD P))) P 0 (0, 1) .no VsOk.zero (by omega) rp hn
  have z01 : lowD (0 : Int) 1 = .tup [.int 0, .int 1] := by simp [lowD]
  simp only [z01] at hlp
  rw [callN_eq hO ⟨rfl, by decide⟩]
  simp (disch := omega) [F_law_plane_at, b_law_plane_at, hlp, planeV]
end Fp.Z
/-! FpPlane4: drawn plane polynomials, the law's slopes. -/
namespace Fp.Z
open PySem Fp
def b_law_plane : List Sm := [.ite (.cmp .eq (.call "_law_take" [.var 0, .cst (.int 16)]) (.cst (.int 0))) [.ret (.tup [])] [], .par [3, 4] [.call "_law_take" [.var 0, .bin .add (.var 1) (.cst (.int 1))], .lst []], .for_ (.nm 5) (.rng (.bin .add (.var 3) (.cst (.int 1)))) [.asg (.nm 6) (.comp (.bin .sub (.call "_law_take" [.var 0, .bin .add (.bin .mul (.cst (.int 2)) (.var 2)) (.cst (.int 1))]) (.var 2)) (.nm 9) (.rng (.bin .add (.cst (.int 1)) (.call "_law_take" [.var 0, .bin .add (.var 5) (.cst (.int 1))]))) none [8, 9]), .exp (.meth "append" (.var 4) [.call "_law_trim" [.comp (.ite (.cmp .gt (.call "_law_take" [.var 0, .cst (.int 3)]) (.cst (.int 0))) (.var 10) (.cst (.int 0))) (.nm 10) (.ov (.var 6)) none [8, 10]]])], .asg (.nm 7) (.call "_law_upright" [.var 4]), .ret (.ite (.cmp .ne (.var 7) (.tup [])) (.var 7) (.tup [.tup [.bin .add (.cst (.int 1)) (.call "_law_take" [.var 0, .var 2])]]))]
def F_law_plane : Fn := ⟨["pot", "most", "far"], 11, b_law_plane⟩
variable {T : Tb} {n : Nat}
structure PDrawn (m : Nat) (far : Int) (P : List (List Int)) : Prop where
  pl : PlaneL P
  len : P.length ≤ m
  rl : RL m P
  abs : ∀ r ∈ P, ∀ a ∈ r, -far ≤ a ∧ a ≤ far
noncomputable abbrev planeBody (T : Tb) (n : Nat) : D → Env → SR := forB (T.ct (n + 1)) (.nm 5) [.asg (.nm 6) (.comp (.bin .sub (.call "_law_take" [.var 0, .bin .add (.bin .mul (.cst (.int 2)) (.var 2)) (.cst (.int 1))]) (.var 2)) (.nm 9) (.rng (.bin .add (.cst (.int 1)) (.call "_law_take" [.var 0, .bin .add (.var 5) (.cst (.int 1))]))) none [8, 9]), .exp (.meth "append" (.var 4) [.call "_law_trim" [.comp (.ite (.cmp .gt (.call "_law_take" [.var 0, .cst (.int 3)]) (.cst (.int 0))) (.var 10) (.cst (.int 0))) (.nm 10) (.ov (.var 6)) none [8, 10]]])]
theorem lplane_draw_loop (hK : T.fns "_law_take" = some F_law_take) (hR : T.fns "_law_trim" = some F_law_trim) {m : Nat} {far : Int} (hm : m ≤ 100) (h0 : 0 < far) (h1 : far ≤ 1000000000000000000000000000000) {s1 s3 : Sl} : ∀ (c j : Nat) (rows : List (List Int)) (l : List D) (s5 s6 s7 : Sl), Pot l → j + c ≤ m + 1 → rows.length = j → RL (m + 1) rows → (∀ r ∈ rows, PolyL r ∧ ∀ a ∈ r, -far ≤ a ∧ a ≤ far) →
    ∃ rows' l' s5' s6', forL (planeBody T n) (intsD (j : Nat) c) ⟨[.lnk 0, s1, .val (.int far), s3, .own (pD rows), s5, s6, s7, .no, .no, .no], [.own l]⟩ = .nx ⟨[.lnk 0, s1, .val (.int far), s3, .own (pD rows'), s5', s6', s7, .no, .no, .no], [.own l']⟩ ∧ Pot l' ∧ rows'.length = j + c ∧ RL (m + 1) rows' ∧ (∀ r ∈ rows', PolyL r ∧ ∀ a ∈ r, -far ≤ a ∧ a ≤ far)
  | 0, j, rows, l, s5, s6, s7, hp, hj, hl, hr, hq => ⟨rows, l, s5, s6, by simp [intsD, forL], hp, by omega, hr, hq⟩
  | c + 1, j, rows, l, s5, s6, s7, hp, hj, hl, hr, hq => by
    obtain ⟨_, _, e2, r2, l2, rfl, rfl, k0, k1, hp2⟩ := take_spec (n := n) hK hp (many := (j : Int) + 1) (by omega) (by omega)
    obtain ⟨ys, e', hc1, hy, hyl, l3, rfl, hp3⟩ := compL_st (f := compB (T.ct (n + 1)) (.bin .sub (.call "_law_take" [.var 0, .bin .add (.bin .mul (.cst (.int 2)) (.var 2)) (.cst (.int 1))]) (.var 2)) (.nm 9) none [8, 9])
      (I := fun _ e => ∃ l, e = ⟨[.lnk 0, s1, .val (.int far), s3, .own (pD rows), .val (.int j), s6, s7, .no, .no, .no], [.own l]⟩ ∧ Pot l) (P := fun y => ∃ i : Int, y = .int i ∧ -far ≤ i ∧ i ≤ far) (by
        rintro d ds _ ⟨l, rfl, hp⟩
        obtain ⟨_, _, e3, v, l4, rfl, rfl, v0, v1, hp4⟩ := take_spec (n := n) hK hp (many := 2 * far + 1) (by omega) (by omega)
        exact ⟨.int (v - far), _, by simp (disch := omega) [e3], ⟨_, rfl, by omega, by omega⟩, _, rfl, hp4⟩) (ds := intsD 0 (1 + r2).toNat) (e := ⟨[.lnk 0, s1, .val (.int far), s3, .own (pD rows), .val (.int j), s6, s7, .no, .no, .no], [.own l2]⟩) ⟨_, rfl, hp2⟩
    obtain ⟨ns, rfl, hns⟩ := all_ints hy
    rw [iD_len, intsD_len] at hyl
    obtain ⟨zs, e'', hc2, hz2, hzl, l5, rfl, hp5, _⟩ := compL_st (f := compB (T.ct (n + 1)) (.ite (.cmp .gt (.call "_law_take" [.var 0, .cst (.int 3)]) (.cst (.int 0))) (.var 10) (.cst (.int 0))) (.nm 10) none [8, 10])
      (I := fun ds e => ∃ l, e = ⟨[.lnk 0, s1, .val (.int far), s3, .own (pD rows), .val (.int j), .lea (iD ns), s7, .no, .no, .no], [.own l]⟩ ∧ Pot l ∧ ∀ d ∈ ds, ∃ i : Int, d = .int i ∧ -far ≤ i ∧ i ≤ far) (P := fun y => ∃ i : Int, y = .int i ∧ -far ≤ i ∧ i ≤ far) (by
        rintro d ds _ ⟨l, rfl, hp, hd⟩
        obtain ⟨_, _, e3, v, l4, rfl, rfl, v0, v1, hp4⟩ := take_spec (n := n) hK hp (many := 3) (by omega) (by omega)
        obtain ⟨i, rfl, hi0, hi1⟩ := hd d (List.mem_cons_self ..)
        by_cases hv : 0 < v
        · exact ⟨.int i, _, by simp (disch := omega) [e3], ⟨_, rfl, by omega, by omega⟩, _, rfl, hp4, fun d h => hd d (List.mem_cons_of_mem _ h)⟩
        · exact ⟨.int 0, _, by simp (disch := omega) [e3], ⟨_, rfl, by omega, by omega⟩, _, rfl, hp4, fun d h => hd d (List.mem_cons_of_mem _ h)⟩) (ds := iD ns) (e := ⟨[.lnk 0, s1, .val (.int far), s3, .own (pD rows), .val (.int j), .lea (iD ns), s7, .no, .no, .no], [.own l3]⟩) ⟨_, rfl, hp3, hy⟩
    obtain ⟨ms, rfl, hms⟩ := all_ints hz2
    rw [iD_len, iD_len] at hzl
    have e4 := ltrim_spec (n := n) hR (f := ms) (by omega)
    have htl := trim_len (f := ms)
    obtain ⟨rows', l', s5', s6', ih, hp', hl', hr', hq'⟩ := lplane_draw_loop hK hR hm h0 h1 (s1 := s1) (s3 := s3) c (j + 1) (rows ++ [trim ms]) l5 (.val (.int j)) (.own (iD ns)) s7 hp5 (by omega) (by simp [hl]) (fun r h => by
      rcases List.mem_append.mp h with h | h
      · exact hr r h
      · rw [List.mem_singleton.mp h]
        omega) (fun r h => by
      rcases List.mem_append.mp h with h | h
      · exact hq r h
      · rw [List.mem_singleton.mp h]
        exact ⟨trim_poly, fun a ha => hms a (trim_mem ha)⟩)
    refine ⟨rows', l', s5', s6', ?_, hp', by omega, hr', hq'⟩
    rw [intsD_succ, forL]
    have ha : pD rows ++ [D.tup (iD (trim ms))] = pD (rows ++ [trim ms]) := by simp [pD]
    have turn : planeBody T n (.int (j : Nat)) ⟨[.lnk 0, s1, .val (.int far), s3, .own (pD rows), s5, s6, s7, .no, .no, .no], [.own l]⟩ = .nx ⟨[.lnk 0, s1, .val (.int far), s3, .own (pD (rows ++ [trim ms])), .val (.int (j : Nat)), .own (iD ns), s7, .no, .no, .no], [.own l5]⟩ := by
      simp (disch := omega) [planeBody, e2, hc1, hc2, e4, ha]
    rw [turn, SR.turn_nx]
    exact ih
theorem lplane_spec (hT : T.fns "_law_plane" = some F_law_plane) (hK : T.fns "_law_take" = some F_law_take) (hR : T.fns "_law_trim" = some F_law_trim) (hU : T.fns "_law_upright" = some ⟨["rows_told"], 2, b_upright⟩) {m : Nat} {far : Int} (hm : m ≤ 100) (h0 : 0 < far) (h1 : far ≤ 1000000000000000000000000000000) {l : List D} (hp : Pot l) :
    (callN T (n + 2) "_law_plane" [.lnk 0, .val (.int m), .val (.int far)] [.own l]).gives fun r ps => ∃ (P : List (List Int)) (l' : List D), r = .val (.tup (pD P)) ∧ ps = [.own l'] ∧ PDrawn (m + 1) far P ∧ Pot l' := by
  apply gives_of
  intro P hP
  rw [callN_eq hT ⟨rfl, by decide⟩]
  obtain ⟨_, _, e1, r, l1, rfl, rfl, g0, g1, hp1⟩ := take_spec (n := n) hK hp (many := 16) (by omega) (by omega)
  by_cases hz : r = 0
  · subst hz
    simp (disch := omega) [F_law_plane, b_law_plane, e1]
    exact gives_ok (hP _ _ ⟨[], _, rfl, rfl, ⟨⟨(fun _ h => nomatch h), (fun _ _ h => nomatch h)⟩, by simp, (fun _ h => nomatch h), (fun _ h => nomatch h)⟩, hp1⟩)
  · obtain ⟨_, _, e2, r2, l2, rfl, rfl, k0, k1, hp2⟩ := take_spec (n := n) hK hp1 (many := (m : Int) + 1) (by omega) (by omega)
    obtain ⟨w, rfl⟩ : ∃ w : Nat, r2 = w := ⟨r2.toNat, by omega⟩
    obtain ⟨rows, l3, s5, s6, hlp, hp3, hrl, hrr, hrq⟩ := lplane_draw_loop (n := n) hK hR hm h0 h1 (s1 := .val (.int m)) (s3 := .val (.int w)) (w + 1) 0 [] l2 .no .no .no hp2 (by omega) rfl (fun _ h => nomatch h) (fun _ h => nomatch h)
    simp only [planeBody, show ((0 : Nat) : Int) = 0 from rfl, pD_nil] at hlp
    have hw : ((w : Int) + 1).toNat = w + 1 := by omega
    have e4 := upright_gen (n := n) hU (P := rows) (by omega)
    by_cases ht : trimP rows = []
    · obtain ⟨_, _, e6, v, l6, rfl, rfl, v0, v1, hp6⟩ := take_spec (n := n) hK hp3 (many := far) (by omega) (by omega)
      simp (disch := omega) [F_law_plane, b_law_plane, e1, e2, hw, hlp, e4, ht, e6]
      exact gives_ok (hP _ _ ⟨[[1 + v]], _, rfl, rfl, ⟨⟨fun q h => by rw [List.mem_singleton.mp h]; exact fun a r h => (by cases h; omega), fun q R h => by cases h; simp⟩, by simp, (fun q h => by rw [List.mem_singleton.mp h]; simp), (fun q h a ha => by
        rw [List.mem_singleton.mp h] at ha
        rw [List.mem_singleton.mp ha]
        omega)⟩, hp6⟩)
    · simp (disch := omega) [F_law_plane, b_law_plane, e1, e2, hw, hlp, e4, ht, eqv_pnil]
      exact gives_ok (hP _ _ ⟨trimP rows, _, rfl, rfl, ⟨trimP_plane fun q h => (hrq q h).1, by simp [trimP]; omega, (fun q h => hrr q (trimP_mem h)), (fun q h => (hrq q (trimP_mem h)).2)⟩, hp3⟩)
/-! ### slopes -/
theorem slope_range {f pre : List Int} {m : Nat} (h : pre.length + f.length = m) : (List.range' pre.length (f.length - 1)).map (fun k => (pre ++ f).getD k 0 * ((m : Int) - 1 - (k : Nat))) = slopeL f := by
  induction f generalizing pre with
  | nil => rfl
  | cons a f ih =>
    cases f with
    | nil => rfl
    | cons b f =>
      have ih := ih (pre := pre ++ [a]) (by simp at h ⊢; omega)
      simp only [List.length_cons] at h
      rw [slopeL]
      have e : (a :: b :: f).length - 1 = ((b :: f).length - 1) + 1 := by simp
      rw [e, List.range'_succ, List.map_cons]
      simp only [List.append_assoc, List.singleton_append, List.length_append, List.length_singleton] at ih
      rw [ih]
      congr 1
      have : (pre ++ a :: b :: f).getD pre.length 0 = a := by simp
      rw [this]
      congr 1
      simp
      omega
theorem slope_comp {C : Ct} {r : List Int} (hl : r.length ≤ 1000) {s0 s1 s2 s4 s7 : Sl} {ps : List Pst} :
    compL (compB C (.bin .mul (.idx (.var 3) (.var 6)) (.bin .sub (.bin .sub (.blt "len" [.var 3]) (.cst (.int 1))) (.var 6))) (.nm 6) none [5, 6]) (intsD 0 (r.length - 1)) ⟨[s0, s1, s2, .val (.tup (iD r)), s4, .no, .no, s7], ps⟩ = .ok (iD (slopeL r)) ⟨[s0, s1, s2, .val (.tup (iD r)), s4, .no, .no, s7], ps⟩ := by
  have hc := compL_mapL (ps := List.range (r.length - 1)) (h := fun i => D.int ((0 : Int) + (i : Nat))) (f := compB C (.bin .mul (.idx (.var 3) (.var 6)) (.bin .sub (.bin .sub (.blt "len" [.var 3]) (.cst (.int 1))) (.var 6))) (.nm 6) none [5, 6]) (g := fun k => D.int (r.getD k 0 * ((r.length : Int) - 1 - (k : Nat)))) (e := ⟨[s0, s1, s2, .val (.tup (iD r)), s4, .no, .no, s7], ps⟩) fun k hk => by
    have hk := List.mem_range.mp hk
    have hi : L2.atI (iD r) ((k : Nat) : Int) = some (.int (r[k]?.getD 0)) := L2.atI_nat (by rw [iD_get, getD_eq (by omega)]; rfl)
    simp (disch := omega) [hi]
  rw [intsD, hc]
  have := slope_range (f := r) (pre := []) (m := r.length) (by simp)
  rw [← this, List.range_eq_range']
  simp [iD]
theorem lslopes_loop {C : Ct} {s0 s1 s4 s7 : Sl} : ∀ (P acc : List (List Int)) (s3 : Sl), acc.length + P.length ≤ 10000 → RL 1000 P →
    ∃ s3', forL (forB C (.nm 3) [.exp (.meth "append" (.var 2) [.blt "tuple" [.comp (.bin .mul (.idx (.var 3) (.var 6)) (.bin .sub (.bin .sub (.blt "len" [.var 3]) (.cst (.int 1))) (.var 6))) (.nm 6) (.rng (.bin .sub (.blt "len" [.var 3]) (.cst (.int 1)))) none [5, 6]]])]) (pD P) ⟨[s0, s1, .own (pD acc), s3, s4, .no, .no, s7], []⟩ = .nx ⟨[s0, s1, .own (pD (acc ++ P.map slopeL)), s3', s4, .no, .no, s7], []⟩
  | [], acc, s3, h, hr => ⟨s3, by simp [forL]⟩
  | r :: P, acc, s3, h, hr => by
    simp only [List.length_cons] at h
    have hl := hr r (List.mem_cons_self ..)
    obtain ⟨s3', ih⟩ := lslopes_loop (C := C) (s0 := s0) (s1 := s1) (s4 := s4) (s7 := s7) P (acc ++ [slopeL r]) (.val (.tup (iD r))) (by simp; omega) (fun q hq => hr q (List.mem_cons_of_mem _ hq))
    refine ⟨s3', ?_⟩
    have hc := slope_comp (C := C) hl (s0 := s0) (s1 := s1) (s2 := .own (pD acc)) (s4 := s4) (s7 := s7) (ps := [])
    have e1 : ((r.length : Int) - 1).toNat = r.length - 1 := by omega
    have e2 : pD acc ++ [D.tup (iD (slopeL r))] = pD (acc ++ [slopeL r]) := by simp [pD]
    have e3 := slopeL_len (f := r)
    rw [pD_cons, forL]
    have turn : forB C (.nm 3) [.exp (.meth "append" (.var 2) [.blt "tuple" [.comp (.bin .mul (.idx (.var 3) (.var 6)) (.bin .sub (.bin .sub (.blt "len" [.var 3]) (.cst (.int 1))) (.var 6))) (.nm 6) (.rng (.bin .sub (.blt "len" [.var 3]) (.cst (.int 1)))) none [5, 6]]])] (.tup (iD r)) ⟨[s0, s1, .own (pD acc), s3, s4, .no, .no, s7], []⟩ = .nx ⟨[s0, s1, .own (pD (acc ++ [slopeL r])), .val (.tup (iD r)), s4, .no, .no, s7], []⟩ := by
      simp (disch := omega) [hc, e1, e2]
    rw [turn, SR.turn_nx, ih]
    simp
theorem slopeY_range {P pre : List (List Int)} {m : Nat} (h : pre.length + P.length = m) : (List.range' pre.length (P.length - 1)).map (fun k => ((pre ++ P).getD k []).map fun a => a * ((m : Int) - 1 - (k : Nat))) = slopeY P := by
  induction P generalizing pre with
  | nil => rfl
  | cons a f ih =>
    cases f with
    | nil => rfl
    | cons b f =>
      have ih := ih (pre := pre ++ [a]) (by simp at h ⊢; omega)
      simp only [List.length_cons] at h
      rw [slopeY]
      have e : (a :: b :: f).length - 1 = ((b :: f).length - 1) + 1 := by simp
      rw [e, List.range'_succ, List.map_cons]
      simp only [List.append_assoc, List.singleton_append, List.length_append, List.length_singleton] at ih
      rw [ih]
      congr 1
      have : (pre ++ a :: b :: f).getD pre.length [] = a := by simp
      rw [this]
      unfold scaleL
      rw [if_neg (by simp; omega)]
      apply List.map_congr_left
      intro x _
      rw [Int.mul_comm]
      congr 1
      simp
      omega
theorem lslopes_spec (hT : T.fns "_law_slopes" = some F_law_slopes) (hU : T.fns "_law_upright" = some ⟨["rows_told"], 2, b_upright⟩) {P : List (List Int)} (lp : P.length ≤ 1000) (rp : RL 1000 P) :
    callN T (n + 2) "_law_slopes" [.val (.tup (pD P))] [] = .ok (.val (.tup [.tup (pD (slopeX P)), .tup (pD (slopeY P))])) [] := by
  rw [callN_eq hT ⟨rfl, by decide⟩]
  obtain ⟨s3, h1⟩ := lslopes_loop (C := T.ct (n + 1)) (s0 := .val (.tup (pD P))) (s1 := .val (.int ((P.length : Int) - 1))) (s4 := .no) (s7 := .no) P [] .no (by simp; omega) rp
  simp only [pD_nil, List.nil_append] at h1
  have h2 := upright_gen (n := n) hU (P := P.map slopeL) (by simp; omega)
  have hc := compL_mapL (ps := List.range (P.length - 1)) (h := fun i => D.int ((0 : Int) + (i : Nat))) (f := compB (T.ct (n + 1)) (.blt "tuple" [.comp (.bin .mul (.var 7) (.bin .sub (.var 1) (.var 6))) (.nm 7) (.ov (.idx (.var 0) (.var 6))) none [5, 7]]) (.nm 6) none [5, 6]) (g := fun k => D.tup (iD ((P.getD k []).map fun a => a * ((P.length : Int) - 1 - (k : Nat))))) (e := ⟨[.val (.tup (pD P)), .val (.int ((P.length : Int) - 1)), .own (pD (P.map slopeL)), s3, .no, .no, .no, .no], []⟩) fun k hk => by
    have hk := List.mem_range.mp hk
    have hkl : k < P.length := by omega
    have hi : L2.atI (pD P) ((k : Nat) : Int) = some (.tup (iD (P[k]?.getD []))) := L2.atI_nat (by rw [pD_get, pgetD_eq hkl]; rfl)
    have hrl : (P[k]?.getD []).length ≤ 1000 := by rw [← List.getD_eq_getElem?_getD]; exact RL_getD rp
    have hin := compL_mapL (ps := P[k]?.getD []) (h := D.int) (f := compB (T.ct (n + 1)) (.bin .mul (.var 7) (.bin .sub (.var 1) (.var 6))) (.nm 7) none [5, 7]) (g := fun a => D.int (a * ((P.length : Int) - 1 - (k : Nat)))) (e := ⟨[.val (.tup (pD P)), .val (.int ((P.length : Int) - 1)), .own (pD (P.map slopeL)), s3, .no, .no, .val (.int (k : Nat)), .no], []⟩) fun a ha => by simp (disch := omega)
    have e0 : ((P[k]?.getD []).map fun a => D.int (a * ((P.length : Int) - 1 - (k : Nat)))) = iD ((P[k]?.getD []).map fun a => a * ((P.length : Int) - 1 - (k : Nat))) := by simp [iD]
    rw [e0] at hin
    have hin : compL (compB (T.ct (n + 1)) (.bin .mul (.var 7) (.bin .sub (.var 1) (.var 6))) (.nm 7) none [5, 7]) (iD (P[k]?.getD [])) ⟨[.val (.tup (pD P)), .val (.int ((P.length : Int) - 1)), .own (pD (P.map slopeL)), s3, .no, .no, .val (.int (k : Nat)), .no], []⟩ = _ := hin
    simp (disch := omega) [hi, hin, hrl, -getElem?_pos]
  have e0 : ((List.range (P.length - 1)).map fun k => D.tup (iD ((P.getD k []).map fun a => a * ((P.length : Int) - 1 - (k : Nat))))) = pD (slopeY P) := by
    have := slopeY_range (P := P) (pre := []) (m := P.length) (by simp)
    rw [← this, List.range_eq_range']
    simp [pD]
  rw [e0] at hc
  have hc : compL (compB (T.ct (n + 1)) (.blt "tuple" [.comp (.bin .mul (.var 7) (.bin .sub (.var 1) (.var 6))) (.nm 7) (.ov (.idx (.var 0) (.var 6))) none [5, 7]]) (.nm 6) none [5, 6]) (intsD 0 (P.length - 1)) ⟨[.val (.tup (pD P)), .val (.int ((P.length : Int) - 1)), .own (pD (P.map slopeL)), s3, .no, .no, .no, .no], []⟩ = _ := hc
  have e1 : ((P.length : Int) - 1).toNat = P.length - 1 := by omega
  have e2 := slopeY_len (P := P)
  simp (disch := omega) [F_law_slopes, b_law_slopes, h1, hc, e1, h2, slopeX]
end Fp.Z
/-! FpPlaneM: rows and planes are told by their values; products, slopes. -/
namespace Fp.Z
open PySem Fp
/-! ### values of one unknown -/
abbrev ev (x : Int) (f : List Int) : Int := hom x 1 f
theorem ev_cons {x a : Int} {f : List Int} : ev x (a :: f) = a * x ^ f.length + ev x f := by simp [ev, hom]
def dv (x : Int) : List Int → Int
  | [] => 0
  | a :: f => a * (f.length : Nat) * x ^ (f.length - 1) + dv x f
theorem ev_slope {x : Int} : ∀ {f : List Int}, ev x (slopeL f) = dv x f
  | [] => by simp [slopeL, dv, ev, hom]
  | [a] => by simp [slopeL, dv, ev, hom]
  | a :: b :: f => by
    rw [slopeL, ev_cons, ev_slope, slopeL_len]
    conv => rhs; rw [dv]
/-- a functional that does not see noughts ahead -/
structure Lin (E : List Int → Int) : Prop where
  z : ∀ f, E (0 :: f) = E f
  n : E [] = 0
  a : ∀ f g, f.length = g.length → E (List.zipWith (· + ·) f g) = E f + E g
theorem lin_ev (x : Int) : Lin (ev x) := ⟨fun f => by simp [ev, hom], rfl, fun f g h => hom_add h⟩
theorem lin_dv (x : Int) : Lin (dv x) := by
  refine ⟨fun f => by simp [dv], rfl, fun f => ?_⟩
  induction f with
  | nil => intro g h; cases g with
    | nil => simp [dv]
    | cons _ _ => simp at h
  | cons a f ih =>
    intro g h
    cases g with
    | nil => simp at h
    | cons b g =>
      have h : f.length = g.length := by simpa using h
      have e : (List.zipWith (· + ·) f g).length = g.length := by simp [h]
      simp only [List.zipWith_cons_cons, dv, ih g h, e, h]
      grind
theorem Lin.rep {E : List Int → Int} (L : Lin E) {f : List Int} : ∀ {k : Nat}, E (List.replicate k 0 ++ f) = E f
  | 0 => rfl
  | k + 1 => by rw [List.replicate_succ, List.cons_append, L.z, L.rep]
theorem Lin.pad {E : List Int → Int} (L : Lin E) {m : Nat} {f : List Int} : E (padL m f) = E f := L.rep
theorem Lin.trim {E : List Int → Int} (L : Lin E) {f : List Int} : E (Fp.Z.trim f) = E f := by
  conv => rhs; rw [trim_split (f := f)]
  exact L.rep.symm
theorem Lin.sum {E : List Int → Int} (L : Lin E) {f g : List Int} : E (sumL f g) = E f + E g := by
  unfold sumL
  rw [L.trim, L.a _ _ (by rw [padL_len (Nat.le_max_left ..), padL_len (Nat.le_max_right ..)]), L.pad, L.pad]
/-! ### sums by weights -/
def lsum (W : Nat → Int) : Nat → List Int → Int
  | _, [] => 0
  | k, a :: f => a * W k + lsum W (k + 1) f
theorem lsum_addc {W : Nat → Int} : ∀ {f : List Int} {m k : Nat} {v : Int}, k < f.length → lsum W m (addc f k v) = lsum W m f + v * W (m + k)
  | [], m, k, v, h => by simp at h
  | a :: f, m, 0, v, h => by
    simp only [addc, List.set_cons_zero, lsum, List.getD_cons_zero, Nat.add_zero]
    grind
  | a :: f, m, k + 1, v, h => by
    have ih := lsum_addc (W := W) (f := f) (m := m + 1) (k := k) (v := v) (by simpa using h)
    unfold addc at ih
    simp only [addc, List.set_cons_succ, lsum, List.getD_cons_succ, ih]
    have e : m + 1 + k = m + (k + 1) := by omega
    rw [e]
    grind
theorem inner_l {W : Nat → Int} {i : Nat} {a : Int} : ∀ {bs acc : List Int} {j : Nat}, i + j + bs.length ≤ acc.length → lsum W 0 (inner i a acc j bs) = lsum W 0 acc + a * lsum (fun j => W (i + j)) j bs
  | [], acc, j, h => by simp [inner, lsum]
  | b :: bs, acc, j, h => by
    simp only [List.length_cons] at h
    rw [inner, inner_l (by simp; omega), lsum_addc (by omega), lsum, Nat.zero_add]
    grind
def bsum (W : Nat → Int) (g : List Int) : Nat → List Int → Int
  | _, [] => 0
  | i, a :: as => a * lsum (fun j => W (i + j)) 0 g + bsum W g (i + 1) as
theorem outer_l {W : Nat → Int} {g : List Int} : ∀ {as acc : List Int} {i : Nat}, i + as.length + g.length ≤ acc.length + 1 → lsum W 0 (outer g acc i as) = lsum W 0 acc + bsum W g i as
  | [], acc, i, h => by simp [outer, bsum]
  | a :: as, acc, i, h => by
    simp only [List.length_cons] at h
    rw [outer, outer_l (by simp; omega), inner_l (by omega), bsum]
    grind
theorem lsum_rep {W : Nat → Int} : ∀ {m k : Nat}, lsum W k (List.replicate m 0) = 0
  | 0, k => rfl
  | m + 1, k => by rw [List.replicate_succ, lsum, lsum_rep]; simp
theorem lsum_two {U V V' : Nat → Int} {c d : Int} {r : Nat} : ∀ {g : List Int} {j : Nat}, j + g.length ≤ r + 1 → (∀ j, j ≤ r → U j = c * V j + d * V' j) → lsum U j g = c * lsum V j g + d * lsum V' j g
  | [], j, h, e => by simp [lsum]
  | b :: g, j, h, e => by
    simp only [List.length_cons] at h
    rw [lsum, lsum, lsum, lsum_two (by omega) e, e j (by omega)]
    grind
theorem bsum_two {W U V U' V' : Nat → Int} {n r : Nat} {g : List Int} (hg : g.length ≤ r + 1) (e : ∀ i j, i ≤ n → j ≤ r → W (i + j) = U i * V j + U' i * V' j) : ∀ {as : List Int} {i : Nat}, i + as.length ≤ n + 1 → bsum W g i as = lsum U i as * lsum V 0 g + lsum U' i as * lsum V' 0 g
  | [], i, h => by simp [bsum, lsum]
  | a :: as, i, h => by
    simp only [List.length_cons] at h
    rw [bsum, bsum_two hg e (by omega), lsum, lsum, lsum_two (r := r) (V := V) (V' := V') (c := U i) (d := U' i) (by omega) (fun j hj => e i j (by omega) hj)]
    grind
theorem ev_l {x : Int} {n : Nat} : ∀ {f : List Int} {k : Nat}, k + f.length = n + 1 → lsum (fun k => x ^ (n - k)) k f = ev x f
  | [], k, h => by simp [lsum, ev, hom]
  | a :: f, k, h => by
    simp only [List.length_cons] at h
    rw [lsum, ev_l (by omega), ev_cons, show n - k = f.length by omega]
theorem dv_l {x : Int} {n : Nat} : ∀ {f : List Int} {k : Nat}, k + f.length = n + 1 → lsum (fun k => ((n - k : Nat) : Int) * x ^ (n - k - 1)) k f = dv x f
  | [], k, h => by simp [lsum, dv]
  | a :: f, k, h => by
    simp only [List.length_cons] at h
    rw [lsum, dv_l (by omega), dv, show n - k = f.length by omega]
    grind
theorem dv_pow {x : Int} {a b : Nat} : ((a + b : Nat) : Int) * x ^ (a + b - 1) = ((a : Nat) : Int) * x ^ (a - 1) * x ^ b + x ^ a * (((b : Nat) : Int) * x ^ (b - 1)) := by
  cases a with
  | zero => simp
  | succ a =>
    cases b with
    | zero => simp
    | succ b =>
      have e : a + 1 + (b + 1) - 1 = a + b + 1 := by omega
      rw [e]
      simp only [Nat.add_sub_cancel, Int.pow_succ, Int.pow_add]
      push_cast
      grind
theorem dv_conv {x : Int} {f g : List Int} (hf : f ≠ []) (hg : g ≠ []) : dv x (conv f g) = dv x f * ev x g + ev x f * dv x g := by
  obtain ⟨n, hn⟩ : ∃ n, f.length = n + 1 := ⟨f.length - 1, by have := List.length_pos_iff.mpr hf; omega⟩
  obtain ⟨r, hr⟩ : ∃ r, g.length = r + 1 := ⟨g.length - 1, by have := List.length_pos_iff.mpr hg; omega⟩
  rw [← dv_l (x := x) (n := n + r) (f := conv f g) (k := 0) (by simp; omega), ← dv_l (x := x) (n := n) (f := f) (k := 0) (by omega), ← dv_l (x := x) (n := r) (f := g) (k := 0) (by omega), ← ev_l (x := x) (n := n) (f := f) (k := 0) (by omega), ← ev_l (x := x) (n := r) (f := g) (k := 0) (by omega)]
  unfold conv
  rw [outer_l (by simp; omega), lsum_rep, Int.zero_add]
  refine bsum_two (n := n) (r := r) (by omega) (fun i j hi hj => ?_) (by omega)
  have e : n + r - (i + j) = (n - i) + (r - j) := by omega
  rw [e]
  exact dv_pow
theorem ev_conv {x : Int} {f g : List Int} (hf : f ≠ []) (hg : g ≠ []) : ev x (conv f g) = ev x f * ev x g := hom_conv hf hg
theorem ev_prod {x : Int} {f g : List Int} : ev x (prodL f g) = ev x f * ev x g := by
  unfold prodL
  by_cases h : f = [] ∨ g = []
  · rw [if_pos h]
    rcases h with h | h <;> subst h <;> simp [ev, hom]
  · rw [if_neg h]
    exact ev_conv (fun q => h (.inl q)) fun q => h (.inr q)
theorem dv_prod {x : Int} {f g : List Int} : dv x (prodL f g) = dv x f * ev x g + ev x f * dv x g := by
  unfold prodL
  by_cases h : f = [] ∨ g = []
  · rw [if_pos h]
    rcases h with h | h <;> subst h <;> simp [ev, hom, dv]
  · rw [if_neg h]
    exact dv_conv (fun q => h (.inl q)) fun q => h (.inr q)
/-! ### told by values -/
theorem ev_abs {x : Nat} (hx : 1 ≤ x) : ∀ {f : List Int}, (ev (x : Int) f).natAbs ≤ nrm f * x ^ (f.length - 1)
  | [] => by simp [ev, hom]
  | a :: f => by
    have ih := ev_abs hx (f := f)
    have h1 : x ^ (f.length - 1) ≤ x ^ f.length := Nat.pow_le_pow_right hx (by omega)
    have h2 : nrm f * x ^ (f.length - 1) ≤ nrm f * x ^ f.length := Nat.mul_le_mul_left _ h1
    have h3 := Int.natAbs_add_le (a * (x : Int) ^ f.length) (ev (x : Int) f)
    have h4 : (a * (x : Int) ^ f.length).natAbs = a.natAbs * x ^ f.length := by
      rw [Int.natAbs_mul, Int.natAbs_pow]
      rfl
    rw [ev_cons, nrm, List.length_cons, Nat.add_sub_cancel, Nat.add_mul]
    omega
theorem ev_nonzero {f : List Int} (hf : PolyL f) (h : f ≠ []) : ∃ x : Int, ev x f ≠ 0 := by
  cases f with
  | nil => exact absurd rfl h
  | cons a f =>
    have ha := hf a f rfl
    refine ⟨((nrm f + 1 : Nat) : Int), fun e => ?_⟩
    have h1 := ev_abs (x := nrm f + 1) (by omega) (f := f)
    rw [ev_cons] at e
    have h2 : (a * ((nrm f + 1 : Nat) : Int) ^ f.length).natAbs = (ev ((nrm f + 1 : Nat) : Int) f).natAbs := by
      have : a * ((nrm f + 1 : Nat) : Int) ^ f.length = -ev ((nrm f + 1 : Nat) : Int) f := by omega
      rw [this, Int.natAbs_neg]
    rw [Int.natAbs_mul, Int.natAbs_pow] at h2
    have h5 : (((nrm f + 1 : Nat) : Int)).natAbs = nrm f + 1 := rfl
    rw [h5] at h2
    have h3 : 1 * (nrm f + 1) ^ f.length ≤ a.natAbs * (nrm f + 1) ^ f.length := Nat.mul_le_mul_right _ (by omega)
    cases f with
    | nil =>
      simp [nrm] at h1 h2 h3
      omega
    | cons b g =>
      simp only [List.length_cons, Nat.add_sub_cancel] at h1 h2 h3
      rw [Nat.pow_succ] at h2 h3
      have h4 : 0 < (nrm (b :: g) + 1) ^ g.length := Nat.pow_pos (by omega)
      have h6 : nrm (b :: g) * (nrm (b :: g) + 1) ^ g.length < (nrm (b :: g) + 1) ^ g.length * (nrm (b :: g) + 1) := by
        rw [Nat.mul_comm]
        exact Nat.mul_lt_mul_of_pos_left (by omega) h4
      omega
theorem all_zero {w : List Int} (h : ∀ x, ev x w = 0) : ∀ a ∈ w, a = 0 := by
  have ht : trim w = [] := Classical.byContradiction fun q => by
    obtain ⟨x, hx⟩ := ev_nonzero (trim_poly (f := w)) q
    exact hx ((lin_ev x).trim.trans (h x))
  intro a ha
  rw [trim_split (f := w), ht, List.append_nil] at ha
  exact List.eq_of_mem_replicate ha
theorem zip_zero : ∀ {u v : List Int}, u.length = v.length → (∀ a ∈ List.zipWith (· + ·) u (v.map fun b => -1 * b), a = 0) → u = v
  | [], [], _, _ => rfl
  | a :: u, b :: v, h, q => by
    have h : u.length = v.length := by simpa using h
    simp only [List.map_cons, List.zipWith_cons_cons] at q
    have h1 := q _ (List.mem_cons_self ..)
    rw [zip_zero h fun c hc => q c (List.mem_cons_of_mem _ hc)]
    congr 1
    omega
theorem ev_len {u v : List Int} (hl : u.length = v.length) (h : ∀ x, ev x u = ev x v) : u = v := by
  refine zip_zero hl (all_zero fun x => ?_)
  rw [(lin_ev x).a _ _ (by simp [hl]), show ev x (v.map fun b => -1 * b) = -1 * ev x v from hom_scale, h x]
  omega
theorem trim_pad {m : Nat} {f : List Int} (hf : PolyL f) : trim (padL m f) = f := by
  have go : ∀ k, trim (List.replicate k 0 ++ f) = f := by
    intro k
    induction k with
    | zero =>
      cases f with
      | nil => rfl
      | cons a f => simp [trim, lead, hf a f rfl]
    | succ k ih =>
      rw [List.replicate_succ, List.cons_append]
      have : trim (0 :: (List.replicate k 0 ++ f)) = trim (List.replicate k 0 ++ f) := by simp [trim, lead]
      rw [this, ih]
  exact go _
theorem ev_ext {f g : List Int} (hf : PolyL f) (hg : PolyL g) (h : ∀ x, ev x f = ev x g) : f = g := by
  have e : padL (max f.length g.length) f = padL (max f.length g.length) g := ev_len (by rw [padL_len (Nat.le_max_left ..), padL_len (Nat.le_max_right ..)]) fun x => by rw [(lin_ev x).pad, (lin_ev x).pad, h x]
  rw [← trim_pad (m := max f.length g.length) hf, e, trim_pad hg]
/-! ### two unknowns -/
theorem map_rep {φ : List Int → Int} (h0 : φ [] = 0) {k : Nat} {P : List (List Int)} : (List.replicate k [] ++ P).map φ = List.replicate k 0 ++ P.map φ := by simp [h0]
theorem padP_map {φ : List Int → Int} (h0 : φ [] = 0) {m : Nat} {P : List (List Int)} : (padP m P).map φ = padL m (P.map φ) := by
  unfold padP padL
  rw [map_rep h0, List.length_map]
theorem trimP_split {P : List (List Int)} : P = List.replicate (leadP P) [] ++ trimP P := by
  induction P with
  | nil => rfl
  | cons a f ih =>
    by_cases h : a = []
    · subst h
      have e : leadP ([] :: f) = leadP f + 1 := by simp [leadP]
      have e2 : trimP ([] :: f) = trimP f := by simp [trimP, leadP]
      rw [e, e2, List.replicate_succ, List.cons_append, ← ih]
    · simp [leadP, trimP, h]
theorem trimP_lin {E φ : List Int → Int} {P : List (List Int)} (L : ∀ k f, E (List.replicate k 0 ++ f) = E f) (h0 : φ [] = 0) : E ((trimP P).map φ) = E (P.map φ) := by
  conv => rhs; rw [trimP_split (P := P), map_rep h0]
  rw [L]
theorem sumP_lin {E φ : List Int → Int} (LE : Lin E) (L : Lin φ) {P Q : List (List Int)} : E ((sumP P Q).map φ) = E (P.map φ) + E (Q.map φ) := by
  unfold sumP
  rw [trimP_lin (fun k f => LE.rep) L.n]
  have e : ∀ A B : List (List Int), (List.zipWith sumL A B).map φ = List.zipWith (· + ·) (A.map φ) (B.map φ) := by
    intro A
    induction A with
    | nil => intro B; simp
    | cons a A ih => intro B; cases B with
      | nil => simp
      | cons b B => simp [L.sum, ih]
  rw [e, padP_map L.n, padP_map L.n, LE.a _ _ (by rw [padL_len (by simp; omega), padL_len (by simp; omega)]), LE.pad, LE.pad]
theorem map_paddc {φ : List Int → Int} (L : Lin φ) {F : List (List Int)} {k : Nat} {v : List Int} : (paddc F k v).map φ = addc (F.map φ) k (φ v) := by
  unfold paddc addc
  rw [List.map_set, L.sum]
  congr 2
  by_cases hk : k < F.length
  · simp [List.getD_eq_getElem?_getD, hk]
  · simp [List.getD_eq_getElem?_getD, List.getElem?_eq_none (Nat.le_of_not_lt hk), L.n]
theorem map_pinner {φ φ1 φ2 : List Int → Int} (L : Lin φ) (hp : ∀ a b, φ (prodL a b) = φ1 a * φ2 b) {i : Nat} {a : List Int} : ∀ {bs acc : List (List Int)} {j : Nat}, (pinner i a acc j bs).map φ = inner i (φ1 a) (acc.map φ) j (bs.map φ2)
  | [], acc, j => rfl
  | b :: bs, acc, j => by rw [pinner, map_pinner L hp, map_paddc L, hp]; rfl
theorem map_pouter {φ φ1 φ2 : List Int → Int} (L : Lin φ) (hp : ∀ a b, φ (prodL a b) = φ1 a * φ2 b) {Q : List (List Int)} : ∀ {as acc : List (List Int)} {i : Nat}, (pouter Q acc i as).map φ = outer (Q.map φ2) (acc.map φ) i (as.map φ1)
  | [], acc, i => rfl
  | a :: as, acc, i => by rw [pouter, map_pouter L hp, map_pinner L hp]; rfl
theorem map_pconv {φ φ1 φ2 : List Int → Int} (L : Lin φ) (hp : ∀ a b, φ (prodL a b) = φ1 a * φ2 b) {P Q : List (List Int)} : (pconv P Q).map φ = conv (P.map φ1) (Q.map φ2) := by
  unfold pconv conv
  rw [map_pouter L hp]
  simp [L.n]
theorem addc_two {l1 l2 : List Int} (h : l1.length = l2.length) {k : Nat} {v w : Int} : addc (List.zipWith (· + ·) l1 l2) k (v + w) = List.zipWith (· + ·) (addc l1 k v) (addc l2 k w) := by
  induction l1 generalizing l2 k with
  | nil => cases l2 with
    | nil => simp [addc]
    | cons _ _ => simp at h
  | cons a l1 ih =>
    cases l2 with
    | nil => simp at h
    | cons b l2 =>
      have h : l1.length = l2.length := by simpa using h
      cases k with
      | zero =>
        simp [addc]
        omega
      | succ k =>
        have := ih h (k := k)
        simp [addc] at this ⊢
        exact this
theorem map_pinner2 {φ φ1 φ2 φ3 φ4 : List Int → Int} (L : Lin φ) (hp : ∀ a b, φ (prodL a b) = φ1 a * φ2 b + φ3 a * φ4 b) {i : Nat} {a : List Int} : ∀ {bs acc : List (List Int)} {l1 l2 : List Int} {j : Nat}, acc.map φ = List.zipWith (· + ·) l1 l2 → l1.length = l2.length → (pinner i a acc j bs).map φ = List.zipWith (· + ·) (inner i (φ1 a) l1 j (bs.map φ2)) (inner i (φ3 a) l2 j (bs.map φ4))
  | [], acc, l1, l2, j, h, hl => h
  | b :: bs, acc, l1, l2, j, h, hl => by
    rw [pinner, List.map_cons, List.map_cons, inner, inner]
    refine map_pinner2 L hp ?_ (by simp [hl])
    rw [map_paddc L, hp, h, addc_two hl]
theorem map_pouter2 {φ φ1 φ2 φ3 φ4 : List Int → Int} (L : Lin φ) (hp : ∀ a b, φ (prodL a b) = φ1 a * φ2 b + φ3 a * φ4 b) {Q : List (List Int)} : ∀ {as acc : List (List Int)} {l1 l2 : List Int} {i : Nat}, acc.map φ = List.zipWith (· + ·) l1 l2 → l1.length = l2.length → (pouter Q acc i as).map φ = List.zipWith (· + ·) (outer (Q.map φ2) l1 i (as.map φ1)) (outer (Q.map φ4) l2 i (as.map φ3))
  | [], acc, l1, l2, i, h, hl => h
  | a :: as, acc, l1, l2, i, h, hl => by
    rw [pouter, List.map_cons, List.map_cons, outer, outer]
    exact map_pouter2 L hp (map_pinner2 L hp h hl) (by simp [hl])
theorem map_pconv2 {φ φ1 φ2 φ3 φ4 : List Int → Int} (L : Lin φ) (hp : ∀ a b, φ (prodL a b) = φ1 a * φ2 b + φ3 a * φ4 b) {P Q : List (List Int)} : (pconv P Q).map φ = List.zipWith (· + ·) (conv (P.map φ1) (Q.map φ2)) (conv (P.map φ3) (Q.map φ4)) := by
  unfold pconv conv
  rw [map_pouter2 L hp (l1 := List.replicate (P.length + Q.length - 1) 0) (l2 := List.replicate (P.length + Q.length - 1) 0) (by simp [L.n]) (by simp)]
  simp
/-- the value at x, y -/
def pe (x y : Int) (P : List (List Int)) : Int := ev y (P.map (ev x))
theorem rows_ext : ∀ {A B : List (List Int)}, (∀ r ∈ A, PolyL r) → (∀ r ∈ B, PolyL r) → (∀ x, A.map (ev x) = B.map (ev x)) → A = B
  | [], [], _, _, _ => rfl
  | [], b :: B, _, _, h => by have := h 0; simp at this
  | a :: A, [], _, _, h => by have := h 0; simp at this
  | a :: A, b :: B, ha, hb, h => by
    have h1 : a = b := ev_ext (ha a (List.mem_cons_self ..)) (hb b (List.mem_cons_self ..)) fun x => by
      have := h x
      simp only [List.map_cons, List.cons.injEq] at this
      exact this.1
    have h2 : A = B := rows_ext (fun r hr => ha r (List.mem_cons_of_mem _ hr)) (fun r hr => hb r (List.mem_cons_of_mem _ hr)) fun x => by
      have := h x
      simp only [List.map_cons, List.cons.injEq] at this
      exact this.2
    rw [h1, h2]
theorem trimP_pad {m : Nat} {P : List (List Int)} (hf : PlaneL P) : trimP (padP m P) = P := by
  have go : ∀ k, trimP (List.replicate k [] ++ P) = P := by
    intro k
    induction k with
    | zero =>
      cases P with
      | nil => rfl
      | cons a f => simp [trimP, leadP, hf.head a f rfl]
    | succ k ih =>
      rw [List.replicate_succ, List.cons_append]
      have : trimP ([] :: (List.replicate k [] ++ P)) = trimP (List.replicate k [] ++ P) := by simp [trimP, leadP]
      rw [this, ih]
  exact go _
theorem poly_nil : PolyL [] := fun _ _ h => nomatch h
theorem pe_ext {P Q : List (List Int)} (hP : PlaneL P) (hQ : PlaneL Q) (h : ∀ x y, pe x y P = pe x y Q) : P = Q := by
  have pl : ∀ {m : Nat} {R : List (List Int)}, PlaneL R → ∀ r ∈ padP m R, PolyL r := fun {m R} hR r hr => by
    rcases List.mem_append.mp hr with hr | hr
    · rw [List.eq_of_mem_replicate hr]
      exact poly_nil
    · exact hR.rows r hr
  have e : padP (max P.length Q.length) P = padP (max P.length Q.length) Q := rows_ext (pl hP) (pl hQ) fun x => by
    refine ev_len (by simp [padP_len (Nat.le_max_left P.length Q.length), padP_len (Nat.le_max_right P.length Q.length)]) fun y => ?_
    rw [padP_map rfl, padP_map rfl, (lin_ev y).pad, (lin_ev y).pad]
    exact h x y
  rw [← trimP_pad (m := max P.length Q.length) hP, e, trimP_pad hQ]
theorem pe_sum {x y : Int} {P Q : List (List Int)} : pe x y (sumP P Q) = pe x y P + pe x y Q := sumP_lin (lin_ev y) (lin_ev x)
theorem pe_prod {x y : Int} {P Q : List (List Int)} : pe x y (prodP P Q) = pe x y P * pe x y Q := by
  unfold prodP
  by_cases h : P = [] ∨ Q = []
  · rw [if_pos h]
    rcases h with h | h <;> subst h <;> simp [pe, ev, hom]
  · rw [if_neg h]
    have h1 : P ≠ [] := fun q => h (.inl q)
    have h2 : Q ≠ [] := fun q => h (.inr q)
    unfold pe
    rw [map_pconv (lin_ev x) (fun a b => ev_prod), ev_conv (by simpa using h1) (by simpa using h2)]
theorem pe_slopeX {x y : Int} {P : List (List Int)} : pe x y (slopeX P) = ev y (P.map (dv x)) := by
  unfold pe slopeX
  rw [trimP_lin (fun k f => (lin_ev y).rep) (lin_ev x).n, List.map_map]
  congr 1
  exact List.map_congr_left fun r _ => ev_slope
theorem map_slopeY {φ : List Int → Int} (h : ∀ (k : Int) f, φ (scaleL k f) = k * φ f) : ∀ {P : List (List Int)}, (slopeY P).map φ = slopeL (P.map φ)
  | [] => rfl
  | [_] => rfl
  | a :: b :: P => by
    rw [slopeY, List.map_cons, map_slopeY h, h]
    simp only [List.map_cons, slopeL, List.length_cons, List.length_map]
    rw [Int.mul_comm]
theorem ev_scale {x k : Int} {f : List Int} : ev x (scaleL k f) = k * ev x f := by
  unfold scaleL
  by_cases h : k = 0
  · simp [h, ev, hom]
  · rw [if_neg h]
    exact hom_scale
theorem dv_scale {x k : Int} {f : List Int} : dv x (scaleL k f) = k * dv x f := by
  unfold scaleL
  by_cases h : k = 0
  · simp [h, dv]
  · rw [if_neg h]
    induction f with
    | nil => simp [dv]
    | cons a f ih =>
      simp only [List.map_cons, dv, ih, List.length_map]
      grind
theorem pe_slopeY {x y : Int} {P : List (List Int)} : pe x y (slopeY P) = dv y (P.map (ev x)) := by
  unfold pe
  rw [map_slopeY (fun k f => ev_scale), ev_slope]
theorem slope_poly : ∀ {f : List Int}, PolyL f → PolyL (slopeL f)
  | [], _ => poly_nil
  | [_], _ => poly_nil
  | a :: b :: f, h => fun c r e => by
    simp only [slopeL, List.cons.injEq] at e
    rw [← e.1]
    exact Int.mul_ne_zero (h a _ rfl) (by simp; omega)
theorem slopeX_plane {P : List (List Int)} (h : PlaneL P) : PlaneL (slopeX P) := trimP_plane fun r hr => by
  obtain ⟨q, hq, rfl⟩ := List.mem_map.mp hr
  exact slope_poly (h.rows q hq)
theorem slopeY_rows : ∀ {P : List (List Int)}, (∀ r ∈ P, PolyL r) → ∀ r ∈ slopeY P, PolyL r
  | [], _, r, hr => nomatch hr
  | [_], _, r, hr => nomatch hr
  | a :: b :: P, h, r, hr => by
    rcases List.mem_cons.mp hr with rfl | hr
    · exact scale_poly (h a (List.mem_cons_self ..))
    · exact slopeY_rows (fun q hq => h q (List.mem_cons_of_mem _ hq)) r hr
theorem slopeY_plane {P : List (List Int)} (h : PlaneL P) : PlaneL (slopeY P) := ⟨slopeY_rows h.rows, fun r R e => by
  match P, h, e with
  | a :: b :: P, h, e =>
    simp only [slopeY, List.cons.injEq] at e
    rw [← e.1]
    have ha := h.head a _ rfl
    unfold scaleL
    rw [if_neg (by simp; omega)]
    simpa using ha⟩
theorem sumP_plane {P Q : List (List Int)} : PlaneL (sumP P Q) := trimP_plane fun r hr => by
  have : ∀ (A B : List (List Int)), ∀ r ∈ List.zipWith sumL A B, PolyL r := by
    intro A
    induction A with
    | nil => intro B r hr; simp at hr
    | cons a A ih =>
      intro B r hr
      cases B with
      | nil => simp at hr
      | cons b B =>
        rcases List.mem_cons.mp hr with rfl | hr
        · exact trim_poly
        · exact ih B r hr
  exact this _ _ r hr
theorem getD_set_ne {F : List (List Int)} {k : Nat} {r : List Int} (h : 0 < k) : (F.set k r).getD 0 [] = F.getD 0 [] := by
  cases F with
  | nil => simp
  | cons a F =>
    obtain ⟨k, rfl⟩ : ∃ m, k = m + 1 := ⟨k - 1, by omega⟩
    simp
theorem pinner_head {i : Nat} {a : List Int} : ∀ {bs acc : List (List Int)} {j : Nat}, 0 < i + j → (pinner i a acc j bs).getD 0 [] = acc.getD 0 []
  | [], acc, j, h => rfl
  | b :: bs, acc, j, h => by rw [pinner, pinner_head (by omega), paddc, getD_set_ne h]
theorem pouter_head {Q : List (List Int)} : ∀ {as acc : List (List Int)} {i : Nat}, 0 < i → (pouter Q acc i as).getD 0 [] = acc.getD 0 []
  | [], acc, i, h => rfl
  | a :: as, acc, i, h => by rw [pouter, pouter_head (by omega), pinner_head (by omega)]
theorem pinner_rows {i : Nat} {a : List Int} : ∀ {bs acc : List (List Int)} {j : Nat}, (∀ r ∈ acc, PolyL r) → ∀ r ∈ pinner i a acc j bs, PolyL r
  | [], acc, j, h => h
  | b :: bs, acc, j, h => pinner_rows (bs := bs) fun r hr => by
    rcases List.mem_or_eq_of_mem_set hr with hr | rfl
    · exact h r hr
    · exact trim_poly
theorem pouter_rows {Q : List (List Int)} : ∀ {as acc : List (List Int)} {i : Nat}, (∀ r ∈ acc, PolyL r) → ∀ r ∈ pouter Q acc i as, PolyL r
  | [], acc, i, h => h
  | a :: as, acc, i, h => pouter_rows (as := as) (pinner_rows h)
theorem sum_nil {v : List Int} (h : PolyL v) : sumL [] v = v := ev_ext trim_poly h fun x => by
  rw [(lin_ev x).sum]
  simp [ev, hom]
theorem prodP_plane {P Q : List (List Int)} (hP : PlaneL P) (hQ : PlaneL Q) : PlaneL (prodP P Q) := by
  unfold prodP
  by_cases h : P = [] ∨ Q = []
  · rw [if_pos h]
    exact ⟨(fun _ h => nomatch h), (fun _ _ h => nomatch h)⟩
  · rw [if_neg h]
    cases P with
    | nil => exact absurd (.inl rfl) h
    | cons a P =>
      cases Q with
      | nil => exact absurd (.inr rfl) h
      | cons b Q =>
        refine ⟨pouter_rows fun r hr => by rw [List.eq_of_mem_replicate hr]; exact poly_nil, fun r R e => ?_⟩
        have e1 : (pconv (a :: P) (b :: Q)).getD 0 [] = prodL a b := by
          unfold pconv
          rw [pouter, pouter_head (by omega), pinner, pinner_head (by omega)]
          have : (a :: P).length + (b :: Q).length - 1 = (P.length + Q.length) + 1 := by simp; omega
          rw [this, List.replicate_succ]
          simp only [paddc, Nat.add_zero, List.getD_cons_zero, List.set_cons_zero]
          exact sum_nil (prod_poly (hP.rows a (List.mem_cons_self ..)) (hQ.rows b (List.mem_cons_self ..)))
        rw [e] at e1
        simp at e1
        rw [e1]
        have ha := hP.head a P rfl
        have hb := hQ.head b Q rfl
        unfold prodL
        rw [if_neg (by simp [ha, hb])]
        intro q
        have := congrArg List.length q
        rw [conv_len] at this
        have := List.length_pos_iff.mpr ha
        have := List.length_pos_iff.mpr hb
        simp at *
        omega
/-! ### the laws -/
theorem slopes_swap {P : List (List Int)} (h : PlaneL P) : slopeX (slopeY P) = slopeY (slopeX P) := pe_ext (slopeX_plane (slopeY_plane h)) (slopeY_plane (slopeX_plane h)) fun x y => by
  rw [pe_slopeX, pe_slopeY, map_slopeY (fun k f => dv_scale), ev_slope]
  unfold slopeX
  rw [trimP_lin (fun k f => (lin_dv y).rep) (lin_ev x).n, List.map_map]
  congr 1
  exact (List.map_congr_left fun r _ => ev_slope).symm
theorem ne_map {φ : List Int → Int} {P : List (List Int)} (h : P ≠ []) : P.map φ ≠ [] := by simpa using h
theorem prodP_distrib {f g h : List (List Int)} (hf : PlaneL f) : prodP f (sumP g h) = sumP (prodP f g) (prodP f h) := pe_ext (prodP_plane hf sumP_plane) sumP_plane fun x y => by
  rw [pe_prod, pe_sum, pe_sum, pe_prod, pe_prod]
  grind
theorem prodP_slopeX {f g : List (List Int)} (hf : PlaneL f) (hg : PlaneL g) : slopeX (prodP f g) = sumP (prodP (slopeX f) g) (prodP f (slopeX g)) := pe_ext (slopeX_plane (prodP_plane hf hg)) sumP_plane fun x y => by
  rw [pe_sum, pe_prod, pe_prod, pe_slopeX, pe_slopeX, pe_slopeX]
  unfold prodP
  by_cases h : f = [] ∨ g = []
  · rw [if_pos h]
    rcases h with h | h <;> subst h <;> simp [pe, ev, hom]
  · rw [if_neg h]
    have h1 : f ≠ [] := fun q => h (.inl q)
    have h2 : g ≠ [] := fun q => h (.inr q)
    rw [map_pconv2 (lin_dv x) (fun a b => dv_prod), (lin_ev y).a _ _ (by simp), ev_conv (ne_map h1) (ne_map h2), ev_conv (ne_map h1) (ne_map h2)]
    rfl
theorem prodP_slopeY {f g : List (List Int)} (hf : PlaneL f) (hg : PlaneL g) : slopeY (prodP f g) = sumP (prodP (slopeY f) g) (prodP f (slopeY g)) := pe_ext (slopeY_plane (prodP_plane hf hg)) sumP_plane fun x y => by
  rw [pe_sum, pe_prod, pe_prod, pe_slopeY, pe_slopeY, pe_slopeY]
  unfold prodP
  by_cases h : f = [] ∨ g = []
  · rw [if_pos h]
    rcases h with h | h <;> subst h <;> simp [pe, ev, hom, dv]
  · rw [if_neg h]
    have h1 : f ≠ [] := fun q => h (.inl q)
    have h2 : g ≠ [] := fun q => h (.inr q)
    rw [map_pconv (lin_ev x) (fun a b => ev_prod), dv_conv (ne_map h1) (ne_map h2)]
    rfl
end Fp.Z
/-! FpPlaneV: the values of sums and products of plane polynomials. -/
namespace Fp.Z
open PySem Fp
/-- additive on rows of at most M -/
structure LinM (M : Nat) (φ : List Int → Int) : Prop where
  n : φ [] = 0
  s : ∀ a b, a.length ≤ M → b.length ≤ M → φ (sumL a b) = φ a + φ b
theorem map_paddcM {M : Nat} {φ : List Int → Int} (L : LinM M φ) {F : List (List Int)} {k : Nat} {v : List Int} (hF : RL M F) (hv : v.length ≤ M) : (paddc F k v).map φ = addc (F.map φ) k (φ v) := by
  unfold paddc addc
  rw [List.map_set, L.s _ _ (RL_getD hF) hv]
  congr 2
  by_cases hk : k < F.length
  · simp [List.getD_eq_getElem?_getD, hk]
  · simp [List.getD_eq_getElem?_getD, List.getElem?_eq_none (Nat.le_of_not_lt hk), L.n]
theorem map_pinnerM {M M2 : Nat} {φ φ1 φ2 : List Int → Int} (L : LinM M φ) {i : Nat} {a : List Int} (hp : ∀ b, b.length ≤ M2 → φ (prodL a b) = φ1 a * φ2 b) (ha : a.length + M2 ≤ M) : ∀ {bs acc : List (List Int)} {j : Nat}, RL M2 bs → RL M acc → (pinner i a acc j bs).map φ = inner i (φ1 a) (acc.map φ) j (bs.map φ2) ∧ RL M (pinner i a acc j bs)
  | [], acc, j, hb, hr => ⟨rfl, hr⟩
  | b :: bs, acc, j, hb, hr => by
    have h1 := hb b (List.mem_cons_self ..)
    have h2 := prodL_len (f := a) (g := b)
    have ih := map_pinnerM L hp ha (i := i) (bs := bs) (acc := paddc acc (i + j) (prodL a b)) (j := j + 1) (fun r hr => hb r (List.mem_cons_of_mem _ hr)) (RL_paddc hr (by omega))
    rw [pinner]
    refine ⟨?_, ih.2⟩
    rw [ih.1, map_paddcM L hr (by omega), hp b h1]
    rfl
theorem map_pouterM {M M1 M2 : Nat} {φ φ1 φ2 : List Int → Int} (L : LinM M φ) (hp : ∀ a b, a.length ≤ M1 → b.length ≤ M2 → φ (prodL a b) = φ1 a * φ2 b) (hM : M1 + M2 ≤ M) {Q : List (List Int)} (hQ : RL M2 Q) : ∀ {as acc : List (List Int)} {i : Nat}, RL M1 as → RL M acc → (pouter Q acc i as).map φ = outer (Q.map φ2) (acc.map φ) i (as.map φ1)
  | [], acc, i, ha, hr => rfl
  | a :: as, acc, i, ha, hr => by
    have h1 := ha a (List.mem_cons_self ..)
    have ih := map_pinnerM L (fun b => hp a b h1) (by omega) (i := i) (acc := acc) (j := 0) hQ hr
    rw [pouter, map_pouterM L hp hM hQ (fun r hr => ha r (List.mem_cons_of_mem _ hr)) ih.2, ih.1]
    rfl
section
variable {p q s t : Int}
/-- a row's value over q^M -/
def Nf (p q : Int) (M : Nat) (r : List Int) : Int := q ^ (M - r.length) * (q * hom p q r)
theorem Nf_nil {M : Nat} : Nf p q M [] = 0 := by simp [Nf, hom]
theorem Nf_sum {M : Nat} {a b : List Int} (hq : 0 < q) (ha : a.length ≤ M) (hb : b.length ≤ M) : Nf p q M (sumL a b) = Nf p q M a + Nf p q M b := by
  have hm1 : a.length ≤ max a.length b.length := Nat.le_max_left ..
  have hm2 : b.length ≤ max a.length b.length := Nat.le_max_right ..
  have hmM : max a.length b.length ≤ M := by omega
  unfold sumL
  generalize max a.length b.length = m at hm1 hm2 hmM
  generalize hz : List.zipWith (· + ·) (padL m a) (padL m b) = z
  have hzl : z.length = m := by rw [← hz]; simp [hm1, hm2]
  have e1 : hom p q z = q ^ (m - a.length) * hom p q a + q ^ (m - b.length) * hom p q b := by
    rw [← hz, hom_add (by rw [padL_len hm1, padL_len hm2]), padL, padL, hom_rep, hom_rep]
  have e2 := hom_trim (p := p) (q := q) (f := z)
  have e3 : lead z + (trim z).length = m := by
    have := lead_le (f := z)
    simp [trim]
    omega
  unfold Nf
  have a1 : M - (trim z).length = (M - m) + lead z := by omega
  have a2 : M - a.length = (M - m) + (m - a.length) := by omega
  have a3 : M - b.length = (M - m) + (m - b.length) := by omega
  rw [a1, a2, a3, Int.pow_add, Int.pow_add, Int.pow_add]
  rw [e2] at e1
  generalize q ^ (M - m) = X at *
  generalize q ^ lead z = A at *
  generalize q ^ (m - a.length) = B at *
  generalize q ^ (m - b.length) = C at *
  grind
theorem linM_Nf {M : Nat} (hq : 0 < q) : LinM M (Nf p q M) := ⟨Nf_nil, fun a b ha hb => Nf_sum hq ha hb⟩
theorem Nf_prod {M1 M2 : Nat} {a b : List Int} (ha : a.length ≤ M1) (hb : b.length ≤ M2) : Nf p q (M1 + M2) (prodL a b) = Nf p q M1 a * Nf p q M2 b := by
  unfold prodL
  by_cases h : a = [] ∨ b = []
  · rw [if_pos h]
    rcases h with h | h <;> subst h <;> simp [Nf, hom]
  · rw [if_neg h]
    have h1 : a ≠ [] := fun z => h (.inl z)
    have h2 : b ≠ [] := fun z => h (.inr z)
    have l1 := List.length_pos_iff.mpr h1
    have l2 := List.length_pos_iff.mpr h2
    unfold Nf
    rw [hom_conv h1 h2, conv_len]
    have e : M1 + M2 - (a.length + b.length - 1) = (M1 - a.length) + (M2 - b.length) + 1 := by omega
    rw [e, Int.pow_succ, Int.pow_add]
    grind
theorem Nf_row {M : Nat} {r : List Int} (h : r.length ≤ M) : hom p q r * q ^ M = Nf p q M r * q ^ (r.length - 1) := by
  cases r with
  | nil => simp [Nf, hom]
  | cons a r =>
    simp only [List.length_cons] at h
    unfold Nf
    have e : M = (M - (r.length + 1)) + r.length + 1 := by omega
    simp only [List.length_cons, Nat.add_sub_cancel]
    generalize M - (r.length + 1) = i at *
    rw [e, Int.pow_succ, Int.pow_add]
    grind
theorem vfold_inv {M : Nat} : ∀ {P : List (List Int)} {a : Int × Int} {u : List Int}, RL M P → a.1 * (q ^ M * t ^ u.length) = a.2 * (t * hom s t u) → (vfold s t a (rowsV p q P)).1 * (q ^ M * t ^ (u ++ P.map (Nf p q M)).length) = (vfold s t a (rowsV p q P)).2 * (t * hom s t (u ++ P.map (Nf p q M)))
  | [], a, u, hr, h => by simpa [vfold, rowsV] using h
  | r :: P, a, u, hr, h => by
    have hl := hr r (List.mem_cons_self ..)
    have e1 := Nf_row (p := p) (q := q) hl
    have ih := vfold_inv (P := P) (a := vstep s t a (hom p q r, q ^ (r.length - 1))) (u := u ++ [Nf p q M r]) (fun x hx => hr x (List.mem_cons_of_mem _ hx)) (by
      rw [hom_snoc, List.length_append, List.length_singleton, Int.pow_succ]
      unfold vstep
      generalize hom p q r = C at *
      generalize q ^ (r.length - 1) = Dd at *
      generalize Nf p q M r = N at *
      generalize q ^ M = QM at *
      generalize t ^ u.length = TU at *
      generalize hom s t u = H at *
      obtain ⟨a1, a2⟩ := a
      simp only at h ⊢
      grind)
    simp only [List.append_assoc, List.singleton_append] at ih
    exact ih
theorem vfold_pos (hs : StOk s t) (hq : 0 < q) : ∀ {P : List (List Int)} {a : Int × Int}, 0 < a.2 → 0 < (vfold s t a (rowsV p q P)).2
  | [], a, h => h
  | r :: P, a, h => vfold_pos hs hq (P := P) (Int.mul_pos (Int.mul_pos h hs.t.1) (Int.pow_pos hq))
/-- a plane polynomial's sum of rows -/
def vP (p q s t : Int) (P : List (List Int)) : Int × Int := vfold s t (0, 1) (rowsV p q P)
theorem vP_inv {M : Nat} {P : List (List Int)} (h : RL M P) : (vP p q s t P).1 * (q ^ M * t ^ P.length) = (vP p q s t P).2 * (t * hom s t (P.map (Nf p q M))) := by
  have := vfold_inv (p := p) (q := q) (s := s) (t := t) (M := M) (P := P) (a := (0, 1)) (u := []) h (by simp [hom])
  simpa [vP] using this
theorem sumP_val (hx : StOk p q) (hy : StOk s t) {M : Nat} {P Q : List (List Int)} (hP : RL M P) (hQ : RL M Q) :
    planeV p q s t (sumP P Q) = lowD ((vP p q s t P).1 * (vP p q s t Q).2 + (vP p q s t Q).1 * (vP p q s t P).2) ((vP p q s t P).2 * (vP p q s t Q).2) := by
  have hq := hx.t.1
  have ht := hy.t.1
  have L := linM_Nf (p := p) (q := q) (M := M) hq
  have b1 := vfold_pos (p := p) (q := q) hy hq (P := P) (a := (0, 1)) (by decide)
  have b2 := vfold_pos (p := p) (q := q) hy hq (P := Q) (a := (0, 1)) (by decide)
  have b3 := vfold_pos (p := p) (q := q) hy hq (P := sumP P Q) (a := (0, 1)) (by decide)
  have hm1 : P.length ≤ max P.length Q.length := Nat.le_max_left ..
  have hm2 : Q.length ≤ max P.length Q.length := Nat.le_max_right ..
  have hR : RL M (List.zipWith sumL (padP (max P.length Q.length) P) (padP (max P.length Q.length) Q)) := by
    have go : ∀ (A B : List (List Int)), RL M A → RL M B → RL M (List.zipWith sumL A B) := by
      intro A
      induction A with
      | nil => intro B _ _ r hr; simp at hr
      | cons a A ih =>
        intro B ha hb r hr
        cases B with
        | nil => simp at hr
        | cons b B =>
          rcases List.mem_cons.mp hr with rfl | hr
          · have := sum_len (f := a) (g := b)
            have := ha a (List.mem_cons_self ..)
            have := hb b (List.mem_cons_self ..)
            omega
          · exact ih B (fun r hr => ha r (List.mem_cons_of_mem _ hr)) (fun r hr => hb r (List.mem_cons_of_mem _ hr)) r hr
    exact go _ _ (padP_RL hP) (padP_RL hQ)
  have i1 := vP_inv (s := s) (t := t) (p := p) (q := q) hP
  have i2 := vP_inv (s := s) (t := t) (p := p) (q := q) hQ
  have i3 := vP_inv (s := s) (t := t) (p := p) (q := q) (M := M) (P := sumP P Q) (fun r hr => hR r (trimP_mem hr))
  refine lowD_eq b3 (Int.mul_pos b1 b2) ?_
  show (vP p q s t (sumP P Q)).1 * _ = _ * (vP p q s t (sumP P Q)).2
  have c3 : 0 < (vP p q s t (sumP P Q)).2 := b3
  have c1 : 0 < (vP p q s t P).2 := b1
  have c2 : 0 < (vP p q s t Q).2 := b2
  -- the rows of the sum
  unfold sumP at i3 c3 ⊢
  generalize hM : max P.length Q.length = m at *
  generalize hz : List.zipWith sumL (padP m P) (padP m Q) = Z at *
  have hzl : Z.length = m := by rw [← hz]; simp [padP_len hm1, padP_len hm2]
  have hsplit := trimP_split (P := Z)
  have e3 : leadP Z + (trimP Z).length = m := by
    have := leadP_le (P := Z)
    simp [trimP]
    omega
  have e4 : Z.map (Nf p q M) = List.zipWith (· + ·) (padL m (P.map (Nf p q M))) (padL m (Q.map (Nf p q M))) := by
    rw [← padP_map Nf_nil, ← padP_map Nf_nil, ← hz]
    have go : ∀ (A B : List (List Int)), RL M A → RL M B → (List.zipWith sumL A B).map (Nf p q M) = List.zipWith (· + ·) (A.map (Nf p q M)) (B.map (Nf p q M)) := by
      intro A
      induction A with
      | nil => intro B _ _; simp
      | cons a A ih =>
        intro B ha hb
        cases B with
        | nil => simp
        | cons b B =>
          simp only [List.zipWith_cons_cons, List.map_cons]
          rw [ih B (fun r hr => ha r (List.mem_cons_of_mem _ hr)) (fun r hr => hb r (List.mem_cons_of_mem _ hr)), L.s a b (ha a (List.mem_cons_self ..)) (hb b (List.mem_cons_self ..))]
    exact go _ _ (padP_RL hP) (padP_RL hQ)
  have e5 : hom s t (Z.map (Nf p q M)) = t ^ (m - P.length) * hom s t (P.map (Nf p q M)) + t ^ (m - Q.length) * hom s t (Q.map (Nf p q M)) := by
    rw [e4, hom_add (by rw [padL_len (by simpa using hm1), padL_len (by simpa using hm2)]), padL, padL, hom_rep, hom_rep]
    simp
  have e6 : hom s t (Z.map (Nf p q M)) = t ^ leadP Z * hom s t ((trimP Z).map (Nf p q M)) := by
    conv => lhs; rw [hsplit, map_rep Nf_nil]
    exact hom_rep
  have hne : q ^ M * t ^ m ≠ 0 := Int.ne_of_gt (Int.mul_pos (Int.pow_pos hq) (Int.pow_pos ht))
  apply Int.eq_of_mul_eq_mul_left hne
  have p1 : t ^ m = t ^ (m - P.length) * t ^ P.length := by rw [← Int.pow_add]; congr 1; omega
  have p2 : t ^ m = t ^ (m - Q.length) * t ^ Q.length := by rw [← Int.pow_add]; congr 1; omega
  have p3 : t ^ m = t ^ leadP Z * t ^ (trimP Z).length := by rw [← Int.pow_add, e3]
  generalize vP p q s t P = vp at *
  generalize vP p q s t Q = vq at *
  generalize vP p q s t (trimP Z) = vz at *
  obtain ⟨vp1, vp2⟩ := vp
  obtain ⟨vq1, vq2⟩ := vq
  obtain ⟨vz1, vz2⟩ := vz
  simp only at *
  generalize hom s t (Z.map (Nf p q M)) = HZ at *
  generalize hom s t ((trimP Z).map (Nf p q M)) = HT at *
  generalize hom s t (P.map (Nf p q M)) = HP at *
  generalize hom s t (Q.map (Nf p q M)) = HQ at *
  generalize q ^ M = QM at *
  generalize t ^ (trimP Z).length = TT at *
  generalize t ^ leadP Z = TL at *
  generalize t ^ P.length = TP at *
  generalize t ^ Q.length = TQ at *
  generalize t ^ (m - P.length) = UP at *
  generalize t ^ (m - Q.length) = UQ at *
  generalize t ^ m = TM at *
  -- vz1 * QM * TM = vz2 * t * HZ; vp1 * QM * TM = vp2 * t * UP * HP
  have q3 : vz1 * (QM * TM) = vz2 * (t * HZ) := by
    rw [p3, e6]
    grind
  have q1 : vp1 * (QM * TM) = vp2 * (t * (UP * HP)) := by
    rw [p1]
    grind
  have q2 : vq1 * (QM * TM) = vq2 * (t * (UQ * HQ)) := by
    rw [p2]
    grind
  have : QM * TM * (vz1 * (vp2 * vq2)) = vz1 * (QM * TM) * (vp2 * vq2) := by grind
  rw [this, q3, e5]
  have : QM * TM * ((vp1 * vq2 + vq1 * vp2) * vz2) = (vp1 * (QM * TM) * vq2 + vq1 * (QM * TM) * vp2) * vz2 := by grind
  rw [this, q1, q2]
  grind
theorem prodP_val (hx : StOk p q) (hy : StOk s t) {M1 M2 : Nat} {P Q : List (List Int)} (hP : RL M1 P) (hQ : RL M2 Q) :
    planeV p q s t (prodP P Q) = lowD ((vP p q s t P).1 * (vP p q s t Q).1) ((vP p q s t P).2 * (vP p q s t Q).2) := by
  have hq := hx.t.1
  have ht := hy.t.1
  have b1 := vfold_pos (p := p) (q := q) hy hq (P := P) (a := (0, 1)) (by decide)
  have b2 := vfold_pos (p := p) (q := q) hy hq (P := Q) (a := (0, 1)) (by decide)
  have b3 := vfold_pos (p := p) (q := q) hy hq (P := prodP P Q) (a := (0, 1)) (by decide)
  refine lowD_eq b3 (Int.mul_pos b1 b2) ?_
  show (vP p q s t (prodP P Q)).1 * ((vP p q s t P).2 * (vP p q s t Q).2) = ((vP p q s t P).1 * (vP p q s t Q).1) * (vP p q s t (prodP P Q)).2
  have c3 : 0 < (vP p q s t (prodP P Q)).2 := b3
  unfold prodP at c3 ⊢
  by_cases h : P = [] ∨ Q = []
  · rw [if_pos h]
    rcases h with h | h <;> subst h <;> simp [vP, rowsV, vfold]
  · rw [if_neg h] at c3 ⊢
    have h1 : P ≠ [] := fun z => h (.inl z)
    have h2 : Q ≠ [] := fun z => h (.inr z)
    have l1 := List.length_pos_iff.mpr h1
    have l2 := List.length_pos_iff.mpr h2
    have i1 := vP_inv (s := s) (t := t) (p := p) (q := q) hP
    have i2 := vP_inv (s := s) (t := t) (p := p) (q := q) hQ
    have hmap : (pconv P Q).map (Nf p q (M1 + M2)) = conv (P.map (Nf p q M1)) (Q.map (Nf p q M2)) := by
      unfold pconv conv
      rw [map_pouterM (linM_Nf hq) (fun a b ha hb => Nf_prod ha hb) (Nat.le_refl _) hQ hP (fun r hr => by rw [List.eq_of_mem_replicate hr]; simp)]
      simp [Nf_nil]
    have hRL : RL (M1 + M2) (pconv P Q) := by
      have go : ∀ (as acc : List (List Int)) (i : Nat), RL M1 as → RL (M1 + M2) acc → RL (M1 + M2) (pouter Q acc i as) := by
        intro as
        induction as with
        | nil => intro acc i _ h; exact h
        | cons a as ih =>
          intro acc i ha h
          rw [pouter]
          exact ih _ _ (fun r hr => ha r (List.mem_cons_of_mem _ hr)) (map_pinnerM (M2 := M2) (φ := fun _ => 0) (φ1 := fun _ => 0) (φ2 := fun _ => 0) ⟨rfl, fun _ _ _ _ => rfl⟩ (fun _ _ => rfl) (by have := ha a (List.mem_cons_self ..); omega) hQ h).2
      exact go _ _ _ hP (fun r hr => by rw [List.eq_of_mem_replicate hr]; simp)
    have i3 := vP_inv (s := s) (t := t) (p := p) (q := q) hRL
    rw [hmap, hom_conv (by simpa using h1) (by simpa using h2)] at i3
    have hlen : (pconv P Q).length = P.length + Q.length - 1 := by simp [pconv]
    rw [hlen] at i3
    have hne : q ^ (M1 + M2) * t ^ (P.length + Q.length - 1) * t ≠ 0 := Int.ne_of_gt (Int.mul_pos (Int.mul_pos (Int.pow_pos hq) (Int.pow_pos ht)) ht)
    apply Int.eq_of_mul_eq_mul_left hne
    have p1 : t ^ (P.length + Q.length - 1) * t = t ^ P.length * t ^ Q.length := by rw [← Int.pow_succ, ← Int.pow_add]; congr 1; omega
    have p2 : q ^ (M1 + M2) = q ^ M1 * q ^ M2 := Int.pow_add ..
    generalize vP p q s t P = vp at *
    generalize vP p q s t Q = vq at *
    generalize vP p q s t (pconv P Q) = vz at *
    obtain ⟨vp1, vp2⟩ := vp
    obtain ⟨vq1, vq2⟩ := vq
    obtain ⟨vz1, vz2⟩ := vz
    simp only at *
    generalize hom s t (P.map (Nf p q M1)) = HP at *
    generalize hom s t (Q.map (Nf p q M2)) = HQ at *
    generalize q ^ (M1 + M2) = QM at *
    generalize q ^ M1 = Q1 at *
    generalize q ^ M2 = Q2 at *
    generalize t ^ (P.length + Q.length - 1) = TT at *
    generalize t ^ P.length = TP at *
    generalize t ^ Q.length = TQ at *
    have z1 : QM * TT * t * (vz1 * (vp2 * vq2)) = vz1 * (QM * TT) * t * (vp2 * vq2) := by grind
    have z2 : QM * TT * t * (vp1 * vq1 * vz2) = vp1 * (Q1 * TP) * (vq1 * (Q2 * TQ)) * vz2 := by
      have : QM * TT * t = Q1 * Q2 * (TP * TQ) := by rw [← p1, p2]; grind
      rw [this]
      grind
    rw [z1, z2, i1, i2, i3]
    grind
end
end Fp.Z
/-! FpK07: law k07. -/
namespace Fp.Z
open PySem Fp
def b_law_right07 : List Sm := [.asg (.nm 4) (.bin .sub (.call "_law_take" [.var 0, .cst (.int 41)]) (.cst (.int 20))), .asg (.nm 5) (.lst [.call "_law_plane_sum" [.var 1, .var 2], .call "_law_plane_product" [.var 1, .var 2]]), .exp (.meth "append" (.var 5) [.call "_law_upright" [.comp (.ite (.cmp .ne (.var 4) (.cst (.int 0))) (.blt "tuple" [.comp (.bin .mul (.var 4) (.var 14)) (.nm 14) (.ov (.var 13)) none [12, 14]]) (.tup [])) (.nm 13) (.ov (.var 1)) none [12, 13]]]), .ite (.not (.call "_law_same" [.lst [.call "plane_plus" [.var 1, .var 2], .call "plane_times" [.var 1, .var 2], .call "plane_scaled" [.var 1, .var 4]], .var 5])) [.ret (.cst (.bl false))] [], .ite (.not (.call "_law_same" [.lst [.callk "plane_plus" [] [("g", .var 2), ("f", .var 1)], .callk "plane_times" [] [("g", .var 2), ("f", .var 1)], .callk "plane_scaled" [] [("k", .var 4), ("f", .var 1)]], .var 5])) [.ret (.cst (.bl false))] [], .asg (.nm 6) (.call "_law_slopes" [.var 1]), .ite (.not (.call "_law_same" [.lst [.call "slope_x" [.var 1], .call "slope_y" [.var 1], .callk "slope_x" [] [("f", .var 1)], .callk "slope_y" [] [("f", .var 1)]], .blt "list" [.bin .add (.var 6) (.var 6)]])) [.ret (.cst (.bl false))] [], .ite (.not (.call "_law_same" [.call "slope_x" [.call "slope_y" [.var 1]], .call "slope_y" [.call "slope_x" [.var 1]]])) [.ret (.cst (.bl false))] [], .asg (.nm 7) (.call "plane_times" [.var 1, .var 2]), .asg (.nm 5) (.lst [.call "plane_plus" [.call "plane_times" [.call "slope_x" [.var 1], .var 2], .call "plane_times" [.var 1, .call "slope_x" [.var 2]]]]), .exp (.meth "append" (.var 5) [.call "plane_plus" [.call "plane_times" [.call "slope_y" [.var 1], .var 2], .call "plane_times" [.var 1, .call "slope_y" [.var 2]]]]), .ite (.not (.call "_law_same" [.lst [.call "slope_x" [.var 7], .call "slope_y" [.var 7]], .var 5])) [.ret (.cst (.bl false))] [], .ite (.not (.call "_law_same" [.call "plane_times" [.var 1, .call "plane_plus" [.var 2, .var 3]], .call "plane_plus" [.var 7, .call "plane_times" [.var 1, .var 3]]])) [.ret (.cst (.bl false))] [], .par [8, 9] [.call "_law_drawn" [.var 0, .cst (.int 9)], .call "_law_drawn" [.var 0, .cst (.int 9)]], .asg (.nm 10) (.lst [.call "_law_plane_at" [.var 1, .var 8, .var 9], .call "_law_plane_at" [.var 2, .var 8, .var 9]]), .asg (.nm 11) (.lst [.call "_law_plus" [.idx (.var 10) (.cst (.int 0)), .idx (.var 10) (.cst (.int 1))], .call "_law_times" [.idx (.var 10) (.cst (.int 0)), .idx (.var 10) (.cst (.int 1))]]), .ret (.call "_law_same" [.lst [.call "plane_value" [.call "plane_plus" [.var 1, .var 2], .var 8, .var 9], .call "plane_value" [.var 7, .var 8, .var 9]], .var 11])]
def F_law_right07 : Fn := ⟨["pot", "f", "g", "h"], 15, b_law_right07⟩
def b_law07 : List Sm := [.asg (.nm 1) (.bin .add (.lst [.cst (.int 0), .cst (.int 7), .cst (.int 3)]) (.blt "list" [.var 0])), .for_ (.nm 2) (.rng (.cst (.int 6))) [.asg (.nm 3) (.idx (.lst [.cst (.int 2), .cst (.int 9), .bin .pow (.cst (.int 10)) (.cst (.int 30))]) (.call "_law_take" [.var 1, .cst (.int 3)])), .ite (.not (.call "_law_right" [.var 1, .call "_law_plane" [.var 1, .cst (.int 4), .var 3], .call "_law_plane" [.var 1, .cst (.int 4), .var 3], .call "_law_plane" [.var 1, .cst (.int 3), .var 3]])) [.ret (.cst (.bl false))] []], .ret (.cst (.bl true))]
def F_law07 : Fn := ⟨["script"], 4, b_law07⟩
structure T07 (T : Tb) : Prop where
  is_integer : T.fns "is_integer" = some ⟨["value"], 1, b_is_integer⟩
  lowest : T.fns "lowest" = some F_lowest
  is_number : T.fns "is_number" = some F_is_number
  check_number : T.fns "check_number" = some F_check_number
  check_integer : T.fns "check_integer" = some F_check_integer
  added : T.fns "added" = some F_added
  product : T.fns "product" = some F_product
  is_polynomial : T.fns "is_polynomial" = some F_is_polynomial
  stripped : T.fns "stripped" = some F_stripped
  value_of : T.fns "value_of" = some F_value_of
  padded : T.fns "padded" = some F_padded
  sum_of : T.fns "sum_of" = some F_sum_of
  times_of_two : T.fns "times_of_two" = some F_times_of_two
  scaled_by : T.fns "scaled_by" = some F_scaled_by
  slope_of : T.fns "slope_of" = some F_slope_of
  broken_value : T.fns "broken_value" = some F_broken_value
  upright : T.fns "upright" = some ⟨["rows"], 2, b_upright⟩
  lifted : T.fns "lifted" = some F_lifted
  sum_of_planes : T.fns "sum_of_planes" = some F_sum_of_planes
  product_of_planes : T.fns "product_of_planes" = some F_product_of_planes
  slope_up : T.fns "slope_up" = some F_slope_up
  is_plane : T.fns "is_plane" = some F_is_plane
  check_plane : T.fns "check_plane" = some F_check_plane
  plane_plus : T.fns "plane_plus" = some F_plane_plus
  plane_times : T.fns "plane_times" = some F_plane_times
  plane_scaled : T.fns "plane_scaled" = some F_plane_scaled
  slope_x : T.fns "slope_x" = some F_slope_x
  slope_y : T.fns "slope_y" = some F_slope_y
  plane_value_of : T.fns "plane_value_of" = some F_plane_value_of
  plane_value : T.fns "plane_value" = some F_plane_value
  law_take : T.fns "_law_take" = some F_law_take
  law_same : T.fns "_law_same" = some F_law_same
  law_low : T.fns "_law_low" = some F_law_low
  law_plus : T.fns "_law_plus" = some F_law_plus
  law_times : T.fns "_law_times" = some F_law_times
  law_trim : T.fns "_law_trim" = some F_law_trim
  law_sum : T.fns "_law_sum" = some F_law_sum
  law_product : T.fns "_law_product" = some F_law_product
  law_at : T.fns "_law_at" = some F_law_at
  law_drawn : T.fns "_law_drawn" = some F_law_drawn
  law_upright : T.fns "_law_upright" = some ⟨["rows_told"], 2, b_upright⟩
  law_plane_sum : T.fns "_law_plane_sum" = some F_law_plane_sum
  law_plane_product : T.fns "_law_plane_product" = some F_law_plane_product
  law_plane_at : T.fns "_law_plane_at" = some F_law_plane_at
  law_plane : T.fns "_law_plane" = some F_law_plane
  law_slopes : T.fns "_law_slopes" = some F_law_slopes
  law_right : T.fns "_law_right" = some F_law_right07
  law : T.fns "law" = some F_law07
  ZERO : T.glo "ZERO" = some (.tup [.int 0, .int 1])
/-! ### sizes -/
def pn : List (List Int) → Nat
  | [] => 0
  | r :: P => nrm r + pn P
theorem pn_mem : ∀ {P : List (List Int)} {r : List Int}, r ∈ P → nrm r ≤ pn P
  | q :: P, r, h => by
    rcases List.mem_cons.mp h with rfl | h
    · simp [pn]
    · have := pn_mem h
      simp [pn]
      omega
theorem pn_drop : ∀ {P : List (List Int)} {k : Nat}, pn (P.drop k) ≤ pn P
  | [], k => by simp
  | a :: f, 0 => by simp
  | a :: f, k + 1 => by
    have := pn_drop (P := f) (k := k)
    simp [pn]
    omega
theorem pn_app {P Q : List (List Int)} : pn (P ++ Q) = pn P + pn Q := by
  induction P with
  | nil => simp [pn]
  | cons a f ih => simp only [List.cons_append, pn, ih]; omega
theorem pn_rep {k : Nat} : pn (List.replicate k []) = 0 := by
  induction k with
  | zero => rfl
  | succ k ih => simp [List.replicate_succ, pn, nrm, ih]
theorem pn_pad {m : Nat} {P : List (List Int)} : pn (padP m P) = pn P := by simp [padP, pn_app, pn_rep]
theorem pn_zip : ∀ {P Q : List (List Int)}, pn (List.zipWith sumL P Q) ≤ pn P + pn Q
  | [], Q => by simp [pn]
  | a :: P, [] => by simp [pn]
  | a :: P, b :: Q => by
    have := pn_zip (P := P) (Q := Q)
    have := sum_nrm (f := a) (g := b)
    simp only [List.zipWith_cons_cons, pn]
    omega
theorem pn_sum {P Q : List (List Int)} : pn (sumP P Q) ≤ pn P + pn Q := by
  unfold sumP trimP
  refine Nat.le_trans pn_drop (Nat.le_trans pn_zip ?_)
  rw [pn_pad, pn_pad]
  exact Nat.le_refl _
theorem pn_set : ∀ {F : List (List Int)} {k : Nat} {v : List Int}, pn (paddc F k v) ≤ pn F + nrm v
  | [], k, v => by simp [paddc, pn]
  | a :: f, 0, v => by
    have := sum_nrm (f := a) (g := v)
    simp [paddc, pn]
    omega
  | a :: f, k + 1, v => by
    have := pn_set (F := f) (k := k) (v := v)
    simp [paddc, pn] at this ⊢
    omega
theorem pn_inner {i : Nat} {a : List Int} : ∀ {bs acc : List (List Int)} {j : Nat}, pn (pinner i a acc j bs) ≤ pn acc + nrm a * pn bs
  | [], acc, j => by simp [pinner, pn]
  | b :: bs, acc, j => by
    have h1 := pn_inner (i := i) (a := a) (bs := bs) (acc := paddc acc (i + j) (prodL a b)) (j := j + 1)
    have h2 := pn_set (F := acc) (k := i + j) (v := prodL a b)
    have h3 := prodL_nrm (f := a) (g := b)
    rw [pinner, pn, Nat.mul_add]
    omega
theorem pn_outer {g : List (List Int)} : ∀ {as acc : List (List Int)} {i : Nat}, pn (pouter g acc i as) ≤ pn acc + pn as * pn g
  | [], acc, i => by simp [pouter, pn]
  | a :: as, acc, i => by
    have h1 := pn_outer (g := g) (as := as) (acc := pinner i a acc 0 g) (i := i + 1)
    have h2 := pn_inner (i := i) (a := a) (bs := g) (acc := acc) (j := 0)
    rw [pouter, pn, Nat.add_mul]
    omega
theorem pn_prod {f g : List (List Int)} : pn (prodP f g) ≤ pn f * pn g := by
  unfold prodP
  split
  · simp [pn]
  · have := pn_outer (g := g) (as := f) (acc := List.replicate (f.length + g.length - 1) []) (i := 0)
    rw [pn_rep] at this
    unfold pconv
    omega
theorem nrm_slope : ∀ {f : List Int}, nrm (slopeL f) ≤ f.length * nrm f
  | [] => by simp [slopeL, nrm]
  | [a] => by simp [slopeL, nrm]
  | a :: b :: f => by
    have ih := nrm_slope (f := b :: f)
    rw [slopeL, nrm, Int.natAbs_mul, nrm]
    have h1 : (((b :: f).length : Nat) : Int).natAbs = (b :: f).length := Int.natAbs_natCast _
    rw [h1]
    have h2 : (a :: b :: f).length = (b :: f).length + 1 := rfl
    rw [h2, Nat.mul_add, Nat.add_mul, Nat.add_mul, Nat.mul_comm a.natAbs]
    omega
theorem pn_slopeX {B : Nat} : ∀ {P : List (List Int)}, RL B P → pn (P.map slopeL) ≤ B * pn P
  | [], _ => by simp [pn]
  | r :: P, h => by
    have ih := pn_slopeX (P := P) (fun q hq => h q (List.mem_cons_of_mem _ hq))
    have h1 := nrm_slope (f := r)
    have h2 : r.length * nrm r ≤ B * nrm r := Nat.mul_le_mul_right _ (h r (List.mem_cons_self ..))
    rw [List.map_cons, pn, pn, Nat.mul_add]
    omega
theorem pn_slopeY : ∀ {P : List (List Int)}, pn (slopeY P) ≤ P.length * pn P
  | [] => by simp [slopeY, pn]
  | [a] => by simp [slopeY, pn]
  | a :: b :: P => by
    have ih := pn_slopeY (P := b :: P)
    have h1 := scale_nrm (k := (((b :: P).length : Nat) : Int)) (f := a)
    have h3 : (((b :: P).length : Nat) : Int).natAbs = (b :: P).length := Int.natAbs_natCast _
    rw [h3] at h1
    rw [slopeY, pn, pn]
    have h2 : (a :: b :: P).length = (b :: P).length + 1 := rfl
    rw [h2, Nat.mul_add, Nat.add_mul, Nat.add_mul]
    omega
theorem RL_slopeY {B : Nat} : ∀ {P : List (List Int)}, RL B P → RL B (slopeY P)
  | [], _ => fun r hr => nomatch hr
  | [_], _ => fun r hr => nomatch hr
  | a :: b :: P, h => fun r hr => by
    rcases List.mem_cons.mp hr with rfl | hr
    · have := scale_len (k := (((b :: P).length : Nat) : Int)) (f := a)
      have := h a (List.mem_cons_self ..)
      omega
    · exact RL_slopeY (fun q hq => h q (List.mem_cons_of_mem _ hq)) r hr
theorem RL_zip {B : Nat} : ∀ {P Q : List (List Int)}, RL B P → RL B Q → RL B (List.zipWith sumL P Q)
  | [], Q, _, _ => fun r hr => by simp at hr
  | a :: P, [], _, _ => fun r hr => by simp at hr
  | a :: P, b :: Q, hp, hq => fun r hr => by
    rcases List.mem_cons.mp hr with rfl | hr
    · have := sum_len (f := a) (g := b)
      have := hp a (List.mem_cons_self ..)
      have := hq b (List.mem_cons_self ..)
      omega
    · exact RL_zip (fun q h => hp q (List.mem_cons_of_mem _ h)) (fun q h => hq q (List.mem_cons_of_mem _ h)) r hr
theorem RL_pouter {B1 B2 : Nat} {Q : List (List Int)} (hQ : RL B2 Q) : ∀ {as acc : List (List Int)} {i : Nat}, RL B1 as → RL (B1 + B2) acc → RL (B1 + B2) (pouter Q acc i as)
  | [], acc, i, _, h => h
  | a :: as, acc, i, ha, h => by
    rw [pouter]
    exact RL_pouter hQ (fun r hr => ha r (List.mem_cons_of_mem _ hr)) (map_pinnerM (M2 := B2) (φ := fun _ => 0) (φ1 := fun _ => 0) (φ2 := fun _ => 0) ⟨rfl, fun _ _ _ _ => rfl⟩ (fun _ _ => rfl) (by have := ha a (List.mem_cons_self ..); omega) hQ h).2
/-- a plane polynomial of so many rows, rows so long, so small integers -/
structure Pk (l B b : Nat) (P : List (List Int)) : Prop where
  pl : PlaneL P
  len : P.length ≤ l
  rl : RL B P
  pn : Fp.Z.pn P < 2 ^ b
theorem Pk.sum {l B b : Nat} {P Q : List (List Int)} (h1 : Pk l B b P) (h2 : Pk l B b Q) : Pk l B (b + 1) (sumP P Q) := by
  refine ⟨sumP_plane, ?_, fun r hr => RL_zip (padP_RL h1.rl) (padP_RL h2.rl) r (trimP_mem hr), ?_⟩
  · have : (sumP P Q).length ≤ max P.length Q.length := by
      unfold sumP trimP
      rw [List.length_drop, List.length_zipWith, padP_len (Nat.le_max_left ..)]
      omega
    have := h1.len
    have := h2.len
    omega
  · have := pn_sum (P := P) (Q := Q)
    have := h1.pn
    have := h2.pn
    rw [Nat.pow_succ]
    omega
theorem Pk.prod {l B b l' B' b' : Nat} {P Q : List (List Int)} (h1 : Pk l B b P) (h2 : Pk l' B' b' Q) : Pk (l + l') (B + B') (b + b') (prodP P Q) := by
  refine ⟨prodP_plane h1.pl h2.pl, ?_, ?_, ?_⟩
  · unfold prodP
    split
    · simp
    · have := h1.len
      have := h2.len
      simp [pconv]
      omega
  · unfold prodP
    split
    · exact fun r hr => nomatch hr
    · exact RL_pouter h2.rl h1.rl fun r hr => by rw [List.eq_of_mem_replicate hr]; simp
  · have h3 := pn_prod (f := P) (g := Q)
    have h4 : Fp.Z.pn P * Fp.Z.pn Q < 2 ^ b * 2 ^ b' := Nat.mul_lt_mul'' h1.pn h2.pn
    rw [← Nat.pow_add] at h4
    omega
theorem Pk.sx {l B b : Nat} {P : List (List Int)} (h : Pk l B b P) (hB : B ≤ 1024) : Pk l B (b + 10) (slopeX P) := by
  refine ⟨slopeX_plane h.pl, ?_, ?_, ?_⟩
  · have := h.len
    simp [slopeX, trimP]
    omega
  · intro r hr
    obtain ⟨q, hq, rfl⟩ := List.mem_map.mp (trimP_mem hr)
    have := slopeL_len (f := q)
    have := h.rl q hq
    omega
  · have h1 := pn_slopeX h.rl
    have h2 : B * Fp.Z.pn P ≤ 1024 * Fp.Z.pn P := Nat.mul_le_mul_right _ hB
    have h3 := h.pn
    have h4 : Fp.Z.pn (slopeX P) ≤ Fp.Z.pn (P.map slopeL) := pn_drop
    rw [Nat.pow_add]
    omega
theorem Pk.sy {l B b : Nat} {P : List (List Int)} (h : Pk l B b P) (hB : l ≤ 1024) : Pk l B (b + 10) (slopeY P) := by
  refine ⟨slopeY_plane h.pl, ?_, RL_slopeY h.rl, ?_⟩
  · have := h.len
    have := slopeY_len (P := P)
    omega
  · have h1 := pn_slopeY (P := P)
    have h2 : P.length * Fp.Z.pn P ≤ 1024 * Fp.Z.pn P := Nat.mul_le_mul_right _ (by have := h.len; omega)
    have h3 := h.pn
    rw [Nat.pow_add]
    omega
theorem Pk.weak {l B b l' B' b' : Nat} {P : List (List Int)} (h : Pk l B b P) (h1 : l ≤ l') (h2 : B ≤ B') (h3 : b ≤ b') : Pk l' B' b' P :=
  ⟨h.pl, by have := h.len; omega, fun r hr => by have := h.rl r hr; omega, by have := h.pn; have := npow_le h3; omega⟩
theorem Pk.mul {l B b l' B' b' : Nat} {P Q : List (List Int)} (h1 : Pk l B b P) (h2 : Pk l' B' b' Q) (h : b + b' ≤ 100000) : ∀ x ∈ P, ∀ y ∈ Q, MulOk x y := fun x hx y hy =>
  ar_mulN (a := b) (b := b') (by have := pn_mem hx; have := h1.pn; omega) (by have := pn_mem hy; have := h2.pn; omega) (by omega)
theorem PDrawn.pk {m : Nat} {P : List (List Int)} (h : PDrawn m 1000000000000000000000000000000 P) (hm : m ≤ 8) : Pk m m 110 P := by
  refine ⟨h.pl, h.len, h.rl, ?_⟩
  have go : ∀ (Q : List (List Int)), (∀ r ∈ Q, nrm r ≤ 8 * 1000000000000000000000000000000) → Fp.Z.pn Q ≤ Q.length * (8 * 1000000000000000000000000000000) := by
    intro Q
    induction Q with
    | nil => intro _; simp [Fp.Z.pn]
    | cons r Q ih =>
      intro hq
      have h1 := hq r (List.mem_cons_self ..)
      have h2 := ih fun x hx => hq x (List.mem_cons_of_mem _ hx)
      rw [Fp.Z.pn, List.length_cons, Nat.add_mul]
      omega
  have h1 := go P fun r hr => by
    have h2 := nrm_le (h.abs r hr)
    have h3 := h.rl r hr
    have h4 : r.length * (1000000000000000000000000000000 : Int).toNat ≤ 8 * (1000000000000000000000000000000 : Int).toNat := Nat.mul_le_mul_right _ (by omega)
    have h5 : (1000000000000000000000000000000 : Int).toNat = 1000000000000000000000000000000 := rfl
    omega
  have h2 := h.len
  have h3 : P.length * (8 * 1000000000000000000000000000000) ≤ 8 * (8 * 1000000000000000000000000000000) := Nat.mul_le_mul_right _ (by omega)
  have : (8 : Nat) * (8 * 1000000000000000000000000000000) < 2 ^ 110 := by decide
  omega
variable {T : Tb}
theorem T07.po (h : T07 T) : PlOk T := ⟨⟨h.is_integer, h.is_polynomial⟩, h.is_plane, h.check_plane⟩
section
variable {l B b l' B' b' : Nat} {P Q : List (List Int)}
theorem pplus (h : T07 T) (p : Pk l B b P) (q : Pk l B b Q) (hl : l ≤ 1000) (hB : B ≤ 1000) : callN T 19 "plane_plus" [.val (.tup (pD P)), .val (.tup (pD Q))] [] = .ok (.val (.tup (pD (sumP P Q)))) [] :=
  plane_plus_spec (n := 14) h.po h.plane_plus (fun h1 h2 h3 h4 => sum_planes_spec (n := 15) h.sum_of_planes h.upright h.lifted h.sum_of h.padded h.stripped h1 h2 h3 h4) p.pl q.pl (by have := p.len; omega) (by have := q.len; omega) (fun r hr => by have := p.rl r hr; omega) (fun r hr => by have := q.rl r hr; omega)
theorem ptimes (h : T07 T) (p : Pk l B b P) (q : Pk l' B' b' Q) (hl : l ≤ 1000 ∧ l' ≤ 1000 ∧ B ≤ 400 ∧ B' ≤ 400 ∧ b + b' ≤ 100000) : callN T 19 "plane_times" [.val (.tup (pD P)), .val (.tup (pD Q))] [] = .ok (.val (.tup (pD (prodP P Q)))) [] :=
  plane_times_spec (n := 14) h.po h.plane_times h.product_of_planes h.sum_of h.padded h.stripped h.times_of_two p.pl q.pl (by have := p.len; omega) (by have := q.len; omega) (fun r hr => by have := p.rl r hr; omega) (fun r hr => by have := q.rl r hr; omega) (p.mul q (by omega))
theorem pslx (h : T07 T) (p : Pk l B b P) (hl : l ≤ 1000 ∧ B ≤ 1000) : callN T 19 "slope_x" [.val (.tup (pD P))] [] = .ok (.val (.tup (pD (slopeX P)))) [] :=
  slope_x_spec (n := 14) h.po h.slope_x h.upright h.slope_of p.pl (by have := p.len; omega) (fun r hr => by have := p.rl r hr; omega)
theorem psly (h : T07 T) (p : Pk l B b P) (hl : l ≤ 1000 ∧ B ≤ 1000) : callN T 19 "slope_y" [.val (.tup (pD P))] [] = .ok (.val (.tup (pD (slopeY P)))) [] :=
  slope_y_spec (n := 14) h.po h.slope_y h.slope_up h.scaled_by p.pl (by have := p.len; omega) (fun r hr => by have := p.rl r hr; omega)
theorem Pk.lv {k : Nat} (p : Pk l B b P) (hl : l ≤ 1000 ∧ B ≤ 1000) : Lv (k + 2) (.tup (pD P)) := ⟨by rw [pD_len]; have := p.len; omega, fun d hd => by
  obtain ⟨r, hr, rfl⟩ := mem_pD hd
  exact Lv.ints (by have := p.rl r hr; omega)⟩
end
theorem right07 (h : T07 T) {f g e : List (List Int)} (df : PDrawn 5 1000000000000000000000000000000 f) (dg : PDrawn 5 1000000000000000000000000000000 g) (dh : PDrawn 4 1000000000000000000000000000000 e) {l : List D} (hpt : Pot l) :
    (callN T 20 "_law_right" [.lnk 0, .val (.tup (pD f)), .val (.tup (pD g)), .val (.tup (pD e))] [.own l]).gives fun r ps => ∃ l' : List D, r = .val (.bl true) ∧ ps = [.own l'] ∧ Pot l' := by
  apply gives_of
  intro P hP
  rw [callN_eq h.law_right ⟨rfl, by decide⟩]
  have kf := df.pk (by decide)
  have kg := dg.pk (by decide)
  have kh : Pk 5 5 110 e := (dh.pk (by decide)).weak (by decide) (by decide) (by decide)
  have ksum := kf.sum kg
  have kprod := kf.prod kg
  have kfx := kf.sx (by decide)
  have kfy := kf.sy (by decide)
  have kgx := kg.sx (by decide)
  have kgy := kg.sy (by decide)
  obtain ⟨_, _, e1, r, l1, rfl, rfl, r0, r1, hp1⟩ := take_spec (n := 18) h.law_take hpt (many := 41) (by omega) (by omega)
  obtain ⟨K, hK⟩ : ∃ K, r - 20 = K := ⟨_, rfl⟩
  have hk : -18446744073709551616 < K ∧ K < 18446744073709551616 := by omega
  have RLf : ∀ {B : Nat} {R : List (List Int)}, RL B R → B ≤ 1000 → RL 1000 R := fun h hB r hr => by have := h r hr; omega
  have lf := kf.len
  have lg := kg.len
  -- what the law sums and multiplies
  have e2 := lplane_sum_spec (n := 16) h.law_plane_sum h.law_upright h.law_sum h.law_trim (P := f) (Q := g) (by omega) (by omega) (RLf kf.rl (by decide)) (RLf kg.rl (by decide))
  have e3 := lplane_product_spec (n := 16) h.law_plane_product h.law_sum h.law_trim h.law_product (P := f) (Q := g) (by omega) (by omega) (fun r hr => by have := kf.rl r hr; omega) (fun r hr => by have := kg.rl r hr; omega) (kf.mul kg (by decide))
  have e4 := upright_gen (n := 18) h.law_upright (P := f.map (scaleL K)) (by simp; omega)
  have e5 := pplus h kf kg (by decide) (by decide)
  have e6 := ptimes h kf kg (by decide)
  have e7 := plane_scaled_spec (n := 14) h.po h.plane_scaled h.upright h.scaled_by h.check_integer hk kf.pl (by omega) (RLf kf.rl (by decide))
  have e8 := lslopes_spec (n := 17) h.law_slopes h.law_upright (P := f) (by omega) (RLf kf.rl (by decide))
  have e9 := pslx h kf (by decide)
  have e10 := psly h kf (by decide)
  have e11 := pslx h kfy (by decide)
  have e12 := psly h kfx (by decide)
  rw [← slopes_swap kf.pl] at e12
  have e13 := pslx h kg (by decide)
  have e14 := psly h kg (by decide)
  have e15 := ptimes h kfx kg (by decide)
  have e16 := ptimes h kf kgx (by decide)
  have e17 := ptimes h kfy kg (by decide)
  have e18 := ptimes h kf kgy (by decide)
  have e19 := pplus h (kfx.prod kg) ((kf.prod kgx).weak (l' := 10) (B' := 10) (b' := 120 + 110) (by decide) (by decide) (by decide)) (by decide) (by decide)
  have e20 := pplus h (kfy.prod kg) ((kf.prod kgy).weak (l' := 10) (B' := 10) (b' := 120 + 110) (by decide) (by decide) (by decide)) (by decide) (by decide)
  rw [← prodP_slopeX kf.pl kg.pl] at e19
  rw [← prodP_slopeY kf.pl kg.pl] at e20
  have e21 := pslx h kprod (by decide)
  have e22 := psly h kprod (by decide)
  have e23 := pplus h kg kh (by decide) (by decide)
  have e24 := ptimes h kf (kg.sum kh) (by decide)
  have e25 := ptimes h kf kh (by decide)
  have e26 := pplus h kprod (kf.prod kh) (by decide) (by decide)
  rw [← prodP_distrib kf.pl] at e26
  obtain ⟨_, _, e27, p, q, l2, rfl, rfl, p0, p1, q0, q1, cx, hp2⟩ := ldrawn_spec (n := 17) h.law_drawn h.law_take h.law_low (far := 9) (by omega) (by omega) hp1
  obtain ⟨_, _, e28, s, t, l3, rfl, rfl, s0, s1, t0, t1, cy, hp3⟩ := ldrawn_spec (n := 17) h.law_drawn h.law_take h.law_low (far := 9) (by omega) (by omega) hp2
  have hx : StOk p q := ⟨by omega, by omega⟩
  have hy : StOk s t := ⟨by omega, by omega⟩
  have nb : ∀ {l B b : Nat} {R : List (List Int)}, Pk l B b R → b ≤ 9000 → ∀ r ∈ R, nrm r < 2 ^ 9000 := fun k hb r hr => by
    have := pn_mem hr
    have := k.pn
    have := npow_le hb
    omega
  have RL10 : ∀ {B : Nat} {R : List (List Int)}, RL B R → B ≤ 10 → RL 10 R := fun h hB r hr => by have := h r hr; omega
  have e29 := lplane_at_spec (n := 16) h.law_plane_at h.law_plus h.law_times h.law_at h.law_low hx hy cy (P := f) (by omega) (RL10 kf.rl (by decide)) (nb kf (by decide))
  have e30 := lplane_at_spec (n := 16) h.law_plane_at h.law_plus h.law_times h.law_at h.law_low hx hy cy (P := g) (by omega) (RL10 kg.rl (by decide)) (nb kg (by decide))
  have e31 := plane_value_spec (n := 14) h.po h.plane_value h.plane_value_of h.broken_value h.added h.product h.lowest h.value_of h.check_number h.is_number h.ZERO hx hy cx cy (P := sumP f g) ksum.pl (by have := ksum.len; omega) (RL10 ksum.rl (by decide)) (nb ksum (by decide))
  have e32 := plane_value_spec (n := 14) h.po h.plane_value h.plane_value_of h.broken_value h.added h.product h.lowest h.value_of h.check_number h.is_number h.ZERO hx hy cx cy (P := prodP f g) kprod.pl (by have := kprod.len; omega) (RL10 kprod.rl (by decide)) (nb kprod (by decide))
  rw [sumP_val hx hy kf.rl kg.rl] at e31
  rw [prodP_val hx hy kf.rl kg.rl] at e32
  have vsok : ∀ {R : List (List Int)}, R.length ≤ 5 → RL 5 R → (∀ r ∈ R, nrm r < 2 ^ 9000) → FrOk (vP p q s t R).1 (vP p q s t R).2 := by
    have go : ∀ (rs : List (Int × Int)) (k : Nat) (a : Int × Int), VsOk k a → (∀ c ∈ rs, RvOk c) → VsOk (k + rs.length) (vfold s t a rs) := by
      intro rs
      induction rs with
      | nil => intro k a h _; exact h
      | cons c rs ih =>
        intro k a h hr
        have := ih (k + 1) (vstep s t a c) (h.step hy (hr c (List.mem_cons_self ..))) fun x hx => hr x (List.mem_cons_of_mem _ hx)
        rw [List.length_cons, show k + (rs.length + 1) = k + 1 + rs.length by omega]
        exact this
    intro R hl hr hn
    have h1 := go (rowsV p q R) 0 (0, 1) VsOk.zero (rowsV_ok hx (RL10 hr (by decide)) hn)
    exact h1.fr (by simp [rowsV]; omega)
  have e33 := lplus_spec (n := 17) h.law_plus h.law_low (vsok kf.len kf.rl (nb kf (by decide))) (vsok kg.len kg.rl (nb kg (by decide)))
  have e34 := ltimes_spec (n := 17) h.law_times h.law_low (vsok kf.len kf.rl (nb kf (by decide))) (vsok kg.len kg.rl (nb kg (by decide)))
  have c1 := compL_mapL (ps := f) (h := fun r => D.tup (iD r)) (f := compB (T.ct 19) (.ite (.cmp .ne (.var 4) (.cst (.int 0))) (.blt "tuple" [.comp (.bin .mul (.var 4) (.var 14)) (.nm 14) (.ov (.var 13)) none [12, 14]]) (.tup [])) (.nm 13) none [12, 13]) (g := fun r => D.tup (iD (scaleL K r))) (e := ⟨[.lnk 0, .val (.tup (pD f)), .val (.tup (pD g)), .val (.tup (pD e)), .val (.int K), .own [.tup (pD (sumP f g)), .tup (pD (prodP f g))], .no, .no, .no, .no, .no, .no, .no, .no, .no], [.own l1]⟩) fun r' hr' => by
    have hl := kf.rl r' hr'
    by_cases hk0 : K = 0
    · simp (disch := omega) [hk0, scaleL]
    · have hin := compL_mapL (ps := r') (h := D.int) (f := compB (T.ct 19) (.bin .mul (.var 4) (.var 14)) (.nm 14) none [12, 14]) (g := fun a => D.int (K * a)) (e := ⟨[.lnk 0, .val (.tup (pD f)), .val (.tup (pD g)), .val (.tup (pD e)), .val (.int K), .own [.tup (pD (sumP f g)), .tup (pD (prodP f g))], .no, .no, .no, .no, .no, .no, .no, .val (.tup (iD r')), .no], [.own l1]⟩) fun a ha => by simp (disch := omega)
      have e0 : (r'.map fun a => D.int (K * a)) = iD (scaleL K r') := by unfold scaleL; rw [if_neg hk0]; simp [iD]
      rw [e0] at hin
      have hin : compL (compB (T.ct 19) (.bin .mul (.var 4) (.var 14)) (.nm 14) none [12, 14]) (iD r') ⟨[.lnk 0, .val (.tup (pD f)), .val (.tup (pD g)), .val (.tup (pD e)), .val (.int K), .own [.tup (pD (sumP f g)), .tup (pD (prodP f g))], .no, .no, .no, .no, .no, .no, .no, .val (.tup (iD r')), .no], [.own l1]⟩ = _ := hin
      have hsl := scale_len (k := K) (f := r')
      simp (disch := omega) [hk0, hin]
  rw [map_pD (g := scaleL K)] at c1
  have c1 : compL (compB (T.ct 19) (.ite (.cmp .ne (.var 4) (.cst (.int 0))) (.blt "tuple" [.comp (.bin .mul (.var 4) (.var 14)) (.nm 14) (.ov (.var 13)) none [12, 14]]) (.tup [])) (.nm 13) none [12, 13]) (pD f) ⟨[.lnk 0, .val (.tup (pD f)), .val (.tup (pD g)), .val (.tup (pD e)), .val (.int K), .own [.tup (pD (sumP f g)), .tup (pD (prodP f g))], .no, .no, .no, .no, .no, .no, .no, .no, .no], [.own l1]⟩ = _ := c1
  have pv : ∀ R, planeV p q s t R = lowD (vP p q s t R).1 (vP p q s t R).2 := fun _ => rfl
  rw [pv] at e29 e30
  have kw1 : (T.fns "plane_plus").map (·.ps) = some ["f", "g"] := by rw [h.plane_plus]; rfl
  have kw2 : (T.fns "plane_times").map (·.ps) = some ["f", "g"] := by rw [h.plane_times]; rfl
  have kw3 : (T.fns "plane_scaled").map (·.ps) = some ["f", "k"] := by rw [h.plane_scaled]; rfl
  have kw4 : (T.fns "slope_x").map (·.ps) = some ["f"] := by rw [h.slope_x]; rfl
  have kw5 : (T.fns "slope_y").map (·.ps) = some ["f"] := by rw [h.slope_y]; rfl
  have kp1 : kwPerm ["f", "g"] ["g", "f"] 0 = some [1, 0] := by decide
  have kp2 : kwPerm ["f", "k"] ["k", "f"] 0 = some [1, 0] := by decide
  have kp3 : kwPerm ["f"] ["f"] 0 = some [0] := by decide
  -- what is the same
  have lvs : Lv 2 (.tup (pD (sumP f g))) := ksum.lv (by decide)
  have lvp : Lv 2 (.tup (pD (prodP f g))) := kprod.lv (by decide)
  have lvk : Lv 2 (.tup (pD (trimP (f.map (scaleL K))))) := ⟨by rw [pD_len]; simp [trimP]; omega, fun d hd => by
    obtain ⟨r, hr, rfl⟩ := mem_pD hd
    obtain ⟨r', hr', rfl⟩ := List.mem_map.mp (trimP_mem hr)
    have := scale_len (k := K) (f := r')
    have := kf.rl r' hr'
    exact Lv.ints (by omega)⟩
  have lvx : Lv 2 (.tup (pD (slopeX f))) := kfx.lv (by decide)
  have lvy : Lv 2 (.tup (pD (slopeY f))) := kfy.lv (by decide)
  have z1 := same_own (n := 18) h.law_same (k := 2) (xs := [.tup (pD (sumP f g)), .tup (pD (prodP f g)), .tup (pD (trimP (f.map (scaleL K))))]) (ys := [.tup (pD (sumP f g)), .tup (pD (prodP f g)), .tup (pD (trimP (f.map (scaleL K))))]) (zs := [.tup (pD (sumP f g)), .tup (pD (prodP f g)), .tup (pD (trimP (f.map (scaleL K))))]) (by omega) rfl rfl ⟨by simp, fun x hx => by
    simp only [List.mem_cons, List.not_mem_nil, or_false] at hx
    rcases hx with hx | hx | hx <;> rw [hx] <;> assumption⟩
  have z2 := same_own (n := 18) h.law_same (k := 2) (xs := [.tup (pD (slopeX f)), .tup (pD (slopeY f)), .tup (pD (slopeX f)), .tup (pD (slopeY f))]) (ys := [.tup (pD (slopeX f)), .tup (pD (slopeY f)), .tup (pD (slopeX f)), .tup (pD (slopeY f))]) (zs := [.tup (pD (slopeX f)), .tup (pD (slopeY f)), .tup (pD (slopeX f)), .tup (pD (slopeY f))]) (by omega) rfl rfl ⟨by simp, fun x hx => by
    simp only [List.mem_cons, List.not_mem_nil, or_false] at hx
    rcases hx with hx | hx | hx | hx <;> rw [hx] <;> assumption⟩
  have z3 := same_spec h.law_same 2 (.tup (pD (slopeX (slopeY f)))) 19 (by omega) ((kfy.sx (by decide)).lv (by decide))
  have z4 := same_own (n := 18) h.law_same (k := 2) (xs := [.tup (pD (slopeX (prodP f g))), .tup (pD (slopeY (prodP f g)))]) (ys := [.tup (pD (slopeX (prodP f g))), .tup (pD (slopeY (prodP f g)))]) (zs := [.tup (pD (slopeX (prodP f g))), .tup (pD (slopeY (prodP f g)))]) (by omega) rfl rfl ⟨by simp, fun x hx => by
    simp only [List.mem_cons, List.not_mem_nil, or_false] at hx
    rcases hx with hx | hx <;> rw [hx]
    · exact (kprod.sx (by decide)).lv (by decide)
    · exact (kprod.sy (by decide)).lv (by decide)⟩
  have z5 := same_spec h.law_same 2 (.tup (pD (prodP f (sumP g e)))) 19 (by omega) ((kf.prod (kg.sum kh)).lv (by decide))
  have z6 := same_own (n := 18) h.law_same (k := 2) (xs := [lowD ((vP p q s t f).1 * (vP p q s t g).2 + (vP p q s t g).1 * (vP p q s t f).2) ((vP p q s t f).2 * (vP p q s t g).2), lowD ((vP p q s t f).1 * (vP p q s t g).1) ((vP p q s t f).2 * (vP p q s t g).2)]) (ys := [lowD ((vP p q s t f).1 * (vP p q s t g).2 + (vP p q s t g).1 * (vP p q s t f).2) ((vP p q s t f).2 * (vP p q s t g).2), lowD ((vP p q s t f).1 * (vP p q s t g).1) ((vP p q s t f).2 * (vP p q s t g).2)]) (zs := [lowD ((vP p q s t f).1 * (vP p q s t g).2 + (vP p q s t g).1 * (vP p q s t f).2) ((vP p q s t f).2 * (vP p q s t g).2), lowD ((vP p q s t f).1 * (vP p q s t g).1) ((vP p q s t f).2 * (vP p q s t g).2)]) (by omega) rfl rfl ⟨by simp, fun x hx => by
    simp only [List.mem_cons, List.not_mem_nil, or_false] at hx
    rcases hx with hx | hx <;> rw [hx] <;> exact Lv_low⟩
  generalize hV3 : lowD ((vP p q s t f).1 * (vP p q s t g).2 + (vP p q s t g).1 * (vP p q s t f).2) ((vP p q s t f).2 * (vP p q s t g).2) = V3 at *
  generalize hV4 : lowD ((vP p q s t f).1 * (vP p q s t g).1) ((vP p q s t f).2 * (vP p q s t g).2) = V4 at *
  generalize hV1 : lowD (vP p q s t f).1 (vP p q s t f).2 = V1 at *
  generalize hV2 : lowD (vP p q s t g).1 (vP p q s t g).2 = V2 at *
  have i1 : ∀ e l ds j, idxO e l ds j (some V1) = .ok (.val V1) e := fun e l ds j => by rw [← hV1]; exact idxO_low
  have i2 : ∀ e l ds j, idxO e l ds j (some V2) = .ok (.val V2) e := fun e l ds j => by rw [← hV2]; exact idxO_low
  have f1 : frz1 V1 = V1 := by rw [← hV1]; rfl
  have f2 : frz1 V2 = V2 := by rw [← hV2]; rfl
  have f3 : frz1 V3 = V3 := by rw [← hV3]; rfl
  have f4 : frz1 V4 = V4 := by rw [← hV4]; rfl
  have fin : P (.val (.bl true)) [.own l3] := hP _ _ ⟨_, rfl, rfl, hp3⟩
  have sc : pD (scaleP K f) = pD (trimP (f.map (scaleL K))) := rfl
  rw [sc] at e7
  simp (disch := omega) [F_law_right07, b_law_right07, e1, hK, e2, e3, c1, e4, e5, e6, e7, z1, kw1, kw2, kw3, kw4, kw5, kwRvs, kp1, kp2, kp3, Rv.old, locsApart, e8, e9, e10, z2, e11, e12, z3, e13, e14, e15, e16, e17, e18, e19, e20, e21, e22, z4, e23, e24, e25, e26, z5, e27, e28, e29, e30, i1, i2, f1, f2, f3, f4, e33, e34, e31, e32, z6, L2.atI]
  exact gives_ok fin
theorem law07 (h : T07 T) (ns : List Int) (hn : ns.length ≤ 63) : callN T 21 "law" [.val (.klst (ns.map D.int))] [] = .ok (.val (.bl true)) [] := by
  rw [callN_eq h.law ⟨rfl, by decide⟩]
  have pot0 : Pot (.int 0 :: .int 7 :: .int 3 :: iD ns) := ⟨0, 7, 3, ns, rfl, by omega, by omega, by omega, by omega, by omega, hn⟩
  have hf : (ns.map D.int).map frz1 = iD ns := iD_frz
  have hl : (ns.map D.int).length = ns.length := by simp
  have hpw : arith .pow 10 30 = some 1000000000000000000000000000000 := by decide +kernel
  have hlp := forL_nx (b := forB (T.ct 20) (.nm 2) [.asg (.nm 3) (.idx (.lst [.cst (.int 2), .cst (.int 9), .bin .pow (.cst (.int 10)) (.cst (.int 30))]) (.call "_law_take" [.var 1, .cst (.int 3)])), .ite (.not (.call "_law_right" [.var 1, .call "_law_plane" [.var 1, .cst (.int 4), .var 3], .call "_law_plane" [.var 1, .cst (.int 4), .var 3], .call "_law_plane" [.var 1, .cst (.int 3), .var 3]])) [.ret (.cst (.bl false))] []])
    (I := fun _ e => ∃ l s2 s3, e = ⟨[.val (.klst (ns.map D.int)), .own l, s2, s3], []⟩ ∧ Pot l) ?_ (ds := intsD 0 6) ⟨_, .no, .no, rfl, pot0⟩
  · obtain ⟨e', e1, l, s2, s3, rfl, hp⟩ := hlp
    simp (disch := omega) [F_law07, b_law07, hf, hl, e1]
  · rintro d ds _ ⟨l, s2, s3, rfl, hp⟩
    obtain ⟨_, _, e0, r, l1, rfl, rfl, r0, r1, hp1⟩ := take_spec (n := 19) h.law_take hp (many := 3) (by omega) (by omega)
    obtain ⟨w, hw, w0, w1⟩ : ∃ w : Int, L2.atI [D.int 2, D.int 9, D.int 1000000000000000000000000000000] r = some (.int w) ∧ 0 < w ∧ w ≤ 1000000000000000000000000000000 := by
      have : r = 0 ∨ r = 1 ∨ r = 2 := by omega
      rcases this with rfl | rfl | rfl
      · exact ⟨2, rfl, by omega, by omega⟩
      · exact ⟨9, rfl, by omega, by omega⟩
      · exact ⟨_, rfl, by omega, by omega⟩
    obtain ⟨_, _, e1, f, l2, rfl, rfl, df, hp2⟩ := lplane_spec (n := 18) h.law_plane h.law_take h.law_trim h.law_upright (m := 4) (far := w) (by omega) w0 w1 hp1
    obtain ⟨_, _, e2, g, l3, rfl, rfl, dg, hp3⟩ := lplane_spec (n := 18) h.law_plane h.law_take h.law_trim h.law_upright (m := 4) (far := w) (by omega) w0 w1 hp2
    obtain ⟨_, _, e3, k, l4, rfl, rfl, dk, hp4⟩ := lplane_spec (n := 18) h.law_plane h.law_take h.law_trim h.law_upright (m := 3) (far := w) (by omega) w0 w1 hp3
    have wk : ∀ {m : Nat} {R : List (List Int)}, PDrawn m w R → PDrawn m 1000000000000000000000000000000 R := fun d => ⟨d.pl, d.len, d.rl, fun r hr a ha => by have := d.abs r hr a ha; omega⟩
    obtain ⟨_, _, e5, l5, rfl, rfl, hp5⟩ := right07 h (wk df) (wk dg) (wk dk) hp4
    simp only [show ((4 : Nat) : Int) = 4 from rfl, show ((3 : Nat) : Int) = 3 from rfl] at e1 e2 e3
    refine ⟨⟨[.val (.klst (ns.map D.int)), .own l5, .val d, .val (.int w)], []⟩, .inl ?_, _, _, _, rfl, hp5⟩
    simp (disch := omega) [e0, hpw, hw, e1, e2, e3, e5]
end Fp.Z
namespace K07
open PySem PySem.Spec PyProof.Rows L2 Fp
abbrev stm (i : Nat) : Stmt := PySem.Challenge.pw_wholeplanes_k07_whole_planes_summed_and.main.body.getD i (.Pass ⟨0, 0, 0, 0⟩)
def d_is_integer : Df := ⟨"is_integer", "is_integer", defArgs (stm 8), defBody (stm 8), defScope (stm 8), ["value"]⟩
def d_lowest : Df := ⟨"lowest", "lowest", defArgs (stm 9), defBody (stm 9), defScope (stm 9), ["top", "bottom"]⟩
def d_is_number : Df := ⟨"is_number", "is_number", defArgs (stm 10), defBody (stm 10), defScope (stm 10), ["told"]⟩
def d_check_number : Df := ⟨"check_number", "check_number", defArgs (stm 11), defBody (stm 11), defScope (stm 11), ["told"]⟩
def d_check_integer : Df := ⟨"check_integer", "check_integer", defArgs (stm 12), defBody (stm 12), defScope (stm 12), ["told", "least"]⟩
def d_added : Df := ⟨"added", "added", defArgs (stm 13), defBody (stm 13), defScope (stm 13), ["a", "b"]⟩
def d_product : Df := ⟨"product", "product", defArgs (stm 14), defBody (stm 14), defScope (stm 14), ["a", "b"]⟩
def d_is_polynomial : Df := ⟨"is_polynomial", "is_polynomial", defArgs (stm 16), defBody (stm 16), defScope (stm 16), ["told"]⟩
def d_stripped : Df := ⟨"stripped", "stripped", defArgs (stm 17), defBody (stm 17), defScope (stm 17), ["row", "nought"]⟩
def d_value_of : Df := ⟨"value_of", "value_of", defArgs (stm 18), defBody (stm 18), defScope (stm 18), ["f", "x"]⟩
def d_padded : Df := ⟨"padded", "padded", defArgs (stm 19), defBody (stm 19), defScope (stm 19), ["row", "many", "nought"]⟩
def d_sum_of : Df := ⟨"sum_of", "sum_of", defArgs (stm 20), defBody (stm 20), defScope (stm 20), ["f", "g"]⟩
def d_times_of_two : Df := ⟨"times_of_two", "times_of_two", defArgs (stm 21), defBody (stm 21), defScope (stm 21), ["f", "g"]⟩
def d_scaled_by : Df := ⟨"scaled_by", "scaled_by", defArgs (stm 22), defBody (stm 22), defScope (stm 22), ["f", "k"]⟩
def d_slope_of : Df := ⟨"slope_of", "slope_of", defArgs (stm 23), defBody (stm 23), defScope (stm 23), ["f"]⟩
def d_broken_value : Df := ⟨"broken_value", "broken_value", defArgs (stm 24), defBody (stm 24), defScope (stm 24), ["p", "x"]⟩
def d_upright : Df := ⟨"upright", "upright", defArgs (stm 26), defBody (stm 26), defScope (stm 26), ["rows"]⟩
def d_lifted : Df := ⟨"lifted", "lifted", defArgs (stm 27), defBody (stm 27), defScope (stm 27), ["f", "many"]⟩
def d_sum_of_planes : Df := ⟨"sum_of_planes", "sum_of_planes", defArgs (stm 28), defBody (stm 28), defScope (stm 28), ["f", "g"]⟩
def d_product_of_planes : Df := ⟨"product_of_planes", "product_of_planes", defArgs (stm 29), defBody (stm 29), defScope (stm 29), ["f", "g"]⟩
def d_slope_up : Df := ⟨"slope_up", "slope_up", defArgs (stm 30), defBody (stm 30), defScope (stm 30), ["f"]⟩
def d_is_plane : Df := ⟨"is_plane", "is_plane", defArgs (stm 32), defBody (stm 32), defScope (stm 32), ["told"]⟩
def d_check_plane : Df := ⟨"check_plane", "check_plane", defArgs (stm 33), defBody (stm 33), defScope (stm 33), ["f"]⟩
def d_plane_plus : Df := ⟨"plane_plus", "plane_plus", defArgs (stm 34), defBody (stm 34), defScope (stm 34), ["f", "g"]⟩
def d_plane_times : Df := ⟨"plane_times", "plane_times", defArgs (stm 35), defBody (stm 35), defScope (stm 35), ["f", "g"]⟩
def d_plane_scaled : Df := ⟨"plane_scaled", "plane_scaled", defArgs (stm 36), defBody (stm 36), defScope (stm 36), ["f", "k"]⟩
def d_slope_x : Df := ⟨"slope_x", "slope_x", defArgs (stm 37), defBody (stm 37), defScope (stm 37), ["f"]⟩
def d_slope_y : Df := ⟨"slope_y", "slope_y", defArgs (stm 38), defBody (stm 38), defScope (stm 38), ["f"]⟩
def d_plane_value_of : Df := ⟨"plane_value_of", "plane_value_of", defArgs (stm 39), defBody (stm 39), defScope (stm 39), ["f", "x", "y"]⟩
def d_plane_value : Df := ⟨"plane_value", "plane_value", defArgs (stm 40), defBody (stm 40), defScope (stm 40), ["f", "x", "y"]⟩
def d_law_take : Df := ⟨"_law_take", "_law_take", defArgs (stm 42), defBody (stm 42), defScope (stm 42), ["pot", "many"]⟩
def d_law_same : Df := ⟨"_law_same", "_law_same", defArgs (stm 43), defBody (stm 43), defScope (stm 43), ["got", "due"]⟩
def d_law_low : Df := ⟨"_law_low", "_law_low", defArgs (stm 44), defBody (stm 44), defScope (stm 44), ["top", "bottom"]⟩
def d_law_plus : Df := ⟨"_law_plus", "_law_plus", defArgs (stm 45), defBody (stm 45), defScope (stm 45), ["a", "b"]⟩
def d_law_times : Df := ⟨"_law_times", "_law_times", defArgs (stm 46), defBody (stm 46), defScope (stm 46), ["a", "b"]⟩
def d_law_trim : Df := ⟨"_law_trim", "_law_trim", defArgs (stm 48), defBody (stm 48), defScope (stm 48), ["row"]⟩
def d_law_sum : Df := ⟨"_law_sum", "_law_sum", defArgs (stm 49), defBody (stm 49), defScope (stm 49), ["f", "g"]⟩
def d_law_product : Df := ⟨"_law_product", "_law_product", defArgs (stm 50), defBody (stm 50), defScope (stm 50), ["f", "g"]⟩
def d_law_at : Df := ⟨"_law_at", "_law_at", defArgs (stm 51), defBody (stm 51), defScope (stm 51), ["f", "x"]⟩
def d_law_drawn : Df := ⟨"_law_drawn", "_law_drawn", defArgs (stm 53), defBody (stm 53), defScope (stm 53), ["pot", "far"]⟩
def d_law_upright : Df := ⟨"_law_upright", "_law_upright", defArgs (stm 54), defBody (stm 54), defScope (stm 54), ["rows_told"]⟩
def d_law_plane_sum : Df := ⟨"_law_plane_sum", "_law_plane_sum", defArgs (stm 55), defBody (stm 55), defScope (stm 55), ["f", "g"]⟩
def d_law_plane_product : Df := ⟨"_law_plane_product", "_law_plane_product", defArgs (stm 56), defBody (stm 56), defScope (stm 56), ["f", "g"]⟩
def d_law_plane_at : Df := ⟨"_law_plane_at", "_law_plane_at", defArgs (stm 57), defBody (stm 57), defScope (stm 57), ["f", "x", "y"]⟩
def d_law_plane : Df := ⟨"_law_plane", "_law_plane", defArgs (stm 59), defBody (stm 59), defScope (stm 59), ["pot", "most", "far"]⟩
def d_law_slopes : Df := ⟨"_law_slopes", "_law_slopes", defArgs (stm 61), defBody (stm 61), defScope (stm 61), ["f"]⟩
def d_law_right : Df := ⟨"_law_right", "_law_right", defArgs (stm 62), defBody (stm 62), defScope (stm 62), ["pot", "f", "g", "h"]⟩
def d_law : Df := ⟨"law", "law", defArgs (stm 63), defBody (stm 63), defScope (stm 63), ["script"]⟩
def parsF (f : String) : Option (List String) := List.lookup f [("plane_plus", ["f", "g"]), ("plane_times", ["f", "g"]), ("plane_scaled", ["f", "k"]), ("slope_x", ["f"]), ("slope_y", ["f"])]
def G : Gt := ⟨(("is_integer", "is_integer") :: ("lowest", "lowest") :: ("is_number", "is_number") :: ("check_number", "check_number") :: ("check_integer", "check_integer") :: ("added", "added") :: ("product", "product") :: ("is_polynomial", "is_polynomial") :: ("stripped", "stripped") :: ("value_of", "value_of") :: ("padded", "padded") :: ("sum_of", "sum_of") :: ("times_of_two", "times_of_two") :: ("scaled_by", "scaled_by") :: ("slope_of", "slope_of") :: ("broken_value", "broken_value") :: ("upright", "upright") :: ("lifted", "lifted") :: ("sum_of_planes", "sum_of_planes") :: ("product_of_planes", "product_of_planes") :: ("slope_up", "slope_up") :: ("is_plane", "is_plane") :: ("check_plane", "check_plane") :: ("plane_plus", "plane_plus") :: ("plane_times", "plane_times") :: ("plane_scaled", "plane_scaled") :: ("slope_x", "slope_x") :: ("slope_y", "slope_y") :: ("plane_value_of", "plane_value_of") :: ("plane_value", "plane_value") :: ("_law_take", "_law_take") :: ("_law_same", "_law_same") :: ("_law_low", "_law_low") :: ("_law_plus", "_law_plus") :: ("_law_times", "_law_times") :: ("_law_trim", "_law_trim") :: ("_law_sum", "_law_sum") :: ("_law_product", "_law_product") :: ("_law_at", "_law_at") :: ("_law_drawn", "_law_drawn") :: ("_law_upright", "_law_upright") :: ("_law_plane_sum", "_law_plane_sum") :: ("_law_plane_product", "_law_plane_product") :: ("_law_plane_at", "_law_plane_at") :: ("_law_plane", "_law_plane") :: ("_law_slopes", "_law_slopes") :: ("_law_right", "_law_right") :: ("law", "law") :: []), [("ZERO", "ZERO")], [("plane_plus", ["g", "f"], 0), ("plane_scaled", ["k", "f"], 0), ("plane_times", ["g", "f"], 0), ("slope_x", ["f"], 0), ("slope_y", ["f"], 0)], parsF, true⟩
def b_is_integer : List Sm := [.ret (.and (.isi (.var 0) ["int"]) (.not (.isi (.var 0) ["bool"])))]
def F_is_integer : Fn := ⟨["value"], 1, b_is_integer⟩
def b_lowest : List Sm := [.asg (.nm 2) (.blt "gcd" [.var 0, .var 1]), .ite (.cmp .lt (.var 1) (.cst (.int 0))) [.asg (.nm 2) (.neg (.var 2))] [], .ret (.tup [.bin .fdiv (.var 0) (.var 2), .bin .fdiv (.var 1) (.var 2)])]
def F_lowest : Fn := ⟨["top", "bottom"], 3, b_lowest⟩
def b_is_number : List Sm := [.ite (.or (.not (.isi (.var 0) ["tuple"])) (.or (.cmp .ne (.blt "len" [.var 0]) (.cst (.int 2))) (.not (.blt "all" [.comp (.call "is_integer" [.var 2]) (.nm 2) (.ov (.var 0)) none [1, 2]])))) [.ret (.cst (.bl false))] [], .ret (.and (.cmp .gt (.idx (.var 0) (.cst (.int 1))) (.cst (.int 0))) (.cmp .eq (.blt "gcd" [.idx (.var 0) (.cst (.int 0)), .idx (.var 0) (.cst (.int 1))]) (.cst (.int 1))))]
def F_is_number : Fn := ⟨["told"], 3, b_is_number⟩
def b_check_number : List Sm := [.ite (.not (.call "is_number" [.var 0])) [.nev] []]
def F_check_number : Fn := ⟨["told"], 1, b_check_number⟩
def b_check_integer : List Sm := [.ite (.or (.not (.call "is_integer" [.var 0])) (.and (.cmp .isnot (.var 1) (.cst .non)) (.cmp .lt (.var 0) (.var 1)))) [.nev] []]
def F_check_integer : Fn := ⟨["told", "least"], 2, b_check_integer⟩
def b_added : List Sm := [.ret (.call "lowest" [.bin .add (.bin .mul (.idx (.var 0) (.cst (.int 0))) (.idx (.var 1) (.cst (.int 1)))) (.bin .mul (.idx (.var 1) (.cst (.int 0))) (.idx (.var 0) (.cst (.int 1)))), .bin .mul (.idx (.var 0) (.cst (.int 1))) (.idx (.var 1) (.cst (.int 1)))])]
def F_added : Fn := ⟨["a", "b"], 2, b_added⟩
def b_product : List Sm := [.ret (.call "lowest" [.bin .mul (.idx (.var 0) (.cst (.int 0))) (.idx (.var 1) (.cst (.int 0))), .bin .mul (.idx (.var 0) (.cst (.int 1))) (.idx (.var 1) (.cst (.int 1)))])]
def F_product : Fn := ⟨["a", "b"], 2, b_product⟩
def b_is_polynomial : List Sm := [.ite (.or (.not (.isi (.var 0) ["tuple"])) (.not (.blt "all" [.comp (.call "is_integer" [.var 2]) (.nm 2) (.ov (.var 0)) none [1, 2]]))) [.ret (.cst (.bl false))] [], .ret (.or (.cmp .eq (.var 0) (.tup [])) (.cmp .ne (.idx (.var 0) (.cst (.int 0))) (.cst (.int 0))))]
def F_is_polynomial : Fn := ⟨["told"], 3, b_is_polynomial⟩
def b_stripped : List Sm := [.asg (.nm 2) (.cst (.int 0)), .whl (.and (.cmp .lt (.var 2) (.blt "len" [.var 0])) (.cmp .eq (.idx (.var 0) (.var 2)) (.var 1))) [.asg (.nm 2) (.bin .add (.var 2) (.cst (.int 1)))], .ret (.blt "tuple" [.slc (.var 0) (some (.var 2)) none])]
def F_stripped : Fn := ⟨["row", "nought"], 3, b_stripped⟩
def b_value_of : List Sm := [.asg (.tp [.nm 2, .nm 3]) (.tup [.cst (.int 0), .cst (.int 1)]), .for_ (.tp [.nm 4, .nm 5]) (.enu (.var 0)) [.asg (.nm 3) (.ite (.cmp .gt (.var 4) (.cst (.int 0))) (.bin .mul (.var 3) (.idx (.var 1) (.cst (.int 1)))) (.cst (.int 1))), .asg (.nm 2) (.bin .add (.bin .mul (.var 2) (.idx (.var 1) (.cst (.int 0)))) (.bin .mul (.var 5) (.var 3)))], .ret (.call "lowest" [.var 2, .var 3])]
def F_value_of : Fn := ⟨["f", "x"], 6, b_value_of⟩
def b_padded : List Sm := [.ret (.bin .add (.bin .mul (.tup [.var 2]) (.bin .sub (.var 1) (.blt "len" [.var 0]))) (.blt "tuple" [.var 0]))]
def F_padded : Fn := ⟨["row", "many", "nought"], 3, b_padded⟩
def b_sum_of : List Sm := [.asg (.nm 2) (.blt "max" [.blt "len" [.var 0], .blt "len" [.var 1]]), .ret (.call "stripped" [.comp (.bin .add (.var 4) (.var 5)) (.tp [.nm 4, .nm 5]) (.zip (.call "padded" [.var 0, .var 2, .cst (.int 0)]) (.call "padded" [.var 1, .var 2, .cst (.int 0)])) none [3, 4, 5], .cst (.int 0)])]
def F_sum_of : Fn := ⟨["f", "g"], 6, b_sum_of⟩
def b_times_of_two : List Sm := [.asg (.nm 2) (.bin .mul (.lst [.cst (.int 0)]) (.blt "max" [.cst (.int 0), .bin .sub (.bin .add (.blt "len" [.var 0]) (.blt "len" [.var 1])) (.cst (.int 1))])), .for_ (.tp [.nm 3, .nm 4]) (.enu (.var 0)) [.for_ (.tp [.nm 5, .nm 6]) (.enu (.var 1)) [.setI (.var 2) (.bin .add (.var 3) (.var 5)) (.bin .add (.idx (.var 2) (.bin .add (.var 3) (.var 5))) (.bin .mul (.var 4) (.var 6)))]], .ret (.ite (.and (.cmp .ne (.var 0) (.tup [])) (.cmp .ne (.var 1) (.tup []))) (.blt "tuple" [.var 2]) (.tup []))]
def F_times_of_two : Fn := ⟨["f", "g"], 7, b_times_of_two⟩
def b_scaled_by : List Sm := [.ret (.ite (.cmp .ne (.var 1) (.cst (.int 0))) (.blt "tuple" [.comp (.bin .mul (.var 1) (.var 3)) (.nm 3) (.ov (.var 0)) none [2, 3]]) (.tup []))]
def F_scaled_by : Fn := ⟨["f", "k"], 4, b_scaled_by⟩
def b_slope_of : List Sm := [.ret (.blt "tuple" [.comp (.bin .mul (.var 3) (.bin .sub (.bin .sub (.blt "len" [.var 0]) (.cst (.int 1))) (.var 2))) (.tp [.nm 2, .nm 3]) (.enu (.slc (.var 0) none (some (.neg (.cst (.int 1)))))) none [1, 2, 3]])]
def F_slope_of : Fn := ⟨["f"], 4, b_slope_of⟩
def b_broken_value : List Sm := [.asg (.nm 2) (.glo "ZERO"), .for_ (.nm 3) (.ov (.var 0)) [.asg (.nm 2) (.call "added" [.call "product" [.var 2, .var 1], .var 3])], .ret (.var 2)]
def F_broken_value : Fn := ⟨["p", "x"], 4, b_broken_value⟩
def b_upright : List Sm := [.asg (.nm 1) (.cst (.int 0)), .whl (.and (.cmp .lt (.var 1) (.blt "len" [.var 0])) (.cmp .eq (.idx (.var 0) (.var 1)) (.tup []))) [.asg (.nm 1) (.bin .add (.var 1) (.cst (.int 1)))], .ret (.blt "tuple" [.slc (.var 0) (some (.var 1)) none])]
def F_upright : Fn := ⟨["rows"], 2, b_upright⟩
def b_lifted : List Sm := [.ret (.bin .add (.bin .mul (.tup [.tup []]) (.bin .sub (.var 1) (.blt "len" [.var 0]))) (.blt "tuple" [.var 0]))]
def F_lifted : Fn := ⟨["f", "many"], 2, b_lifted⟩
def b_sum_of_planes : List Sm := [.asg (.nm 2) (.blt "max" [.blt "len" [.var 0], .blt "len" [.var 1]]), .ret (.call "upright" [.comp (.call "sum_of" [.var 4, .var 5]) (.tp [.nm 4, .nm 5]) (.zip (.call "lifted" [.var 0, .var 2]) (.call "lifted" [.var 1, .var 2])) none [3, 4, 5]])]
def F_sum_of_planes : Fn := ⟨["f", "g"], 6, b_sum_of_planes⟩
def b_product_of_planes : List Sm := [.ite (.or (.cmp .eq (.var 0) (.tup [])) (.cmp .eq (.var 1) (.tup []))) [.ret (.tup [])] [], .asg (.nm 2) (.bin .mul (.lst [.tup []]) (.bin .sub (.bin .add (.blt "len" [.var 0]) (.blt "len" [.var 1])) (.cst (.int 1)))), .for_ (.tp [.nm 3, .nm 4]) (.enu (.var 0)) [.for_ (.tp [.nm 5, .nm 6]) (.enu (.var 1)) [.setI (.var 2) (.bin .add (.var 3) (.var 5)) (.call "sum_of" [.idx (.var 2) (.bin .add (.var 3) (.var 5)), .call "times_of_two" [.var 4, .var 6]])]], .ret (.blt "tuple" [.var 2])]
def F_product_of_planes : Fn := ⟨["f", "g"], 7, b_product_of_planes⟩
def b_slope_up : List Sm := [.ret (.blt "tuple" [.comp (.call "scaled_by" [.var 3, .bin .sub (.bin .sub (.blt "len" [.var 0]) (.cst (.int 1))) (.var 2)]) (.tp [.nm 2, .nm 3]) (.enu (.slc (.var 0) none (some (.neg (.cst (.int 1)))))) none [1, 2, 3]])]
def F_slope_up : Fn := ⟨["f"], 4, b_slope_up⟩
def b_is_plane : List Sm := [.ite (.or (.not (.isi (.var 0) ["tuple"])) (.not (.blt "all" [.comp (.call "is_polynomial" [.var 2]) (.nm 2) (.ov (.var 0)) none [1, 2]]))) [.ret (.cst (.bl false))] [], .ret (.or (.cmp .eq (.var 0) (.tup [])) (.cmp .ne (.idx (.var 0) (.cst (.int 0))) (.tup [])))]
def F_is_plane : Fn := ⟨["told"], 3, b_is_plane⟩
def b_check_plane : List Sm := [.ite (.not (.call "is_plane" [.var 0])) [.nev] []]
def F_check_plane : Fn := ⟨["f"], 1, b_check_plane⟩
def b_plane_plus : List Sm := [.exp (.call "check_plane" [.var 0]), .exp (.call "check_plane" [.var 1]), .ret (.call "sum_of_planes" [.var 0, .var 1])]
def F_plane_plus : Fn := ⟨["f", "g"], 2, b_plane_plus⟩
def b_plane_times : List Sm := [.exp (.call "check_plane" [.var 0]), .exp (.call "check_plane" [.var 1]), .ret (.call "product_of_planes" [.var 0, .var 1])]
def F_plane_times : Fn := ⟨["f", "g"], 2, b_plane_times⟩
def b_plane_scaled : List Sm := [.exp (.call "check_plane" [.var 0]), .exp (.call "check_integer" [.var 1, .cst .non]), .ret (.call "upright" [.comp (.call "scaled_by" [.var 3, .var 1]) (.nm 3) (.ov (.var 0)) none [2, 3]])]
def F_plane_scaled : Fn := ⟨["f", "k"], 4, b_plane_scaled⟩
def b_slope_x : List Sm := [.exp (.call "check_plane" [.var 0]), .ret (.call "upright" [.comp (.call "slope_of" [.var 2]) (.nm 2) (.ov (.var 0)) none [1, 2]])]
def F_slope_x : Fn := ⟨["f"], 3, b_slope_x⟩
def b_slope_y : List Sm := [.exp (.call "check_plane" [.var 0]), .ret (.call "slope_up" [.var 0])]
def F_slope_y : Fn := ⟨["f"], 1, b_slope_y⟩
def b_plane_value_of : List Sm := [.ret (.call "broken_value" [.comp (.call "value_of" [.var 4, .var 1]) (.nm 4) (.ov (.var 0)) none [3, 4], .var 2])]
def F_plane_value_of : Fn := ⟨["f", "x", "y"], 5, b_plane_value_of⟩
def b_plane_value : List Sm := [.exp (.call "check_plane" [.var 0]), .exp (.call "check_number" [.var 1]), .exp (.call "check_number" [.var 2]), .ret (.call "plane_value_of" [.var 0, .var 1, .var 2])]
def F_plane_value : Fn := ⟨["f", "x", "y"], 3, b_plane_value⟩
def b_law_take : List Sm := [.ite (.and (.cmp .eq (.idx (.var 0) (.cst (.int 0))) (.cst (.int 0))) (.cmp .lt (.idx (.var 0) (.cst (.int 2))) (.blt "len" [.var 0]))) [.asg (.nm 2) (.idx (.var 0) (.idx (.var 0) (.cst (.int 2)))), .augI (.var 0) (.cst (.int 2)) (.cst (.int 1)), .ite (.cmp .ge (.var 2) (.bin .pow (.cst (.int 10)) (.cst (.int 18)))) [.setI (.var 0) (.cst (.int 0)) (.bin .sub (.var 2) (.bin .pow (.cst (.int 10)) (.cst (.int 18))))] [.asg (.nm 3) (.bin .mod (.blt "int" [.var 2]) (.cst (.int 2147483647))), .asg (.nm 3) (.bin .mod (.blt "int" [.bin .add (.bin .add (.bin .mul (.var 3) (.var 3)) (.bin .mul (.cst (.int 69621)) (.var 3))) (.bin .mul (.cst (.int 977)) (.idx (.var 0) (.cst (.int 2))))]) (.cst (.int 2147483629))), .setI (.var 0) (.cst (.int 1)) (.bin .mod (.blt "int" [.bin .add (.idx (.var 0) (.cst (.int 1))) (.var 3)]) (.cst (.int 2147483629)))]] [], .ite (.cmp .gt (.idx (.var 0) (.cst (.int 0))) (.cst (.int 0))) [.asg (.nm 4) (.bin .mod (.blt "int" [.idx (.var 0) (.cst (.int 0))]) (.var 1)), .setI (.var 0) (.cst (.int 0)) (.bin .fdiv (.idx (.var 0) (.cst (.int 0))) (.var 1)), .ret (.var 4)] [], .setI (.var 0) (.cst (.int 1)) (.bin .mod (.blt "int" [.bin .add (.bin .add (.bin .mul (.idx (.var 0) (.cst (.int 1))) (.cst (.int 48271))) (.bin .mul (.cst (.int 40692)) (.idx (.var 0) (.cst (.int 2))))) (.cst (.int 11))]) (.cst (.int 2147483647))), .setI (.var 0) (.cst (.int 1)) (.bin .mod (.blt "int" [.bin .add (.bin .mul (.idx (.var 0) (.cst (.int 1))) (.idx (.var 0) (.cst (.int 1)))) (.cst (.int 7))]) (.cst (.int 2147483629))), .ret (.bin .mod (.blt "int" [.bin .fdiv (.idx (.var 0) (.cst (.int 1))) (.cst (.int 8))]) (.var 1))]
def F_law_take : Fn := ⟨["pot", "many"], 5, b_law_take⟩
def b_law_same : List Sm := [.ite (.cmp .is (.var 1) (.cst .non)) [.ret (.cmp .is (.var 0) (.cst .non))] [], .ite (.isi (.var 1) ["bool", "str"]) [.ret (.and (.cmp .eq (.isi (.var 0) ["bool"]) (.isi (.var 1) ["bool"])) (.and (.isi (.var 0) ["bool", "str"]) (.cmp .eq (.var 0) (.var 1))))] [], .ite (.isi (.var 1) ["int"]) [.ret (.and (.isi (.var 0) ["int"]) (.and (.not (.isi (.var 0) ["bool"])) (.cmp .eq (.var 0) (.var 1))))] [], .ite (.or (.cmp .ne (.isi (.var 1) ["list"]) (.isi (.var 0) ["list"])) (.cmp .ne (.isi (.var 1) ["tuple"]) (.isi (.var 0) ["tuple"]))) [.ret (.cst (.bl false))] [], .ret (.and (.cmp .eq (.blt "len" [.var 0]) (.blt "len" [.var 1])) (.blt "all" [.comp (.call "_law_same" [.idx (.var 0) (.var 3), .idx (.var 1) (.var 3)]) (.nm 3) (.rng (.blt "len" [.var 1])) none [2, 3]]))]
def F_law_same : Fn := ⟨["got", "due"], 4, b_law_same⟩
def b_law_low : List Sm := [.par [2, 3] [.blt "abs" [.var 0], .blt "abs" [.var 1]], .for_ (.nm 4) (.rng (.cst (.int 100000))) [.ite (.cmp .eq (.var 3) (.cst (.int 0))) [.brk] [], .par [2, 3] [.var 3, .bin .mod (.blt "int" [.var 2]) (.var 3)]], .asg (.nm 5) (.ite (.cmp .gt (.var 1) (.cst (.int 0))) (.cst (.int 1)) (.neg (.cst (.int 1)))), .ret (.tup [.bin .fdiv (.bin .mul (.var 5) (.var 0)) (.var 2), .bin .fdiv (.bin .mul (.var 5) (.var 1)) (.var 2)])]
def F_law_low : Fn := ⟨["top", "bottom"], 6, b_law_low⟩
def b_law_plus : List Sm := [.ret (.call "_law_low" [.bin .add (.bin .mul (.idx (.var 0) (.cst (.int 0))) (.idx (.var 1) (.cst (.int 1)))) (.bin .mul (.idx (.var 1) (.cst (.int 0))) (.idx (.var 0) (.cst (.int 1)))), .bin .mul (.idx (.var 0) (.cst (.int 1))) (.idx (.var 1) (.cst (.int 1)))])]
def F_law_plus : Fn := ⟨["a", "b"], 2, b_law_plus⟩
def b_law_times : List Sm := [.ret (.call "_law_low" [.bin .mul (.idx (.var 0) (.cst (.int 0))) (.idx (.var 1) (.cst (.int 0))), .bin .mul (.idx (.var 0) (.cst (.int 1))) (.idx (.var 1) (.cst (.int 1)))])]
def F_law_times : Fn := ⟨["a", "b"], 2, b_law_times⟩
def b_law_trim : List Sm := [.asg (.nm 1) (.cst (.int 0)), .whl (.and (.cmp .lt (.var 1) (.blt "len" [.var 0])) (.cmp .isin (.idx (.var 0) (.var 1)) (.tup [.cst (.int 0), .tup [.cst (.int 0), .cst (.int 1)]]))) [.asg (.nm 1) (.bin .add (.var 1) (.cst (.int 1)))], .ret (.blt "tuple" [.slc (.var 0) (some (.var 1)) none])]
def F_law_trim : Fn := ⟨["row"], 2, b_law_trim⟩
def b_law_sum : List Sm := [.asg (.nm 2) (.blt "max" [.blt "len" [.var 0], .blt "len" [.var 1]]), .par [3, 4] [.bin .add (.bin .mul (.lst [.cst (.int 0)]) (.bin .sub (.var 2) (.blt "len" [.var 0]))) (.blt "list" [.var 0]), .bin .add (.bin .mul (.lst [.cst (.int 0)]) (.bin .sub (.var 2) (.blt "len" [.var 1]))) (.blt "list" [.var 1])], .ret (.call "_law_trim" [.comp (.bin .add (.var 6) (.var 7)) (.tp [.nm 6, .nm 7]) (.zip (.var 3) (.var 4)) none [5, 6, 7]])]
def F_law_sum : Fn := ⟨["f", "g"], 8, b_law_sum⟩
def b_law_product : List Sm := [.ite (.or (.cmp .eq (.var 0) (.tup [])) (.cmp .eq (.var 1) (.tup []))) [.ret (.tup [])] [], .asg (.nm 2) (.bin .mul (.lst [.cst (.int 0)]) (.bin .sub (.bin .add (.blt "len" [.var 0]) (.blt "len" [.var 1])) (.cst (.int 1)))), .for_ (.nm 3) (.rng (.blt "len" [.var 0])) [.for_ (.nm 4) (.rng (.blt "len" [.var 1])) [.setI (.var 2) (.bin .add (.var 3) (.var 4)) (.bin .add (.idx (.var 2) (.bin .add (.var 3) (.var 4))) (.bin .mul (.idx (.var 0) (.var 3)) (.idx (.var 1) (.var 4))))]], .ret (.blt "tuple" [.var 2])]
def F_law_product : Fn := ⟨["f", "g"], 5, b_law_product⟩
def b_law_at : List Sm := [.asg (.tp [.nm 2, .nm 3, .nm 4, .nm 5]) (.tup [.idx (.var 1) (.cst (.int 0)), .idx (.var 1) (.cst (.int 1)), .cst (.int 0), .bin .sub (.blt "len" [.var 0]) (.cst (.int 1))]), .for_ (.nm 6) (.rng (.blt "len" [.var 0])) [.asg (.nm 7) (.idx (.var 0) (.var 6)), .for_ (.nm 8) (.rng (.bin .sub (.var 5) (.var 6))) [.asg (.nm 7) (.bin .mul (.var 7) (.var 2))], .for_ (.nm 8) (.rng (.var 6)) [.asg (.nm 7) (.bin .mul (.var 7) (.var 3))], .asg (.nm 4) (.bin .add (.var 4) (.var 7))], .asg (.nm 9) (.cst (.int 1)), .for_ (.nm 8) (.rng (.blt "max" [.cst (.int 0), .var 5])) [.asg (.nm 9) (.bin .mul (.var 9) (.var 3))], .ret (.call "_law_low" [.var 4, .var 9])]
def F_law_at : Fn := ⟨["f", "x"], 10, b_law_at⟩
def b_law_drawn : List Sm := [.ret (.call "_law_low" [.bin .sub (.call "_law_take" [.var 0, .bin .add (.bin .mul (.cst (.int 2)) (.var 1)) (.cst (.int 1))]) (.var 1), .bin .add (.cst (.int 1)) (.call "_law_take" [.var 0, .idx (.lst [.cst (.int 1), .cst (.int 4), .var 1]) (.call "_law_take" [.var 0, .cst (.int 3)])])])]
def F_law_drawn : Fn := ⟨["pot", "far"], 2, b_law_drawn⟩
def b_law_upright : List Sm := [.asg (.nm 1) (.cst (.int 0)), .whl (.and (.cmp .lt (.var 1) (.blt "len" [.var 0])) (.cmp .eq (.idx (.var 0) (.var 1)) (.tup []))) [.asg (.nm 1) (.bin .add (.var 1) (.cst (.int 1)))], .ret (.blt "tuple" [.slc (.var 0) (some (.var 1)) none])]
def F_law_upright : Fn := ⟨["rows_told"], 2, b_law_upright⟩
def b_law_plane_sum : List Sm := [.asg (.nm 2) (.blt "max" [.blt "len" [.var 0], .blt "len" [.var 1]]), .par [3, 4] [.bin .add (.bin .mul (.lst [.tup []]) (.bin .sub (.var 2) (.blt "len" [.var 0]))) (.blt "list" [.var 0]), .bin .add (.bin .mul (.lst [.tup []]) (.bin .sub (.var 2) (.blt "len" [.var 1]))) (.blt "list" [.var 1])], .ret (.call "_law_upright" [.comp (.call "_law_sum" [.var 6, .var 7]) (.tp [.nm 6, .nm 7]) (.zip (.var 3) (.var 4)) none [5, 6, 7]])]
def F_law_plane_sum : Fn := ⟨["f", "g"], 8, b_law_plane_sum⟩
def b_law_plane_product : List Sm := [.ite (.or (.cmp .eq (.var 0) (.tup [])) (.cmp .eq (.var 1) (.tup []))) [.ret (.tup [])] [], .asg (.nm 2) (.bin .mul (.lst [.tup []]) (.bin .sub (.bin .add (.blt "len" [.var 0]) (.blt "len" [.var 1])) (.cst (.int 1)))), .for_ (.nm 3) (.rng (.blt "len" [.var 0])) [.for_ (.nm 4) (.rng (.blt "len" [.var 1])) [.setI (.var 2) (.bin .add (.var 3) (.var 4)) (.call "_law_sum" [.idx (.var 2) (.bin .add (.var 3) (.var 4)), .call "_law_product" [.idx (.var 0) (.var 3), .idx (.var 1) (.var 4)]])]], .ret (.blt "tuple" [.var 2])]
def F_law_plane_product : Fn := ⟨["f", "g"], 5, b_law_plane_product⟩
def b_law_plane_at : List Sm := [.asg (.nm 3) (.tup [.cst (.int 0), .cst (.int 1)]), .for_ (.nm 4) (.ov (.var 0)) [.asg (.nm 3) (.call "_law_plus" [.call "_law_times" [.var 3, .var 2], .call "_law_at" [.var 4, .var 1]])], .ret (.var 3)]
def F_law_plane_at : Fn := ⟨["f", "x", "y"], 5, b_law_plane_at⟩
def b_law_plane : List Sm := [.ite (.cmp .eq (.call "_law_take" [.var 0, .cst (.int 16)]) (.cst (.int 0))) [.ret (.tup [])] [], .par [3, 4] [.call "_law_take" [.var 0, .bin .add (.var 1) (.cst (.int 1))], .lst []], .for_ (.nm 5) (.rng (.bin .add (.var 3) (.cst (.int 1)))) [.asg (.nm 6) (.comp (.bin .sub (.call "_law_take" [.var 0, .bin .add (.bin .mul (.cst (.int 2)) (.var 2)) (.cst (.int 1))]) (.var 2)) (.nm 9) (.rng (.bin .add (.cst (.int 1)) (.call "_law_take" [.var 0, .bin .add (.var 5) (.cst (.int 1))]))) none [8, 9]), .exp (.meth "append" (.var 4) [.call "_law_trim" [.comp (.ite (.cmp .gt (.call "_law_take" [.var 0, .cst (.int 3)]) (.cst (.int 0))) (.var 10) (.cst (.int 0))) (.nm 10) (.ov (.var 6)) none [8, 10]]])], .asg (.nm 7) (.call "_law_upright" [.var 4]), .ret (.ite (.cmp .ne (.var 7) (.tup [])) (.var 7) (.tup [.tup [.bin .add (.cst (.int 1)) (.call "_law_take" [.var 0, .var 2])]]))]
def F_law_plane : Fn := ⟨["pot", "most", "far"], 11, b_law_plane⟩
def b_law_slopes : List Sm := [.asg (.nm 1) (.bin .sub (.blt "len" [.var 0]) (.cst (.int 1))), .asg (.nm 2) (.lst []), .for_ (.nm 3) (.ov (.var 0)) [.exp (.meth "append" (.var 2) [.blt "tuple" [.comp (.bin .mul (.idx (.var 3) (.var 6)) (.bin .sub (.bin .sub (.blt "len" [.var 3]) (.cst (.int 1))) (.var 6))) (.nm 6) (.rng (.bin .sub (.blt "len" [.var 3]) (.cst (.int 1)))) none [5, 6]]])], .asg (.nm 4) (.comp (.blt "tuple" [.comp (.bin .mul (.var 7) (.bin .sub (.var 1) (.var 6))) (.nm 7) (.ov (.idx (.var 0) (.var 6))) none [5, 7]]) (.nm 6) (.rng (.var 1)) none [5, 6]), .ret (.tup [.call "_law_upright" [.var 2], .blt "tuple" [.var 4]])]
def F_law_slopes : Fn := ⟨["f"], 8, b_law_slopes⟩
def b_law_right : List Sm := [.asg (.nm 4) (.bin .sub (.call "_law_take" [.var 0, .cst (.int 41)]) (.cst (.int 20))), .asg (.nm 5) (.lst [.call "_law_plane_sum" [.var 1, .var 2], .call "_law_plane_product" [.var 1, .var 2]]), .exp (.meth "append" (.var 5) [.call "_law_upright" [.comp (.ite (.cmp .ne (.var 4) (.cst (.int 0))) (.blt "tuple" [.comp (.bin .mul (.var 4) (.var 14)) (.nm 14) (.ov (.var 13)) none [12, 14]]) (.tup [])) (.nm 13) (.ov (.var 1)) none [12, 13]]]), .ite (.not (.call "_law_same" [.lst [.call "plane_plus" [.var 1, .var 2], .call "plane_times" [.var 1, .var 2], .call "plane_scaled" [.var 1, .var 4]], .var 5])) [.ret (.cst (.bl false))] [], .ite (.not (.call "_law_same" [.lst [.callk "plane_plus" [] [("g", .var 2), ("f", .var 1)], .callk "plane_times" [] [("g", .var 2), ("f", .var 1)], .callk "plane_scaled" [] [("k", .var 4), ("f", .var 1)]], .var 5])) [.ret (.cst (.bl false))] [], .asg (.nm 6) (.call "_law_slopes" [.var 1]), .ite (.not (.call "_law_same" [.lst [.call "slope_x" [.var 1], .call "slope_y" [.var 1], .callk "slope_x" [] [("f", .var 1)], .callk "slope_y" [] [("f", .var 1)]], .blt "list" [.bin .add (.var 6) (.var 6)]])) [.ret (.cst (.bl false))] [], .ite (.not (.call "_law_same" [.call "slope_x" [.call "slope_y" [.var 1]], .call "slope_y" [.call "slope_x" [.var 1]]])) [.ret (.cst (.bl false))] [], .asg (.nm 7) (.call "plane_times" [.var 1, .var 2]), .asg (.nm 5) (.lst [.call "plane_plus" [.call "plane_times" [.call "slope_x" [.var 1], .var 2], .call "plane_times" [.var 1, .call "slope_x" [.var 2]]]]), .exp (.meth "append" (.var 5) [.call "plane_plus" [.call "plane_times" [.call "slope_y" [.var 1], .var 2], .call "plane_times" [.var 1, .call "slope_y" [.var 2]]]]), .ite (.not (.call "_law_same" [.lst [.call "slope_x" [.var 7], .call "slope_y" [.var 7]], .var 5])) [.ret (.cst (.bl false))] [], .ite (.not (.call "_law_same" [.call "plane_times" [.var 1, .call "plane_plus" [.var 2, .var 3]], .call "plane_plus" [.var 7, .call "plane_times" [.var 1, .var 3]]])) [.ret (.cst (.bl false))] [], .par [8, 9] [.call "_law_drawn" [.var 0, .cst (.int 9)], .call "_law_drawn" [.var 0, .cst (.int 9)]], .asg (.nm 10) (.lst [.call "_law_plane_at" [.var 1, .var 8, .var 9], .call "_law_plane_at" [.var 2, .var 8, .var 9]]), .asg (.nm 11) (.lst [.call "_law_plus" [.idx (.var 10) (.cst (.int 0)), .idx (.var 10) (.cst (.int 1))], .call "_law_times" [.idx (.var 10) (.cst (.int 0)), .idx (.var 10) (.cst (.int 1))]]), .ret (.call "_law_same" [.lst [.call "plane_value" [.call "plane_plus" [.var 1, .var 2], .var 8, .var 9], .call "plane_value" [.var 7, .var 8, .var 9]], .var 11])]
def F_law_right : Fn := ⟨["pot", "f", "g", "h"], 15, b_law_right⟩
def b_law : List Sm := [.asg (.nm 1) (.bin .add (.lst [.cst (.int 0), .cst (.int 7), .cst (.int 3)]) (.blt "list" [.var 0])), .for_ (.nm 2) (.rng (.cst (.int 6))) [.asg (.nm 3) (.idx (.lst [.cst (.int 2), .cst (.int 9), .bin .pow (.cst (.int 10)) (.cst (.int 30))]) (.call "_law_take" [.var 1, .cst (.int 3)])), .ite (.not (.call "_law_right" [.var 1, .call "_law_plane" [.var 1, .cst (.int 4), .var 3], .call "_law_plane" [.var 1, .cst (.int 4), .var 3], .call "_law_plane" [.var 1, .cst (.int 3), .var 3]])) [.ret (.cst (.bl false))] []], .ret (.cst (.bl true))]
def F_law : Fn := ⟨["script"], 4, b_law⟩
def T : Tb := ⟨fun f => List.lookup f (("is_integer", F_is_integer) :: ("lowest", F_lowest) :: ("is_number", F_is_number) :: ("check_number", F_check_number) :: ("check_integer", F_check_integer) :: ("added", F_added) :: ("product", F_product) :: ("is_polynomial", F_is_polynomial) :: ("stripped", F_stripped) :: ("value_of", F_value_of) :: ("padded", F_padded) :: ("sum_of", F_sum_of) :: ("times_of_two", F_times_of_two) :: ("scaled_by", F_scaled_by) :: ("slope_of", F_slope_of) :: ("broken_value", F_broken_value) :: ("upright", F_upright) :: ("lifted", F_lifted) :: ("sum_of_planes", F_sum_of_planes) :: ("product_of_planes", F_product_of_planes) :: ("slope_up", F_slope_up) :: ("is_plane", F_is_plane) :: ("check_plane", F_check_plane) :: ("plane_plus", F_plane_plus) :: ("plane_times", F_plane_times) :: ("plane_scaled", F_plane_scaled) :: ("slope_x", F_slope_x) :: ("slope_y", F_slope_y) :: ("plane_value_of", F_plane_value_of) :: ("plane_value", F_plane_value) :: ("_law_take", F_law_take) :: ("_law_same", F_law_same) :: ("_law_low", F_law_low) :: ("_law_plus", F_law_plus) :: ("_law_times", F_law_times) :: ("_law_trim", F_law_trim) :: ("_law_sum", F_law_sum) :: ("_law_product", F_law_product) :: ("_law_at", F_law_at) :: ("_law_drawn", F_law_drawn) :: ("_law_upright", F_law_upright) :: ("_law_plane_sum", F_law_plane_sum) :: ("_law_plane_product", F_law_plane_product) :: ("_law_plane_at", F_law_plane_at) :: ("_law_plane", F_law_plane) :: ("_law_slopes", F_law_slopes) :: ("_law_right", F_law_right) :: ("law", F_law) :: []), fun x => List.lookup x [("ZERO", .tup [.int 0, .int 1])], fun _ _ => false⟩
theorem t_is_integer : T.fns d_is_integer.f = some (d_is_integer.fn G) := by kernel_rfl
theorem ok_is_integer : DfOk G T d_is_integer := DfOk.of t_is_integer ⟨rfl, rfl, rfl, by decide +kernel, by decide +kernel, by decide +kernel, by decide +kernel⟩ (fun _ _ _ _ _ _ us hl => match us, hl with | [_], _ => rfl) (fun t ht => by
  have e : G.kws.filter (fun t => t.1 == d_is_integer.f) = [] := by decide +kernel
  rw [e] at ht
  cases ht)
theorem t_lowest : T.fns d_lowest.f = some (d_lowest.fn G) := by kernel_rfl
theorem ok_lowest : DfOk G T d_lowest := DfOk.of t_lowest ⟨rfl, rfl, rfl, by decide +kernel, by decide +kernel, by decide +kernel, by decide +kernel⟩ (fun _ _ _ _ _ _ us hl => match us, hl with | [_, _], _ => rfl) (fun t ht => by
  have e : G.kws.filter (fun t => t.1 == d_lowest.f) = [] := by decide +kernel
  rw [e] at ht
  cases ht)
theorem t_is_number : T.fns d_is_number.f = some (d_is_number.fn G) := by kernel_rfl
theorem ok_is_number : DfOk G T d_is_number := DfOk.of t_is_number ⟨rfl, rfl, rfl, by decide +kernel, by decide +kernel, by decide +kernel, by decide +kernel⟩ (fun _ _ _ _ _ _ us hl => match us, hl with | [_], _ => rfl) (fun t ht => by
  have e : G.kws.filter (fun t => t.1 == d_is_number.f) = [] := by decide +kernel
  rw [e] at ht
  cases ht)
theorem t_check_number : T.fns d_check_number.f = some (d_check_number.fn G) := by kernel_rfl
theorem ok_check_number : DfOk G T d_check_number := DfOk.of t_check_number ⟨rfl, rfl, rfl, by decide +kernel, by decide +kernel, by decide +kernel, by decide +kernel⟩ (fun _ _ _ _ _ _ us hl => match us, hl with | [_], _ => rfl) (fun t ht => by
  have e : G.kws.filter (fun t => t.1 == d_check_number.f) = [] := by decide +kernel
  rw [e] at ht
  cases ht)
theorem t_check_integer : T.fns d_check_integer.f = some (d_check_integer.fn G) := by kernel_rfl
theorem ok_check_integer : DfOk G T d_check_integer := DfOk.of t_check_integer ⟨rfl, rfl, rfl, by decide +kernel, by decide +kernel, by decide +kernel, by decide +kernel⟩ (fun _ _ _ _ _ _ us hl => match us, hl with | [_, _], _ => rfl) (fun t ht => by
  have e : G.kws.filter (fun t => t.1 == d_check_integer.f) = [] := by decide +kernel
  rw [e] at ht
  cases ht)
theorem t_added : T.fns d_added.f = some (d_added.fn G) := by kernel_rfl
theorem ok_added : DfOk G T d_added := DfOk.of t_added ⟨rfl, rfl, rfl, by decide +kernel, by decide +kernel, by decide +kernel, by decide +kernel⟩ (fun _ _ _ _ _ _ us hl => match us, hl with | [_, _], _ => rfl) (fun t ht => by
  have e : G.kws.filter (fun t => t.1 == d_added.f) = [] := by decide +kernel
  rw [e] at ht
  cases ht)
theorem t_product : T.fns d_product.f = some (d_product.fn G) := by kernel_rfl
theorem ok_product : DfOk G T d_product := DfOk.of t_product ⟨rfl, rfl, rfl, by decide +kernel, by decide +kernel, by decide +kernel, by decide +kernel⟩ (fun _ _ _ _ _ _ us hl => match us, hl with | [_, _], _ => rfl) (fun t ht => by
  have e : G.kws.filter (fun t => t.1 == d_product.f) = [] := by decide +kernel
  rw [e] at ht
  cases ht)
theorem t_is_polynomial : T.fns d_is_polynomial.f = some (d_is_polynomial.fn G) := by kernel_rfl
theorem ok_is_polynomial : DfOk G T d_is_polynomial := DfOk.of t_is_polynomial ⟨rfl, rfl, rfl, by decide +kernel, by decide +kernel, by decide +kernel, by decide +kernel⟩ (fun _ _ _ _ _ _ us hl => match us, hl with | [_], _ => rfl) (fun t ht => by
  have e : G.kws.filter (fun t => t.1 == d_is_polynomial.f) = [] := by decide +kernel
  rw [e] at ht
  cases ht)
theorem t_stripped : T.fns d_stripped.f = some (d_stripped.fn G) := by kernel_rfl
theorem ok_stripped : DfOk G T d_stripped := DfOk.of t_stripped ⟨rfl, rfl, rfl, by decide +kernel, by decide +kernel, by decide +kernel, by decide +kernel⟩ (fun _ _ _ _ _ _ us hl => match us, hl with | [_, _], _ => rfl) (fun t ht => by
  have e : G.kws.filter (fun t => t.1 == d_stripped.f) = [] := by decide +kernel
  rw [e] at ht
  cases ht)
theorem t_value_of : T.fns d_value_of.f = some (d_value_of.fn G) := by kernel_rfl
theorem ok_value_of : DfOk G T d_value_of := DfOk.of t_value_of ⟨rfl, rfl, rfl, by decide +kernel, by decide +kernel, by decide +kernel, by decide +kernel⟩ (fun _ _ _ _ _ _ us hl => match us, hl with | [_, _], _ => rfl) (fun t ht => by
  have e : G.kws.filter (fun t => t.1 == d_value_of.f) = [] := by decide +kernel
  rw [e] at ht
  cases ht)
theorem t_padded : T.fns d_padded.f = some (d_padded.fn G) := by kernel_rfl
theorem ok_padded : DfOk G T d_padded := DfOk.of t_padded ⟨rfl, rfl, rfl, by decide +kernel, by decide +kernel, by decide +kernel, by decide +kernel⟩ (fun _ _ _ _ _ _ us hl => match us, hl with | [_, _, _], _ => rfl) (fun t ht => by
  have e : G.kws.filter (fun t => t.1 == d_padded.f) = [] := by decide +kernel
  rw [e] at ht
  cases ht)
theorem t_sum_of : T.fns d_sum_of.f = some (d_sum_of.fn G) := by kernel_rfl
theorem ok_sum_of : DfOk G T d_sum_of := DfOk.of t_sum_of ⟨rfl, rfl, rfl, by decide +kernel, by decide +kernel, by decide +kernel, by decide +kernel⟩ (fun _ _ _ _ _ _ us hl => match us, hl with | [_, _], _ => rfl) (fun t ht => by
  have e : G.kws.filter (fun t => t.1 == d_sum_of.f) = [] := by decide +kernel
  rw [e] at ht
  cases ht)
theorem t_times_of_two : T.fns d_times_of_two.f = some (d_times_of_two.fn G) := by kernel_rfl
theorem ok_times_of_two : DfOk G T d_times_of_two := DfOk.of t_times_of_two ⟨rfl, rfl, rfl, by decide +kernel, by decide +kernel, by decide +kernel, by decide +kernel⟩ (fun _ _ _ _ _ _ us hl => match us, hl with | [_, _], _ => rfl) (fun t ht => by
  have e : G.kws.filter (fun t => t.1 == d_times_of_two.f) = [] := by decide +kernel
  rw [e] at ht
  cases ht)
theorem t_scaled_by : T.fns d_scaled_by.f = some (d_scaled_by.fn G) := by kernel_rfl
theorem ok_scaled_by : DfOk G T d_scaled_by := DfOk.of t_scaled_by ⟨rfl, rfl, rfl, by decide +kernel, by decide +kernel, by decide +kernel, by decide +kernel⟩ (fun _ _ _ _ _ _ us hl => match us, hl with | [_, _], _ => rfl) (fun t ht => by
  have e : G.kws.filter (fun t => t.1 == d_scaled_by.f) = [] := by decide +kernel
  rw [e] at ht
  cases ht)
theorem t_slope_of : T.fns d_slope_of.f = some (d_slope_of.fn G) := by kernel_rfl
theorem ok_slope_of : DfOk G T d_slope_of := DfOk.of t_slope_of ⟨rfl, rfl, rfl, by decide +kernel, by decide +kernel, by decide +kernel, by decide +kernel⟩ (fun _ _ _ _ _ _ us hl => match us, hl with | [_], _ => rfl) (fun t ht => by
  have e : G.kws.filter (fun t => t.1 == d_slope_of.f) = [] := by decide +kernel
  rw [e] at ht
  cases ht)
theorem t_broken_value : T.fns d_broken_value.f = some (d_broken_value.fn G) := by kernel_rfl
theorem ok_broken_value : DfOk G T d_broken_value := DfOk.of t_broken_value ⟨rfl, rfl, rfl, by decide +kernel, by decide +kernel, by decide +kernel, by decide +kernel⟩ (fun _ _ _ _ _ _ us hl => match us, hl with | [_, _], _ => rfl) (fun t ht => by
  have e : G.kws.filter (fun t => t.1 == d_broken_value.f) = [] := by decide +kernel
  rw [e] at ht
  cases ht)
theorem t_upright : T.fns d_upright.f = some (d_upright.fn G) := by kernel_rfl
theorem ok_upright : DfOk G T d_upright := DfOk.of t_upright ⟨rfl, rfl, rfl, by decide +kernel, by decide +kernel, by decide +kernel, by decide +kernel⟩ (fun _ _ _ _ _ _ us hl => match us, hl with | [_], _ => rfl) (fun t ht => by
  have e : G.kws.filter (fun t => t.1 == d_upright.f) = [] := by decide +kernel
  rw [e] at ht
  cases ht)
theorem t_lifted : T.fns d_lifted.f = some (d_lifted.fn G) := by kernel_rfl
theorem ok_lifted : DfOk G T d_lifted := DfOk.of t_lifted ⟨rfl, rfl, rfl, by decide +kernel, by decide +kernel, by decide +kernel, by decide +kernel⟩ (fun _ _ _ _ _ _ us hl => match us, hl with | [_, _], _ => rfl) (fun t ht => by
  have e : G.kws.filter (fun t => t.1 == d_lifted.f) = [] := by decide +kernel
  rw [e] at ht
  cases ht)
theorem t_sum_of_planes : T.fns d_sum_of_planes.f = some (d_sum_of_planes.fn G) := by kernel_rfl
theorem ok_sum_of_planes : DfOk G T d_sum_of_planes := DfOk.of t_sum_of_planes ⟨rfl, rfl, rfl, by decide +kernel, by decide +kernel, by decide +kernel, by decide +kernel⟩ (fun _ _ _ _ _ _ us hl => match us, hl with | [_, _], _ => rfl) (fun t ht => by
  have e : G.kws.filter (fun t => t.1 == d_sum_of_planes.f) = [] := by decide +kernel
  rw [e] at ht
  cases ht)
theorem t_product_of_planes : T.fns d_product_of_planes.f = some (d_product_of_planes.fn G) := by kernel_rfl
theorem ok_product_of_planes : DfOk G T d_product_of_planes := DfOk.of t_product_of_planes ⟨rfl, rfl, rfl, by decide +kernel, by decide +kernel, by decide +kernel, by decide +kernel⟩ (fun _ _ _ _ _ _ us hl => match us, hl with | [_, _], _ => rfl) (fun t ht => by
  have e : G.kws.filter (fun t => t.1 == d_product_of_planes.f) = [] := by decide +kernel
  rw [e] at ht
  cases ht)
theorem t_slope_up : T.fns d_slope_up.f = some (d_slope_up.fn G) := by kernel_rfl
theorem ok_slope_up : DfOk G T d_slope_up := DfOk.of t_slope_up ⟨rfl, rfl, rfl, by decide +kernel, by decide +kernel, by decide +kernel, by decide +kernel⟩ (fun _ _ _ _ _ _ us hl => match us, hl with | [_], _ => rfl) (fun t ht => by
  have e : G.kws.filter (fun t => t.1 == d_slope_up.f) = [] := by decide +kernel
  rw [e] at ht
  cases ht)
theorem t_is_plane : T.fns d_is_plane.f = some (d_is_plane.fn G) := by kernel_rfl
theorem ok_is_plane : DfOk G T d_is_plane := DfOk.of t_is_plane ⟨rfl, rfl, rfl, by decide +kernel, by decide +kernel, by decide +kernel, by decide +kernel⟩ (fun _ _ _ _ _ _ us hl => match us, hl with | [_], _ => rfl) (fun t ht => by
  have e : G.kws.filter (fun t => t.1 == d_is_plane.f) = [] := by decide +kernel
  rw [e] at ht
  cases ht)
theorem t_check_plane : T.fns d_check_plane.f = some (d_check_plane.fn G) := by kernel_rfl
theorem ok_check_plane : DfOk G T d_check_plane := DfOk.of t_check_plane ⟨rfl, rfl, rfl, by decide +kernel, by decide +kernel, by decide +kernel, by decide +kernel⟩ (fun _ _ _ _ _ _ us hl => match us, hl with | [_], _ => rfl) (fun t ht => by
  have e : G.kws.filter (fun t => t.1 == d_check_plane.f) = [] := by decide +kernel
  rw [e] at ht
  cases ht)
theorem t_plane_plus : T.fns d_plane_plus.f = some (d_plane_plus.fn G) := by kernel_rfl
theorem ok_plane_plus : DfOk G T d_plane_plus := DfOk.of t_plane_plus ⟨rfl, rfl, rfl, by decide +kernel, by decide +kernel, by decide +kernel, by decide +kernel⟩ (fun _ _ _ _ _ _ us hl => match us, hl with | [_, _], _ => rfl) (fun t ht => by
  have e : G.kws.filter (fun t => t.1 == d_plane_plus.f) = [("plane_plus", ["g", "f"], 0)] := by decide +kernel
  rw [e] at ht
  simp only [List.mem_cons, List.not_mem_nil, or_false] at ht
  rcases ht with rfl
  · exact ⟨["f", "g"], [1, 0], ⟨by decide +kernel, by decide +kernel, ⟨by decide +kernel, by decide +kernel⟩, fun _ _ _ _ _ _ us ws hu hw => match us, ws, hu, hw with | [], [v0, v1], _, _ => rfl⟩⟩)
theorem t_plane_times : T.fns d_plane_times.f = some (d_plane_times.fn G) := by kernel_rfl
theorem ok_plane_times : DfOk G T d_plane_times := DfOk.of t_plane_times ⟨rfl, rfl, rfl, by decide +kernel, by decide +kernel, by decide +kernel, by decide +kernel⟩ (fun _ _ _ _ _ _ us hl => match us, hl with | [_, _], _ => rfl) (fun t ht => by
  have e : G.kws.filter (fun t => t.1 == d_plane_times.f) = [("plane_times", ["g", "f"], 0)] := by decide +kernel
  rw [e] at ht
  simp only [List.mem_cons, List.not_mem_nil, or_false] at ht
  rcases ht with rfl
  · exact ⟨["f", "g"], [1, 0], ⟨by decide +kernel, by decide +kernel, ⟨by decide +kernel, by decide +kernel⟩, fun _ _ _ _ _ _ us ws hu hw => match us, ws, hu, hw with | [], [v0, v1], _, _ => rfl⟩⟩)
theorem t_plane_scaled : T.fns d_plane_scaled.f = some (d_plane_scaled.fn G) := by kernel_rfl
theorem ok_plane_scaled : DfOk G T d_plane_scaled := DfOk.of t_plane_scaled ⟨rfl, rfl, rfl, by decide +kernel, by decide +kernel, by decide +kernel, by decide +kernel⟩ (fun _ _ _ _ _ _ us hl => match us, hl with | [_, _], _ => rfl) (fun t ht => by
  have e : G.kws.filter (fun t => t.1 == d_plane_scaled.f) = [("plane_scaled", ["k", "f"], 0)] := by decide +kernel
  rw [e] at ht
  simp only [List.mem_cons, List.not_mem_nil, or_false] at ht
  rcases ht with rfl
  · exact ⟨["f", "k"], [1, 0], ⟨by decide +kernel, by decide +kernel, ⟨by decide +kernel, by decide +kernel⟩, fun _ _ _ _ _ _ us ws hu hw => match us, ws, hu, hw with | [], [v0, v1], _, _ => rfl⟩⟩)
theorem t_slope_x : T.fns d_slope_x.f = some (d_slope_x.fn G) := by kernel_rfl
theorem ok_slope_x : DfOk G T d_slope_x := DfOk.of t_slope_x ⟨rfl, rfl, rfl, by decide +kernel, by decide +kernel, by decide +kernel, by decide +kernel⟩ (fun _ _ _ _ _ _ us hl => match us, hl with | [_], _ => rfl) (fun t ht => by
  have e : G.kws.filter (fun t => t.1 == d_slope_x.f) = [("slope_x", ["f"], 0)] := by decide +kernel
  rw [e] at ht
  simp only [List.mem_cons, List.not_mem_nil, or_false] at ht
  rcases ht with rfl
  · exact ⟨["f"], [0], ⟨by decide +kernel, by decide +kernel, ⟨by decide +kernel, by decide +kernel⟩, fun _ _ _ _ _ _ us ws hu hw => match us, ws, hu, hw with | [], [v0], _, _ => rfl⟩⟩)
theorem t_slope_y : T.fns d_slope_y.f = some (d_slope_y.fn G) := by kernel_rfl
theorem ok_slope_y : DfOk G T d_slope_y := DfOk.of t_slope_y ⟨rfl, rfl, rfl, by decide +kernel, by decide +kernel, by decide +kernel, by decide +kernel⟩ (fun _ _ _ _ _ _ us hl => match us, hl with | [_], _ => rfl) (fun t ht => by
  have e : G.kws.filter (fun t => t.1 == d_slope_y.f) = [("slope_y", ["f"], 0)] := by decide +kernel
  rw [e] at ht
  simp only [List.mem_cons, List.not_mem_nil, or_false] at ht
  rcases ht with rfl
  · exact ⟨["f"], [0], ⟨by decide +kernel, by decide +kernel, ⟨by decide +kernel, by decide +kernel⟩, fun _ _ _ _ _ _ us ws hu hw => match us, ws, hu, hw with | [], [v0], _, _ => rfl⟩⟩)
theorem t_plane_value_of : T.fns d_plane_value_of.f = some (d_plane_value_of.fn G) := by kernel_rfl
theorem ok_plane_value_of : DfOk G T d_plane_value_of := DfOk.of t_plane_value_of ⟨rfl, rfl, rfl, by decide +kernel, by decide +kernel, by decide +kernel, by decide +kernel⟩ (fun _ _ _ _ _ _ us hl => match us, hl with | [_, _, _], _ => rfl) (fun t ht => by
  have e : G.kws.filter (fun t => t.1 == d_plane_value_of.f) = [] := by decide +kernel
  rw [e] at ht
  cases ht)
theorem t_plane_value : T.fns d_plane_value.f = some (d_plane_value.fn G) := by kernel_rfl
theorem ok_plane_value : DfOk G T d_plane_value := DfOk.of t_plane_value ⟨rfl, rfl, rfl, by decide +kernel, by decide +kernel, by decide +kernel, by decide +kernel⟩ (fun _ _ _ _ _ _ us hl => match us, hl with | [_, _, _], _ => rfl) (fun t ht => by
  have e : G.kws.filter (fun t => t.1 == d_plane_value.f) = [] := by decide +kernel
  rw [e] at ht
  cases ht)
theorem t_law_take : T.fns d_law_take.f = some (d_law_take.fn G) := by kernel_rfl
theorem ok_law_take : DfOk G T d_law_take := DfOk.of t_law_take ⟨rfl, rfl, rfl, by decide +kernel, by decide +kernel, by decide +kernel, by decide +kernel⟩ (fun _ _ _ _ _ _ us hl => match us, hl with | [_, _], _ => rfl) (fun t ht => by
  have e : G.kws.filter (fun t => t.1 == d_law_take.f) = [] := by decide +kernel
  rw [e] at ht
  cases ht)
theorem t_law_same : T.fns d_law_same.f = some (d_law_same.fn G) := by kernel_rfl
theorem ok_law_same : DfOk G T d_law_same := DfOk.of t_law_same ⟨rfl, rfl, rfl, by decide +kernel, by decide +kernel, by decide +kernel, by decide +kernel⟩ (fun _ _ _ _ _ _ us hl => match us, hl with | [_, _], _ => rfl) (fun t ht => by
  have e : G.kws.filter (fun t => t.1 == d_law_same.f) = [] := by decide +kernel
  rw [e] at ht
  cases ht)
theorem t_law_low : T.fns d_law_low.f = some (d_law_low.fn G) := by kernel_rfl
theorem ok_law_low : DfOk G T d_law_low := DfOk.of t_law_low ⟨rfl, rfl, rfl, by decide +kernel, by decide +kernel, by decide +kernel, by decide +kernel⟩ (fun _ _ _ _ _ _ us hl => match us, hl with | [_, _], _ => rfl) (fun t ht => by
  have e : G.kws.filter (fun t => t.1 == d_law_low.f) = [] := by decide +kernel
  rw [e] at ht
  cases ht)
theorem t_law_plus : T.fns d_law_plus.f = some (d_law_plus.fn G) := by kernel_rfl
theorem ok_law_plus : DfOk G T d_law_plus := DfOk.of t_law_plus ⟨rfl, rfl, rfl, by decide +kernel, by decide +kernel, by decide +kernel, by decide +kernel⟩ (fun _ _ _ _ _ _ us hl => match us, hl with | [_, _], _ => rfl) (fun t ht => by
  have e : G.kws.filter (fun t => t.1 == d_law_plus.f) = [] := by decide +kernel
  rw [e] at ht
  cases ht)
theorem t_law_times : T.fns d_law_times.f = some (d_law_times.fn G) := by kernel_rfl
theorem ok_law_times : DfOk G T d_law_times := DfOk.of t_law_times ⟨rfl, rfl, rfl, by decide +kernel, by decide +kernel, by decide +kernel, by decide +kernel⟩ (fun _ _ _ _ _ _ us hl => match us, hl with | [_, _], _ => rfl) (fun t ht => by
  have e : G.kws.filter (fun t => t.1 == d_law_times.f) = [] := by decide +kernel
  rw [e] at ht
  cases ht)
theorem t_law_trim : T.fns d_law_trim.f = some (d_law_trim.fn G) := by kernel_rfl
theorem ok_law_trim : DfOk G T d_law_trim := DfOk.of t_law_trim ⟨rfl, rfl, rfl, by decide +kernel, by decide +kernel, by decide +kernel, by decide +kernel⟩ (fun _ _ _ _ _ _ us hl => match us, hl with | [_], _ => rfl) (fun t ht => by
  have e : G.kws.filter (fun t => t.1 == d_law_trim.f) = [] := by decide +kernel
  rw [e] at ht
  cases ht)
theorem t_law_sum : T.fns d_law_sum.f = some (d_law_sum.fn G) := by kernel_rfl
theorem ok_law_sum : DfOk G T d_law_sum := DfOk.of t_law_sum ⟨rfl, rfl, rfl, by decide +kernel, by decide +kernel, by decide +kernel, by decide +kernel⟩ (fun _ _ _ _ _ _ us hl => match us, hl with | [_, _], _ => rfl) (fun t ht => by
  have e : G.kws.filter (fun t => t.1 == d_law_sum.f) = [] := by decide +kernel
  rw [e] at ht
  cases ht)
theorem t_law_product : T.fns d_law_product.f = some (d_law_product.fn G) := by kernel_rfl
theorem ok_law_product : DfOk G T d_law_product := DfOk.of t_law_product ⟨rfl, rfl, rfl, by decide +kernel, by decide +kernel, by decide +kernel, by decide +kernel⟩ (fun _ _ _ _ _ _ us hl => match us, hl with | [_, _], _ => rfl) (fun t ht => by
  have e : G.kws.filter (fun t => t.1 == d_law_product.f) = [] := by decide +kernel
  rw [e] at ht
  cases ht)
theorem t_law_at : T.fns d_law_at.f = some (d_law_at.fn G) := by kernel_rfl
theorem ok_law_at : DfOk G T d_law_at := DfOk.of t_law_at ⟨rfl, rfl, rfl, by decide +kernel, by decide +kernel, by decide +kernel, by decide +kernel⟩ (fun _ _ _ _ _ _ us hl => match us, hl with | [_, _], _ => rfl) (fun t ht => by
  have e : G.kws.filter (fun t => t.1 == d_law_at.f) = [] := by decide +kernel
  rw [e] at ht
  cases ht)
theorem t_law_drawn : T.fns d_law_drawn.f = some (d_law_drawn.fn G) := by kernel_rfl
theorem ok_law_drawn : DfOk G T d_law_drawn := DfOk.of t_law_drawn ⟨rfl, rfl, rfl, by decide +kernel, by decide +kernel, by decide +kernel, by decide +kernel⟩ (fun _ _ _ _ _ _ us hl => match us, hl with | [_, _], _ => rfl) (fun t ht => by
  have e : G.kws.filter (fun t => t.1 == d_law_drawn.f) = [] := by decide +kernel
  rw [e] at ht
  cases ht)
theorem t_law_upright : T.fns d_law_upright.f = some (d_law_upright.fn G) := by kernel_rfl
theorem ok_law_upright : DfOk G T d_law_upright := DfOk.of t_law_upright ⟨rfl, rfl, rfl, by decide +kernel, by decide +kernel, by decide +kernel, by decide +kernel⟩ (fun _ _ _ _ _ _ us hl => match us, hl with | [_], _ => rfl) (fun t ht => by
  have e : G.kws.filter (fun t => t.1 == d_law_upright.f) = [] := by decide +kernel
  rw [e] at ht
  cases ht)
theorem t_law_plane_sum : T.fns d_law_plane_sum.f = some (d_law_plane_sum.fn G) := by kernel_rfl
theorem ok_law_plane_sum : DfOk G T d_law_plane_sum := DfOk.of t_law_plane_sum ⟨rfl, rfl, rfl, by decide +kernel, by decide +kernel, by decide +kernel, by decide +kernel⟩ (fun _ _ _ _ _ _ us hl => match us, hl with | [_, _], _ => rfl) (fun t ht => by
  have e : G.kws.filter (fun t => t.1 == d_law_plane_sum.f) = [] := by decide +kernel
  rw [e] at ht
  cases ht)
theorem t_law_plane_product : T.fns d_law_plane_product.f = some (d_law_plane_product.fn G) := by kernel_rfl
theorem ok_law_plane_product : DfOk G T d_law_plane_product := DfOk.of t_law_plane_product ⟨rfl, rfl, rfl, by decide +kernel, by decide +kernel, by decide +kernel, by decide +kernel⟩ (fun _ _ _ _ _ _ us hl => match us, hl with | [_, _], _ => rfl) (fun t ht => by
  have e : G.kws.filter (fun t => t.1 == d_law_plane_product.f) = [] := by decide +kernel
  rw [e] at ht
  cases ht)
theorem t_law_plane_at : T.fns d_law_plane_at.f = some (d_law_plane_at.fn G) := by kernel_rfl
theorem ok_law_plane_at : DfOk G T d_law_plane_at := DfOk.of t_law_plane_at ⟨rfl, rfl, rfl, by decide +kernel, by decide +kernel, by decide +kernel, by decide +kernel⟩ (fun _ _ _ _ _ _ us hl => match us, hl with | [_, _, _], _ => rfl) (fun t ht => by
  have e : G.kws.filter (fun t => t.1 == d_law_plane_at.f) = [] := by decide +kernel
  rw [e] at ht
  cases ht)
theorem t_law_plane : T.fns d_law_plane.f = some (d_law_plane.fn G) := by kernel_rfl
theorem ok_law_plane : DfOk G T d_law_plane := DfOk.of t_law_plane ⟨rfl, rfl, rfl, by decide +kernel, by decide +kernel, by decide +kernel, by decide +kernel⟩ (fun _ _ _ _ _ _ us hl => match us, hl with | [_, _, _], _ => rfl) (fun t ht => by
  have e : G.kws.filter (fun t => t.1 == d_law_plane.f) = [] := by decide +kernel
  rw [e] at ht
  cases ht)
theorem t_law_slopes : T.fns d_law_slopes.f = some (d_law_slopes.fn G) := by kernel_rfl
theorem ok_law_slopes : DfOk G T d_law_slopes := DfOk.of t_law_slopes ⟨rfl, rfl, rfl, by decide +kernel, by decide +kernel, by decide +kernel, by decide +kernel⟩ (fun _ _ _ _ _ _ us hl => match us, hl with | [_], _ => rfl) (fun t ht => by
  have e : G.kws.filter (fun t => t.1 == d_law_slopes.f) = [] := by decide +kernel
  rw [e] at ht
  cases ht)
theorem t_law_right : T.fns d_law_right.f = some (d_law_right.fn G) := by kernel_rfl
theorem ok_law_right : DfOk G T d_law_right := DfOk.of t_law_right ⟨rfl, rfl, rfl, by decide +kernel, by decide +kernel, by decide +kernel, by decide +kernel⟩ (fun _ _ _ _ _ _ us hl => match us, hl with | [_, _, _, _], _ => rfl) (fun t ht => by
  have e : G.kws.filter (fun t => t.1 == d_law_right.f) = [] := by decide +kernel
  rw [e] at ht
  cases ht)
theorem t_law : T.fns d_law.f = some (d_law.fn G) := by kernel_rfl
theorem ok_law : DfOk G T d_law := DfOk.of t_law ⟨rfl, rfl, rfl, by decide +kernel, by decide +kernel, by decide +kernel, by decide +kernel⟩ (fun _ _ _ _ _ _ us hl => match us, hl with | [_], _ => rfl) (fun t ht => by
  have e : G.kws.filter (fun t => t.1 == d_law.f) = [] := by decide +kernel
  rw [e] at ht
  cases ht)
/-! ### the head -/
def ds : List Df := (d_is_integer :: d_lowest :: d_is_number :: d_check_number :: d_check_integer :: d_added :: d_product :: d_is_polynomial :: d_stripped :: d_value_of :: d_padded :: d_sum_of :: d_times_of_two :: d_scaled_by :: d_slope_of :: d_broken_value :: d_upright :: d_lifted :: d_sum_of_planes :: d_product_of_planes :: d_slope_up :: d_is_plane :: d_check_plane :: d_plane_plus :: d_plane_times :: d_plane_scaled :: d_slope_x :: d_slope_y :: d_plane_value_of :: d_plane_value :: d_law_take :: d_law_same :: d_law_low :: d_law_plus :: d_law_times :: d_law_trim :: d_law_sum :: d_law_product :: d_law_at :: d_law_drawn :: d_law_upright :: d_law_plane_sum :: d_law_plane_product :: d_law_plane_at :: d_law_plane :: d_law_slopes :: d_law_right :: d_law :: [])
def fa : List He.Fa := (He.Fa.glo "is_integer" :: He.Fa.glo "lowest" :: He.Fa.glo "is_number" :: He.Fa.glo "check_number" :: He.Fa.glo "check_integer" :: He.Fa.glo "added" :: He.Fa.glo "product" :: He.Fa.glo "is_polynomial" :: He.Fa.glo "stripped" :: He.Fa.glo "value_of" :: He.Fa.glo "padded" :: He.Fa.glo "sum_of" :: He.Fa.glo "times_of_two" :: He.Fa.glo "scaled_by" :: He.Fa.glo "slope_of" :: He.Fa.glo "broken_value" :: He.Fa.glo "upright" :: He.Fa.glo "lifted" :: He.Fa.glo "sum_of_planes" :: He.Fa.glo "product_of_planes" :: He.Fa.glo "slope_up" :: He.Fa.glo "is_plane" :: He.Fa.glo "check_plane" :: He.Fa.glo "plane_plus" :: He.Fa.glo "plane_times" :: He.Fa.glo "plane_scaled" :: He.Fa.glo "slope_x" :: He.Fa.glo "slope_y" :: He.Fa.glo "plane_value_of" :: He.Fa.glo "plane_value" :: He.Fa.glo "_law_take" :: He.Fa.glo "_law_same" :: He.Fa.glo "_law_low" :: He.Fa.glo "_law_plus" :: He.Fa.glo "_law_times" :: He.Fa.glo "_law_trim" :: He.Fa.glo "_law_sum" :: He.Fa.glo "_law_product" :: He.Fa.glo "_law_at" :: He.Fa.glo "_law_drawn" :: He.Fa.glo "_law_upright" :: He.Fa.glo "_law_plane_sum" :: He.Fa.glo "_law_plane_product" :: He.Fa.glo "_law_plane_at" :: He.Fa.glo "_law_plane" :: He.Fa.glo "_law_slopes" :: He.Fa.glo "_law_right" :: He.Fa.glo "law" :: He.Fa.free "len" :: He.Fa.free "abs" :: He.Fa.free "int" :: He.Fa.free "tuple" :: He.Fa.free "list" :: He.Fa.free "all" :: He.Fa.free "any" :: He.Fa.free "sum" :: He.Fa.free "min" :: He.Fa.free "max" :: He.Fa.free "bool" :: He.Fa.free "str" :: He.Fa.free "isinstance" :: He.Fa.free "range" :: He.Fa.free "enumerate" :: He.Fa.free "zip" :: [])
def cs : List (Str × D) := [("ZERO", .tup [.int 0, .int 1])]
def bs : List (Str × String) := [("gcd", "math.gcd")]
abbrev R : PySem.W.OpenRow := PySem.W.OpenLaw.row PySem.Challenge.rw_wholeplanes_k07_whole_planes_summed_and
abbrev hk : PySem.W.Hook := hookF 4 fa (ds.map Df.he) cs bs
def ob (s : PySem.W.SharedT) : AlF := obsF 4 fa (ds.map Df.he) cs bs (HandSHeadRun.getT s)
theorem ob_eq (s : PySem.W.SharedT) : ob s = hk.obs s.abs := obsF_eq (HandSHeadRun.getT_eq s)
def loose0 : List PySem.Str := ["gcd", "SignError", "InvalidNumber", "InvalidInteger", "InvalidPlane", "ZERO", "is_integer", "lowest", "is_number", "check_number", "check_integer", "added", "product", "is_polynomial", "stripped", "value_of", "padded", "sum_of", "times_of_two", "scaled_by"]
def loose1 : List PySem.Str := ["slope_of", "broken_value", "upright", "lifted", "sum_of_planes", "product_of_planes", "slope_up", "is_plane", "check_plane", "plane_plus", "plane_times", "plane_scaled", "slope_x", "slope_y", "plane_value_of", "plane_value", "_law_take", "_law_same", "_law_low", "_law_plus"]
def loose2 : List PySem.Str := ["_law_times", "_law_dot", "_law_trim", "_law_sum", "_law_product", "_law_at", "_law_polynomial", "_law_drawn", "_law_upright", "_law_plane_sum", "_law_plane_product", "_law_plane_at", "_law_above", "_law_plane", "_law_degree", "_law_slopes", "_law_right"]
def loose : List PySem.Str := loose0 ++ loose1 ++ loose2
theorem run (w : World) : HandSHeadRun.RunEqI R (PySem.W.view R.prog [0, 63]) hk ob 4000 loose w := by
  unfold HandSHeadRun.RunEqI
  kernel_rfl
def LEVEL : Nat := 20
theorem md {K : PySem.W.Frag} {mg : PySem.Str → Option Value} {h : Heap} (KX : K.In h) (Gn : h.Ns mainGlobals mg) (c : He.SaysD fa (ds.map Df.he) K) (mb : moreB K cs bs = true) : Md G T K mg ⟨K, fun _ => none, []⟩ :=
  md_of KX Gn c mb rfl (Fp.fm_cons ok_is_integer (Fp.fm_cons ok_lowest (Fp.fm_cons ok_is_number (Fp.fm_cons ok_check_number (Fp.fm_cons ok_check_integer (Fp.fm_cons ok_added (Fp.fm_cons ok_product (Fp.fm_cons ok_is_polynomial (Fp.fm_cons ok_stripped (Fp.fm_cons ok_value_of (Fp.fm_cons ok_padded (Fp.fm_cons ok_sum_of (Fp.fm_cons ok_times_of_two (Fp.fm_cons ok_scaled_by (Fp.fm_cons ok_slope_of (Fp.fm_cons ok_broken_value (Fp.fm_cons ok_upright (Fp.fm_cons ok_lifted (Fp.fm_cons ok_sum_of_planes (Fp.fm_cons ok_product_of_planes (Fp.fm_cons ok_slope_up (Fp.fm_cons ok_is_plane (Fp.fm_cons ok_check_plane (Fp.fm_cons ok_plane_plus (Fp.fm_cons ok_plane_times (Fp.fm_cons ok_plane_scaled (Fp.fm_cons ok_slope_x (Fp.fm_cons ok_slope_y (Fp.fm_cons ok_plane_value_of (Fp.fm_cons ok_plane_value (Fp.fm_cons ok_law_take (Fp.fm_cons ok_law_same (Fp.fm_cons ok_law_low (Fp.fm_cons ok_law_plus (Fp.fm_cons ok_law_times (Fp.fm_cons ok_law_trim (Fp.fm_cons ok_law_sum (Fp.fm_cons ok_law_product (Fp.fm_cons ok_law_at (Fp.fm_cons ok_law_drawn (Fp.fm_cons ok_law_upright (Fp.fm_cons ok_law_plane_sum (Fp.fm_cons ok_law_plane_product (Fp.fm_cons ok_law_plane_at (Fp.fm_cons ok_law_plane (Fp.fm_cons ok_law_slopes (Fp.fm_cons ok_law_right (Fp.fm_cons ok_law Fp.fm_nil))))))))))))))))))))))))))))))))))))))))))))))))
    (Fp.fm_cons (List.mem_of_getElem? (show fa[0]? = some (He.Fa.glo d_is_integer.x) from rfl)) (Fp.fm_cons (List.mem_of_getElem? (show fa[1]? = some (He.Fa.glo d_lowest.x) from rfl)) (Fp.fm_cons (List.mem_of_getElem? (show fa[2]? = some (He.Fa.glo d_is_number.x) from rfl)) (Fp.fm_cons (List.mem_of_getElem? (show fa[3]? = some (He.Fa.glo d_check_number.x) from rfl)) (Fp.fm_cons (List.mem_of_getElem? (show fa[4]? = some (He.Fa.glo d_check_integer.x) from rfl)) (Fp.fm_cons (List.mem_of_getElem? (show fa[5]? = some (He.Fa.glo d_added.x) from rfl)) (Fp.fm_cons (List.mem_of_getElem? (show fa[6]? = some (He.Fa.glo d_product.x) from rfl)) (Fp.fm_cons (List.mem_of_getElem? (show fa[7]? = some (He.Fa.glo d_is_polynomial.x) from rfl)) (Fp.fm_cons (List.mem_of_getElem? (show fa[8]? = some (He.Fa.glo d_stripped.x) from rfl)) (Fp.fm_cons (List.mem_of_getElem? (show fa[9]? = some (He.Fa.glo d_value_of.x) from rfl)) (Fp.fm_cons (List.mem_of_getElem? (show fa[10]? = some (He.Fa.glo d_padded.x) from rfl)) (Fp.fm_cons (List.mem_of_getElem? (show fa[11]? = some (He.Fa.glo d_sum_of.x) from rfl)) (Fp.fm_cons (List.mem_of_getElem? (show fa[12]? = some (He.Fa.glo d_times_of_two.x) from rfl)) (Fp.fm_cons (List.mem_of_getElem? (show fa[13]? = some (He.Fa.glo d_scaled_by.x) from rfl)) (Fp.fm_cons (List.mem_of_getElem? (show fa[14]? = some (He.Fa.glo d_slope_of.x) from rfl)) (Fp.fm_cons (List.mem_of_getElem? (show fa[15]? = some (He.Fa.glo d_broken_value.x) from rfl)) (Fp.fm_cons (List.mem_of_getElem? (show fa[16]? = some (He.Fa.glo d_upright.x) from rfl)) (Fp.fm_cons (List.mem_of_getElem? (show fa[17]? = some (He.Fa.glo d_lifted.x) from rfl)) (Fp.fm_cons (List.mem_of_getElem? (show fa[18]? = some (He.Fa.glo d_sum_of_planes.x) from rfl)) (Fp.fm_cons (List.mem_of_getElem? (show fa[19]? = some (He.Fa.glo d_product_of_planes.x) from rfl)) (Fp.fm_cons (List.mem_of_getElem? (show fa[20]? = some (He.Fa.glo d_slope_up.x) from rfl)) (Fp.fm_cons (List.mem_of_getElem? (show fa[21]? = some (He.Fa.glo d_is_plane.x) from rfl)) (Fp.fm_cons (List.mem_of_getElem? (show fa[22]? = some (He.Fa.glo d_check_plane.x) from rfl)) (Fp.fm_cons (List.mem_of_getElem? (show fa[23]? = some (He.Fa.glo d_plane_plus.x) from rfl)) (Fp.fm_cons (List.mem_of_getElem? (show fa[24]? = some (He.Fa.glo d_plane_times.x) from rfl)) (Fp.fm_cons (List.mem_of_getElem? (show fa[25]? = some (He.Fa.glo d_plane_scaled.x) from rfl)) (Fp.fm_cons (List.mem_of_getElem? (show fa[26]? = some (He.Fa.glo d_slope_x.x) from rfl)) (Fp.fm_cons (List.mem_of_getElem? (show fa[27]? = some (He.Fa.glo d_slope_y.x) from rfl)) (Fp.fm_cons (List.mem_of_getElem? (show fa[28]? = some (He.Fa.glo d_plane_value_of.x) from rfl)) (Fp.fm_cons (List.mem_of_getElem? (show fa[29]? = some (He.Fa.glo d_plane_value.x) from rfl)) (Fp.fm_cons (List.mem_of_getElem? (show fa[30]? = some (He.Fa.glo d_law_take.x) from rfl)) (Fp.fm_cons (List.mem_of_getElem? (show fa[31]? = some (He.Fa.glo d_law_same.x) from rfl)) (Fp.fm_cons (List.mem_of_getElem? (show fa[32]? = some (He.Fa.glo d_law_low.x) from rfl)) (Fp.fm_cons (List.mem_of_getElem? (show fa[33]? = some (He.Fa.glo d_law_plus.x) from rfl)) (Fp.fm_cons (List.mem_of_getElem? (show fa[34]? = some (He.Fa.glo d_law_times.x) from rfl)) (Fp.fm_cons (List.mem_of_getElem? (show fa[35]? = some (He.Fa.glo d_law_trim.x) from rfl)) (Fp.fm_cons (List.mem_of_getElem? (show fa[36]? = some (He.Fa.glo d_law_sum.x) from rfl)) (Fp.fm_cons (List.mem_of_getElem? (show fa[37]? = some (He.Fa.glo d_law_product.x) from rfl)) (Fp.fm_cons (List.mem_of_getElem? (show fa[38]? = some (He.Fa.glo d_law_at.x) from rfl)) (Fp.fm_cons (List.mem_of_getElem? (show fa[39]? = some (He.Fa.glo d_law_drawn.x) from rfl)) (Fp.fm_cons (List.mem_of_getElem? (show fa[40]? = some (He.Fa.glo d_law_upright.x) from rfl)) (Fp.fm_cons (List.mem_of_getElem? (show fa[41]? = some (He.Fa.glo d_law_plane_sum.x) from rfl)) (Fp.fm_cons (List.mem_of_getElem? (show fa[42]? = some (He.Fa.glo d_law_plane_product.x) from rfl)) (Fp.fm_cons (List.mem_of_getElem? (show fa[43]? = some (He.Fa.glo d_law_plane_at.x) from rfl)) (Fp.fm_cons (List.mem_of_getElem? (show fa[44]? = some (He.Fa.glo d_law_plane.x) from rfl)) (Fp.fm_cons (List.mem_of_getElem? (show fa[45]? = some (He.Fa.glo d_law_slopes.x) from rfl)) (Fp.fm_cons (List.mem_of_getElem? (show fa[46]? = some (He.Fa.glo d_law_right.x) from rfl)) (Fp.fm_cons (List.mem_of_getElem? (show fa[47]? = some (He.Fa.glo d_law.x) from rfl)) Fp.fm_nil))))))))))))))))))))))))))))))))))))))))))))))))
    (Fp.fm_cons (List.mem_of_getElem? (show fa[48]? = some (He.Fa.free "len") from rfl)) (Fp.fm_cons (List.mem_of_getElem? (show fa[49]? = some (He.Fa.free "abs") from rfl)) (Fp.fm_cons (List.mem_of_getElem? (show fa[50]? = some (He.Fa.free "int") from rfl)) (Fp.fm_cons (List.mem_of_getElem? (show fa[51]? = some (He.Fa.free "tuple") from rfl)) (Fp.fm_cons (List.mem_of_getElem? (show fa[52]? = some (He.Fa.free "list") from rfl)) (Fp.fm_cons (List.mem_of_getElem? (show fa[53]? = some (He.Fa.free "all") from rfl)) (Fp.fm_cons (List.mem_of_getElem? (show fa[54]? = some (He.Fa.free "any") from rfl)) (Fp.fm_cons (List.mem_of_getElem? (show fa[55]? = some (He.Fa.free "sum") from rfl)) (Fp.fm_cons (List.mem_of_getElem? (show fa[56]? = some (He.Fa.free "min") from rfl)) (Fp.fm_cons (List.mem_of_getElem? (show fa[57]? = some (He.Fa.free "max") from rfl)) (Fp.fm_cons (List.mem_of_getElem? (show fa[58]? = some (He.Fa.free "bool") from rfl)) (Fp.fm_cons (List.mem_of_getElem? (show fa[59]? = some (He.Fa.free "str") from rfl)) (Fp.fm_cons (List.mem_of_getElem? (show fa[60]? = some (He.Fa.free "isinstance") from rfl)) (Fp.fm_cons (List.mem_of_getElem? (show fa[61]? = some (He.Fa.free "range") from rfl)) (Fp.fm_cons (List.mem_of_getElem? (show fa[62]? = some (He.Fa.free "enumerate") from rfl)) (Fp.fm_cons (List.mem_of_getElem? (show fa[63]? = some (He.Fa.free "zip") from rfl)) Fp.fm_nil))))))))))))))))
    (Fp.lk_cons rfl (Fp.lk_cons rfl (Fp.lk_cons rfl (Fp.lk_cons rfl (Fp.lk_cons rfl Fp.lk_nil)))))
    (fun _ => List.mem_of_getElem? (i := 0) rfl)
    (Fp.lk_cons ⟨_, List.mem_of_getElem? (show cs[0]? = some _ from rfl), rfl⟩ Fp.lk_nil)
theorem holds_of (plain : ∀ ns : List Int, ns.length ≤ 63 → callN T (LEVEL + 1) "law" [.val (.klst (ns.map D.int))] [] = .ok (.val (.bl true)) []) : PySem.Challenge.rw_wholeplanes_k07_whole_planes_summed_and.Holds := by
  w_on; o_law
  refine HandSHeadRun.head_imp (r := R) (q := PySem.W.view R.prog [0, 63]) (H := hk) (ob := ob) (M := 4000) (loose := loose) (d := HandSHeadRun.topDef R.prog 63) (kwd := []) ob_eq
    run (by kernel_rfl) (by kernel_rfl) (by kernel_rfl) (by rfl) (by first | assumption | decide +kernel) (by decide +kernel) ⟨rfl, rfl, rfl, rfl, rfl, by decide +kernel⟩ ?hw ?hc
  case hw => w_witness2
  case hc =>
    refine L2.walk_ofE (l := PySem.Challenge.rw_wholeplanes_k07_whole_planes_summed_and) (n := 63) (k := LEVEL + 1) (x := "script") (CX := L2.CX0) rfl (by decide) (by kernel_rfl) ⟨rfl, by decide, by decide⟩ ?F (fun _ _ _ _ z => z)
    intro w mg fa' h Y Gn hmg0
    obtain ⟨K, KX, c, mb⟩ := Y
    have hmg : mg ("law" : PySem.Str) = some (.ref fa') := by
      have e : (HandSHeadRun.topDef R.prog 63).name = ("law" : PySem.Str) := by kernel_rfl
      rw [← e]
      exact hmg0
    obtain ⟨fd, sp, hb, hsp, hF⟩ := law_facts (P := PySem.Challenge.rw_wholeplanes_k07_whole_planes_summed_and.prog) (w := w) (n := 63) (m := LEVEL) (md KX Gn c mb) (by decide +kernel) hmg (fun F e => by cases e; rfl) plain
    exact ⟨K, fd, sp, KX, hb, fun H a ns hl _ hS => hsp H a ns hl hS, fun base _ _ => hF base⟩
end K07
open PySem Fp
theorem Fp.Z.t_k07 : Fp.Z.T07 K07.T :=
  ⟨by kernel_rfl, by kernel_rfl, by kernel_rfl, by kernel_rfl, by kernel_rfl, by kernel_rfl, by kernel_rfl, by kernel_rfl, by kernel_rfl, by kernel_rfl, by kernel_rfl, by kernel_rfl, by kernel_rfl, by kernel_rfl, by kernel_rfl, by kernel_rfl, by kernel_rfl, by kernel_rfl, by kernel_rfl, by kernel_rfl, by kernel_rfl, by kernel_rfl, by kernel_rfl, by kernel_rfl, by kernel_rfl, by kernel_rfl, by kernel_rfl, by kernel_rfl, by kernel_rfl, by kernel_rfl, by kernel_rfl, by kernel_rfl, by kernel_rfl, by kernel_rfl, by kernel_rfl, by kernel_rfl, by kernel_rfl, by kernel_rfl, by kernel_rfl, by kernel_rfl, by kernel_rfl, by kernel_rfl, by kernel_rfl, by kernel_rfl, by kernel_rfl, by kernel_rfl, by kernel_rfl, by kernel_rfl, by kernel_rfl⟩
theorem PySem.Challenge.cw_wholeplanes_k07_whole_planes_summed_and_holds : PySem.Challenge.rw_wholeplanes_k07_whole_planes_summed_and.Holds := by
  exact K07.holds_of (fun ns hn => Fp.Z.law07 Fp.Z.t_k07 ns hn)
