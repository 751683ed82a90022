import PyProof.Rows.All
import Wide.All
import OpenK.AllK
import Wide.FinOn
import HandS.Base
import HandS.Call
import HandS.List
import HandS.Comp
import HandS.Dict
import HandS.Iter
import HandS.Text
import HandS.Walk
import HandS.Exc
import HandS.Ends
import HandS.Words
import HandS.WordsExc
import HandS.Flow
import HandS.IsInst
import HandS.Wide
import HandS.WideMore
import HandS.CallSlots
import HandS.Defaults
import HandS.Conv
import HandS.ExcOwn
import HandS.Style
import HandS.TupAny
import HandS.Zip
import HandS.Head0
import HandS.Head1
import HandS.Head2
import HandS.HeadEnd
import HandS.HeadHook1
import HandS.HeadHook2
import KE.KStateDown
import Lean
import PySem.Challenge.RW_columndays_k43_costs_to_the_penny
set_option Elab.async false
set_option linter.all false
set_option maxRecDepth 100000
set_option maxHeartbeats 0
/-! EV1: a small plain evaluator for the part of Python that the program and its laws are written in. Values W (tuples by value, lists by place in a store). -/
namespace EV
open PySem

/-- a value: immutable ones as they are, the others by their place in the store -/
inductive W where
  | non | bl (b : Bool) | int (i : Int) | str (x : Str) | tup (ws : List W) | ref (n : Nat) | ty (n : String) | fls (ws : List W)
  deriving Inhabited

/-- what stands at a place of the store -/
inductive Ob where
  | lst (ws : List W)

abbrev Store := List Ob
abbrev Env := List (Option W)

/-- what is raised: an own class by its place in the table -/
inductive Xc where
  | own (c : Nat)

inductive Res (α : Type) where
  | ok (a : α) (st : Store)
  | exn (x : Xc) (st : Store)
  | bad

def Res.bind {α β : Type} : Res α → (α → Store → Res β) → Res β
  | .ok a st, f => f a st
  | .exn x st, _ => .exn x st
  | .bad, _ => .bad
@[simp] theorem Res.bind_ok {α β : Type} (a : α) (st : Store) (f : α → Store → Res β) : (Res.ok a st).bind f = f a st := rfl
@[simp] theorem Res.bind_exn {α β : Type} (x : Xc) (st : Store) (f : α → Store → Res β) : (Res.exn x st).bind f = .exn x st := rfl
@[simp] theorem Res.bind_bad {α β : Type} (f : α → Store → Res β) : (Res.bad : Res α).bind f = .bad := rfl

/-- an answer that may be lacking -/
def ofO {α : Type} (o : Option α) (st : Store) : Res α := match o with
  | some a => .ok a st
  | none => .bad
@[simp] theorem ofO_some {α : Type} (a : α) (st : Store) : ofO (some a) st = .ok a st := rfl
@[simp] theorem ofO_none {α : Type} (st : Store) : ofO (none : Option α) st = .bad := rfl

inductive Bop where
  | add | sub | mul | fdiv | mod | pow
inductive Cop where
  | eq | ne | lt | le | gt | ge | inn | nin
inductive Blt where
  | len | abs | max2 | min2 | sum | any | all | tuple | list | int | str
inductive Ty where
  | non | bool | int | str | tuple | list | dict
  deriving DecidableEq
inductive Mt where
  | append | popl | extend

inductive Tgt where
  | one (i : Nat)
  | tup (is : List Nat)

mutual
inductive Ex where
  | var (i : Nat)
  | con (w : W)
  | bin (op : Bop) (a b : Ex)
  | neg (a : Ex)
  | cmp (op : Cop) (a b : Ex)
  | chain (o1 o2 : Cop) (a b c : Ex)
  | isN (a : Ex)
  | notN (a : Ex)
  | and (a b : Ex)
  | or (a b : Ex)
  | not (a : Ex)
  | ite (c a b : Ex)
  | tup (es : Exs)
  | lst (es : Exs)
  | idx (a i : Ex)
  | slc (a : Ex) (lo hi : Ox)
  | rev (a : Ex)
  | call (f : Nat) (es : Exs)
  | blt (b : Blt) (es : Exs)
  | isi (a : Ex) (ts : List Ty)
  | mth (m : Mt) (o : Ex) (es : Exs)
  | comp (t : Tgt) (it : It) (c : Ox) (e : Ex)
  | join (a e : Ex)
inductive Exs where
  | nil
  | cons (e : Ex) (es : Exs)
inductive Ox where
  | no
  | yes (e : Ex)
inductive It where
  | seq (e : Ex)
  | rng1 (b : Ex)
  | rng2 (a b : Ex)
  | enum (e : Ex)
  | zip (a b : Ex)
end

mutual
inductive S where
  | set (i : Nat) (e : Ex)
  | unp (is : List Nat) (e : Ex)
  | sub (o i e : Ex)
  | aug (i : Nat) (op : Bop) (e : Ex)
  | augS (o i : Ex) (op : Bop) (e : Ex)
  | ex (e : Ex)
  | ret (e : Ex)
  | retN
  | ite (c : Ex) (a b : Ss)
  | whl (c : Ex) (b : Ss)
  | for_ (t : Tgt) (it : It) (b : Ss)
  | brk
  | cnt
  | raise (c : Nat)
inductive Ss where
  | nil
  | cons (s : S) (ss : Ss)
end

def Exs.len : Exs → Nat
  | .nil => 0
  | .cons _ es => es.len + 1
/-! ### values -/
def line : Nat := 16777216
def objAt (st : Store) (n : Nat) : Option Ob := st[n]?
/-- the items of a list or a tuple -/
def seqW (st : Store) : W → Option (List W)
  | .tup ws => some ws
  | .fls ws => some ws
  | .ref n => match st[n]? with
    | some (.lst ws) => some ws
    | _ => none
  | _ => none
def truW (st : Store) : W → Option Bool
  | .non => some false
  | .bl b => some b
  | .int i => some (i != 0)
  | .str x => some ((x.length : Int) != 0)
  | .tup ws => some (!ws.isEmpty)
  | .fls ws => some (!ws.isEmpty)
  | .ref n => match st[n]? with
    | some (.lst ws) => some (!ws.isEmpty)
    | _ => none
  | .ty _ => none
def kindW (st : Store) : W → Option Ty
  | .non => some .non
  | .bl _ => some .bool
  | .int _ => some .int
  | .str _ => some .str
  | .tup _ => some .tuple
  | .fls _ => some .list
  | .ref n => match st[n]? with
    | some (.lst _) => some .list
    | _ => none
  | .ty _ => none
def isNonW : W → Bool
  | .non => true
  | _ => false
def isLstW (st : Store) : W → Bool
  | .ref n => match st[n]? with
    | some (.lst _) => true
    | _ => false
  | _ => false
def isRefW : W → Bool
  | .ref _ => true
  | _ => false
def isTupW : W → Bool
  | .tup _ => true
  | _ => false
def subTy (a b : Ty) : Bool := a == b || (a == .bool && b == .int)

mutual
def pdP : W → Option PyData
  | .non => some .none
  | .bl b => some (.bool b)
  | .int i => some (.int i)
  | .str x => some (.str x)
  | .tup ws => match pdPs ws with
    | some ds => some (.tuple ds)
    | none => none
  | .ref _ => none
  | .fls _ => none
  | .ty _ => none
def pdPs : List W → Option (List PyData)
  | [] => some []
  | w :: ws => match pdP w, pdPs ws with
    | some d, some ds => some (d :: ds)
    | _, _ => none
end
/-- data; a list only outermost -/
def pdL (st : Store) : W → Option PyData
  | .ref n => match st[n]? with
    | some (.lst ws) => match pdPs ws with
      | some ds => some (.list ds)
      | none => none
    | _ => none
  | w => pdP w
def eqW (st : Store) (x y : W) : Option Bool := match pdL st x, pdL st y with
  | some d, some e => if d.depth ≤ 64 ∧ e.depth ≤ 64 then some (PyData.eqv d e) else none
  | _, _ => none
/-- x in c -/
def inW (st : Store) (x c : W) : Option Bool := match c with
  | .str z => match x with
    | .str y => match y.cps.toList with
      | [k] => some (decide (k ∈ z.cps.toList))
      | _ => none
    | _ => none
  | _ => match pdL st x, pdL st c with
    | some d, some (.list ds) => if d.depth ≤ 64 then some (ds.any fun e => PyData.eqv e d) else none
    | some d, some (.tuple ds) => if d.depth ≤ 64 then some (ds.any fun e => PyData.eqv e d) else none
    | _, _ => none

def near (i : Int) : Prop := -(2 ^ 64) < i ∧ i < 2 ^ 64
instance (i : Int) : Decidable (near i) := by unfold near; infer_instance
def binW (op : Bop) (st : Store) (x y : W) : Res W := match op, x, y with
  | .add, .int i, .int j => .ok (.int (i + j)) st
  | .add, .str a, .str b => if a.length + b.length ≤ line then .ok (.str (a ++ b)) st else .bad
  | .add, .tup a, .tup b => if a.length + b.length ≤ line then .ok (.tup (a ++ b)) st else .bad
  | .add, .ref n, .ref m => match st[n]?, st[m]? with
    | some (.lst a), some (.lst b) => if a.length + b.length ≤ line then .ok (.ref st.length) (st ++ [.lst (a ++ b)]) else .bad
    | _, _ => .bad
  | .sub, .int i, .int j => .ok (.int (i - j)) st
  | .mul, .int i, .int j => if near i ∨ near j ∨ (i.natAbs.log2 < 9000 ∧ j.natAbs.log2 < 9000) then .ok (.int (i * j)) st else .bad
  | .fdiv, .int i, .int j => if 0 < j ∧ (j < 1073741824 ∨ j.natAbs.log2 < 9000) then .ok (.int (i / j)) st else .bad
  | .mod, .int i, .int j => if 0 < j then .ok (.int (i % j)) st else .bad
  | .pow, .int i, .int j => if 0 ≤ j ∧ j ≤ 1000000 ∧ i.natAbs < 2 ^ 64 then .ok (.int (i ^ j.toNat)) st else .bad
  | _, _, _ => .bad
/-- x op= y -/
def augW (op : Bop) (st : Store) (x y : W) : Res W := match op, x, y with
  | .add, .ref n, .ref m => match st[n]?, st[m]? with
    | some (.lst a), some (.lst b) => if a.length + b.length ≤ line then .ok (.ref n) (st.set n (.lst (a ++ b))) else .bad
    | _, _ => .bad
  | .add, .int i, .int j => .ok (.int (i + j)) st
  | .add, .str a, .str b => if a.length + b.length ≤ line then .ok (.str (a ++ b)) st else .bad
  | .sub, .int i, .int j => .ok (.int (i - j)) st
  | .mul, .int i, .int j => if near i ∨ near j then .ok (.int (i * j)) st else .bad
  | .fdiv, .int i, .int j => if 0 < j ∧ (j < 1073741824 ∨ j.natAbs.log2 < 9000) then .ok (.int (i / j)) st else .bad
  | .mod, .int i, .int j => if 0 < j then .ok (.int (i % j)) st else .bad
  | _, _, _ => .bad
def cmpW (op : Cop) (st : Store) (x y : W) : Option Bool := match op with
  | .eq => eqW st x y
  | .ne => (eqW st x y).map (!·)
  | .inn => inW st x y
  | .nin => (inW st x y).map (!·)
  | .lt => match x, y with
    | .int i, .int j => some (decide (i < j))
    | _, _ => none
  | .le => match x, y with
    | .int i, .int j => some (decide (i ≤ j))
    | _, _ => none
  | .gt => match x, y with
    | .int i, .int j => some (decide (j < i))
    | _, _ => none
  | .ge => match x, y with
    | .int i, .int j => some (decide (j ≤ i))
    | _, _ => none

def ixW (n : Nat) (i : Int) : Option Nat := if 0 ≤ i then (if i < n then some i.toNat else none) else if -(n : Int) ≤ i then some (i + n).toNat else none
def atW (ws : List W) (i : Int) : Option W := match ixW ws.length i with
  | some j => ws[j]?
  | none => none
def idxW (st : Store) (x i : W) : Option W := match i with
  | .int k => match x with
    | .str z => if z.length ≤ line then (match ixW z.cps.toList.length k with
      | some j => match z.cps.toList[j]? with
        | some c => some (.str ⟨#[c]⟩)
        | none => none
      | none => none) else none
    | _ => match seqW st x with
      | some ws => atW ws k
      | none => none
  | _ => none
def cutIx (n d : Nat) : Option Int → Nat
  | none => d
  | some v => if v < 0 then (v + (n : Int)).toNat else min v.toNat n
def cutW (ws : List W) (lo hi : Option Int) : List W := (ws.drop (cutIx ws.length 0 lo)).take (cutIx ws.length ws.length hi - cutIx ws.length 0 lo)
def slcW (st : Store) (x : W) (lo hi : Option Int) : Res W := match x with
  | .tup ws => .ok (.tup (cutW ws lo hi)) st
  | .fls ws => .ok (.ref st.length) (st ++ [.lst (cutW ws lo hi)])
  | .ref n => match st[n]? with
    | some (.lst ws) => .ok (.ref st.length) (st ++ [.lst (cutW ws lo hi)])
    | _ => .bad
  | _ => .bad

def intsW : List W → Option (List Int)
  | [] => some []
  | .int i :: ws => match intsW ws with
    | some ns => some (i :: ns)
    | none => none
  | _ :: _ => none
def boolsW : List W → Option (List Bool)
  | [] => some []
  | .bl b :: ws => match boolsW ws with
    | some bs => some (b :: bs)
    | none => none
  | _ :: _ => none
def strsW : List W → Option (List Str)
  | [] => some []
  | .str i :: ws => match strsW ws with
    | some ns => some (i :: ns)
    | none => none
  | _ :: _ => none
/-- the texts joined: short ones -/
def joinW (st : Store) (z : Str) : W → Res W
  | .ref n => match st[n]? with
    | some (.lst ws) => match strsW ws with
      | some ys => if (ys.map (·.length)).sum + ys.length * z.length ≤ line ∧ (Txt.join z ys).length ≤ line ∧ PyData.strOk (Txt.join z ys) = true then .ok (.str (Txt.join z ys)) st else .bad
      | none => .bad
    | _ => .bad
  | _ => .bad
def bltW (b : Blt) (st : Store) (xs : List W) : Res W := match b, xs with
  | .len, [.str x] => .ok (.int x.length) st
  | .len, [x] => match seqW st x with
    | some ws => .ok (.int ws.length) st
    | none => .bad
  | .abs, [.int i] => .ok (.int (if i < 0 then -i else i)) st
  | .max2, [.int i, .int j] => .ok (.int (if j > i then j else i)) st
  | .min2, [.int i, .int j] => .ok (.int (if j < i then j else i)) st
  | .int, [.int i] => .ok (.int i) st
  | .int, [.bl k] => .ok (.int (if k then 1 else 0)) st
  | .sum, [.ref n] => match st[n]? with
    | some (.lst ws) => match intsW ws with
      | some ns => .ok (.int ns.sum) st
      | none => .bad
    | _ => .bad
  | .any, [.ref n] => match st[n]? with
    | some (.lst ws) => match boolsW ws with
      | some bs => .ok (.bl (bs.any id)) st
      | none => .bad
    | _ => .bad
  | .all, [.ref n] => match st[n]? with
    | some (.lst ws) => match boolsW ws with
      | some bs => .ok (.bl (bs.all id)) st
      | none => .bad
    | _ => .bad
  | .tuple, [x] => match seqW st x with
    | some ws => .ok (.tup ws) st
    | none => .bad
  | .list, [x] => match seqW st x with
    | some ws => .ok (.ref st.length) (st ++ [.lst ws])
    | none => .bad
  | _, _ => .bad
def mthW (m : Mt) (st : Store) (o : W) (xs : List W) : Res W := match m, o, xs with
  | .append, .ref n, [x] => match st[n]? with
    | some (.lst ws) => if ws.length < line then .ok .non (st.set n (.lst (ws ++ [x]))) else .bad
    | _ => .bad
  | .extend, .ref n, [.ref m] => match st[n]?, st[m]? with
    | some (.lst a), some (.lst b) => if a.length + b.length ≤ line then .ok .non (st.set n (.lst (a ++ b))) else .bad
    | _, _ => .bad
  | .popl, .ref n, [] => match st[n]? with
    | some (.lst ws) => match ws[ws.length - 1]? with
      | some y => .ok y (st.set n (.lst ws.dropLast))
      | none => .bad
    | _ => .bad
  | _, _, _ => .bad
def isiW (st : Store) (x : W) (ts : List Ty) : Option Bool := match kindW st x with
  | some k => some (ts.any fun t => subTy k t)
  | none => none
def setIxW (st : Store) (o i v : W) : Option Store := match o, i with
  | .ref n, .int k => match st[n]? with
    | some (.lst ws) => match ixW ws.length k with
      | some j => some (st.set n (.lst (ws.set j v)))
      | none => none
    | _ => none
  | _, _ => none

/-! ### targets, loops -/
def setAll (is : List Nat) (ws : List W) (env : Env) : Option Env := match is, ws with
  | [], [] => some env
  | i :: is, w :: ws => setAll is ws (env.set i (some w))
  | _, _ => none
def bindT (t : Tgt) (w : W) (env : Env) : Option Env := match t with
  | .one i => some (env.set i (some w))
  | .tup is => match w with
    | .tup ws => setAll is ws env
    | _ => none
def Tgt.slots : Tgt → List Nat
  | .one i => [i]
  | .tup is => is
def wipeE (env : Env) : List Nat → Env
  | [] => env
  | v :: vs => (wipeE env vs).set v none

/-- what is walked: the items, and what stays as it is meanwhile -/
structure Walkd where
  items : List W
  keep : Store → Prop
def seqK (st : Store) (x : W) : Option Walkd := match x with
  | .tup ws => some ⟨ws, fun _ => True⟩
  | .fls ws => some ⟨ws, fun _ => True⟩
  | .ref n => match st[n]? with
    | some (.lst ws) => some ⟨ws, fun st' => st'[n]? = some (.lst ws)⟩
    | _ => none
  | .str z => some ⟨z.cps.toList.map fun c => .str ⟨#[c]⟩, fun _ => True⟩
  | _ => none
def rangeW (lo hi : Int) : List W := (List.range (hi - lo).toNat).map fun (k : Nat) => .int (lo + k)
def rngOk (i : Int) : Prop := -(2 ^ 62) ≤ i ∧ i < 2 ^ 62
instance (i : Int) : Decidable (rngOk i) := by unfold rngOk; infer_instance
def enumL (k : Nat) : List W → List W
  | [] => []
  | w :: ws => .tup [.int (k : Nat), w] :: enumL (k + 1) ws
def zipL : List W → List W → List W
  | x :: xs, y :: ys => .tup [x, y] :: zipL xs ys
  | _, _ => []

/-- a statement's end -/
inductive SR where
  | nx (env : Env) (st : Store)
  | rt (w : W) (st : Store)
  | bk (env : Env) (st : Store)
  | ct (env : Env) (st : Store)
  | ex (x : Xc) (env : Env) (st : Store)
  | bad
def SR.seq : SR → (Env → Store → SR) → SR
  | .nx env st, f => f env st
  | r, _ => r
@[simp] theorem SR.seq_nx (env : Env) (st : Store) (f : Env → Store → SR) : (SR.nx env st).seq f = f env st := rfl
@[simp] theorem SR.seq_rt (w : W) (st : Store) (f : Env → Store → SR) : (SR.rt w st).seq f = .rt w st := rfl
@[simp] theorem SR.seq_bk (env : Env) (st : Store) (f : Env → Store → SR) : (SR.bk env st).seq f = .bk env st := rfl
@[simp] theorem SR.seq_ct (env : Env) (st : Store) (f : Env → Store → SR) : (SR.ct env st).seq f = .ct env st := rfl
@[simp] theorem SR.seq_ex (x : Xc) (env : Env) (st : Store) (f : Env → Store → SR) : (SR.ex x env st).seq f = .ex x env st := rfl
@[simp] theorem SR.seq_bad (f : Env → Store → SR) : SR.bad.seq f = .bad := rfl
/-- an expression within a statement -/
def Res.then {α : Type} (r : Res α) (env : Env) (f : α → Store → SR) : SR := match r with
  | .ok a st => f a st
  | .exn x st => .ex x env st
  | .bad => .bad
@[simp] theorem Res.then_ok {α : Type} (a : α) (st : Store) (env : Env) (f : α → Store → SR) : (Res.ok a st).then env f = f a st := rfl
@[simp] theorem Res.then_exn {α : Type} (x : Xc) (st : Store) (env : Env) (f : α → Store → SR) : (Res.exn x st : Res α).then env f = .ex x env st := rfl
@[simp] theorem Res.then_bad {α : Type} (env : Env) (f : α → Store → SR) : (Res.bad : Res α).then env f = .bad := rfl

open Classical in
noncomputable def forL (keep : Store → Prop) (t : Tgt) (b : Env → Store → SR) : List W → Env → Store → SR
  | [], env, st => if keep st then .nx env st else .bad
  | w :: ws, env, st => if keep st then (match bindT t w env with
      | some env1 => match b env1 st with
        | .nx env' st' => forL keep t b ws env' st'
        | .ct env' st' => forL keep t b ws env' st'
        | .bk env' st' => .nx env' st'
        | .rt w st' => .rt w st'
        | .ex x env' st' => .ex x env' st'
        | .bad => .bad
      | none => .bad) else .bad
def whlL (c : Env → Store → Res Bool) (b : Env → Store → SR) : Nat → Env → Store → SR
  | 0, _, _ => .bad
  | n + 1, env, st => (c env st).then env fun k st1 => if k = true then (match b env st1 with
      | .nx env' st' => whlL c b n env' st'
      | .ct env' st' => whlL c b n env' st'
      | .bk env' st' => .nx env' st'
      | .rt w st' => .rt w st'
      | .ex x env' st' => .ex x env' st'
      | .bad => .bad) else .nx env st1
/-- no exception leaves a comprehension here -/
def Res.noex {α : Type} : Res α → Res α
  | .exn _ _ => .bad
  | r => r
@[simp] theorem Res.noex_ok {α : Type} (a : α) (st : Store) : (Res.ok a st).noex = .ok a st := rfl
@[simp] theorem Res.noex_bad {α : Type} : (Res.bad : Res α).noex = .bad := rfl
@[simp] theorem Res.noex_exn {α : Type} (x : Xc) (st : Store) : (Res.exn x st : Res α).noex = .bad := rfl
open Classical in
/-- what a comprehension gathers: the turn gives an item or none -/
noncomputable def cmpL (keep : Store → Prop) (t : Tgt) (b : Env → Store → Res (Option W)) (env : Env) : List W → List W → Store → Res (List W)
  | [], acc, st => if keep st then .ok acc st else .bad
  | w :: ws, acc, st => if keep st then (match bindT t w env with
      | some env1 => match b env1 st with
        | .ok (some y) st' => if acc.length < line then cmpL keep t b env ws (acc ++ [y]) st' else .bad
        | .ok none st' => cmpL keep t b env ws acc st'
        | .exn _ _ => .bad
        | .bad => .bad
      | none => .bad) else .bad

abbrev Fns := Nat → List W → Store → Res W
theorem big_ex : ∃ n : Nat, 1000000 ≤ n := ⟨1000000, Nat.le_refl _⟩
/-- how many turns a while may have: enough, and never reckoned -/
noncomputable def BIG : Nat := Classical.choose big_ex
theorem big_ge : 1000000 ≤ BIG := Classical.choose_spec big_ex

/-! ### the evaluator -/
mutual
noncomputable def evE (T : Fns) : Ex → Env → Store → Res W
  | .var i, env, st => match env[i]? with
    | some (some w) => .ok w st
    | _ => .bad
  | .con w, _, st => .ok w st
  | .bin op a b, env, st => (evE T a env st).bind fun x st => (evE T b env st).bind fun y st => binW op st x y
  | .neg a, env, st => (evE T a env st).bind fun x st => match x with
    | .int i => .ok (.int (-i)) st
    | _ => .bad
  | .cmp op a b, env, st => (evE T a env st).bind fun x st => (evE T b env st).bind fun y st => (ofO (cmpW op st x y) st).bind fun k st => .ok (.bl k) st
  | .chain o1 o2 a b c, env, st => (evE T a env st).bind fun x st => (evE T b env st).bind fun y st => (ofO (cmpW o1 st x y) st).bind fun k st =>
    if k = true then (evE T c env st).bind fun z st => (ofO (cmpW o2 st y z) st).bind fun k st => .ok (.bl k) st else .ok (.bl false) st
  | .isN a, env, st => (evE T a env st).bind fun x st => .ok (.bl (isNonW x)) st
  | .notN a, env, st => (evE T a env st).bind fun x st => .ok (.bl (!isNonW x)) st
  | .and a b, env, st => (evE T a env st).bind fun x st => (ofO (truW st x) st).bind fun k st => if k = true then evE T b env st else .ok x st
  | .or a b, env, st => (evE T a env st).bind fun x st => (ofO (truW st x) st).bind fun k st => if k = true then .ok x st else evE T b env st
  | .not a, env, st => (evE T a env st).bind fun x st => (ofO (truW st x) st).bind fun k st => .ok (.bl (!k)) st
  | .ite c a b, env, st => (evE T c env st).bind fun x st => (ofO (truW st x) st).bind fun k st => if k = true then evE T a env st else evE T b env st
  | .tup es, env, st => (evEs T es env st).bind fun ws st => .ok (.tup ws) st
  | .lst es, env, st => (evEs T es env st).bind fun ws st => .ok (.ref st.length) (st ++ [.lst ws])
  | .idx a i, env, st => (evE T a env st).bind fun x st => (evE T i env st).bind fun y st => ofO (idxW st x y) st
  | .slc a lo hi, env, st => (evE T a env st).bind fun x st => (evP T lo env st).bind fun l st => (evP T hi env st).bind fun h st => slcW st x l h
  | .rev a, env, st => (evE T a env st).bind fun x st => match x with
    | .ref n => match st[n]? with
      | some (.lst ws) => .ok (.ref st.length) (st ++ [.lst ws.reverse])
      | _ => .bad
    | _ => .bad
  | .call f es, env, st => (evEs T es env st).bind fun ws st => T f ws st
  | .blt b es, env, st => (evEs T es env st).bind fun ws st => bltW b st ws
  | .isi a ts, env, st => (evE T a env st).bind fun x st => (ofO (isiW st x ts) st).bind fun k st => .ok (.bl k) st
  | .mth m o es, env, st => (evE T o env st).bind fun x st => if isLstW st x = true then (evEs T es env st).bind fun ws st => mthW m st x ws else .bad
  | .comp t it c e, env, st => (evI T it env st).bind fun wk st =>
    (cmpL wk.keep t (fun env st => (evC T c env st).bind fun k st => if k = true then (evE T e env st).bind fun y st => .ok (some y) st else .ok none st) (wipeE env t.slots) wk.items [] st).bind fun ws st =>
      .ok (.ref st.length) (st ++ [.lst ws])
  | .join a e, env, st => (evE T a env st).bind fun x st => match x with
    | .str z => (evE T e env st).bind fun y st => joinW st z y
    | _ => .bad
noncomputable def evEs (T : Fns) : Exs → Env → Store → Res (List W)
  | .nil, _, st => .ok [] st
  | .cons e es, env, st => (evE T e env st).bind fun w st => (evEs T es env st).bind fun ws st => .ok (w :: ws) st
/-- a part of a slice -/
noncomputable def evP (T : Fns) : Ox → Env → Store → Res (Option Int)
  | .no, _, st => .ok none st
  | .yes e, env, st => (evE T e env st).bind fun w st => match w with
    | .int i => .ok (some i) st
    | _ => .bad
/-- a comprehension's test -/
noncomputable def evC (T : Fns) : Ox → Env → Store → Res Bool
  | .no, _, st => .ok true st
  | .yes e, env, st => (evE T e env st).bind fun w st => ofO (truW st w) st
noncomputable def evI (T : Fns) : It → Env → Store → Res Walkd
  | .seq e, env, st => (evE T e env st).bind fun x st => ofO (seqK st x) st
  | .rng1 b, env, st => (evE T b env st).bind fun y st => match y with
    | .int j => if rngOk j then .ok ⟨rangeW 0 j, fun _ => True⟩ st else .bad
    | _ => .bad
  | .rng2 a b, env, st => (evE T a env st).bind fun x st => (evE T b env st).bind fun y st => match x, y with
    | .int i, .int j => if rngOk i ∧ rngOk j then .ok ⟨rangeW i j, fun _ => True⟩ st else .bad
    | _, _ => .bad
  | .enum e, env, st => (evE T e env st).bind fun x st => if isRefW x = true then (ofO (seqK st x) st).bind fun wk st => .ok ⟨enumL 0 wk.items, wk.keep⟩ st else .bad
  | .zip a b, env, st => (evE T a env st).bind fun x st => (evE T b env st).bind fun y st =>
    if (isRefW x = true ∧ isRefW y = true) ∨ (isTupW x = true ∧ isTupW y = true) then (ofO (seqK st x) st).bind fun wx st => (ofO (seqK st y) st).bind fun wy st => .ok ⟨zipL wx.items wy.items, fun st => wx.keep st ∧ wy.keep st⟩ st else .bad
end
/-- an expression's truth -/
noncomputable def evT (T : Fns) (e : Ex) (env : Env) (st : Store) : Res Bool := (evE T e env st).bind fun x st => ofO (truW st x) st

mutual
noncomputable def evS (T : Fns) : S → Env → Store → SR
  | .set i e, env, st => (evE T e env st).then env fun w st => .nx (env.set i (some w)) st
  | .unp is e, env, st => (evE T e env st).then env fun w st => match w with
    | .tup ws => match setAll is ws env with
      | some env' => .nx env' st
      | none => .bad
    | _ => .bad
  | .sub o i e, env, st => (evE T e env st).then env fun v st => (evE T o env st).then env fun x st => (evE T i env st).then env fun k st => match setIxW st x k v with
    | some st' => .nx env st'
    | none => .bad
  | .aug i op e, env, st => (evE T (.var i) env st).then env fun x st => (evE T e env st).then env fun y st => (augW op st x y).then env fun z st => .nx (env.set i (some z)) st
  | .augS o i op e, env, st => (evE T o env st).then env fun x st => (evE T i env st).then env fun k st => (if isLstW st x = true then ofO (idxW st x k) st else .bad).then env fun v st => (evE T e env st).then env fun y st => (augW op st v y).then env fun z st =>
    match setIxW st x k z with
    | some st' => .nx env st'
    | none => .bad
  | .ex e, env, st => (evE T e env st).then env fun _ st => .nx env st
  | .ret e, env, st => (evE T e env st).then env fun w st => .rt w st
  | .retN, _, st => .rt .non st
  | .ite c a b, env, st => (evT T c env st).then env fun k st => if k = true then evSs T a env st else evSs T b env st
  | .whl c b, env, st => whlL (evT T c) (fun env st => evSs T b env st) BIG env st
  | .for_ t it b, env, st => (evI T it env st).then env fun wk st => forL wk.keep t (fun env st => evSs T b env st) wk.items env st
  | .brk, env, st => .bk env st
  | .cnt, env, st => .ct env st
  | .raise c, env, st => .ex (.own c) env st
noncomputable def evSs (T : Fns) : Ss → Env → Store → SR
  | .nil, env, st => .nx env st
  | .cons s ss, env, st => (evS T s env st).seq fun env st => evSs T ss env st
end

/-- a def: how many parameters, how many names, the body -/
structure Fd where
  ps : Nat
  ns : Nat
  body : Ss
def SR.out : SR → Res W
  | .nx _ st => .ok .non st
  | .rt w st => .ok w st
  | .ex x _ st => .exn x st
  | _ => .bad
@[simp] theorem SR.out_nx (env : Env) (st : Store) : (SR.nx env st).out = .ok .non st := rfl
@[simp] theorem SR.out_rt (w : W) (st : Store) : (SR.rt w st).out = .ok w st := rfl
@[simp] theorem SR.out_ex (x : Xc) (env : Env) (st : Store) : (SR.ex x env st).out = .exn x st := rfl
@[simp] theorem SR.out_bad : SR.bad.out = .bad := rfl
def startE (n : Nat) (ws : List W) : Env := ws.map some ++ List.replicate (n - ws.length) none
noncomputable def run (tb : Nat → Option Fd) : Nat → Fns
  | 0, _, _, _ => .bad
  | n + 1, f, ws, st => match tb f with
    | some d => if ws.length = d.ps then (evSs (run tb n) d.body (startE d.ns ws) st).out else .bad
    | none => .bad
end EV

/-! EV2: how the evaluator's values and store lie in the layer's heap; what a reading by the evaluator is. -/
namespace EV
open PySem L2

/-- a tuple that never changes -/
def TupAt (K : PySem.W.Frag) (H : Hp) (a : Addr) (xs : List V) : Prop :=
  H a = some (.tup xs) ∨
    ∃ (o : Obj) (its : Array Value) (n : Nat), K.lookup a = some o ∧ o.cls = .type "tuple" ∧ o.data = .seq its n ∧ its.size ≤ sizeLine ∧ Vals xs its.toList
theorem TupAt.sq {K : PySem.W.Frag} {H : Hp} {a : Addr} {xs : List V} (h : TupAt K H a xs) : SqT K H a xs := by
  rcases h with h | h
  · exact .inl (.inl h)
  · exact .inr h

/-- a list that is never written -/
def FlsAt (K : PySem.W.Frag) (H : Hp) (a : Addr) (xs : List V) : Prop :=
  (∃ o, H a = some (.frz o (.lst xs))) ∨
    ∃ (o : Obj) (its : Array Value) (n : Nat), K.lookup a = some o ∧ o.cls = .type "list" ∧ o.dict = none ∧ o.data = .seq its n ∧ its.size ≤ sizeLine ∧ Vals xs its.toList
theorem FlsAt.sq {K : PySem.W.Frag} {H : Hp} {a : Addr} {xs : List V} (h : FlsAt K H a xs) : SqL K H a xs := by
  rcases h with ⟨o, h⟩ | h
  · exact .inl (.inr ⟨o, h⟩)
  · exact .inr h
mutual
def Rep (K : PySem.W.Frag) (μ : List Addr) (H : Hp) : W → V → Prop
  | .non, v => v = .non
  | .bl b, v => v = .bl b
  | .int i, v => v = .int i
  | .str x, v => v = .str x ∧ x.length ≤ sizeLine ∧ PyData.strOk x = true
  | .ty n, v => v = .ty n
  | .ref n, v => ∃ a, v = .ref a ∧ μ[n]? = some a
  | .tup ws, v => ∃ a xs, v = .ref a ∧ TupAt K H a xs ∧ Reps K μ H ws xs ∧ ws.length ≤ sizeLine
  | .fls ws, v => ∃ a xs, v = .ref a ∧ FlsAt K H a xs ∧ Reps K μ H ws xs ∧ ws.length ≤ sizeLine
def Reps (K : PySem.W.Frag) (μ : List Addr) (H : Hp) : List W → List V → Prop
  | [], xs => xs = []
  | w :: ws, xs => ∃ v r, xs = v :: r ∧ Rep K μ H w v ∧ Reps K μ H ws r
end

/-- what stands at a place -/
def ObAt (K : PySem.W.Frag) (μ : List Addr) (H : Hp) (a : Addr) : Ob → Prop
  | .lst ws => ∃ xs, H a = some (.lst xs) ∧ Reps K μ H ws xs ∧ ws.length ≤ sizeLine
structure RelSt (K : PySem.W.Frag) (μ : List Addr) (H : Hp) (st : Store) : Prop where
  len : μ.length = st.length
  nd : μ.Nodup
  at_ : ∀ (n : Nat) (o : Ob), st[n]? = some o → ∃ a, μ[n]? = some a ∧ ObAt K μ H a o
def RelE (K : PySem.W.Frag) (μ : List Addr) (H : Hp) (env : Env) (σ : L2.St) : Prop :=
  env.length = σ.length ∧ ∀ (i : Nat) (w : W), env[i]? = some (some w) → ∃ v, σ[i]? = some (some v) ∧ Rep K μ H w v

/-- from one heap to a later one: places are added at fresh addresses; what isn't a place stays -/
structure Step (μ : List Addr) (H : Hp) (μ' : List Addr) (H' : Hp) : Prop where
  ext : ∃ t, μ' = μ ++ t ∧ ∀ a ∈ t, H a = none
  frame : ∀ a o, H a = some o → a ∉ μ → H' a = some o
  live : ∀ a o, H a = some o → ∃ o', H' a = some o'
  tups : ∀ a xs, H a = some (.tup xs) → H' a = some (.tup xs)
  frzs : ∀ a o u, H a = some (.frz o u) → H' a = some (.frz o u)
theorem Step.refl (μ : List Addr) (H : Hp) : Step μ H μ H := ⟨⟨[], by simp, by simp⟩, fun _ _ h _ => h, fun _ o h => ⟨o, h⟩, fun _ _ h => h, fun _ _ _ h => h⟩
theorem Step.trans {μ μ1 μ2 : List Addr} {H H1 H2 : Hp} (a : Step μ H μ1 H1) (b : Step μ1 H1 μ2 H2) : Step μ H μ2 H2 := by
  obtain ⟨t, e1, f1⟩ := a.ext
  obtain ⟨u, e2, f2⟩ := b.ext
  refine ⟨⟨t ++ u, by rw [e2, e1, List.append_assoc], fun x hx => ?_⟩, fun x o h hx => ?_, fun x o h => ?_, fun x xs h => b.tups x xs (a.tups x xs h), fun x o u h => b.frzs x o u (a.frzs x o u h)⟩
  · rcases List.mem_append.mp hx with hx | hx
    · exact f1 x hx
    · cases q : H x with
      | none => rfl
      | some o =>
        obtain ⟨o', h'⟩ := a.live x o q
        rw [f2 x hx] at h'; cases h'
  · refine b.frame x o (a.frame x o h hx) ?_
    rw [e1]
    intro hm
    rcases List.mem_append.mp hm with hm | hm
    · exact hx hm
    · rw [f1 x hm] at h; cases h
  · obtain ⟨o', h'⟩ := a.live x o h
    exact b.live x o' h'
theorem Step.at_ {μ μ' : List Addr} {H H' : Hp} (s : Step μ H μ' H') {n : Nat} {a : Addr} (h : μ[n]? = some a) : μ'[n]? = some a := by
  obtain ⟨t, e, _⟩ := s.ext
  rw [e, List.getElem?_append_left (List.getElem?_eq_some_iff.mp h).1]
  exact h
theorem TupAt.step {K : PySem.W.Frag} {μ μ' : List Addr} {H H' : Hp} (s : Step μ H μ' H') {a : Addr} {xs : List V} (h : TupAt K H a xs) : TupAt K H' a xs := by
  rcases h with h | h
  · exact .inl (s.tups a xs h)
  · exact .inr h
/-- what a value leans on stays -/
structure Keeps (μ : List Addr) (H : Hp) (μ' : List Addr) (H' : Hp) : Prop where
  at_ : ∀ (n : Nat) (a : Addr), μ[n]? = some a → μ'[n]? = some a
  tups : ∀ a xs, H a = some (.tup xs) → H' a = some (.tup xs)
  frzs : ∀ a o u, H a = some (.frz o u) → H' a = some (.frz o u)
theorem Step.keeps {μ μ' : List Addr} {H H' : Hp} (s : Step μ H μ' H') : Keeps μ H μ' H' := ⟨fun _ _ h => s.at_ h, s.tups, s.frzs⟩
theorem FlsAt.mono {K : PySem.W.Frag} {μ μ' : List Addr} {H H' : Hp} (s : Keeps μ H μ' H') {a : Addr} {xs : List V} (h : FlsAt K H a xs) : FlsAt K H' a xs := by
  rcases h with ⟨o, h⟩ | h
  · exact .inl ⟨o, s.frzs a o _ h⟩
  · exact .inr h
theorem TupAt.mono {K : PySem.W.Frag} {μ μ' : List Addr} {H H' : Hp} (s : Keeps μ H μ' H') {a : Addr} {xs : List V} (h : TupAt K H a xs) : TupAt K H' a xs := by
  rcases h with h | h
  · exact .inl (s.tups a xs h)
  · exact .inr h
mutual
theorem Rep.mono {K : PySem.W.Frag} {μ μ' : List Addr} {H H' : Hp} (s : Keeps μ H μ' H') : ∀ (w : W) {v : V}, Rep K μ H w v → Rep K μ' H' w v
  | .non, _, h => h
  | .bl _, _, h => h
  | .int _, _, h => h
  | .str _, _, h => h
  | .ty _, _, h => h
  | .ref n, _, h => by
    obtain ⟨a, e, q⟩ := (show ∃ a, _ = V.ref a ∧ μ[n]? = some a from h)
    exact ⟨a, e, s.at_ _ _ q⟩
  | .tup ws, _, h => by
    obtain ⟨a, xs, e, t, r, z⟩ := (show ∃ a xs, _ = V.ref a ∧ TupAt K H a xs ∧ Reps K μ H ws xs ∧ _ from h)
    exact ⟨a, xs, e, t.mono s, Reps.mono s ws r, z⟩
  | .fls ws, _, h => by
    obtain ⟨a, xs, e, t, r, z⟩ := (show ∃ a xs, _ = V.ref a ∧ FlsAt K H a xs ∧ Reps K μ H ws xs ∧ _ from h)
    exact ⟨a, xs, e, t.mono s, Reps.mono s ws r, z⟩
theorem Reps.mono {K : PySem.W.Frag} {μ μ' : List Addr} {H H' : Hp} (s : Keeps μ H μ' H') : ∀ (ws : List W) {xs : List V}, Reps K μ H ws xs → Reps K μ' H' ws xs
  | [], _, h => h
  | w :: ws, _, h => by
    obtain ⟨v, r, e, a, b⟩ := (show ∃ v r, _ = v :: r ∧ Rep K μ H w v ∧ Reps K μ H ws r from h)
    exact ⟨v, r, e, Rep.mono s w a, Reps.mono s ws b⟩
end
theorem Rep.step {K : PySem.W.Frag} {μ μ' : List Addr} {H H' : Hp} {w : W} {v : V} (h : Rep K μ H w v) (s : Step μ H μ' H') : Rep K μ' H' w v := Rep.mono s.keeps w h
theorem Reps.step {K : PySem.W.Frag} {μ μ' : List Addr} {H H' : Hp} {ws : List W} {xs : List V} (h : Reps K μ H ws xs) (s : Step μ H μ' H') : Reps K μ' H' ws xs := Reps.mono s.keeps ws h
theorem Reps.len {K : PySem.W.Frag} {μ : List Addr} {H : Hp} : ∀ {ws : List W} {xs : List V}, Reps K μ H ws xs → ws.length = xs.length
  | [], xs, h => by
    have e : xs = [] := h
    subst e; rfl
  | w :: ws, xs, h => by
    obtain ⟨v, r, e, a, b⟩ := (show ∃ v r, xs = v :: r ∧ Rep K μ H w v ∧ Reps K μ H ws r from h)
    subst e
    rw [List.length_cons, List.length_cons, Reps.len b]
theorem Reps.nil' {K : PySem.W.Frag} {μ : List Addr} {H : Hp} : Reps K μ H [] [] := rfl
theorem Reps.cons' {K : PySem.W.Frag} {μ : List Addr} {H : Hp} {w : W} {ws : List W} {v : V} {xs : List V} (a : Rep K μ H w v) (b : Reps K μ H ws xs) : Reps K μ H (w :: ws) (v :: xs) := ⟨v, xs, rfl, a, b⟩
theorem Reps.append {K : PySem.W.Frag} {μ : List Addr} {H : Hp} : ∀ {ws us : List W} {xs ys : List V}, Reps K μ H ws xs → Reps K μ H us ys → Reps K μ H (ws ++ us) (xs ++ ys)
  | [], us, xs, ys, h, q => by
    have e : xs = [] := h
    subst e; exact q
  | w :: ws, us, xs, ys, h, q => by
    obtain ⟨v, r, e, a, b⟩ := (show ∃ v r, xs = v :: r ∧ Rep K μ H w v ∧ Reps K μ H ws r from h)
    subst e
    exact Reps.cons' a (Reps.append b q)
theorem Reps.get {K : PySem.W.Frag} {μ : List Addr} {H : Hp} : ∀ {ws : List W} {xs : List V} {i : Nat} {w : W}, Reps K μ H ws xs → ws[i]? = some w → ∃ v, xs[i]? = some v ∧ Rep K μ H w v
  | [], _, _, _, _, e => by simp at e
  | u :: ws, xs, i, w, h, e => by
    obtain ⟨v, r, e1, a, b⟩ := (show ∃ v r, xs = v :: r ∧ Rep K μ H u v ∧ Reps K μ H ws r from h)
    subst e1
    cases i with
    | zero =>
      simp at e; subst e
      exact ⟨v, rfl, a⟩
    | succ i =>
      obtain ⟨v', h1, h2⟩ := Reps.get b (by simpa using e)
      exact ⟨v', by simpa using h1, h2⟩
theorem Reps.set {K : PySem.W.Frag} {μ : List Addr} {H : Hp} {w : W} {v : V} (q : Rep K μ H w v) : ∀ {ws : List W} {xs : List V} (i : Nat), Reps K μ H ws xs → Reps K μ H (ws.set i w) (xs.set i v)
  | [], xs, i, h => by
    have e : xs = [] := h
    subst e; exact rfl
  | u :: ws, xs, i, h => by
    obtain ⟨v', r, e1, a, b⟩ := (show ∃ v r, xs = v :: r ∧ Rep K μ H u v ∧ Reps K μ H ws r from h)
    subst e1
    cases i with
    | zero => exact Reps.cons' q b
    | succ i => exact Reps.cons' a (Reps.set q i b)
theorem Reps.take {K : PySem.W.Frag} {μ : List Addr} {H : Hp} : ∀ {ws : List W} {xs : List V} (n : Nat), Reps K μ H ws xs → Reps K μ H (ws.take n) (xs.take n)
  | _, _, 0, _ => rfl
  | [], xs, n + 1, h => by
    have e : xs = [] := h
    subst e; exact rfl
  | u :: ws, xs, n + 1, h => by
    obtain ⟨v', r, e1, a, b⟩ := (show ∃ v r, xs = v :: r ∧ Rep K μ H u v ∧ Reps K μ H ws r from h)
    subst e1
    exact Reps.cons' a (Reps.take n b)
theorem Reps.drop {K : PySem.W.Frag} {μ : List Addr} {H : Hp} : ∀ {ws : List W} {xs : List V} (n : Nat), Reps K μ H ws xs → Reps K μ H (ws.drop n) (xs.drop n)
  | _, _, 0, h => h
  | [], xs, n + 1, h => by
    have e : xs = [] := h
    subst e; exact rfl
  | u :: ws, xs, n + 1, h => by
    obtain ⟨v', r, e1, a, b⟩ := (show ∃ v r, xs = v :: r ∧ Rep K μ H u v ∧ Reps K μ H ws r from h)
    subst e1
    exact Reps.drop n b
theorem Reps.reverse {K : PySem.W.Frag} {μ : List Addr} {H : Hp} : ∀ {ws : List W} {xs : List V}, Reps K μ H ws xs → Reps K μ H ws.reverse xs.reverse
  | [], xs, h => by
    have e : xs = [] := h
    subst e; exact rfl
  | u :: ws, xs, h => by
    obtain ⟨v', r, e1, a, b⟩ := (show ∃ v r, xs = v :: r ∧ Rep K μ H u v ∧ Reps K μ H ws r from h)
    subst e1
    rw [List.reverse_cons, List.reverse_cons]
    exact Reps.append (Reps.reverse b) (Reps.cons' a Reps.nil')
theorem Reps.dropLast {K : PySem.W.Frag} {μ : List Addr} {H : Hp} {ws : List W} {xs : List V} (h : Reps K μ H ws xs) : Reps K μ H ws.dropLast xs.dropLast := by
  rw [List.dropLast_eq_take, List.dropLast_eq_take, h.len]
  exact h.take _
theorem Reps.asInts {K : PySem.W.Frag} {μ : List Addr} {H : Hp} : ∀ {ws : List W} {xs : List V} {ns : List Int}, Reps K μ H ws xs → intsW ws = some ns → xs = ns.map V.int
  | [], xs, ns, h, e => by
    have e1 : xs = [] := h
    subst e1
    simp only [intsW, Option.some.injEq] at e
    subst e; rfl
  | u :: ws, xs, ns, h, e => by
    obtain ⟨v', r, e1, a, b⟩ := (show ∃ v r, xs = v :: r ∧ Rep K μ H u v ∧ Reps K μ H ws r from h)
    subst e1
    cases u with
    | int i =>
      have e2 : v' = .int i := a
      subst e2
      simp only [intsW] at e
      cases q : intsW ws with
      | none => rw [q] at e; cases e
      | some ms =>
        rw [q] at e
        simp only [Option.some.injEq] at e
        subst e
        rw [Reps.asInts b q]; rfl
    | _ => simp [intsW] at e
theorem Reps.asStrs {K : PySem.W.Frag} {μ : List Addr} {H : Hp} : ∀ {ws : List W} {xs : List V} {ns : List Str}, Reps K μ H ws xs → strsW ws = some ns → xs = ns.map V.str
  | [], xs, ns, h, e => by
    have e1 : xs = [] := h
    subst e1
    simp only [strsW, Option.some.injEq] at e
    subst e; rfl
  | u :: ws, xs, ns, h, e => by
    obtain ⟨v', r, e1, a, b⟩ := (show ∃ v r, xs = v :: r ∧ Rep K μ H u v ∧ Reps K μ H ws r from h)
    subst e1
    cases u with
    | str i =>
      have e2 : v' = .str i := a.1
      subst e2
      simp only [strsW] at e
      cases q : strsW ws with
      | none => rw [q] at e; cases e
      | some ms =>
        rw [q] at e
        simp only [Option.some.injEq] at e
        subst e
        rw [Reps.asStrs b q]; rfl
    | _ => simp [strsW] at e
theorem Reps.asBools {K : PySem.W.Frag} {μ : List Addr} {H : Hp} : ∀ {ws : List W} {xs : List V} {ns : List Bool}, Reps K μ H ws xs → boolsW ws = some ns → xs = ns.map V.bl
  | [], xs, ns, h, e => by
    have e1 : xs = [] := h
    subst e1
    simp only [boolsW, Option.some.injEq] at e
    subst e; rfl
  | u :: ws, xs, ns, h, e => by
    obtain ⟨v', r, e1, a, b⟩ := (show ∃ v r, xs = v :: r ∧ Rep K μ H u v ∧ Reps K μ H ws r from h)
    subst e1
    cases u with
    | bl i =>
      have e2 : v' = .bl i := a
      subst e2
      simp only [boolsW] at e
      cases q : boolsW ws with
      | none => rw [q] at e; cases e
      | some ms =>
        rw [q] at e
        simp only [Option.some.injEq] at e
        subst e
        rw [Reps.asBools b q]; rfl
    | _ => simp [boolsW] at e
theorem RelE.step {K : PySem.W.Frag} {μ μ' : List Addr} {H H' : Hp} {env : Env} {σ : L2.St} (h : RelE K μ H env σ) (s : Step μ H μ' H') : RelE K μ' H' env σ :=
  ⟨h.1, fun i w e => let ⟨v, a, b⟩ := h.2 i w e; ⟨v, a, b.step s⟩⟩
theorem RelE.set {K : PySem.W.Frag} {μ : List Addr} {H : Hp} {env : Env} {σ : L2.St} {w : W} {v : V} (h : RelE K μ H env σ) (i : Nat) (r : Rep K μ H w v) : RelE K μ H (env.set i (some w)) (σ.set i (some v)) := by
  refine ⟨by simp [h.1], fun j u e => ?_⟩
  by_cases hj : j = i
  · subst hj
    have hl : j < env.length := by
      have := (List.getElem?_eq_some_iff.mp e).1
      simpa using this
    rw [List.getElem?_set_self hl] at e
    cases e
    exact ⟨v, List.getElem?_set_self (by rw [← h.1]; exact hl), r⟩
  · rw [List.getElem?_set_ne (Ne.symm hj)] at e
    obtain ⟨v', a, b⟩ := h.2 j u e
    exact ⟨v', by rw [List.getElem?_set_ne (Ne.symm hj)]; exact a, b⟩
theorem RelE.wipe1 {K : PySem.W.Frag} {μ : List Addr} {H : Hp} {env : Env} {σ : L2.St} (h : RelE K μ H env σ) (i : Nat) : RelE K μ H (env.set i none) (σ.set i none) := by
  refine ⟨by simp [h.1], fun j u e => ?_⟩
  by_cases hj : j = i
  · subst hj
    have hl : j < env.length := by
      have := (List.getElem?_eq_some_iff.mp e).1
      simpa using this
    rw [List.getElem?_set_self hl] at e
    cases e
  · rw [List.getElem?_set_ne (Ne.symm hj)] at e
    obtain ⟨v', a, b⟩ := h.2 j u e
    exact ⟨v', by rw [List.getElem?_set_ne (Ne.symm hj)]; exact a, b⟩
theorem RelE.wipe {K : PySem.W.Frag} {μ : List Addr} {H : Hp} {env : Env} {σ : L2.St} (h : RelE K μ H env σ) : ∀ is : List Nat, RelE K μ H (wipeE env is) (L2.wipe σ is)
  | [] => h
  | i :: is => (RelE.wipe h is).wipe1 i

theorem RelSt.ntup {K : PySem.W.Frag} {μ : List Addr} {H : Hp} {st : Store} (h : RelSt K μ H st) : ∀ a ∈ μ, ∀ xs, H a ≠ some (.tup xs) := by
  intro a ha xs e
  obtain ⟨n, hn, q⟩ := List.mem_iff_getElem.mp ha
  have hn' : n < st.length := by rw [← h.len]; exact hn
  obtain ⟨b, hb, o⟩ := h.at_ n st[n] (by simp [hn'])
  have e2 : a = b := by
    rw [List.getElem?_eq_getElem hn, q] at hb
    exact Option.some.inj hb
  subst e2
  cases hc : st[n] with
  | lst ws =>
    rw [hc] at o
    obtain ⟨ys, e3, _⟩ := o
    rw [e] at e3; cases e3
theorem RelSt.has {K : PySem.W.Frag} {μ : List Addr} {H : Hp} {st : Store} (h : RelSt K μ H st) : ∀ a ∈ μ, ∃ o, H a = some o := by
  intro a ha
  obtain ⟨n, hn, q⟩ := List.mem_iff_getElem.mp ha
  have hn' : n < st.length := by rw [← h.len]; exact hn
  obtain ⟨b, hb, o⟩ := h.at_ n st[n] (by simp [hn'])
  have e2 : a = b := by
    rw [List.getElem?_eq_getElem hn, q] at hb
    exact Option.some.inj hb
  subst e2
  cases hc : st[n] with
  | lst ws =>
    rw [hc] at o
    obtain ⟨ys, e3, _⟩ := o
    exact ⟨_, e3⟩
theorem ObAt.mono {K : PySem.W.Frag} {μ μ' : List Addr} {H H' : Hp} {a : Addr} {o : Ob} (s : Keeps μ H μ' H') (e : H' a = H a) (h : ObAt K μ H a o) : ObAt K μ' H' a o := by
  cases o with
  | lst ws =>
    obtain ⟨xs, q, r, z⟩ := h
    exact ⟨xs, e.trans q, r.mono s, z⟩

/-! ### new objects, stores -/
section
variable {K : PySem.W.Frag} {μ : List Addr} {H : Hp} {st : Store} {p : Addr}
/-- a new tuple, not a place -/
theorem Step.side (hp : H p = none) (o : HO) : Step μ H μ (upd H p o) := by
  refine ⟨⟨[], by simp, by simp⟩, fun a u e _ => ?_, fun a u e => ⟨u, ?_⟩, fun a xs e => ?_, fun a o u e => ?_⟩ <;> (rw [upd_ne (ne_of_none e hp)]; exact e)
theorem RelSt.side (h : RelSt K μ H st) (hp : H p = none) (o : HO) : RelSt K μ (upd H p o) st := by
  refine ⟨h.len, h.nd, fun n ob e => ?_⟩
  obtain ⟨a, ha, q⟩ := h.at_ n ob e
  refine ⟨a, ha, q.mono (Step.side hp o).keeps ?_⟩
  obtain ⟨u, hu⟩ := h.has a (List.mem_of_getElem? ha)
  rw [upd_ne (ne_of_none hu hp)]
theorem keeps_ext (p : Addr) (H : Hp) : Keeps μ H (μ ++ [p]) H := ⟨fun n a e => by rw [List.getElem?_append_left (List.getElem?_eq_some_iff.mp e).1]; exact e, fun _ _ e => e, fun _ _ _ e => e⟩
/-- a place that lies already in the heap, beside the places -/
theorem RelSt.add (h : RelSt K μ H st) {o : Ob} (hn : p ∉ μ) (q : ObAt K (μ ++ [p]) H p o) : RelSt K (μ ++ [p]) H (st ++ [o]) := by
  refine ⟨by simp [h.len], ?_, fun n ob e => ?_⟩
  · rw [List.nodup_append]
    refine ⟨h.nd, by simp, fun a ha b hb e => ?_⟩
    have e2 : b = p := by simpa using hb
    subst e e2
    exact hn ha
  · by_cases hlt : n < st.length
    · rw [List.getElem?_append_left hlt] at e
      obtain ⟨a, ha, r⟩ := h.at_ n ob e
      exact ⟨a, (keeps_ext p H).at_ n a ha, r.mono (keeps_ext p H) rfl⟩
    · have e2 : n = st.length := by
        have := (List.getElem?_eq_some_iff.mp e).1
        simp at this; omega
      subst e2
      have e3 : ob = o := by simpa using e.symm
      subst e3
      exact ⟨p, by rw [← h.len]; simp, q⟩
/-- .. seen from an earlier heap, where it was free -/
theorem Step.addTo {μ1 : List Addr} {H1 : Hp} (s : Step μ H μ1 H1) (hp : H p = none) : Step μ H (μ1 ++ [p]) H1 := by
  obtain ⟨t, e, f⟩ := s.ext
  refine ⟨⟨t ++ [p], by rw [e, List.append_assoc], fun a ha => ?_⟩, s.frame, s.live, s.tups, s.frzs⟩
  rcases List.mem_append.mp ha with ha | ha
  · exact f a ha
  · have e2 : a = p := by simpa using ha
    rw [e2]; exact hp
theorem RelSt.nin (h : RelSt K μ H st) (hp : H p = none) : p ∉ μ := fun hm => by
  obtain ⟨o, e⟩ := h.has p hm
  rw [hp] at e; cases e
/-- a new list -/
theorem RelSt.newL (h : RelSt K μ H st) (hp : H p = none) {ws : List W} {xs : List V} (r : Reps K μ H ws xs) (hz : ws.length ≤ sizeLine) :
    RelSt K (μ ++ [p]) (upd H p (.lst xs)) (st ++ [.lst ws]) ∧ Step μ H (μ ++ [p]) (upd H p (.lst xs)) ∧ Rep K (μ ++ [p]) (upd H p (.lst xs)) (.ref st.length) (.ref p) := by
  have s := Step.side (μ := μ) hp (.lst xs)
  have s2 := s.addTo hp
  refine ⟨(h.side hp (.lst xs)).add (h.nin hp) ⟨xs, upd_same, r.step s2, hz⟩, s2, p, rfl, ?_⟩
  rw [← h.len]; simp
/-- a new tuple -/
theorem newT (hp : H p = none) {ws : List W} {xs : List V} (r : Reps K μ H ws xs) (hz : ws.length ≤ sizeLine) : Rep K μ (upd H p (.tup xs)) (.tup ws) (.ref p) :=
  ⟨p, xs, rfl, .inl upd_same, r.step (Step.side hp _), hz⟩
/-- a list is written -/
theorem RelSt.wr (h : RelSt K μ H st) {n : Nat} {a : Addr} (ha : μ[n]? = some a) {ws0 ws : List W} {xs : List V} (h0 : st[n]? = some (.lst ws0)) (r : Reps K μ H ws xs) (hz : ws.length ≤ sizeLine) :
    RelSt K μ (upd H a (.lst xs)) (st.set n (.lst ws)) ∧ Step μ H μ (upd H a (.lst xs)) := by
  obtain ⟨a', ha', q⟩ := h.at_ n _ h0
  rw [ha] at ha'
  cases ha'
  obtain ⟨xs0, e0, _, _⟩ := q
  have hm : a ∈ μ := List.mem_of_getElem? ha
  have s : Step μ H μ (upd H a (.lst xs)) := by
    refine ⟨⟨[], by simp, by simp⟩, fun b u e hb => ?_, fun b u e => ?_, fun b ys e => ?_, fun b o u e => ?_⟩
    · rw [upd_ne (fun z => hb (by rw [z]; exact hm))]; exact e
    · by_cases hb : b = a
      · subst hb; exact ⟨_, upd_same⟩
      · exact ⟨u, by rw [upd_ne hb]; exact e⟩
    · have hb : b ≠ a := fun z => by subst z; rw [e0] at e; cases e
      rw [upd_ne hb]; exact e
    · have hb : b ≠ a := fun z => by subst z; rw [e0] at e; cases e
      rw [upd_ne hb]; exact e
  refine ⟨⟨by simp [h.len], h.nd, fun m ob e => ?_⟩, s⟩
  by_cases hm' : m = n
  · subst hm'
    have hl : m < st.length := (List.getElem?_eq_some_iff.mp h0).1
    rw [List.getElem?_set_self hl] at e
    cases e
    exact ⟨a, ha, xs, upd_same, r.step s, hz⟩
  · rw [List.getElem?_set_ne (Ne.symm hm')] at e
    obtain ⟨b, hb, q⟩ := h.at_ m ob e
    refine ⟨b, hb, q.mono s.keeps ?_⟩
    have hne : b ≠ a := fun z => by
      subst z
      obtain ⟨h1, e1⟩ := List.getElem?_eq_some_iff.mp hb
      obtain ⟨h2, e2⟩ := List.getElem?_eq_some_iff.mp ha
      exact hm' ((List.getElem_inj h.nd).mp (e1.trans e2.symm))
    rw [upd_ne hne]
end

/-! ### readings by the evaluator -/
/-- the exception's class and what is told of it behind -/
def RepX (mg : Str → Option Value) (xn : Nat → Option Str) (x : Xc) (cls : Value) (d : Option Addr) : Prop := match x with
  | .own c => ∃ nm, xn c = some nm ∧ mg nm = some cls ∧ d = none

/-- the fixed things -/
structure Gm where
  K : PySem.W.Frag
  mg : Str → Option Value
  xn : Nat → Option Str

def PostE (G : Gm) (μ : List Addr) (H : Hp) (σ : L2.St) (Wx : WX) {α β : Type} (R : List Addr → Hp → α → β → Prop) (r : Res α) (Q : β → Hp → Prop) : Prop := match r with
  | .ok w st' => ∀ μ' v H', Step μ H μ' H' → RelSt G.K μ' H' st' → R μ' H' w v → Q v H'
  | .exn x st' => ∀ μ' H' cls d, Step μ H μ' H' → RelSt G.K μ' H' st' → RepX G.mg G.xn x cls d → Wx cls d σ H'
  | .bad => False
/-- an evaluation as a reading -/
def tR (G : Gm) (Wx : WX) {α β : Type} (R : List Addr → Hp → α → β → Prop) (r : Env → Store → Res α) : L2.St → Hp → (β → Hp → Prop) → Prop := fun σ H Q =>
  ∃ μ env st, RelE G.K μ H env σ ∧ RelSt G.K μ H st ∧ PostE G μ H σ Wx R (r env st) Q
def RW (G : Gm) : List Addr → Hp → W → V → Prop := fun μ H w v => Rep G.K μ H w v
def RWs (G : Gm) : List Addr → Hp → List W → List V → Prop := fun μ H ws vs => Reps G.K μ H ws vs ∧ ws.length ≤ sizeLine
def RB : List Addr → Hp → Bool → Bool → Prop := fun _ _ a b => a = b
def RP : List Addr → Hp → Option Int → Option Int → Prop := fun _ _ a b => a = b
section
variable {G : Gm} {μ μ1 : List Addr} {H H1 : Hp} {σ : L2.St} {Wx : WX} {α β γ δ : Type} {R : List Addr → Hp → α → β → Prop} {R' : List Addr → Hp → γ → δ → Prop}
theorem PostE.trans (s : Step μ H μ1 H1) {r : Res α} {Q : β → Hp → Prop} (h : PostE G μ H σ Wx R r Q) : PostE G μ1 H1 σ Wx R r Q := by
  cases r with
  | ok w st' => exact fun μ' v H' s' rs rw => h μ' v H' (s.trans s') rs rw
  | exn x st' => exact fun μ' H' cls d s' rs rx => h μ' H' cls d (s.trans s') rs rx
  | bad => exact h
/-- first one, then the rest -/
theorem PostE.bind {m : Res α} {f : α → Store → Res γ} {Q : δ → Hp → Prop} {C : β → Hp → Prop} (h : PostE G μ H σ Wx R' (m.bind f) Q)
    (k : ∀ μ1 v H1 w st1, m = .ok w st1 → Step μ H μ1 H1 → RelSt G.K μ1 H1 st1 → R μ1 H1 w v → PostE G μ1 H1 σ Wx R' (f w st1) Q → C v H1) : PostE G μ H σ Wx R m C := by
  cases m with
  | ok w st' => exact fun μ' v H' s' rs rw => k μ' v H' w st' rfl s' rs rw (PostE.trans s' h)
  | exn x st' => exact h
  | bad => exact h
/-- .. as readings -/
theorem tR.bind {ra : Env → Store → Res α} {env : Env} {st : Store} {f : α → Store → Res γ} {Q : δ → Hp → Prop} {C : β → Hp → Prop} (he : RelE G.K μ H env σ) (hs : RelSt G.K μ H st) (h : PostE G μ H σ Wx R' ((ra env st).bind f) Q)
    (k : ∀ μ1 v H1 w st1, Step μ H μ1 H1 → RelE G.K μ1 H1 env σ → RelSt G.K μ1 H1 st1 → R μ1 H1 w v → PostE G μ1 H1 σ Wx R' (f w st1) Q → C v H1) : tR G Wx R ra σ H C :=
  ⟨μ, env, st, he, hs, h.bind fun μ1 v H1 w st1 _ s rs r q => k μ1 v H1 w st1 s (he.step s) rs r q⟩
theorem PostE.ok_here {w : α} {v : β} {st : Store} {Q : β → Hp → Prop} (h : PostE G μ H σ Wx R (.ok w st) Q) (hs : RelSt G.K μ H st) (r : R μ H w v) : Q v H := h μ v H (Step.refl μ H) hs r
end
end EV

/-! EV3: the evaluator's operations against the layer's rules by values. -/
namespace EV
open PySem PySem.Spec PyProof.Rows L2

def Bop.py : Bop → Operator
  | .add => .Add
  | .sub => .Sub
  | .mul => .Mult
  | .fdiv => .FloorDiv
  | .mod => .Mod
  | .pow => .Pow
def Cop.py : Cop → CmpOp
  | .eq => .Eq
  | .ne => .NotEq
  | .lt => .Lt
  | .le => .LtE
  | .gt => .Gt
  | .ge => .GtE
  | .inn => .In
  | .nin => .NotIn

/-- () + t is t -/
def rCat0 (K : PySem.W.Frag) : R2 := fun x y H Q => ∃ a b ys, x = .ref a ∧ y = .ref b ∧ SqT K H a [] ∧ SqT K H b ys ∧ Q (.ref b) H
theorem op_cat0 {X : Cx} : OpR X (binaryOp .Add) (rCat0 X.K) := by
  intro pins s σ H x y v u Q I rx ry h
  obtain ⟨a, b, ys, rfl, rfl, ha, hb, q⟩ := h
  cases rx
  cases ry
  obtain ⟨its, r1, ht, z1⟩ := I.tuple ha
  obtain ⟨its2, r2, ht2, z2⟩ := I.tuple hb
  have e0 : its = [] := by cases r1; rfl
  subst e0
  obtain ⟨⟨cls, dd, data, sl⟩, ho, hc, n, hd⟩ := id ht
  obtain ⟨⟨cls2, dd2, data2, sl2⟩, ho2, hc2, n2, hd2⟩ := id ht2
  simp only at hc hd hc2 hd2
  subst hc hd hc2 hd2
  exact concat_meets ⟨_, ho, rfl⟩ ⟨_, ho2, rfl⟩ noFill_tuple_add seq_tuple_add PySem.F.slot_tuple_add PySem.F.entry_tuple_add (PySem.F.args_tuple_add_2 _ _)
      (tuple_addW0 a b #[] its2.toArray n n2 dd dd2 sl sl2 (by simp)) ⟨ho, ho2, ⟨.ref b, H, I, rfl, q⟩⟩

def rBin (K : PySem.W.Frag) : Bop → R2
  | .add => fun x y H Q => (rI0 (fun i j => .int (i + j)) x y H Q ∨ (fun x y H Q => ∃ i j, x = V.str i ∧ y = V.str j ∧ i.length + j.length ≤ sizeLine ∧ Q (V.str (i ++ j)) H) x y H Q) ∨ (rCatT K x y H Q ∨ rCat0 K x y H Q) ∨ rCat x y H Q
  | .sub => rI0 fun i j => .int (i - j)
  | .mul => fun x y H Q => rI CMul (fun i j => .int (i * j)) x y H Q ∨ rI CMulW (fun i j => .int (i * j)) x y H Q
  | .fdiv => fun x y H Q => rI CDiv (fun i j => .int (i / j)) x y H Q ∨ rI CDivW (fun i j => .int (i / j)) x y H Q
  | .mod => rI (fun _ j => 0 < j) fun i j => .int (i % j)
  | .pow => rI CPow fun i j => .int (i ^ j.toNat)
theorem op_bin {X : Cx} : ∀ op : Bop, OpR X (binaryOp op.py) (rBin X.K op)
  | .add => (op_add.or op_add_str).or ((op_catT.or op_cat0).or op_cat)
  | .sub => op_sub
  | .mul => op_mul.or op_mulW
  | .fdiv => op_fdiv.or op_fdivW
  | .mod => op_mod
  | .pow => op_pow
theorem line_eq : line = sizeLine := by rw [sizeLine_eq]; rfl

section
variable {G : Gm} {μ : List Addr} {H : Hp} {st : Store} {σ : L2.St} {Wx : WX}
theorem Rep.int_ {K : PySem.W.Frag} {i : Int} {v : V} (h : Rep K μ H (.int i) v) : v = .int i := h
theorem Rep.bl_ {K : PySem.W.Frag} {i : Bool} {v : V} (h : Rep K μ H (.bl i) v) : v = .bl i := h
theorem Rep.str_ {K : PySem.W.Frag} {x : Str} {v : V} (h : Rep K μ H (.str x) v) : v = .str x ∧ x.length ≤ sizeLine ∧ PyData.strOk x = true := h
theorem Rep.non_ {K : PySem.W.Frag} {v : V} (h : Rep K μ H .non v) : v = .non := h
theorem Rep.ref_ {K : PySem.W.Frag} {n : Nat} {v : V} (h : Rep K μ H (.ref n) v) : ∃ a, v = V.ref a ∧ μ[n]? = some a := h
theorem Rep.tup_ {K : PySem.W.Frag} {ws : List W} {v : V} (h : Rep K μ H (.tup ws) v) : ∃ a xs, v = V.ref a ∧ TupAt K H a xs ∧ Reps K μ H ws xs ∧ ws.length ≤ sizeLine := h
/-- the list at a place -/
theorem RelSt.lst {K : PySem.W.Frag} (h : RelSt K μ H st) {n : Nat} {a : Addr} (ha : μ[n]? = some a) {ws : List W} (e : st[n]? = some (.lst ws)) : ∃ xs, H a = some (.lst xs) ∧ Reps K μ H ws xs ∧ ws.length ≤ sizeLine := by
  obtain ⟨b, hb, q⟩ := h.at_ n _ e
  rw [ha] at hb; cases hb
  exact q
theorem Rep.fls_ {K : PySem.W.Frag} {ws : List W} {v : V} (h : Rep K μ H (.fls ws) v) : ∃ a xs, v = V.ref a ∧ FlsAt K H a xs ∧ Reps K μ H ws xs ∧ ws.length ≤ sizeLine := h
theorem strOk_append {a b : Str} (ha : PyData.strOk a = true) (hb : PyData.strOk b = true) : PyData.strOk (a ++ b) = true := by
  unfold PyData.strOk at *
  show (a.cps ++ b.cps).all _ = true
  rw [Array.all_append, ha, hb]; rfl
theorem str_len_append (a b : Str) : (a ++ b).length = a.length + b.length := by
  show (a.cps ++ b.cps).size = _
  simp [Str.length]

theorem bin_ok (op : Bop) (hs : RelSt G.K μ H st) {x y : W} {v u : V} {Q : V → Hp → Prop} (rx : Rep G.K μ H x v) (ry : Rep G.K μ H y u) (h : PostE G μ H σ Wx (RW G) (binW op st x y) Q) : rBin G.K op v u H Q := by
  unfold binW at h
  split at h
  · rw [rx.int_, ry.int_]
    exact .inl (.inl ⟨_, _, rfl, rfl, PostE.ok_here h hs rfl⟩)
  · rename_i a b
    obtain ⟨rfl, x1, x2⟩ := rx.str_
    obtain ⟨rfl, y1, y2⟩ := ry.str_
    split at h
    · rename_i hz
      rw [line_eq] at hz
      exact .inl (.inr ⟨_, _, rfl, rfl, hz, PostE.ok_here h hs ⟨rfl, by rw [str_len_append]; exact hz, strOk_append x2 y2⟩⟩)
    · exact h.elim
  · rename_i a b
    obtain ⟨p, xs, rfl, tx, r1, z1⟩ := rx.tup_
    obtain ⟨q, ys, rfl, ty, r2, z2⟩ := ry.tup_
    split at h
    · rename_i hz
      rw [line_eq] at hz
      cases a with
      | nil =>
        have e : xs = [] := r1
        subst e
        refine .inr (.inl (.inr ⟨p, q, ys, rfl, rfl, tx.sq, ty.sq, PostE.ok_here h hs ?_⟩))
        exact ⟨q, ys, rfl, ty, by simpa using r2, by simpa using z2⟩
      | cons w ws =>
        have l1 := r1.len
        have l2 := r2.len
        refine .inr (.inl (.inl ⟨p, q, xs, ys, rfl, rfl, tx.sq, ty.sq, ?_, by omega, fun e => ?_, fun e p' hp => ?_⟩))
        · intro e; subst e; simp at l1
        · subst e
          have e2 : b = [] := by cases b with
            | nil => rfl
            | cons _ _ => simp at l2
          subst e2
          exact PostE.ok_here h hs ⟨p, xs, rfl, tx, by simpa using r1, by simpa using z1⟩
        · refine h μ _ _ (Step.side hp _) (hs.side hp _) (newT hp (r1.append r2) (by rw [List.length_append]; exact hz))
    · exact h.elim
  · rename_i n m
    obtain ⟨p, rfl, hp⟩ := rx.ref_
    obtain ⟨q, rfl, hq⟩ := ry.ref_
    split at h
    · rename_i a b e1 e2
      obtain ⟨xs, h1, r1, z1⟩ := hs.lst hp e1
      obtain ⟨ys, h2, r2, z2⟩ := hs.lst hq e2
      split at h
      · rename_i hz
        rw [line_eq] at hz
        have l1 := r1.len
        have l2 := r2.len
        refine .inr (.inr ⟨p, q, xs, ys, rfl, rfl, h1, h2, by omega, fun p' hp' => ?_⟩)
        obtain ⟨k1, k2, k3⟩ := hs.newL hp' (r1.append r2) (by simpa using hz)
        exact h _ _ _ k2 k1 k3
      · exact h.elim
    · exact h.elim
  · rw [rx.int_, ry.int_]
    exact ⟨_, _, rfl, rfl, PostE.ok_here h hs rfl⟩
  · rename_i i j
    rw [rx.int_, ry.int_]
    split at h
    · rename_i hz
      rcases hz with hz | hz | hz
      · exact .inl ⟨_, _, rfl, rfl, .inl hz, PostE.ok_here h hs rfl⟩
      · exact .inl ⟨_, _, rfl, rfl, .inr hz, PostE.ok_here h hs rfl⟩
      · exact .inr ⟨_, _, rfl, rfl, (by show _ + _ < _; omega), PostE.ok_here h hs rfl⟩
    · exact h.elim
  · rw [rx.int_, ry.int_]
    split at h
    · rename_i hz
      rcases hz with ⟨h0, hz | hz⟩
      · exact .inl ⟨_, _, rfl, rfl, ⟨h0, hz⟩, PostE.ok_here h hs rfl⟩
      · exact .inr ⟨_, _, rfl, rfl, ⟨h0, hz⟩, PostE.ok_here h hs rfl⟩
    · exact h.elim
  · rw [rx.int_, ry.int_]
    split at h
    · rename_i hz
      exact ⟨_, _, rfl, rfl, hz, PostE.ok_here h hs rfl⟩
    · exact h.elim
  · rw [rx.int_, ry.int_]
    split at h
    · rename_i hz
      exact ⟨_, _, rfl, rfl, hz, PostE.ok_here h hs rfl⟩
    · exact h.elim
  · exact h.elim

/-! ### x op= y -/
def rAug : Bop → R2
  | .add => fun x y H Q => (rI0 (fun i j => .int (i + j)) x y H Q ∨ (fun x y H Q => ∃ i j, x = V.str i ∧ y = V.str j ∧ i.length + j.length ≤ sizeLine ∧ Q (V.str (i ++ j)) H) x y H Q) ∨ rExt2 x y H Q
  | .sub => rI0 fun i j => .int (i - j)
  | .mul => rI CMul fun i j => .int (i * j)
  | .fdiv => fun x y H Q => rI CDiv (fun i j => .int (i / j)) x y H Q ∨ rI CDivW (fun i j => .int (i / j)) x y H Q
  | .mod => rI (fun _ j => 0 < j) fun i j => .int (i % j)
  | .pow => fun _ _ _ _ => False
theorem op_aug {X : Cx} : ∀ op : Bop, OpR X (inplaceOp op.py) (rAug op)
  | .add => (iop_add.or iop_add_str).or iop_ext
  | .sub => iop_sub
  | .mul => iop_mul
  | .fdiv => iop_fdiv.or iop_fdivW
  | .mod => iop_mod
  | .pow => fun _ _ _ _ _ _ _ _ _ _ _ _ h => h.elim
theorem aug_ok (op : Bop) (hs : RelSt G.K μ H st) {x y : W} {v u : V} {Q : V → Hp → Prop} (rx : Rep G.K μ H x v) (ry : Rep G.K μ H y u) (h : PostE G μ H σ Wx (RW G) (augW op st x y) Q) : rAug op v u H Q := by
  unfold augW at h
  split at h
  · rename_i n m
    obtain ⟨p, rfl, hp⟩ := rx.ref_
    obtain ⟨q, rfl, hq⟩ := ry.ref_
    split at h
    · rename_i a b e1 e2
      obtain ⟨xs, h1, r1, z1⟩ := hs.lst hp e1
      obtain ⟨ys, h2, r2, z2⟩ := hs.lst hq e2
      split at h
      · rename_i hz
        rw [line_eq] at hz
        have l1 := r1.len
        have l2 := r2.len
        refine .inr ⟨p, q, xs, ys, rfl, rfl, h1, h2, by omega, ?_⟩
        obtain ⟨k1, k2⟩ := hs.wr hp e1 (r1.append r2) (by simpa using hz)
        exact h _ _ _ k2 k1 ⟨p, rfl, hp⟩
      · exact h.elim
    · exact h.elim
  · rw [rx.int_, ry.int_]
    exact .inl (.inl ⟨_, _, rfl, rfl, PostE.ok_here h hs rfl⟩)
  · obtain ⟨rfl, x1, x2⟩ := rx.str_
    obtain ⟨rfl, y1, y2⟩ := ry.str_
    split at h
    · rename_i hz
      rw [line_eq] at hz
      exact .inl (.inr ⟨_, _, rfl, rfl, hz, PostE.ok_here h hs ⟨rfl, by rw [str_len_append]; exact hz, strOk_append x2 y2⟩⟩)
    · exact h.elim
  · rw [rx.int_, ry.int_]
    exact ⟨_, _, rfl, rfl, PostE.ok_here h hs rfl⟩
  · rw [rx.int_, ry.int_]
    split at h
    · rename_i hz
      exact ⟨_, _, rfl, rfl, hz, PostE.ok_here h hs rfl⟩
    · exact h.elim
  · rw [rx.int_, ry.int_]
    split at h
    · rename_i hz
      rcases hz.2 with hz2 | hz2
      · exact .inl ⟨_, _, rfl, rfl, ⟨hz.1, hz2⟩, PostE.ok_here h hs rfl⟩
      · exact .inr ⟨_, _, rfl, rfl, ⟨hz.1, hz2⟩, PostE.ok_here h hs rfl⟩
    · exact h.elim
  · rw [rx.int_, ry.int_]
    split at h
    · rename_i hz
      exact ⟨_, _, rfl, rfl, hz, PostE.ok_here h hs rfl⟩
    · exact h.elim
  · exact h.elim

/-! ### truth -/
theorem tru_of (hs : RelSt G.K μ H st) {x : W} {v : V} {k : Bool} (rx : Rep G.K μ H x v) (e : truW st x = some k) : TruV G.K v H k := by
  cases x with
  | non =>
    rw [rx.non_]
    simp only [truW, Option.some.injEq] at e
    exact e.symm
  | bl b =>
    rw [rx.bl_]
    simp only [truW, Option.some.injEq] at e
    exact e.symm
  | int i =>
    rw [rx.int_]
    simp only [truW, Option.some.injEq] at e
    exact e.symm
  | str x =>
    obtain ⟨rfl, x1, x2⟩ := rx.str_
    simp only [truW, Option.some.injEq] at e
    exact ⟨x1, e.symm⟩
  | tup ws =>
    obtain ⟨p, xs, rfl, tx, r1, z1⟩ := rx.tup_
    simp only [truW, Option.some.injEq] at e
    refine .inr (.inl ⟨xs, tx.sq, ?_⟩)
    rw [← e]
    have l := r1.len
    cases ws <;> cases xs <;> simp_all
  | ref n =>
    obtain ⟨p, rfl, hp⟩ := rx.ref_
    simp only [truW] at e
    split at e
    · rename_i ws q
      obtain ⟨xs, h1, r1, z1⟩ := hs.lst hp q
      simp only [Option.some.injEq] at e
      refine .inl ⟨xs, SqL.of h1, ?_⟩
      rw [← e]
      have l := r1.len
      cases ws <;> cases xs <;> simp_all
    · cases e
  | fls ws =>
    obtain ⟨p, xs, rfl, tx, r1, z1⟩ := rx.fls_
    simp only [truW, Option.some.injEq] at e
    refine .inl ⟨xs, tx.sq, ?_⟩
    rw [← e]
    have l := r1.len
    cases ws <;> cases xs <;> simp_all
  | ty n => cases e

/-! ### data -/
mutual
theorem Rep.pd {K : PySem.W.Frag} : ∀ (w : W) {v : V} {d : PyData}, Rep K μ H w v → pdP w = some d → Dp K H v d ∧ d.canLay0 = true
  | .non, v, d, h, e => by
    have e1 : v = .non := h
    simp only [pdP, Option.some.injEq] at e
    subst e e1
    exact ⟨.non, by simp only [PyData.canLay0]⟩
  | .bl b, v, d, h, e => by
    have e1 : v = .bl b := h
    simp only [pdP, Option.some.injEq] at e
    subst e e1
    exact ⟨.bl b, by simp only [PyData.canLay0]⟩
  | .int b, v, d, h, e => by
    have e1 : v = .int b := h
    simp only [pdP, Option.some.injEq] at e
    subst e e1
    exact ⟨.int b, by simp only [PyData.canLay0]⟩
  | .str x, v, d, h, e => by
    obtain ⟨e1, _, ok⟩ := h.str_
    simp only [pdP, Option.some.injEq] at e
    subst e e1
    exact ⟨.str x, by simp only [PyData.canLay0]; exact ok⟩
  | .tup ws, v, d, h, e => by
    obtain ⟨p, xs, e1, tx, r1, z1⟩ := h.tup_
    simp only [pdP] at e
    cases q : pdPs ws with
    | none => rw [q] at e; cases e
    | some ds =>
      rw [q] at e
      simp only [Option.some.injEq] at e
      subst e e1
      obtain ⟨a, b⟩ := Reps.pd ws r1 q
      exact ⟨.tup tx.sq a, by simp only [PyData.canLay0]; exact b⟩
  | .ref n, v, d, h, e => by simp [pdP] at e
  | .fls n, v, d, h, e => by simp [pdP] at e
  | .ty n, v, d, h, e => by simp [pdP] at e
theorem Reps.pd {K : PySem.W.Frag} : ∀ (ws : List W) {xs : List V} {ds : List PyData}, Reps K μ H ws xs → pdPs ws = some ds → DpAll K H xs ds ∧ PyData.canLayAll0 ds = true
  | [], xs, ds, h, e => by
    have e1 : xs = [] := h
    simp only [pdPs, Option.some.injEq] at e
    subst e e1
    exact ⟨.nil, by simp only [PyData.canLayAll0]⟩
  | w :: ws, xs, ds, h, e => by
    obtain ⟨v, r, e1, a, b⟩ := (show ∃ v r, xs = v :: r ∧ Rep K μ H w v ∧ Reps K μ H ws r from h)
    subst e1
    simp only [pdPs] at e
    cases q1 : pdP w with
    | none => rw [q1] at e; cases e
    | some d =>
      cases q2 : pdPs ws with
      | none => rw [q1, q2] at e; cases e
      | some ds' =>
        rw [q1, q2] at e
        simp only [Option.some.injEq] at e
        subst e
        obtain ⟨p1, p2⟩ := Rep.pd w a q1
        obtain ⟨p3, p4⟩ := Reps.pd ws b q2
        exact ⟨.cons p1 p3, by simp only [PyData.canLayAll0, p2, p4, Bool.and_self]⟩
end
theorem pdL_ok (hs : RelSt G.K μ H st) {x : W} {v : V} {d : PyData} (rx : Rep G.K μ H x v) (e : pdL st x = some d) : Dp G.K H v d ∧ d.canLay0 = true := by
  cases x with
  | ref n =>
    obtain ⟨p, rfl, hp⟩ := rx.ref_
    simp only [pdL] at e
    split at e
    · rename_i ws q
      obtain ⟨xs, h1, r1, z1⟩ := hs.lst hp q
      split at e
      · rename_i ds q2
        simp only [Option.some.injEq] at e
        subst e
        obtain ⟨a, b⟩ := Reps.pd ws r1 q2
        exact ⟨.lst (SqL.of h1) a, by simp only [PyData.canLay0]; exact b⟩
      · cases e
    · cases e
  | non => exact Rep.pd _ rx (by simpa [pdL] using e)
  | bl b => exact Rep.pd _ rx (by simpa [pdL] using e)
  | int b => exact Rep.pd _ rx (by simpa [pdL] using e)
  | str b => exact Rep.pd _ rx (by simpa [pdL] using e)
  | tup b => exact Rep.pd _ rx (by simpa [pdL] using e)
  | ty b => exact Rep.pd _ rx (by simpa [pdL] using e)
  | fls b => exact Rep.pd _ rx (by simpa [pdL] using e)
theorem shaped_of {d : PyData} (h : d.canLay0 = true) (h2 : d.depth ≤ 64) : SeqAt.shaped d = true := by
  unfold SeqAt.shaped
  rw [h, decide_eq_true h2]; rfl

/-- x in a list or tuple of data -/
def rInD (K : PySem.W.Frag) (neg : Bool) : R2 := fun x y H Q => ∃ d ds, Dp K H x d ∧ (Dp K H y (.list ds) ∨ Dp K H y (.tuple ds)) ∧ d.canLay0 = true ∧ d.depth ≤ 64 ∧ PyData.canLayAll0 ds = true ∧
  Q (.bl (if neg then !(ds.any fun e => PyData.eqv e d) else ds.any fun e => PyData.eqv e d)) H
theorem op_inD {X : Cx} (hu : X.A.units + 65 < cLine) : OpR X (compareOp .In) (rInD X.K false) := by
  intro pins s σ H x y v u Q I rx ry h
  obtain ⟨d, ds, hd, hc, c1, z1, c2, q⟩ := h
  obtain ⟨as, r1⟩ := Dp.reads I d x v hd rx
  have room : X.A.units + 1 + min (PyData.depthAll ds) d.depth < cLine := by
    have := Nat.min_le_right (PyData.depthAll ds) d.depth
    omega
  rcases hc with hc | hc
  · obtain ⟨bs, r2⟩ := Dp.reads I _ y u hc ry
    exact SeqAt.in_list_reads r2 r1 c2 c1 room ⟨.bl _, H, I, rfl, q⟩
  · obtain ⟨bs, r2⟩ := Dp.reads I _ y u hc ry
    exact SeqAt.in_tuple_reads r2 r1 c2 c1 room ⟨.bl _, H, I, rfl, q⟩
theorem op_ninD {X : Cx} (hu : X.A.units + 65 < cLine) : OpR X (compareOp .NotIn) (rInD X.K true) := by
  intro pins s σ H x y v u Q I rx ry h
  obtain ⟨d, ds, hd, hc, c1, z1, c2, q⟩ := h
  obtain ⟨as, r1⟩ := Dp.reads I d x v hd rx
  have room : X.A.units + 1 + min (PyData.depthAll ds) d.depth < cLine := by
    have := Nat.min_le_right (PyData.depthAll ds) d.depth
    omega
  rcases hc with hc | hc
  · obtain ⟨bs, r2⟩ := Dp.reads I _ y u hc ry
    exact SeqAt.notIn_list_reads r2 r1 c2 c1 room ⟨.bl _, H, I, rfl, q⟩
  · obtain ⟨bs, r2⟩ := Dp.reads I _ y u hc ry
    exact SeqAt.notIn_tuple_reads r2 r1 c2 c1 room ⟨.bl _, H, I, rfl, q⟩
def rSign (neg : Bool) : R2 := fun x y H Q => ∃ (c : Nat) (z : Str), x = .str ⟨#[c]⟩ ∧ y = .str z ∧ Q (.bl (if neg then !decide (c ∈ z.cps.toList) else decide (c ∈ z.cps.toList))) H
theorem op_sign {X : Cx} : OpR X (compareOp .In) (rSign false) := fun pins s σ H x y v u Q I rx ry h => op_in_sign pins s σ H x y v u Q I rx ry h
theorem op_nsign {X : Cx} : OpR X (compareOp .NotIn) (rSign true) := fun pins s σ H x y v u Q I rx ry h => op_notIn_sign pins s σ H x y v u Q I rx ry h

def rCmp (K : PySem.W.Frag) : Cop → R2
  | .eq => rEqD K
  | .ne => rNeD K
  | .lt => rI0 fun i j => .bl (decide (i < j))
  | .le => rI0 fun i j => .bl (decide (i ≤ j))
  | .gt => rI0 fun i j => .bl (decide (j < i))
  | .ge => rI0 fun i j => .bl (decide (j ≤ i))
  | .inn => fun x y H Q => rInD K false x y H Q ∨ rSign false x y H Q
  | .nin => fun x y H Q => rInD K true x y H Q ∨ rSign true x y H Q
theorem op_cmp {X : Cx} (hu : X.A.units + 65 < cLine) : ∀ op : Cop, OpR X (compareOp op.py) (rCmp X.K op)
  | .eq => op_eqD (by omega)
  | .ne => op_neD (by omega)
  | .lt => op_lt
  | .le => op_le
  | .gt => op_gt
  | .ge => op_ge
  | .inn => (op_inD hu).or op_sign
  | .nin => (op_ninD hu).or op_nsign
theorem in_ok (hs : RelSt G.K μ H st) {x y : W} {v u : V} {k : Bool} {neg : Bool} {Q : V → Hp → Prop} (rx : Rep G.K μ H x v) (ry : Rep G.K μ H y u) (h : inW st x y = some k) (q : Q (.bl (if neg then !k else k)) H) : rInD G.K neg v u H Q ∨ rSign neg v u H Q := by
  unfold inW at h
  split at h
  · rename_i z
    split at h
    · rename_i y'
      split at h
      · rename_i c e
        simp only [Option.some.injEq] at h
        obtain ⟨rfl, _, _⟩ := rx.str_
        obtain ⟨rfl, _, _⟩ := ry.str_
        refine .inr ⟨c, z, ?_, rfl, by rw [h]; exact q⟩
        have e2 : y' = ⟨#[c]⟩ := by
          cases y' with
          | mk cps =>
            congr 1
            apply Array.ext'
            simpa using e
        rw [e2]
      · cases h
    · cases h
  · split at h
    · rename_i d ds e1 e2
      split at h
      · rename_i hz
        simp only [Option.some.injEq] at h
        obtain ⟨a1, a2⟩ := pdL_ok hs rx e1
        obtain ⟨b1, b2⟩ := pdL_ok hs ry e2
        exact .inl ⟨d, ds, a1, .inl b1, a2, hz, by simpa only [PyData.canLay0] using b2, by rw [h]; exact q⟩
      · cases h
    · rename_i d ds e1 e2
      split at h
      · rename_i hz
        simp only [Option.some.injEq] at h
        obtain ⟨a1, a2⟩ := pdL_ok hs rx e1
        obtain ⟨b1, b2⟩ := pdL_ok hs ry e2
        exact .inl ⟨d, ds, a1, .inr b1, a2, hz, by simpa only [PyData.canLay0] using b2, by rw [h]; exact q⟩
      · cases h
    · cases h
theorem eq_ok (hs : RelSt G.K μ H st) {x y : W} {v u : V} {k : Bool} (rx : Rep G.K μ H x v) (ry : Rep G.K μ H y u) (h : eqW st x y = some k) : ∃ d e, Dp G.K H v d ∧ Dp G.K H u e ∧ SeqAt.shaped d = true ∧ SeqAt.shaped e = true ∧ PyData.eqv d e = k := by
  unfold eqW at h
  split at h
  · rename_i d e e1 e2
    split at h
    · rename_i hz
      simp only [Option.some.injEq] at h
      obtain ⟨a1, a2⟩ := pdL_ok hs rx e1
      obtain ⟨b1, b2⟩ := pdL_ok hs ry e2
      exact ⟨d, e, a1, b1, shaped_of a2 hz.1, shaped_of b2 hz.2, h⟩
    · cases h
  · cases h
theorem cmp_ok (op : Cop) (hs : RelSt G.K μ H st) {x y : W} {v u : V} {k : Bool} {Q : V → Hp → Prop} (rx : Rep G.K μ H x v) (ry : Rep G.K μ H y u) (h : cmpW op st x y = some k) (q : Q (.bl k) H) : rCmp G.K op v u H Q := by
  cases op with
  | eq =>
    obtain ⟨d, e, h1, h2, h3, h4, h5⟩ := eq_ok hs rx ry (k := k) h
    exact ⟨d, e, h1, h2, h3, h4, by rw [h5]; exact q⟩
  | ne =>
    have h' : (eqW st x y).map (!·) = some k := h
    cases e : eqW st x y with
    | none => rw [e] at h'; cases h'
    | some b =>
      rw [e] at h'
      simp only [Option.map_some, Option.some.injEq] at h'
      obtain ⟨d, e, h1, h2, h3, h4, h5⟩ := eq_ok hs rx ry (k := b) e
      exact ⟨d, e, h1, h2, h3, h4, by rw [h5, h']; exact q⟩
  | inn => exact in_ok (neg := false) hs rx ry (k := k) h q
  | nin =>
    have h' : (inW st x y).map (!·) = some k := h
    cases e : inW st x y with
    | none => rw [e] at h'; cases h'
    | some b =>
      rw [e] at h'
      simp only [Option.map_some, Option.some.injEq] at h'
      exact in_ok (neg := true) hs rx ry (k := b) e (by rw [if_pos rfl, h']; exact q)
  | lt =>
    unfold cmpW at h
    simp only at h
    split at h
    · rw [rx.int_, ry.int_]
      simp only [Option.some.injEq] at h
      subst h
      exact ⟨_, _, rfl, rfl, q⟩
    · cases h
  | le =>
    unfold cmpW at h
    simp only at h
    split at h
    · rw [rx.int_, ry.int_]
      simp only [Option.some.injEq] at h
      subst h
      exact ⟨_, _, rfl, rfl, q⟩
    · cases h
  | gt =>
    unfold cmpW at h
    simp only at h
    split at h
    · rw [rx.int_, ry.int_]
      simp only [Option.some.injEq] at h
      subst h
      exact ⟨_, _, rfl, rfl, q⟩
    · cases h
  | ge =>
    unfold cmpW at h
    simp only at h
    split at h
    · rw [rx.int_, ry.int_]
      simp only [Option.some.injEq] at h
      subst h
      exact ⟨_, _, rfl, rfl, q⟩
    · cases h
end
end EV

/-! EV4: subscripts, slices, built-in calls, methods, stores by values. -/
namespace EV
open PySem PySem.Spec PyProof.Rows L2
section
variable {G : Gm} {μ : List Addr} {H : Hp} {st : Store} {σ : L2.St} {Wx : WX}

/-- the items of a list or tuple -/
theorem seq_ok (hs : RelSt G.K μ H st) {x : W} {v : V} {ws : List W} (rx : Rep G.K μ H x v) (e : seqW st x = some ws) : ∃ a xs, v = .ref a ∧ (SqL G.K H a xs ∨ SqT G.K H a xs) ∧ Reps G.K μ H ws xs ∧ ws.length ≤ sizeLine := by
  cases x with
  | ref n =>
    obtain ⟨p, rfl, hp⟩ := rx.ref_
    simp only [seqW] at e
    split at e
    · rename_i ws' q
      simp only [Option.some.injEq] at e
      subst e
      obtain ⟨xs, h1, r1, z1⟩ := hs.lst hp q
      exact ⟨p, xs, rfl, .inl (SqL.of h1), r1, z1⟩
    · cases e
  | fls us =>
    obtain ⟨p, xs, rfl, tx, r1, z1⟩ := rx.fls_
    simp only [seqW, Option.some.injEq] at e
    subst e
    exact ⟨p, xs, rfl, .inl tx.sq, r1, z1⟩
  | tup us =>
    obtain ⟨p, xs, rfl, tx, r1, z1⟩ := rx.tup_
    simp only [seqW, Option.some.injEq] at e
    subst e
    exact ⟨p, xs, rfl, .inr tx.sq, r1, z1⟩
  | _ => simp [seqW] at e
theorem seq_ok2 (hs : RelSt G.K μ H st) {x : W} {v : V} {ws : List W} (rx : Rep G.K μ H x v) (e : seqW st x = some ws) : ∃ a xs, v = .ref a ∧ (SqL G.K H a xs ∨ (SqT G.K H a xs ∧ Rep G.K μ H (.tup ws) v)) ∧ Reps G.K μ H ws xs ∧ ws.length ≤ sizeLine := by
  cases x with
  | ref n =>
    obtain ⟨p, rfl, hp⟩ := rx.ref_
    simp only [seqW] at e
    split at e
    · rename_i ws' q
      simp only [Option.some.injEq] at e
      subst e
      obtain ⟨xs, h1, r1, z1⟩ := hs.lst hp q
      exact ⟨p, xs, rfl, .inl (SqL.of h1), r1, z1⟩
    · cases e
  | fls us =>
    obtain ⟨p, xs, rfl, tx, r1, z1⟩ := rx.fls_
    simp only [seqW, Option.some.injEq] at e
    subst e
    exact ⟨p, xs, rfl, .inl tx.sq, r1, z1⟩
  | tup us =>
    obtain ⟨p, xs, rfl, tx, r1, z1⟩ := rx.tup_
    simp only [seqW, Option.some.injEq] at e
    subst e
    exact ⟨p, xs, rfl, .inr ⟨tx.sq, p, xs, rfl, tx, r1, z1⟩, r1, z1⟩
  | _ => simp [seqW] at e
theorem ixW_eq (n : Nat) (i : Int) : ixW n i = ixN n i := rfl
theorem atW_ok {K : PySem.W.Frag} {ws : List W} {xs : List V} {i : Int} {w : W} (r : Reps K μ H ws xs) (e : atW ws i = some w) : ∃ v, atI xs i = some v ∧ Rep K μ H w v := by
  unfold atW at e
  split at e
  · rename_i j q
    obtain ⟨v, h1, h2⟩ := r.get e
    refine ⟨v, ?_, h2⟩
    unfold atI
    rw [← r.len, ← ixW_eq, q]
    exact h1
  · cases e
theorem idx_ok (hs : RelSt G.K μ H st) {x y : W} {v u : V} {w : W} {Q : V → Hp → Prop} (rx : Rep G.K μ H x v) (ry : Rep G.K μ H y u) (e : idxW st x y = some w) (q : ∀ z, Rep G.K μ H w z → Q z H) : rIx G.K v u H Q := by
  unfold idxW at e
  split at e
  · rename_i k
    have eu := ry.int_
    subst eu
    split at e
    · rename_i z
      obtain ⟨rfl, h1, h2⟩ := rx.str_
      split at e
      · rename_i hz
        split at e
        · rename_i j hj
          split at e
          · rename_i c hc
            simp only [Option.some.injEq] at e
            subst e
            refine .inr (.inr ⟨z, k, c, rfl, rfl, h1, ?_, q _ ⟨rfl, ?_, ?_⟩⟩)
            · unfold atI
              rw [← ixW_eq, hj]
              exact hc
            · show 1 ≤ sizeLine
              decide
            · unfold PyData.strOk at h2 ⊢
              rw [← Array.all_toList] at h2 ⊢
              have := List.all_eq_true.mp h2 c (List.mem_of_getElem? hc)
              simpa using this
          · cases e
        · cases e
      · cases e
    · split at e
      · rename_i ws hq
        obtain ⟨a, xs, rfl, h1, r, z⟩ := seq_ok hs rx hq
        obtain ⟨z, h3, h4⟩ := atW_ok r e
        rcases h1 with h1 | h1
        · exact .inl ⟨a, xs, k, z, rfl, rfl, h1, h3, q z h4⟩
        · exact .inr (.inl ⟨a, xs, k, z, rfl, rfl, h1, h3, q z h4⟩)
      · cases e
  · cases e

/-! ### slices -/
def rSl (K : PySem.W.Frag) : V → Option Int → Option Int → Hp → VK → Prop := fun x lo hi H Q => rSlA K x lo hi H Q ∨ rSlL K x lo hi H Q
theorem sl_any {X : Cx} : SlR X (rSl X.K) := sl_tupA.or sl_list
theorem cutIx_eq (n d : Nat) (o : Option Int) : cutIx n d o = HT.sIx n d o := by cases o <;> rfl
theorem cut_ok {K : PySem.W.Frag} {ws : List W} {xs : List V} {lo hi : Option Int} (r : Reps K μ H ws xs) : Reps K μ H (cutW ws lo hi) (cutV xs lo hi) := by
  unfold cutW cutV
  rw [cutIx_eq, cutIx_eq, r.len]
  exact (r.drop _).take _
theorem cut_len {ws : List W} {lo hi : Option Int} {n : Nat} (h : ws.length ≤ n) : (cutW ws lo hi).length ≤ n := by
  unfold cutW
  rw [List.length_take, List.length_drop]
  omega
theorem cut_whole {ws : List W} {lo hi : Option Int} (h : HT.sIx ws.length 0 lo = 0 ∧ HT.sIx ws.length ws.length hi = ws.length) : cutW ws lo hi = ws := by
  unfold cutW
  rw [cutIx_eq, cutIx_eq, h.1, h.2]
  simp
theorem slc_ok (hs : RelSt G.K μ H st) {x : W} {v : V} {lo hi : Option Int} {Q : V → Hp → Prop} (rx : Rep G.K μ H x v) (h : PostE G μ H σ Wx (EV.RW G) (slcW st x lo hi) Q) : rSl G.K v lo hi H Q := by
  unfold slcW at h
  split at h
  · rename_i ws
    obtain ⟨p, xs, rfl, tx, r1, z1⟩ := rx.tup_
    have l := r1.len
    refine .inl ⟨p, xs, rfl, tx.sq, fun hw => ?_, fun _ p' hp' => ?_⟩
    · rw [← l] at hw
      rw [cut_whole hw] at h
      exact PostE.ok_here h hs ⟨p, xs, rfl, tx, r1, z1⟩
    · exact h _ _ _ (Step.side hp' _) (hs.side hp' _) (newT hp' (cut_ok r1) (cut_len z1))
  · rename_i ws
    obtain ⟨p, xs, rfl, tx, r1, z1⟩ := rx.fls_
    refine .inr ⟨p, xs, rfl, tx.sq, fun p' hp' => ?_⟩
    obtain ⟨k1, k2, k3⟩ := hs.newL hp' (cut_ok (lo := lo) (hi := hi) r1) (cut_len z1)
    exact h _ _ _ k2 k1 k3
  · rename_i n
    obtain ⟨p, rfl, hp⟩ := rx.ref_
    split at h
    · rename_i ws q
      obtain ⟨xs, h1, r1, z1⟩ := hs.lst hp q
      refine .inr ⟨p, xs, rfl, SqL.of h1, fun p' hp' => ?_⟩
      obtain ⟨k1, k2, k3⟩ := hs.newL hp' (cut_ok (lo := lo) (hi := hi) r1) (cut_len z1)
      exact h _ _ _ k2 k1 k3
    · exact h.elim
  · exact h.elim

/-! ### built-in calls -/
def Blt.name : Blt → Str
  | .len => "len"
  | .abs => "abs"
  | .max2 => "max"
  | .min2 => "min"
  | .sum => "sum"
  | .any => "any"
  | .all => "all"
  | .tuple => "tuple"
  | .list => "list"
  | .int => "int"
  | .str => "str"
/-- the value that the name stands for -/
def Blt.val : Blt → Value
  | .len => .builtin "len"
  | .abs => .builtin "abs"
  | .max2 => .builtin "max"
  | .min2 => .builtin "min"
  | .sum => .builtin "sum"
  | .any => .builtin "any"
  | .all => .builtin "all"
  | .tuple => .type "tuple"
  | .list => .type "list"
  | .int => .type "int"
  | .str => .type "str"
def rBlt (K : PySem.W.Frag) : Blt → List V → Hp → VK → Prop
  | .len => fun xs H Q => (∃ x n, xs = [x] ∧ LenV K x H n ∧ Q (.int n) H)
  | .abs => fun xs H Q => ∃ i, xs = [V.int i] ∧ Q (.int (if i < 0 then -i else i)) H
  | .max2 => fun xs H Q => ∃ i j, xs = [V.int i, V.int j] ∧ Q (.int (if j > i then j else i)) H
  | .min2 => fun xs H Q => ∃ i j, xs = [V.int i, V.int j] ∧ Q (.int (if j < i then j else i)) H
  | .sum => rSum K
  | .any => rAny K
  | .all => rAll K
  | .tuple => fun xs H Q => ∃ p ys, xs = [V.ref p] ∧ ((SqL K H p ys ∧ ∀ l, H l = none → Q (.ref l) (upd H l (.tup ys))) ∨ (SqT K H p ys ∧ Q (.ref p) H))
  | .list => fun xs H Q => ∃ p ys, xs = [V.ref p] ∧ (SqL K H p ys ∨ SqT K H p ys) ∧ ∀ l, H l = none → Q (.ref l) (upd H l (.lst ys))
  | .int => fun xs H Q => (∃ i, xs = [V.int i] ∧ Q (.int i) H) ∨ ∃ k, xs = [V.bl k] ∧ Q (.int (if k then 1 else 0)) H
  | .str => fun _ _ _ => False
theorem call_blt {X : Cx} (hc : X.calm = true) : ∀ b : Blt, CallR X b.val (rBlt X.K b)
  | .len => call_len
  | .abs => call_abs
  | .max2 => call_max2 hc
  | .min2 => call_min2 hc
  | .sum => cr_sum hc
  | .any => cr_any hc
  | .all => cr_all hc
  | .tuple => call_tuple_of
  | .list => call_list_of
  | .int => call_int1
  | .str => fun _ _ _ _ _ _ _ _ _ h => h.elim
theorem blt_boot : ∀ b : Blt, bootBuiltins b.name = some b.val
  | .len => by decide +kernel
  | .abs => by decide +kernel
  | .max2 => by decide +kernel
  | .min2 => by decide +kernel
  | .sum => by decide +kernel
  | .any => by decide +kernel
  | .all => by decide +kernel
  | .tuple => by decide +kernel
  | .list => by decide +kernel
  | .int => by decide +kernel
  | .str => by decide +kernel
theorem Reps.one {K : PySem.W.Frag} {w : W} {xs : List V} (h : Reps K μ H [w] xs) : ∃ v, xs = [v] ∧ Rep K μ H w v := by
  obtain ⟨v, r, e1, a, b⟩ := (show ∃ v r, xs = v :: r ∧ Rep K μ H w v ∧ Reps K μ H [] r from h)
  have e : r = [] := b
  subst e
  exact ⟨v, e1, a⟩
theorem Reps.two {K : PySem.W.Frag} {w u : W} {xs : List V} (h : Reps K μ H [w, u] xs) : ∃ v z, xs = [v, z] ∧ Rep K μ H w v ∧ Rep K μ H u z := by
  obtain ⟨v, r, e1, a, b⟩ := (show ∃ v r, xs = v :: r ∧ Rep K μ H w v ∧ Reps K μ H [u] r from h)
  obtain ⟨z, e2, c⟩ := Reps.one b
  subst e2
  exact ⟨v, z, e1, a, c⟩
theorem blt_ok (b : Blt) (hs : RelSt G.K μ H st) {ws : List W} {xs : List V} {Q : V → Hp → Prop} (r : Reps G.K μ H ws xs) (h : PostE G μ H σ Wx (EV.RW G) (bltW b st ws) Q) : rBlt G.K b xs H Q := by
  unfold bltW at h
  split at h
  · obtain ⟨v, rfl, rv⟩ := r.one
    obtain ⟨rfl, h1, h2⟩ := rv.str_
    exact ⟨_, _, rfl, ⟨h1, rfl⟩, PostE.ok_here h hs rfl⟩
  · obtain ⟨v, rfl, rv⟩ := r.one
    split at h
    · rename_i us e
      obtain ⟨a, ys, rfl, h1, r1, z1⟩ := seq_ok hs rv e
      have l := r1.len
      rw [l] at h
      rcases h1 with h1 | h1
      · exact ⟨_, _, rfl, .inl ⟨ys, h1, rfl⟩, PostE.ok_here h hs rfl⟩
      · exact ⟨_, _, rfl, .inr ⟨ys, h1, rfl⟩, PostE.ok_here h hs rfl⟩
    · exact h.elim
  · obtain ⟨v, rfl, rv⟩ := r.one
    rw [rv.int_]
    exact ⟨_, rfl, PostE.ok_here h hs rfl⟩
  · obtain ⟨v, z, rfl, rv, rz⟩ := r.two
    rw [rv.int_, rz.int_]
    exact ⟨_, _, rfl, PostE.ok_here h hs rfl⟩
  · obtain ⟨v, z, rfl, rv, rz⟩ := r.two
    rw [rv.int_, rz.int_]
    exact ⟨_, _, rfl, PostE.ok_here h hs rfl⟩
  · obtain ⟨v, rfl, rv⟩ := r.one
    rw [rv.int_]
    exact .inl ⟨_, rfl, PostE.ok_here h hs rfl⟩
  · obtain ⟨v, rfl, rv⟩ := r.one
    rw [rv.bl_]
    exact .inr ⟨_, rfl, PostE.ok_here h hs rfl⟩
  · obtain ⟨v, rfl, rv⟩ := r.one
    obtain ⟨p, rfl, hp⟩ := rv.ref_
    split at h
    · rename_i us q
      obtain ⟨ys, h1, r1, z1⟩ := hs.lst hp q
      split at h
      · rename_i ns e
        have e2 := r1.asInts e
        subst e2
        exact ⟨p, ns, rfl, SqL.of h1, PostE.ok_here h hs rfl⟩
      · exact h.elim
    · exact h.elim
  · obtain ⟨v, rfl, rv⟩ := r.one
    obtain ⟨p, rfl, hp⟩ := rv.ref_
    split at h
    · rename_i us q
      obtain ⟨ys, h1, r1, z1⟩ := hs.lst hp q
      split at h
      · rename_i ns e
        have e2 := r1.asBools e
        subst e2
        exact ⟨p, ns, rfl, SqL.of h1, PostE.ok_here h hs rfl⟩
      · exact h.elim
    · exact h.elim
  · obtain ⟨v, rfl, rv⟩ := r.one
    obtain ⟨p, rfl, hp⟩ := rv.ref_
    split at h
    · rename_i us q
      obtain ⟨ys, h1, r1, z1⟩ := hs.lst hp q
      split at h
      · rename_i ns e
        have e2 := r1.asBools e
        subst e2
        exact ⟨p, ns, rfl, SqL.of h1, PostE.ok_here h hs rfl⟩
      · exact h.elim
    · exact h.elim
  · obtain ⟨v, rfl, rv⟩ := r.one
    split at h
    · rename_i us e
      obtain ⟨a, ys, rfl, h1, r1, z1⟩ := seq_ok2 hs rv e
      rcases h1 with h1 | h1
      · exact ⟨a, ys, rfl, .inl ⟨h1, fun l hl => h _ _ _ (Step.side hl _) (hs.side hl _) (newT hl r1 z1)⟩⟩
      · exact ⟨a, ys, rfl, .inr ⟨h1.1, PostE.ok_here h hs h1.2⟩⟩
    · exact h.elim
  · obtain ⟨v, rfl, rv⟩ := r.one
    split at h
    · rename_i us e
      obtain ⟨a, ys, rfl, h1, r1, z1⟩ := seq_ok hs rv e
      refine ⟨a, ys, rfl, h1, fun l hl => ?_⟩
      obtain ⟨k1, k2, k3⟩ := hs.newL hl r1 z1
      exact h _ _ _ k2 k1 k3
    · exact h.elim
  · exact h.elim

/-! ### isinstance -/
def Ty.name : Ty → String
  | .non => "NoneType"
  | .bool => "bool"
  | .int => "int"
  | .str => "str"
  | .tuple => "tuple"
  | .list => "list"
  | .dict => "dict"
theorem kind_ok (hs : RelSt G.K μ H st) {x : W} {v : V} {k : Ty} (rx : Rep G.K μ H x v) (e : kindW st x = some k) : TyX G.K H v (.type k.name) := by
  cases x with
  | non =>
    rw [rx.non_]
    simp only [kindW, Option.some.injEq] at e
    subst e
    exact .base .non
  | bl b =>
    rw [rx.bl_]
    simp only [kindW, Option.some.injEq] at e
    subst e
    exact .base (.bl b)
  | int b =>
    rw [rx.int_]
    simp only [kindW, Option.some.injEq] at e
    subst e
    exact .base (.int b)
  | str b =>
    rw [(rx.str_).1]
    simp only [kindW, Option.some.injEq] at e
    subst e
    exact .base (.str b)
  | tup b =>
    obtain ⟨p, xs, rfl, tx, r1, z1⟩ := rx.tup_
    simp only [kindW, Option.some.injEq] at e
    subst e
    rcases tx with tx | ⟨o, its, n, h1, h2, h3, _⟩
    · exact .base (.tup tx)
    · exact .kTuple h1 h2
  | ref n =>
    obtain ⟨p, rfl, hp⟩ := rx.ref_
    simp only [kindW] at e
    split at e
    · rename_i ws q
      simp only [Option.some.injEq] at e
      subst e
      obtain ⟨xs, h1, r1, z1⟩ := hs.lst hp q
      exact .base (.lst h1)
    · cases e
  | fls ws =>
    obtain ⟨p, xs, rfl, tx, r1, z1⟩ := rx.fls_
    simp only [kindW, Option.some.injEq] at e
    subst e
    rcases tx with ⟨o, tx⟩ | ⟨o, its, n, h1, h2, _⟩
    · exact .base (.frz tx)
    · exact .kList h1 h2
  | ty n => simp [kindW] at e
theorem kit_sub : ∀ a b : Ty, kitB a.name b.name = some (subTy a b) := by
  intro a b
  cases a <;> cases b <;> decide +kernel
theorem kit_one {K : PySem.W.Frag} (a b : Ty) : PySem.W.kitOne K (.type a.name) (.type b.name) = some (subTy a b) := kit_ty (kit_sub a b)
theorem kit_any {K : PySem.W.Frag} (a : Ty) : ∀ ts : List Ty, PySem.W.kitAny K (.type a.name) (ts.map fun t => .type t.name) = some (ts.any fun t => subTy a t)
  | [] => kitAny_nil
  | t :: ts => by
    refine kitAny_cons (kit_one a t) (fun h => ?_) (fun h => ?_)
    · rw [List.any_cons, h, Bool.false_or]
      exact kit_any a ts
    · rw [List.any_cons, h, Bool.true_or]
end
end EV

/-! EV5: what is walked, loops and comprehensions as readings. -/
namespace EV
open PySem PySem.Spec PyProof.Rows L2

/-! ### statements' ends -/
def PostS (G : Gm) (μ : List Addr) (H : Hp) (Wx : WX) (r : SR) (D : Ends) : Prop := match r with
  | .nx env st' => ∀ μ' σ' H', Step μ H μ' H' → RelE G.K μ' H' env σ' → RelSt G.K μ' H' st' → D.nx σ' H'
  | .rt w st' => ∀ μ' v H', Step μ H μ' H' → RelSt G.K μ' H' st' → Rep G.K μ' H' w v → D.rt v H'
  | .bk env st' => ∀ μ' σ' H', Step μ H μ' H' → RelE G.K μ' H' env σ' → RelSt G.K μ' H' st' → D.bk σ' H'
  | .ct env st' => ∀ μ' σ' H', Step μ H μ' H' → RelE G.K μ' H' env σ' → RelSt G.K μ' H' st' → D.ct σ' H'
  | .ex x env st' => ∀ μ' σ' H' cls d, Step μ H μ' H' → RelE G.K μ' H' env σ' → RelSt G.K μ' H' st' → RepX G.mg G.xn x cls d → Wx cls d σ' H'
  | .bad => False
def tRS (G : Gm) (Wx : WX) (r : Env → Store → SR) : TS := fun D σ H => ∃ μ env st, RelE G.K μ H env σ ∧ RelSt G.K μ H st ∧ PostS G μ H Wx (r env st) D
section
variable {G : Gm} {μ μ1 : List Addr} {H H1 : Hp} {σ : L2.St} {Wx : WX} {α β γ δ : Type} {R : List Addr → Hp → α → β → Prop}
theorem PostS.trans (s : Step μ H μ1 H1) {r : SR} {D : Ends} (h : PostS G μ H Wx r D) : PostS G μ1 H1 Wx r D := by
  cases r with
  | nx env st' => exact fun μ' σ' H' s' he rs => h μ' σ' H' (s.trans s') he rs
  | rt w st' => exact fun μ' v H' s' rs rw => h μ' v H' (s.trans s') rs rw
  | bk env st' => exact fun μ' σ' H' s' he rs => h μ' σ' H' (s.trans s') he rs
  | ct env st' => exact fun μ' σ' H' s' he rs => h μ' σ' H' (s.trans s') he rs
  | ex x env st' => exact fun μ' σ' H' cls d s' he rs rx => h μ' σ' H' cls d (s.trans s') he rs rx
  | bad => exact h
/-- an expression, then the rest of the statement -/
theorem PostS.then {m : Res α} {env : Env} {f : α → Store → SR} {D : Ends} {C : β → Hp → Prop} (he : RelE G.K μ H env σ) (h : PostS G μ H Wx (m.then env f) D)
    (k : ∀ μ1 v H1 w st1, m = .ok w st1 → Step μ H μ1 H1 → RelE G.K μ1 H1 env σ → RelSt G.K μ1 H1 st1 → R μ1 H1 w v → PostS G μ1 H1 Wx (f w st1) D → C v H1) : PostE G μ H σ Wx R m C := by
  cases m with
  | ok w st' => exact fun μ' v H' s' rs rw => k μ' v H' w st' rfl s' (he.step s') rs rw (PostS.trans s' h)
  | exn x st' => exact fun μ' H' cls d s' rs rx => h μ' σ H' cls d s' (he.step s') rs rx
  | bad => exact h
theorem tR.then {ra : Env → Store → Res α} {env : Env} {st : Store} {f : α → Store → SR} {D : Ends} {C : β → Hp → Prop} (he : RelE G.K μ H env σ) (hs : RelSt G.K μ H st) (h : PostS G μ H Wx ((ra env st).then env f) D)
    (k : ∀ μ1 v H1 w st1, Step μ H μ1 H1 → RelE G.K μ1 H1 env σ → RelSt G.K μ1 H1 st1 → R μ1 H1 w v → PostS G μ1 H1 Wx (f w st1) D → C v H1) : tR G Wx R ra σ H C :=
  ⟨μ, env, st, he, hs, PostS.then he h fun μ1 v H1 w st1 _ s e rs r q => k μ1 v H1 w st1 s e rs r q⟩
theorem tR.here {ra : Env → Store → Res α} {env : Env} {st : Store} {C : β → Hp → Prop} (he : RelE G.K μ H env σ) (hs : RelSt G.K μ H st) (h : PostE G μ H σ Wx R (ra env st) C) : tR G Wx R ra σ H C := ⟨μ, env, st, he, hs, h⟩
end

/-! ### what is walked -/
structure WkOk (K : PySem.W.Frag) (μ0 : List Addr) (H0 : Hp) (J : L2.It) (wk : Walkd) : Prop where
  go : ∀ μ H st i, Step μ0 H0 μ H → RelSt K μ H st → wk.keep st → i < wk.items.length → J.go i H
  stop : ∀ μ H st, Step μ0 H0 μ H → RelSt K μ H st → wk.keep st → J.stop wk.items.length H
  yld : ∀ μ H st i x H', Step μ0 H0 μ H → RelSt K μ H st → wk.keep st → i < wk.items.length → J.yld i H x H' → Step μ H μ H' ∧ RelSt K μ H' st ∧ ∃ w, wk.items[i]? = some w ∧ Rep K μ H' w x
def RWk (G : Gm) : List Addr → Hp → Walkd → L2.It → Prop := fun μ H wk J => WkOk G.K μ H J wk
theorem WkOk.step {K : PySem.W.Frag} {μ0 μ1 : List Addr} {H0 H1 : Hp} {J : L2.It} {wk : Walkd} (h : WkOk K μ0 H0 J wk) (s : Step μ0 H0 μ1 H1) : WkOk K μ1 H1 J wk :=
  ⟨fun μ H st i a => h.go μ H st i (s.trans a), fun μ H st a => h.stop μ H st (s.trans a), fun μ H st i x H' a => h.yld μ H st i x H' (s.trans a)⟩

section
variable {K : PySem.W.Frag} {μ : List Addr} {H : Hp} {st : Store}
theorem wk_of_get {ws : List W} {xs : List V} {i : Nat} (r : Reps K μ H ws xs) (hi : i < ws.length) : ∃ x w, xs[i]? = some x ∧ ws[i]? = some w ∧ Rep K μ H w x := by
  have e : ws[i]? = some ws[i] := by simp [hi]
  obtain ⟨v, h1, h2⟩ := r.get e
  exact ⟨v, _, h1, e, h2⟩
/-- a list at a place, as long as it stays -/
theorem wk_lst {n : Nat} {a : Addr} (ha : μ[n]? = some a) {ws : List W} : WkOk K μ H (Itl K a) ⟨ws, fun st' => st'[n]? = some (.lst ws)⟩ := by
  have q : ∀ μ' H' st', Step μ H μ' H' → RelSt K μ' H' st' → st'[n]? = some (.lst ws) → ∃ xs, SqL K H' a xs ∧ H' a = some (.lst xs) ∧ Reps K μ' H' ws xs := fun μ' H' st' s rs e => by
    obtain ⟨xs, h1, r, z⟩ := rs.lst (s.at_ ha) e
    exact ⟨xs, SqL.of h1, h1, r⟩
  refine ⟨fun μ' H' st' i s rs e hi => ?_, fun μ' H' st' s rs e => ?_, fun μ' H' st' i x H2 s rs e hi y => ?_⟩
  · obtain ⟨xs, h1, _, r⟩ := q μ' H' st' s rs e
    obtain ⟨x, w, e1, _, _⟩ := wk_of_get r hi
    exact ⟨xs, x, h1, e1⟩
  · obtain ⟨xs, h1, _, r⟩ := q μ' H' st' s rs e
    exact ⟨xs, h1, Nat.le_of_eq r.len.symm⟩
  · obtain ⟨xs, h1, _, r⟩ := q μ' H' st' s rs e
    obtain ⟨e2, y⟩ := y
    subst e2
    obtain ⟨x', w, e1, e3, rw⟩ := wk_of_get r hi
    have e4 := y xs h1
    rw [e1] at e4
    cases e4
    exact ⟨Step.refl _ _, rs, w, e3, rw⟩
theorem wk_fls {a : Addr} {ws : List W} {xs : List V} (ta : FlsAt K H a xs) (r : Reps K μ H ws xs) : WkOk K μ H (Itl K a) ⟨ws, fun _ => True⟩ := by
  refine ⟨fun μ' H' st' i s rs e hi => ?_, fun μ' H' st' s rs e => ?_, fun μ' H' st' i x H2 s rs e hi y => ?_⟩
  · obtain ⟨x, w, e1, _, _⟩ := wk_of_get r hi
    exact ⟨xs, x, (ta.mono s.keeps).sq, e1⟩
  · exact ⟨xs, (ta.mono s.keeps).sq, Nat.le_of_eq r.len.symm⟩
  · obtain ⟨e2, y⟩ := y
    subst e2
    obtain ⟨x', w, e1, e3, rw⟩ := wk_of_get (r.step s) hi
    have e4 := y xs (ta.mono s.keeps).sq
    rw [e1] at e4
    cases e4
    exact ⟨Step.refl _ _, rs, w, e3, rw⟩
theorem wk_tup {a : Addr} {ws : List W} {xs : List V} (ta : TupAt K H a xs) (r : Reps K μ H ws xs) : WkOk K μ H (Itt K a) ⟨ws, fun _ => True⟩ := by
  refine ⟨fun μ' H' st' i s rs e hi => ?_, fun μ' H' st' s rs e => ?_, fun μ' H' st' i x H2 s rs e hi y => ?_⟩
  · obtain ⟨x, w, e1, _, _⟩ := wk_of_get r hi
    exact ⟨xs, x, (ta.step s).sq, e1⟩
  · exact ⟨xs, (ta.step s).sq, Nat.le_of_eq r.len.symm⟩
  · obtain ⟨e2, y⟩ := y
    subst e2
    obtain ⟨x', w, e1, e3, rw⟩ := wk_of_get (r.step s) hi
    have e4 := y xs (ta.step s).sq
    rw [e1] at e4
    cases e4
    exact ⟨Step.refl _ _, rs, w, e3, rw⟩
theorem wk_rng {lo hi : Int} : WkOk K μ H (Itr lo (hi - lo).toNat) ⟨rangeW lo hi, fun _ => True⟩ := by
  have l : (rangeW lo hi).length = (hi - lo).toNat := by unfold rangeW; simp
  refine ⟨fun μ' H' st' i s rs e h => ?_, fun μ' H' st' s rs e => ?_, fun μ' H' st' i x H2 s rs e h y => ?_⟩
  · show i < (hi - lo).toNat
    rw [← l]; exact h
  · show (hi - lo).toNat ≤ _
    exact Nat.le_of_eq l.symm
  · obtain ⟨e2, y⟩ := y
    subst e2
    refine ⟨Step.refl _ _, rs, .int (lo + i), ?_, y⟩
    have h' : i < (hi - lo).toNat := by rw [← l]; exact h
    show (rangeW lo hi)[i]? = _
    unfold rangeW
    simp [h']
theorem wk_str {z : Str} (ok : PyData.strOk z = true) : WkOk K μ H (Its z) ⟨z.cps.toList.map fun c => .str ⟨#[c]⟩, fun _ => True⟩ := by
  have l : (z.cps.toList.map fun c => W.str ⟨#[c]⟩).length = z.cps.size := by simp
  refine ⟨fun μ' H' st' i s rs e h => ?_, fun μ' H' st' s rs e => ?_, fun μ' H' st' i x H2 s rs e h y => ?_⟩
  · show i < z.cps.size
    rw [← l]; exact h
  · show z.cps.size ≤ _
    exact Nat.le_of_eq l.symm
  · obtain ⟨e2, c, hc, y⟩ := y
    subst e2
    have hc' : z.cps.toList[i]? = some c := by simpa using hc
    refine ⟨Step.refl _ _, rs, .str ⟨#[c]⟩, ?_, y, ?_, ?_⟩
    · show (z.cps.toList.map fun c => W.str ⟨#[c]⟩)[i]? = _
      rw [List.getElem?_map, hc']; rfl
    · show 1 ≤ sizeLine
      decide
    · unfold PyData.strOk at ok ⊢
      rw [← Array.all_toList] at ok ⊢
      have := List.all_eq_true.mp ok c (List.mem_of_getElem? hc')
      simpa using this
end

/-! ### targets -/
def tgS (K : PySem.W.Frag) : List Nat → TGs
  | [] => gNil
  | i :: is => gCons (gName i) (tgS K is)
def tgT (K : PySem.W.Frag) : Tgt → TG
  | .one i => gName i
  | .tup is => gTup K is.length (tgS K is)
section
variable {K : PySem.W.Frag} {μ : List Addr} {H : Hp}
theorem setAll_ok : ∀ {is : List Nat} {ws : List W} {xs : List V} {env env' : Env} {σ : L2.St} {C : L2.St → Hp → Prop}, setAll is ws env = some env' → Reps K μ H ws xs → RelE K μ H env σ → (∀ σ', RelE K μ H env' σ' → C σ' H) → tgS K is xs σ H C
  | [], [], xs, env, env', σ, C, e, r, he, q => by
    have e1 : xs = [] := r
    simp only [setAll, Option.some.injEq] at e
    subst e e1
    exact ⟨rfl, q σ he⟩
  | i :: is, w :: ws, xs, env, env', σ, C, e, r, he, q => by
    obtain ⟨v, rest, e1, a, b⟩ := (show ∃ v r, xs = v :: r ∧ Rep K μ H w v ∧ Reps K μ H ws r from r)
    subst e1
    simp only [setAll] at e
    exact ⟨v, rest, rfl, setAll_ok e b (he.set i a) q⟩
  | [], _ :: _, _, _, _, _, _, e, _, _, _ => by simp [setAll] at e
  | _ :: _, [], _, _, _, _, _, e, _, _, _ => by simp [setAll] at e
theorem setAll_len : ∀ {is : List Nat} {ws : List W} {env env' : Env}, setAll is ws env = some env' → is.length = ws.length
  | [], [], _, _, _ => rfl
  | i :: is, w :: ws, _, _, e => by
    simp only [setAll] at e
    rw [List.length_cons, List.length_cons, setAll_len e]
  | [], _ :: _, _, _, e => by simp [setAll] at e
  | _ :: _, [], _, _, e => by simp [setAll] at e
theorem bindT_ok {t : Tgt} {w : W} {x : V} {env env' : Env} {σ : L2.St} {C : L2.St → Hp → Prop} (e : bindT t w env = some env') (r : Rep K μ H w x) (he : RelE K μ H env σ) (q : ∀ σ', RelE K μ H env' σ' → C σ' H) : tgT K t x σ H C := by
  cases t with
  | one i =>
    simp only [bindT, Option.some.injEq] at e
    subst e
    exact q _ (he.set i r)
  | tup is =>
    simp only [bindT] at e
    split at e
    · rename_i ws
      obtain ⟨a, xs, rfl, ta, rs, z⟩ := r.tup_
      exact ⟨a, xs, rfl, ta.sq, by rw [← rs.len, setAll_len e], setAll_ok e rs he q⟩
    · cases e
end

/-! ### a for loop -/
theorem for_ok {G : Gm} {Wx : WX} {T : Fns} {it : EV.It} {t : Tgt} {b : Env → Store → SR} {D : Ends} {σ : L2.St} {H : Hp} (h : tRS G Wx (fun env st => (evI T it env st).then env fun wk st => forL wk.keep t b wk.items env st) D σ H) :
    tFor (tR G Wx (RWk G) (evI T it)) (tgT G.K t) (tRS G Wx b) D σ H := by
  obtain ⟨μ, env, st, he, hs, h⟩ := h
  refine tR.then he hs h fun μ0 J H0 wk st0 s0 e0 rs0 wko h0 => ?_
  have wko : WkOk G.K μ0 H0 J wk := wko
  refine ⟨fun i m σ' H' => m = wk.items.length - i ∧ i ≤ wk.items.length ∧ ∃ μ' env' st', Step μ0 H0 μ' H' ∧ RelE G.K μ' H' env' σ' ∧ RelSt G.K μ' H' st' ∧ PostS G μ' H' Wx (forL wk.keep t b (wk.items.drop i) env' st') D, ?_, ?_⟩
  · exact ⟨wk.items.length, by simp, Nat.zero_le _, μ0, env, st0, Step.refl _ _, e0, rs0, h0⟩
  · rintro i m σ' H' ⟨rfl, hi, μ', env', st', s', e', rs', h'⟩
    by_cases hlt : i < wk.items.length
    · have ed : wk.items.drop i = wk.items[i] :: wk.items.drop (i + 1) := List.drop_eq_getElem_cons hlt
      rw [ed] at h'
      by_cases hk : wk.keep st'
      · simp only [forL, if_pos hk] at h'
        cases hb : bindT t wk.items[i] env' with
        | none => rw [hb] at h'; exact h'.elim
        | some env1 =>
          rw [hb] at h'
          simp only at h'
          refine .inr ⟨wko.go μ' H' st' i s' rs' hk hlt, fun σ2 H2 => ∃ μ2 env2 st2, Step μ0 H0 μ2 H2 ∧ RelE G.K μ2 H2 env2 σ2 ∧ RelSt G.K μ2 H2 st2 ∧ PostS G μ2 H2 Wx (forL wk.keep t b (wk.items.drop (i + 1)) env2 st2) D, fun σ2 H2 q => ?_, fun x H2 y => ?_⟩
          · exact ⟨wk.items.length - (i + 1), by omega, rfl, hlt, q⟩
          · obtain ⟨s2, rs2, w, ew, rw'⟩ := wko.yld μ' H' st' i x H2 s' rs' hk hlt y
            have ew' : w = wk.items[i] := by
              rw [List.getElem?_eq_getElem hlt] at ew
              exact (Option.some.inj ew).symm
            subst ew'
            refine bindT_ok hb rw' (e'.step s2) fun σ3 e3 => ?_
            refine ⟨μ', env1, st', e3, rs2, ?_⟩
            have h2 := PostS.trans s2 h'
            cases hr : b env1 st' with
            | nx env4 st4 =>
              rw [hr] at h2
              exact fun μ4 σ4 H4 s4 e4 rs4 => ⟨μ4, env4, st4, (s'.trans s2).trans s4, e4, rs4, PostS.trans s4 h2⟩
            | ct env4 st4 =>
              rw [hr] at h2
              exact fun μ4 σ4 H4 s4 e4 rs4 => ⟨μ4, env4, st4, (s'.trans s2).trans s4, e4, rs4, PostS.trans s4 h2⟩
            | bk env4 st4 => rw [hr] at h2; exact h2
            | rt w4 st4 => rw [hr] at h2; exact h2
            | ex x4 env4 st4 => rw [hr] at h2; exact h2
            | bad => rw [hr] at h2; exact h2.elim
      · simp only [forL, if_neg hk] at h'
        exact h'.elim
    · have e1 : i = wk.items.length := by omega
      subst e1
      rw [List.drop_length] at h'
      by_cases hk : wk.keep st'
      · simp only [forL, if_pos hk] at h'
        exact .inl ⟨wko.stop μ' H' st' s' rs' hk, h' μ' σ' H' (Step.refl _ _) e' rs'⟩
      · simp only [forL, if_neg hk] at h'
        exact h'.elim

/-! ### a while loop -/
theorem whl_ok {G : Gm} {Wx : WX} {c : Env → Store → Res Bool} {b : Env → Store → SR} {n : Nat} {D : Ends} {σ : L2.St} {H : Hp} (h : tRS G Wx (whlL c b n) D σ H) : tWhile (tR G Wx RB c) (tRS G Wx b) D σ H := by
  obtain ⟨μ, env, st, he, hs, h⟩ := h
  refine ⟨fun m σ' H' => ∃ μ' env' st', RelE G.K μ' H' env' σ' ∧ RelSt G.K μ' H' st' ∧ PostS G μ' H' Wx (whlL c b m env' st') D, ⟨n, μ, env, st, he, hs, h⟩, ?_⟩
  rintro m σ' H' ⟨μ', env', st', e', rs', h'⟩
  cases m with
  | zero => exact h'.elim
  | succ m =>
    simp only [whlL] at h'
    refine tR.then e' rs' h' fun μ1 k H1 k' st1 s1 e1 rs1 ek h1 => ?_
    have ek : k' = k := ek
    subst ek
    cases k' with
    | false =>
      rw [if_neg Bool.false_ne_true] at h1 ⊢
      exact h1 μ1 σ' H1 (Step.refl _ _) e1 rs1
    | true =>
      rw [if_pos rfl] at h1 ⊢
      refine ⟨fun σ2 H2 => ∃ μ2 env2 st2, RelE G.K μ2 H2 env2 σ2 ∧ RelSt G.K μ2 H2 st2 ∧ PostS G μ2 H2 Wx (whlL c b m env2 st2) D, fun σ2 H2 q => ⟨m, Nat.lt_succ_self _, q⟩, μ1, env', st1, e1, rs1, ?_⟩
      cases hr : b env' st1 with
      | nx env4 st4 =>
        rw [hr] at h1
        exact fun μ4 σ4 H4 s4 e4 rs4 => ⟨μ4, env4, st4, e4, rs4, PostS.trans s4 h1⟩
      | ct env4 st4 =>
        rw [hr] at h1
        exact fun μ4 σ4 H4 s4 e4 rs4 => ⟨μ4, env4, st4, e4, rs4, PostS.trans s4 h1⟩
      | bk env4 st4 => rw [hr] at h1; exact h1
      | rt w4 st4 => rw [hr] at h1; exact h1
      | ex x4 env4 st4 => rw [hr] at h1; exact h1
      | bad => rw [hr] at h1; exact h1.elim

/-! ### a comprehension -/
theorem Step.updL {μ μ1 : List Addr} {H H1 : Hp} (s : Step μ H μ1 H1) {D : Addr} (hD : H D = none) (o : HO) : Step μ H μ1 (upd H1 D o) := by
  refine ⟨s.ext, fun a u e hm => ?_, fun a u e => ?_, fun a xs e => ?_, fun a o u e => ?_⟩
  · rw [upd_ne (ne_of_none e hD)]; exact s.frame a u e hm
  · obtain ⟨o', e'⟩ := s.live a u e
    exact ⟨o', by rw [upd_ne (ne_of_none e hD)]; exact e'⟩
  · rw [upd_ne (ne_of_none e hD)]; exact s.tups a xs e
  · rw [upd_ne (ne_of_none e hD)]; exact s.frzs a o u e
theorem keeps_upd {μ : List Addr} {H : Hp} {D : Addr} {xs : List V} (hD : H D = some (.lst xs)) (o : HO) : Keeps μ H μ (upd H D o) :=
  ⟨fun _ _ e => e, fun a ys e => by
    have : a ≠ D := fun z => by subst z; rw [hD] at e; cases e
    rw [upd_ne this]; exact e, fun a o u e => by
    have : a ≠ D := fun z => by subst z; rw [hD] at e; cases e
    rw [upd_ne this]; exact e⟩
theorem RelSt.updL {K : PySem.W.Frag} {μ : List Addr} {H : Hp} {st : Store} (h : RelSt K μ H st) {D : Addr} {xs : List V} (hD : H D = some (.lst xs)) (hn : D ∉ μ) (o : HO) : RelSt K μ (upd H D o) st := by
  refine ⟨h.len, h.nd, fun n ob e => ?_⟩
  obtain ⟨a, ha, q⟩ := h.at_ n ob e
  refine ⟨a, ha, q.mono (keeps_upd hD o) ?_⟩
  have : a ≠ D := fun z => by subst z; exact hn (List.mem_of_getElem? ha)
  rw [upd_ne this]

theorem RelE.len {K : PySem.W.Frag} {μ : List Addr} {H : Hp} {env : Env} {σ : L2.St} (h : RelE K μ H env σ) : env.length = σ.length := h.1
/-- the target's slots are the block's own: what is stored there is wiped away again -/
theorem wipe_set_mem (σ : L2.St) (i : Nat) (v : Option V) : ∀ (is : List Nat), i ∈ is → L2.wipe (σ.set i v) is = L2.wipe σ is
  | j :: is, h => by
    by_cases hj : i ∈ is
    · unfold L2.wipe
      rw [wipe_set_mem σ i v is hj]
    · have e : i = j := by
        rcases List.mem_cons.mp h with e | e
        · exact e
        · exact absurd e hj
      subst e
      have c : ∀ (l : List Nat) (τ : L2.St), i ∉ l → L2.wipe (τ.set i v) l = (L2.wipe τ l).set i v := by
        intro l
        induction l with
        | nil => intro τ _; rfl
        | cons a l ih =>
          intro τ hm
          unfold L2.wipe
          rw [ih τ (fun z => hm (List.mem_cons_of_mem _ z)), List.set_comm]
          intro z
          exact hm (by rw [z]; exact List.mem_cons_self)
      unfold L2.wipe
      rw [c is σ hj, List.set_set]
  | [], h => by cases h
theorem wipe_wipe (σ : L2.St) (is : List Nat) : ∀ (js : List Nat), (∀ j ∈ js, j ∈ is) → L2.wipe (L2.wipe σ js) is = L2.wipe σ is
  | [], _ => rfl
  | j :: js, h => by
    show L2.wipe ((L2.wipe σ js).set j none) is = _
    rw [wipe_set_mem _ j none is (h j List.mem_cons_self), wipe_wipe σ is js fun a ha => h a (List.mem_cons_of_mem _ ha)]
theorem tgS_wipe {K : PySem.W.Frag} {H : Hp} {own : List Nat} {C : L2.St → Hp → Prop} : ∀ {is : List Nat} {xs : List V} {σ τ : L2.St}, (∀ i ∈ is, i ∈ own) → L2.wipe σ own = L2.wipe τ own → tgS K is xs σ H C → tgS K is xs σ H fun σ2 H2 => L2.wipe σ2 own = L2.wipe τ own ∧ C σ2 H2
  | [], xs, σ, τ, _, e, h => by
    obtain ⟨e1, h⟩ := h
    exact ⟨e1, e, h⟩
  | i :: is, xs, σ, τ, hm, e, h => by
    obtain ⟨v, r, e1, h⟩ := h
    refine ⟨v, r, e1, ?_⟩
    exact tgS_wipe (σ := σ.set i (some v)) (fun j hj => hm j (List.mem_cons_of_mem _ hj)) (by rw [wipe_set_mem _ _ _ _ (hm i List.mem_cons_self)]; exact e) h
theorem tgT_wipe {K : PySem.W.Frag} {H : Hp} {own : List Nat} {t : Tgt} {x : V} {σ τ : L2.St} {C : L2.St → Hp → Prop} (hm : ∀ i ∈ t.slots, i ∈ own) (e : L2.wipe σ own = L2.wipe τ own) (h : tgT K t x σ H C) : tgT K t x σ H fun σ2 H2 => L2.wipe σ2 own = L2.wipe τ own ∧ C σ2 H2 := by
  cases t with
  | one i =>
    exact ⟨by rw [wipe_set_mem _ _ _ _ (hm i (by simp [Tgt.slots]))]; exact e, h⟩
  | tup is =>
    obtain ⟨a, xs, e1, hq, hl, h⟩ := h
    exact ⟨a, xs, e1, hq, hl, tgS_wipe hm e h⟩
theorem wipe_slots_eq (σ : L2.St) (own : List Nat) : L2.wipe (L2.wipe σ own) own = L2.wipe σ own := wipe_wipe σ own own fun _ h => h

/-- no exception is wished for -/
def WxF : WX := fun _ _ _ _ => False
theorem cmp_ok_ {G : Gm} {Wx : WX} {T : Fns} {it : EV.It} {t : Tgt} {c : Ox} {e : Ex} {σ : L2.St} {H : Hp} {Q : V → Hp → Prop} (h : tR G Wx (EV.RW G) (evE T (.comp t it c e)) σ H Q) :
    tLc (tR G Wx (RWk G) (evI T it)) (tgT G.K t) (tR G WxF RB (evC T c)) (tR G WxF (EV.RW G) (evE T e)) t.slots σ H Q := by
  obtain ⟨μ, env, st, he, hs, h⟩ := h
  have h : PostE G μ H σ Wx (EV.RW G) ((evI T it env st).bind fun wk st =>
    (cmpL wk.keep t (fun env st => (evC T c env st).bind fun k st => if k = true then (evE T e env st).bind fun y st => .ok (some y) st else .ok none st) (wipeE env t.slots) wk.items [] st).bind fun ws st =>
      .ok (.ref st.length) (st ++ [.lst ws])) Q := h
  refine tR.bind he hs h fun μ0 J H0 wk st0 s0 e0 rs0 wko h0 => ?_
  have wko : WkOk G.K μ0 H0 J wk := wko
  intro D hD
  generalize hb : (fun env st => (evC T c env st).bind fun k st => if k = true then (evE T e env st).bind fun y st => Res.ok (some y) st else Res.ok none st) = b at h0
  refine ⟨fun i m H' => m = wk.items.length - i ∧ i ≤ wk.items.length ∧ ∃ μ' st' acc accV, Step μ0 H0 μ' H' ∧ RelE G.K μ' H' env σ ∧ RelSt G.K μ' H' st' ∧ H' D = some (.lst accV) ∧ D ∉ μ' ∧ Reps G.K μ' H' acc accV ∧ acc.length ≤ sizeLine ∧
    PostE G μ0 H0 σ Wx (EV.RW G) ((cmpL wk.keep t b (wipeE env t.slots) (wk.items.drop i) acc st').bind fun ws st => .ok (.ref st.length) (st ++ [.lst ws])) Q, ?_, ?_⟩
  · refine ⟨wk.items.length, by simp, Nat.zero_le _, μ0, st0, [], [], Step.side hD _, e0.step (Step.side hD _), rs0.side hD _, upd_same, rs0.nin hD, rfl, Nat.zero_le _, h0⟩
  · rintro i m H' ⟨rfl, hi, μ', st', acc, accV, s', e', rs', hDl, hDn, racc, zacc, h'⟩
    by_cases hlt : i < wk.items.length
    · have ed : wk.items.drop i = wk.items[i] :: wk.items.drop (i + 1) := List.drop_eq_getElem_cons hlt
      rw [ed] at h'
      by_cases hk : wk.keep st'
      · simp only [cmpL, if_pos hk] at h'
        cases hbt : bindT t wk.items[i] (wipeE env t.slots) with
        | none => rw [hbt] at h'; exact h'.elim
        | some env1 =>
          rw [hbt] at h'
          simp only at h'
          refine .inr ⟨wko.go μ' H' st' i s' rs' hk hlt, fun H2 => ∃ μ2 st2 acc2 accV2, Step μ0 H0 μ2 H2 ∧ RelE G.K μ2 H2 env σ ∧ RelSt G.K μ2 H2 st2 ∧ H2 D = some (.lst accV2) ∧ D ∉ μ2 ∧ Reps G.K μ2 H2 acc2 accV2 ∧ acc2.length ≤ sizeLine ∧
            PostE G μ0 H0 σ Wx (EV.RW G) ((cmpL wk.keep t b (wipeE env t.slots) (wk.items.drop (i + 1)) acc2 st2).bind fun ws st => .ok (.ref st.length) (st ++ [.lst ws])) Q, fun H2 q => ?_, fun x H2 y => ?_⟩
          · exact ⟨wk.items.length - (i + 1), by omega, rfl, hlt, q⟩
          · obtain ⟨s2, rs2, w, ew, rw'⟩ := wko.yld μ' H' st' i x H2 s' rs' hk hlt y
            have ew' : w = wk.items[i] := by
              rw [List.getElem?_eq_getElem hlt] at ew
              exact (Option.some.inj ew).symm
            subst ew'
            have hD2 : H2 D = some (.lst accV) := s2.frame D _ hDl hDn
            -- D stays beside the places
            have beside : ∀ {μ3 : List Addr} {H3 : Hp}, Step μ' H2 μ3 H3 → D ∉ μ3 ∧ H3 D = some (.lst accV) := fun {μ3 H3} s3 => by
              refine ⟨fun hm => ?_, s3.frame D _ hD2 hDn⟩
              obtain ⟨tt, et, ft⟩ := s3.ext
              rw [et] at hm
              rcases List.mem_append.mp hm with hm | hm
              · exact hDn hm
              · rw [ft D hm] at hD2; cases hD2
            refine tgT_wipe (τ := σ) (own := t.slots) (fun _ z => z) (wipe_slots_eq σ _) ?_
            refine bindT_ok hbt rw' ((e'.step s2).wipe t.slots) fun σ3 e3 => ?_
            refine ⟨μ', env1, st', e3, rs2, ?_⟩
            have hbe : b env1 st' = (evC T c env1 st').bind fun k st => if k = true then (evE T e env1 st).bind fun y st => Res.ok (some y) st else Res.ok none st := by rw [← hb]
            rw [hbe] at h'
            cases hc : evC T c env1 st' with
            | bad => rw [hc] at h'; exact h'.elim
            | exn x4 st4 => rw [hc] at h'; exact h'.elim
            | ok k st1 =>
              rw [hc, Res.bind_ok] at h'
              intro μ1 k' H3 s1 rs1 ek
              have ek : k = k' := ek
              subst ek
              cases k with
              | false =>
                rw [if_neg Bool.false_ne_true] at h' ⊢
                obtain ⟨n1, n2⟩ := beside s1
                exact ⟨μ1, st1, acc, accV, (s'.trans s2).trans s1, (e'.step s2).step s1, rs1, n2, n1, (racc.step s2).step s1, zacc, h'⟩
              | true =>
                rw [if_pos rfl] at h' ⊢
                refine ⟨μ1, env1, st1, e3.step s1, rs1, ?_⟩
                cases hel : evE T e env1 st1 with
                | bad => rw [hel] at h'; exact h'.elim
                | exn x4 st4 => rw [hel] at h'; exact h'.elim
                | ok y st2 =>
                  rw [hel, Res.bind_ok] at h'
                  intro μ2 v H4 s3 rs3 rv
                  obtain ⟨n1, n2⟩ := beside (s1.trans s3)
                  by_cases hz : acc.length < line
                  · have h' := h'
                    simp only [if_pos hz] at h'
                    have hz' : acc.length < sizeLine := by rw [← line_eq]; exact hz
                    have hlen := racc.len
                    refine ⟨accV, n2, by rw [← hlen]; exact hz', μ2, st2, acc ++ [y], accV ++ [v], (((s'.trans s2).trans s1).trans s3).updL hD _, ?_, rs3.updL n2 n1 _, upd_same, n1, ?_, by rw [List.length_append]; exact hz', h'⟩
                    · have q := ((e'.step s2).step s1).step s3
                      exact ⟨q.1, fun i w z => let ⟨v, a, b⟩ := q.2 i w z; ⟨v, a, Rep.mono (keeps_upd n2 _) w b⟩⟩
                    · have q : Reps G.K μ2 H4 (acc ++ [y]) (accV ++ [v]) := (((racc.step s2).step s1).step s3).append (Reps.cons' rv Reps.nil')
                      exact Reps.mono (keeps_upd n2 _) _ q
                  · have h' := h'
                    simp only [if_neg hz] at h'
                    exact h'.elim
      · simp only [cmpL, if_neg hk] at h'
        exact h'.elim
    · have e1 : i = wk.items.length := by omega
      subst e1
      rw [List.drop_length] at h'
      by_cases hk : wk.keep st'
      · simp only [cmpL, if_pos hk, Res.bind_ok] at h'
        refine .inl ⟨wko.stop μ' H' st' s' rs' hk, ?_⟩
        have rA := rs'.add hDn (o := .lst acc) ⟨accV, hDl, Reps.mono (keeps_ext D H') acc racc, zacc⟩
        refine h' (μ' ++ [D]) (.ref D) H' (s'.addTo hD) rA ⟨D, rfl, ?_⟩
        rw [← rs'.len]; simp
      · simp only [cmpL, if_neg hk] at h'
        exact h'.elim
end EV

/-! EV6: one rule an expression: the layer's rule, read by the evaluator. -/
namespace EV
open PySem PySem.Spec PyProof.Rows L2

abbrev gm (X : Cx) (xn : Nat → Option Str) : Gm := ⟨X.K, X.mg, xn⟩
section
variable {X : Cx} {e : Expr} {es : List Expr}
theorem PE.imp {t t' : TE} (h : PE X e t) (k : ∀ σ H Q, t' σ H Q → t σ H Q) : PE X e t' := ⟨fun pins s σ H Q I hw => h.run pins s σ H Q I (k σ H Q hw)⟩
theorem PT.imp {t t' : TT} (h : PT X e t) (k : ∀ σ H Q, t' σ H Q → t σ H Q) : PT X e t' := ⟨fun pins s σ H Q I hw => h.run pins s σ H Q I (k σ H Q hw)⟩
theorem PW.imp {t t' : TT} (h : PW X e t) (k : ∀ σ H Q, t' σ H Q → t σ H Q) : PW X e t' := ⟨fun w pins s σ H Q I hw => h.run w pins s σ H Q I (k σ H Q hw)⟩
theorem PA.imp {t t' : TA} (h : PA X es t) (k : ∀ σ H Q, t' σ H Q → t σ H Q) : PA X es t' := ⟨fun pos pins s σ H Q I hw => h.run pos pins s σ H Q I (k σ H Q hw)⟩
theorem PO.imp {o : Option Expr} {t t' : TO} (h : PO X o t) (k : ∀ σ H Q, t' σ H Q → t σ H Q) : PO X o t' := ⟨fun pins s σ H Q I hw => h.run pins s σ H Q I (k σ H Q hw)⟩
theorem PI.imp {tg : Expr} {t t' : TI} (h : PI X tg e t) (k : ∀ σ H Q, t' σ H Q → t σ H Q) : PI X tg e t' := ⟨fun pins s σ H Q I hw => h.run pins s σ H Q I (k σ H Q hw)⟩
theorem PTs.imp {t t' : TT} (h : PTs X es t) (k : ∀ σ H Q, t' σ H Q → t σ H Q) : PTs X es t' := ⟨fun pins s σ H Q I hw => h.run pins s σ H Q I (k σ H Q hw)⟩
theorem PS.imp {st : Stmt} {t t' : TS} (h : PS X st t) (k : ∀ D σ H, t' D σ H → t D σ H) : PS X st t' := ⟨fun pins s σ H D I hw => h.run pins s σ H D I (k D σ H hw)⟩
theorem PSs.imp {st : List Stmt} {t t' : TS} (h : PSs X st t) (k : ∀ D σ H, t' D σ H → t D σ H) : PSs X st t' := ⟨fun pins s σ H D I hw => h.run pins s σ H D I (k D σ H hw)⟩
theorem PG.imp {t t' : TG} (h : PG X e t) (k : ∀ v σ H Q, t' v σ H Q → t v σ H Q) : PG X e t' := ⟨fun pins s σ H v u Q I r hw => h.run pins s σ H v u Q I r (k v σ H Q hw)⟩
end

def Pe (X : Cx) (xn : Nat → Option Str) (Wx : WX) (e : Expr) (r : Env → Store → Res W) : Prop := PE X e (tR (gm X xn) Wx (EV.RW (gm X xn)) r)
def Pt (X : Cx) (xn : Nat → Option Str) (Wx : WX) (e : Expr) (r : Env → Store → Res Bool) : Prop := PT X e (tR (gm X xn) Wx RB r)
def Pa (X : Cx) (xn : Nat → Option Str) (Wx : WX) (es : List Expr) (r : Env → Store → Res (List W)) : Prop := PA X es (tR (gm X xn) Wx (RWs (gm X xn)) r)
def Po (X : Cx) (xn : Nat → Option Str) (Wx : WX) (e : Option Expr) (r : Env → Store → Res (Option Int)) : Prop := PO X e (tR (gm X xn) Wx RP r)
def Pi (X : Cx) (xn : Nat → Option Str) (Wx : WX) (tg e : Expr) (r : Env → Store → Res Walkd) : Prop := PI X tg e (tR (gm X xn) Wx (RWk (gm X xn)) r)

section
variable {X : Cx} {xn : Nat → Option Str} {Wx : WX} {T : Fns} {a b c : Expr} {A B C : Ex} {pos : Pos}

theorem e_var {i : Nat} {x : Str} (hN : X.N[i]? = some x) (hv : Vis X.env.scope x) (hd : (x == ("__debug__" : Str)) = false) (hcd : (x == ("__classdict__" : Str)) = false) : Pe X xn Wx (.Name x pos) (evE T (.var i)) := by
  refine PE.imp (pe_var hN hv hd hcd) ?_
  rintro σ H Q ⟨μ, env, st, he, hs, h⟩
  simp only [evE] at h
  split at h
  · rename_i w e
    obtain ⟨v, e2, r⟩ := he.2 i w e
    exact ⟨v, e2, PostE.ok_here h hs r⟩
  · exact h.elim
/-- a value that is there at once -/
theorem e_con {v : V} {w : W} (hp : PE X a (tC v)) (r : ∀ μ H, Rep X.K μ H w v) : Pe X xn Wx a (evE T (.con w)) := by
  refine PE.imp hp ?_
  rintro σ H Q ⟨μ, env, st, he, hs, h⟩
  exact PostE.ok_here (R := EV.RW (gm X xn)) h hs (r μ H)

theorem e_bin (op : Bop) (ha : Pe X xn Wx a (evE T A)) (hb : Pe X xn Wx b (evE T B)) : Pe X xn Wx (.BinOp a op.py b pos) (evE T (.bin op A B)) := by
  refine PE.imp (pe_op (op_bin op) ha hb) ?_
  rintro σ H Q ⟨μ, env, st, he, hs, h⟩
  refine tR.bind he hs h fun μ1 v H1 w st1 s1 e1 rs1 r1 h1 => tR.bind e1 rs1 h1 fun μ2 u H2 w2 st2 s2 e2 rs2 r2 h2 => ?_
  exact bin_ok (G := gm X xn) op rs2 (Rep.step r1 s2) r2 h2
theorem e_neg (ha : Pe X xn Wx a (evE T A)) : Pe X xn Wx (.UnaryOp .USub a pos) (evE T (.neg A)) := by
  refine PE.imp (pe_un un_neg ha) ?_
  rintro σ H Q ⟨μ, env, st, he, hs, h⟩
  refine tR.bind he hs h fun μ1 v H1 w st1 s1 e1 rs1 r1 h1 => ?_
  cases w with
  | int i => exact ⟨i, Rep.int_ r1, PostE.ok_here (R := EV.RW (gm X xn)) h1 rs1 rfl⟩
  | _ => exact h1.elim
theorem ofO_bind {α β : Type} {o : Option α} {st : Store} {f : α → Store → Res β} {G : Gm} {μ : List Addr} {H : Hp} {σ : L2.St} {γ : Type} {R : List Addr → Hp → β → γ → Prop} {Q : γ → Hp → Prop} (h : PostE G μ H σ Wx R ((ofO o st).bind f) Q) :
    ∃ k, o = some k ∧ PostE G μ H σ Wx R (f k st) Q := by
  cases o with
  | none => exact h.elim
  | some k => exact ⟨k, rfl, h⟩
theorem e_cmp (hu : X.A.units + 65 < cLine) (op : Cop) (ha : Pe X xn Wx a (evE T A)) (hb : Pe X xn Wx b (evE T B)) (hm : behindInMarks op.py b = false) : Pe X xn Wx (.Compare a [op.py] [b] pos) (evE T (.cmp op A B)) := by
  refine PE.imp (pe_cmpR (op_cmp hu op) ha hb hm) ?_
  rintro σ H Q ⟨μ, env, st, he, hs, h⟩
  refine tR.bind he hs h fun μ1 v H1 w st1 s1 e1 rs1 r1 h1 => tR.bind e1 rs1 h1 fun μ2 u H2 w2 st2 s2 e2 rs2 r2 h2 => ?_
  obtain ⟨k, ek, h3⟩ := ofO_bind h2
  exact cmp_ok (G := gm X xn) op rs2 (Rep.step r1 s2) r2 ek (PostE.ok_here h3 rs2 rfl)
theorem evT_cmp (op : Cop) (env : Env) (st : Store) : evT T (.cmp op A B) env st = (evE T A env st).bind fun x st => (evE T B env st).bind fun y st => ofO (cmpW op st x y) st := by
  unfold evT
  simp only [evE]
  cases evE T A env st with
  | bad => rfl
  | exn x s => rfl
  | ok x s =>
    simp only [Res.bind_ok]
    cases evE T B env s with
    | bad => rfl
    | exn x s => rfl
    | ok y s2 =>
      simp only [Res.bind_ok]
      cases cmpW op s2 x y <;> rfl
theorem t_cmp (hu : X.A.units + 65 < cLine) (op : Cop) (ha : Pe X xn Wx a (evE T A)) (hb : Pe X xn Wx b (evE T B)) (hm : behindInMarks op.py b = false) : Pt X xn Wx (.Compare a [op.py] [b] pos) (evT T (.cmp op A B)) := by
  refine PT.imp (pt_cmpR (op_cmp hu op) ha hb hm) ?_
  rintro σ H Q ⟨μ, env, st, he, hs, h⟩
  rw [evT_cmp] at h
  refine tR.bind he hs h fun μ1 v H1 w st1 s1 e1 rs1 r1 h1 => tR.bind e1 rs1 h1 fun μ2 u H2 w2 st2 s2 e2 rs2 r2 h2 => ?_
  cases ek : cmpW op st2 w w2 with
  | none => rw [ek] at h2; exact h2.elim
  | some k =>
    rw [ek] at h2
    exact cmp_ok (G := gm X xn) op rs2 (Rep.step r1 s2) r2 ek ⟨k, rfl, PostE.ok_here (R := RB) h2 rs2 rfl⟩
theorem e_chain (hu : X.A.units + 65 < cLine) (o1 o2 : Cop) (ha : Pe X xn Wx a (evE T A)) (hb : Pe X xn Wx b (evE T B)) (hc : Pe X xn Wx c (evE T C)) (hm : lastMarks [o1.py, o2.py] [b, c] = false) :
    Pe X xn Wx (.Compare a [o1.py, o2.py] [b, c] pos) (evE T (.chain o1 o2 A B C)) := by
  refine PE.imp (pe_chain (op_cmp hu o1) (op_cmp hu o2) ha hb hc hm) ?_
  rintro σ H Q ⟨μ, env, st, he, hs, h⟩
  refine tR.bind he hs h fun μ1 v H1 w st1 s1 e1 rs1 r1 h1 => tR.bind e1 rs1 h1 fun μ2 u H2 w2 st2 s2 e2 rs2 r2 h2 => ?_
  obtain ⟨k, ek, h3⟩ := ofO_bind h2
  refine cmp_ok (G := gm X xn) o1 rs2 (Rep.step r1 s2) r2 ek ⟨k, rfl, ?_⟩
  cases k with
  | false =>
    rw [if_neg Bool.false_ne_true] at h3 ⊢
    exact PostE.ok_here (R := EV.RW (gm X xn)) h3 rs2 rfl
  | true =>
    rw [if_pos rfl] at h3 ⊢
    refine tR.bind e2 rs2 h3 fun μ3 z H3 w3 st3 s3 e3 rs3 r3 h4 => ?_
    obtain ⟨k2, ek2, h5⟩ := ofO_bind h4
    exact cmp_ok (G := gm X xn) o2 rs3 (Rep.step r2 s3) r3 ek2 (PostE.ok_here h5 rs3 rfl)
theorem t_chain (hu : X.A.units + 65 < cLine) (o1 o2 : Cop) (ha : Pe X xn Wx a (evE T A)) (hb : Pe X xn Wx b (evE T B)) (hc : Pe X xn Wx c (evE T C)) (hm : lastMarks [o1.py, o2.py] [b, c] = false) :
    Pt X xn Wx (.Compare a [o1.py, o2.py] [b, c] pos) (evT T (.chain o1 o2 A B C)) := by
  refine PT.imp (pt_chain (op_cmp hu o1) (op_cmp hu o2) ha hb hc hm) ?_
  rintro σ H Q ⟨μ, env, st, he, hs, h⟩
  have e : evT T (.chain o1 o2 A B C) env st = (evE T A env st).bind fun x st => (evE T B env st).bind fun y st => (ofO (cmpW o1 st x y) st).bind fun k st =>
      if k = true then (evE T C env st).bind fun z st => ofO (cmpW o2 st y z) st else .ok false st := by
    unfold evT
    simp only [evE]
    cases evE T A env st with
    | bad => rfl
    | exn x s => rfl
    | ok x s =>
      simp only [Res.bind_ok]
      cases evE T B env s with
      | bad => rfl
      | exn x s => rfl
      | ok y s2 =>
        simp only [Res.bind_ok]
        cases cmpW o1 s2 x y with
        | none => rfl
        | some k =>
          cases k with
          | false => rfl
          | true =>
            simp only [ofO_some, Res.bind_ok, if_true]
            cases evE T C env s2 with
            | bad => rfl
            | exn x s => rfl
            | ok z s3 =>
              simp only [Res.bind_ok]
              cases cmpW o2 s3 y z <;> rfl
  rw [e] at h
  refine tR.bind he hs h fun μ1 v H1 w st1 s1 e1 rs1 r1 h1 => tR.bind e1 rs1 h1 fun μ2 u H2 w2 st2 s2 e2 rs2 r2 h2 => ?_
  obtain ⟨k, ek, h3⟩ := ofO_bind h2
  refine cmp_ok (G := gm X xn) o1 rs2 (Rep.step r1 s2) r2 ek ⟨k, rfl, ?_⟩
  cases k with
  | false =>
    rw [if_neg Bool.false_ne_true] at h3 ⊢
    exact ⟨false, rfl, PostE.ok_here (R := RB) h3 rs2 rfl⟩
  | true =>
    rw [if_pos rfl] at h3 ⊢
    refine tR.bind e2 rs2 h3 fun μ3 z H3 w3 st3 s3 e3 rs3 r3 h4 => ?_
    cases ek2 : cmpW o2 st3 w2 w3 with
    | none => rw [ek2] at h4; exact h4.elim
    | some k2 =>
      rw [ek2] at h4
      exact cmp_ok (G := gm X xn) o2 rs3 (Rep.step r2 s3) r3 ek2 ⟨k2, rfl, PostE.ok_here (R := RB) h4 rs3 rfl⟩

/-! ### is None -/
theorem rep_non {K : PySem.W.Frag} {μ : List Addr} {H : Hp} {w : W} {v : V} (r : Rep K μ H w v) : decide (v = .non) = isNonW w := by
  cases w with
  | non => have e := r.non_; subst e; rfl
  | bl b => have e := r.bl_; subst e; rfl
  | int b => have e := r.int_; subst e; rfl
  | str b => have e := r.str_.1; subst e; rfl
  | tup b => obtain ⟨p, xs, rfl, _⟩ := r.tup_; rfl
  | ref n => obtain ⟨p, rfl, _⟩ := r.ref_; rfl
  | fls n => obtain ⟨p, xs, rfl, _⟩ := r.fls_; rfl
  | ty n =>
    have e : v = .ty n := r
    subst e; rfl
theorem e_isN (ha : Pe X xn Wx a (evE T A)) {k : Nat} {p : Pos} : Pe X xn Wx (.Compare a [.Is] [.Constant .none k p] pos) (evE T (.isN A)) := by
  refine PE.imp (pe_cmpR op_isN ha pe_non (nomark _)) ?_
  rintro σ H Q ⟨μ, env, st, he, hs, h⟩
  refine tR.bind he hs h fun μ1 v H1 w st1 s1 e1 rs1 r1 h1 => ⟨rfl, ?_⟩
  rw [rep_non r1]
  exact PostE.ok_here (R := EV.RW (gm X xn)) h1 rs1 rfl
theorem e_notN (ha : Pe X xn Wx a (evE T A)) {k : Nat} {p : Pos} : Pe X xn Wx (.Compare a [.IsNot] [.Constant .none k p] pos) (evE T (.notN A)) := by
  refine PE.imp (pe_cmpR op_notN ha pe_non (nomark _)) ?_
  rintro σ H Q ⟨μ, env, st, he, hs, h⟩
  refine tR.bind he hs h fun μ1 v H1 w st1 s1 e1 rs1 r1 h1 => ⟨rfl, ?_⟩
  rw [rep_non r1]
  exact PostE.ok_here (R := EV.RW (gm X xn)) h1 rs1 rfl
theorem t_isN (ha : Pe X xn Wx a (evE T A)) {k : Nat} {p : Pos} : Pt X xn Wx (.Compare a [.Is] [.Constant .none k p] pos) (evT T (.isN A)) := by
  refine PT.imp (pt_cmpR op_isN ha pe_non (nomark _)) ?_
  rintro σ H Q ⟨μ, env, st, he, hs, h⟩
  have e : evT T (.isN A) env st = (evE T A env st).bind fun x st => .ok (isNonW x) st := by
    unfold evT
    simp only [evE]
    cases evE T A env st with
    | bad => rfl
    | exn x s => rfl
    | ok x s => cases x <;> rfl
  rw [e] at h
  refine tR.bind he hs h fun μ1 v H1 w st1 s1 e1 rs1 r1 h1 => ⟨rfl, _, rfl, ?_⟩
  rw [rep_non r1]
  exact PostE.ok_here (R := RB) h1 rs1 rfl
theorem t_notN (ha : Pe X xn Wx a (evE T A)) {k : Nat} {p : Pos} : Pt X xn Wx (.Compare a [.IsNot] [.Constant .none k p] pos) (evT T (.notN A)) := by
  refine PT.imp (pt_cmpR op_notN ha pe_non (nomark _)) ?_
  rintro σ H Q ⟨μ, env, st, he, hs, h⟩
  have e : evT T (.notN A) env st = (evE T A env st).bind fun x st => .ok (!isNonW x) st := by
    unfold evT
    simp only [evE]
    cases evE T A env st with
    | bad => rfl
    | exn x s => rfl
    | ok x s => cases x <;> rfl
  rw [e] at h
  refine tR.bind he hs h fun μ1 v H1 w st1 s1 e1 rs1 r1 h1 => ⟨rfl, _, rfl, ?_⟩
  rw [rep_non r1]
  exact PostE.ok_here (R := RB) h1 rs1 rfl

/-! ### truth -/
theorem t_plain (ha : Pe X xn Wx a (evE T A)) (hp : ∀ whole, isTrue a X.env whole = (do let v ← whole; standAt a.pos; holding [v] (truthy v))) : Pt X xn Wx a (evT T A) := by
  refine PT.imp (pt_truth ha hp) ?_
  rintro σ H Q ⟨μ, env, st, he, hs, h⟩
  refine tR.bind he hs h fun μ1 v H1 w st1 s1 e1 rs1 r1 h1 => ?_
  cases ek : truW st1 w with
  | none => rw [ek] at h1; exact h1.elim
  | some k =>
    rw [ek] at h1
    exact ⟨k, tru_of (G := gm X xn) rs1 r1 ek, PostE.ok_here (R := RB) h1 rs1 rfl⟩
theorem e_and {rest : List Expr} (ha : Pe X xn Wx a (evE T A)) (hb : Pe X xn Wx (.BoolOp .And (b :: rest) pos) (evE T B)) : Pe X xn Wx (.BoolOp .And (a :: b :: rest) pos) (evE T (.and A B)) := by
  refine PE.imp (pe_andT ha hb) ?_
  rintro σ H Q ⟨μ, env, st, he, hs, h⟩
  refine tR.bind he hs h fun μ1 v H1 w st1 s1 e1 rs1 r1 h1 => ?_
  obtain ⟨k, ek, h3⟩ := ofO_bind h1
  refine ⟨k, tru_of (G := gm X xn) rs1 r1 ek, ?_⟩
  cases k with
  | true =>
    rw [if_pos rfl] at h3 ⊢
    exact tR.here e1 rs1 h3
  | false =>
    rw [if_neg Bool.false_ne_true] at h3 ⊢
    exact PostE.ok_here (R := EV.RW (gm X xn)) h3 rs1 r1
theorem e_or {rest : List Expr} (ha : Pe X xn Wx a (evE T A)) (hb : Pe X xn Wx (.BoolOp .Or (b :: rest) pos) (evE T B)) : Pe X xn Wx (.BoolOp .Or (a :: b :: rest) pos) (evE T (.or A B)) := by
  refine PE.imp (pe_orT ha hb) ?_
  rintro σ H Q ⟨μ, env, st, he, hs, h⟩
  refine tR.bind he hs h fun μ1 v H1 w st1 s1 e1 rs1 r1 h1 => ?_
  obtain ⟨k, ek, h3⟩ := ofO_bind h1
  refine ⟨k, tru_of (G := gm X xn) rs1 r1 ek, ?_⟩
  cases k with
  | true =>
    rw [if_pos rfl] at h3 ⊢
    exact PostE.ok_here (R := EV.RW (gm X xn)) h3 rs1 r1
  | false =>
    rw [if_neg Bool.false_ne_true] at h3 ⊢
    exact tR.here e1 rs1 h3
theorem e_one {op : BoolOp} (ha : Pe X xn Wx a (evE T A)) : Pe X xn Wx (.BoolOp op [a] pos) (evE T A) := pe_one ha
theorem e_not (ha : Pe X xn Wx a (evE T A)) : Pe X xn Wx (.UnaryOp .Not a pos) (evE T (.not A)) := by
  refine PE.imp (pe_notT ha) ?_
  rintro σ H Q ⟨μ, env, st, he, hs, h⟩
  refine tR.bind he hs h fun μ1 v H1 w st1 s1 e1 rs1 r1 h1 => ?_
  obtain ⟨k, ek, h3⟩ := ofO_bind h1
  exact ⟨k, tru_of (G := gm X xn) rs1 r1 ek, PostE.ok_here (R := EV.RW (gm X xn)) h3 rs1 rfl⟩
theorem t_not (ha : Pt X xn Wx a (evT T A)) : Pt X xn Wx (.UnaryOp .Not a pos) (evT T (.not A)) := by
  refine PT.imp (pt_not ha) ?_
  rintro σ H Q ⟨μ, env, st, he, hs, h⟩
  have e : evT T (.not A) env st = (evT T A env st).bind fun k st => .ok (!k) st := by
    unfold evT
    simp only [evE]
    cases evE T A env st with
    | bad => rfl
    | exn x s => rfl
    | ok x s =>
      simp only [Res.bind_ok]
      cases truW s x <;> rfl
  rw [e] at h
  refine tR.bind he hs h fun μ1 v H1 w st1 s1 e1 rs1 r1 h1 => ?_
  have r1 : w = v := r1
  subst r1
  exact PostE.ok_here (R := RB) h1 rs1 rfl
theorem evT_and (env : Env) (st : Store) : evT T (.and A B) env st = (evT T A env st).bind fun k st => if k = true then evT T B env st else .ok false st := by
  unfold evT
  simp only [evE]
  cases evE T A env st with
  | bad => rfl
  | exn x s => rfl
  | ok x s =>
    simp only [Res.bind_ok]
    cases hk : truW s x with
    | none => rfl
    | some k =>
      cases k with
      | true => rfl
      | false => simp [hk]
theorem evT_or (env : Env) (st : Store) : evT T (.or A B) env st = (evT T A env st).bind fun k st => if k = true then .ok true st else evT T B env st := by
  unfold evT
  simp only [evE]
  cases evE T A env st with
  | bad => rfl
  | exn x s => rfl
  | ok x s =>
    simp only [Res.bind_ok]
    cases hk : truW s x with
    | none => rfl
    | some k =>
      cases k with
      | true => simp [hk]
      | false => rfl
/-- and, or as tests, whatever the whole -/
def Pw (X : Cx) (xn : Nat → Option Str) (Wx : WX) (e : Expr) (r : Env → Store → Res Bool) : Prop := PW X e (tR (gm X xn) Wx RB r)
theorem w_and {rest : List Expr} (ha : Pt X xn Wx a (evT T A)) (hb : Pw X xn Wx (.BoolOp .And (b :: rest) pos) (evT T B)) : Pw X xn Wx (.BoolOp .And (a :: b :: rest) pos) (evT T (.and A B)) := by
  refine PW.imp (pw_and ha hb) ?_
  rintro σ H Q ⟨μ, env, st, he, hs, h⟩
  rw [evT_and] at h
  refine tR.bind he hs h fun μ1 v H1 w st1 s1 e1 rs1 r1 h1 => ?_
  have r1 : w = v := r1
  subst r1
  cases w with
  | true =>
    rw [if_pos rfl] at h1 ⊢
    exact tR.here e1 rs1 h1
  | false =>
    rw [if_neg Bool.false_ne_true] at h1 ⊢
    exact PostE.ok_here (R := RB) h1 rs1 rfl
theorem w_or {rest : List Expr} (ha : Pt X xn Wx a (evT T A)) (hb : Pw X xn Wx (.BoolOp .Or (b :: rest) pos) (evT T B)) : Pw X xn Wx (.BoolOp .Or (a :: b :: rest) pos) (evT T (.or A B)) := by
  refine PW.imp (pw_or ha hb) ?_
  rintro σ H Q ⟨μ, env, st, he, hs, h⟩
  rw [evT_or] at h
  refine tR.bind he hs h fun μ1 v H1 w st1 s1 e1 rs1 r1 h1 => ?_
  have r1 : w = v := r1
  subst r1
  cases w with
  | true =>
    rw [if_pos rfl] at h1 ⊢
    exact PostE.ok_here (R := RB) h1 rs1 rfl
  | false =>
    rw [if_neg Bool.false_ne_true] at h1 ⊢
    exact tR.here e1 rs1 h1
theorem w_and1 (ha : Pt X xn Wx a (evT T A)) : Pw X xn Wx (.BoolOp .And [a] pos) (evT T A) := pw_and1 ha
theorem w_or1 (ha : Pt X xn Wx a (evT T A)) : Pw X xn Wx (.BoolOp .Or [a] pos) (evT T A) := pw_or1 ha
theorem Pw.pt (h : Pw X xn Wx a (evT T A)) : Pt X xn Wx a (evT T A) := PW.pt h
theorem e_ite (hc : Pt X xn Wx c (evT T C)) (ha : Pe X xn Wx a (evE T A)) (hb : Pe X xn Wx b (evE T B)) : Pe X xn Wx (.IfExp c a b pos) (evE T (.ite C A B)) := by
  refine PE.imp (pe_ifExp hc ha hb) ?_
  rintro σ H Q ⟨μ, env, st, he, hs, h⟩
  have e : evE T (.ite C A B) env st = (evT T C env st).bind fun k st => if k = true then evE T A env st else evE T B env st := by
    unfold evT
    simp only [evE]
    cases evE T C env st with
    | bad => rfl
    | exn x s => rfl
    | ok x s => rfl
  rw [e] at h
  refine tR.bind he hs h fun μ1 v H1 w st1 s1 e1 rs1 r1 h1 => ?_
  have r1 : w = v := r1
  subst r1
  cases w with
  | true =>
    rw [if_pos rfl] at h1 ⊢
    exact tR.here e1 rs1 h1
  | false =>
    rw [if_neg Bool.false_ne_true] at h1 ⊢
    exact tR.here e1 rs1 h1
theorem t_ite (hc : Pt X xn Wx c (evT T C)) (ha : Pt X xn Wx a (evT T A)) (hb : Pt X xn Wx b (evT T B)) : Pt X xn Wx (.IfExp c a b pos) (evT T (.ite C A B)) := by
  refine ⟨fun pins s σ H Q I h => ?_⟩
  rw [arm_isTrue_IfExp]
  obtain ⟨μ, env, st, he, hs, h⟩ := h
  have e : evT T (.ite C A B) env st = (evT T C env st).bind fun k st => if k = true then evT T A env st else evT T B env st := by
    unfold evT
    simp only [evE]
    cases evE T C env st with
    | bad => rfl
    | exn x s => rfl
    | ok x s =>
      simp only [Res.bind_ok]
      cases truW s x with
      | none => rfl
      | some k => cases k <;> rfl
  rw [e] at h
  refine wpAny_bind (thn (hc.run pins s σ H (fun d H1 => if d = true then tR (gm X xn) Wx RB (evT T A) σ H1 Q else tR (gm X xn) Wx RB (evT T B) σ H1 Q) I ?_) fun d s1 q => ?_)
  · refine tR.bind he hs h fun μ1 v H1 w st1 s1 e1 rs1 r1 h1 => ?_
    have r1 : w = v := r1
    subst r1
    cases w with
    | true =>
      rw [if_pos rfl] at h1 ⊢
      exact tR.here e1 rs1 h1
    | false =>
      rw [if_neg Bool.false_ne_true] at h1 ⊢
      exact tR.here e1 rs1 h1
  · obtain ⟨H1, I1, q1⟩ := q
    cases d with
    | true =>
      rw [if_pos rfl] at q1 ⊢
      exact ha.run pins s1 σ H1 Q I1 q1
    | false =>
      rw [if_neg Bool.false_ne_true] at q1 ⊢
      exact hb.run pins s1 σ H1 Q I1 q1

/-! ### argument lists, displays -/
theorem a_nil : Pa X xn Wx [] (evEs T .nil) := by
  refine PA.imp pa_nil ?_
  rintro σ H Q ⟨μ, env, st, he, hs, h⟩
  exact PostE.ok_here (R := RWs (gm X xn)) h hs ⟨rfl, Nat.zero_le _⟩
theorem a_cons {es : List Expr} {Es : Exs} (ha : Pe X xn Wx a (evE T A)) (hr : Pa X xn Wx es (evEs T Es)) (hst : starEach (a :: es) X.env = (false, eval a X.env) :: starEach es X.env) (hz : es.length < 1000) (hl : ∀ env st ws st', evEs T Es env st = .ok ws st' → ws.length = es.length) :
    Pa X xn Wx (a :: es) (evEs T (.cons A Es)) := by
  refine PA.imp (pa_cons ha hr hst) ?_
  rintro σ H Q ⟨μ, env, st, he, hs, h⟩
  refine tR.bind he hs h fun μ1 v H1 w st1 s1 e1 rs1 r1 h1 => ?_
  refine tR.here e1 rs1 (PostE.bind h1 fun μ2 u H2 w2 st2 e s2 rs2 r2 h2 => ?_)
  have e3 := hl _ _ _ _ e
  refine PostE.ok_here (R := RWs (gm X xn)) h2 rs2 ⟨Reps.cons' (Rep.step r1 s2) r2.1, ?_⟩
  rw [List.length_cons, e3, sizeLine_eq]
  omega
theorem e_tup {es : List Expr} {Es : Exs} {k : Nat} (ha : Pa X xn Wx es (evEs T Es)) : Pe X xn Wx (.Tuple es k pos) (evE T (.tup Es)) := by
  refine PE.imp (pe_tup ha) ?_
  rintro σ H Q ⟨μ, env, st, he, hs, h⟩
  refine tR.bind he hs h fun μ1 v H1 w st1 s1 e1 rs1 r1 h1 => ?_
  refine ⟨by rw [← r1.1.len]; exact r1.2, fun p hp => ?_⟩
  exact h1 _ _ _ (Step.side hp _) (rs1.side hp _) (newT hp r1.1 r1.2)
theorem e_lst {es : List Expr} {Es : Exs} (ha : Pa X xn Wx es (evEs T Es)) : Pe X xn Wx (.List es pos) (evE T (.lst Es)) := by
  refine PE.imp (pe_lst ha) ?_
  rintro σ H Q ⟨μ, env, st, he, hs, h⟩
  refine tR.bind he hs h fun μ1 v H1 w st1 s1 e1 rs1 r1 h1 => ?_
  refine ⟨by rw [← r1.1.len]; exact r1.2, fun p hp => ?_⟩
  obtain ⟨k1, k2, k3⟩ := rs1.newL hp r1.1 r1.2
  exact h1 _ _ _ k2 k1 k3

/-! ### subscripts, slices -/
theorem e_idx (ha : Pe X xn Wx a (evE T A)) (hb : Pe X xn Wx b (evE T B)) (hp : PlainIx b) : Pe X xn Wx (.Subscript a b pos) (evE T (.idx A B)) := by
  refine PE.imp (pe_ix ix_seq ha hb hp) ?_
  rintro σ H Q ⟨μ, env, st, he, hs, h⟩
  refine tR.bind he hs h fun μ1 v H1 w st1 s1 e1 rs1 r1 h1 => tR.bind e1 rs1 h1 fun μ2 u H2 w2 st2 s2 e2 rs2 r2 h2 => ?_
  cases ek : idxW st2 w w2 with
  | none => rw [ek] at h2; exact h2.elim
  | some z =>
    rw [ek] at h2
    exact idx_ok (G := gm X xn) rs2 (Rep.step r1 s2) r2 ek fun z' r3 => PostE.ok_here (R := EV.RW (gm X xn)) h2 rs2 r3
theorem p_no : Po X xn Wx none (evP T .no) := by
  refine PO.imp po_none ?_
  rintro σ H Q ⟨μ, env, st, he, hs, h⟩
  exact PostE.ok_here (R := RP) h hs rfl
theorem p_yes (ha : Pe X xn Wx a (evE T A)) : Po X xn Wx (some a) (evP T (.yes A)) := by
  refine PO.imp (po_some ha) ?_
  rintro σ H Q ⟨μ, env, st, he, hs, h⟩
  refine tR.bind he hs h fun μ1 v H1 w st1 s1 e1 rs1 r1 h1 => ?_
  cases w with
  | int i => exact ⟨i, Rep.int_ r1, PostE.ok_here (R := RP) h1 rs1 rfl⟩
  | _ => exact h1.elim
theorem e_slc {lo hi : Option Expr} {L U : Ox} {p2 : Pos} (ha : Pe X xn Wx a (evE T A)) (hl : Po X xn Wx lo (evP T L)) (hh : Po X xn Wx hi (evP T U)) : Pe X xn Wx (.Subscript a (.Slice lo hi none p2) pos) (evE T (.slc A L U)) := by
  refine PE.imp (pe_slice sl_any ha hl hh) ?_
  rintro σ H Q ⟨μ, env, st, he, hs, h⟩
  refine tR.bind he hs h fun μ1 v H1 w st1 s1 e1 rs1 r1 h1 => tR.bind e1 rs1 h1 fun μ2 u H2 w2 st2 s2 e2 rs2 r2 h2 => tR.bind e2 rs2 h2 fun μ3 u3 H3 w3 st3 s3 e3 rs3 r3 h3 => ?_
  have r2 : w2 = u := r2
  have r3 : w3 = u3 := r3
  subst r2 r3
  exact slc_ok (G := gm X xn) rs3 (Rep.step (Rep.step r1 s2) s3) h3

/-! ### calls of built-ins -/
theorem e_blt {es : List Expr} {Es : Exs} (bt : Blt) {x : Str} {p : Pos} (hc : X.calm = true) (hx : x = bt.name) (hg : Gl X x) (hm : X.mg x = none) (ha : Pa X xn Wx (a :: es) (evEs T Es)) (hst : starEach (a :: es) X.env = (false, eval a X.env) :: starEach es X.env)
    (hpl : (backTo pos (starEach es X.env)).any (·.1) = false) : Pe X xn Wx (.Call (.Name x p) (a :: es) [] pos) (evE T (.blt bt Es)) := by
  subst hx
  have key : PE X (.Call (.Name bt.name p) (a :: es) [] pos) (tCB (rBlt X.K bt) (tR (gm X xn) Wx (RWs (gm X xn)) (evEs T Es))) := by
    have cr := call_blt hc bt
    have hv := blt_boot bt
    cases bt <;> first
      | exact pe_callB cr hg hm hv ha (by decide) (by decide) hst hpl
      | exact pe_callTy cr hg hm hv ha (by decide) (by decide) hst hpl
  refine PE.imp key ?_
  rintro σ H Q ⟨μ, env, st, he, hs, h⟩
  refine tR.bind he hs h fun μ1 v H1 w st1 s1 e1 rs1 r1 h1 => ?_
  exact blt_ok (G := gm X xn) bt rs1 r1.1 h1
end
end EV

/-! EV7: what is walked, comprehensions, calls, methods, isinstance. -/
namespace EV
open PySem PySem.Spec PyProof.Rows L2

/-- a list, a tuple or a text is walked -/
def iSeq (K : PySem.W.Frag) (tl : TE) : TI := fun σ H R => tl σ H fun x H1 => (∃ a, x = .ref a ∧ (∃ xs, SqL K H1 a xs) ∧ R (Itl K a) H1) ∨ (∃ a, x = .ref a ∧ (∃ xs, SqT K H1 a xs) ∧ R (Itt K a) H1) ∨ (∃ z, x = .str z ∧ R (Its z) H1)
theorem pi_seq {X : Cx} {tg l : Expr} {tl : TE} (hl : PE X l tl) : PI X tg l (iSeq X.K tl) := by
  refine ⟨fun pins s σ H R I h => ?_⟩
  refine thn (hl.run pins s σ H _ I h) fun v s1 ⟨x, H1, I1, r1, q1⟩ => ?_
  rcases q1 with ⟨a, e, ⟨xs, hq⟩, q⟩ | ⟨a, e, ⟨xs, hq⟩, q⟩ | ⟨z, e, q⟩
  · subst e
    cases r1
    obtain ⟨its, rv, p, hz⟩ := I1.list hq
    refine wpAny_pyIter_list p.isList ?_
    refine ⟨s1.heap.objs.size, [s1.heap.objs.size], _, _, H1, rfl, I1.kept (t' := s1.toks) fun b o e => Heap.get?_push_of_some _ e, turn_list a _, ⟨_, Heap.get?_push_size _ rfl, rfl, rfl⟩, fun b hb => ?_, q⟩
    have e : b = s1.heap.objs.size := by simpa using hb
    subst e
    exact I1.fpOk (Nat.le_refl _) (I1.hok.fresh (Nat.le_refl _))
  · subst e
    cases r1
    obtain ⟨its, rv, p, hz⟩ := I1.tuple hq
    refine wpAny_pyIter_tuple (show s1.heap.IsTuple a its.toArray from p) ?_
    refine ⟨s1.heap.objs.size, [s1.heap.objs.size], _, _, H1, rfl, I1.kept (t' := s1.toks) fun b o e => Heap.get?_push_of_some _ e, turn_tuple a _, ⟨_, Heap.get?_push_size _ rfl, rfl, rfl⟩, fun b hb => ?_, q⟩
    have e : b = s1.heap.objs.size := by simpa using hb
    subst e
    exact I1.fpOk (Nat.le_refl _) (I1.hok.fresh (Nat.le_refl _))
  · subst e
    obtain ⟨t, rfl⟩ := r1
    cases ha : z.cps.all (· < 128)
    · exact wpAny_pyIter_wide ha (pi_one (tk := s1.toks) I1 _ (turn_str _ z t "str_iterator" (.inr rfl)) ⟨_, Heap.get?_push_size _ rfl, rfl, rfl⟩ q)
    · exact wpAny_pyIter_ascii ha (pi_one (tk := s1.toks) I1 _ (turn_str _ z t "str_ascii_iterator" (.inl rfl)) ⟨_, Heap.get?_push_size _ rfl, rfl, rfl⟩ q)

section
variable {X : Cx} {xn : Nat → Option Str} {Wx : WX} {T : Fns} {a b tg : Expr} {A B : Ex} {pos : Pos}

/-- what a value gives to walk over -/
theorem seqK_ok {G : Gm} {μ : List Addr} {H : Hp} {st : Store} {x : W} {v : V} {wk : Walkd} (hs : RelSt G.K μ H st) (r : Rep G.K μ H x v) (e : seqK st x = some wk) :
    (∃ a, v = .ref a ∧ (∃ xs, SqL G.K H a xs) ∧ WkOk G.K μ H (Itl G.K a) wk) ∨ (∃ a, v = .ref a ∧ (∃ xs, SqT G.K H a xs) ∧ WkOk G.K μ H (Itt G.K a) wk) ∨ (∃ z, v = .str z ∧ WkOk G.K μ H (Its z) wk) := by
  cases x with
  | tup ws =>
    obtain ⟨p, xs, rfl, tx, r1, z1⟩ := r.tup_
    simp only [seqK, Option.some.injEq] at e
    subst e
    exact .inr (.inl ⟨p, rfl, ⟨xs, tx.sq⟩, wk_tup tx r1⟩)
  | ref n =>
    obtain ⟨p, rfl, hp⟩ := r.ref_
    simp only [seqK] at e
    split at e
    · rename_i ws q
      simp only [Option.some.injEq] at e
      subst e
      obtain ⟨xs, h1, r1, z1⟩ := hs.lst hp q
      exact .inl ⟨p, rfl, ⟨xs, SqL.of h1⟩, wk_lst hp⟩
    · cases e
  | fls ws =>
    obtain ⟨p, xs, rfl, tx, r1, z1⟩ := r.fls_
    simp only [seqK, Option.some.injEq] at e
    subst e
    exact .inl ⟨p, rfl, ⟨xs, tx.sq⟩, wk_fls tx r1⟩
  | str z =>
    obtain ⟨rfl, h1, h2⟩ := r.str_
    simp only [seqK, Option.some.injEq] at e
    subst e
    exact .inr (.inr ⟨z, rfl, wk_str h2⟩)
  | _ => simp [seqK] at e
theorem i_seq (ha : Pe X xn Wx a (evE T A)) : Pi X xn Wx tg a (evI T (.seq A)) := by
  refine PI.imp (pi_seq ha) ?_
  rintro σ H R ⟨μ, env, st, he, hs, h⟩
  refine tR.bind he hs h fun μ1 v H1 w st1 s1 e1 rs1 r1 h1 => ?_
  cases e : seqK st1 w with
  | none => rw [e] at h1; exact h1.elim
  | some wk =>
    rw [e] at h1
    rcases seqK_ok (G := gm X xn) rs1 r1 e with ⟨p, ev, hx, q⟩ | ⟨p, ev, hx, q⟩ | ⟨z, ev, q⟩
    · exact .inl ⟨p, ev, hx, PostE.ok_here (R := RWk (gm X xn)) h1 rs1 q⟩
    · exact .inr (.inl ⟨p, ev, hx, PostE.ok_here (R := RWk (gm X xn)) h1 rs1 q⟩)
    · exact .inr (.inr ⟨z, ev, PostE.ok_here (R := RWk (gm X xn)) h1 rs1 q⟩)
/-- one argument -/
theorem a_one {es : List Expr} {Es : Exs} {env : Env} {st : Store} {σ : L2.St} {H : Hp} {μ : List Addr} {α β : Type} {R : List Addr → Hp → α → β → Prop} {f : W → Store → Res α} {Q : β → Hp → Prop} {C : List V → Hp → Prop}
    (he : RelE X.K μ H env σ) (hs : RelSt X.K μ H st) (h : PostE (gm X xn) μ H σ Wx R ((evE T A env st).bind f) Q)
    (k : ∀ μ1 v H1 w st1, Step μ H μ1 H1 → RelE X.K μ1 H1 env σ → RelSt X.K μ1 H1 st1 → Rep X.K μ1 H1 w v → PostE (gm X xn) μ1 H1 σ Wx R (f w st1) Q → C [v] H1) : tR (gm X xn) Wx (RWs (gm X xn)) (evEs T (.cons A .nil)) σ H C := by
  refine ⟨μ, env, st, he, hs, ?_⟩
  show PostE (gm X xn) μ H σ Wx (RWs (gm X xn)) ((evE T A env st).bind fun w st => .ok [w] st) C
  cases e : evE T A env st with
  | bad => rw [e] at h; exact h.elim
  | exn x s => rw [e] at h; exact h
  | ok w s =>
    rw [e] at h
    intro μ1 vs H1 s1 rs1 r1
    obtain ⟨v, rfl, rv⟩ := Reps.one r1.1
    exact k μ1 v H1 w s s1 (he.step s1) rs1 rv (PostE.trans s1 h)
theorem a_two {env : Env} {st : Store} {σ : L2.St} {H : Hp} {μ : List Addr} {α β : Type} {R : List Addr → Hp → α → β → Prop} {f : W → W → Store → Res α} {Q : β → Hp → Prop} {C : List V → Hp → Prop}
    (he : RelE X.K μ H env σ) (hs : RelSt X.K μ H st) (h : PostE (gm X xn) μ H σ Wx R ((evE T A env st).bind fun x st => (evE T B env st).bind fun y st => f x y st) Q)
    (k : ∀ μ1 v u H1 w z st1, Step μ H μ1 H1 → RelE X.K μ1 H1 env σ → RelSt X.K μ1 H1 st1 → Rep X.K μ1 H1 w v → Rep X.K μ1 H1 z u → PostE (gm X xn) μ1 H1 σ Wx R (f w z st1) Q → C [v, u] H1) :
    tR (gm X xn) Wx (RWs (gm X xn)) (evEs T (.cons A (.cons B .nil))) σ H C := by
  refine ⟨μ, env, st, he, hs, ?_⟩
  show PostE (gm X xn) μ H σ Wx (RWs (gm X xn)) ((evE T A env st).bind fun w st => ((evE T B env st).bind fun w st => .ok [w] st).bind fun ws st => .ok (w :: ws) st) C
  cases e : evE T A env st with
  | bad => rw [e] at h; exact h.elim
  | exn x s => rw [e] at h; exact h
  | ok w s =>
    rw [e] at h
    simp only [Res.bind_ok] at h ⊢
    cases e2 : evE T B env s with
    | bad => rw [e2] at h; exact h.elim
    | exn x s => rw [e2] at h; exact h
    | ok z s2 =>
      rw [e2] at h
      simp only [Res.bind_ok] at h ⊢
      intro μ1 vs H1 s1 rs1 r1
      obtain ⟨v, u, rfl, rv, ru⟩ := Reps.two r1.1
      exact k μ1 v u H1 w z s2 s1 (he.step s1) rs1 rv ru (PostE.trans s1 h)
theorem i_rng1 {p : Pos} (hg : Gl X "range") (hm : X.mg "range" = none) (hb : Pa X xn Wx [b] (evEs T (.cons B .nil))) (hst : starEach [b] X.env = [(false, eval b X.env)]) : Pi X xn Wx tg (.Call (.Name "range" p) [b] [] pos) (evI T (.rng1 B)) := by
  refine PI.imp (pi_range1 hg hm hb hst) ?_
  rintro σ H R ⟨μ, env, st, he, hs, h⟩
  refine a_one (es := []) (Es := .nil) he hs h fun μ1 v H1 w st1 s1 e1 rs1 r1 h1 => ?_
  cases w with
  | int j =>
    simp only at h1
    split at h1
    · rename_i hz
      refine ⟨j, by rw [Rep.int_ r1], hz.1, hz.2, PostE.ok_here (R := RWk (gm X xn)) h1 rs1 ?_⟩
      have q : WkOk X.K μ1 H1 (Itr 0 (j - 0).toNat) ⟨rangeW 0 j, fun _ => True⟩ := wk_rng
      rw [Int.sub_zero] at q
      exact q
    · exact h1.elim
  | _ => exact h1.elim
theorem i_rng2 {p : Pos} (hg : Gl X "range") (hm : X.mg "range" = none) (hb : Pa X xn Wx [a, b] (evEs T (.cons A (.cons B .nil)))) (hst : starEach [a, b] X.env = [(false, eval a X.env), (false, eval b X.env)]) (hst2 : starEach [b] X.env = [(false, eval b X.env)]) :
    Pi X xn Wx tg (.Call (.Name "range" p) [a, b] [] pos) (evI T (.rng2 A B)) := by
  refine PI.imp (pi_range2 hg hm hb hst hst2) ?_
  rintro σ H R ⟨μ, env, st, he, hs, h⟩
  refine a_two he hs h fun μ1 v u H1 w z st1 s1 e1 rs1 r1 r2 h1 => ?_
  cases w with
  | int i =>
    cases z with
    | int j =>
      simp only at h1
      split at h1
      · rename_i hz
        exact ⟨i, j, by rw [Rep.int_ r1, Rep.int_ r2], ⟨hz.1.1, hz.1.2, hz.2.1, hz.2.2⟩, PostE.ok_here (R := RWk (gm X xn)) h1 rs1 wk_rng⟩
      · exact h1.elim
    | _ => exact h1.elim
  | _ => exact h1.elim
end

/-! ### zip, enumerate -/
theorem enumL_get : ∀ (ws : List W) (k i : Nat) (w : W), ws[i]? = some w → (enumL k ws)[i]? = some (.tup [.int ((k + i : Nat) : Int), w])
  | [], _, i, w, h => by simp at h
  | u :: ws, k, 0, w, h => by
    simp at h
    subst h
    rfl
  | u :: ws, k, i + 1, w, h => by
    show (enumL (k + 1) ws)[i]? = _
    rw [enumL_get ws (k + 1) i w (by simpa using h)]
    have e : k + 1 + i = k + (i + 1) := by omega
    rw [e]
theorem enumL_len : ∀ (ws : List W) (k : Nat), (enumL k ws).length = ws.length
  | [], _ => rfl
  | _ :: ws, k => by
    show (enumL (k + 1) ws).length + 1 = ws.length + 1
    rw [enumL_len ws (k + 1)]
theorem zipL_get : ∀ (xs ys : List W) (i : Nat) (x y : W), xs[i]? = some x → ys[i]? = some y → (zipL xs ys)[i]? = some (.tup [x, y])
  | [], _, i, _, _, h, _ => by simp at h
  | _ :: _, [], i, _, _, _, h => by simp at h
  | a :: xs, b :: ys, 0, x, y, h1, h2 => by
    simp at h1 h2
    subst h1 h2
    rfl
  | a :: xs, b :: ys, i + 1, x, y, h1, h2 => by
    show (zipL xs ys)[i]? = _
    exact zipL_get xs ys i x y (by simpa using h1) (by simpa using h2)
theorem zipL_len : ∀ (xs ys : List W), (zipL xs ys).length = min xs.length ys.length
  | [], ys => by simp [zipL]
  | _ :: _, [] => by simp [zipL]
  | a :: xs, b :: ys => by
    show (zipL xs ys).length + 1 = _
    rw [zipL_len xs ys]
    simp only [List.length_cons]
    omega
section
variable {K : PySem.W.Frag} {μ : List Addr} {H : Hp}
/-- a list at a place, however it is told -/
def LsAt (K : PySem.W.Frag) (μ : List Addr) (H : Hp) (a : Addr) (wk : Walkd) : Prop := ∀ μ' H' st', Step μ H μ' H' → RelSt K μ' H' st' → wk.keep st' → ∃ xs, SqL K H' a xs ∧ Reps K μ' H' wk.items xs
def TpAt (K : PySem.W.Frag) (μ : List Addr) (H : Hp) (a : Addr) (wk : Walkd) : Prop := ∀ μ' H' st', Step μ H μ' H' → RelSt K μ' H' st' → wk.keep st' → ∃ xs, SqT K H' a xs ∧ Reps K μ' H' wk.items xs
theorem seqK_at {G : Gm} {st : Store} {x : W} {v : V} {wk : Walkd} (hs : RelSt G.K μ H st) (r : Rep G.K μ H x v) (e : seqK st x = some wk) (hn : ∀ z, x ≠ .str z) :
    wk.keep st ∧ ((∃ a, v = .ref a ∧ LsAt G.K μ H a wk) ∨ (∃ a, v = .ref a ∧ TpAt G.K μ H a wk)) := by
  cases x with
  | tup ws =>
    obtain ⟨p, xs, rfl, tx, r1, z1⟩ := r.tup_
    simp only [seqK, Option.some.injEq] at e
    subst e
    exact ⟨trivial, .inr ⟨p, rfl, fun μ' H' st' s _ _ => ⟨xs, (tx.step s).sq, r1.step s⟩⟩⟩
  | ref n =>
    obtain ⟨p, rfl, hp⟩ := r.ref_
    simp only [seqK] at e
    split at e
    · rename_i ws q
      simp only [Option.some.injEq] at e
      subst e
      refine ⟨q, .inl ⟨p, rfl, fun μ' H' st' s rs k => ?_⟩⟩
      obtain ⟨xs, h1, r1, z1⟩ := rs.lst (s.at_ hp) k
      exact ⟨xs, SqL.of h1, r1⟩
    · cases e
  | fls ws =>
    obtain ⟨p, xs, rfl, tx, r1, z1⟩ := r.fls_
    simp only [seqK, Option.some.injEq] at e
    subst e
    exact ⟨trivial, .inl ⟨p, rfl, fun μ' H' st' s _ _ => ⟨xs, (tx.mono s.keeps).sq, r1.step s⟩⟩⟩
  | str z => exact absurd rfl (hn z)
  | _ => simp [seqK] at e
theorem wk_enum {a : Addr} {wk : Walkd} (h : LsAt K μ H a wk) : WkOk K μ H (Ite K a) ⟨enumL 0 wk.items, wk.keep⟩ := by
  refine ⟨fun μ' H' st' i s rs k hi => ?_, fun μ' H' st' s rs k => ?_, fun μ' H' st' i x H2 s rs k hi y => ?_⟩
  · obtain ⟨xs, h1, r⟩ := h μ' H' st' s rs k
    obtain ⟨x, w, e1, _, _⟩ := wk_of_get r (by rw [← enumL_len wk.items 0]; exact hi)
    exact ⟨xs, x, h1, e1⟩
  · obtain ⟨xs, h1, r⟩ := h μ' H' st' s rs k
    exact ⟨xs, h1, by rw [enumL_len, r.len]; exact Nat.le_refl _⟩
  · obtain ⟨xs, h1, r⟩ := h μ' H' st' s rs k
    obtain ⟨Tp, x', e1, hT, e2, hy⟩ := y
    subst e1 e2
    obtain ⟨x2, w, e3, e4, rw'⟩ := wk_of_get r (by rw [← enumL_len wk.items 0]; exact hi)
    have e5 := hy xs h1
    rw [e3] at e5
    cases e5
    refine ⟨Step.side hT _, rs.side hT _, _, enumL_get _ 0 i w e4, ?_⟩
    have e0 : ((0 + i : Nat) : Int) = (i : Int) := by omega
    rw [e0]
    exact newT hT (Reps.cons' (show Rep K μ' H' (.int i) (.int i) from rfl) (Reps.cons' rw' Reps.nil')) (by show 2 ≤ sizeLine; decide)
theorem wk_zipL {a b : Addr} {wx wy : Walkd} (h : LsAt K μ H a wx) (h' : LsAt K μ H b wy) : WkOk K μ H (Itz K a b) ⟨zipL wx.items wy.items, fun st => wx.keep st ∧ wy.keep st⟩ := by
  have hl := zipL_len wx.items wy.items
  refine ⟨fun μ' H' st' i s rs k hi => ?_, fun μ' H' st' s rs k => ?_, fun μ' H' st' i x H2 s rs k hi y => ?_⟩
  · obtain ⟨xs, h1, r⟩ := h μ' H' st' s rs k.1
    obtain ⟨ys, h2, r'⟩ := h' μ' H' st' s rs k.2
    have hi' : i < min wx.items.length wy.items.length := by rw [← hl]; exact hi
    obtain ⟨x, w, e1, _, _⟩ := wk_of_get r (show i < wx.items.length by omega)
    obtain ⟨y, w', e2, _, _⟩ := wk_of_get r' (show i < wy.items.length by omega)
    exact ⟨xs, ys, x, y, h1, h2, e1, e2⟩
  · obtain ⟨xs, h1, r⟩ := h μ' H' st' s rs k.1
    obtain ⟨ys, h2, r'⟩ := h' μ' H' st' s rs k.2
    refine ⟨xs, ys, h1, h2, ?_⟩
    show xs.length ≤ (zipL wx.items wy.items).length ∨ ys.length ≤ (zipL wx.items wy.items).length
    rw [hl, ← r.len, ← r'.len]
    omega
  · obtain ⟨xs, h1, r⟩ := h μ' H' st' s rs k.1
    obtain ⟨ys, h2, r'⟩ := h' μ' H' st' s rs k.2
    obtain ⟨Tp, x', y', e1, hT, e2, hx, hy⟩ := y
    subst e1 e2
    have hi' : i < min wx.items.length wy.items.length := by rw [← hl]; exact hi
    obtain ⟨x2, w, e3, e4, rw1⟩ := wk_of_get r (show i < wx.items.length by omega)
    obtain ⟨y2, w', e5, e6, rw2⟩ := wk_of_get r' (show i < wy.items.length by omega)
    have q1 := hx xs h1
    rw [e3] at q1
    cases q1
    have q2 := hy ys h2
    rw [e5] at q2
    cases q2
    exact ⟨Step.side hT _, rs.side hT _, _, zipL_get _ _ i w w' e4 e6, newT hT (Reps.cons' rw1 (Reps.cons' rw2 Reps.nil')) (by show 2 ≤ sizeLine; decide)⟩
theorem wk_zipT {a b : Addr} {wx wy : Walkd} (h : TpAt K μ H a wx) (h' : TpAt K μ H b wy) : WkOk K μ H (RZ.ItzT K a b) ⟨zipL wx.items wy.items, fun st => wx.keep st ∧ wy.keep st⟩ := by
  have hl := zipL_len wx.items wy.items
  refine ⟨fun μ' H' st' i s rs k hi => ?_, fun μ' H' st' s rs k => ?_, fun μ' H' st' i x H2 s rs k hi y => ?_⟩
  · obtain ⟨xs, h1, r⟩ := h μ' H' st' s rs k.1
    obtain ⟨ys, h2, r'⟩ := h' μ' H' st' s rs k.2
    have hi' : i < min wx.items.length wy.items.length := by rw [← hl]; exact hi
    obtain ⟨x, w, e1, _, _⟩ := wk_of_get r (show i < wx.items.length by omega)
    obtain ⟨y, w', e2, _, _⟩ := wk_of_get r' (show i < wy.items.length by omega)
    exact ⟨xs, ys, x, y, h1, h2, e1, e2⟩
  · obtain ⟨xs, h1, r⟩ := h μ' H' st' s rs k.1
    obtain ⟨ys, h2, r'⟩ := h' μ' H' st' s rs k.2
    refine ⟨xs, ys, h1, h2, ?_⟩
    show xs.length ≤ (zipL wx.items wy.items).length ∨ ys.length ≤ (zipL wx.items wy.items).length
    rw [hl, ← r.len, ← r'.len]
    omega
  · obtain ⟨xs, h1, r⟩ := h μ' H' st' s rs k.1
    obtain ⟨ys, h2, r'⟩ := h' μ' H' st' s rs k.2
    obtain ⟨Tp, x', y', e1, hT, e2, hx, hy⟩ := y
    subst e1 e2
    have hi' : i < min wx.items.length wy.items.length := by rw [← hl]; exact hi
    obtain ⟨x2, w, e3, e4, rw1⟩ := wk_of_get r (show i < wx.items.length by omega)
    obtain ⟨y2, w', e5, e6, rw2⟩ := wk_of_get r' (show i < wy.items.length by omega)
    have q1 := hx xs h1
    rw [e3] at q1
    cases q1
    have q2 := hy ys h2
    rw [e5] at q2
    cases q2
    exact ⟨Step.side hT _, rs.side hT _, _, zipL_get _ _ i w w' e4 e6, newT hT (Reps.cons' rw1 (Reps.cons' rw2 Reps.nil')) (by show 2 ≤ sizeLine; decide)⟩
end

section
variable {X : Cx} {xn : Nat → Option Str} {Wx : WX} {T : Fns} {a b tg : Expr} {A B : Ex} {pos : Pos}
theorem i_enum {p tpos : Pos} {elts : List Expr} {kk : Nat} (hg : Gl X "enumerate") (hm : X.mg "enumerate" = none) (ha : Pa X xn Wx [a] (evEs T (.cons A .nil))) (hst : starEach [a] X.env = [(false, eval a X.env)]) :
    Pi X xn Wx (.Tuple elts kk tpos) (.Call (.Name "enumerate" p) [a] [] pos) (evI T (.enum A)) := by
  refine PI.imp (pi_enum hg hm ha hst) ?_
  rintro σ H R ⟨μ, env, st, he, hs, h⟩
  refine a_one (es := []) (Es := .nil) he hs h fun μ1 v H1 w st1 s1 e1 rs1 r1 h1 => ?_
  split at h1
  · rename_i hk
    obtain ⟨wk, ek, h2⟩ := ofO_bind h1
    have hn : ∀ z, w ≠ .str z := fun z e => by subst e; simp [isRefW] at hk
    obtain ⟨k0, q⟩ := seqK_at (G := gm X xn) rs1 r1 ek hn
    rcases q with ⟨p, ev, q⟩ | ⟨p, ev, q⟩
    · obtain ⟨xs, h1, r⟩ := q μ1 H1 st1 (Step.refl _ _) rs1 k0
      exact ⟨p, xs, by rw [ev], h1, PostE.ok_here (R := RWk (gm X xn)) h2 rs1 (wk_enum q)⟩
    · cases w with
      | ref n =>
        obtain ⟨p', e1, hp⟩ := Rep.ref_ r1
        rw [ev] at e1
        cases e1
        simp only [seqK] at ek
        split at ek
        · rename_i ws q'
          simp only [Option.some.injEq] at ek
          subst ek
          obtain ⟨xs, h1, r2, z1⟩ := rs1.lst hp q'
          refine ⟨p, xs, by rw [ev], SqL.of h1, PostE.ok_here (R := RWk (gm X xn)) h2 rs1 (wk_enum (wk := ⟨ws, fun st' => st'[n]? = some (.lst ws)⟩) fun μ' H' st' s rs k => ?_)⟩
          obtain ⟨xs, h1, r1, z1⟩ := rs.lst (s.at_ hp) k
          exact ⟨xs, SqL.of h1, r1⟩
        · cases ek
      | _ => simp [isRefW] at hk
  · exact h1.elim
/-- a list's, a tuple's -/
theorem seqK_ref {G : Gm} {μ : List Addr} {H : Hp} {st : Store} {x : W} {v : V} {wk : Walkd} (hs : RelSt G.K μ H st) (r : Rep G.K μ H x v) (e : seqK st x = some wk) (hk : isRefW x = true) : wk.keep st ∧ ∃ a, v = .ref a ∧ LsAt G.K μ H a wk := by
  cases x with
  | ref n =>
    obtain ⟨p, rfl, hp⟩ := r.ref_
    simp only [seqK] at e
    split at e
    · rename_i ws q
      simp only [Option.some.injEq] at e
      subst e
      refine ⟨q, ⟨p, rfl, fun μ' H' st' s rs k => ?_⟩⟩
      obtain ⟨xs, h1, r1, z1⟩ := rs.lst (s.at_ hp) k
      exact ⟨xs, SqL.of h1, r1⟩
    · cases e
  | _ => simp [isRefW] at hk
theorem seqK_tup {G : Gm} {μ : List Addr} {H : Hp} {st : Store} {x : W} {v : V} {wk : Walkd} (hs : RelSt G.K μ H st) (r : Rep G.K μ H x v) (e : seqK st x = some wk) (hk : isTupW x = true) : wk.keep st ∧ ∃ a, v = .ref a ∧ TpAt G.K μ H a wk := by
  cases x with
  | tup ws =>
    obtain ⟨p, xs, rfl, tx, r1, z1⟩ := r.tup_
    simp only [seqK, Option.some.injEq] at e
    subst e
    exact ⟨trivial, ⟨p, rfl, fun μ' H' st' s _ _ => ⟨xs, (tx.step s).sq, r1.step s⟩⟩⟩
  | _ => simp [isTupW] at hk
theorem i_zip {p tpos : Pos} {elts : List Expr} {kk : Nat} (hg : Gl X "zip") (hm : X.mg "zip" = none) (ha : Pa X xn Wx [a, b] (evEs T (.cons A (.cons B .nil)))) (hst : starEach [a, b] X.env = (false, eval a X.env) :: starEach [b] X.env) (hpl : (backTo pos (starEach [b] X.env)).any (·.1) = false) :
    Pi X xn Wx (.Tuple elts kk tpos) (.Call (.Name "zip" p) [a, b] [] pos) (evI T (.zip A B)) := by
  refine PI.imp (RZ.pi_zipA hg hm ha hst hpl) ?_
  rintro σ H R ⟨μ, env, st, he, hs, h⟩
  refine a_two he hs h fun μ1 v u H1 w z st1 s1 e1 rs1 r1 r2 h1 => ?_
  split at h1
  · rename_i hk
    obtain ⟨wx, ex, h2⟩ := ofO_bind h1
    obtain ⟨wy, ey, h3⟩ := ofO_bind h2
    rcases hk with hk | hk
    · obtain ⟨k1, a, ea, qa⟩ := seqK_ref (G := gm X xn) rs1 r1 ex hk.1
      obtain ⟨k2, b, eb, qb⟩ := seqK_ref (G := gm X xn) rs1 r2 ey hk.2
      obtain ⟨xs, x1, _⟩ := qa μ1 H1 st1 (Step.refl _ _) rs1 k1
      obtain ⟨ys, y1, _⟩ := qb μ1 H1 st1 (Step.refl _ _) rs1 k2
      exact ⟨a, b, xs, ys, by rw [ea, eb], .inl ⟨x1, y1, PostE.ok_here (R := RWk (gm X xn)) h3 rs1 (wk_zipL qa qb)⟩⟩
    · obtain ⟨k1, a, ea, qa⟩ := seqK_tup (G := gm X xn) rs1 r1 ex hk.1
      obtain ⟨k2, b, eb, qb⟩ := seqK_tup (G := gm X xn) rs1 r2 ey hk.2
      obtain ⟨xs, x1, _⟩ := qa μ1 H1 st1 (Step.refl _ _) rs1 k1
      obtain ⟨ys, y1, _⟩ := qb μ1 H1 st1 (Step.refl _ _) rs1 k2
      exact ⟨a, b, xs, ys, by rw [ea, eb], .inr ⟨x1, y1, PostE.ok_here (R := RWk (gm X xn)) h3 rs1 (wk_zipT qa qb)⟩⟩
  · exact h1.elim

/-! ### comprehensions -/
theorem e_comp {elt tg iter : Expr} {ifs : List Expr} {scope : Scope} {own : List (Str × Nat)} {I : EV.It} {t : Tgt} {c : Ox} {E : Ex} (hc : X.calm = true) (hN : X.N.Nodup) (ho : own.map (·.2) = t.slots) (hi : Pi X xn Wx tg iter (evI T I)) (ok : BlkOk X.N X.env.scope scope own)
    (hg : ∀ (s : Shared) (H : Hp) (C : Addr) (cl : List (Str × Addr)) (fp : List Addr), PG (X.blk s H scope (compEnvC scope cl C X.env) fp) tg (tgT X.K t))
    (ht : ∀ (s : Shared) (H : Hp) (C : Addr) (cl : List (Str × Addr)) (fp : List Addr), PTs (X.blk s H scope (compEnvC scope cl C X.env) fp) ifs (tR (gm X xn) WxF RB (evC T c)))
    (he : ∀ (s : Shared) (H : Hp) (C : Addr) (cl : List (Str × Addr)) (fp : List Addr), Pe (X.blk s H scope (compEnvC scope cl C X.env) fp) xn WxF elt (evE T E)) (hs : ∀ x, foldedSetIterable iter X.env x = pure x) :
    Pe X xn Wx (.ListComp elt [⟨tg, iter, ifs, 0⟩] scope pos) (evE T (.comp t I c E)) := by
  refine PE.imp (pe_lc (te := tR (gm X xn) WxF (EV.RW (gm X xn)) (evE T E)) hc hN hi ok hg ht he hs) ?_
  rintro σ H Q h
  rw [ho]
  exact cmp_ok_ (G := gm X xn) h
theorem c_no {env' : Prop} : PTs X [] (tR (gm X xn) Wx RB (evC T .no)) := by
  refine PTs.imp pts_nil ?_
  rintro σ H Q ⟨μ, env, st, he, hs, h⟩
  exact PostE.ok_here (R := RB) h hs rfl
theorem c_yes (h : Pt X xn Wx a (evT T A)) : PTs X [a] (tR (gm X xn) Wx RB (evC T (.yes A))) := by
  refine PTs.imp (pts_one h) ?_
  rintro σ H Q ⟨μ, env, st, he, hs, h⟩
  exact ⟨μ, env, st, he, hs, h⟩

/-! ### calls -/
/-- what an own def promises at a level -/
def spF (G : Gm) (tb : Nat → Option Fd) (k f ar : Nat) : Sp := fun vs H Q E => ∃ μ st ws, RelSt G.K μ H st ∧ Reps G.K μ H ws vs ∧ ws.length = ar ∧ PostE G μ H [] (fun cls d _ H' => E cls d H') (EV.RW G) (run tb k f ws st) Q
theorem PostE.wish {G : Gm} {μ : List Addr} {H : Hp} {σ τ : L2.St} {Wx Wy : WX} {α β : Type} {R : List Addr → Hp → α → β → Prop} {r : Res α} {Q : β → Hp → Prop} (h : PostE G μ H σ Wx R r Q) (k : ∀ cls d H', Wx cls d σ H' → Wy cls d τ H') : PostE G μ H τ Wy R r Q := by
  cases r with
  | ok w st => exact h
  | exn x st => exact fun μ' H' cls d s rs rx => k _ _ _ (h μ' H' cls d s rs rx)
  | bad => exact h
theorem evEs_len : ∀ (Es : Exs) (env : Env) (st : Store) (ws : List W) (st' : Store), evEs T Es env st = .ok ws st' → ws.length = Es.len
  | .nil, env, st, ws, st', h => by
    simp only [evEs, Res.ok.injEq] at h
    rw [← h.1]; rfl
  | .cons e es, env, st, ws, st', h => by
    simp only [evEs] at h
    cases h1 : evE T e env st with
    | bad => rw [h1] at h; cases h
    | exn x s => rw [h1] at h; cases h
    | ok w s =>
      rw [h1, Res.bind_ok] at h
      cases h2 : evEs T es env s with
      | bad => rw [h2] at h; cases h
      | exn x s => rw [h2] at h; cases h
      | ok us s2 =>
        rw [h2, Res.bind_ok] at h
        simp only [Res.ok.injEq] at h
        rw [← h.1, List.length_cons, evEs_len es _ _ _ _ h2]; rfl
theorem e_call {tb : Nat → Option Fd} {k fi ar : Nat} {f : Addr} {fd : FuncData} {ps : List Str} {es : List Expr} {Es : Exs} {x : Str} {p : Pos} (F : FnOk X.prog X.w X.K X.mg X.base (L2.CX X.prog X.w) k f fd ps (spF (gm X xn) tb k fi ar)) (hr : Room k X.A) (hg : Gl X x) (hm : X.mg x = some (.ref f))
    (hk : PySem.W.keepIn X.K (.ref f) = true) (hb : Binds X.K fd ps []) (tk : Takes X Wx) (ha : Pa X xn Wx (a :: es) (evEs (run tb k) Es)) (hl : Es.len = ar) (hdb : (x == ("__debug__" : Str)) = false)
    (hst : starEach (a :: es) X.env = (false, eval a X.env) :: starEach es X.env) (hpl : (backTo pos (starEach es X.env)).any (·.1) = false) : Pe X xn Wx (.Call (.Name x p) (a :: es) [] pos) (evE (run tb k) (.call fi Es)) := by
  refine PE.imp (pe_callSD F hr hg hm hk hb .nil (fun σ => passAt tk σ) ha hdb hst hpl) ?_
  rintro σ H Q ⟨μ, env, st, he, hs, h⟩
  refine tR.here he hs (PostE.bind h fun μ1 v H1 w st1 e s1 rs1 r1 h1 => ?_)
  refine ⟨μ1, st1, w, rs1, by rw [List.append_nil]; exact r1.1, by rw [evEs_len _ _ _ _ _ e, hl], ?_⟩
  exact PostE.wish h1 fun _ _ _ z => z
/-! ### isinstance -/
theorem e_isi1 {t : Ty} {p : Pos} (hg : Gl X "isinstance") (hm : X.mg "isinstance" = none) (ha : Pe X xn Wx a (evE T A)) (hb : PE X b (tC (.ty t.name))) (hst : starEach [a, b] X.env = (false, eval a X.env) :: starEach [b] X.env) (hst2 : starEach [b] X.env = (false, eval b X.env) :: starEach [] X.env) (hpl : (backTo pos (starEach [b] X.env)).any (·.1) = false) :
    Pe X xn Wx (.Call (.Name "isinstance" p) [a, b] [] pos) (evE T (.isi A [t])) := by
  refine PE.imp (pe_callB call_isi hg hm (by decide +kernel) (pa_cons ha (pa_cons hb pa_nil hst2) hst) (by decide) (by decide) hst hpl) ?_
  rintro σ H Q ⟨μ, env, st, he, hs, h⟩
  refine tR.bind he hs h fun μ1 v H1 w st1 s1 e1 rs1 r1 h1 => ?_
  obtain ⟨k, ek, h2⟩ := ofO_bind h1
  unfold isiW at ek
  cases e3 : kindW st1 w with
  | none => rw [e3] at ek; cases ek
  | some ty =>
    rw [e3] at ek
    simp only [List.any_cons, List.any_nil, Bool.or_false, Option.some.injEq] at ek
    refine ⟨v, _, _, _, k, rfl, .ty t.name, kind_ok (G := gm X xn) rs1 r1 e3, by rw [← ek]; exact kit_one ty t, PostE.ok_here (R := EV.RW (gm X xn)) h2 rs1 rfl⟩
def tTys : List Ty → TA
  | [] => tNil
  | t :: ts => tCons (tC (.ty t.name)) (tTys ts)
theorem tTys_ok {σ : L2.St} {H : Hp} {C : List V → Hp → Prop} : ∀ {ts : List Ty}, C (ts.map fun t => .ty t.name) H → tTys ts σ H C
  | [], h => h
  | t :: ts, h => tTys_ok (C := fun xs H2 => C (.ty t.name :: xs) H2) (ts := ts) h
theorem cls_tys : ∀ ts : List Ty, Paired ClsV (ts.map fun t => V.ty t.name) (ts.map fun t => Value.type t.name)
  | [] => .nil
  | t :: ts => .cons (.ty t.name) (cls_tys ts)
theorem e_isiT {ts : List Ty} {es : List Expr} {p pt : Pos} {kk : Nat} (hz : ts.length < 1000) (hg : Gl X "isinstance") (hm : X.mg "isinstance" = none) (ha : Pe X xn Wx a (evE T A)) (hb : PA X es (tTys ts)) (hst : starEach [a, .Tuple es kk pt] X.env = (false, eval a X.env) :: starEach [.Tuple es kk pt] X.env) :
    Pe X xn Wx (.Call (.Name "isinstance" p) [a, .Tuple es kk pt] [] pos) (evE T (.isi A ts)) := by
  refine PE.imp (pe_callB call_isiT hg hm (by decide +kernel) (pa_cons ha (pa_cons (pe_tup hb) pa_nil rfl) hst) (by decide) (by decide) hst rfl) ?_
  rintro σ H Q ⟨μ, env, st, he, hs, h⟩
  refine tR.bind he hs h fun μ1 v H1 w st1 s1 e1 rs1 r1 h1 => ?_
  obtain ⟨k, ek, h2⟩ := ofO_bind h1
  unfold isiW at ek
  cases e3 : kindW st1 w with
  | none => rw [e3] at ek; cases ek
  | some ty =>
    rw [e3] at ek
    simp only [Option.some.injEq] at ek
    refine tTys_ok ⟨by rw [List.length_map, sizeLine_eq]; omega, fun q hq => ?_⟩
    have sd := Step.side (μ := μ1) hq (.tup (ts.map fun t => V.ty t.name))
    refine ⟨v, q, _, _, _, k, rfl, upd_same, cls_tys ts, kind_ok (G := gm X xn) (rs1.side hq _) (Rep.step r1 sd) e3, by rw [← ek]; exact kit_any ty ts, ?_⟩
    exact h2 _ _ _ sd (rs1.side hq _) rfl

/-! ### methods of lists -/
def Mt.name : Mt → Str
  | .append => "append"
  | .popl => "pop"
  | .extend => "extend"
def rMt : Mt → V → List V → Hp → VK → Prop
  | .append => rAppend
  | .popl => rPop
  | .extend => rExtend
theorem lst_tyV {G : Gm} {μ : List Addr} {H : Hp} {st : Store} {x : W} {v : V} (hs : RelSt G.K μ H st) (r : Rep G.K μ H x v) (h : isLstW st x = true) : tyV G.K "list" v H := by
  cases x with
  | ref n =>
    obtain ⟨p, rfl, hp⟩ := r.ref_
    simp only [isLstW] at h
    split at h
    · rename_i ws q
      obtain ⟨xs, h1, r1, z1⟩ := hs.lst hp q
      exact .inl ⟨rfl, xs, SqL.of h1⟩
    · cases h
  | _ => simp [isLstW] at h
theorem mth_ok {G : Gm} {μ : List Addr} {H : Hp} {st : Store} {σ : L2.St} (m : Mt) {x : W} {v : V} {ws : List W} {vs : List V} {Q : V → Hp → Prop} (hs : RelSt G.K μ H st) (r : Rep G.K μ H x v) (rs : Reps G.K μ H ws vs) (h : PostE G μ H σ Wx (EV.RW G) (mthW m st x ws) Q) : rMt m v vs H Q := by
  unfold mthW at h
  split at h
  · obtain ⟨p, rfl, hp⟩ := r.ref_
    obtain ⟨u, rfl, ru⟩ := rs.one
    split at h
    · rename_i us q
      obtain ⟨xs, h1, r1, z1⟩ := hs.lst hp q
      split at h
      · rename_i hz
        rw [line_eq] at hz
        have l := r1.len
        obtain ⟨k1, k2⟩ := hs.wr hp q (r1.append (Reps.cons' ru Reps.nil')) (by rw [List.length_append]; exact hz)
        exact ⟨p, xs, u, rfl, rfl, h1, by rw [← l]; exact hz, h _ _ _ k2 k1 rfl⟩
      · exact h.elim
    · exact h.elim
  · obtain ⟨p, rfl, hp⟩ := r.ref_
    obtain ⟨u, rfl, ru⟩ := rs.one
    obtain ⟨b, rfl, hb⟩ := ru.ref_
    split at h
    · rename_i us zs q q2
      obtain ⟨xs, h1, r1, z1⟩ := hs.lst hp q
      obtain ⟨ys, h2, r2, z2⟩ := hs.lst hb q2
      split at h
      · rename_i hz
        rw [line_eq] at hz
        have l1 := r1.len
        have l2 := r2.len
        obtain ⟨k1, k2⟩ := hs.wr hp q (r1.append r2) (by rw [List.length_append]; exact hz)
        exact ⟨p, b, xs, ys, rfl, rfl, h1, h2, by omega, h _ _ _ k2 k1 rfl⟩
      · exact h.elim
    · exact h.elim
  · obtain ⟨p, rfl, hp⟩ := r.ref_
    have e : vs = [] := rs
    subst e
    split at h
    · rename_i us q
      obtain ⟨xs, h1, r1, z1⟩ := hs.lst hp q
      split at h
      · rename_i y hy
        obtain ⟨v, e1, rv⟩ := r1.get hy
        obtain ⟨k1, k2⟩ := hs.wr hp q r1.dropLast (by rw [List.length_dropLast]; omega)
        exact ⟨p, xs, v, rfl, rfl, h1, by rw [← r1.len]; exact e1, h _ _ _ k2 k1 (rv.step k2)⟩
      · exact h.elim
    · exact h.elim
  · exact h.elim
theorem e_mth1 {o : Expr} {O : Ex} {apos : Pos} (m : Mt) {name : Str} (hn : name = m.name) (hm0 : m ≠ .popl) (ho : Pe X xn Wx o (evE T O)) (ha : Pa X xn Wx [a] (evEs T (.cons A .nil))) (hbase : attributeBase o name X.env (eval o X.env) = eval o X.env) (hline : (apos.endLine == pos.line) = true) (hst : starEach [a] X.env = (false, eval a X.env) :: starEach [] X.env) :
    Pe X xn Wx (.Call (.Attribute o name apos) [a] [] pos) (evE T (.mth m O (.cons A .nil))) := by
  subst hn
  have key : PE X (.Call (.Attribute o m.name apos) [a] [] pos) (tBM X.K "list" (rMt m) (tR (gm X xn) Wx (EV.RW (gm X xn)) (evE T O)) (tR (gm X xn) Wx (RWs (gm X xn)) (evEs T (.cons A .nil)))) := by
    cases m with
    | append => exact pe_bm PySem.F.plainAttrs_list PySem.F.slot_list_append PySem.F.type_list_append mt_append ho ha hbase (by rw [hst]; rfl) hline hst rfl
    | extend => exact pe_bm PySem.F.plainAttrs_list PySem.F.slot_list_extend PySem.F.type_list_extend mt_extend ho ha hbase (by rw [hst]; rfl) hline hst rfl
    | popl => exact absurd rfl hm0
  refine PE.imp key ?_
  rintro σ H Q ⟨μ, env, st, he, hs, h⟩
  refine tR.bind he hs h fun μ1 v H1 w st1 s1 e1 rs1 r1 h1 => ?_
  split at h1
  · rename_i hk
    refine ⟨lst_tyV (G := gm X xn) rs1 r1 hk, tR.bind e1 rs1 h1 fun μ2 vs H2 ws st2 s2 e2 rs2 r2 h2 => ?_⟩
    exact mth_ok (G := gm X xn) m rs2 (Rep.step r1 s2) r2.1 h2
  · exact h1.elim
theorem e_pop {o : Expr} {O : Ex} {apos : Pos} (ho : Pe X xn Wx o (evE T O)) (hbase : attributeBase o "pop" X.env (eval o X.env) = eval o X.env) (hline : (apos.endLine == pos.line) = true) :
    Pe X xn Wx (.Call (.Attribute o "pop" apos) [] [] pos) (evE T (.mth .popl O .nil)) := by
  refine PE.imp (pe_bm0 PySem.F.plainAttrs_list PySem.F.slot_list_pop PySem.F.type_list_pop mt_pop ho hbase hline) ?_
  rintro σ H Q ⟨μ, env, st, he, hs, h⟩
  refine tR.bind he hs h fun μ1 v H1 w st1 s1 e1 rs1 r1 h1 => ?_
  split at h1
  · rename_i hk
    exact ⟨lst_tyV (G := gm X xn) rs1 r1 hk, mth_ok (G := gm X xn) (st := st1) .popl rs1 r1 (show Reps X.K μ1 H1 [] [] from rfl) h1⟩
  · exact h1.elim
/-! ### sep.join(a list of texts) -/
theorem e_join {o e : Expr} {O E : Ex} {apos : Pos} (ho : Pe X xn Wx o (evE T O)) (he : Pe X xn Wx e (evE T E)) (hst : starEach [e] X.env = [(false, eval e X.env)]) (hbase : attributeBase o "join" X.env (eval o X.env) = eval o X.env) (hline : (apos.endLine == pos.line) = true) :
    Pe X xn Wx (.Call (.Attribute o "join" apos) [e] [] pos) (evE T (.join O E)) := by
  refine PE.imp (pe_join ho he hst hbase hline) ?_
  rintro σ H Q ⟨μ, env, st, hE, hs, h⟩
  refine tR.bind hE hs h fun μ1 v H1 w st1 s1 e1 rs1 r1 h1 => ?_
  cases w with
  | str z =>
    obtain ⟨rfl, x1, x2⟩ := Rep.str_ r1
    refine ⟨⟨z, rfl⟩, tR.bind e1 rs1 h1 fun μ2 u H2 y st2 s2 e2 rs2 r2 h2 => ?_⟩
    unfold joinW at h2
    split at h2
    · rename_i n
      obtain ⟨p, rfl, hp⟩ := Rep.ref_ r2
      split at h2
      · rename_i ws q
        obtain ⟨xs, k1, k2, k3⟩ := rs2.lst hp q
        split at h2
        · rename_i ys qs
          split at h2
          · rename_i hz
            obtain ⟨z1, z2, z3⟩ := hz
            have ex := k2.asStrs qs
            subst ex
            refine ⟨z, p, ys, rfl, rfl, .inl (.inl (.inl k1)), z1, ?_⟩
            exact PostE.ok_here h2 rs2 ⟨rfl, by rw [line_eq] at z2; exact z2, z3⟩
          · exact h2.elim
        · exact h2.elim
      · exact h2.elim
    · exact h2.elim
  | _ => exact h1.elim
/-! ### t[::-1] of a list -/
theorem e_rev {k : Nat} {p1 p2 p3 : Pos} (ha : Pe X xn Wx a (evE T A)) : Pe X xn Wx (.Subscript a (.Slice none none (some (.UnaryOp .USub (.Constant (.int 1) k p1) p2)) p3) pos) (evE T (.rev A)) := by
  refine PE.imp (pe_revL ha) ?_
  rintro σ H Q ⟨μ, env, st, he, hs, h⟩
  refine tR.bind he hs h fun μ1 v H1 w st1 s1 e1 rs1 r1 h1 => ?_
  cases w with
  | ref n =>
    obtain ⟨p, ev, hp⟩ := Rep.ref_ r1
    simp only at h1
    split at h1
    · rename_i ws q
      obtain ⟨xs, h2, r2, z2⟩ := rs1.lst hp q
      refine ⟨p, xs, ev, SqL.of h2, fun q hq => ?_⟩
      obtain ⟨k1, k2, k3⟩ := rs1.newL hq r2.reverse (by rw [List.length_reverse]; exact z2)
      exact h1 _ _ _ k2 k1 k3
    · exact h1.elim
  | _ => exact h1.elim
end
end EV

/-! EV8: one rule a statement. -/
namespace EV
open PySem PySem.Spec PyProof.Rows L2

def Ps (X : Cx) (xn : Nat → Option Str) (Wx : WX) (st : Stmt) (r : Env → Store → SR) : Prop := PS X st (tRS (gm X xn) Wx r)
def Pss (X : Cx) (xn : Nat → Option Str) (Wx : WX) (st : List Stmt) (r : Env → Store → SR) : Prop := PSs X st (tRS (gm X xn) Wx r)

section
variable {X : Cx} {xn : Nat → Option Str} {Wx : WX} {T : Fns} {a b c : Expr} {A B C : Ex} {pos : Pos} {st1 : Stmt} {rest body : List Stmt} {S1 : S} {R1 B1 : Ss}

theorem ss_nil : Pss X xn Wx [] (evSs T .nil) := by
  refine PSs.imp pss_nil ?_
  rintro D σ H ⟨μ, env, st, he, hs, h⟩
  exact h μ σ H (Step.refl _ _) he hs
theorem ss_cons (h1 : Ps X xn Wx st1 (evS T S1)) (h2 : Pss X xn Wx rest (evSs T R1)) : Pss X xn Wx (st1 :: rest) (evSs T (.cons S1 R1)) := by
  refine PSs.imp (pss_cons h1 h2) ?_
  rintro D σ H ⟨μ, env, st, he, hs, h⟩
  refine ⟨μ, env, st, he, hs, ?_⟩
  have h : PostS (gm X xn) μ H Wx ((evS T S1 env st).seq fun env st => evSs T R1 env st) D := h
  cases e : evS T S1 env st with
  | nx env' st' =>
    rw [e] at h
    exact fun μ' σ' H' s' he' rs' => ⟨μ', env', st', he', rs', PostS.trans s' h⟩
  | rt w st' => rw [e] at h; exact h
  | bk env' st' => rw [e] at h; exact h
  | ct env' st' => rw [e] at h; exact h
  | ex x env' st' => rw [e] at h; exact h
  | bad => rw [e] at h; exact h.elim
theorem s_set {i : Nat} {x : Str} {pos' : Pos} (hN : X.N.Nodup) (hi : X.N[i]? = some x) (hx : Loc X.env.scope x) (he : Pe X xn Wx a (evE T A)) (hs : swapsWith a (some (.Name x pos')) pos.line X.env = pure false) (hf : X.fn x = true ∨ X.env.scope.names.lookup x = some .local) :
    Ps X xn Wx (.Assign [.Name x pos'] a pos) (evS T (.set i A)) := by
  refine PS.imp (ps_set hN hi hx he hs hf) ?_
  rintro D σ H ⟨μ, env, st, he, hs, h⟩
  refine tR.then he hs h fun μ1 v H1 w st1 s1 e1 rs1 r1 h1 => ?_
  exact h1 μ1 _ H1 (Step.refl _ _) (e1.set i r1) rs1
/-- name = [..], on one line: the store is within the comprehension's -/
theorem s_setLc {i : Nat} {x : Str} {py : Pos} {elt tg iter : Expr} {ifs : List Expr} {scope : Scope} {own : List (Str × Nat)} {spos : Pos} {I : EV.It} {t : Tgt} {cc : Ox} {E : Ex} (hc : X.calm = true) (hN : X.N.Nodup) (hy : X.N[i]? = some x) (hyl : X.env.scope.names.lookup x = some .local)
    (hsw : swapsWith (.ListComp elt [⟨tg, iter, ifs, 0⟩] scope pos) (some (.Name x py)) spos.line X.env = pure true) (ho : own.map (·.2) = t.slots) (hi : Pi X xn Wx tg iter (evI T I)) (ok : BlkOk X.N X.env.scope scope own)
    (hg : ∀ (s : Shared) (H : Hp) (C : Addr) (cl : List (Str × Addr)) (fp : List Addr), PG (X.blk s H scope (compEnvC scope cl C X.env) fp) tg (tgT X.K t))
    (ht : ∀ (s : Shared) (H : Hp) (C : Addr) (cl : List (Str × Addr)) (fp : List Addr), PTs (X.blk s H scope (compEnvC scope cl C X.env) fp) ifs (tR (gm X xn) WxF RB (evC T cc)))
    (he : ∀ (s : Shared) (H : Hp) (C : Addr) (cl : List (Str × Addr)) (fp : List Addr), Pe (X.blk s H scope (compEnvC scope cl C X.env) fp) xn WxF elt (evE T E)) (hs : ∀ x, foldedSetIterable iter X.env x = pure x) :
    Ps X xn Wx (.Assign [.Name x py] (.ListComp elt [⟨tg, iter, ifs, 0⟩] scope pos) spos) (evS T (.set i (.comp t I cc E))) := by
  refine PS.imp (ps_setLc (te := tR (gm X xn) WxF (EV.RW (gm X xn)) (evE T E)) hc hN hy hyl hsw hi ok hg ht he hs) ?_
  rintro D σ H ⟨μ, env, st, he, hs, h⟩
  rw [ho]
  refine cmp_ok_ (G := gm X xn) (Q := fun x H1 => gName i x σ H1 D.nx) ?_
  refine tR.then he hs h fun μ1 v H1 w st1 s1 e1 rs1 r1 h1 => ?_
  exact h1 μ1 _ H1 (Step.refl _ _) (e1.set i r1) rs1
/-- a tuple's names -/
theorem s_unp {is : List Nat} {es : List Expr} {k : Nat} {tp : Pos} (he : Pe X xn Wx a (evE T A)) (hg : PG X (.Tuple es k tp) (tgT X.K (.tup is))) (hs : swapsWithSole [.Tuple es k tp] a pos.line X.env = pure false) (hw : swappedStores [.Tuple es k tp] a X.env = pure none) :
    Ps X xn Wx (.Assign [.Tuple es k tp] a pos) (evS T (.unp is A)) := by
  refine PS.imp (ps_asg he hg hs hw rfl) ?_
  rintro D σ H ⟨μ, env, st, he, hs, h⟩
  refine tR.then he hs h fun μ1 v H1 w st1 s1 e1 rs1 r1 h1 => ?_
  cases w with
  | tup ws =>
    simp only at h1
    cases e : setAll is ws env with
    | none => rw [e] at h1; exact h1.elim
    | some env' =>
      rw [e] at h1
      exact bindT_ok (K := X.K) (t := .tup is) (w := .tup ws) (env' := env') (by simp only [bindT]; exact e) r1 e1 fun σ' e' => h1 μ1 σ' H1 (Step.refl _ _) e' rs1
  | _ => exact h1.elim
theorem set_ok {G : Gm} {μ : List Addr} {H : Hp} {st st' : Store} {x k y : W} {v u z : V} {Q : Hp → Prop} (hs : RelSt G.K μ H st) (r1 : Rep G.K μ H x v) (r2 : Rep G.K μ H k u) (r3 : Rep G.K μ H y z) (e : setIxW st x k y = some st')
    (q : ∀ H', Step μ H μ H' → RelSt G.K μ H' st' → Q H') : rSetL v u z H Q := by
  unfold setIxW at e
  split at e
  · rename_i n i
    obtain ⟨p, rfl, hp⟩ := r1.ref_
    have eu := r2.int_
    subst eu
    split at e
    · rename_i ws hq
      obtain ⟨xs, h1, r, z1⟩ := hs.lst hp hq
      split at e
      · rename_i j hj
        simp only [Option.some.injEq] at e
        subst e
        obtain ⟨k1, k2⟩ := hs.wr hp hq (r.set r3 j) (by rw [List.length_set]; exact z1)
        exact ⟨p, xs, i, j, rfl, rfl, h1, by rw [← r.len, ← ixW_eq]; exact hj, q _ k2 k1⟩
      · cases e
    · cases e
  · cases e
theorem s_sub {o i : Expr} {O I : Ex} {sp : Pos} (ho : Pe X xn Wx o (evE T O)) (hi : Pe X xn Wx i (evE T I)) (he : Pe X xn Wx a (evE T A))
    (ha : ∀ v, assign (.Subscript o i sp) X.env v = (do
      let ov ← holding [v] (eval o X.env)
      let iv ← holding [v, ov] (eval i X.env)
      standAt sp
      holding [v, ov, iv] (setItem ov iv v)
      release [v, ov, iv] [])) (hs : swapsWithSole [.Subscript o i sp] a pos.line X.env = pure false) (hw : swappedStores [.Subscript o i sp] a X.env = pure none) :
    Ps X xn Wx (.Assign [.Subscript o i sp] a pos) (evS T (.sub O I A)) := by
  refine PS.imp (ps_asg he (pg_sub ho hi set_list ha) hs hw rfl) ?_
  rintro D σ H ⟨μ, env, st, he, hs, h⟩
  refine tR.then he hs h fun μ1 v H1 w st1 s1 e1 rs1 r1 h1 => ?_
  refine tR.then e1 rs1 h1 fun μ2 x H2 wx st2 s2 e2 rs2 r2 h2 => ?_
  refine tR.then e2 rs2 h2 fun μ3 k H3 wk st3 s3 e3 rs3 r3 h3 => ?_
  cases e : setIxW st3 wx wk w with
  | none => rw [e] at h3; exact h3.elim
  | some st' =>
    rw [e] at h3
    exact set_ok (G := gm X xn) rs3 (Rep.step r2 s3) r3 (Rep.step (Rep.step r1 s2) s3) e fun H' s' rs' => h3 μ3 σ H' s' (e3.step s') rs'
theorem s_aug {i : Nat} {x : Str} {op : Bop} {pos' : Pos} (hN : X.N.Nodup) (hi : X.N[i]? = some x) (hx : Loc X.env.scope x) (he : Pe X xn Wx a (evE T A)) (hf : X.fn x = true ∨ X.env.scope.names.lookup x = some .local) :
    Ps X xn Wx (.AugAssign (.Name x pos') op.py a pos) (evS T (.aug i op A)) := by
  refine PS.imp (ps_aug hN hi hx he (op_aug op) hf) ?_
  rintro D σ H ⟨μ, env, st, he, hs, h⟩
  have h : PostS (gm X xn) μ H Wx ((evE T (.var i) env st).then env fun x st => (evE T A env st).then env fun y st => (augW op st x y).then env fun z st => .nx (env.set i (some z)) st) D := h
  have e0 : ∀ st, evE T (.var i) env st = match env[i]? with
      | some (some w) => .ok w st
      | _ => .bad := fun st => rfl
  rw [e0] at h
  cases e : env[i]? with
  | none => rw [e] at h; exact h.elim
  | some o =>
    cases o with
    | none => rw [e] at h; exact h.elim
    | some w =>
      rw [e] at h
      simp only [Res.then_ok] at h
      obtain ⟨v, ev, rv⟩ := he.2 i w e
      refine ⟨v, ev, tR.then he hs h fun μ1 u H1 y st1 s1 e1 rs1 r1 h1 => ?_⟩
      refine aug_ok (G := gm X xn) (σ := σ) (Wx := Wx) op rs1 (Rep.step rv s1) r1 (PostS.then e1 h1 fun μ2 z H2 wz st2 _ s2 e2 rs2 r2 h2 => ?_)
      exact h2 μ2 _ H2 (Step.refl _ _) (e2.set i r2) rs2
theorem pget_list : PGet X (rIxL X.K) := by
  intro pins s σ H x y v u Q I rx ry h
  obtain ⟨p, xs, i, z, rfl, rfl, hq, he, q⟩ := h
  cases rx
  obtain ⟨t, rfl⟩ := ry
  obtain ⟨its, r, pl, hz⟩ := I.list hq
  obtain ⟨j, h1, h2, h3, h4, h5⟩ := atI_get he
  obtain ⟨w, ew, rw'⟩ := r.get h2
  have hl := r.length
  have hn := line63
  have fin : EP X pins σ Q w s := ⟨z, H, I, rw', q⟩
  by_cases h0 : 0 ≤ i
  · have hj : i.toNat = j := by
      have e0 : ixN xs.length i = some i.toNat := by unfold ixN; rw [if_pos h0, if_pos h5]
      have e1 := (ixN_seq e0).1
      rw [h1] at e1
      exact (Option.some.inj e1).symm
    exact wpAny_getItem_list pl.isList h0 (by omega) (by rw [hj]; simpa using ew) fin
  · have hj : (i + (its.toArray.size : Int)).toNat = j := by
      have e0 : ixN xs.length i = some (i + xs.length).toNat := by unfold ixN; rw [if_neg h0, if_pos h4]
      have e1 := (ixN_seq e0).1
      rw [h1] at e1
      rw [List.size_toArray, ← hl]
      exact (Option.some.inj e1).symm
    exact wpAny_getItem_list_neg pl.isList (by omega) (by rw [List.size_toArray] <;> omega) (by omega) (by rw [hj]; simpa using ew) fin
theorem get_ok {G : Gm} {μ : List Addr} {H : Hp} {st : Store} {x y w : W} {v u : V} {Q : V → Hp → Prop} (hs : RelSt G.K μ H st) (rx : Rep G.K μ H x v) (ry : Rep G.K μ H y u) (hk : isLstW st x = true) (e : idxW st x y = some w) (q : ∀ z, Rep G.K μ H w z → Q z H) : rIxL G.K v u H Q := by
  cases x with
  | ref n =>
    obtain ⟨p, rfl, hp⟩ := rx.ref_
    simp only [isLstW] at hk
    split at hk
    · rename_i ws hq
      obtain ⟨xs, h1, r1, z1⟩ := hs.lst hp hq
      unfold idxW at e
      split at e
      · rename_i k
        have eu := ry.int_
        subst eu
        simp only [seqW, hq] at e
        obtain ⟨z, h3, h4⟩ := atW_ok r1 e
        exact ⟨p, xs, k, z, rfl, rfl, SqL.of h1, h3, q z h4⟩
      · cases e
    · cases hk
  | _ => simp [isLstW] at hk
theorem s_augS {o i : Expr} {O I : Ex} {op : Bop} {tpos : Pos} (ho : Pe X xn Wx o (evE T O)) (hi : Pe X xn Wx i (evE T I)) (he : Pe X xn Wx a (evE T A))
    (ha : ∀ ov iv new, augStore i ov iv new = (do holding [new, ov, iv] (setItem ov iv new); release [new, ov, iv] []; pure .next)) :
    Ps X xn Wx (.AugAssign (.Subscript o i tpos) op.py a pos) (evS T (.augS O I op A)) := by
  refine PS.imp (ps_augS ho hi pget_list he (op_aug op) set_list ha) ?_
  rintro D σ H ⟨μ, env, st, he, hs, h⟩
  refine tR.then he hs h fun μ1 x H1 wx st1 s1 e1 rs1 r1 h1 => ?_
  refine tR.then e1 rs1 h1 fun μ2 k H2 wk st2 s2 e2 rs2 r2 h2 => ?_
  split at h2
  · rename_i hk
    cases ei : idxW st2 wx wk with
    | none => rw [ei] at h2; exact h2.elim
    | some wv =>
      rw [ei] at h2
      simp only [ofO_some, Res.then_ok] at h2
      refine get_ok (G := gm X xn) rs2 (Rep.step r1 s2) r2 hk ei fun v rv => ?_
      refine tR.then e2 rs2 h2 fun μ3 y H3 wy st3 s3 e3 rs3 r3 h3 => ?_
      refine aug_ok (G := gm X xn) (σ := σ) (Wx := Wx) op rs3 (Rep.step rv s3) r3 (PostS.then e3 h3 fun μ4 z H4 wz st4 _ s4 e4 rs4 r4 h4 => ?_)
      cases e : setIxW st4 wx wk wz with
      | none => rw [e] at h4; exact h4.elim
      | some st' =>
        rw [e] at h4
        exact set_ok (G := gm X xn) rs4 (Rep.step (Rep.step (Rep.step r1 s2) s3) s4) (Rep.step (Rep.step r2 s3) s4) r4 e fun H' s' rs' => h4 μ4 σ H' s' (e4.step s') rs'
  · exact h2.elim
theorem s_ex (he : Pe X xn Wx a (evE T A)) (hs : swapsWith a none pos.line X.env = pure false) : Ps X xn Wx (.Expr a pos) (evS T (.ex A)) := by
  refine PS.imp (ps_expr he hs) ?_
  rintro D σ H ⟨μ, env, st, he, hs, h⟩
  refine tR.then he hs h fun μ1 v H1 w st1 s1 e1 rs1 r1 h1 => ?_
  exact h1 μ1 σ H1 (Step.refl _ _) e1 rs1
theorem s_pass : Ps X xn Wx (.Pass pos) (evS T (.ex (.con .non))) := by
  refine PS.imp ps_pass ?_
  rintro D σ H ⟨μ, env, st, he, hs, h⟩
  exact h μ σ H (Step.refl _ _) he hs
theorem s_brk : Ps X xn Wx (.Break pos) (evS T .brk) := by
  refine PS.imp ps_break ?_
  rintro D σ H ⟨μ, env, st, he, hs, h⟩
  exact h μ σ H (Step.refl _ _) he hs
theorem s_cnt : Ps X xn Wx (.Continue pos) (evS T .cnt) := by
  refine PS.imp ps_continue ?_
  rintro D σ H ⟨μ, env, st, he, hs, h⟩
  exact h μ σ H (Step.refl _ _) he hs
theorem s_ret (he : Pe X xn Wx a (evE T A)) : Ps X xn Wx (.Return (some a) pos) (evS T (.ret A)) := by
  refine PS.imp (ps_ret he) ?_
  rintro D σ H ⟨μ, env, st, he, hs, h⟩
  refine tR.then he hs h fun μ1 v H1 w st1 s1 e1 rs1 r1 h1 => ?_
  exact h1 μ1 v H1 (Step.refl _ _) rs1 r1
theorem s_retN : Ps X xn Wx (.Return none pos) (evS T .retN) := by
  refine PS.imp ps_retN ?_
  rintro D σ H ⟨μ, env, st, he, hs, h⟩
  exact h μ .non H (Step.refl _ _) hs rfl
theorem s_if {p q : List Stmt} {P1 Q1 : Ss} (hc : Pt X xn Wx c (evT T C)) (ha : Pss X xn Wx p (evSs T P1)) (hb : Pss X xn Wx q (evSs T Q1)) : Ps X xn Wx (.If c p q pos) (evS T (.ite C P1 Q1)) := by
  refine PS.imp (ps_if hc ha hb) ?_
  rintro D σ H ⟨μ, env, st, he, hs, h⟩
  refine tR.then he hs h fun μ1 v H1 w st1 s1 e1 rs1 r1 h1 => ?_
  have r1 : w = v := r1
  subst r1
  cases w with
  | true =>
    rw [if_pos rfl] at h1 ⊢
    exact ⟨μ1, env, st1, e1, rs1, h1⟩
  | false =>
    rw [if_neg Bool.false_ne_true] at h1 ⊢
    exact ⟨μ1, env, st1, e1, rs1, h1⟩
theorem s_whl (hp : PassesOwn (model X.prog X.w) X.A X.env X.xe) (hc : Pt X xn Wx c (evT T C)) (hb : Pss X xn Wx body (evSs T B1)) : Ps X xn Wx (.While c body [] pos) (evS T (.whl C B1)) := by
  refine PS.imp (ps_while hp hc hb) ?_
  intro D σ H h
  have e : evS T (.whl C B1) = whlL (evT T C) (evSs T B1) BIG := by
    funext env st
    simp only [evS]
  rw [e] at h
  exact whl_ok (G := gm X xn) (n := BIG) h
theorem s_for {tg iter : Expr} {I : EV.It} {t : Tgt} (hp : PassesOwn (model X.prog X.w) X.A X.env X.xe) (hc : X.calm = true) (hi : Pi X xn Wx tg iter (evI T I)) (hg : PG X tg (tgT X.K t)) (hb : Pss X xn Wx body (evSs T B1)) (hs : ∀ x, foldedSetIterable iter X.env x = pure x) :
    Ps X xn Wx (.For tg iter body [] pos) (evS T (.for_ t I B1)) := by
  refine PS.imp (ps_for hp hc hi hg hb hs) ?_
  intro D σ H h
  exact for_ok (G := gm X xn) h
end
end EV

/-! EV9: the given text turned into the evaluator's, and that it is right. -/
namespace EV
open PySem PySem.Spec PyProof.Rows L2

/-- the module's names: own defs with the number of their parameters, constants, built-ins that are what they were -/
structure Gs where
  fns : List (Str × Nat)
  cons : List (Str × W)
  free : List Str
/-- where one stands: the scope, the names by slot, which cells are the frame's own -/
structure Se where
  sc : Scope
  N : List Str
  fn : Str → Bool

def ixOf (x : Str) : List Str → Option Nat
  | [] => none
  | y :: ys => if y = x then some 0 else (ixOf x ys).map (· + 1)
theorem ixOf_ok {x : Str} : ∀ {ys : List Str} {i : Nat}, ixOf x ys = some i → ys[i]? = some x
  | [], i, h => by cases h
  | y :: ys, i, h => by
    unfold ixOf at h
    split at h
    · rename_i e
      simp only [Option.some.injEq] at h
      subst h e
      rfl
    · cases q : ixOf x ys with
      | none => rw [q] at h; cases h
      | some j =>
        rw [q] at h
        simp only [Option.map_some, Option.some.injEq] at h
        subst h
        simpa using ixOf_ok q
def visK (sc : Scope) (x : Str) : Bool := match sc.names.lookup x with
  | some .local => true
  | some .cell => true
  | some .free => true
  | _ => false
def vis (se : Se) (x : Str) : Option Nat := if (visK se.sc x && !(x == ("__debug__" : Str)) && !(x == ("__classdict__" : Str))) = true then ixOf x se.N else none
def sto (se : Se) (x : Str) : Option Nat := match se.sc.names.lookup x with
  | some .local => ixOf x se.N
  | some .cell => if se.fn x = true then ixOf x se.N else none
  | _ => none
def glb (se : Se) (x : Str) : Bool := match se.sc.names.lookup x with
  | some .globalImplicit => !(x == ("__debug__" : Str))
  | _ => false
def trOp : Operator → Option Bop
  | .Add => some .add
  | .Sub => some .sub
  | .Mult => some .mul
  | .FloorDiv => some .fdiv
  | .Mod => some .mod
  | .Pow => some .pow
  | _ => none
theorem trOp_ok {o : Operator} {b : Bop} (h : trOp o = some b) : o = b.py := by
  cases o <;> simp [trOp] at h <;> (subst h; rfl)
def trCmp : CmpOp → Option Cop
  | .Eq => some .eq
  | .NotEq => some .ne
  | .Lt => some .lt
  | .LtE => some .le
  | .Gt => some .gt
  | .GtE => some .ge
  | .In => some .inn
  | .NotIn => some .nin
  | _ => none
theorem trCmp_ok {o : CmpOp} {b : Cop} (h : trCmp o = some b) : o = b.py := by
  cases o <;> simp [trCmp] at h <;> (subst h; rfl)
def trConst : Const → Option W
  | .none => some .non
  | .bool b => some (.bl b)
  | .int i => some (.int i)
  | .str x => if x.length ≤ line ∧ PyData.strOk x = true then some (.str x) else none
  | _ => none
def tyOf (x : Str) : Option Ty :=
  if x = "int" then some .int else if x = "bool" then some .bool else if x = "str" then some .str else if x = "tuple" then some .tuple else if x = "list" then some .list else if x = "dict" then some .dict else none
def bltOf (x : Str) (n : Nat) : Option Blt :=
  if x = "len" then (if n = 1 then some .len else none) else if x = "abs" then (if n = 1 then some .abs else none) else if x = "max" then (if n = 2 then some .max2 else none)
  else if x = "min" then (if n = 2 then some .min2 else none) else if x = "sum" then (if n = 1 then some .sum else none) else if x = "any" then (if n = 1 then some .any else none)
  else if x = "all" then (if n = 1 then some .all else none) else if x = "tuple" then (if n = 1 then some .tuple else none) else if x = "list" then (if n = 1 then some .list else none)
  else if x = "int" then (if n = 1 then some .int else none) else none
theorem bltOf_ok {x : Str} {n : Nat} {b : Blt} (h : bltOf x n = some b) : x = b.name := by
  unfold bltOf at h
  repeat' split at h
  all_goals first
    | (cases h; done)
    | (simp only [Option.some.injEq] at h; subst h; assumption)
theorem tyOf_ok {x : Str} {t : Ty} (h : tyOf x = some t) : bootBuiltins x = some (.type t.name) := by
  unfold tyOf at h
  repeat' split at h
  all_goals first
    | (cases h; done)
    | (rename_i e; simp only [Option.some.injEq] at h; subst h e; decide +kernel)
    | (simp only [Option.some.injEq] at h; subst h; rename_i e; subst e; decide +kernel)
def trAll (f : Expr → Option Ex) : List Expr → Option Exs
  | [] => some .nil
  | e :: es => match f e, trAll f es with
    | some a, some b => some (.cons a b)
    | _, _ => none
def trBool (op : BoolOp) (f : Expr → Option Ex) : List Expr → Option Ex
  | [] => none
  | [a] => f a
  | a :: b :: r => match f a, trBool op f (b :: r) with
    | some x, some y => some (match op with
      | .And => .and x y
      | .Or => .or x y)
    | _, _ => none
def trO (f : Expr → Option Ex) : Option Expr → Option Ox
  | none => some .no
  | some e => match f e with
    | some x => some (.yes x)
    | none => none
def trNames (se : Se) : List Expr → Option (List Nat)
  | [] => some []
  | .Name x _ :: es => match sto se x, trNames se es with
    | some i, some is => some (i :: is)
    | _, _ => none
  | _ :: _ => none
def trTg (se : Se) : Expr → Option Tgt
  | .Name x _ => match sto se x with
    | some i => some (.one i)
    | none => none
  | .Tuple es _ _ => match trNames se es with
    | some is => some (.tup is)
    | none => none
  | _ => none
def isTup : Expr → Bool
  | .Tuple .. => true
  | _ => false
def isCmp : Expr → Bool
  | .ListComp .. => true
  | .SetComp .. => true
  | .DictComp .. => true
  | _ => false
def isCall : Expr → Bool
  | .Call .. => true
  | _ => false
def isSet : Expr → Bool
  | .Set .. => true
  | _ => false
def isSlice : Expr → Bool
  | .Slice .. => true
  | _ => false
def trIt (Γ : Gs) (se : Se) (f : Expr → Option Ex) (tg e : Expr) : Option It := match e with
  | .Call (.Name x _) args [] _ =>
    if glb se x = true ∧ x ∈ Γ.free then
      (if x = "range" then (match args with
        | [b] => match f b with
          | some y => some (.rng1 y)
          | none => none
        | [a, b] => match f a, f b with
          | some x, some y => some (.rng2 x y)
          | _, _ => none
        | _ => none)
      else if x = "enumerate" then (match args with
        | [a] => if isTup tg = true then (match f a with
          | some y => some (.enum y)
          | none => none) else none
        | _ => none)
      else if x = "zip" then (match args with
        | [a, b] => if isTup tg = true then (match f a, f b with
          | some x, some y => some (.zip x y)
          | _, _ => none) else none
        | _ => none)
      else match f e with
        | some y => some (.seq y)
        | none => none)
    else match f e with
      | some y => some (.seq y)
      | none => none
  | _ => if isSet e = true then none else match f e with
    | some y => some (.seq y)
    | none => none
/-- the scope within a comprehension's block -/
def relS (scope sc : Scope) : Scope := { scope with names := scope.names.map fun (n, k) => if (k == .free && sc.kind == .function && sc.names.lookup n == some .cell) then (n, .cell) else (n, k) }
def Se.blk (se : Se) (scope : Scope) : Se := ⟨relS scope se.sc, se.N, fun x => scope.names.lookup x == some .cell⟩
def tgNames : Expr → List Str
  | .Name x _ => [x]
  | .Tuple es _ _ => es.filterMap fun
    | .Name x _ => some x
    | _ => none
  | _ => []
def tyNames (Γ : Gs) (se : Se) : List Expr → Option (List Ty)
  | [] => some []
  | .Name y _ :: es => if glb se y = true ∧ y ∈ Γ.free then (match tyOf y, tyNames Γ se es with
    | some t, some ts => some (t :: ts)
    | _, _ => none) else none
  | _ :: _ => none
def trLc (Γ : Gs) (se : Se) (f : Expr → Option Ex) (g : Expr → Option Ex) (elt : Expr) (gens : List Comprehension) (scope : Scope) : Option Ex := match gens with
  | [⟨tg, it, ifs, as⟩] => if as = 0 then (match trTg (se.blk scope) tg, trIt Γ se f tg it, (match ifs with
      | [] => some Ox.no
      | [c] => trO g (some c)
      | _ => none), g elt with
    | some t, some i, some c, some e => if blkC se.N se.sc scope ((tgNames tg).zip t.slots) = true ∧ (tgNames tg).length = t.slots.length then some (.comp t i c e) else none
    | _, _, _, _ => none) else none
  | _ => none
def trE (Γ : Gs) : Nat → Se → Expr → Option Ex
  | 0, _, _ => none
  | n + 1, se, e => match e with
    | .Name x _ => match vis se x with
      | some i => some (.var i)
      | none => if glb se x = true then (match Γ.cons.lookup x with
        | some w => some (.con w)
        | none => none) else none
    | .Constant c _ _ => match trConst c with
      | some w => some (.con w)
      | none => none
    | .BinOp a op b _ => match trOp op, trE Γ n se a, trE Γ n se b with
      | some o, some x, some y => some (.bin o x y)
      | _, _, _ => none
    | .UnaryOp op a _ => match op, trE Γ n se a with
      | .Not, some x => some (.not x)
      | .USub, some x => some (.neg x)
      | _, _ => none
    | .BoolOp op vs _ => trBool op (trE Γ n se) vs
    | .Compare a ops bs _ => match ops, bs with
      | [.Is], [.Constant .none _ _] => match trE Γ n se a with
        | some x => some (.isN x)
        | none => none
      | [.IsNot], [.Constant .none _ _] => match trE Γ n se a with
        | some x => some (.notN x)
        | none => none
      | [op], [b] => match trCmp op, trE Γ n se a, trE Γ n se b with
        | some o, some x, some y => if behindInMarks op b = false then some (.cmp o x y) else none
        | _, _, _ => none
      | [o1, o2], [b, c] => match trCmp o1, trCmp o2, trE Γ n se a, trE Γ n se b, trE Γ n se c with
        | some p, some q, some x, some y, some z => if lastMarks [o1, o2] [b, c] = false then some (.chain p q x y z) else none
        | _, _, _, _, _ => none
      | _, _ => none
    | .IfExp c a b _ => match trE Γ n se c, trE Γ n se a, trE Γ n se b with
      | some x, some y, some z => some (.ite x y z)
      | _, _, _ => none
    | .Tuple es _ _ => if es.length < 1000 then (match trAll (trE Γ n se) es with
      | some xs => some (.tup xs)
      | none => none) else none
    | .List es _ => if es.length < 1000 then (match trAll (trE Γ n se) es with
      | some xs => some (.lst xs)
      | none => none) else none
    | .Subscript a s _ => match s with
      | .Slice none none (some (.UnaryOp .USub (.Constant (.int 1) _ _) _)) _ => match trE Γ n se a with
        | some x => some (.rev x)
        | none => none
      | .Slice lo hi none _ => match trE Γ n se a, trO (trE Γ n se) lo, trO (trE Γ n se) hi with
        | some x, some l, some h => some (.slc x l h)
        | _, _, _ => none
      | s => if isSlice s = true then none else match trE Γ n se a, trE Γ n se s with
        | some x, some y => some (.idx x y)
        | _, _ => none
    | .Call f args kws pos => match f, kws with
      | .Name x _, [] => match args with
        | [] => none
        | a :: as => if glb se x = true ∧ args.length < 1000 then
            (if x = "isinstance" then (if x ∈ Γ.free then (match trE Γ n se a, as with
              | some A, [.Name y _] => if glb se y = true ∧ y ∈ Γ.free then (match tyOf y with
                | some t => some (.isi A [t])
                | none => none) else none
              | some A, [.Tuple ys _ _] => if ys.length < 1000 then (match tyNames Γ se ys with
                | some ts => some (.isi A ts)
                | none => none) else none
              | _, _ => none) else none)
            else match ixOf x (Γ.fns.map (·.1)) with
              | some i => match Γ.fns[i]?, trAll (trE Γ n se) args with
                | some p, some xs => if xs.len = p.2 then some (.call i xs) else none
                | _, _ => none
              | none => if x ∈ Γ.free then (match bltOf x args.length, trAll (trE Γ n se) args with
                | some b, some xs => some (.blt b xs)
                | _, _ => none) else none)
          else none
      | .Attribute o m apos, [] => if (apos.endLine == pos.line) = true ∧ isCall o = false then (match trE Γ n se o, args with
          | some x, [] => if m = "pop" then some (.mth .popl x .nil) else none
          | some x, [a] => match trE Γ n se a with
            | some y => if m = "append" then some (.mth .append x (.cons y .nil)) else if m = "extend" then some (.mth .extend x (.cons y .nil)) else if m = "join" then some (.join x y) else none
            | none => none
          | _, _ => none) else none
      | _, _ => none
    | .ListComp elt gens scope _ => trLc Γ se (trE Γ n se) (trE Γ n (se.blk scope)) elt gens scope
    | _ => none

/-! ### the facts of a place -/
structure Gd (tb : Nat → Option Fd) (xn : Nat → Option Str) (Γ : Gs) (X : Cx) (k : Nat) : Prop where
  fn : ∀ x i p, ixOf x (Γ.fns.map (·.1)) = some i → Γ.fns[i]? = some p → ∃ f fd ps, X.mg x = some (.ref f) ∧ PySem.W.keepIn X.K (.ref f) = true ∧ Binds X.K fd ps [] ∧ FnOk X.prog X.w X.K X.mg X.base (L2.CX X.prog X.w) k f fd ps (spF (gm X xn) tb k i p.2)
  con : ∀ x w, Γ.cons.lookup x = some w → ∃ u v, X.mg x = some u ∧ RelV v u ∧ ∀ μ H, Rep X.K μ H w v
  free : ∀ x, x ∈ Γ.free → X.mg x = none
structure Good (tb : Nat → Option Fd) (xn : Nat → Option Str) (Γ : Gs) (se : Se) (X : Cx) (Wx : WX) (k : Nat) : Prop where
  gd : Gd tb xn Γ X k
  N : X.N = se.N
  sc : X.env.scope = se.sc
  fn : ∀ x, se.fn x = true → X.fn x = true
  nd : se.N.Nodup
  calm : X.calm = true
  room : Room k X.A
  tk : Takes X Wx
  po : PassesOwn (model X.prog X.w) X.A X.env X.xe

section
variable {tb : Nat → Option Fd} {xn : Nat → Option Str} {Γ : Gs} {se : Se} {X : Cx} {Wx : WX} {k : Nat}
theorem Good.units (g : Good tb xn Γ se X Wx k) : X.A.units + 65 < cLine := by have := g.room.un; omega
theorem Good.blk (g : Good tb xn Γ se X Wx k) (scope : Scope) (s : Shared) (H : Hp) (C : Addr) (cl : List (Str × Addr)) (fp : List Addr) : Good tb xn Γ (se.blk scope) (X.blk s H scope (compEnvC scope cl C X.env) fp) WxF k := by
  refine ⟨⟨g.gd.fn, g.gd.con, g.gd.free⟩, g.N, ?_, fun x h => h, g.nd, g.calm, g.room, takes0, PassesOwn.never⟩
  show relabel scope X.env = relS scope se.sc
  rw [← g.sc]
  rfl
theorem glb_ok (g : Good tb xn Γ se X Wx k) {x : Str} (h : glb se x = true) : Gl X x ∧ (x == ("__debug__" : Str)) = false := by
  unfold glb at h
  unfold Gl Env.kindOf
  rw [g.sc]
  split at h
  · rename_i e
    refine ⟨e, ?_⟩
    cases q : (x == ("__debug__" : Str)) with
    | false => rfl
    | true => rw [q] at h; cases h
  · cases h
theorem vis_ok (g : Good tb xn Γ se X Wx k) {x : Str} {i : Nat} (h : vis se x = some i) : X.N[i]? = some x ∧ Vis X.env.scope x ∧ (x == ("__debug__" : Str)) = false ∧ (x == ("__classdict__" : Str)) = false := by
  unfold vis at h
  split at h
  · rename_i e
    simp only [Bool.and_eq_true, Bool.not_eq_true'] at e
    obtain ⟨⟨e1, e2⟩, e3⟩ := e
    refine ⟨by rw [g.N]; exact ixOf_ok h, ?_, e2, e3⟩
    rw [g.sc]
    unfold visK at e1
    unfold Vis
    split at e1
    · rename_i q; exact .inl q
    · rename_i q; exact .inr (.inl q)
    · rename_i q; exact .inr (.inr q)
    · cases e1
  · cases h
theorem sto_ok (g : Good tb xn Γ se X Wx k) {x : Str} {i : Nat} (h : sto se x = some i) : X.N[i]? = some x ∧ L2.Loc X.env.scope x ∧ (X.fn x = true ∨ X.env.scope.names.lookup x = some .local) := by
  unfold sto at h
  rw [g.sc, g.N]
  unfold L2.Loc
  split at h
  · rename_i q
    exact ⟨ixOf_ok h, .inl q, .inr q⟩
  · rename_i q
    split at h
    · rename_i q2
      exact ⟨ixOf_ok h, .inr q, .inl (g.fn x q2)⟩
    · cases h
  · cases h
theorem names_ok (g : Good tb xn Γ se X Wx k) : ∀ {es : List Expr} {is : List Nat}, trNames se es = some is → PGs X es (tgS X.K is) ∧ (assignEach es X.env).length = is.length ∧ (assignEach es X.env).findIdx? (·.1) = none
  | [], is, h => by
    simp only [trNames, Option.some.injEq] at h
    subst h
    exact ⟨pgs_nil, rfl, rfl⟩
  | .Name x p :: es, is, h => by
    simp only [trNames] at h
    split at h
    · rename_i i js e1 e2
      simp only [Option.some.injEq] at h
      subst h
      obtain ⟨h1, h2, h3⟩ := sto_ok g e1
      obtain ⟨q1, q2, q3⟩ := names_ok g e2
      refine ⟨pgs_cons (pg_name (by rw [g.N]; exact g.nd) h1 h2 h3) q1, ?_, ?_⟩
      · show (assignEach es X.env).length + 1 = js.length + 1
        rw [q2]
      · show List.findIdx? (·.1) ((false, assign (.Name x p) X.env) :: assignEach es X.env) = none
        rw [List.findIdx?_cons, q3]
        rfl
    · cases h
  | .BoolOp .. :: _, _, h | .NamedExpr .. :: _, _, h | .BinOp .. :: _, _, h | .UnaryOp .. :: _, _, h | .Lambda .. :: _, _, h | .IfExp .. :: _, _, h | .Dict .. :: _, _, h | .Set .. :: _, _, h | .ListComp .. :: _, _, h | .SetComp .. :: _, _, h
  | .DictComp .. :: _, _, h | .GeneratorExp .. :: _, _, h | .Await .. :: _, _, h | .Yield .. :: _, _, h | .YieldFrom .. :: _, _, h | .Compare .. :: _, _, h | .Call .. :: _, _, h | .FormattedValue .. :: _, _, h | .JoinedStr .. :: _, _, h
  | .Constant .. :: _, _, h | .Attribute .. :: _, _, h | .Subscript .. :: _, _, h | .Starred .. :: _, _, h | .List .. :: _, _, h | .Tuple .. :: _, _, h | .Slice .. :: _, _, h => by simp [trNames] at h
theorem tg_ok (g : Good tb xn Γ se X Wx k) {e : Expr} {t : Tgt} (h : trTg se e = some t) : PG X e (tgT X.K t) := by
  unfold trTg at h
  split at h
  · split at h
    · rename_i i e1
      simp only [Option.some.injEq] at h
      subst h
      obtain ⟨h1, h2, h3⟩ := sto_ok g e1
      exact pg_name (by rw [g.N]; exact g.nd) h1 h2 h3
    · cases h
  · split at h
    · rename_i is e1
      simp only [Option.some.injEq] at h
      subst h
      obtain ⟨q1, q2, q3⟩ := names_ok g e1
      exact pg_tup g.calm q1 q2 q3
    · cases h
  · cases h
end
end EV

/-! EV10: the translation of expressions is right. -/
namespace EV
open PySem PySem.Spec PyProof.Rows L2
section
variable {tb : Nat → Option Fd} {xn : Nat → Option Str} {Γ : Gs} {se : Se} {X : Cx} {Wx : WX} {k : Nat}

/-- what is shown of an expression -/
def Eok (tb : Nat → Option Fd) (xn : Nat → Option Str) (X : Cx) (Wx : WX) (k : Nat) (e : Expr) (E : Ex) : Prop := Pe X xn Wx e (evE (run tb k) E) ∧ Pt X xn Wx e (evT (run tb k) E)

theorem notStar {n : Nat} {e : Expr} {E : Ex} (h : trE Γ n se e = some E) (es : List Expr) (env : PySem.Env) : starEach (e :: es) env = (false, eval e env) :: starEach es env := by
  cases n with
  | zero => cases h
  | succ n => cases e <;> first | rfl | (simp [trE] at h)
theorem notSet {n : Nat} {e : Expr} {E : Ex} (h : trE Γ n se e = some E) (env : PySem.Env) (x : Value) : foldedSetIterable e env x = pure x := by
  cases n with
  | zero => cases h
  | succ n => cases e <;> first | rfl | (simp [trE] at h)
theorem any_back {pos : Pos} {env : PySem.Env} {n : Nat} : ∀ {es : List Expr} {Es : Exs}, trAll (trE Γ n se) es = some Es → (backTo pos (starEach es env)).any (·.1) = false
  | [], _, _ => rfl
  | e :: es, Es, h => by
    simp only [trAll] at h
    split at h
    · rename_i a b e1 e2
      rw [notStar e1]
      show (false || (backTo pos (starEach es env)).any (·.1)) = false
      rw [any_back e2]
      rfl
    · cases h
theorem trAll_len {f : Expr → Option Ex} : ∀ {es : List Expr} {Es : Exs}, trAll f es = some Es → Es.len = es.length
  | [], Es, h => by
    simp only [trAll, Option.some.injEq] at h
    subst h; rfl
  | e :: es, Es, h => by
    simp only [trAll] at h
    split at h
    · rename_i a b e1 e2
      simp only [Option.some.injEq] at h
      subst h
      show b.len + 1 = es.length + 1
      rw [trAll_len e2]
    · cases h
/-- the arguments -/
theorem all_ok {n : Nat} (ih : ∀ e E, trE Γ n se e = some E → Eok tb xn X Wx k e E) : ∀ {es : List Expr} {Es : Exs}, es.length < 1000 → trAll (trE Γ n se) es = some Es → Pa X xn Wx es (evEs (run tb k) Es)
  | [], Es, _, h => by
    simp only [trAll, Option.some.injEq] at h
    subst h
    exact a_nil
  | e :: es, Es, hz, h => by
    simp only [trAll] at h
    split at h
    · rename_i a b e1 e2
      simp only [Option.some.injEq] at h
      subst h
      have hz' : es.length < 1000 := by simp only [List.length_cons] at hz; omega
      refine a_cons (ih e a e1).1 (all_ok ih hz' e2) (notStar e1 es X.env) hz' fun env st ws st' q => ?_
      rw [evEs_len b env st ws st' q, trAll_len e2]
    · cases h
theorem bool_ok {n : Nat} {pos : Pos} (ih : ∀ e E, trE Γ n se e = some E → Eok tb xn X Wx k e E) : ∀ {op : BoolOp} {vs : List Expr} {E : Ex}, trBool op (trE Γ n se) vs = some E → Pe X xn Wx (.BoolOp op vs pos) (evE (run tb k) E) ∧ Pw X xn Wx (.BoolOp op vs pos) (evT (run tb k) E)
  | _, [], _, h => by cases h
  | .And, [a], E, h => ⟨e_one (ih a E h).1, w_and1 (ih a E h).2⟩
  | .Or, [a], E, h => ⟨e_one (ih a E h).1, w_or1 (ih a E h).2⟩
  | .And, a :: b :: r, E, h => by
    simp only [trBool] at h
    split at h
    · rename_i x y e1 e2
      simp only [Option.some.injEq] at h
      subst h
      obtain ⟨q1, q2⟩ := bool_ok (pos := pos) ih e2
      exact ⟨e_and (ih a x e1).1 q1, w_and (ih a x e1).2 q2⟩
    · cases h
  | .Or, a :: b :: r, E, h => by
    simp only [trBool] at h
    split at h
    · rename_i x y e1 e2
      simp only [Option.some.injEq] at h
      subst h
      obtain ⟨q1, q2⟩ := bool_ok (pos := pos) ih e2
      exact ⟨e_or (ih a x e1).1 q1, w_or (ih a x e1).2 q2⟩
    · cases h
theorem o_ok {n : Nat} (ih : ∀ e E, trE Γ n se e = some E → Eok tb xn X Wx k e E) {o : Option Expr} {O : Ox} (h : trO (trE Γ n se) o = some O) : Po X xn Wx o (evP (run tb k) O) := by
  cases o with
  | none =>
    simp only [trO, Option.some.injEq] at h
    subst h
    exact p_no
  | some e =>
    simp only [trO] at h
    split at h
    · rename_i x e1
      simp only [Option.some.injEq] at h
      subst h
      exact p_yes (ih e x e1).1
    · cases h
theorem seq1 {n : Nat} {tg : Expr} (ih : ∀ e E, trE Γ n se e = some E → Eok tb xn X Wx k e E) {e : Expr} {I : It} (h : (match trE Γ n se e with | some y => some (It.seq y) | none => none) = some I) : Pi X xn Wx tg e (evI (run tb k) I) ∧ ∀ x, foldedSetIterable e X.env x = pure x := by
  split at h
  · rename_i y e1
    simp only [Option.some.injEq] at h
    subst h
    exact ⟨i_seq (ih e y e1).1, notSet e1 X.env⟩
  · cases h
theorem it_ok {n : Nat} (g : Good tb xn Γ se X Wx k) (ih : ∀ e E, trE Γ n se e = some E → Eok tb xn X Wx k e E) {tg e : Expr} {I : It} (h : trIt Γ se (trE Γ n se) tg e = some I) : Pi X xn Wx tg e (evI (run tb k) I) ∧ ∀ x, foldedSetIterable e X.env x = pure x := by
  unfold trIt at h
  split at h
  · rename_i x p args pos
    split at h
    · rename_i hg
      obtain ⟨hgl, hdb⟩ := glb_ok g hg.1
      have hfr := g.gd.free x hg.2
      split at h
      · rename_i ex
        subst ex
        split at h
        · rename_i b
          split at h
          · rename_i y e1
            simp only [Option.some.injEq] at h
            subst h
            exact ⟨i_rng1 hgl hfr (all_ok ih (by simp) (by simp only [trAll, e1])) (notStar e1 [] X.env), fun _ => rfl⟩
          · cases h
        · rename_i a b
          split at h
          · rename_i x' y' e1 e2
            simp only [Option.some.injEq] at h
            subst h
            exact ⟨i_rng2 hgl hfr (all_ok ih (by simp) (by simp only [trAll, e1, e2])) (by rw [notStar e1, notStar e2]; rfl) (notStar e2 [] X.env), fun _ => rfl⟩
          · cases h
        · cases h
      · split at h
        · rename_i ex
          subst ex
          split at h
          · rename_i a
            split at h
            · rename_i ht
              split at h
              · rename_i y e1
                simp only [Option.some.injEq] at h
                subst h
                cases tg with
                | Tuple elts kk tpos => exact ⟨i_enum hgl hfr (all_ok ih (by simp) (by simp only [trAll, e1])) (notStar e1 [] X.env), fun _ => rfl⟩
                | _ => simp [isTup] at ht
              · cases h
            · cases h
          · cases h
        · split at h
          · rename_i ex
            subst ex
            split at h
            · rename_i a b
              split at h
              · rename_i ht
                split at h
                · rename_i x' y' e1 e2
                  simp only [Option.some.injEq] at h
                  subst h
                  cases tg with
                  | Tuple elts kk tpos =>
                    refine ⟨i_zip hgl hfr (all_ok ih (by simp) (by simp only [trAll, e1, e2])) (notStar e1 [b] X.env) (any_back (se := se) (Γ := Γ) (n := n) (es := [b]) (Es := .cons y' .nil) (by simp only [trAll, e2])), fun _ => rfl⟩
                  | _ => simp [isTup] at ht
                · cases h
              · cases h
            · cases h
          · exact seq1 ih h
    · exact seq1 ih h
  · split at h
    · cases h
    · exact seq1 ih h
theorem noTyName : tyOf "__name__" = none := by decide +kernel
theorem tys_ok (g : Good tb xn Γ se X Wx k) : ∀ {es : List Expr} {ts : List Ty}, tyNames Γ se es = some ts → PA X es (tTys ts) ∧ ts.length = es.length
  | [], ts, h => by
    simp only [tyNames, Option.some.injEq] at h
    subst h
    exact ⟨pa_nil, rfl⟩
  | .Name y p :: es, ts, h => by
    simp only [tyNames] at h
    split at h
    · rename_i hg
      split at h
      · rename_i t ts' e1 e2
        simp only [Option.some.injEq] at h
        subst h
        obtain ⟨hgl, hdb⟩ := glb_ok g hg.1
        obtain ⟨q1, q2⟩ := tys_ok g e2
        have hnn : y ≠ "__name__" := by
          intro e
          subst e
          rw [noTyName] at e1; cases e1
        exact ⟨pa_cons (pe_bltn (v := .ty t.name) hgl (g.gd.free y hg.2) (tyOf_ok e1) rfl hnn hdb) q1, by rw [List.length_cons, List.length_cons, q2]⟩
      · cases h
    · cases h
  | .BoolOp .. :: _, _, h | .NamedExpr .. :: _, _, h | .BinOp .. :: _, _, h | .UnaryOp .. :: _, _, h | .Lambda .. :: _, _, h | .IfExp .. :: _, _, h | .Dict .. :: _, _, h | .Set .. :: _, _, h | .ListComp .. :: _, _, h | .SetComp .. :: _, _, h
  | .DictComp .. :: _, _, h | .GeneratorExp .. :: _, _, h | .Await .. :: _, _, h | .Yield .. :: _, _, h | .YieldFrom .. :: _, _, h | .Compare .. :: _, _, h | .Call .. :: _, _, h | .FormattedValue .. :: _, _, h | .JoinedStr .. :: _, _, h
  | .Constant .. :: _, _, h | .Attribute .. :: _, _, h | .Subscript .. :: _, _, h | .Starred .. :: _, _, h | .List .. :: _, _, h | .Tuple .. :: _, _, h | .Slice .. :: _, _, h => by simp [tyNames] at h
theorem plainIx_of {s : Expr} (h : isSlice s = false) : PlainIx s := by
  intro o i
  cases s <;> first | rfl | (cases h)
theorem noSuper {o : Expr} {m : Str} (h : isCall o = false) (env : PySem.Env) (w : Sem Value) : attributeBase o m env w = w := by
  cases o <;> first | rfl | (cases h)
/-- where the truth is the value's -/
theorem both {e : Expr} {E : Ex} (he : Pe X xn Wx e (evE (run tb k) E)) (hp : ∀ whole, isTrue e X.env whole = (do let v ← whole; standAt e.pos; holding [v] (truthy v))) : Eok tb xn X Wx k e E := ⟨he, t_plain he hp⟩
theorem trNames_len {se : Se} : ∀ {es : List Expr} {is : List Nat}, trNames se es = some is → es.length = is.length := by
  intro es
  induction es with
  | nil =>
    intro is h
    simp only [trNames, Option.some.injEq] at h
    subst h; rfl
  | cons e es ih =>
    intro is h
    cases e <;> first | (simp [trNames] at h; done) | skip
    simp only [trNames] at h
    split at h
    · rename_i i js e1 e2
      simp only [Option.some.injEq] at h
      subst h
      rw [List.length_cons, List.length_cons, ih e2]
    · cases h
theorem zip_snd {α β : Type} : ∀ {xs : List α} {ys : List β}, xs.length = ys.length → (xs.zip ys).map (·.2) = ys
  | [], [], _ => rfl
  | x :: xs, y :: ys, h => by
    rw [List.zip_cons_cons, List.map_cons, zip_snd (by simpa using h)]
theorem lc_ok {n : Nat} {pos : Pos} (g : Good tb xn Γ se X Wx k) (ih : ∀ e E, trE Γ n se e = some E → Eok tb xn X Wx k e E)
    (ihb : ∀ (scope : Scope) (s : Shared) (H : Hp) (C : Addr) (cl : List (Str × Addr)) (fp : List Addr) e E, trE Γ n (se.blk scope) e = some E → Eok tb xn (X.blk s H scope (compEnvC scope cl C X.env) fp) WxF k e E)
    {elt : Expr} {gens : List Comprehension} {scope : Scope} {E : Ex} (h : trLc Γ se (trE Γ n se) (trE Γ n (se.blk scope)) elt gens scope = some E) :
    ∃ tg it ifs t i c e, gens = [⟨tg, it, ifs, 0⟩] ∧ E = .comp t i c e ∧ (((tgNames tg).zip t.slots).map (·.2) = t.slots) ∧ Pi X xn Wx tg it (evI (run tb k) i) ∧ BlkOk X.N X.env.scope scope ((tgNames tg).zip t.slots) ∧
      (∀ (s : Shared) (H : Hp) (C : Addr) (cl : List (Str × Addr)) (fp : List Addr), PG (X.blk s H scope (compEnvC scope cl C X.env) fp) tg (tgT X.K t)) ∧
      (∀ (s : Shared) (H : Hp) (C : Addr) (cl : List (Str × Addr)) (fp : List Addr), PTs (X.blk s H scope (compEnvC scope cl C X.env) fp) ifs (tR (gm X xn) WxF RB (evC (run tb k) c))) ∧
      (∀ (s : Shared) (H : Hp) (C : Addr) (cl : List (Str × Addr)) (fp : List Addr), Pe (X.blk s H scope (compEnvC scope cl C X.env) fp) xn WxF elt (evE (run tb k) e)) ∧ (∀ x, foldedSetIterable it X.env x = pure x) := by
  unfold trLc at h
  split at h
  · rename_i tg it ifs as
    split at h
    · rename_i has
      subst has
      split at h
      · rename_i t i c e h1 h2 h3 h4
        split at h
        · rename_i hb
          simp only [Option.some.injEq] at h
          subst h
          obtain ⟨q1, q2⟩ := it_ok g ih h2
          refine ⟨tg, it, ifs, t, i, c, e, rfl, rfl, zip_snd hb.2, q1, ?_, fun s H C cl fp => ?_, fun s H C cl fp => ?_, fun s H C cl fp => (ihb scope s H C cl fp elt e h4).1, q2⟩
          · rw [g.N, g.sc]
            exact blkOk_by hb.1
          · exact tg_ok (g.blk scope s H C cl fp) h1
          · split at h3
            · simp only [Option.some.injEq] at h3
              subst h3
              exact c_no (env' := True)
            · rename_i cnd
              simp only [trO] at h3
              split at h3
              · rename_i y e1
                simp only [Option.some.injEq] at h3
                subst h3
                exact c_yes (X := X.blk s H scope (compEnvC scope cl C X.env) fp) (ihb scope s H C cl fp cnd y e1).2
              · cases h3
            · cases h3
        · cases h
      · cases h
    · cases h
  · cases h

set_option maxHeartbeats 16000000 in
theorem trE_ok : ∀ (n : Nat) (se : Se) (X : Cx) (Wx : WX), Good tb xn Γ se X Wx k → ∀ e E, trE Γ n se e = some E → Eok tb xn X Wx k e E
  | 0, _, _, _, _, e, E, h => by cases h
  | n + 1, se, X, Wx, g, e, E, h => by
    have ih := trE_ok n se X Wx g
    have ihb : ∀ (scope : Scope) (s : Shared) (H : Hp) (C : Addr) (cl : List (Str × Addr)) (fp : List Addr) e E, trE Γ n (se.blk scope) e = some E → Eok tb xn (X.blk s H scope (compEnvC scope cl C X.env) fp) WxF k e E :=
      fun scope s H C cl fp => trE_ok n (se.blk scope) _ WxF (g.blk scope s H C cl fp)
    cases e with
    | Name x pos =>
      simp only [trE] at h
      split at h
      · rename_i i e1
        simp only [Option.some.injEq] at h
        subst h
        obtain ⟨h1, h2, h3, h4⟩ := vis_ok g e1
        exact both (e_var h1 h2 h3 h4) fun _ => rfl
      · split at h
        · rename_i hg
          obtain ⟨hgl, hdb⟩ := glb_ok g hg
          split at h
          · rename_i w e2
            simp only [Option.some.injEq] at h
            subst h
            obtain ⟨u, v, q1, q2, q3⟩ := g.gd.con x w e2
            exact both (e_con (pe_glob hgl q1 q2 hdb) q3) fun _ => rfl
          · cases h
        · cases h
    | Constant c kk pos =>
      simp only [trE] at h
      split at h
      · rename_i w e1
        simp only [Option.some.injEq] at h
        subst h
        cases c with
        | none =>
          simp only [trConst, Option.some.injEq] at e1
          subst e1
          exact both (e_con pe_non fun _ _ => rfl) fun _ => rfl
        | bool b =>
          simp only [trConst, Option.some.injEq] at e1
          subst e1
          exact both (e_con pe_bl fun _ _ => rfl) fun _ => rfl
        | int i =>
          simp only [trConst, Option.some.injEq] at e1
          subst e1
          exact both (e_con pe_int fun _ _ => rfl) fun _ => rfl
        | str x =>
          simp only [trConst] at e1
          split at e1
          · rename_i hz
            simp only [Option.some.injEq] at e1
            subst e1
            exact both (e_con pe_str fun _ _ => ⟨rfl, by rw [← line_eq]; exact hz.1, hz.2⟩) fun _ => rfl
          · cases e1
        | _ => simp [trConst] at e1
      · cases h
    | BinOp a op b pos =>
      simp only [trE] at h
      split at h
      · rename_i o x y e1 e2 e3
        simp only [Option.some.injEq] at h
        subst h
        have eo := trOp_ok e1
        subst eo
        exact both (e_bin o (ih _ _ e2).1 (ih _ _ e3).1) fun _ => rfl
      · cases h
    | UnaryOp op a pos =>
      simp only [trE] at h
      split at h
      · rename_i x e1
        simp only [Option.some.injEq] at h
        subst h
        exact ⟨e_not (ih _ _ e1).1, t_not (ih _ _ e1).2⟩
      · rename_i x e1
        simp only [Option.some.injEq] at h
        subst h
        exact both (e_neg (ih _ _ e1).1) fun _ => rfl
      · cases h
    | BoolOp op vs pos =>
      simp only [trE] at h
      obtain ⟨q1, q2⟩ := bool_ok (pos := pos) ih h
      exact ⟨q1, q2.pt⟩
    | Compare a ops bs pos =>
      simp only [trE] at h
      split at h
      · split at h
        · rename_i x e1
          simp only [Option.some.injEq] at h
          subst h
          exact ⟨e_isN (ih _ _ e1).1, t_isN (ih _ _ e1).1⟩
        · cases h
      · split at h
        · rename_i x e1
          simp only [Option.some.injEq] at h
          subst h
          exact ⟨e_notN (ih _ _ e1).1, t_notN (ih _ _ e1).1⟩
        · cases h
      · split at h
        · rename_i o x y e1 e2 e3
          split at h
          · rename_i hm
            simp only [Option.some.injEq] at h
            subst h
            have eo := trCmp_ok e1
            subst eo
            exact ⟨e_cmp g.units o (ih _ _ e2).1 (ih _ _ e3).1 hm, t_cmp g.units o (ih _ _ e2).1 (ih _ _ e3).1 hm⟩
          · cases h
        · cases h
      · split at h
        · rename_i p q x y z e1 e2 e3 e4 e5
          split at h
          · rename_i hm
            simp only [Option.some.injEq] at h
            subst h
            have eo := trCmp_ok e1
            have eo2 := trCmp_ok e2
            subst eo eo2
            exact ⟨e_chain g.units p q (ih _ _ e3).1 (ih _ _ e4).1 (ih _ _ e5).1 hm, t_chain g.units p q (ih _ _ e3).1 (ih _ _ e4).1 (ih _ _ e5).1 hm⟩
          · cases h
        · cases h
      · cases h
    | IfExp c a b pos =>
      simp only [trE] at h
      split at h
      · rename_i x y z e1 e2 e3
        simp only [Option.some.injEq] at h
        subst h
        exact ⟨e_ite (ih _ _ e1).2 (ih _ _ e2).1 (ih _ _ e3).1, t_ite (ih _ _ e1).2 (ih _ _ e2).2 (ih _ _ e3).2⟩
      · cases h
    | Tuple es kk pos =>
      simp only [trE] at h
      split at h
      · rename_i hz
        split at h
        · rename_i xs e1
          simp only [Option.some.injEq] at h
          subst h
          exact both (e_tup (all_ok ih hz e1)) fun _ => rfl
        · cases h
      · cases h
    | List es pos =>
      simp only [trE] at h
      split at h
      · rename_i hz
        split at h
        · rename_i xs e1
          simp only [Option.some.injEq] at h
          subst h
          exact both (e_lst (all_ok ih hz e1)) fun _ => rfl
        · cases h
      · cases h
    | Subscript a s pos =>
      simp only [trE] at h
      split at h
      · split at h
        · rename_i x e1
          simp only [Option.some.injEq] at h
          subst h
          exact both (e_rev (ih _ _ e1).1) fun _ => rfl
        · cases h
      · split at h
        · rename_i x l u e1 e2 e3
          simp only [Option.some.injEq] at h
          subst h
          exact both (e_slc (ih _ _ e1).1 (o_ok ih e2) (o_ok ih e3)) fun _ => rfl
        · cases h
      · split at h
        · cases h
        · rename_i hs
          split at h
          · rename_i x y e1 e2
            simp only [Option.some.injEq] at h
            subst h
            exact both (e_idx (ih _ _ e1).1 (ih _ _ e2).1 (plainIx_of (by simpa using hs))) fun _ => rfl
          · cases h
    | Call f args kws pos =>
      simp only [trE] at h
      split at h
      · rename_i x p
        split at h
        · cases h
        · rename_i a as
          split at h
          · rename_i hg
            obtain ⟨hgl, hdb⟩ := glb_ok g hg.1
            split at h
            · rename_i ex
              subst ex
              split at h
              · rename_i hfr
                have hfree := g.gd.free _ hfr
                split at h
                · rename_i A y py e1
                  split at h
                  · rename_i hy
                    split at h
                    · rename_i t e2
                      simp only [Option.some.injEq] at h
                      subst h
                      obtain ⟨hgl2, hdb2⟩ := glb_ok g hy.1
                      have hnn : y ≠ "__name__" := by
                        intro e
                        subst e
                        rw [noTyName] at e2; cases e2
                      exact both (e_isi1 hgl hfree (ih _ _ e1).1 (pe_bltn (v := .ty t.name) hgl2 (g.gd.free y hy.2) (tyOf_ok e2) rfl hnn hdb2) (notStar e1 _ X.env) rfl rfl) fun _ => rfl
                    · cases h
                  · cases h
                · rename_i A ys kk pt e1
                  split at h
                  · rename_i hz
                    split at h
                    · rename_i ts e2
                      simp only [Option.some.injEq] at h
                      subst h
                      obtain ⟨q1, q2⟩ := tys_ok g e2
                      exact both (e_isiT (by rw [q2]; exact hz) hgl hfree (ih _ _ e1).1 q1 (notStar e1 _ X.env)) fun _ => rfl
                    · cases h
                  · cases h
                · cases h
              · cases h
            · split at h
              · rename_i i e1
                split at h
                · rename_i pr xs e2 e3
                  split at h
                  · rename_i hl
                    simp only [Option.some.injEq] at h
                    subst h
                    obtain ⟨f, fd, ps, q1, q2, q3, q4⟩ := g.gd.fn x i pr e1 e2
                    have e3' := e3
                    simp only [trAll] at e3
                    split at e3
                    · rename_i A B e4 e5
                      simp only [Option.some.injEq] at e3
                      subst e3
                      exact both (e_call q4 g.room hgl q1 q2 q3 g.tk (all_ok ih hg.2 e3') hl hdb (notStar e4 _ X.env) (any_back e5)) fun _ => rfl
                    · cases e3
                  · cases h
                · cases h
              · split at h
                · rename_i hfr
                  split at h
                  · rename_i b xs e1 e2
                    simp only [Option.some.injEq] at h
                    subst h
                    have e2' := e2
                    simp only [trAll] at e2
                    split at e2
                    · rename_i A B e4 e5
                      simp only [Option.some.injEq] at e2
                      subst e2
                      exact both (e_blt b g.calm (bltOf_ok e1) hgl (g.gd.free x hfr) (all_ok ih hg.2 e2') (notStar e4 _ X.env) (any_back e5)) fun _ => rfl
                    · cases e2
                  · cases h
                · cases h
          · cases h
      · rename_i o m apos
        split at h
        · rename_i hl
          split at h
          · rename_i x e1
            split at h
            · rename_i em
              subst em
              simp only [Option.some.injEq] at h
              subst h
              exact both (e_pop (ih _ _ e1).1 (noSuper hl.2 _ _) hl.1) fun _ => rfl
            · cases h
          · rename_i x a e1
            split at h
            · rename_i y e2
              split at h
              · rename_i em
                simp only [Option.some.injEq] at h
                subst h
                exact both (e_mth1 .append em (by intro z; cases z) (ih _ _ e1).1 (all_ok ih (by simp) (by simp only [trAll, e2])) (noSuper hl.2 _ _) hl.1 (notStar e2 _ X.env)) fun _ => rfl
              · split at h
                · rename_i em
                  simp only [Option.some.injEq] at h
                  subst h
                  exact both (e_mth1 .extend em (by intro z; cases z) (ih _ _ e1).1 (all_ok ih (by simp) (by simp only [trAll, e2])) (noSuper hl.2 _ _) hl.1 (notStar e2 _ X.env)) fun _ => rfl
                · split at h
                  · rename_i em
                    subst em
                    simp only [Option.some.injEq] at h
                    subst h
                    exact both (e_join (ih _ _ e1).1 (ih _ _ e2).1 (notStar e2 _ X.env) (noSuper hl.2 _ _) hl.1) fun _ => rfl
                  · cases h
            · cases h
          · cases h
        · cases h
      · cases h
    | ListComp elt gens scope pos =>
      simp only [trE] at h
      obtain ⟨tg, it, ifs, t, i, c, e, rfl, rfl, q1, q2, q3, q4, q5, q6, q7⟩ := lc_ok (pos := pos) g ih ihb h
      exact both (e_comp g.calm (by rw [g.N]; exact g.nd) q1 q2 q3 q4 q5 q6 q7) fun _ => rfl
    | _ => simp [trE] at h
end
end EV

/-! EV11: the translation of statements is right; every own def keeps what the evaluator says of it. -/
namespace EV
open PySem PySem.Spec PyProof.Rows L2

/-- whether name = [..] stores within the comprehension's frame -/
def swB (se : Se) (x : Str) (px lpos : Pos) (s : Scope) : Bool :=
  (if se.sc.kind.isAnnotationScope then ScopeKind.function else se.sc.kind) == .function && se.sc.names.lookup x == some .local && px.line == lpos.line && !(s.names.any fun (n, k) => n == x && (k == .local || k == .cell))
def trSs (f : Stmt → Option S) : List Stmt → Option Ss
  | [] => some .nil
  | s :: ss => match f s, trSs f ss with
    | some a, some b => some (.cons a b)
    | _, _ => none
def trS (Γ : Gs) (m : Nat) (se : Se) : Nat → Stmt → Option S
  | 0, _ => none
  | n + 1, st => match st with
    | .Assign ts v pos => match ts with
     | [t] => (match t with
      | .Name x px => match sto se x with
        | some i => match v with
          | .ListComp elt gens scope lpos => match swB se x px lpos scope, trLc Γ se (trE Γ m se) (trE Γ m (se.blk scope)) elt gens scope with
            | true, some e => if se.sc.names.lookup x = some .local then some (.set i e) else none
            | false, some e => some (.set i e)
            | _, none => none
          | v => if isCmp v = true then none else match trE Γ m se v with
            | some e => some (.set i e)
            | none => none
        | none => none
      | .Tuple es k tp => if isCmp v = true ∨ isTup v = true then none else match trNames se es, trE Γ m se v with
        | some is, some e => some (.unp is e)
        | _, _ => none
      | .Subscript o i _ => if isCmp v = true ∨ isSlice i = true then none else match trE Γ m se o, trE Γ m se i, trE Γ m se v with
        | some x, some y, some z => some (.sub x y z)
        | _, _, _ => none
      | _ => none)
     | _ => none
    | .AugAssign t op v _ => match t with
      | .Name x _ => match sto se x, trOp op, trE Γ m se v with
        | some i, some o, some e => some (.aug i o e)
        | _, _, _ => none
      | .Subscript o i _ => if isSlice i = true then none else match trOp op, trE Γ m se o, trE Γ m se i, trE Γ m se v with
        | some p, some x, some y, some z => some (.augS x y p z)
        | _, _, _, _ => none
      | _ => none
    | .Expr e _ => if isCmp e = true then none else match trE Γ m se e with
      | some x => some (.ex x)
      | none => none
    | .Return o _ => match o with
      | none => some .retN
      | some e => match trE Γ m se e with
        | some x => some (.ret x)
        | none => none
    | .If c a b _ => match trE Γ m se c, trSs (trS Γ m se n) a, trSs (trS Γ m se n) b with
      | some x, some y, some z => some (.ite x y z)
      | _, _, _ => none
    | .While c b o _ => match o with
      | [] => match trE Γ m se c, trSs (trS Γ m se n) b with
        | some x, some y => some (.whl x y)
        | _, _ => none
      | _ => none
    | .For tg it b o _ => match o with
      | [] => match trTg se tg, trIt Γ se (trE Γ m se) tg it, trSs (trS Γ m se n) b with
        | some t, some i, some y => some (.for_ t i y)
        | _, _, _ => none
      | _ => none
    | .Pass _ => some (.ex (.con .non))
    | .Break _ => some .brk
    | .Continue _ => some .cnt
    | _ => none

section
variable {tb : Nat → Option Fd} {xn : Nat → Option Str} {Γ : Gs} {se : Se} {X : Cx} {Wx : WX} {k m : Nat}
theorem noCmp_swap {v : Expr} (h : isCmp v = false) (t : Option Expr) (l : Nat) (env : PySem.Env) : swapsWith v t l env = pure false := by
  cases v <;> first | rfl | (cases h)
theorem noCmp_sole {v : Expr} (h : isCmp v = false) (t : Expr) (l : Nat) (env : PySem.Env) : swapsWithSole [t] v l env = pure false := by
  cases v <;> first | rfl | (cases h)
theorem noTup_stores {v : Expr} {es : List Expr} {kk : Nat} {tp : Pos} (h : isTup v = false) (env : PySem.Env) : swappedStores [.Tuple es kk tp] v env = pure none := by
  cases v <;> first | rfl | (cases h)
theorem sub_stores {v o i : Expr} {tp : Pos} (env : PySem.Env) : swappedStores [.Subscript o i tp] v env = pure none := by
  cases v <;> rfl
theorem swB_ok (g : Good tb xn Γ se X Wx k) {x : Str} {px lpos : Pos} {s : Scope} {elt : Expr} {gens : List Comprehension} {l : Nat} : swapsWith (.ListComp elt gens s lpos) (some (.Name x px)) l X.env = pure (swB se x px lpos s) := by
  unfold swB
  rw [← g.sc]
  rfl
theorem plain_assign {o i : Expr} {sp : Pos} (h : isSlice i = false) (env : PySem.Env) (v : Value) : assign (.Subscript o i sp) env v = (do
      let ov ← holding [v] (eval o env)
      let iv ← holding [v, ov] (eval i env)
      standAt sp
      holding [v, ov, iv] (setItem ov iv v)
      release [v, ov, iv] []) := by
  cases i <;> first | rfl | (cases h)
theorem plain_aug {i : Expr} (h : isSlice i = false) (ov iv new : Value) : augStore i ov iv new = (do holding [new, ov, iv] (setItem ov iv new); release [new, ov, iv] []; pure .next) := by
  cases i <;> first | rfl | (cases h)
theorem stmts_ok {f : Stmt → Option S} (ih : ∀ st s, f st = some s → Ps X xn Wx st (evS (run tb k) s)) : ∀ {sts : List Stmt} {ss : Ss}, trSs f sts = some ss → Pss X xn Wx sts (evSs (run tb k) ss)
  | [], ss, h => by
    simp only [trSs, Option.some.injEq] at h
    subst h
    exact ss_nil
  | st :: sts, ss, h => by
    simp only [trSs] at h
    split at h
    · rename_i a b e1 e2
      simp only [Option.some.injEq] at h
      subst h
      exact ss_cons (ih st a e1) (stmts_ok ih e2)
    · cases h
set_option maxHeartbeats 16000000 in
theorem trS_ok (g : Good tb xn Γ se X Wx k) : ∀ (n : Nat) st s, trS Γ m se n st = some s → Ps X xn Wx st (evS (run tb k) s)
  | 0, _, _, h => by cases h
  | n + 1, st, s, h => by
    have ih := trS_ok g n
    have ihe := trE_ok (Γ := Γ) (tb := tb) (xn := xn) (k := k) m se X Wx g
    have nd : X.N.Nodup := by rw [g.N]; exact g.nd
    have ihb : ∀ (scope : Scope) (s : Shared) (H : Hp) (C : Addr) (cl : List (Str × Addr)) (fp : List Addr) e E, trE Γ m (se.blk scope) e = some E → Eok tb xn (X.blk s H scope (compEnvC scope cl C X.env) fp) WxF k e E :=
      fun scope s H C cl fp => trE_ok m (se.blk scope) _ WxF (g.blk scope s H C cl fp)
    cases st with
    | Assign ts v pos =>
      simp only [trS] at h
      split at h
      · rename_i t
        split at h
        · rename_i x px
          split at h
          · rename_i i e1
            obtain ⟨h1, h2, h3⟩ := sto_ok g e1
            split at h
            · rename_i elt gens scope lpos
              split at h
              · rename_i e hsw e2
                split at h
                · rename_i hloc
                  simp only [Option.some.injEq] at h
                  subst h
                  obtain ⟨tg, it, ifs, t, i', c, e', rfl, rfl, q1, q2, q3, q4, q5, q6, q7⟩ := lc_ok (pos := lpos) g ihe ihb e2
                  refine s_setLc g.calm nd h1 (by rw [g.sc]; exact hloc) ?_ q1 q2 q3 q4 q5 q6 q7
                  rw [swB_ok g, hsw]
                · cases h
              · rename_i e hsw e2
                simp only [Option.some.injEq] at h
                subst h
                obtain ⟨tg, it, ifs, t, i', c, e', rfl, rfl, q1, q2, q3, q4, q5, q6, q7⟩ := lc_ok (pos := lpos) g ihe ihb e2
                refine s_set nd h1 h2 (e_comp g.calm nd q1 q2 q3 q4 q5 q6 q7) ?_ h3
                rw [swB_ok g, hsw]
              · cases h
            · split at h
              · cases h
              · rename_i hc
                split at h
                · rename_i e e2
                  simp only [Option.some.injEq] at h
                  subst h
                  exact s_set nd h1 h2 (ihe _ _ e2).1 (noCmp_swap (by simpa using hc) _ _ _) h3
                · cases h
          · cases h
        · rename_i es kk tp
          split at h
          · cases h
          · rename_i hc
            simp only [not_or, Bool.not_eq_true] at hc
            split at h
            · rename_i is e e1 e2
              simp only [Option.some.injEq] at h
              subst h
              obtain ⟨q1, q2, q3⟩ := names_ok g e1
              exact s_unp (ihe _ _ e2).1 (pg_tup g.calm q1 q2 q3) (noCmp_sole hc.1 _ _ _) (noTup_stores hc.2 _)
            · cases h
        · rename_i o i sp
          split at h
          · cases h
          · rename_i hc
            simp only [not_or, Bool.not_eq_true] at hc
            split at h
            · rename_i x y z e1 e2 e3
              simp only [Option.some.injEq] at h
              subst h
              exact s_sub (ihe _ _ e1).1 (ihe _ _ e2).1 (ihe _ _ e3).1 (plain_assign hc.2 X.env) (noCmp_sole hc.1 _ _ _) (sub_stores _)
            · cases h
        · cases h
      · cases h
    | AugAssign t op v pos =>
      simp only [trS] at h
      split at h
      · rename_i x px
        split at h
        · rename_i i o e e1 e2 e3
          simp only [Option.some.injEq] at h
          subst h
          have eo := trOp_ok e2
          subst eo
          obtain ⟨h1, h2, h3⟩ := sto_ok g e1
          exact s_aug nd h1 h2 (ihe _ _ e3).1 h3
        · cases h
      · rename_i o i sp
        split at h
        · cases h
        · rename_i hs
          split at h
          · rename_i p x y z e1 e2 e3 e4
            simp only [Option.some.injEq] at h
            subst h
            have eo := trOp_ok e1
            subst eo
            exact s_augS (ihe _ _ e2).1 (ihe _ _ e3).1 (ihe _ _ e4).1 (plain_aug (by simpa using hs))
          · cases h
      · cases h
    | Expr e pos =>
      simp only [trS] at h
      split at h
      · cases h
      · rename_i hc
        split at h
        · rename_i x e1
          simp only [Option.some.injEq] at h
          subst h
          exact s_ex (ihe _ _ e1).1 (noCmp_swap (by simpa using hc) _ _ _)
        · cases h
    | Return o pos =>
      simp only [trS] at h
      split at h
      · simp only [Option.some.injEq] at h
        subst h
        exact s_retN
      · split at h
        · rename_i x e1
          simp only [Option.some.injEq] at h
          subst h
          exact s_ret (ihe _ _ e1).1
        · cases h
    | If c a b pos =>
      simp only [trS] at h
      split at h
      · rename_i x y z e1 e2 e3
        simp only [Option.some.injEq] at h
        subst h
        exact s_if (ihe _ _ e1).2 (stmts_ok ih e2) (stmts_ok ih e3)
      · cases h
    | While c b o pos =>
      simp only [trS] at h
      split at h
      · split at h
        · rename_i x y e1 e2
          simp only [Option.some.injEq] at h
          subst h
          exact s_whl g.po (ihe _ _ e1).2 (stmts_ok ih e2)
        · cases h
      · cases h
    | For tg it b o pos =>
      simp only [trS] at h
      split at h
      · split at h
        · rename_i t i y e1 e2 e3
          simp only [Option.some.injEq] at h
          subst h
          obtain ⟨q1, q2⟩ := it_ok g ihe e2
          exact s_for g.po g.calm q1 (tg_ok g e1) (stmts_ok ih e3) q2
        · cases h
      · cases h
    | Pass pos =>
      simp only [trS, Option.some.injEq] at h
      subst h
      exact s_pass
    | Break pos =>
      simp only [trS, Option.some.injEq] at h
      subst h
      exact s_brk
    | Continue pos =>
      simp only [trS, Option.some.injEq] at h
      subst h
      exact s_cnt
    | _ => simp [trS] at h
end
end EV

/-! EV12: every own def keeps what the evaluator says of it; a law's end. -/
namespace EV
open PySem PySem.Spec PyProof.Rows L2

/-- one own def: its name, its text, its parameters, its names by slot, its body in the evaluator's text -/
structure FnI where
  name : Str
  st : Stmt
  ps : List Str
  N : List Str
  body : Ss
def FnI.fd (d : FnI) : Fd := ⟨d.ps.length, d.N.length, d.body⟩
def tbOf (I : List FnI) : Nat → Option Fd := fun i => (I[i]?).map FnI.fd
def gsOf (I : List FnI) (cons : List (Str × W)) (free : List Str) : Gs := ⟨I.map fun d => (d.name, d.ps.length), cons, free⟩
structure FnI.Ok (Γ : Gs) (d : FnI) : Prop where
  sc : FnScope d.N d.ps (defScope d.st)
  tr : trSs (trS Γ 60 ⟨defScope d.st, d.N, fun _ => true⟩ 60) (defBody d.st) = some d.body
  bd : ∀ (kV doc pm : Value) (an : Option Addr) (cdv ct : Value) (us : List Value), us.length = d.ps.length → bindArgs (PySem.W.fnOf d.name d.name (defArgs d.st) (defBody d.st) (defScope d.st) .none kV doc pm an cdv ct) ⟨us, []⟩ = pure (d.ps.zip us)
abbrev FnP (K : PySem.W.Frag) (d : FnI) (f : Addr) (fd : FuncData) : Prop := FunD K d.name d.name (defArgs d.st) (defBody d.st) (defScope d.st) [] [] f fd
structure Fcts (I : List FnI) (Γ : Gs) (K : PySem.W.Frag) (mg : Str → Option Value) : Prop where
  defs : ∀ (i : Nat) (d : FnI), I[i]? = some d → ∃ f fd, mg d.name = some (.ref f) ∧ FnP K d f fd
  con : ∀ x w, Γ.cons.lookup x = some w → ∃ u v, mg x = some u ∧ RelV v u ∧ ∀ μ H, Rep K μ H w v
  free : ∀ x, x ∈ Γ.free → mg x = none

theorem relE_start {K : PySem.W.Frag} {μ : List Addr} {H : Hp} {ws : List W} {vs : List V} (h : Reps K μ H ws vs) (N : List Str) : RelE K μ H (startE N.length ws) (L2.start N vs) := by
  have hl := h.len
  refine ⟨?_, fun i w e => ?_⟩
  · unfold startE L2.start
    rw [List.length_append, List.length_append, List.length_map, List.length_map, List.length_replicate, List.length_replicate, hl]
  · unfold startE at e
    unfold L2.start
    by_cases q : i < ws.length
    · rw [List.getElem?_append_left (by rw [List.length_map]; exact q), List.getElem?_map] at e
      cases q2 : ws[i]? with
      | none => rw [q2] at e; cases e
      | some w2 =>
        rw [q2] at e
        simp only [Option.map_some, Option.some.injEq] at e
        subst e
        obtain ⟨v, e1, e2⟩ := h.get q2
        refine ⟨v, ?_, e2⟩
        rw [List.getElem?_append_left (by rw [List.length_map, ← hl]; exact q), List.getElem?_map, e1]
        rfl
    · rw [List.getElem?_append_right (by rw [List.length_map]; omega)] at e
      have := List.mem_of_getElem? e
      rw [List.mem_replicate] at this
      cases this.2

section
variable {P : Program} {w : World} {K : PySem.W.Frag} {mg : Str → Option Value} {base : Heap} {I : List FnI} {cons : List (Str × W)} {free : List Str} {xn : Nat → Option Str}
theorem run_ok (hok : ∀ (i : Nat) (d : FnI), I[i]? = some d → d.Ok (gsOf I cons free)) (hF : Fcts I (gsOf I cons free) K mg) :
    ∀ (k i : Nat) (d : FnI) (f : Addr) (fd : FuncData), I[i]? = some d → FnP K d f fd → FnOk P w K mg base (L2.CX P w) k f fd d.ps (spF ⟨K, mg, xn⟩ (tbOf I) k i d.ps.length)
  | 0, i, d, f, fd, hi, F => ⟨fun vs H Q E ⟨_, _, _, _, _, _, h⟩ => h.elim, fun A outer s H args us vs Q E _ _ _ _ ⟨_, _, _, _, _, _, h⟩ => h.elim⟩
  | k + 1, i, d, f, fd, hi, F => by
    refine F.ok (hok i d hi).sc (fun vs H Q E ⟨μ, st, ws, _, hr, hl, _⟩ => by rw [← hr.len]; exact hl) fun cdv A outer s H vs Q E hroom ⟨μ, st, ws, hs, hr, hl, hp⟩ => ?_
    let Xc : Cx := cxOf (L2.CX P w) P w K mg base d.N d.name (defScope d.st) f cdv A outer s H E
    have hg : Good (tbOf I) xn (gsOf I cons free) ⟨defScope d.st, d.N, fun _ => true⟩ Xc (fun cls dd _ H => E cls dd H) k := by
      refine ⟨⟨fun x j p h1 h2 => ?_, hF.con, hF.free⟩, rfl, rfl, fun _ _ => rfl, (hok i d hi).sc.nd, rfl, hroom, takes_of rfl rfl rfl rfl, passes_of rfl⟩
      have h2' : (I.map fun d => (d.name, d.ps.length))[j]? = some p := h2
      rw [List.getElem?_map] at h2'
      cases q : I[j]? with
      | none => rw [q] at h2'; cases h2'
      | some d2 =>
        rw [q] at h2'
        simp only [Option.map_some, Option.some.injEq] at h2'
        subst h2'
        have hx : x = d2.name := by
          have h3 := ixOf_ok h1
          have h4 : ((I.map fun d => (d.name, d.ps.length)).map (·.1))[j]? = some x := h3
          rw [List.getElem?_map, List.getElem?_map, q] at h4
          simp only [Option.map_some, Option.some.injEq] at h4
          exact h4.symm
        subst hx
        obtain ⟨f2, fd2, hm, F2⟩ := hF.defs j d2 q
        exact ⟨f2, fd2, d2.ps, hm, F2.kp, F2.bindsN (hok j d2 q).bd, run_ok hok hF k j d2 f2 fd2 q F2⟩
    have hps := stmts_ok (tb := tbOf I) (k := k) (trS_ok hg 60) (hok i d hi).tr
    refine ⟨_, hps, μ, startE d.N.length ws, st, relE_start hr d.N, hs, ?_⟩
    have e : run (tbOf I) (k + 1) i ws st = (evSs (run (tbOf I) k) d.body (startE d.N.length ws) st).out := by
      have e1 : tbOf I i = some d.fd := by unfold tbOf; rw [hi]; rfl
      show (match tbOf I i with
        | some d => if ws.length = d.ps then (evSs (run (tbOf I) k) d.body (startE d.ns ws) st).out else .bad
        | none => .bad) = _
      rw [e1]
      exact if_pos hl
    rw [e] at hp
    show PostS ⟨K, mg, xn⟩ μ H _ (evSs (run (tbOf I) k) d.body (startE d.N.length ws) st) _
    cases q : evSs (run (tbOf I) k) d.body (startE d.N.length ws) st with
    | nx env' st' =>
      rw [q] at hp
      exact fun μ' σ' H' s' _ rs => hp μ' .non H' s' rs rfl
    | rt v st' =>
      rw [q] at hp
      exact fun μ' v' H' s' rs rw' => hp μ' v' H' s' rs rw'
    | bk env' st' => rw [q] at hp; exact hp.elim
    | ct env' st' => rw [q] at hp; exact hp.elim
    | ex x env' st' =>
      rw [q] at hp
      exact fun μ' σ' H' cls dd s' _ rs rx => hp μ' H' cls dd s' rs rx
    | bad => rw [q] at hp; exact hp.elim
end

/-! ### facts from the head -/
theorem con_int {K : PySem.W.Frag} {h : Heap} {mg : Str → Option Value} (X : K.In h) (G : h.Ns mainGlobals mg) {x : Str} {i : Int} (c : (He.Fa.int x i).ok K = true) : ∃ u v, mg x = some u ∧ RelV v u ∧ ∀ μ H, Rep K μ H (.int i) v := by
  obtain ⟨t, e⟩ := He.int_ok X G c
  exact ⟨_, .int i, e, ⟨t, rfl⟩, fun _ _ => rfl⟩
theorem con_str {K : PySem.W.Frag} {h : Heap} {mg : Str → Option Value} (X : K.In h) (G : h.Ns mainGlobals mg) {x z : Str} (c : (He.Fa.str x z).ok K = true) (hz : z.length ≤ sizeLine ∧ PyData.strOk z = true) : ∃ u v, mg x = some u ∧ RelV v u ∧ ∀ μ H, Rep K μ H (.str z) v := by
  obtain ⟨t, e⟩ := He.str_ok X G c
  exact ⟨_, .str z, e, ⟨t, rfl⟩, fun _ _ => ⟨rfl, hz.1, hz.2⟩⟩

/-- the facts asked of the head, in order: the defs' names, the ints, the strings, the free names -/
def conFa : List (Str × W) → List He.Fa
  | [] => []
  | (x, .int i) :: r => .int x i :: conFa r
  | (x, .str z) :: r => .str x z :: conFa r
  | _ :: r => conFa r
def conGood : List (Str × W) → Bool
  | [] => true
  | (_, .int _) :: r => conGood r
  | (_, .str z) :: r => decide (z.length ≤ line) && (PyData.strOk z && conGood r)
  | _ :: _ => false
def faOf (I : List FnI) (cons : List (Str × W)) (free : List Str) : List He.Fa := (I.map fun d => He.Fa.glo d.name) ++ (conFa cons ++ free.map He.Fa.free)
def FnI.dd (d : FnI) : He.DefD := ⟨(d.name, none), d.name, d.name, defArgs d.st, defBody d.st, defScope d.st, [], []⟩
def fnOfI (I : List FnI) : List He.DefD := I.map FnI.dd

theorem con_all {K : PySem.W.Frag} {h : Heap} {mg : Str → Option Value} (X : K.In h) (G : h.Ns mainGlobals mg) : ∀ (cons : List (Str × W)), conGood cons = true → (∀ f ∈ conFa cons, f.ok K = true) →
    ∀ x w, cons.lookup x = some w → ∃ u v, mg x = some u ∧ RelV v u ∧ ∀ μ H, Rep K μ H w v
  | [], _, _, x, w, e => by cases e
  | (y, w1) :: r, hg, hf, x, w, e => by
    rw [List.lookup_cons] at e
    cases w1 with
    | int i =>
      split at e
      · rename_i q
        simp only [Option.some.injEq] at e
        subst e
        have q' : x = y := by simpa using q
        subst q'
        exact con_int X G (hf _ (List.mem_cons_self ..))
      · exact con_all X G r hg (fun f hm => hf f (List.mem_cons_of_mem _ hm)) x w e
    | str z =>
      obtain ⟨g1, g2⟩ := He.ba hg
      obtain ⟨g3, g4⟩ := He.ba g2
      split at e
      · rename_i q
        simp only [Option.some.injEq] at e
        subst e
        have q' : x = y := by simpa using q
        subst q'
        exact con_str X G (hf _ (List.mem_cons_self ..)) ⟨by have := of_decide_eq_true g1; rw [line_eq] at this; exact this, g3⟩
      · exact con_all X G r g4 (fun f hm => hf f (List.mem_cons_of_mem _ hm)) x w e
    | _ => cases hg

theorem facts_of {K : PySem.W.Frag} {h : Heap} {mg : Str → Option Value} {I : List FnI} {cons : List (Str × W)} {free : List Str} (X : K.In h) (G : h.Ns mainGlobals mg) (c : He.SaysD (faOf I cons free) (fnOfI I) K) (hc : conGood cons = true) :
    Fcts I (gsOf I cons free) K mg := by
  have hall : ∀ f ∈ faOf I cons free, f.ok K = true := fun f hm => by
    obtain ⟨i, hi, e⟩ := List.mem_iff_getElem.mp hm
    exact c.fact i (by rw [List.getElem?_eq_getElem hi, e])
  refine ⟨fun i d hi => ?_, con_all X G cons hc (fun f hm => hall f (List.mem_append_right _ (List.mem_append_left _ hm))), fun x hx => ?_⟩
  · obtain ⟨fd, F⟩ := c.def_ i (d := d.dd) (by unfold fnOfI; rw [List.getElem?_map, hi]; rfl)
    refine ⟨_, fd, He.glo_ok X G (hall (.glo d.name) (List.mem_append_left _ (List.mem_map.mpr ⟨d, List.mem_of_getElem? hi, rfl⟩))), ?_⟩
    exact F
  · exact He.free_ok X G (hall (.free x) (List.mem_append_right _ (List.mem_append_right _ (List.mem_map.mpr ⟨x, hx, rfl⟩))))

/-! ### the law -/
theorem reps_ints {K : PySem.W.Frag} {μ : List Addr} {H : Hp} : ∀ ns : List Int, Reps K μ H (ns.map W.int) (ns.map V.int)
  | [] => rfl
  | n :: ns => ⟨_, _, rfl, rfl, reps_ints ns⟩
def spLaw (K : PySem.W.Frag) (n : Nat) : Sp := fun vs H Q E => ∃ (a : Addr) (ns : List Int), vs = [.ref a] ∧ ns.length ≤ n ∧ FlsAt K H a (ns.map V.int) ∧ ∀ H', Q (.bl true) H'
theorem law_ok {P : Program} {w : World} {K : PySem.W.Frag} {mg : Str → Option Value} {base : Heap} {I : List FnI} {cons : List (Str × W)} {free : List Str} {xn : Nat → Option Str} {k L n : Nat} {d : FnI} {x : Str}
    (hok : ∀ (i : Nat) (d : FnI), I[i]? = some d → d.Ok (gsOf I cons free)) (hF : Fcts I (gsOf I cons free) K mg) (hd : I[L]? = some d) (hp : d.ps = [x]) (hn : n ≤ sizeLine)
    (hlaw : ∀ ns : List Int, ns.length ≤ n → ∃ st, run (tbOf I) k L [.fls (ns.map W.int)] [] = .ok (.bl true) st)
    {f : Addr} {fd : FuncData} (F : FnP K d f fd) : FnOk P w K mg base (L2.CX P w) k f fd [x] (spLaw K n) := by
  rw [← hp]
  refine (run_ok (xn := xn) hok hF k L d f fd hd F).imp fun vs H Q E ⟨a, ns, e, hl, hfl, hq⟩ => ?_
  subst e
  refine ⟨[], [], [.fls (ns.map W.int)], ⟨rfl, List.nodup_nil, fun n o z => by simp at z⟩, ⟨.ref a, [], rfl, ⟨a, _, rfl, hfl, reps_ints ns, by rw [List.length_map]; omega⟩, rfl⟩, by rw [hp]; rfl, ?_⟩
  obtain ⟨st, e⟩ := hlaw ns hl
  show PostE ⟨K, mg, xn⟩ [] H [] _ _ (run (tbOf I) k L [.fls (ns.map W.int)] []) Q
  rw [e]
  exact fun μ' v H' _ _ hr => by
    have e2 : v = V.bl true := hr
    rw [e2]
    exact hq H'
theorem fls_of {K : PySem.W.Frag} {H : Hp} {a : Addr} {xs : List V} (ho : Only H) (h : SqL K H a xs) : FlsAt K H a xs := by
  rcases h with (h | ⟨o, h⟩) | h
  · rcases ho a with e | ⟨o, l, e⟩
    · rw [h] at e; cases e
    · rw [h] at e; cases e
  · exact .inl ⟨o, h⟩
  · exact .inr h
end EV

/-! EV13: a law's end: its plain statement gives the row's walk. -/
namespace EV
open PySem PySem.Spec PyProof.Rows L2
theorem law_end {l : PySem.W.OpenLaw} {q : Program} {loose : List Str} {XP : (Str → Option Value) → Heap → Prop} {dr : DefRec} {I : List FnI} {cons : List (Str × W)} {free : List Str} {L : Nat} {d : FnI} {x : Str}
    (hm : l.most = some 63) (hdf : dr.params.defaults = []) (hr : Room 200 callerA) (hnm : dr.name = d.name) (hc : conGood cons = true) (hd : I[L]? = some d) (hp : d.ps = [x])
    (hok : ∀ (i : Nat) (d : FnI), I[i]? = some d → d.Ok (gsOf I cons free))
    (hlaw : ∀ ns : List Int, ns.length ≤ 63 → ∃ st, run (tbOf I) 200 L [.fls (ns.map W.int)] [] = .ok (.bl true) st) :
    PySem.W.WalkO q loose XP (He.hookD 4 (faOf I cons free) (fnOfI I)).says l.row.toRowW dr [] (fun f vs => PySem.call f vs) := by
  refine L2.walk_ofE (l := l) (n := 63) (k := 200) (x := x) (CX := fun o H s E u s' => (∃ w, L2.CX l.prog w o H s E u s')) hm (by decide) hdf hr ?F ?G
  case G =>
    intro H s e s' z
    obtain ⟨w, a, B, H', cls, dd, _, _, _, _, _, _, _, h⟩ := z
    exact h
  case F =>
    intro w mg fa h Y G hmg0
    obtain ⟨K, KX, c⟩ := Y
    have hF := facts_of KX G c hc
    obtain ⟨f, fd, hm2, F⟩ := hF.defs L d hd
    have e : f = fa := by
      rw [hnm] at hmg0
      have := hm2.symm.trans hmg0
      simpa using this
    subst e
    refine ⟨K, fd, spLaw K 63, KX, fun s u => ?_, fun H a ns hl ho hS => ⟨a, ns, rfl, hl, fls_of ho hS, fun _ => rfl⟩, fun base _ _ => ?_⟩
    · have b := FunD.bindsA (ps := d.ps) F (hok L d hd).bd s [u] (by rw [hp]; rfl)
      rw [hp] at b
      exact b
    · have := law_ok (P := l.prog) (w := w) (base := base) (xn := fun _ => none) (k := 200) (n := 63) (x := x) hok hF hd hp (by decide) hlaw F
      refine ⟨this.len, ?_⟩
      intro A outer s H args us vs Q E h1 h2 h3 h4 h5
      have h6 := this.run A outer s H args us vs Q E h1 h2 h3 h4 h5
      have h7 : ∀ (r : Result) (s' : Shared), CR (L2.CX l.prog w) outer l.prog w H s Q E r s' → CR (fun o H s E u s' => (∃ w, L2.CX l.prog w o H s E u s')) outer l.prog w H s Q E r s' := by
        intro r s' z
        cases r with
        | ok fl => cases fl <;> exact z
        | error e => exact ⟨w, z⟩
      exact codeAny_mono h6 h7
end EV

/-! Q1: plain laws of the evaluator: loops by invariants, draws from the pen. -/
namespace EV
open PySem

/-- a loop gathered by an invariant over what is still to come -/
theorem cmpL_ok {keep : Store → Prop} {t : Tgt} {b : Env → Store → Res (Option W)} {env : Env} (J : List W → List W → Store → Prop)
    (hs : ∀ w ws acc st, J (w :: ws) acc st → keep st ∧ ∃ env1, bindT t w env = some env1 ∧ ((∃ y st', b env1 st = .ok (some y) st' ∧ acc.length < line ∧ J ws (acc ++ [y]) st') ∨ (∃ st', b env1 st = .ok none st' ∧ J ws acc st')))
    (he : ∀ acc st, J [] acc st → keep st) : ∀ (ws acc : List W) (st : Store), J ws acc st → ∃ out st', cmpL keep t b env ws acc st = .ok out st' ∧ J [] out st'
  | [], acc, st, h => ⟨acc, st, by rw [cmpL, if_pos (he _ _ h)], h⟩
  | w :: ws, acc, st, h => by
    obtain ⟨h1, env1, h2, h3⟩ := hs w ws acc st h
    rcases h3 with ⟨y, st', h4, h5, h6⟩ | ⟨st', h4, h6⟩
    · obtain ⟨out, st2, e, q⟩ := cmpL_ok J hs he ws _ _ h6
      exact ⟨out, st2, by rw [cmpL, if_pos h1, h2]; simp only [h4]; rw [if_pos h5]; exact e, q⟩
    · obtain ⟨out, st2, e, q⟩ := cmpL_ok J hs he ws _ _ h6
      exact ⟨out, st2, by rw [cmpL, if_pos h1, h2]; simp only [h4]; exact e, q⟩
/-- .. that changes nothing -/
theorem cmpL_pure {keep : Store → Prop} {t : Tgt} {b : Env → Store → Res (Option W)} {env : Env} {st : Store} (g : W → Option W) (hk : keep st) : ∀ (ws acc : List W), acc.length + ws.length ≤ line →
    (∀ w ∈ ws, ∃ env1, bindT t w env = some env1 ∧ b env1 st = .ok (g w) st) → cmpL keep t b env ws acc st = .ok (acc ++ ws.filterMap g) st
  | [], acc, _, _ => by rw [cmpL, if_pos hk]; simp
  | w :: ws, acc, hl, h => by
    obtain ⟨env1, h1, h2⟩ := h w (List.mem_cons_self ..)
    rw [List.length_cons] at hl
    rw [cmpL, if_pos hk, h1]
    simp only [h2]
    cases q : g w with
    | none =>
      simp only [List.filterMap_cons, q]
      exact cmpL_pure g hk ws acc (by omega) fun w hw => h w (List.mem_cons_of_mem _ hw)
    | some y =>
      simp only [List.filterMap_cons, q]
      rw [if_pos (by omega), cmpL_pure g hk ws (acc ++ [y]) (by rw [List.length_append, List.length_singleton]; omega) fun w hw => h w (List.mem_cons_of_mem _ hw)]
      simp
/-- a for by an invariant over what is still to come -/
theorem forL_ok {keep : Store → Prop} {t : Tgt} {b : Env → Store → SR} (J : List W → Env → Store → Prop) (D : SR → Prop)
    (hs : ∀ w ws env st, J (w :: ws) env st → keep st ∧ ∃ env1, bindT t w env = some env1 ∧ ((∃ env' st', (b env1 st = .nx env' st' ∨ b env1 st = .ct env' st') ∧ J ws env' st') ∨ (∃ env' st', b env1 st = .bk env' st' ∧ D (.nx env' st')) ∨ (∃ x st', b env1 st = .rt x st' ∧ D (.rt x st'))))
    (he : ∀ env st, J [] env st → keep st ∧ D (.nx env st)) : ∀ (ws : List W) (env : Env) (st : Store), J ws env st → D (forL keep t b ws env st)
  | [], env, st, h => by rw [forL, if_pos (he _ _ h).1]; exact (he _ _ h).2
  | w :: ws, env, st, h => by
    obtain ⟨h1, env1, h2, h3⟩ := hs w ws env st h
    rw [forL, if_pos h1, h2]
    rcases h3 with ⟨env', st', h4 | h4, h5⟩ | ⟨env', st', h4, h5⟩ | ⟨x, st', h4, h5⟩
    · simp only [h4]
      exact forL_ok J D hs he ws _ _ h5
    · simp only [h4]
      exact forL_ok J D hs he ws _ _ h5
    · simp only [h4]
      exact h5
    · simp only [h4]
      exact h5
/-- a while by an invariant and what is left at most -/
theorem whlL_ok {c : Env → Store → Res Bool} {b : Env → Store → SR} (J : Nat → Env → Store → Prop) (D : SR → Prop)
    (hs : ∀ m env st, J m env st → (∃ st1, c env st = .ok false st1 ∧ D (.nx env st1)) ∨ (∃ st1, c env st = .ok true st1 ∧
      ((∃ env' st' m', (b env st1 = .nx env' st' ∨ b env st1 = .ct env' st') ∧ m' < m ∧ J m' env' st') ∨ (∃ env' st', b env st1 = .bk env' st' ∧ D (.nx env' st')) ∨ (∃ x st', b env st1 = .rt x st' ∧ D (.rt x st'))))) :
    ∀ (n m : Nat) (env : Env) (st : Store), m < n → J m env st → D (whlL c b n env st)
  | 0, m, _, _, h, _ => absurd h (Nat.not_lt_zero _)
  | n + 1, m, env, st, hn, h => by
    rw [whlL]
    rcases hs m env st h with ⟨st1, h1, h2⟩ | ⟨st1, h1, h2⟩
    · rw [h1]
      exact h2
    · rw [h1]
      simp only [Res.then_ok, if_true]
      rcases h2 with ⟨env', st', m', h4 | h4, hm, h5⟩ | ⟨env', st', h4, h5⟩ | ⟨x, st', h4, h5⟩
      · simp only [h4]
        exact whlL_ok J D hs n m' _ _ (by omega) h5
      · simp only [h4]
        exact whlL_ok J D hs n m' _ _ (by omega) h5
      · simp only [h4]
        exact h5
      · simp only [h4]
        exact h5
/-! ### items -/
theorem ixW_ok {n : Nat} {i : Int} (h0 : 0 ≤ i) (h1 : i < n) : ixW n i = some i.toNat := by
  unfold ixW
  rw [if_pos h0, if_pos h1]
theorem atW_in {ws : List W} {i : Int} (h0 : 0 ≤ i) (h1 : i < ws.length) : ∃ w, atW ws i = some w ∧ w ∈ ws ∧ ws[i.toNat]? = some w := by
  have h2 : i.toNat < ws.length := by omega
  refine ⟨ws[i.toNat], ?_, List.getElem_mem h2, List.getElem?_eq_getElem h2⟩
  unfold atW
  rw [ixW_ok h0 h1]
  exact List.getElem?_eq_getElem h2
/-! ### the pen -/
structure PenAt (st : Store) (p c : Nat) (cells : List Int) (a g : Int) : Prop where
  pen : st[p]? = some (.lst [.ref c, .int a, .int g])
  cell : st[c]? = some (.lst (cells.map W.int))
  ne : c ≠ p
  a0 : 0 ≤ a
  g0 : 0 ≤ g
  c0 : c = 0
def Pen (st : Store) (p : Nat) (n : Int) : Prop := ∃ c cells a g, PenAt st p c cells a g ∧ a ≤ n
structure Ext (p : Nat) (st st' : Store) : Prop where
  len : st.length ≤ st'.length
  at_ : ∀ i o, i ≠ p → st[i]? = some o → st'[i]? = some o
theorem Ext.refl (p : Nat) (st : Store) : Ext p st st := ⟨Nat.le_refl _, fun _ _ _ h => h⟩
theorem Ext.trans {p : Nat} {a b c : Store} (x : Ext p a b) (y : Ext p b c) : Ext p a c := ⟨Nat.le_trans x.len y.len, fun i o h e => y.at_ i o h (x.at_ i o h e)⟩
theorem Ext.push {p : Nat} {a b : Store} (x : Ext p a b) (o : Ob) : Ext p a (b ++ [o]) := ⟨by rw [List.length_append]; have := x.len; omega, fun i q h e => by
  have h2 := x.at_ i q h e
  rw [List.getElem?_append_left (List.getElem?_eq_some_iff.mp h2).1]
  exact h2⟩
theorem Pen.push {st : Store} {p : Nat} {n : Int} (h : Pen st p n) (o : Ob) : Pen (st ++ [o]) p n := by
  obtain ⟨c, cells, a, g, ⟨h1, h2, h3, h4, h5, h7⟩, h6⟩ := h
  exact ⟨c, cells, a, g, ⟨by rw [List.getElem?_append_left (List.getElem?_eq_some_iff.mp h1).1]; exact h1, by rw [List.getElem?_append_left (List.getElem?_eq_some_iff.mp h2).1]; exact h2, h3, h4, h5, h7⟩, h6⟩
theorem Pen.set {st : Store} {p : Nat} {n : Int} (h : Pen st p n) {i : Nat} (hi : i ≠ p) (hi0 : i ≠ 0) (o : Ob) : Pen (st.set i o) p n := by
  obtain ⟨c, cells, a, g, ⟨h1, h2, h3, h4, h5, h7⟩, h6⟩ := h
  exact ⟨c, cells, a, g, ⟨by rw [List.getElem?_set_ne hi]; exact h1, by rw [List.getElem?_set_ne (by omega)]; exact h2, h3, h4, h5, h7⟩, h6⟩
theorem Pen.le {st : Store} {p : Nat} {n m : Int} (h : Pen st p n) (hm : n ≤ m) : Pen st p m := by
  obtain ⟨c, cells, a, g, h1, h6⟩ := h
  exact ⟨c, cells, a, g, h1, by omega⟩
theorem Pen.lt {st : Store} {p : Nat} {n : Int} (h : Pen st p n) : p < st.length := by
  obtain ⟨c, cells, a, g, h1, h6⟩ := h
  exact (List.getElem?_eq_some_iff.mp h1.pen).1
/-! ### ints among ints -/
theorem pdPs_ints : ∀ ns : List Int, pdPs (ns.map W.int) = some (ns.map PyData.int)
  | [] => rfl
  | n :: ns => by
    rw [List.map_cons, pdPs, pdPs_ints ns]
    rfl
theorem intsW_ints : ∀ ns : List Int, intsW (ns.map W.int) = some ns
  | [] => rfl
  | n :: ns => by
    rw [List.map_cons, intsW, intsW_ints ns]
theorem eqW_of {st : Store} {x y : W} {d e : PyData} (h1 : pdL st x = some d) (h2 : pdL st y = some e) (h3 : d.depth ≤ 64) (h4 : e.depth ≤ 64) : eqW st x y = some (PyData.eqv d e) := by
  unfold eqW
  rw [h1, h2]
  exact if_pos ⟨h3, h4⟩
theorem depth_int (i : Int) : (PyData.int i).depth ≤ 64 := by
  simp [PyData.depth]
theorem eqv_int (i j : Int) : PyData.eqv (.int i) (.int j) = decide (i = j) := by
  rw [PyData.eqv]
  rfl
@[simp] theorem eqW_int (st : Store) (i j : Int) : eqW st (.int i) (.int j) = some (decide (i = j)) := by
  rw [eqW_of (d := .int i) (e := .int j) rfl rfl (depth_int i) (depth_int j), eqv_int]
theorem any_ints (i : Int) : ∀ ns : List Int, (ns.map PyData.int).any (fun e => PyData.eqv e (.int i)) = decide (i ∈ ns)
  | [] => by simp
  | n :: ns => by
    rw [List.map_cons, List.any_cons, any_ints i ns, eqv_int]
    by_cases h : n = i
    · subst h; simp
    · have h2 : ¬ i = n := fun e => h e.symm
      simp [h, h2]
@[simp] theorem inW_ints (st : Store) (i : Int) (ns : List Int) : inW st (.int i) (.tup (ns.map W.int)) = some (decide (i ∈ ns)) := by
  have e1 : pdL st (.int i) = some (.int i) := rfl
  have e2 : pdL st (.tup (ns.map W.int)) = some (.tuple (ns.map PyData.int)) := by
    show pdP (.tup (ns.map W.int)) = _
    rw [pdP, pdPs_ints]
  unfold inW
  simp only [e1, e2]
  rw [if_pos (depth_int i), any_ints]
end EV

/-! Q2: the evaluator's steps as rewriting. -/
namespace EV
open PySem
/-- a comprehension's turn -/
noncomputable def cb (T : Fns) (c : Ox) (e : Ex) : Env → Store → Res (Option W) := fun env st => (evC T c env st).bind fun k st => if k = true then (evE T e env st).bind fun y st => .ok (some y) st else .ok none st
@[simp] theorem cmpW_eq (st : Store) (x y : W) : cmpW .eq st x y = eqW st x y := rfl
@[simp] theorem cmpW_ne (st : Store) (x y : W) : cmpW .ne st x y = (eqW st x y).map (!·) := rfl
@[simp] theorem cmpW_in (st : Store) (x y : W) : cmpW .inn st x y = inW st x y := rfl
@[simp] theorem cmpW_nin (st : Store) (x y : W) : cmpW .nin st x y = (inW st x y).map (!·) := rfl
@[simp] theorem cmpW_lt (st : Store) (i j : Int) : cmpW .lt st (.int i) (.int j) = some (decide (i < j)) := rfl
@[simp] theorem cmpW_le (st : Store) (i j : Int) : cmpW .le st (.int i) (.int j) = some (decide (i ≤ j)) := rfl
@[simp] theorem cmpW_gt (st : Store) (i j : Int) : cmpW .gt st (.int i) (.int j) = some (decide (j < i)) := rfl
@[simp] theorem cmpW_ge (st : Store) (i j : Int) : cmpW .ge st (.int i) (.int j) = some (decide (j ≤ i)) := rfl
@[simp] theorem binW_add (st : Store) (i j : Int) : binW .add st (.int i) (.int j) = .ok (.int (i + j)) st := rfl
@[simp] theorem binW_sub (st : Store) (i j : Int) : binW .sub st (.int i) (.int j) = .ok (.int (i - j)) st := rfl
theorem binW_addL {st : Store} {n m : Nat} {a b : List W} (h1 : st[n]? = some (.lst a)) (h2 : st[m]? = some (.lst b)) (h3 : a.length + b.length ≤ line) : binW .add st (.ref n) (.ref m) = .ok (.ref st.length) (st ++ [.lst (a ++ b)]) := by
  simp [binW, h1, h2, h3]
theorem binW_mul1 {st : Store} {i j : Int} (h : -(2 ^ 64) < i ∧ i < 2 ^ 64) : binW .mul st (.int i) (.int j) = .ok (.int (i * j)) st := if_pos (.inl h)
theorem binW_mul2 {st : Store} {i j : Int} (h : -(2 ^ 64) < j ∧ j < 2 ^ 64) : binW .mul st (.int i) (.int j) = .ok (.int (i * j)) st := if_pos (.inr (.inl h))
theorem binW_mod {st : Store} {i j : Int} (h : 0 < j) : binW .mod st (.int i) (.int j) = .ok (.int (i % j)) st := if_pos h
theorem binW_fdiv {st : Store} {i j : Int} (h : 0 < j) (h2 : j < 1073741824) : binW .fdiv st (.int i) (.int j) = .ok (.int (i / j)) st := if_pos ⟨h, .inl h2⟩
theorem binW_pow {st : Store} {i j : Int} (h : 0 ≤ j) (h1 : j ≤ 1000000) (h2 : i.natAbs < 2 ^ 64) : binW .pow st (.int i) (.int j) = .ok (.int (i ^ j.toNat)) st := if_pos ⟨h, h1, h2⟩
theorem binW_pow10 (st : Store) {k : Int} (h : 0 ≤ k) (h2 : k ≤ 1000000) : binW .pow st (.int 10) (.int k) = .ok (.int (10 ^ k.toNat)) st := binW_pow h h2 (by decide)
@[simp] theorem eqW_bl (st : Store) (a b : Bool) : eqW st (.bl a) (.bl b) = some (a == b) := by
  rw [eqW_of (d := .bool a) (e := .bool b) rfl rfl (by simp [PyData.depth]) (by simp [PyData.depth])]
  rw [PyData.eqv]
theorem eqW_str (st : Store) (a : Str) : eqW st (.str a) (.str a) = some true := by
  rw [eqW_of (d := .str a) (e := .str a) rfl rfl (by simp [PyData.depth]) (by simp [PyData.depth])]
  rw [PyData.eqv]
  simp
/-- data of no truths, no lists, so deep -/
inductive Pl : Nat → W → Prop where
  | non (k : Nat) : Pl k .non
  | int (k : Nat) (i : Int) : Pl k (.int i)
  | str (k : Nat) (x : Str) : Pl k (.str x)
  | tup (k : Nat) (ws : List W) (h : ∀ w ∈ ws, Pl k w) : Pl (k + 1) (.tup ws)
theorem Pl.ints (k : Nat) (ns : List Int) : Pl (k + 1) (.tup (ns.map W.int)) := .tup k _ fun w hw => by
  obtain ⟨n, _, e⟩ := List.mem_map.mp hw
  rw [← e]
  exact .int k n
/-- what only grew -/
def Psh (st st' : Store) : Prop := ∃ l, st' = st ++ l
theorem Psh.refl (st : Store) : Psh st st := ⟨[], by simp⟩
theorem Psh.trans {a b c : Store} (x : Psh a b) (y : Psh b c) : Psh a c := by
  obtain ⟨l, e⟩ := x
  obtain ⟨m, f⟩ := y
  exact ⟨l ++ m, by rw [f, e, List.append_assoc]⟩
theorem Psh.push {a b : Store} (x : Psh a b) (o : Ob) : Psh a (b ++ [o]) := x.trans ⟨[o], rfl⟩
theorem Psh.at_ {a b : Store} (x : Psh a b) {n : Nat} {o : Ob} (h : a[n]? = some o) : b[n]? = some o := by
  obtain ⟨l, e⟩ := x
  rw [e, List.getElem?_append_left (List.getElem?_eq_some_iff.mp h).1]
  exact h
theorem zip_self : ∀ ws : List W, ∀ z ∈ zipL ws ws, ∃ w ∈ ws, z = .tup [w, w]
  | [], z, h => by cases h
  | w :: ws, z, h => by
    rw [zipL, List.mem_cons] at h
    rcases h with e | h
    · exact ⟨w, List.mem_cons_self .., e⟩
    · obtain ⟨v, h1, h2⟩ := zip_self ws z h
      exact ⟨v, List.mem_cons_of_mem _ h1, h2⟩
theorem mem_rangeW {lo hi : Int} {w : W} (h : w ∈ rangeW lo hi) : ∃ i, w = .int i ∧ lo ≤ i ∧ i < hi := by
  unfold rangeW at h
  obtain ⟨k, h1, h2⟩ := List.mem_map.mp h
  have h3 := List.mem_range.mp h1
  exact ⟨lo + k, h2.symm, by omega, by omega⟩
theorem len_rangeW (lo hi : Int) : (rangeW lo hi).length = (hi - lo).toNat := by
  unfold rangeW
  simp
theorem Pen.ext {st : Store} {p : Nat} {n m : Int} {v : Nat} (h : Pen st p n) : Ext p st st := Ext.refl p st
theorem Ext.seq {p : Nat} {a b : Store} (x : Ext p a b) {c : Nat} {o : Ob} (h : a[c]? = some o) (hc : c ≠ p) : b[c]? = some o := x.at_ c o hc h
theorem sub_take {l : List Int} {n : Nat} {q : Int → Prop} (h : ∀ x ∈ l, q x) : ∀ x ∈ l.take n, q x := fun x hx => h x (List.mem_of_mem_take hx)
theorem take_map_min {l : List Int} {n : Nat} : (l.map W.int).take (min n l.length) = (l.take n).map W.int := by
  rw [← List.map_take]
  congr 1
  rcases Nat.le_total n l.length with h | h
  · rw [Nat.min_eq_left h]
  · rw [Nat.min_eq_right h, List.take_of_length_le (Nat.le_refl _), List.take_of_length_le h]
theorem depthAll_ints : ∀ ns : List Int, PyData.depthAll (ns.map PyData.int) = 0
  | [] => by simp [PyData.depthAll]
  | n :: ns => by
    rw [List.map_cons, PyData.depthAll, depthAll_ints ns]
    simp [PyData.depth]
theorem eqvAll_ints : ∀ a b : List Int, PyData.eqvAll (a.map PyData.int) (b.map PyData.int) = decide (a = b)
  | [], [] => by simp [PyData.eqvAll]
  | [], y :: b => by simp [PyData.eqvAll]
  | x :: a, [] => by simp [PyData.eqvAll]
  | x :: a, y :: b => by
    rw [List.map_cons, List.map_cons, PyData.eqvAll, eqvAll_ints a b, eqv_int]
    by_cases h : x = y <;> by_cases h2 : a = b <;> simp [h, h2]
theorem eqW_ints (st : Store) (a b : List Int) : eqW st (.tup (a.map W.int)) (.tup (b.map W.int)) = some (decide (a = b)) := by
  have e1 : ∀ c : List Int, pdL st (.tup (c.map W.int)) = some (.tuple (c.map PyData.int)) := fun c => by
    show pdP (.tup (c.map W.int)) = _
    rw [pdP, pdPs_ints]
  have e2 : ∀ c : List Int, (PyData.tuple (c.map PyData.int)).depth ≤ 64 := fun c => by
    rw [PyData.depth, depthAll_ints]
    decide
  rw [eqW_of (e1 a) (e1 b) (e2 a) (e2 b), PyData.eqv, eqvAll_ints]
@[simp] theorem eqW_nil (st : Store) (a : List Int) : eqW st (.tup (a.map W.int)) (.tup []) = some (decide (a = [])) := eqW_ints st a []
theorem ex3 {α : Type} {l : List α} (h : l.length = 3) : ∃ a0 a1 a2, l = [a0, a1, a2] := by
  match l, h with
  | [a0, a1, a2], _ => exact ⟨a0, a1, a2, rfl⟩
theorem ex4 {α : Type} {l : List α} (h : l.length = 4) : ∃ a0 a1 a2 a3, l = [a0, a1, a2, a3] := by
  match l, h with
  | [a0, a1, a2, a3], _ => exact ⟨a0, a1, a2, a3, rfl⟩
theorem ex5 {α : Type} {l : List α} (h : l.length = 5) : ∃ a0 a1 a2 a3 a4, l = [a0, a1, a2, a3, a4] := by
  match l, h with
  | [a0, a1, a2, a3, a4], _ => exact ⟨a0, a1, a2, a3, a4, rfl⟩
theorem ex6 {α : Type} {l : List α} (h : l.length = 6) : ∃ a0 a1 a2 a3 a4 a5, l = [a0, a1, a2, a3, a4, a5] := by
  match l, h with
  | [a0, a1, a2, a3, a4, a5], _ => exact ⟨a0, a1, a2, a3, a4, a5, rfl⟩
theorem ex7 {α : Type} {l : List α} (h : l.length = 7) : ∃ a0 a1 a2 a3 a4 a5 a6, l = [a0, a1, a2, a3, a4, a5, a6] := by
  match l, h with
  | [a0, a1, a2, a3, a4, a5, a6], _ => exact ⟨a0, a1, a2, a3, a4, a5, a6, rfl⟩
theorem ex8 {α : Type} {l : List α} (h : l.length = 8) : ∃ a0 a1 a2 a3 a4 a5 a6 a7, l = [a0, a1, a2, a3, a4, a5, a6, a7] := by
  match l, h with
  | [a0, a1, a2, a3, a4, a5, a6, a7], _ => exact ⟨a0, a1, a2, a3, a4, a5, a6, a7, rfl⟩
theorem ex9 {α : Type} {l : List α} (h : l.length = 9) : ∃ a0 a1 a2 a3 a4 a5 a6 a7 a8, l = [a0, a1, a2, a3, a4, a5, a6, a7, a8] := by
  match l, h with
  | [a0, a1, a2, a3, a4, a5, a6, a7, a8], _ => exact ⟨a0, a1, a2, a3, a4, a5, a6, a7, a8, rfl⟩
theorem ex10 {α : Type} {l : List α} (h : l.length = 10) : ∃ a0 a1 a2 a3 a4 a5 a6 a7 a8 a9, l = [a0, a1, a2, a3, a4, a5, a6, a7, a8, a9] := by
  match l, h with
  | [a0, a1, a2, a3, a4, a5, a6, a7, a8, a9], _ => exact ⟨a0, a1, a2, a3, a4, a5, a6, a7, a8, a9, rfl⟩
theorem ex11 {α : Type} {l : List α} (h : l.length = 11) : ∃ a0 a1 a2 a3 a4 a5 a6 a7 a8 a9 a10, l = [a0, a1, a2, a3, a4, a5, a6, a7, a8, a9, a10] := by
  match l, h with
  | [a0, a1, a2, a3, a4, a5, a6, a7, a8, a9, a10], _ => exact ⟨a0, a1, a2, a3, a4, a5, a6, a7, a8, a9, a10, rfl⟩
theorem ex12 {α : Type} {l : List α} (h : l.length = 12) : ∃ a0 a1 a2 a3 a4 a5 a6 a7 a8 a9 a10 a11, l = [a0, a1, a2, a3, a4, a5, a6, a7, a8, a9, a10, a11] := by
  match l, h with
  | [a0, a1, a2, a3, a4, a5, a6, a7, a8, a9, a10, a11], _ => exact ⟨a0, a1, a2, a3, a4, a5, a6, a7, a8, a9, a10, a11, rfl⟩
theorem ex13 {α : Type} {l : List α} (h : l.length = 13) : ∃ a0 a1 a2 a3 a4 a5 a6 a7 a8 a9 a10 a11 a12, l = [a0, a1, a2, a3, a4, a5, a6, a7, a8, a9, a10, a11, a12] := by
  match l, h with
  | [a0, a1, a2, a3, a4, a5, a6, a7, a8, a9, a10, a11, a12], _ => exact ⟨a0, a1, a2, a3, a4, a5, a6, a7, a8, a9, a10, a11, a12, rfl⟩
theorem ex14 {α : Type} {l : List α} (h : l.length = 14) : ∃ a0 a1 a2 a3 a4 a5 a6 a7 a8 a9 a10 a11 a12 a13, l = [a0, a1, a2, a3, a4, a5, a6, a7, a8, a9, a10, a11, a12, a13] := by
  match l, h with
  | [a0, a1, a2, a3, a4, a5, a6, a7, a8, a9, a10, a11, a12, a13], _ => exact ⟨a0, a1, a2, a3, a4, a5, a6, a7, a8, a9, a10, a11, a12, a13, rfl⟩
theorem ex15 {α : Type} {l : List α} (h : l.length = 15) : ∃ a0 a1 a2 a3 a4 a5 a6 a7 a8 a9 a10 a11 a12 a13 a14, l = [a0, a1, a2, a3, a4, a5, a6, a7, a8, a9, a10, a11, a12, a13, a14] := by
  match l, h with
  | [a0, a1, a2, a3, a4, a5, a6, a7, a8, a9, a10, a11, a12, a13, a14], _ => exact ⟨a0, a1, a2, a3, a4, a5, a6, a7, a8, a9, a10, a11, a12, a13, a14, rfl⟩
theorem ex16 {α : Type} {l : List α} (h : l.length = 16) : ∃ a0 a1 a2 a3 a4 a5 a6 a7 a8 a9 a10 a11 a12 a13 a14 a15, l = [a0, a1, a2, a3, a4, a5, a6, a7, a8, a9, a10, a11, a12, a13, a14, a15] := by
  match l, h with
  | [a0, a1, a2, a3, a4, a5, a6, a7, a8, a9, a10, a11, a12, a13, a14, a15], _ => exact ⟨a0, a1, a2, a3, a4, a5, a6, a7, a8, a9, a10, a11, a12, a13, a14, a15, rfl⟩
theorem ex17 {α : Type} {l : List α} (h : l.length = 17) : ∃ a0 a1 a2 a3 a4 a5 a6 a7 a8 a9 a10 a11 a12 a13 a14 a15 a16, l = [a0, a1, a2, a3, a4, a5, a6, a7, a8, a9, a10, a11, a12, a13, a14, a15, a16] := by
  match l, h with
  | [a0, a1, a2, a3, a4, a5, a6, a7, a8, a9, a10, a11, a12, a13, a14, a15, a16], _ => exact ⟨a0, a1, a2, a3, a4, a5, a6, a7, a8, a9, a10, a11, a12, a13, a14, a15, a16, rfl⟩
theorem ex18 {α : Type} {l : List α} (h : l.length = 18) : ∃ a0 a1 a2 a3 a4 a5 a6 a7 a8 a9 a10 a11 a12 a13 a14 a15 a16 a17, l = [a0, a1, a2, a3, a4, a5, a6, a7, a8, a9, a10, a11, a12, a13, a14, a15, a16, a17] := by
  match l, h with
  | [a0, a1, a2, a3, a4, a5, a6, a7, a8, a9, a10, a11, a12, a13, a14, a15, a16, a17], _ => exact ⟨a0, a1, a2, a3, a4, a5, a6, a7, a8, a9, a10, a11, a12, a13, a14, a15, a16, a17, rfl⟩
theorem ex19 {α : Type} {l : List α} (h : l.length = 19) : ∃ a0 a1 a2 a3 a4 a5 a6 a7 a8 a9 a10 a11 a12 a13 a14 a15 a16 a17 a18, l = [a0, a1, a2, a3, a4, a5, a6, a7, a8, a9, a10, a11, a12, a13, a14, a15, a16, a17, a18] := by
  match l, h with
  | [a0, a1, a2, a3, a4, a5, a6, a7, a8, a9, a10, a11, a12, a13, a14, a15, a16, a17, a18], _ => exact ⟨a0, a1, a2, a3, a4, a5, a6, a7, a8, a9, a10, a11, a12, a13, a14, a15, a16, a17, a18, rfl⟩
theorem ex20 {α : Type} {l : List α} (h : l.length = 20) : ∃ a0 a1 a2 a3 a4 a5 a6 a7 a8 a9 a10 a11 a12 a13 a14 a15 a16 a17 a18 a19, l = [a0, a1, a2, a3, a4, a5, a6, a7, a8, a9, a10, a11, a12, a13, a14, a15, a16, a17, a18, a19] := by
  match l, h with
  | [a0, a1, a2, a3, a4, a5, a6, a7, a8, a9, a10, a11, a12, a13, a14, a15, a16, a17, a18, a19], _ => exact ⟨a0, a1, a2, a3, a4, a5, a6, a7, a8, a9, a10, a11, a12, a13, a14, a15, a16, a17, a18, a19, rfl⟩
theorem ex21 {α : Type} {l : List α} (h : l.length = 21) : ∃ a0 a1 a2 a3 a4 a5 a6 a7 a8 a9 a10 a11 a12 a13 a14 a15 a16 a17 a18 a19 a20, l = [a0, a1, a2, a3, a4, a5, a6, a7, a8, a9, a10, a11, a12, a13, a14, a15, a16, a17, a18, a19, a20] := by
  match l, h with
  | [a0, a1, a2, a3, a4, a5, a6, a7, a8, a9, a10, a11, a12, a13, a14, a15, a16, a17, a18, a19, a20], _ => exact ⟨a0, a1, a2, a3, a4, a5, a6, a7, a8, a9, a10, a11, a12, a13, a14, a15, a16, a17, a18, a19, a20, rfl⟩
theorem ex22 {α : Type} {l : List α} (h : l.length = 22) : ∃ a0 a1 a2 a3 a4 a5 a6 a7 a8 a9 a10 a11 a12 a13 a14 a15 a16 a17 a18 a19 a20 a21, l = [a0, a1, a2, a3, a4, a5, a6, a7, a8, a9, a10, a11, a12, a13, a14, a15, a16, a17, a18, a19, a20, a21] := by
  match l, h with
  | [a0, a1, a2, a3, a4, a5, a6, a7, a8, a9, a10, a11, a12, a13, a14, a15, a16, a17, a18, a19, a20, a21], _ => exact ⟨a0, a1, a2, a3, a4, a5, a6, a7, a8, a9, a10, a11, a12, a13, a14, a15, a16, a17, a18, a19, a20, a21, rfl⟩
theorem ex23 {α : Type} {l : List α} (h : l.length = 23) : ∃ a0 a1 a2 a3 a4 a5 a6 a7 a8 a9 a10 a11 a12 a13 a14 a15 a16 a17 a18 a19 a20 a21 a22, l = [a0, a1, a2, a3, a4, a5, a6, a7, a8, a9, a10, a11, a12, a13, a14, a15, a16, a17, a18, a19, a20, a21, a22] := by
  match l, h with
  | [a0, a1, a2, a3, a4, a5, a6, a7, a8, a9, a10, a11, a12, a13, a14, a15, a16, a17, a18, a19, a20, a21, a22], _ => exact ⟨a0, a1, a2, a3, a4, a5, a6, a7, a8, a9, a10, a11, a12, a13, a14, a15, a16, a17, a18, a19, a20, a21, a22, rfl⟩
theorem ex24 {α : Type} {l : List α} (h : l.length = 24) : ∃ a0 a1 a2 a3 a4 a5 a6 a7 a8 a9 a10 a11 a12 a13 a14 a15 a16 a17 a18 a19 a20 a21 a22 a23, l = [a0, a1, a2, a3, a4, a5, a6, a7, a8, a9, a10, a11, a12, a13, a14, a15, a16, a17, a18, a19, a20, a21, a22, a23] := by
  match l, h with
  | [a0, a1, a2, a3, a4, a5, a6, a7, a8, a9, a10, a11, a12, a13, a14, a15, a16, a17, a18, a19, a20, a21, a22, a23], _ => exact ⟨a0, a1, a2, a3, a4, a5, a6, a7, a8, a9, a10, a11, a12, a13, a14, a15, a16, a17, a18, a19, a20, a21, a22, a23, rfl⟩
theorem Psh.ext {a b : Store} (x : Psh a b) (p : Nat) : Ext p a b := by
  obtain ⟨l, e⟩ := x
  subst e
  exact ⟨by rw [List.length_append]; omega, fun i o _ h => by rw [List.getElem?_append_left (List.getElem?_eq_some_iff.mp h).1]; exact h⟩
theorem Pen.psh {a b : Store} {p : Nat} {n : Int} (h : Pen a p n) (x : Psh a b) : Pen b p n := by
  obtain ⟨c, cells, i, g, ⟨h1, h2, h3, h4, h5, h7⟩, h6⟩ := h
  exact ⟨c, cells, i, g, ⟨x.at_ h1, x.at_ h2, h3, h4, h5, h7⟩, h6⟩
theorem binW_addT {st : Store} {a b : List W} (h : a.length + b.length ≤ line) : binW .add st (.tup a) (.tup b) = .ok (.tup (a ++ b)) st := if_pos h
/-- a list walked, each turn goes on and only makes the store grow -/
theorem walk_s {N n : Nat} {s0 : Store} {l : List W} {P : W → Prop} {t : Tgt} {b : Env → Store → SR} {env : Env} (hN : s0[N]? = some (.lst l)) (hP : ∀ y ∈ l, P y)
    (hb : ∀ (y : W) (e : Env) (s : Store), P y → e.length = n → ∃ e1 e' s', bindT t y e = some e1 ∧ b e1 s = .nx e' s' ∧ e'.length = n ∧ Psh s s') (hn : env.length = n) :
    ∃ env' s, forL (fun s => s[N]? = some (.lst l)) t b l env s0 = .nx env' s ∧ env'.length = n ∧ Psh s0 s := by
  refine forL_ok (fun rem e s => Psh s0 s ∧ e.length = n ∧ ∀ y ∈ rem, P y) (fun r => ∃ env' s, r = .nx env' s ∧ env'.length = n ∧ Psh s0 s) ?_ ?_ l _ _ ⟨Psh.refl _, hn, hP⟩
  · intro z rem e s ⟨h1, h2, h4⟩
    obtain ⟨e1, e', s', q1, q2, q3, q5⟩ := hb z e s (h4 z (List.mem_cons_self ..)) h2
    exact ⟨h1.at_ hN, e1, q1, .inl ⟨e', s', .inl q2, h1.trans q5, q3, fun y hy => h4 y (List.mem_cons_of_mem _ hy)⟩⟩
  · intro e s ⟨h1, h2, _⟩
    exact ⟨h1.at_ hN, e, s, rfl, h2, h1⟩
/-- n numbers need n places -/
theorem places : ∀ (n : Nat) (l : List Int), (∀ x : Nat, x < n → (x : Int) ∈ l) → n ≤ l.length
  | 0, _, _ => Nat.zero_le _
  | n + 1, l, h => by
    have h1 := h n (by omega)
    have h2 := places n (l.erase (n : Int)) fun x hx => (List.mem_erase_of_ne (by omega)).mpr (h x (by omega))
    rw [List.length_erase_of_mem h1] at h2
    have h3 : 0 < l.length := List.length_pos_of_mem h1
    omega
end EV

/-! Q3: the other pen (source, draw). -/
namespace EV
open PySem
@[simp] theorem augW_add (st : Store) (i j : Int) : augW .add st (.int i) (.int j) = .ok (.int (i + j)) st := rfl
@[simp] theorem augW_sub (st : Store) (i j : Int) : augW .sub st (.int i) (.int j) = .ok (.int (i - j)) st := rfl
theorem log_ok {j : Int} (h2 : j < 1099511627776) (h : 0 < j) : j.natAbs.log2 < 9000 := by
  have h3 : j.natAbs.log2 < 40 := (Nat.log2_lt (by omega)).mpr (by omega)
  omega
theorem augW_fdiv {st : Store} {i j : Int} (h : 0 < j) (h2 : j < 1099511627776) : augW .fdiv st (.int i) (.int j) = .ok (.int (i / j)) st := if_pos ⟨h, .inr (log_ok h2 h)⟩
theorem binW_fdiv40 {st : Store} {i j : Int} (h : 0 < j) (h2 : j < 1099511627776) : binW .fdiv st (.int i) (.int j) = .ok (.int (i / j)) st := if_pos ⟨h, .inr (log_ok h2 h)⟩
theorem augW_mod {st : Store} {i j : Int} (h : 0 < j) : augW .mod st (.int i) (.int j) = .ok (.int (i % j)) st := if_pos h
theorem augW_addL {st : Store} {n m : Nat} {a b : List W} (h1 : st[n]? = some (.lst a)) (h2 : st[m]? = some (.lst b)) (h3 : a.length + b.length ≤ line) : augW .add st (.ref n) (.ref m) = .ok (.ref n) (st.set n (.lst (a ++ b))) := by
  simp [augW, h1, h2, h3]
/-- a list walked, the environment keeps E -/
theorem walk_e {N : Nat} {s0 : Store} {l : List W} {P : W → Prop} {E : Env → Prop} {t : Tgt} {b : Env → Store → SR} {env : Env} (hN : s0[N]? = some (.lst l)) (hP : ∀ y ∈ l, P y)
    (hb : ∀ (y : W) (e : Env) (s : Store), P y → E e → ∃ e1 e' s', bindT t y e = some e1 ∧ b e1 s = .nx e' s' ∧ E e' ∧ Psh s s') (hn : E env) :
    ∃ env' s, forL (fun s => s[N]? = some (.lst l)) t b l env s0 = .nx env' s ∧ E env' ∧ Psh s0 s := by
  refine forL_ok (fun rem e s => Psh s0 s ∧ E e ∧ ∀ y ∈ rem, P y) (fun r => ∃ env' s, r = .nx env' s ∧ E env' ∧ Psh s0 s) ?_ ?_ l _ _ ⟨Psh.refl _, hn, hP⟩
  · intro z rem e s ⟨h1, h2, h4⟩
    obtain ⟨e1, e', s', q1, q2, q3, q5⟩ := hb z e s (h4 z (List.mem_cons_self ..)) h2
    exact ⟨h1.at_ hN, e1, q1, .inl ⟨e', s', .inl q2, h1.trans q5, q3, fun y hy => h4 y (List.mem_cons_of_mem _ hy)⟩⟩
  · intro e s ⟨h1, h2, _⟩
    exact ⟨h1.at_ hN, e, s, rfl, h2, h1⟩
structure LAt (st : Store) (p c : Nat) (cells : List Int) (a g q x : Int) : Prop where
  pen : st[p]? = some (.lst [.ref c, .int a, .int g, .int q, .int x])
  cell : st[c]? = some (.lst (cells.map W.int))
  ne : c ≠ p
  c0 : c = 1
  a0 : 0 ≤ a
  g0 : 0 ≤ g
  q0 : 0 ≤ q
  x0 : 0 ≤ x
  x1 : x < 2147483647
  cs : ∀ y ∈ cells, 0 ≤ y
def LPen (st : Store) (p : Nat) (n : Int) : Prop := ∃ c cells a g q x, LAt st p c cells a g q x ∧ q ≤ n
theorem LPen.le {st : Store} {p : Nat} {n m : Int} (h : LPen st p n) (hm : n ≤ m) : LPen st p m := by
  obtain ⟨c, cells, a, g, q, x, h1, h6⟩ := h
  exact ⟨c, cells, a, g, q, x, h1, by omega⟩
theorem LPen.lt {st : Store} {p : Nat} {n : Int} (h : LPen st p n) : p < st.length := by
  obtain ⟨c, cells, a, g, q, x, h1, h6⟩ := h
  exact (List.getElem?_eq_some_iff.mp h1.pen).1
theorem LPen.big {st : Store} {p : Nat} {n : Int} (h : LPen st p n) : 1 < st.length := by
  obtain ⟨c, cells, a, g, q, x, h1, h6⟩ := h
  have := (List.getElem?_eq_some_iff.mp h1.cell).1
  have := h1.c0
  omega
theorem LPen.psh {a b : Store} {p : Nat} {n : Int} (h : LPen a p n) (x : Psh a b) : LPen b p n := by
  obtain ⟨c, cells, i, g, q, y, h1, h6⟩ := h
  exact ⟨c, cells, i, g, q, y, { h1 with pen := x.at_ h1.pen, cell := x.at_ h1.cell }, h6⟩
theorem LPen.push {st : Store} {p : Nat} {n : Int} (h : LPen st p n) (o : Ob) : LPen (st ++ [o]) p n := h.psh ⟨_, rfl⟩
theorem LPen.set {st : Store} {p : Nat} {n : Int} (h : LPen st p n) {i : Nat} (hi : i ≠ p) (hi0 : i ≠ 1) (o : Ob) : LPen (st.set i o) p n := by
  obtain ⟨c, cells, a, g, q, y, h1, h6⟩ := h
  exact ⟨c, cells, a, g, q, y, { h1 with pen := by rw [List.getElem?_set_ne hi]; exact h1.pen, cell := by rw [List.getElem?_set_ne (by have := h1.c0; omega)]; exact h1.cell }, h6⟩
end EV

namespace Lw
open PySem PySem.Spec PyProof.Rows L2 EV
def tp (i : Nat) : Stmt := PySem.Challenge.pw_columndays_k43_costs_to_the_penny.main.body.getD i (.Pass ⟨0, 0, 0, 0⟩)
def l1_price_for : EV.Ss := (.cons (.ite (.cmp .le (.var 3) (.var 1)) (.cons (.set 2 (.var 4)) .nil) .nil) .nil)
def b_price_for : EV.Ss := (.cons (.set 2 (.con (.int 0))) (.cons (.for_ (.tup [3, 4]) (.seq (.idx (.var 0) (.con (.int 1)))) l1_price_for) (.cons (.ret (.var 2)) .nil)))
def d_price_for : FnI := ⟨"price_for", tp 1, ["card", "k"], ["card", "k", "told", "first", "price"], b_price_for⟩
def b_cost : EV.Ss := (.cons (.set 3 (.con (.int 100))) (.cons (.ite (.notN (.idx (.var 2) (.con (.int 3)))) (.cons (.aug 3 .add (.idx (.var 0) (.con (.int 2)))) .nil) .nil) (.cons (.ret (.bin .fdiv (.bin .add (.bin .mul (.bin .mul (.idx (.var 2) (.con (.int 2))) (.call 0 (.cons (.var 0) (.cons (.var 1) .nil)))) (.var 3)) (.con (.int 50))) (.con (.int 100)))) .nil)))
def d_cost : FnI := ⟨"cost", tp 2, ["card", "k", "notice"], ["card", "k", "notice", "hundredths"], b_cost⟩
def c1__law_source : Ox := .no
def e1__law_source : Ex := (.bin .add (.bin .mul (.con (.int 2)) (.blt .abs (.cons (.var 2) .nil))) (.blt .int (.cons (.cmp .lt (.var 2) (.con (.int 0))) .nil)))
def b__law_source : EV.Ss := (.cons (.set 1 (.comp (.one 2) (.seq (.slc (.var 0) .no (.yes (.con (.int 63))))) c1__law_source e1__law_source)) (.cons (.ret (.lst (.cons (.var 1) (.cons (.con (.int 0)) (.cons (.con (.int 0)) (.cons (.con (.int 0)) (.cons (.bin .mod (.blt .sum (.cons (.var 1) .nil)) (.con (.int 2147483647))) .nil))))))) .nil))
def d__law_source : FnI := ⟨"_law_source", tp 4, ["_law_script"], ["_law_script", "_law_cells", "_law_cell"], b__law_source⟩
def b__law_draw : EV.Ss := (.cons (.augS (.var 0) (.con (.int 3)) .add (.con (.int 1))) (.cons (.ite (.and (.cmp .eq (.idx (.var 0) (.con (.int 2))) (.con (.int 0))) (.cmp .lt (.idx (.var 0) (.con (.int 1))) (.blt .len (.cons (.idx (.var 0) (.con (.int 0))) .nil)))) (.cons (.set 2 (.idx (.idx (.var 0) (.con (.int 0))) (.idx (.var 0) (.con (.int 1))))) (.cons (.augS (.var 0) (.con (.int 1)) .add (.con (.int 1))) (.cons (.ite (.cmp .ge (.var 2) (.bin .pow (.con (.int 10)) (.con (.int 18)))) (.cons (.sub (.var 0) (.con (.int 2)) (.var 2)) .nil) (.cons (.sub (.var 0) (.con (.int 4)) (.bin .mod (.bin .add (.bin .mul (.idx (.var 0) (.con (.int 4))) (.con (.int 31))) (.var 2)) (.con (.int 2147483647)))) .nil)) .nil))) .nil) (.cons (.ite (.cmp .gt (.idx (.var 0) (.con (.int 2))) (.con (.int 0))) (.cons (.set 3 (.bin .mod (.idx (.var 0) (.con (.int 2))) (.var 1))) (.cons (.augS (.var 0) (.con (.int 2)) .fdiv (.var 1)) (.cons (.ret (.var 3)) .nil))) .nil) (.cons (.set 3 (.bin .mod (.bin .pow (.bin .add (.bin .add (.idx (.var 0) (.con (.int 4))) (.con (.int 1))) (.bin .mul (.idx (.var 0) (.con (.int 3))) (.con (.int 7919)))) (.con (.int 3))) (.con (.int 2147483647)))) (.cons (.ret (.bin .mod (.bin .fdiv (.bin .mod (.bin .pow (.bin .add (.bin .mul (.var 3) (.con (.int 48271))) (.idx (.var 0) (.con (.int 3)))) (.con (.int 2))) (.con (.int 2147483629))) (.con (.int 64))) (.var 1))) .nil)))))
def d__law_draw : FnI := ⟨"_law_draw", tp 5, ["_law_left", "_law_many"], ["_law_left", "_law_many", "_law_cell", "_law_told"], b__law_draw⟩
def l1__law_card : EV.Ss := (.cons (.set 3 (.idx (.tup (.cons (.con (.int 1)) (.cons (.con (.int 2)) (.cons (.con (.int 5)) (.cons (.bin .pow (.con (.int 10)) (.con (.int 11))) .nil))))) (.call 3 (.cons (.var 0) (.cons (.con (.int 4)) .nil))))) (.cons (.set 4 (.idx (.tup (.cons (.con (.int 0)) (.cons (.con (.int 1000000)) (.cons (.call 3 (.cons (.var 0) (.cons (.con (.int 1000001)) .nil))) (.cons (.call 3 (.cons (.var 0) (.cons (.con (.int 100)) .nil))) .nil))))) (.call 3 (.cons (.var 0) (.cons (.con (.int 4)) .nil))))) (.cons (.ex (.mth .append (.var 1) (.cons (.tup (.cons (.bin .add (.bin .add (.idx (.idx (.var 1) (.neg (.con (.int 1)))) (.con (.int 0))) (.con (.int 1))) (.call 3 (.cons (.var 0) (.cons (.var 3) .nil)))) (.cons (.var 4) .nil))) .nil))) .nil)))
def b__law_card : EV.Ss := (.cons (.set 1 (.lst (.cons (.tup (.cons (.con (.int 1)) (.cons (.call 3 (.cons (.var 0) (.cons (.con (.int 1000001)) .nil))) .nil))) .nil))) (.cons (.for_ (.one 2) (.rng1 (.call 3 (.cons (.var 0) (.cons (.con (.int 6)) .nil)))) l1__law_card) (.cons (.set 5 (.idx (.tup (.cons (.con (.int 0)) (.cons (.con (.int 300)) (.cons (.call 3 (.cons (.var 0) (.cons (.con (.int 301)) .nil))) .nil)))) (.call 3 (.cons (.var 0) (.cons (.con (.int 3)) .nil))))) (.cons (.ret (.tup (.cons (.idx (.tup (.cons (.con (.str "each")) (.cons (.con (.str "all")) .nil))) (.call 3 (.cons (.var 0) (.cons (.con (.int 2)) .nil)))) (.cons (.blt .tuple (.cons (.var 1) .nil)) (.cons (.var 5) .nil))))) .nil))))
def d__law_card : FnI := ⟨"_law_card", tp 6, ["_law_left"], ["_law_left", "_law_steps", "_law_k", "_law_far", "_law_price", "_law_extra"], b__law_card⟩
def c1__law_name : Ox := .no
def e1__law_name : Ex := (.idx (.var 1) (.call 3 (.cons (.var 0) (.cons (.con (.int 26)) .nil))))
def b__law_name : EV.Ss := (.cons (.set 1 (.con (.str "abcdefghijklmnopqrstuvwxyz"))) (.cons (.ret (.join (.con (.str "")) (.comp (.one 2) (.rng1 (.bin .add (.con (.int 1)) (.call 3 (.cons (.var 0) (.cons (.con (.int 8)) .nil))))) c1__law_name e1__law_name))) .nil))
def d__law_name : FnI := ⟨"_law_name", tp 7, ["_law_left"], ["_law_left", "_law_letters", "_law_k"], b__law_name⟩
def b__law_notice : EV.Ss := (.cons (.set 1 (.call 3 (.cons (.var 0) (.cons (.con (.int 4)) .nil)))) (.cons (.set 2 (.idx (.tup (.cons (.con .non) (.cons (.tup (.cons (.con (.str "column")) (.cons (.var 1) .nil))) (.cons (.tup (.cons (.con (.str "top")) (.cons (.var 1) .nil))) (.cons (.tup (.cons (.con (.str "top")) (.cons (.con .non) .nil))) .nil))))) (.call 3 (.cons (.var 0) (.cons (.con (.int 4)) .nil))))) (.cons (.set 3 (.idx (.tup (.cons (.bin .add (.con (.int 1)) (.call 3 (.cons (.var 0) (.cons (.con (.int 40)) .nil)))) (.cons (.con (.int 40)) (.cons (.bin .add (.con (.int 1)) (.call 3 (.cons (.var 0) (.cons (.con (.int 5)) .nil)))) .nil)))) (.call 3 (.cons (.var 0) (.cons (.con (.int 3)) .nil))))) (.cons (.ret (.tup (.cons (.call 5 (.cons (.var 0) .nil)) (.cons (.call 5 (.cons (.var 0) .nil)) (.cons (.var 3) (.cons (.var 2) (.cons (.cmp .eq (.call 3 (.cons (.var 0) (.cons (.con (.int 2)) .nil))) (.con (.int 1))) .nil))))))) .nil))))
def d__law_notice : FnI := ⟨"_law_notice", tp 8, ["_law_left"], ["_law_left", "_law_column", "_law_place", "_law_lines"], b__law_notice⟩
def c1__law_due : Ox := (.yes (.cmp .le (.idx (.var 4) (.con (.int 0))) (.var 1)))
def e1__law_due : Ex := (.idx (.var 4) (.con (.int 1)))
def b__law_due : EV.Ss := (.cons (.set 3 (.idx (.comp (.one 4) (.seq (.idx (.var 0) (.con (.int 1)))) c1__law_due e1__law_due) (.neg (.con (.int 1))))) (.cons (.set 5 (.bin .mul (.idx (.var 2) (.con (.int 2))) (.var 3))) (.cons (.ite (.isN (.idx (.var 2) (.con (.int 3)))) (.cons (.ret (.var 5)) .nil) .nil) (.cons (.set 6 (.bin .mul (.var 5) (.idx (.var 0) (.con (.int 2))))) (.cons (.ret (.bin .add (.bin .add (.var 5) (.bin .fdiv (.var 6) (.con (.int 100)))) (.blt .int (.cons (.cmp .ge (.bin .mod (.var 6) (.con (.int 100))) (.con (.int 50))) .nil)))) .nil)))))
def d__law_due : FnI := ⟨"_law_due", tp 9, ["_law_card_here", "_law_number", "_law_notice_here"], ["_law_card_here", "_law_number", "_law_notice_here", "_law_price", "_law_step", "_law_whole", "_law_more"], b__law_due⟩
def b__law_right : EV.Ss := (.cons (.set 3 (.call 1 (.cons (.var 0) (.cons (.var 1) (.cons (.var 2) .nil))))) (.cons (.ret (.and (.isi (.var 3) [.int]) (.and (.not (.isi (.var 3) [.bool])) (.cmp .eq (.var 3) (.call 7 (.cons (.var 0) (.cons (.var 1) (.cons (.var 2) .nil)))))))) .nil))
def d__law_right : FnI := ⟨"_law_right", tp 10, ["_law_card_here", "_law_number", "_law_notice_here"], ["_law_card_here", "_law_number", "_law_notice_here", "_law_found"], b__law_right⟩
def l1_law : EV.Ss := (.cons (.ite (.not (.call 8 (.cons (.var 3) (.cons (.var 6) (.cons (.var 4) .nil))))) (.cons (.ret (.con (.bl false))) .nil) .nil) .nil)
def l2_law : EV.Ss := (.cons (.for_ (.one 6) (.seq (.tup (.cons (.idx (.var 5) (.con (.int 0))) (.cons (.bin .add (.idx (.var 5) (.con (.int 0))) (.con (.int 1))) (.cons (.bin .add (.idx (.var 5) (.con (.int 0))) (.bin .pow (.con (.int 10)) (.con (.int 39)))) .nil))))) l1_law) .nil)
def l3_law : EV.Ss := (.cons (.set 3 (.call 4 (.cons (.var 1) .nil))) (.cons (.set 4 (.call 6 (.cons (.var 1) .nil))) (.cons (.for_ (.one 5) (.seq (.idx (.var 3) (.con (.int 1)))) l2_law) .nil)))
def l4_law : EV.Ss := (.cons (.set 3 (.tup (.cons (.con (.str "each")) (.cons (.tup (.cons (.tup (.cons (.con (.int 1)) (.cons (.call 3 (.cons (.var 1) (.cons (.con (.int 100)) .nil))) .nil))) .nil)) (.cons (.bin .add (.con (.int 1)) (.call 3 (.cons (.var 1) (.cons (.con (.int 99)) .nil)))) .nil))))) (.cons (.set 4 (.call 6 (.cons (.var 1) .nil))) (.cons (.set 7 (.tup (.cons (.con (.str "a")) (.cons (.con (.str "b")) (.cons (.bin .add (.con (.int 5)) (.bin .mul (.con (.int 10)) (.call 3 (.cons (.var 1) (.cons (.con (.int 3)) .nil))))) (.cons (.tup (.cons (.con (.str "top")) (.cons (.con .non) .nil))) (.cons (.con (.bl false)) .nil))))))) (.cons (.ite (.or (.not (.call 8 (.cons (.var 3) (.cons (.con (.int 1)) (.cons (.var 4) .nil))))) (.not (.call 8 (.cons (.var 3) (.cons (.con (.int 2)) (.cons (.var 7) .nil)))))) (.cons (.ret (.con (.bl false))) .nil) .nil) (.cons (.ite (.not (.call 8 (.cons (.tup (.cons (.con (.str "all")) (.cons (.tup (.cons (.tup (.cons (.con (.int 1)) (.cons (.con (.int 10)) .nil))) .nil)) (.cons (.bin .add (.con (.int 1)) (.bin .mul (.con (.int 2)) (.call 3 (.cons (.var 1) (.cons (.con (.int 50)) .nil))))) .nil)))) (.cons (.con (.int 1)) (.cons (.var 7) .nil))))) (.cons (.ret (.con (.bl false))) .nil) .nil) .nil)))))
def b_law : EV.Ss := (.cons (.set 1 (.call 2 (.cons (.var 0) .nil))) (.cons (.for_ (.one 2) (.rng1 (.con (.int 12))) l3_law) (.cons (.for_ (.one 2) (.rng1 (.con (.int 10))) l4_law) (.cons (.ret (.con (.bl true))) .nil))))
def d_law : FnI := ⟨"law", tp 11, ["_law_script"], ["_law_script", "_law_left", "_law_k", "_law_card_here", "_law_notice_here", "_law_step", "_law_number", "_law_half"], b_law⟩
def I : List FnI := [d_price_for, d_cost, d__law_source, d__law_draw, d__law_card, d__law_name, d__law_notice, d__law_due, d__law_right, d_law]
def cons : List (Str × W) := []
def free : List Str := ["abs", "bool", "int", "isinstance", "len", "range", "sum", "tuple"]
abbrev Γ : Gs := gsOf I cons free
noncomputable abbrev T : Nat → Fns := run (tbOf I)
theorem o_price_for : d_price_for.Ok Γ := ⟨⟨rfl, rfl, rfl, by decide +kernel, rfl, by decide +kernel, by decide +kernel⟩, by kernel_rfl, fun _ _ _ _ _ _ us hl => match us, hl with | [_, _], _ => rfl⟩
theorem o_cost : d_cost.Ok Γ := ⟨⟨rfl, rfl, rfl, by decide +kernel, rfl, by decide +kernel, by decide +kernel⟩, by kernel_rfl, fun _ _ _ _ _ _ us hl => match us, hl with | [_, _, _], _ => rfl⟩
theorem o__law_source : d__law_source.Ok Γ := ⟨⟨rfl, rfl, rfl, by decide +kernel, rfl, by decide +kernel, by decide +kernel⟩, by kernel_rfl, fun _ _ _ _ _ _ us hl => match us, hl with | [_], _ => rfl⟩
theorem o__law_draw : d__law_draw.Ok Γ := ⟨⟨rfl, rfl, rfl, by decide +kernel, rfl, by decide +kernel, by decide +kernel⟩, by kernel_rfl, fun _ _ _ _ _ _ us hl => match us, hl with | [_, _], _ => rfl⟩
theorem o__law_card : d__law_card.Ok Γ := ⟨⟨rfl, rfl, rfl, by decide +kernel, rfl, by decide +kernel, by decide +kernel⟩, by kernel_rfl, fun _ _ _ _ _ _ us hl => match us, hl with | [_], _ => rfl⟩
theorem o__law_name : d__law_name.Ok Γ := ⟨⟨rfl, rfl, rfl, by decide +kernel, rfl, by decide +kernel, by decide +kernel⟩, by kernel_rfl, fun _ _ _ _ _ _ us hl => match us, hl with | [_], _ => rfl⟩
theorem o__law_notice : d__law_notice.Ok Γ := ⟨⟨rfl, rfl, rfl, by decide +kernel, rfl, by decide +kernel, by decide +kernel⟩, by kernel_rfl, fun _ _ _ _ _ _ us hl => match us, hl with | [_], _ => rfl⟩
theorem o__law_due : d__law_due.Ok Γ := ⟨⟨rfl, rfl, rfl, by decide +kernel, rfl, by decide +kernel, by decide +kernel⟩, by kernel_rfl, fun _ _ _ _ _ _ us hl => match us, hl with | [_, _, _], _ => rfl⟩
theorem o__law_right : d__law_right.Ok Γ := ⟨⟨rfl, rfl, rfl, by decide +kernel, rfl, by decide +kernel, by decide +kernel⟩, by kernel_rfl, fun _ _ _ _ _ _ us hl => match us, hl with | [_, _, _], _ => rfl⟩
theorem o_law : d_law.Ok Γ := ⟨⟨rfl, rfl, rfl, by decide +kernel, rfl, by decide +kernel, by decide +kernel⟩, by kernel_rfl, fun _ _ _ _ _ _ us hl => match us, hl with | [_], _ => rfl⟩
theorem r_price_for (k : Nat) (w0 w1 : W) (st : Store) : T (k + 1) 0 [w0, w1] st = (evSs (T k) b_price_for [some w0, some w1, none, none, none] st).out := rfl
theorem r_cost (k : Nat) (w0 w1 w2 : W) (st : Store) : T (k + 1) 1 [w0, w1, w2] st = (evSs (T k) b_cost [some w0, some w1, some w2, none] st).out := rfl
theorem r__law_source (k : Nat) (w0 : W) (st : Store) : T (k + 1) 2 [w0] st = (evSs (T k) b__law_source [some w0, none, none] st).out := rfl
theorem r__law_draw (k : Nat) (w0 w1 : W) (st : Store) : T (k + 1) 3 [w0, w1] st = (evSs (T k) b__law_draw [some w0, some w1, none, none] st).out := rfl
theorem r__law_card (k : Nat) (w0 : W) (st : Store) : T (k + 1) 4 [w0] st = (evSs (T k) b__law_card [some w0, none, none, none, none, none] st).out := rfl
theorem r__law_name (k : Nat) (w0 : W) (st : Store) : T (k + 1) 5 [w0] st = (evSs (T k) b__law_name [some w0, none, none] st).out := rfl
theorem r__law_notice (k : Nat) (w0 : W) (st : Store) : T (k + 1) 6 [w0] st = (evSs (T k) b__law_notice [some w0, none, none, none] st).out := rfl
theorem r__law_due (k : Nat) (w0 w1 w2 : W) (st : Store) : T (k + 1) 7 [w0, w1, w2] st = (evSs (T k) b__law_due [some w0, some w1, some w2, none, none, none, none] st).out := rfl
theorem r__law_right (k : Nat) (w0 w1 w2 : W) (st : Store) : T (k + 1) 8 [w0, w1, w2] st = (evSs (T k) b__law_right [some w0, some w1, some w2, none] st).out := rfl
theorem r_law (k : Nat) (w0 : W) (st : Store) : T (k + 1) 9 [w0] st = (evSs (T k) b_law [some w0, none, none, none, none, none, none, none] st).out := rfl
theorem all_ok : ∀ (i : Nat) (d : FnI), I[i]? = some d → d.Ok Γ := by
  intro i d h
  have h2 : d ∈ I := List.mem_of_getElem? h
  simp only [I, List.mem_cons, List.not_mem_nil, or_false] at h2
  rcases h2 with rfl | rfl | rfl | rfl | rfl | rfl | rfl | rfl | rfl | rfl
  · exact o_price_for
  · exact o_cost
  · exact o__law_source
  · exact o__law_draw
  · exact o__law_card
  · exact o__law_name
  · exact o__law_notice
  · exact o__law_due
  · exact o__law_right
  · exact o_law
def fa : List He.Fa := faOf I cons free
def fn : List He.DefD := fnOfI I
abbrev R : PySem.W.OpenRow := PySem.W.OpenLaw.row PySem.Challenge.rw_columndays_k43_costs_to_the_penny
abbrev hk : PySem.W.Hook := He.hookD 4 fa fn
def ob (s : PySem.W.SharedT) : He.AlD := He.obsDG 4 fa fn (HandSHeadRun.getT s)
theorem ob_eq (s : PySem.W.SharedT) : ob s = hk.obs s.abs := He.obsDG_eq (HandSHeadRun.getT_eq s)
def loose0 : List Str := ["price_for", "cost", "_law_source", "_law_draw", "_law_card", "_law_name", "_law_notice", "_law_due", "_law_right"]
def loose : List Str := loose0
theorem run (w : World) : HandSHeadRun.RunEq R (PySem.W.view R.prog [11]) hk ob 4000 loose w := by
  intro os
  kernel_rfl
end Lw

namespace Lw
open PySem EV
theorem source_s {k : Nat} {ns : List Int} (h : ns.length ≤ 63) : ∃ p st, T (k + 1) 2 [.fls (ns.map W.int)] [] = .ok (.ref p) st ∧ LPen st p 0 := by
  have e : List.take (min 63 ns.length) (ns.map W.int) = ns.map W.int := List.take_of_length_le (by rw [List.length_map]; omega)
  have m2 : ∀ (s : Store) (i : Int), binW .mul s (.int 2) (.int i) = .ok (.int (2 * i)) s := fun s i => binW_mul1 (by decide)
  have mm : ∀ (s : Store) (i : Int), binW .mod s (.int i) (.int 2147483647) = .ok (.int (i % 2147483647)) s := fun s i => binW_mod (by decide)
  have ec := cmpL_pure (keep := fun st' => st'[0]? = some (.lst (ns.map W.int))) (t := .one 2) (b := cb (T k) c1__law_source e1__law_source) (env := [some (.fls (ns.map W.int)), none, none]) (st := [.lst (ns.map W.int)])
    (fun w => match w with
      | .int i => some (.int (2 * (if i < 0 then -i else i) + (if i < 0 then 1 else 0)))
      | _ => none) rfl (ns.map W.int) [] (by simp; unfold line; omega) (fun w hw => by
        obtain ⟨i, _, rfl⟩ := List.mem_map.mp hw
        exact ⟨_, rfl, by simp [evE, evEs, evP, evC, evI, evT, evS, evSs, startE, bltW, truW, seqW, atW, ixW, isNonW, isRefW, isTupW, isLstW, setIxW, setAll, bindT, Tgt.slots, wipeE, seqK, slcW, cutW, cutIx, idxW, mthW, isiW, kindW, subTy, rngOk, cb, c1__law_source, e1__law_source, m2]⟩)
  rw [List.nil_append] at ec
  have e2 : (ns.map W.int).filterMap (fun w => match w with
      | .int i => some (.int (2 * (if i < 0 then -i else i) + (if i < 0 then 1 else 0)))
      | _ => none) = (ns.map fun i => (2 * (if i < 0 then -i else i) + (if i < 0 then 1 else 0))).map W.int := by
    rw [List.filterMap_map, List.map_map, ← List.filterMap_eq_map]
    rfl
  rw [e2] at ec
  obtain ⟨cs, hcs⟩ : ∃ cs, cs = ns.map fun i => (2 * (if i < 0 then -i else i) + (if i < 0 then 1 else 0)) := ⟨_, rfl⟩
  rw [← hcs] at ec
  delta cb at ec
  refine ⟨2, [.lst (ns.map W.int), .lst (cs.map W.int), .lst [.ref 1, .int 0, .int 0, .int 0, .int (cs.sum % 2147483647)]], ?_, 1, cs, 0, 0, 0, cs.sum % 2147483647, ⟨rfl, rfl, by decide, rfl, by decide, by decide, by decide, Int.emod_nonneg _ (by decide), Int.emod_lt_of_pos _ (by decide), fun y hy => ?_⟩, by decide⟩
  · rw [r__law_source]
    simp [evE, evEs, evP, evC, evI, evT, evS, evSs, startE, bltW, truW, seqW, atW, ixW, isNonW, isRefW, isTupW, isLstW, setIxW, setAll, bindT, Tgt.slots, wipeE, seqK, slcW, cutW, cutIx, idxW, mthW, isiW, kindW, subTy, rngOk, b__law_source, e, ec, intsW_ints, mm]
  · rw [hcs] at hy
    obtain ⟨i, _, e⟩ := List.mem_map.mp hy
    rw [← e]
    split <;> omega
theorem draw_s {k p : Nat} {st : Store} {n m : Int} (h : LPen st p n) (hn : n < 2 ^ 40) (hm : 0 < m) (hm2 : m < 1099511627776) :
    ∃ v st', T (k + 1) 3 [.ref p, .int m] st = .ok (.int v) st' ∧ 0 ≤ v ∧ v < m ∧ LPen st' p (n + 1) ∧ Ext p st st' ∧ st'.length = st.length := by
  have hpl := h.lt
  obtain ⟨c, cells, a, g, q, x, ⟨h1, h2, h3, hc0, ha0, hg0, hq0, hx0, hx1, hcs⟩, hqn⟩ := h
  have hs1 : ∀ o, (st.set p o)[p]? = some o := fun o => by simp [hpl]
  have hs2 : ∀ o, (st.set p o)[c]? = st[c]? := fun o => List.getElem?_set_ne (fun e => h3 e.symm)
  have key : ∃ z a' g' x', T (k + 1) 3 [.ref p, .int m] st = .ok (.int (z % m)) (st.set p (.lst [.ref c, .int a', .int g', .int (q + 1), .int x'])) ∧ 0 ≤ a' ∧ 0 ≤ g' ∧ 0 ≤ x' ∧ x' < 2147483647 := by
    rw [r__law_draw]
    generalize hr : (evSs (T k) b__law_draw [some (W.ref p), some (W.int m), none, none] st).out = r
    have p18 : ∀ s : Store, binW .pow s (.int 10) (.int 18) = .ok (.int 1000000000000000000) s := fun s => binW_pow10 s (by decide) (by decide)
    have mm : ∀ (s : Store) (i : Int), binW .mod s (.int i) (.int 2147483647) = .ok (.int (i % 2147483647)) s := fun s i => binW_mod (by decide)
    have mm2 : ∀ (s : Store) (i : Int), binW .mod s (.int i) (.int 2147483629) = .ok (.int (i % 2147483629)) s := fun s i => binW_mod (by decide)
    have f64 : ∀ (s : Store) (i : Int), binW .fdiv s (.int i) (.int 64) = .ok (.int (i / 64)) s := fun s i => binW_fdiv (by decide) (by decide)
    have m31 : ∀ (s : Store) (i : Int), binW .mul s (.int i) (.int 31) = .ok (.int (i * 31)) s := fun s i => binW_mul2 (by decide)
    have m79 : ∀ (s : Store) (i : Int), binW .mul s (.int i) (.int 7919) = .ok (.int (i * 7919)) s := fun s i => binW_mul2 (by decide)
    have m48 : ∀ (s : Store) (i : Int), binW .mul s (.int i) (.int 48271) = .ok (.int (i * 48271)) s := fun s i => binW_mul2 (by decide)
    have pw : ∀ (s : Store) (y : Int), 0 ≤ y → y < 2147483647 → binW .pow s (.int (y + 1 + (q + 1) * 7919)) (.int 3) = .ok (.int ((y + 1 + (q + 1) * 7919) ^ 3)) s := fun s y q1 q2 => binW_pow (by decide) (by decide) (by omega)
    have sq : ∀ (s : Store) (i : Int), binW .pow s (.int (i % 2147483647 * 48271 + (q + 1))) (.int 2) = .ok (.int ((i % 2147483647 * 48271 + (q + 1)) ^ 2)) s := fun s i => by
      have q1 := Int.emod_nonneg i (b := 2147483647) (by decide)
      have q2 := Int.emod_lt_of_pos i (b := 2147483647) (by decide)
      exact binW_pow (by decide) (by decide) (by omega)
    by_cases hg : g = 0
    · subst hg
      by_cases ha : a < cells.length
      · have ha2 : a.toNat < cells.length := by omega
        obtain ⟨z, hz⟩ : ∃ z, cells[a.toNat]'ha2 = z := ⟨_, rfl⟩
        have hz0 : 0 ≤ z := by rw [← hz]; exact hcs _ (List.getElem_mem ha2)
        by_cases hb : 1000000000000000000 ≤ z
        · have hzp : 0 < z := by omega
          simp [evE, evEs, evP, evC, evI, evT, evS, evSs, startE, bltW, truW, seqW, atW, ixW, isNonW, isRefW, isTupW, isLstW, setIxW, setAll, bindT, Tgt.slots, wipeE, seqK, slcW, cutW, cutIx, idxW, mthW, isiW, kindW, subTy, rngOk, b__law_draw, h1, h2, hs1, hs2, ha0, ha, hz, p18, hb, hzp, binW_mod hm, augW_fdiv hm hm2] at hr
          subst hr
          exact ⟨_, _, _, _, rfl, by omega, Int.ediv_nonneg hz0 (by omega), hx0, hx1⟩
        · have e1 := pw (y := (x * 31 + z) % 2147483647)
          have y0 := Int.emod_nonneg (x * 31 + z) (b := 2147483647) (by decide)
          have y1 := Int.emod_lt_of_pos (x * 31 + z) (b := 2147483647) (by decide)
          simp [evE, evEs, evP, evC, evI, evT, evS, evSs, startE, bltW, truW, seqW, atW, ixW, isNonW, isRefW, isTupW, isLstW, setIxW, setAll, bindT, Tgt.slots, wipeE, seqK, slcW, cutW, cutIx, idxW, mthW, isiW, kindW, subTy, rngOk, b__law_draw, h1, h2, hs1, hs2, ha0, ha, hz, p18, hb, m31, mm, m79, e1, y0, y1, m48, sq, mm2, f64, binW_mod hm] at hr
          subst hr
          exact ⟨_, _, _, _, rfl, by omega, by omega, y0, y1⟩
      · have e1 := fun s => pw s x hx0 hx1
        simp [evE, evEs, evP, evC, evI, evT, evS, evSs, startE, bltW, truW, seqW, atW, ixW, isNonW, isRefW, isTupW, isLstW, setIxW, setAll, bindT, Tgt.slots, wipeE, seqK, slcW, cutW, cutIx, idxW, mthW, isiW, kindW, subTy, rngOk, b__law_draw, h1, h2, hs1, hs2, ha0, ha, m79, mm, e1, m48, sq, mm2, f64, binW_mod hm] at hr
        subst hr
        exact ⟨_, _, _, _, rfl, by omega, by omega, hx0, hx1⟩
    · have hgp : 0 < g := by omega
      simp [evE, evEs, evP, evC, evI, evT, evS, evSs, startE, bltW, truW, seqW, atW, ixW, isNonW, isRefW, isTupW, isLstW, setIxW, setAll, bindT, Tgt.slots, wipeE, seqK, slcW, cutW, cutIx, idxW, mthW, isiW, kindW, subTy, rngOk, b__law_draw, h1, h2, hs1, hs2, hg, hgp, binW_mod hm, augW_fdiv hm hm2] at hr
      subst hr
      exact ⟨_, _, _, _, rfl, by omega, Int.ediv_nonneg hg0 (by omega), hx0, hx1⟩
  obtain ⟨z, a', g', x', e, ha, hg', hx, hx'⟩ := key
  refine ⟨z % m, _, e, Int.emod_nonneg _ (by omega), Int.emod_lt_of_pos _ hm, ⟨c, cells, a', g', q + 1, x', ⟨hs1 _, by rw [hs2]; exact h2, h3, hc0, ha, hg', by omega, hx, hx', hcs⟩, by omega⟩, ⟨by simp, fun i o hi ho => ?_⟩, by simp⟩
  rw [List.getElem?_set_ne (fun e => hi e.symm)]
  exact ho


def stW (s : Int × Int) : W := .tup [.int s.1, .int s.2]
def foldP (n : Int) (told : Int) (steps : List (Int × Int)) : Int := steps.foldl (fun t s => if s.1 ≤ n then s.2 else t) told
theorem fold_last (n : Int) : ∀ (steps : List (Int × Int)) (told : Int), foldP n told steps = ((steps.filterMap fun s => if s.1 ≤ n then some s.2 else none).getLast?).getD told
  | [], told => rfl
  | s :: ss, told => by
    have ih := fold_last n ss
    unfold foldP at ih ⊢
    rw [List.foldl_cons, ih]
    by_cases h : s.1 ≤ n
    · simp [h, List.getLast?_cons]
    · simp [h]
theorem price_loop {k : Nat} {st : Store} {c0 : Option W} {n : Int} : ∀ (steps : List (Int × Int)) (told : Int) (o3 o4 : Option W), ∃ u3 u4,
    forL (fun _ => True) (.tup [3, 4]) (evSs (T k) l1_price_for) (steps.map stW) [c0, some (.int n), some (.int told), o3, o4] st = .nx [c0, some (.int n), some (.int (foldP n told steps)), u3, u4] st
  | [], told, o3, o4 => ⟨o3, o4, by simp [forL, foldP]⟩
  | s :: ss, told, o3, o4 => by
    obtain ⟨u3, u4, e⟩ := price_loop (k := k) (st := st) (c0 := c0) (n := n) ss (if s.1 ≤ n then s.2 else told) (some (.int s.1)) (some (.int s.2))
    refine ⟨u3, u4, ?_⟩
    rw [List.map_cons, forL, if_pos trivial]
    have e1 : evSs (T k) l1_price_for [c0, some (.int n), some (.int told), some (.int s.1), some (.int s.2)] st = .nx [c0, some (.int n), some (.int (if s.1 ≤ n then s.2 else told)), some (.int s.1), some (.int s.2)] st := by
      by_cases h : s.1 ≤ n <;> simp [evE, evEs, evP, evC, evI, evT, evS, evSs, startE, bltW, truW, seqW, atW, ixW, isNonW, isRefW, isTupW, isLstW, setIxW, setAll, bindT, Tgt.slots, wipeE, seqK, slcW, cutW, cutIx, idxW, mthW, isiW, kindW, subTy, rngOk, l1_price_for, h]
    simp only [stW, bindT, setAll, List.set_cons_succ, List.set_cons_zero, e1]
    exact e
abbrev cardW (word : Str) (steps : List (Int × Int)) (extra : Int) : W := .tup [.str word, .tup (steps.map stW), .int extra]
theorem price_s {k : Nat} {st : Store} {word : Str} {steps : List (Int × Int)} {extra n : Int} : T (k + 1) 0 [cardW word steps extra, .int n] st = .ok (.int (foldP n 0 steps)) st := by
  obtain ⟨u3, u4, e⟩ := price_loop (k := k) (st := st) (c0 := some (cardW word steps extra)) (n := n) steps 0 none none
  rw [r_price_for]
  simp [evE, evEs, evP, evC, evI, evT, evS, evSs, startE, bltW, truW, seqW, atW, ixW, isNonW, isRefW, isTupW, isLstW, setIxW, setAll, bindT, Tgt.slots, wipeE, seqK, slcW, cutW, cutIx, idxW, mthW, isiW, kindW, subTy, rngOk, b_price_for, e]
/-- steps: the first one at 1, all from 1 on -/
def StOk (l : List (Int × Int)) : Prop := (∃ z r, l = (1, z) :: r) ∧ (∀ s ∈ l, 1 ≤ s.1)
theorem four {st : Store} {v a b c d : Int} (h0 : 0 ≤ v) (h1 : v < 4) {q : Int → Prop} (ha : q a) (hb : q b) (hc : q c) (hd : q d) : ∃ z, idxW st (.tup [.int a, .int b, .int c, .int d]) (.int v) = some (.int z) ∧ q z := by
  have hv : v = 0 ∨ v = 1 ∨ v = 2 ∨ v = 3 := by omega
  rcases hv with e | e | e | e <;> subst e
  · exact ⟨a, rfl, ha⟩
  · exact ⟨b, rfl, hb⟩
  · exact ⟨c, rfl, hc⟩
  · exact ⟨d, rfl, hd⟩
theorem step_s {k p a : Nat} {s : Store} {n : Int} {l : List (Int × Int)} {o2 o3 o4 o5 : Option W} (hp : LPen s p n) (hn : n < 2 ^ 30) (ha : s[a]? = some (.lst (l.map stW))) (hap : a ≠ p) (ha1 : a ≠ 1) (hl : l.length ≤ 100) (hP : StOk l) :
    ∃ s' x u3 u4, evSs (T (k + 1)) l1__law_card [some (.ref p), some (.ref a), o2, o3, o4, o5] s = .nx [some (.ref p), some (.ref a), o2, u3, u4, o5] s' ∧ LPen s' p (n + 10) ∧ s'[a]? = some (.lst ((l ++ [x]).map stW)) ∧ StOk (l ++ [x]) := by
  have p11 : ∀ s : Store, binW .pow s (.int 10) (.int 11) = .ok (.int 100000000000) s := fun s => binW_pow10 s (by decide) (by decide)
  obtain ⟨v1, s1, e1, a1, b1, p1, x1, _⟩ := draw_s (k := k) hp (m := 4) (by omega) (by decide) (by decide)
  obtain ⟨far, f1, f2⟩ := four (st := s1) (q := fun z => 1 ≤ z ∧ z ≤ 100000000000) a1 b1 (a := 1) (b := 2) (c := 5) (d := 100000000000) (by decide) (by decide) (by decide) (by decide)
  obtain ⟨v2, s2, e2, a2, b2, p2, x2, _⟩ := draw_s (k := k) p1 (m := 1000001) (by omega) (by decide) (by decide)
  obtain ⟨v3, s3, e3, a3, b3, p3, x3, _⟩ := draw_s (k := k) p2 (m := 100) (by omega) (by decide) (by decide)
  obtain ⟨v4, s4, e4, a4, b4, p4, x4, _⟩ := draw_s (k := k) p3 (m := 4) (by omega) (by decide) (by decide)
  obtain ⟨pr, g1, _⟩ := four (st := s4) (q := fun _ => True) a4 b4 (a := 0) (b := 1000000) (c := v2) (d := v3) trivial trivial trivial trivial
  obtain ⟨v5, s5, e5, a5, b5, p5, x5, _⟩ := draw_s (k := k) p4 (m := far) (by omega) (by omega) (by omega)
  have h4 : s4[a]? = some (.lst (l.map stW)) := x4.at_ _ _ hap (x3.at_ _ _ hap (x2.at_ _ _ hap (x1.at_ _ _ hap ha)))
  have h5 := x5.at_ _ _ hap h4
  have hlen5 := (List.getElem?_eq_some_iff.mp h5).1
  obtain ⟨⟨z, r, hz⟩, hall⟩ := hP
  have hlen1 : 1 ≤ l.length := by rw [hz]; simp
  obtain ⟨y, hy⟩ : ∃ y, l[l.length - 1]'(by omega) = y := ⟨_, rfl⟩
  have hy1 : 1 ≤ y.1 := by rw [← hy]; exact hall _ (List.getElem_mem _)
  have hy2 : l[l.length - 1]? = some y := by rw [List.getElem?_eq_getElem (by omega), hy]
  have i1 : idxW s4 (.ref a) (.int (-1)) = some (stW y) := by
    have q1 : -(l.length : Int) ≤ -1 := by omega
    have q2 : ((-1 : Int) + (l.length : Int)).toNat = l.length - 1 := by omega
    have q3 : (1 : Int) ≤ (l.length : Int) := by omega
    simp [idxW, seqW, atW, ixW, h4, q1, q2, q3, hy2, hlen1]
  have i2 : ∀ s : Store, idxW s (stW y) (.int 0) = some (.int y.1) := fun s => rfl
  have hll : l.length < line := by unfold line; omega
  have hil : isLstW s4 (.ref a) = true := by simp [isLstW, h4]
  have em : mthW .append s5 (.ref a) [.tup [.int (y.1 + 1 + v5), .int pr]] = .ok .non (s5.set a (.lst ((l ++ [(y.1 + 1 + v5, pr)]).map stW))) := by
    simp [mthW, h5, hll, stW]
  refine ⟨s5.set a (.lst ((l ++ [(y.1 + 1 + v5, pr)]).map stW)), (y.1 + 1 + v5, pr), some (.int far), some (.int pr), ?_, (p5.set hap ha1 _).le (by omega), by simp [hlen5], ⟨⟨z, r ++ [(y.1 + 1 + v5, pr)], by rw [hz]; rfl⟩, fun s hs => ?_⟩⟩
  · simp [evE, evEs, evS, evSs, l1__law_card, e1, e2, e3, e4, e5, p11, f1, g1, hil, i1, i2, em]
  · rcases List.mem_append.mp hs with h | h
    · exact hall s h
    · rw [List.mem_singleton] at h
      subst h
      show 1 ≤ y.1 + 1 + v5
      omega
def CardOk (w : W) : Prop := ∃ word steps extra, w = cardW word steps extra ∧ StOk steps ∧ steps.length ≤ 7 ∧ 0 ≤ extra ∧ extra ≤ 300
theorem card_s {k p : Nat} {st : Store} {n : Int} (hp : LPen st p n) (hn : n < 2 ^ 29) : ∃ w st', T (k + 2) 4 [.ref p] st = .ok w st' ∧ CardOk w ∧ LPen st' p (n + 100) := by
  obtain ⟨v1, s1, e1, a1, b1, p1, x1, _⟩ := draw_s (k := k) hp (m := 1000001) (by omega) (by decide) (by decide)
  obtain ⟨v2, s2, e2, a2, b2, p2, x2, _⟩ := draw_s (k := k) (p1.push (.lst [stW (1, v1)])) (m := 6) (by omega) (by decide) (by decide)
  have hpl := p1.lt
  have hpb := p1.big
  have h2 : s2[s1.length]? = some (.lst ([(1, v1)].map stW)) := x2.at_ _ _ (by omega) (by simp)
  have hf : ∃ o2 o3 o4 s3 l, forL (fun _ => True) (.one 2) (evSs (T (k + 1)) l1__law_card) (rangeW 0 v2) [some (.ref p), some (.ref s1.length), none, none, none, none] s2
      = .nx [some (.ref p), some (.ref s1.length), o2, o3, o4, none] s3 ∧ LPen s3 p (n + 90) ∧ s3[s1.length]? = some (.lst (l.map stW)) ∧ StOk l ∧ l.length ≤ 7 := by
    refine forL_ok (fun rem e s => ∃ o2 o3 o4 l, e = [some (.ref p), some (.ref s1.length), o2, o3, o4, none] ∧ LPen s p (n + 90 - 10 * (rem.length : Int)) ∧ s[s1.length]? = some (.lst (l.map stW)) ∧ StOk l ∧ l.length + rem.length ≤ 7)
      (fun r => ∃ o2 o3 o4 s3 l, r = .nx [some (.ref p), some (.ref s1.length), o2, o3, o4, none] s3 ∧ LPen s3 p (n + 90) ∧ s3[s1.length]? = some (.lst (l.map stW)) ∧ StOk l ∧ l.length ≤ 7) ?_ ?_ (rangeW 0 v2) _ _ ⟨none, none, none, [(1, v1)], rfl, p2.le (by rw [len_rangeW]; omega), h2, ⟨⟨v1, [], rfl⟩, fun s hs => by rw [List.mem_singleton] at hs; subst hs; exact Int.le_refl 1⟩, by rw [len_rangeW]; simp; omega⟩
    · intro z rem e s ⟨o2, o3, o4, l, q1, q2, q3, q4, q5⟩
      subst q1
      rw [List.length_cons] at q2 q5
      obtain ⟨s', x, u3, u4, r1, r2, r3, r4⟩ := step_s (k := k) (o2 := some z) (o3 := o3) (o4 := o4) (o5 := none) q2 (by omega) q3 (by omega) (by omega) (by omega) q4
      exact ⟨trivial, _, rfl, .inl ⟨_, s', .inl r1, _, _, _, l ++ [x], rfl, r2.le (by omega), r3, r4, by rw [List.length_append, List.length_singleton]; omega⟩⟩
    · intro e s ⟨o2, o3, o4, l, q1, q2, q3, q4, q5⟩
      exact ⟨trivial, o2, o3, o4, s, l, by rw [q1], by simpa using q2, q3, q4, by simpa using q5⟩
  obtain ⟨o2, o3, o4, s3, l, ef, p3, h3, hl, hl7⟩ := hf
  obtain ⟨v4, s4, e4, a4, b4, p4, x4, _⟩ := draw_s (k := k) p3 (m := 301) (by omega) (by decide) (by decide)
  obtain ⟨v5, s5, e5, a5, b5, p5, x5, _⟩ := draw_s (k := k) p4 (m := 3) (by omega) (by decide) (by decide)
  obtain ⟨v6, s6, e6, a6, b6, p6, x6, _⟩ := draw_s (k := k) p5 (m := 2) (by omega) (by decide) (by decide)
  have g5 : ∃ z, idxW s5 (.tup [.int 0, .int 300, .int v4]) (.int v5) = some (.int z) ∧ 0 ≤ z ∧ z ≤ 300 := by
    have hv : v5 = 0 ∨ v5 = 1 ∨ v5 = 2 := by omega
    rcases hv with e | e | e <;> subst e
    · exact ⟨0, rfl, by decide, by decide⟩
    · exact ⟨300, rfl, by decide, by decide⟩
    · exact ⟨v4, rfl, by omega, by omega⟩
  have g6 : ∃ z, idxW s6 (.tup [.str "each", .str "all"]) (.int v6) = some (.str z) := by
    have hv : v6 = 0 ∨ v6 = 1 := by omega
    rcases hv with e | e <;> subst e <;> exact ⟨_, rfl⟩
  obtain ⟨ex, g5, hex0, hex1⟩ := g5
  obtain ⟨wd, g6⟩ := g6
  have h6 := x6.at_ _ _ (by omega) (x5.at_ _ _ (by omega) (x4.at_ _ _ (by omega) h3))
  have et : bltW .tuple s6 [.ref s1.length] = .ok (.tup (l.map stW)) s6 := by simp [bltW, seqW, h6]
  refine ⟨cardW wd l ex, s6, ?_, ⟨wd, l, ex, rfl, hl, hl7, hex0, hex1⟩, p6.le (by omega)⟩
  rw [r__law_card]
  simp only [stW] at e2
  have ir : rngOk v2 := by unfold rngOk; omega
  simp [evE, evEs, evI, evS, evSs, b__law_card, e1, e2, ir, ef, e4, g5, e5, e6, g6, et]
def D42 (n : Int) (steps : List (Int × Int)) : List Int := steps.filterMap fun s => if s.1 ≤ n then some s.2 else none
theorem D42_last {n : Int} {steps : List (Int × Int)} (hs : StOk steps) (hn : 1 ≤ n) : 1 ≤ (D42 n steps).length ∧ (D42 n steps)[(D42 n steps).length - 1]? = some (foldP n 0 steps) := by
  obtain ⟨⟨z0, r, hz⟩, hall⟩ := hs
  have hne : 1 ≤ (D42 n steps).length := by
    unfold D42
    rw [hz, List.filterMap_cons]
    simp [hn]
  refine ⟨hne, ?_⟩
  obtain ⟨y, hy⟩ : ∃ y, (D42 n steps)[(D42 n steps).length - 1]'(by omega) = y := ⟨_, rfl⟩
  have hy2 : (D42 n steps)[(D42 n steps).length - 1]? = some y := by rw [List.getElem?_eq_getElem (by omega), hy]
  have hfold : foldP n 0 steps = y := by
    rw [fold_last]
    show ((D42 n steps).getLast?).getD 0 = y
    rw [List.getLast?_eq_getElem?, hy2]
    rfl
  rw [hfold, hy2]
def g42 (n : Int) : W → Option W
  | .tup [.int f, .int pr] => if f ≤ n then some (.int pr) else none
  | _ => none
theorem D42_comp {n : Int} {steps : List (Int × Int)} : (steps.map stW).filterMap (g42 n) = (D42 n steps).map W.int := by
  unfold D42
  rw [List.filterMap_map, List.map_filterMap]
  congr 1
  funext s
  by_cases h : s.1 ≤ n <;> simp [stW, h, g42]
theorem D42_idx {st : Store} {n : Int} {steps : List (Int × Int)} (hs : StOk steps) (hn : 1 ≤ n) : idxW (st ++ [.lst ((D42 n steps).map W.int)]) (.ref st.length) (.int (-1)) = some (.int (foldP n 0 steps)) := by
  obtain ⟨hne, hy2⟩ := D42_last hs hn
  have q1 : -((D42 n steps).length : Int) ≤ -1 := by omega
  have q2 : ((-1 : Int) + ((D42 n steps).length : Int)).toNat = (D42 n steps).length - 1 := by omega
  have q3 : (1 : Int) ≤ ((D42 n steps).length : Int) := by omega
  simp [idxW, seqW, atW, ixW, q1, q2, q3, hy2, hne]


abbrev abc : Str := "abcdefghijklmnopqrstuvwxyz"
theorem abc_len : abc.cps.toList.length = 26 := by decide +kernel
theorem abc_ok : ∀ c ∈ abc.cps.toList, c < 0x110000 := by decide +kernel
theorem abc_idx {st : Store} {v : Int} (h0 : 0 ≤ v) (h1 : v < 26) : ∃ c, idxW st (.str abc) (.int v) = some (.str ⟨#[c]⟩) ∧ c < 0x110000 := by
  have hl : abc.length ≤ line := by decide +kernel
  have hv : v.toNat < abc.cps.toList.length := by rw [abc_len]; omega
  refine ⟨abc.cps.toList[v.toNat], ?_, abc_ok _ (List.getElem_mem hv)⟩
  have e1 : ixW abc.cps.toList.length v = some v.toNat := ixW_ok h0 (by rw [abc_len]; omega)
  have e2 : abc.cps.toList[v.toNat]? = some abc.cps.toList[v.toNat] := List.getElem?_eq_getElem hv
  show (if abc.length ≤ line then (match ixW abc.cps.toList.length v with
      | some j => match abc.cps.toList[j]? with
        | some c => some (W.str ⟨#[c]⟩)
        | none => none
      | none => none) else none) = _
  rw [if_pos hl, e1]
  simp only [e2]
theorem strs_map : ∀ cs : List Nat, strsW (cs.map fun c => W.str ⟨#[c]⟩) = some (cs.map fun c => (⟨#[c]⟩ : Str))
  | [] => rfl
  | c :: cs => by
    rw [List.map_cons, strsW, strs_map cs]
    rfl
theorem join_ok (sep : Str) (hs : PyData.strOk sep = true) : ∀ l : List Str, (∀ t ∈ l, PyData.strOk t = true) → PyData.strOk (Str.join sep l) = true
  | [], _ => by
    show PyData.strOk Str.empty = true
    decide +kernel
  | [x], h => h x (List.mem_cons_self ..)
  | x :: y :: r, h => strOk_append (strOk_append (h x (List.mem_cons_self ..)) hs) (join_ok sep hs (y :: r) fun t ht => h t (List.mem_cons_of_mem _ ht))
theorem join_s {st : Store} {n : Nat} {cs : List Nat} (h : st[n]? = some (.lst (cs.map fun c => W.str ⟨#[c]⟩))) (hl : cs.length ≤ 100) (hc : ∀ c ∈ cs, c < 0x110000) : ∃ x, joinW st "" (.ref n) = .ok (.str x) st := by
  have e0 : ("" : Str).length = 0 := by decide +kernel
  have hsum : ((cs.map fun c => (⟨#[c]⟩ : Str)).map (·.length)).sum = cs.length := by
    rw [List.map_map]
    clear h hl hc
    induction cs with
    | nil => rfl
    | cons c cs ih =>
      rw [List.map_cons, List.sum_cons, ih, List.length_cons, Nat.add_comm]
      rfl
  have h1 : ((cs.map fun c => (⟨#[c]⟩ : Str)).map (·.length)).sum + (cs.map fun c => (⟨#[c]⟩ : Str)).length * ("" : Str).length ≤ line := by
    rw [hsum, e0, Nat.mul_zero]
    unfold line
    omega
  have ej := TL.join_eq "" (cs.map fun c => (⟨#[c]⟩ : Str))
  have h2 := StrLaws.join_length_le "" (cs.map fun c => (⟨#[c]⟩ : Str))
  rw [← ej] at h2
  have h3 : PyData.strOk (Txt.join "" (cs.map fun c => (⟨#[c]⟩ : Str))) = true := by
    rw [ej]
    refine join_ok _ (by decide +kernel) _ fun t ht => ?_
    obtain ⟨c, hm, rfl⟩ := List.mem_map.mp ht
    have := hc c hm
    show Array.all #[c] (fun x => decide (x < 0x110000)) = true
    simp [this]
  refine ⟨Txt.join "" (cs.map fun c => (⟨#[c]⟩ : Str)), ?_⟩
  unfold joinW
  simp only [h, strs_map]
  exact if_pos ⟨h1, Nat.le_trans h2 h1, h3⟩
theorem name_s {k p : Nat} {st : Store} {n : Int} (hp : LPen st p n) (hn : n < 2 ^ 30) : ∃ x st', T (k + 2) 5 [.ref p] st = .ok (.str x) st' ∧ LPen st' p (n + 20) ∧ Ext p st st' := by
  obtain ⟨v1, s1, e1, a1, b1, p1, x1, _⟩ := draw_s (k := k) hp (m := 8) (by omega) (by decide) (by decide)
  have key := cmpL_ok (keep := fun _ => True) (t := .one 2) (b := cb (T (k + 1)) c1__law_name e1__law_name) (env := [some (.ref p), some (.str abc), none])
    (fun rem acc s => ∃ cs : List Nat, acc = cs.map (fun c => W.str ⟨#[c]⟩) ∧ cs.length + rem.length ≤ 8 ∧ (∀ c ∈ cs, c < 0x110000) ∧ LPen s p (n + 10 - (rem.length : Int)) ∧ Ext p s1 s) ?_ (fun _ _ _ => trivial) (rangeW 0 (1 + v1)) [] s1 ⟨[], rfl, by rw [len_rangeW]; simp; omega, (fun c hc => by cases hc), p1.le (by rw [len_rangeW]; omega), Ext.refl p s1⟩
  · obtain ⟨out, s2, e2, cs, rfl, hl, hc, p2, x2⟩ := key
    delta cb at e2
    obtain ⟨x, ej⟩ := join_s (st := s2 ++ [.lst (cs.map fun c => W.str ⟨#[c]⟩)]) (n := s2.length) (cs := cs) (by simp) (by simp at hl; omega) hc
    refine ⟨x, s2 ++ [.lst (cs.map fun c => W.str ⟨#[c]⟩)], ?_, (p2.push _).le (by simp only [List.length_nil]; omega), (x1.trans x2).push _⟩
    have ir : rngOk (1 + v1) := by unfold rngOk; omega
    have ir0 : rngOk (0 : Int) := by decide
    rw [r__law_name]
    simp [evE, evEs, evI, evS, evSs, b__law_name, e1, ir, e2, ej, Tgt.slots, wipeE]
  · intro w ws acc s ⟨cs, h1, h2, h3, h4, h5⟩
    subst h1
    rw [List.length_cons] at h2 h4
    obtain ⟨v, s', q, a, b, p', x', _⟩ := draw_s (k := k) h4 (m := 26) (by omega) (by decide) (by decide)
    obtain ⟨c, hc, hc2⟩ := abc_idx (st := s') a b
    refine ⟨trivial, _, rfl, .inl ⟨.str ⟨#[c]⟩, s', ?_, by rw [List.length_map]; unfold line; omega, cs ++ [c], by simp, by simp; omega, fun d hd => ?_, p'.le (by omega), h5.trans x'⟩⟩
    · simp [evE, evEs, evC, cb, c1__law_name, e1__law_name, q, hc]
    · rcases List.mem_append.mp hd with hd | hd
      · exact h3 d hd
      · rw [List.mem_singleton] at hd
        subst hd
        exact hc2


def PlOk (w : W) : Prop := w = .non ∨ ∃ ws, w = .tup ws
def NotOk (w : W) : Prop := ∃ a b lines place apart, w = .tup [.str a, .str b, .int lines, place, .bl apart] ∧ 1 ≤ lines ∧ lines ≤ 40 ∧ PlOk place
theorem notice_s {k p : Nat} {st : Store} {n : Int} (hp : LPen st p n) (hn : n < 2 ^ 29) : ∃ w st', T (k + 3) 6 [.ref p] st = .ok w st' ∧ NotOk w ∧ LPen st' p (n + 100) := by
  obtain ⟨v1, s1, e1, a1, b1, p1, x1, _⟩ := draw_s (k := k + 1) hp (m := 4) (by omega) (by decide) (by decide)
  obtain ⟨v2, s2, e2, a2, b2, p2, x2, _⟩ := draw_s (k := k + 1) p1 (m := 4) (by omega) (by decide) (by decide)
  obtain ⟨v3, s3, e3, a3, b3, p3, x3, _⟩ := draw_s (k := k + 1) p2 (m := 40) (by omega) (by decide) (by decide)
  obtain ⟨v4, s4, e4, a4, b4, p4, x4, _⟩ := draw_s (k := k + 1) p3 (m := 5) (by omega) (by decide) (by decide)
  obtain ⟨v5, s5, e5, a5, b5, p5, x5, _⟩ := draw_s (k := k + 1) p4 (m := 3) (by omega) (by decide) (by decide)
  obtain ⟨y1, s6, e6, p6, x6⟩ := name_s (k := k) p5 (by omega)
  obtain ⟨y2, s7, e7, p7, x7⟩ := name_s (k := k) p6 (by omega)
  obtain ⟨v8, s8, e8, a8, b8, p8, x8, _⟩ := draw_s (k := k + 1) p7 (m := 2) (by omega) (by decide) (by decide)
  have g2 : ∃ z, idxW s2 (.tup [.non, .tup [.str "column", .int v1], .tup [.str "top", .int v1], .tup [.str "top", .non]]) (.int v2) = some z ∧ PlOk z := by
    have hv : v2 = 0 ∨ v2 = 1 ∨ v2 = 2 ∨ v2 = 3 := by omega
    rcases hv with e | e | e | e <;> subst e
    · exact ⟨_, rfl, .inl rfl⟩
    · exact ⟨_, rfl, .inr ⟨_, rfl⟩⟩
    · exact ⟨_, rfl, .inr ⟨_, rfl⟩⟩
    · exact ⟨_, rfl, .inr ⟨_, rfl⟩⟩
  have g5 : ∃ z, idxW s5 (.tup [.int (1 + v3), .int 40, .int (1 + v4)]) (.int v5) = some (.int z) ∧ 1 ≤ z ∧ z ≤ 40 := by
    have hv : v5 = 0 ∨ v5 = 1 ∨ v5 = 2 := by omega
    rcases hv with e | e | e <;> subst e
    · exact ⟨1 + v3, rfl, by omega, by omega⟩
    · exact ⟨40, rfl, by omega, by omega⟩
    · exact ⟨1 + v4, rfl, by omega, by omega⟩
  obtain ⟨pl, g2, hpl⟩ := g2
  obtain ⟨ln, g5, hl0, hl1⟩ := g5
  refine ⟨.tup [.str y1, .str y2, .int ln, pl, .bl (decide (v8 = 1))], s8, ?_, ⟨_, _, _, _, _, rfl, hl0, hl1, hpl⟩, p8.le (by omega)⟩
  rw [r__law_notice]
  simp [evE, evEs, evS, evSs, b__law_notice, e1, e2, g2, e3, e4, e5, g5, e6, e7, e8]
theorem right_s {k : Nat} {st : Store} {word : Str} {steps : List (Int × Int)} {extra n : Int} {w : W} (hs : StOk steps) (hl7 : steps.length ≤ 7) (hn : 1 ≤ n) (he0 : 0 ≤ extra) (he1 : extra ≤ 300) (hw : NotOk w) :
    ∃ st', T (k + 3) 8 [cardW word steps extra, .int n, w] st = .ok (.bl true) st' ∧ Psh st st' := by
  obtain ⟨a, b, lines, place, apart, rfl, hl0, hl1, hpl⟩ := hw
  obtain ⟨P, hP⟩ : ∃ P, P = foldP n 0 steps := ⟨_, rfl⟩
  have ep := price_s (k := k) (st := st) (word := word) (steps := steps) (extra := extra) (n := n)
  have ec := cmpL_pure (keep := fun _ => True) (t := .one 4) (b := cb (T (k + 1)) c1__law_due e1__law_due) (env := [some (cardW word steps extra), some (.int n), some (.tup [.str a, .str b, .int lines, place, .bl apart]), none, none, none, none]) (st := st)
    (g42 n) trivial (steps.map stW) [] (by simp; unfold line; omega) (fun w hw => by
        obtain ⟨s, _, rfl⟩ := List.mem_map.mp hw
        refine ⟨_, rfl, ?_⟩
        have i0 : ∀ s' : Store, idxW s' (stW s) (.int 0) = some (.int s.1) := fun _ => rfl
        have i1 : ∀ s' : Store, idxW s' (stW s) (.int 1) = some (.int s.2) := fun _ => rfl
        by_cases h : s.1 ≤ n <;> simp [evE, evC, truW, cb, c1__law_due, e1__law_due, i0, i1, h] <;> simp [stW, h, g42])
  rw [D42_comp, List.nil_append] at ec
  delta cb at ec
  have ei := D42_idx (st := st) hs hn
  rw [← hP] at ep ei
  have ix : ∀ s : Store, idxW s (cardW word steps extra) (.int 1) = some (.tup (steps.map stW)) := fun s => rfl
  have ix2 : ∀ s : Store, idxW s (cardW word steps extra) (.int 2) = some (.int extra) := fun s => rfl
  have ml : ∀ (s : Store) (j : Int), binW .mul s (.int lines) (.int j) = .ok (.int (lines * j)) s := fun s j => binW_mul1 (by omega)
  have me : ∀ (s : Store) (j : Int), binW .mul s (.int j) (.int extra) = .ok (.int (j * extra)) s := fun s j => binW_mul2 (by omega)
  have mh : ∀ (s : Store) (j : Int), binW .mul s (.int j) (.int 100) = .ok (.int (j * 100)) s := fun s j => binW_mul2 (by decide)
  have mx : ∀ (s : Store) (j : Int), binW .mul s (.int j) (.int (100 + extra)) = .ok (.int (j * (100 + extra))) s := fun s j => binW_mul2 (by omega)
  have fd : ∀ (s : Store) (j : Int), binW .fdiv s (.int j) (.int 100) = .ok (.int (j / 100)) s := fun s j => binW_fdiv (by decide) (by decide)
  have md : ∀ (s : Store) (j : Int), binW .mod s (.int j) (.int 100) = .ok (.int (j % 100)) s := fun s j => binW_mod (by decide)
  obtain ⟨wh, hwh⟩ : ∃ wh, wh = lines * P := ⟨_, rfl⟩
  have hc : ∃ c, T (k + 2) 1 [cardW word steps extra, .int n, .tup [.str a, .str b, .int lines, place, .bl apart]] st = .ok (.int c) st ∧ (∃ st', T (k + 2) 7 [cardW word steps extra, .int n, .tup [.str a, .str b, .int lines, place, .bl apart]] st = .ok (.int c) st' ∧ Psh st st') := by
    rcases hpl with rfl | ⟨ws, rfl⟩
    · have i2 : ∀ s : Store, idxW s (.tup [.str a, .str b, .int lines, .non, .bl apart]) (.int 2) = some (.int lines) := fun _ => rfl
      have i3 : ∀ s : Store, idxW s (.tup [.str a, .str b, .int lines, .non, .bl apart]) (.int 3) = some .non := fun _ => rfl
      have hcc : (wh * 100 + 50) / 100 = wh := by omega
      refine ⟨wh, ?_, st ++ [.lst ((D42 n steps).map W.int)], ?_, ⟨_, rfl⟩⟩
      · rw [r_cost]
        simp [evE, evEs, evT, evS, evSs, truW, isNonW, b_cost, i2, i3, ep, ml, ← hwh, mh, fd, hcc]
      · rw [r__law_due]
        simp [evE, evEs, evI, evT, evS, evSs, seqK, Tgt.slots, wipeE, truW, isNonW, b__law_due, ix, ec, ei, i2, i3, ml, ← hwh]
    · have i2 : ∀ s : Store, idxW s (.tup [.str a, .str b, .int lines, .tup ws, .bl apart]) (.int 2) = some (.int lines) := fun _ => rfl
      have i3 : ∀ s : Store, idxW s (.tup [.str a, .str b, .int lines, .tup ws, .bl apart]) (.int 3) = some (.tup ws) := fun _ => rfl
      obtain ⟨mo, hmo⟩ : ∃ mo, mo = wh * extra := ⟨_, rfl⟩
      have hcc : (wh * (100 + extra) + 50) / 100 = wh + mo / 100 + (if 50 ≤ mo % 100 then 1 else 0) := by
        rw [Int.mul_add, ← hmo]
        split <;> omega
      refine ⟨wh + mo / 100 + (if 50 ≤ mo % 100 then 1 else 0), ?_, st ++ [.lst ((D42 n steps).map W.int)], ?_, ⟨_, rfl⟩⟩
      · rw [r_cost]
        simp [evE, evEs, evT, evS, evSs, truW, isNonW, b_cost, i2, i3, ix2, ep, ml, ← hwh, mx, fd, hcc]
      · rw [r__law_due]
        simp [evE, evEs, evI, evT, evS, evSs, seqK, Tgt.slots, wipeE, truW, isNonW, bltW, b__law_due, ix, ix2, ec, ei, i2, i3, ml, ← hwh, me, ← hmo, fd, md]
  obtain ⟨c, c1, st', c2, x⟩ := hc
  refine ⟨st', ?_, x⟩
  rw [r__law_right]
  simp [evE, evEs, evS, evSs, truW, isiW, kindW, subTy, b__law_right, c1, c2]
theorem walk_t {s0 : Store} {l : List W} {P : W → Prop} {E : EV.Env → Prop} {t : Tgt} {b : EV.Env → Store → SR} {env : EV.Env} (hP : ∀ y ∈ l, P y)
    (hb : ∀ (y : W) (e : EV.Env) (s : Store), P y → E e → ∃ e1 e' s', bindT t y e = some e1 ∧ b e1 s = .nx e' s' ∧ E e' ∧ Psh s s') (hn : E env) :
    ∃ env' s, forL (fun _ => True) t b l env s0 = .nx env' s ∧ E env' ∧ Psh s0 s := by
  refine forL_ok (fun rem e s => Psh s0 s ∧ E e ∧ ∀ y ∈ rem, P y) (fun r => ∃ env' s, r = .nx env' s ∧ E env' ∧ Psh s0 s) ?_ ?_ l _ _ ⟨Psh.refl _, hn, hP⟩
  · intro z rem e s ⟨h1, h2, h4⟩
    obtain ⟨e1, e', s', q1, q2, q3, q5⟩ := hb z e s (h4 z (List.mem_cons_self ..)) h2
    exact ⟨trivial, e1, q1, .inl ⟨e', s', .inl q2, h1.trans q5, q3, fun y hy => h4 y (List.mem_cons_of_mem _ hy)⟩⟩
  · intro e s ⟨h1, h2, _⟩
    exact ⟨trivial, e, s, rfl, h2, h1⟩
theorem law_run (ns : List Int) (h : ns.length ≤ 63) : ∃ st, EV.run (tbOf I) 200 9 [.fls (ns.map W.int)] [] = .ok (.bl true) st := by
  obtain ⟨p, st0, e0, p0⟩ := source_s (k := 198) h
  have p39 : ∀ s : Store, binW .pow s (.int 10) (.int 39) = .ok (.int 1000000000000000000000000000000000000000) s := fun s => binW_pow10 s (by decide) (by decide)
  have hf : ∃ e2 e3 e4 e5 e6 e7 s, forL (fun _ => True) (.one 2) (evSs (T 199) l3_law) (rangeW 0 12) [some (.fls (ns.map W.int)), some (.ref p), none, none, none, none, none, none] st0 = .nx [some (.fls (ns.map W.int)), some (.ref p), e2, e3, e4, e5, e6, e7] s ∧ LPen s p 20000 := by
    refine forL_ok (fun rem e s => (∃ e2 e3 e4 e5 e6 e7, e = [some (.fls (ns.map W.int)), some (.ref p), e2, e3, e4, e5, e6, e7]) ∧ LPen s p (20000 - 1000 * (rem.length : Int)) ∧ rem.length ≤ 12) (fun r => ∃ e2 e3 e4 e5 e6 e7 s, r = .nx [some (.fls (ns.map W.int)), some (.ref p), e2, e3, e4, e5, e6, e7] s ∧ LPen s p 20000) ?_ ?_ (rangeW 0 12) _ _ ⟨⟨_, _, _, _, _, _, rfl⟩, p0.le (by rw [len_rangeW]; decide), by rw [len_rangeW]; decide⟩
    · intro z rem e s ⟨⟨e2, e3, e4, e5, e6, e7, q0⟩, q1, q2⟩
      subst q0
      rw [List.length_cons] at q1 q2
      obtain ⟨w, s1, c1, ⟨word, steps, extra, rfl, hst, hl7, he0, he1⟩, p1⟩ := card_s (k := 197) q1 (by omega)
      obtain ⟨nt, s2, c2, hnt, p2⟩ := notice_s (k := 196) p1 (by omega)
      obtain ⟨env', s3, c3, ⟨f5, f6, he⟩, x3⟩ := walk_t (s0 := s2) (l := steps.map stW) (P := fun y => ∃ s : Int × Int, y = stW s ∧ 1 ≤ s.1) (E := fun e => ∃ f5 f6, e = [some (.fls (ns.map W.int)), some (.ref p), some z, some (cardW word steps extra), some nt, f5, f6, e7]) (t := .one 5) (b := evSs (T 199) l2_law) (env := [some (.fls (ns.map W.int)), some (.ref p), some z, some (cardW word steps extra), some nt, e5, e6, e7])
        (fun y hy => by
          obtain ⟨i, hi, rfl⟩ := List.mem_map.mp hy
          exact ⟨i, rfl, hst.2 i hi⟩)
        (fun y e s ⟨i, hy, hi⟩ ⟨f5, f6, he⟩ => by
          subst hy he
          obtain ⟨env2, s4, c4, ⟨f6', he⟩, x4⟩ := walk_t (s0 := s) (l := [.int i.1, .int (i.1 + 1), .int (i.1 + 1000000000000000000000000000000000000000)]) (P := fun y => ∃ j, y = .int j ∧ 1 ≤ j) (E := fun e => ∃ f6, e = [some (.fls (ns.map W.int)), some (.ref p), some z, some (cardW word steps extra), some nt, some (stW i), f6, e7]) (t := .one 6) (b := evSs (T 199) l1_law) (env := [some (.fls (ns.map W.int)), some (.ref p), some z, some (cardW word steps extra), some nt, some (stW i), f6, e7])
            (fun y hy => by
              simp at hy
              rcases hy with hy | hy | hy
              · exact ⟨_, hy, hi⟩
              · exact ⟨_, hy, by omega⟩
              · exact ⟨_, hy, by omega⟩)
            (fun y e s ⟨j, hy, hj⟩ ⟨f6, he⟩ => by
              subst hy he
              obtain ⟨s', r1, r2⟩ := right_s (k := 196) (st := s) (word := word) (steps := steps) (extra := extra) (n := j) (w := nt) hst hl7 hj he0 he1 hnt
              exact ⟨_, [some (.fls (ns.map W.int)), some (.ref p), some z, some (cardW word steps extra), some nt, some (stW i), some (.int j), e7], s', rfl, by simp [evE, evEs, evT, evS, evSs, truW, l1_law, r1], ⟨_, rfl⟩, r2⟩) ⟨_, rfl⟩
          subst he
          have i0 : ∀ s' : Store, idxW s' (stW i) (.int 0) = some (.int i.1) := fun _ => rfl
          exact ⟨_, [some (.fls (ns.map W.int)), some (.ref p), some z, some (cardW word steps extra), some nt, some (stW i), f6', e7], s4, rfl, by simp [evE, evEs, evI, evS, evSs, seqK, l2_law, i0, p39, c4], ⟨_, _, rfl⟩, x4⟩) ⟨_, _, rfl⟩
      subst he
      have ix : ∀ s : Store, idxW s (cardW word steps extra) (.int 1) = some (.tup (steps.map stW)) := fun s => rfl
      refine ⟨trivial, _, rfl, .inl ⟨[some (.fls (ns.map W.int)), some (.ref p), some z, some (cardW word steps extra), some nt, f5, f6, e7], s3, .inl ?_, ⟨_, _, _, _, _, _, rfl⟩, (p2.psh x3).le (by omega), by omega⟩⟩
      simp [evE, evEs, evI, evS, evSs, seqK, l3_law, c1, c2, ix, c3]
    · intro e s ⟨⟨e2, e3, e4, e5, e6, e7, q0⟩, q1, q2⟩
      exact ⟨trivial, e2, e3, e4, e5, e6, e7, s, by rw [q0], by simpa using q1⟩
  obtain ⟨e2, e3, e4, e5, e6, e7, s, ef, p1⟩ := hf
  have m10 : ∀ (s : Store) (i : Int), binW .mul s (.int 10) (.int i) = .ok (.int (10 * i)) s := fun s i => binW_mul1 (by decide)
  have m2 : ∀ (s : Store) (i : Int), binW .mul s (.int 2) (.int i) = .ok (.int (2 * i)) s := fun s i => binW_mul1 (by decide)
  have hg : ∃ e s', forL (fun _ => True) (.one 2) (evSs (T 199) l4_law) (rangeW 0 10) [some (.fls (ns.map W.int)), some (.ref p), e2, e3, e4, e5, e6, e7] s = .nx e s' := by
    refine forL_ok (fun rem e s => (∃ e2 e3 e4 e5 e6 e7, e = [some (.fls (ns.map W.int)), some (.ref p), e2, e3, e4, e5, e6, e7]) ∧ LPen s p (40000 - 1000 * (rem.length : Int)) ∧ rem.length ≤ 10) (fun r => ∃ e s', r = .nx e s') ?_ ?_ (rangeW 0 10) _ _ ⟨⟨_, _, _, _, _, _, rfl⟩, p1.le (by rw [len_rangeW]; decide), by rw [len_rangeW]; decide⟩
    · intro z rem e s ⟨⟨e2, e3, e4, e5, e6, e7, q0⟩, q1, q2⟩
      subst q0
      rw [List.length_cons] at q1 q2
      obtain ⟨v1, s1, c1, a1, b1, p1, x1, _⟩ := draw_s (k := 198) q1 (m := 100) (by omega) (by decide) (by decide)
      obtain ⟨v2, s2, c2, a2, b2, p2, x2, _⟩ := draw_s (k := 198) p1 (m := 99) (by omega) (by decide) (by decide)
      obtain ⟨nt, s3, c3, hnt, p3⟩ := notice_s (k := 196) p2 (by omega)
      obtain ⟨v4, s4, c4, a4, b4, p4, x4, _⟩ := draw_s (k := 198) p3 (m := 3) (by omega) (by decide) (by decide)
      have hh : NotOk (.tup [.str "a", .str "b", .int (5 + 10 * v4), .tup [.str "top", .non], .bl false]) := ⟨_, _, _, _, _, rfl, by omega, by omega, .inr ⟨_, rfl⟩⟩
      have so : ∀ x : Int, StOk [(1, x)] := fun x => ⟨⟨x, [], rfl⟩, fun s hs => by rw [List.mem_singleton] at hs; subst hs; exact Int.le_refl 1⟩
      obtain ⟨s5, c5, x5⟩ := right_s (k := 196) (st := s4) (word := "each") (steps := [(1, v1)]) (extra := 1 + v2) (n := 1) (w := nt) (so _) (by simp) (by decide) (by omega) (by omega) hnt
      obtain ⟨s6, c6, x6⟩ := right_s (k := 196) (st := s5) (word := "each") (steps := [(1, v1)]) (extra := 1 + v2) (n := 2) (so _) (by simp) (by decide) (by omega) (by omega) hh
      obtain ⟨v7, s7, c7, a7, b7, p7, x7, _⟩ := draw_s (k := 198) (p4.psh (x5.trans x6)) (m := 50) (by omega) (by decide) (by decide)
      obtain ⟨s8, c8, x8⟩ := right_s (k := 196) (st := s7) (word := "all") (steps := [(1, 10)]) (extra := 1 + 2 * v7) (n := 1) (so _) (by simp) (by decide) (by omega) (by omega) hh
      refine ⟨trivial, _, rfl, .inl ⟨[some (.fls (ns.map W.int)), some (.ref p), some z, some (cardW "each" [(1, v1)] (1 + v2)), some nt, e5, e6, some (.tup [.str "a", .str "b", .int (5 + 10 * v4), .tup [.str "top", .non], .bl false])], s8, .inl ?_, ⟨_, _, _, _, _, _, rfl⟩, (p7.psh x8).le (by omega), by omega⟩⟩
      simp [cardW, stW] at c5 c6 c8
      simp [evE, evEs, evI, evT, evS, evSs, truW, l4_law, c1, c2, c3, c4, m10, m2, c5, c6, c7, c8, cardW, stW]
    · intro e s _
      exact ⟨trivial, e, s, rfl⟩
  obtain ⟨e, s', eg⟩ := hg
  refine ⟨s', ?_⟩
  show T 200 _ _ _ = _
  rw [r_law]
  simp [evE, evEs, evP, evC, evI, evT, evS, evSs, startE, bltW, truW, seqW, atW, ixW, isNonW, isRefW, isTupW, isLstW, setIxW, setAll, bindT, Tgt.slots, wipeE, seqK, slcW, cutW, cutIx, idxW, mthW, isiW, kindW, subTy, rngOk, b_law, e0, ef, eg]


end Lw
open PySem PySem.W PySem.Calls PyProof.Rows
theorem PySem.Challenge.cw_columndays_k43_costs_to_the_penny_holds : PySem.Challenge.rw_columndays_k43_costs_to_the_penny.Holds := by
  w_on; o_law
  refine HandSHeadRun.head_any (r := OpenLaw.row PySem.Challenge.rw_columndays_k43_costs_to_the_penny) (q := view (OpenLaw.row PySem.Challenge.rw_columndays_k43_costs_to_the_penny).prog [11]) (H := Lw.hk) (ob := Lw.ob) (M := 4000) (loose := Lw.loose) (d := HandSHeadRun.topDef (OpenLaw.row PySem.Challenge.rw_columndays_k43_costs_to_the_penny).prog 11) (kwd := []) Lw.ob_eq
    (by kernel_rfl) (fun s => by kernel_rfl) Lw.run (by kernel_rfl) (by kernel_rfl) (by kernel_rfl) (by rfl) (by first | assumption | decide +kernel) (by decide +kernel) ⟨rfl, rfl, rfl, rfl, rfl, by decide +kernel⟩ ?hw ?hc
  case hw => w_witness2
  case hc =>
    refine EV.law_end (l := PySem.Challenge.rw_columndays_k43_costs_to_the_penny) (I := Lw.I) (cons := Lw.cons) (free := Lw.free) (L := 9) (d := Lw.d_law) (x := "_law_script") rfl (by kernel_rfl) ⟨rfl, by decide, by decide⟩ (by kernel_rfl) (by kernel_rfl) rfl rfl Lw.all_ok Lw.law_run


