import PyProof.Rows.All
import Wide.All
import OpenK.AllK
import Wide.FinOn
import HandS.ForMost
import HandS.Wide
import HandS.Deep
import HandS.Exc
import HandS.ForExc
import HandS.CallSlots
import HandS.TupAny
import HandS.TupMul
import HandS.Style
import HandS.More
import KE.KSortedM
import HandS.RaiseOp
import HandS.Conv
import HandS.Flt
import HandS.Flow
import HandS.TryOnly
import HandS.Defaults
import HandS.MakeKwOnly
import HandS.NamedTupGet
import HandS.RevTup
import PyProof.WalksMore
import KE.GoesNew
import KE.GoesMore
import HandS.List
import HandS.Dict
import HandS.IsInst
import HandS.ExcInit
import HandS.ExcField
import HandS.ExcIs
import KE.KExcInit
import KE.KExcIs
import HandS.RaiseMore
import HandS.HeadHook4
import HandS.HeadEnd
import HandS.Head2
import PySem.Challenge.RW_ringgates_k10_first_stands
set_option Elab.async false
set_option linter.all false
set_option maxRecDepth 100000
set_option maxHeartbeats 0
section
/-! RgEval: a small language without places, its data, its heap, and what its texts do: a total function in plain Lean. -/
namespace RG
open PySem L2

/-- data: tuples are trees; what may change stands in the memory, by its number -/
inductive D where
  | non | bl (b : Bool) | int (i : Int) | str (s : List Nat) | tup (l : List D) | ref (n : Nat) | scr (l : List Int) | kd (g : Nat) | fn (f : Nat) | exc (c : Nat) (x : D)
  deriving Inhabited

/-- what stands in the memory: a list, a dict, an instance (its class, its fields); scr: the script, kd: a dict of the module -/
inductive O where
  | lst (l : List D) | dct (l : List (D × D)) | ins (c : Nat) (fs : List (Nat × D))
  deriving Inhabited

abbrev Mem := List O
abbrev Env := List (Option D)

inductive Out (a : Type) where
  | ok (x : a) (h : Mem) | exc (x : D) (h : Mem) | stuck

@[simp] def Out.bind {a b : Type} (m : Out a) (f : a → Mem → Out b) : Out b := match m with
  | .ok x h => f x h
  | .exc x h => .exc x h
  | .stuck => .stuck

/-- no exception may leave (a comprehension's block) -/
@[simp] def Out.calm {a : Type} (m : Out a) : Out a := match m with
  | .ok x h => .ok x h
  | .exc _ _ => .stuck
  | .stuck => .stuck

/-- operations upon values -/
inductive P where
  | add | sub | mul | fdiv | mod | pow | neg
  | eq | ne | lt | le | gt | ge | isN | notN | inn | nin
  | ix | slLo | slHi | sl | rev
  | len | abs | min | max | divmod | toInt | toStr | toList | toTuple | sum | all | any | sorted
  | append | extend | insert | pop | popAt | index | reverse | clear
  | isI (k : Nat) | isT (ks : List Nat)
  | strRange | isV | notV
  deriving DecidableEq

mutual
inductive E where
  | var (i : Nat) | cst (d : D) | glo (g : Nat)
  | pr (p : P) (as : Es)
  | and (a b : E) | or (a b : E) | not (a : E) | ite (c a b : E)
  | chain (p q : P) (a b c : E) | sl3 (a b c : E) | lm (p : P) (o : E) (as : Es)
  | tup (as : Es) | lst (as : Es) | dct (ks : List D) (vs : Es)
  | comp (ts : List Nat) (one : Bool) (src : I) (cond : C) (elt : E) (vs : List Nat)
  | call (f : Nat) (as : Es) | callP (f : Nat) (as : Es) (pk : List Nat) (dd : List D) | makeP (c : Nat) (as : Es) (pk : List Nat) (dd : List D) | callv (i : Nat) (as : Es) | meth (m : Nat) (o : E) (as : Es) | make (c : Nat) (as : Es)
  | isx (cs : List Nat) (o : E) | xw (k : Nat) (o : E) | lrng (src : I)
  | len (o : E) | fld (o : E) (f : Nat) | kix (g : Nat) (k : E) | kin (g : Nat) (k : E) | knin (g : Nat) (k : E)
inductive Es where
  | nil | cons (e : E) (r : Es)
inductive I where
  | of (e : E) | rng1 (a : E) | rng2 (a b : E) | enum (e : E) | zip (a b : E)
inductive C where
  | yes | test (e : E)
end

mutual
inductive T where
  | nm (i : Nat) | fld (o : E) (f : Nat) | sub (o i : E) | tup (ts : Ts) | star1 (i j : Nat)
inductive Ts where
  | nil | cons (t : T) (r : Ts)
end

/-- what an except clause tells of what it caught: its field, its classes (a list of the program's own), that it is a ValueError, a constant -/
inductive HI where
  | what | isA (cs : List Nat) | isV | cst (d : D)
/-- an except clause: a name put, or a return; of one such, of a list, of a tuple of such -/
structure HB where
  ret : Bool
  tg : Nat
  sh : Nat
  its : List HI
mutual
inductive S where
  | asg (t : T) (e : E) | augN (p : P) (i : Nat) (e : E) | augF (p : P) (o : E) (f : Nat) (e : E) | augS (p : P) (o i : E) (e : E)
  | ex (e : E) | ret (e : E) | iff (c : E) (a b : Ss) | foor (t : T) (src : I) (b : Ss) | whl (c : E) (b : Ss)
  | rse (c : Nat) (e : E) | try1 (b : Ss) (c : Nat) (i : Option Nat) (hb : HB) | tryK (b : Ss) (c : Nat) (i : Nat) (ret : Bool) (tg : Nat) | pass | stuck
inductive Ss where
  | nil | cons (s : S) (r : Ss)
end

/-! ### values -/
def rd (h : Mem) (n : Nat) : Option (List D) := match h[n]? with
  | some (.lst l) => some l
  | _ => none
/-- the items of a list -/
def lk (h : Mem) : D → Option (List D)
  | .ref n => rd h n
  | .scr l => some (l.map .int)
  | _ => none

mutual
/-- data as the library's data: lists are looked up -/
inductive PD (h : Mem) : D → PyData → Prop
  | non : PD h .non .none
  | bl (b : Bool) : PD h (.bl b) (.bool b)
  | int (i : Int) : PD h (.int i) (.int i)
  | str (s : List Nat) : PD h (.str s) (.str ⟨s.toArray⟩)
  | tup {l : List D} {ps : List PyData} : PDs h l ps → PD h (.tup l) (.tuple ps)
  | lst {n : Nat} {l : List D} {ps : List PyData} : rd h n = some l → PDs h l ps → PD h (.ref n) (.list ps)
inductive PDs (h : Mem) : List D → List PyData → Prop
  | nil : PDs h [] []
  | cons {d : D} {l : List D} {p : PyData} {ps : List PyData} : PD h d p → PDs h l ps → PDs h (d :: l) (p :: ps)
end

open Classical in
/-- == of data -/
noncomputable def eqO (h : Mem) (a b : D) : Option Bool :=
  if x : ∃ p q, PD h a p ∧ PD h b q ∧ SeqAt.shaped p = true ∧ SeqAt.shaped q = true then some (PyData.eqv x.choose x.choose_spec.choose) else none

open Classical in
/-- x in a list of data -/
noncomputable def inO (h : Mem) (a b : D) : Option Bool :=
  if x : ∃ p qs, PD h a p ∧ PD h b (.list qs) ∧ SeqAt.shaped p = true ∧ SeqAt.shaped (.list qs) = true then some (x.choose_spec.choose.any fun z => PyData.eqv z x.choose) else none

/-- str() of an int, of a text -/
def strO (d : D) : Option (List Nat) := match d with
  | .int i => if i.natAbs.log2 < 1920 then some (toString i : Str).cps.toList else none
  | .str s => some s
  | _ => none

def eqF : D → D → Option Bool
  | .non, .non => some true
  | .str a, .str b => some (decide (a = b))
  | .int a, .int b => some (decide (a = b))
  | .bl a, .bl b => some (decide (a = b))
  | _, _ => none
/-- x in a tuple of texts (or of intsOf) -/
def inF (x : D) : List D → Option Bool
  | [] => if (eqF x x).isSome then some false else none
  | y :: l => match eqF y x, inF x l with
    | some a, some b => some (a || b)
    | _, _ => none

def kget (k : D) : List (D × D) → Option D
  | [] => none
  | (k', v) :: l => if eqF k' k = some true then some v else kget k l
def kput (k v : D) : List (D × D) → List (D × D)
  | [] => [(k, v)]
  | (k', v') :: l => if eqF k' k = some true then (k', v) :: l else (k', v') :: kput k v l
def isKey : D → Bool
  | .str _ => true
  | .int _ => true
  | _ => false

/-- the items of xs[lo:hi] -/
def cut (l : List D) (lo hi : Option Int) : List D := (l.drop (HT.sIx l.length 0 lo)).take (HT.sIx l.length l.length hi - HT.sIx l.length 0 lo)
def cutN (l : List Nat) (lo hi : Option Int) : List Nat := (l.drop (HT.sIx l.length 0 lo)).take (HT.sIx l.length l.length hi - HT.sIx l.length 0 lo)

def MulOk (i j : Int) : Prop := i.natAbs.log2 + j.natAbs.log2 < 1000000 ∨ CMul i j
def new (o : O) (h : Mem) : Out D := .ok (.ref h.length) (h ++ [o])
def intsOf : List D → Option (List Int)
  | [] => some []
  | .int i :: l => (intsOf l).map (i :: ·)
  | _ => none
def blsOf : List D → Option (List Bool)
  | [] => some []
  | .bl b :: l => (blsOf l).map (b :: ·)
  | _ => none
def strsOf : List D → Option (List (List Nat))
  | [] => some []
  | .str i :: l => (strsOf l).map (i :: ·)
  | _ => none
/-- sorted intsOf -/
def insI (a : Int) : List Int → List Int
  | [] => [a]
  | b :: l => if a ≤ b then a :: b :: l else b :: insI a l
def srt : List Int → List Int
  | [] => []
  | a :: l => insI a (srt l)

def slc (x : D) (lo hi : Option Int) (h : Mem) : Out D := match x with
  | .ref n => match rd h n with
    | some l => new (.lst (cut l lo hi)) h
    | none => .stuck
  | .scr l => new (.lst (cut (l.map .int) lo hi)) h
  | .tup l => .ok (.tup (cut l lo hi)) h
  | .str s => if s.length ≤ sizeLine then .ok (.str (cutN s lo hi)) h else .stuck
  | _ => .stuck

def ixRef (n : Nat) (k : D) (h : Mem) : Out D := match h[n]? with
  | some (.dct kvs) => match kget k kvs with
    | some v => if isKey k then .ok v h else .stuck
    | none => .stuck
  | some (.lst l) => match k with
    | .int i => match atI l i with
      | some d => .ok d h
      | none => .stuck
    | _ => .stuck
  | _ => .stuck

/-- what kind of thing it is: 0 bool, 1 int, 2 str, 3 list, 4 tuple, 5 dict, 6 None -/
def tyK (d : D) (h : Mem) : Option Nat := match d with
  | .non => some 6
  | .bl _ => some 0
  | .int _ => some 1
  | .str _ => some 2
  | .tup _ => some 4
  | .scr _ => some 3
  | .ref n => match h[n]? with
    | some (.lst _) => some 3
    | some (.dct _) => some 5
    | _ => none
  | _ => none
def isK (k t : Nat) : Bool := k == t || (k == 1 && t == 0)

/-- further operations -/
def evQ (p : P) (ds : List D) (h : Mem) : Out D := match p, ds with
  | .isV, [.bl a, .bl b] => .ok (.bl (decide (a = b))) h
  | .notV, [.bl a, .bl b] => .ok (.bl (!decide (a = b))) h
  | .toStr, [d] => match strO d with
    | some s => .ok (.str s) h
    | none => .stuck
  | _, _ => .stuck

open Classical in
noncomputable def evP (p : P) (ds : List D) (h : Mem) : Out D := match p, ds with
  | .add, [.int i, .int j] => .ok (.int (i + j)) h
  | .add, [.str a, .str b] => if a.length + b.length ≤ sizeLine then .ok (.str (a ++ b)) h else .stuck
  | .add, [.tup a, .tup b] => if a.length + b.length ≤ sizeLine then .ok (.tup (a ++ b)) h else .stuck
  | .add, [.ref m, .ref n] => match h[m]?, h[n]? with
    | some (.lst a), some (.lst b) => if a.length + b.length ≤ sizeLine then new (.lst (a ++ b)) h else .stuck
    | _, _ => .stuck
  | .sub, [.int i, .int j] => .ok (.int (i - j)) h
  | .mul, [.int i, .int j] => if MulOk i j then .ok (.int (i * j)) h else .stuck
  | .mul, [.ref n, .int k] => match h[n]? with
    | some (.lst a) => if -(2 ^ 63) ≤ k ∧ k < 2 ^ 63 ∧ a.length * k.toNat ≤ sizeLine then new (.lst (List.replicate k.toNat a).flatten) h else .stuck
    | _ => .stuck
  | .mul, [.tup a, .int k] => if (a ≠ [] ∧ 2 ≤ k ∧ k ≤ 1000 ∧ a.length ≤ 1000) ∨ (-(2 ^ 63) ≤ k ∧ k ≤ 1) then .ok (.tup (List.replicate k.toNat a).flatten) h else .stuck
  | .fdiv, [.int i, .int j] => if CDivW i j then .ok (.int (i / j)) h else .stuck
  | .mod, [.int i, .int j] => if 0 < j then .ok (.int (i % j)) h else .stuck
  | .pow, [.int i, .int j] => if CPow i j then .ok (.int (i ^ j.toNat)) h else .stuck
  | .neg, [.int i] => .ok (.int (-i)) h
  | .eq, [a, b] => match eqO h a b with
    | some r => .ok (.bl r) h
    | none => .stuck
  | .ne, [a, b] => match eqO h a b with
    | some r => .ok (.bl (!r)) h
    | none => .stuck
  | .lt, [.int i, .int j] => .ok (.bl (decide (i < j))) h
  | .le, [.int i, .int j] => .ok (.bl (decide (i ≤ j))) h
  | .gt, [.int i, .int j] => .ok (.bl (decide (j < i))) h
  | .ge, [.int i, .int j] => .ok (.bl (decide (j ≤ i))) h
  | .isN, [a] => .ok (.bl (match a with | .non => true | _ => false)) h
  | .notN, [a] => .ok (.bl (match a with | .non => false | _ => true)) h
  | .inn, [.str [c], .str s] => .ok (.bl (decide (c ∈ s))) h
  | .nin, [.str [c], .str s] => .ok (.bl (!decide (c ∈ s))) h
  | .inn, [a, .tup l] => match inF a l with
    | some r => .ok (.bl r) h
    | none => .stuck
  | .nin, [a, .tup l] => match inF a l with
    | some r => .ok (.bl (!r)) h
    | none => .stuck
  | .inn, [a, .ref n] => match h[n]? with
    | some (.dct kvs) => if isKey a then .ok (.bl (kget a kvs).isSome) h else .stuck
    | _ => match inO h a (.ref n) with
      | some r => .ok (.bl r) h
      | none => .stuck
  | .nin, [a, .ref n] => match h[n]? with
    | some (.dct kvs) => if isKey a then .ok (.bl (!(kget a kvs).isSome)) h else .stuck
    | _ => match inO h a (.ref n) with
      | some r => .ok (.bl (!r)) h
      | none => .stuck
  | .ix, [.tup l, .int i] => match atI l i with
    | some d => .ok d h
    | none => .stuck
  | .ix, [.str s, .int i] => if s.length ≤ sizeLine then (match atI s i with
    | some c => .ok (.str [c]) h
    | none => .stuck) else .stuck
  | .ix, [.ref n, k] => ixRef n k h
  | .ix, [.scr l, .int i] => match atI l i with
    | some d => .ok (.int d) h
    | none => .stuck
  | .slLo, [x, .int i] => slc x (some i) none h
  | .slHi, [x, .int j] => slc x none (some j) h
  | .sl, [x, .int i, .int j] => slc x (some i) (some j) h
  | .rev, [.tup l] => .ok (.tup l.reverse) h
  | .rev, [.ref n] => match rd h n with
    | some l => new (.lst l.reverse) h
    | none => .stuck
  | .len, [.tup l] => .ok (.int l.length) h
  | .len, [.str s] => if s.length ≤ sizeLine then .ok (.int s.length) h else .stuck
  | .len, [.ref n] => match rd h n with
    | some l => .ok (.int l.length) h
    | none => .stuck
  | .len, [.scr l] => .ok (.int l.length) h
  | .abs, [.int i] => .ok (.int (if i < 0 then -i else i)) h
  | .max, [.int i, .int j] => .ok (.int (if j > i then j else i)) h
  | .max, [.int i, .int j, .int k] => .ok (.int (if k > (if j > i then j else i) then k else (if j > i then j else i))) h
  | .divmod, [.int i, .int j] => if CDiv i j then .ok (.tup [.int (i / j), .int (i % j)]) h else .stuck
  | .min, [.int i, .int j] => .ok (.int (if j < i then j else i)) h
  | .toInt, [.int i] => .ok (.int i) h
  | .toInt, [.bl b] => .ok (.int (if b then 1 else 0)) h
  | .toList, [.tup l] => new (.lst l) h
  | .toList, [.ref n] => match rd h n with
    | some l => new (.lst l) h
    | none => .stuck
  | .toList, [.scr l] => new (.lst (l.map .int)) h
  | .toTuple, [.tup l] => .ok (.tup l) h
  | .toTuple, [.ref n] => match rd h n with
    | some l => .ok (.tup l) h
    | none => .stuck
  | .sum, [.ref n] => match rd h n with
    | some l => match intsOf l with
      | some ns => .ok (.int ns.sum) h
      | none => match blsOf l with
        | some bs => .ok (.int (bs.map fun b => if b then 1 else 0).sum) h
        | none => .stuck
    | none => .stuck
  | .all, [.ref n] => match rd h n with
    | some l => match blsOf l with
      | some bs => .ok (.bl (bs.all id)) h
      | none => .stuck
    | none => .stuck
  | .any, [.ref n] => match rd h n with
    | some l => match blsOf l with
      | some bs => .ok (.bl (bs.any id)) h
      | none => .stuck
    | none => .stuck
  | .sorted, [.ref n] => match rd h n with
    | some l => match intsOf l with
      | some ns => if ns.length < 64 then new (.lst ((srt ns).map .int)) h else .stuck
      | none => .stuck
    | none => .stuck
  | .sorted, [.tup l] => match intsOf l with
    | some ns => if ns.length < 64 then new (.lst ((srt ns).map .int)) h else .stuck
    | none => .stuck
  | .append, [.ref n, d] => match h[n]? with
    | some (.lst l) => if l.length < sizeLine then .ok .non (h.set n (.lst (l ++ [d]))) else .stuck
    | _ => .stuck
  | .popAt, [.ref n, .int i] => match h[n]? with
    | some (.lst (x :: l)) => if i = 0 then .ok x (h.set n (.lst l)) else .stuck
    | _ => .stuck
  | .pop, [.ref n] => match h[n]? with
    | some (.lst l) => match l.getLast? with
      | some x => .ok x (h.set n (.lst l.dropLast))
      | none => .stuck
    | _ => .stuck
  | .reverse, [.ref n] => match h[n]? with
    | some (.lst l) => .ok .non (h.set n (.lst l.reverse))
    | _ => .stuck
  | .clear, [.ref n] => match h[n]? with
    | some (.lst l) => .ok .non (h.set n (.lst []))
    | _ => .stuck
  | .insert, [.ref n, .int i, d] => match h[n]? with
    | some (.lst l) => if l.length < sizeLine ∧ 0 ≤ i ∧ i < 2 ^ 63 then .ok .non (h.set n (.lst (l.take i.toNat ++ [d] ++ l.drop i.toNat))) else .stuck
    | _ => .stuck
  | .index, [.ref n, .int i] => match rd h n with
    | some l => match intsOf l with
      | some ns => match ns.findIdx? (fun x => decide (x = i)) with
        | some j => .ok (.int (j : Nat)) h
        | none => .stuck
      | none => .stuck
    | none => .stuck
  | .index, [.ref n, .str s] => match rd h n with
    | some l => match strsOf l with
      | some ns => match ns.findIdx? (fun x => decide (x = s)) with
        | some j => .ok (.int (j : Nat)) h
        | none => .stuck
      | none => .stuck
    | none => .stuck
  | .isI k, [d] => match tyK d h with
    | some t => .ok (.bl (isK k t)) h
    | none => .stuck
  | .isT ks, [d] => match tyK d h with
    | some t => .ok (.bl (ks.any fun k => isK k t)) h
    | none => .stuck
  | p, ds => evQ p ds h

/-! ### what is walked -/
structure Src where
  items : List D
  grd : List (Nat × List D)
def Src.ok (s : Src) (h : Mem) : Prop := ∀ g ∈ s.grd, rd h g.1 = some g.2
def srcOf (d : D) (h : Mem) : Option Src := match d with
  | .tup l => some ⟨l, []⟩
  | .ref n => match rd h n with
    | some l => some ⟨l, [(n, l)]⟩
    | none => none
  | .scr l => some ⟨l.map .int, []⟩
  | _ => none
def chars (s : List Nat) : List D := s.map fun c => .str [c]
def srcS (d : D) (h : Mem) : Option Src := match d with
  | .str s => some ⟨chars s, []⟩
  | _ => srcOf d h
def enumD (l : List D) : List D := (List.range l.length).zipWith (fun (i : Nat) d => .tup [.int (i : Int), d]) l
def rngD (lo : Int) (n : Nat) : List D := (List.range n).map fun (i : Nat) => .int (lo + (i : Int))

/-! ### the flow -/
inductive Fl where
  | nx (r : Env) | rt (d : D) | xc (x : D) (r : Env)
/-- an expression within a statement: what it raises is raised at these names -/
@[simp] def Out.bs {a : Type} (m : Out a) (r : Env) (f : a → Mem → Out Fl) : Out Fl := match m with
  | .ok x h => f x h
  | .exc x h => .ok (.xc x r) h
  | .stuck => .stuck
/-- what follows a statement -/
@[simp] def Out.seq (m : Out Fl) (f : Env → Mem → Out Fl) : Out Fl := match m with
  | .ok (.nx r) h => f r h
  | .ok (.rt d) h => .ok (.rt d) h
  | .ok (.xc x r) h => .ok (.xc x r) h
  | .exc _ _ => .stuck
  | .stuck => .stuck

open Classical in
noncomputable def forL (g : D → Env → Mem → Out Env) (b : Env → Mem → Out Fl) (s : Src) : List D → Env → Mem → Out Fl
  | [], r, h => if s.ok h then .ok (.nx r) h else .stuck
  | x :: xs, r, h => if s.ok h then (match g x r h with
      | .ok r h => (b r h).seq fun r h => forL g b s xs r h
      | _ => .stuck) else .stuck

open Classical in
noncomputable def cmpL (g : D → Env → Mem → Out Env) (c : Env → Mem → Out Bool) (f : Env → Mem → Out D) (s : Src) (n : Nat) (r0 : Env) : List D → Mem → Out D
  | [], h => if s.ok h then .ok (.ref n) h else .stuck
  | x :: xs, h => if s.ok h then (g x r0 h).bind fun r h => (c r h).bind fun k h =>
      if k then (f r h).bind fun d h => match h[n]? with
        | some (.lst acc) => if acc.length < sizeLine then cmpL g c f s n r0 xs (h.set n (.lst (acc ++ [d]))) else .stuck
        | _ => .stuck
      else cmpL g c f s n r0 xs h
    else .stuck

def whlN (c : Env → Mem → Out Bool) (b : Env → Mem → Out Fl) : Nat → Env → Mem → Option (Out Fl)
  | 0, _, _ => none
  | n + 1, r, h => match c r h with
    | .ok true h => match b r h with
      | .ok (.nx r) h => whlN c b n r h
      | .ok (.rt d) h => some (.ok (.rt d) h)
      | .ok (.xc x r) h => some (.ok (.xc x r) h)
      | .exc _ _ => some .stuck
      | .stuck => some .stuck
    | .ok false h => some (.ok (.nx r) h)
    | .exc x h => some (.ok (.xc x r) h)
    | .stuck => some .stuck
open Classical in
noncomputable def whl (c : Env → Mem → Out Bool) (b : Env → Mem → Out Fl) (r : Env) (h : Mem) : Out Fl :=
  if x : ∃ n o, whlN c b n r h = some o then x.choose_spec.choose else .stuck

/-! ### the program's tables -/
structure Def where
  np : Nat
  ns : Nat
  body : Ss
structure Tab where
  defs : Nat → Option Def
  glo : Nat → Option D
  kdc : Nat → Option (List (D × D))
  fld : Nat → Nat → Bool
  meth : Nat → Nat → Option Nat
  init : Nat → Option Nat
  sub : Nat → Nat → Bool
  plf : Nat → Bool

/-- values put in another order -/
def pickO {a : Type} (l : List a) : List Nat → Option (List a)
  | [] => some []
  | i :: pk => match l[i]?, pickO l pk with
    | some x, some xs => some (x :: xs)
    | _, _ => none

/-- what a body may call -/
structure Cl where
  t : Tab
  cal : Nat → List D → Mem → Out D
  ini : Nat → List D → Mem → Out D

def wipeE (r : Env) : List Nat → Env
  | [] => r
  | v :: vs => (wipeE r vs).set v none

def truth (d : D) (h : Mem) : Option Bool := match d with
  | .non => some false
  | .bl b => some b
  | .int i => some (i != 0)
  | .str s => if s.length ≤ sizeLine then some (s.length != 0) else none
  | .tup l => some (!l.isEmpty)
  | .ref n => match rd h n with
    | some l => some (!l.isEmpty)
    | none => none
  | _ => none
def tru (d : D) (h : Mem) : Out Bool := match truth d h with
  | some b => .ok b h
  | none => .stuck

def fget (f : Nat) : List (Nat × D) → Option D
  | [] => none
  | (g, d) :: l => if g = f then some d else fget f l
def fput (f : Nat) (d : D) : List (Nat × D) → List (Nat × D)
  | [] => [(f, d)]
  | (g, e) :: l => if g = f then (g, d) :: l else (g, e) :: fput f d l

/-- the pairs of a display -/
def dmk : List D → List D → List (D × D) → List (D × D)
  | k :: ks, d :: ds, l => dmk ks ds (kput k d l)
  | _, _, l => l

/-- the targets of a comprehension: a name, or names of a tuple -/
def setAll : List Nat → List D → Env → Option Env
  | [], [], r => some r
  | i :: is, d :: ds, r => setAll is ds (r.set i (some d))
  | _, _, _ => none
def cTarget (ts : List Nat) (one : Bool) (d : D) (r : Env) (h : Mem) : Out Env := match one, ts, d with
  | true, [i], d => .ok (r.set i (some d)) h
  | false, ts, .tup l => match setAll ts l r with
    | some r => .ok r h
    | none => .stuck
  | _, _, _ => .stuck

noncomputable section
mutual
def ev (c : Cl) : E → Env → Mem → Out D
  | .var i, r, h => match r[i]? with
    | some (some d) => .ok d h
    | _ => .stuck
  | .cst d, _, h => .ok d h
  | .glo g, _, h => match c.t.glo g with
    | some d => .ok d h
    | none => .stuck
  | .pr p as, r, h => (evs c as r h).bind fun ds h => evP p ds h
  | .and a b, r, h => (ev c a r h).bind fun d h => (tru d h).bind fun k h => if k then ev c b r h else .ok d h
  | .or a b, r, h => (ev c a r h).bind fun d h => (tru d h).bind fun k h => if k then .ok d h else ev c b r h
  | .not a, r, h => (ev c a r h).bind fun d h => (tru d h).bind fun k h => .ok (.bl (!k)) h
  | .ite t a b, r, h => (ev c t r h).bind fun d h => (tru d h).bind fun k h => if k then ev c a r h else ev c b r h
  | .chain p q x y z, r, h => (ev c x r h).bind fun dx h => (ev c y r h).bind fun dy h => (evP p [dx, dy] h).bind fun k h => match k with
    | .bl true => (ev c z r h).bind fun dz h => evP q [dy, dz] h
    | .bl false => .ok (.bl false) h
    | _ => .stuck
  | .sl3 x y z, r, h => (ev c x r h).bind fun dx h => (ev c y r h).bind fun dy h => match dy with
    | .int i => (ev c z r h).bind fun dz h => match dz with
      | .int j => slc dx (some i) (some j) h
      | _ => .stuck
    | _ => .stuck
  | .lm p o as, r, h => (ev c o r h).bind fun d h => match d with
    | .ref n => match rd h n with
      | some _ => (evs c as r h).bind fun ds h => evP p (d :: ds) h
      | none => .stuck
    | _ => .stuck
  | .tup as, r, h => (evs c as r h).bind fun ds h => if ds.length ≤ sizeLine then .ok (.tup ds) h else .stuck
  | .lst as, r, h => (evs c as r h).bind fun ds h => if ds.length ≤ sizeLine then new (.lst ds) h else .stuck
  | .dct ks vs, r, h => (evs c vs r (h ++ [.dct []])).bind fun ds h' => match h'[h.length]? with
    | some (.dct []) => if ks.length ≤ 15 then .ok (.ref h.length) (h'.set h.length (.dct (dmk ks ds []))) else .stuck
    | _ => .stuck
  | .comp ts one src cond elt vs, r, h => (evI c src r h).bind fun s h =>
      cmpL (fun d r h => cTarget ts one d r h) (fun r h => (evC c cond r h).calm) (fun r h => (ev c elt r h).calm) s h.length (wipeE r vs) s.items (h ++ [.lst []])
  | .call f as, r, h => (evs c as r h).bind fun ds h => c.cal f ds h
  | .callP f as pk dd, r, h => (evs c as r h).bind fun ds h => match pickO (ds ++ dd) pk with
    | some zs => c.cal f zs h
    | none => .stuck
  | .makeP k as pk dd, r, h => (evs c as r h).bind fun ds h => match c.t.init k, pickO (.ref h.length :: (ds ++ dd)) pk with
    | some f, some zs => (c.ini f zs (h ++ [.ins k []])).bind fun v h' => match v with
      | .non => .ok (.ref h.length) h'
      | _ => .stuck
    | _, _ => .stuck
  | .callv i as, r, h => match r[i]? with
    | some (some (.fn f)) => if c.t.plf f then (evs c as r h).bind fun ds h => c.cal f ds h else .stuck
    | _ => .stuck
  | .meth m o as, r, h => (ev c o r h).bind fun d h => match d with
    | .ref n => match h[n]? with
      | some (.ins k _) => match c.t.meth k m with
        | some f => (evs c as r h).bind fun ds h => c.cal f (d :: ds) h
        | none => .stuck
      | _ => .stuck
    | _ => .stuck
  | .make k as, r, h => (evs c as r h).bind fun ds h => match c.t.init k with
    | some f => (c.ini f (.ref h.length :: ds) (h ++ [.ins k []])).bind fun v h' => match v with
      | .non => .ok (.ref h.length) h'
      | _ => .stuck
    | none => .stuck
  | .fld o f, r, h => (ev c o r h).bind fun d h => match d with
    | .ref n => match h[n]? with
      | some (.ins k fs) => if c.t.fld k f then (match fget f fs with
        | some v => .ok v h
        | none => .stuck) else .stuck
      | _ => .stuck
    | _ => .stuck
  | .len o, r, h => (ev c o r h).bind fun d h => match d with
    | .ref n => match h[n]? with
      | some (.ins k _) => match c.t.meth k 0 with
        | some f => (c.ini f [d] h).bind fun v h => match v with
          | .int i => if 0 ≤ i ∧ i < 2 ^ 63 then .ok (.int i) h else .stuck
          | _ => .stuck
        | none => .stuck
      | _ => evP .len [d] h
    | _ => evP .len [d] h
  | .isx cs o, r, h => (ev c o r h).bind fun d h => match d with
    | .exc j _ => if c.t.sub j j then .ok (.bl (cs.any fun k => c.t.sub j k)) h else .stuck
    | _ => .stuck
  | .xw k o, r, h => (ev c o r h).bind fun d h => match d with
    | .exc j x => if c.t.sub j j ∧ c.t.sub k k ∧ c.t.sub j k then .ok x h else .stuck
    | _ => .stuck
  | .lrng src, r, h => (evI c src r h).bind fun s h => if s.items.length ≤ 2 ^ 24 then new (.lst s.items) h else .stuck
  | .kix g k, r, h => (ev c k r h).bind fun d h => match d, c.t.kdc g with
    | .str s, some kvs => match kget (.str s) kvs with
      | some v => .ok v h
      | none => .stuck
    | _, _ => .stuck
  | .kin g k, r, h => (ev c k r h).bind fun d h => match d, c.t.kdc g with
    | .str s, some kvs => .ok (.bl (kget (.str s) kvs).isSome) h
    | _, _ => .stuck
  | .knin g k, r, h => (ev c k r h).bind fun d h => match d, c.t.kdc g with
    | .str s, some kvs => .ok (.bl (!(kget (.str s) kvs).isSome)) h
    | _, _ => .stuck
def evs (c : Cl) : Es → Env → Mem → Out (List D)
  | .nil, _, h => .ok [] h
  | .cons e es, r, h => (ev c e r h).bind fun d h => (evs c es r h).bind fun ds h => .ok (d :: ds) h
def evI (c : Cl) : I → Env → Mem → Out Src
  | .of e, r, h => (ev c e r h).bind fun d h => match srcS d h with
    | some s => .ok s h
    | none => .stuck
  | .rng1 a, r, h => (ev c a r h).bind fun d h => match d with
    | .int j => if -(2 ^ 62) ≤ j ∧ j < 2 ^ 62 then .ok ⟨rngD 0 j.toNat, []⟩ h else .stuck
    | _ => .stuck
  | .rng2 a b, r, h => (ev c a r h).bind fun d h => (ev c b r h).bind fun e h => match d, e with
    | .int i, .int j => if -(2 ^ 62) ≤ i ∧ i < 2 ^ 62 ∧ -(2 ^ 62) ≤ j ∧ j < 2 ^ 62 then .ok ⟨rngD i (j - i).toNat, []⟩ h else .stuck
    | _, _ => .stuck
  | .enum e, r, h => (ev c e r h).bind fun d h => match d with
    | .ref n => match rd h n with
      | some l => .ok ⟨enumD l, [(n, l)]⟩ h
      | none => .stuck
    | _ => .stuck
  | .zip a b, r, h => (ev c a r h).bind fun d h => (ev c b r h).bind fun e h => match srcS d h, srcS e h with
    | some s, some t => .ok ⟨s.items.zipWith (fun x y => .tup [x, y]) t.items, s.grd ++ t.grd⟩ h
    | _, _ => .stuck
def evC (c : Cl) : C → Env → Mem → Out Bool
  | .yes, _, h => .ok true h
  | .test e, r, h => (ev c e r h).bind fun d h => tru d h
end

/-- o.f = d -/
def putFld (t : Tab) (x : D) (f : Nat) (d : D) (h : Mem) : Option Mem := match x with
  | .ref n => match h[n]? with
    | some (.ins k fs) => if t.fld k f ∧ fs.length < 1000 then some (h.set n (.ins k (fput f d fs))) else none
    | _ => none
  | _ => none
/-- o[i] = d -/
def putIx (x i d : D) (h : Mem) : Option Mem := match x with
  | .ref n => match h[n]? with
    | some (.lst l) => match i with
      | .int k => match ixN l.length k with
        | some j => some (h.set n (.lst (l.set j d)))
        | none => none
      | _ => none
    | some (.dct kvs) => if isKey i ∧ kvs.length < sizeLine then some (h.set n (.dct (kput i d kvs))) else none
    | _ => none
  | _ => none

mutual
def asg (c : Cl) : T → D → Env → Mem → Out Env
  | .nm i, d, r, h => .ok (r.set i (some d)) h
  | .fld o f, d, r, h => (ev c o r h).calm.bind fun x h => match putFld c.t x f d h with
    | some h => .ok r h
    | none => .stuck
  | .sub o i, d, r, h => (ev c o r h).calm.bind fun x h => (ev c i r h).calm.bind fun k h => match putIx x k d h with
    | some h => .ok r h
    | none => .stuck
  | .tup ts, d, r, h => match d with
    | .tup l => asgs c ts l r h
    | .ref n => match rd h n with
      | some l => asgs c ts l r h
      | none => .stuck
    | _ => .stuck
  | .star1 i j, d, r, h => match d with
    | .tup (x :: l) => .ok ((r.set i (some x)).set j (some (.ref h.length))) (h ++ [.lst l])
    | _ => .stuck
def asgs (c : Cl) : Ts → List D → Env → Mem → Out Env
  | .nil, [], r, h => .ok r h
  | .cons t ts, d :: ds, r, h => (asg c t d r h).bind fun r h => asgs c ts ds r h
  | _, _, _, _ => .stuck
end
/-- the target of a statement -/
def asgS (m : Out Env) : Out Fl := match m with
  | .ok r h => .ok (.nx r) h
  | _ => .stuck
def aug (p : P) (x d : D) : Option D := match p, x, d with
  | .add, .int a, .int b => some (.int (a + b))
  | .sub, .int a, .int b => some (.int (a - b))
  | _, _, _ => none

def hiV (t : Tab) (j : Nat) (x : D) : HI → D
  | .what => x
  | .isA cs => .bl (cs.any fun k => t.sub j k)
  | .isV => .bl (t.sub j 99)
  | .cst d => d
def hbV (t : Tab) (hb : HB) (j : Nat) (x : D) (h : Mem) : Out D := match hb.sh, hb.its.map (hiV t j x) with
  | 0, [d] => .ok d h
  | 1, ds => if ds.length ≤ sizeLine then new (.lst ds) h else .stuck
  | 2, ds => if ds.length ≤ sizeLine then .ok (.tup ds) h else .stuck
  | _, _ => .stuck
def hbF (hb : HB) (d : D) (r : Env) : Fl := if hb.ret then .rt d else .nx (r.set hb.tg (some d))
def gone (i : Option Nat) (r : Env) : Env := match i with
  | some i => r.set i none
  | none => r
def inB (i : Option Nat) (r : Env) : Bool := match i with
  | some i => decide (i < r.length)
  | none => true
/-- behind a try's body -/
def tryF (t : Tab) (k : Nat) (i : Option Nat) (hb : HB) (o : Out Fl) : Out Fl := match o with
  | .ok (.xc (.exc j x) r) h => if t.sub j j ∧ t.sub k k ∧ inB i r then (if t.sub j k then (match hbV t hb j x h with
      | .ok d h => .ok (hbF hb d (gone i r)) h
      | _ => .stuck) else .ok (.xc (.exc j x) r) h) else .stuck
  | .ok (.xc _ _) _ => .stuck
  | o => o

/-- behind a try's body whose clause keeps what it caught -/
def tryG (t : Tab) (k i : Nat) (ret : Bool) (tg : Nat) (o : Out Fl) : Out Fl := match o with
  | .ok (.xc (.exc j x) r) h => if t.sub j j ∧ t.sub k k ∧ inB (some i) r then (if t.sub j k then .ok (if ret then .rt (.exc j x) else .nx ((r.set i none).set tg (some (.exc j x)))) h else .ok (.xc (.exc j x) r) h) else .stuck
  | .ok (.xc _ _) _ => .stuck
  | o => o

mutual
def exc (c : Cl) : S → Env → Mem → Out Fl
  | .asg t e, r, h => (ev c e r h).bs r fun d h => asgS (asg c t d r h)
  | .augN p i e, r, h => match r[i]? with
    | some (some x) => (ev c e r h).bs r fun d h => match aug p x d with
      | some z => .ok (.nx (r.set i (some z))) h
      | none => .stuck
    | _ => .stuck
  | .augF p o f e, r, h => (ev c o r h).bs r fun x h => match x with
    | .ref n => match h[n]? with
      | some (.ins k fs) => if c.t.fld k f then (match fget f fs with
        | some v => (ev c e r h).bs r fun d h => match aug p v d with
          | some z => match h[n]? with
            | some (.ins k2 fs2) => if k2 = k ∧ fs2.length < 1000 then .ok (.nx r) (h.set n (.ins k (fput f z fs2))) else .stuck
            | _ => .stuck
          | none => .stuck
        | none => .stuck) else .stuck
      | _ => .stuck
    | _ => .stuck
  | .augS p o i e, r, h => (ev c o r h).bs r fun x h => (ev c i r h).bs r fun k h => match x with
    | .ref n => match h[n]? with
      | some (.dct kvs) => if isKey k then (match kget k kvs with
        | some v => (ev c e r h).bs r fun d h => match aug p v d with
          | some z => match h[n]? with
            | some (.dct kvs2) => if kvs2.length < sizeLine then .ok (.nx r) (h.set n (.dct (kput k z kvs2))) else .stuck
            | _ => .stuck
          | none => .stuck
        | none => .stuck) else .stuck
      | _ => .stuck
    | _ => .stuck
  | .ex e, r, h => (ev c e r h).bs r fun _ h => .ok (.nx r) h
  | .ret e, r, h => (ev c e r h).bs r fun d h => .ok (.rt d) h
  | .iff t a b, r, h => (ev c t r h).bs r fun d h => (tru d h).bs r fun k h => if k then excs c a r h else excs c b r h
  | .foor t src b, r, h => (evI c src r h).bs r fun s h => forL (fun d r h => asg c t d r h) (fun r h => excs c b r h) s s.items r h
  | .whl t b, r, h => whl (fun r h => (ev c t r h).bind fun d h => tru d h) (fun r h => excs c b r h) r h
  | .rse k e, r, h => (ev c e r h).bs r fun d h => .ok (.xc (.exc k d) r) h
  | .try1 b k i hb, r, h => tryF c.t k i hb (excs c b r h)
  | .tryK b k i ret tg, r, h => tryG c.t k i ret tg (excs c b r h)
  | .pass, r, h => .ok (.nx r) h
  | .stuck, _, _ => .stuck
def excs (c : Cl) : Ss → Env → Mem → Out Fl
  | .nil, r, h => .ok (.nx r) h
  | .cons s ss, r, h => (exc c s r h).seq fun r h => excs c ss r h
end

/-- what a body at this depth may call -/
def clAt (t : Tab) (f g : Nat → List D → Mem → Out D) : Cl := ⟨t, f, g⟩
/-- a def's call: n bounds how deep calls may go -/
def run (t : Tab) : Nat → Nat → List D → Mem → Out D
  | 0, _, _, _ => .stuck
  | 1, _, _, _ => .stuck
  | n + 2, f, ds, h => match t.defs f with
    | none => .stuck
    | some d => if ds.length = d.np then
        (match excs (clAt t (run t (n + 1)) (run t n)) d.body (ds.map some ++ List.replicate (d.ns - ds.length) none) h with
          | .ok (.nx _) h => .ok .non h
          | .ok (.rt v) h => .ok v h
          | .ok (.xc x _) h => .exc x h
          | _ => .stuck)
      else .stuck
end
end RG

end

section
/-! RgXo: an exception that was caught and is kept, as a thing of the heap. -/
namespace RG
open PySem L2

/-- an exception object of the class cls, its dict at d -/
def XO (cls : Value) (d : Option Addr) (a : Addr) : HO := .ext fun h => ∃ (oe : Obj) (vs : Array Value), h.get? a = some oe ∧ Zc cls d oe ∧ oe.data = .fields vs
end RG

end

section
/-! RgRel: how the language's data and memory stand in the layer's heap. -/
namespace RG
open PySem L2

/-- the program as it stands: its parts, its tables, where its defs and classes stand, its fields' and methods' names -/
structure Gx where
  P : Program
  w : World
  K : PySem.W.Frag
  mg : Str → Option Value
  base : Heap
  t : Tab
  fA : Nat → Addr
  cA : Nat → Addr
  fN : Nat → Str
  kA : Nat → Addr
  xN : Nat → Str

/-- a list that is only read: the script -/
def Frl (K : PySem.W.Frag) (H : Hp) (a : Addr) (xs : List V) : Prop := (∃ o, H a = some (.frz o (.lst xs))) ∨
  ∃ (o : Obj) (its : Array Value) (n : Nat), K.lookup a = some o ∧ o.cls = .type "list" ∧ o.dict = none ∧ o.data = .seq its n ∧ its.size ≤ sizeLine ∧ Vals xs its.toList
theorem Frl.sq {K : PySem.W.Frag} {H : Hp} {a : Addr} {xs : List V} (h : Frl K H a xs) : SqL K H a xs := h.elim (fun h => .inl (.inr h)) .inr

mutual
inductive RelD (G : Gx) (H : Hp) (p : List Addr) : D → V → Prop
  | non : RelD G H p .non .non
  | bl (b : Bool) : RelD G H p (.bl b) (.bl b)
  | int (i : Int) : RelD G H p (.int i) (.int i)
  | str (s : List Nat) : RelD G H p (.str s) (.str ⟨s.toArray⟩)
  | tup {a : Addr} {l : List D} {vs : List V} : SqT G.K H a vs → RelDs G H p l vs → RelD G H p (.tup l) (.ref a)
  | ref {n : Nat} {a : Addr} : p[n]? = some a → RelD G H p (.ref n) (.ref a)
  | scr {a : Addr} {l : List Int} : Frl G.K H a (l.map V.int) → RelD G H p (.scr l) (.ref a)
  | kd (g : Nat) : RelD G H p (.kd g) (.ref (G.kA g))
  | fn (f : Nat) : RelD G H p (.fn f) (.ref (G.fA f))
  | exc {c : Nat} {a dd : Addr} {x : D} {v : V} : H a = some (XO (.ref (G.cA c)) (some dd) a) → H dd = some (.xd [(G.xN c, v)]) → G.t.sub c c = true → RelD G H p x v → RelD G H p (.exc c x) (.ref a)
inductive RelDs (G : Gx) (H : Hp) (p : List Addr) : List D → List V → Prop
  | nil : RelDs G H p [] []
  | cons {d : D} {v : V} {l : List D} {vs : List V} : RelD G H p d v → RelDs G H p l vs → RelDs G H p (d :: l) (v :: vs)
end

/-- tuples, what is locked and exceptions stay -/
structure Le (G : Gx) (H H' : Hp) : Prop where
  t : ∀ a vs, SqT G.K H a vs → SqT G.K H' a vs
  l : ∀ a vs, Frl G.K H a vs → Frl G.K H' a vs
  x : ∀ a φ, H a = some (.ext φ) → H' a = some (.ext φ)
  d : ∀ a fs, H a = some (.xd fs) → H' a = some (.xd fs)
theorem Le.refl {G : Gx} (H : Hp) : Le G H H := ⟨fun _ _ h => h, fun _ _ h => h, fun _ _ h => h, fun _ _ h => h⟩
theorem Le.trans {G : Gx} {H H1 H2 : Hp} (a : Le G H H1) (b : Le G H1 H2) : Le G H H2 := ⟨fun x vs h => b.t x vs (a.t x vs h), fun x vs h => b.l x vs (a.l x vs h), fun x vs h => b.x x vs (a.x x vs h), fun x vs h => b.d x vs (a.d x vs h)⟩
theorem Le.new {G : Gx} {H : Hp} {a : Addr} {o : HO} (h : H a = none) : Le G H (upd H a o) := ⟨fun b vs q => by
  rcases q with (q | ⟨u, q⟩) | q
  · exact .inl (.inl (by rw [upd_ne (ne_of_none q h)]; exact q))
  · exact .inl (.inr ⟨u, by rw [upd_ne (ne_of_none q h)]; exact q⟩)
  · exact .inr q, fun b vs q => by
  rcases q with ⟨u, q⟩ | q
  · exact .inl ⟨u, by rw [upd_ne (ne_of_none q h)]; exact q⟩
  · exact .inr q, fun b vs q => by rw [upd_ne (ne_of_none q h)]; exact q, fun b vs q => by rw [upd_ne (ne_of_none q h)]; exact q⟩
theorem Le.mut {G : Gx} {H : Hp} {a : Addr} {o u : HO} (h : H a = some u) (h1 : ∀ xs, u ≠ .tup xs) (h2 : ∀ x xs, u ≠ .frz x xs) (h3 : ∀ φ, u ≠ .ext φ := by intro _ z; cases z) (h4 : ∀ fs, u ≠ .xd fs := by intro _ z; cases z) : Le G H (upd H a o) := ⟨fun b vs q => by
  rcases q with (q | ⟨z, q⟩) | q
  · exact .inl (.inl (by rw [upd_ne (fun e => by subst e; rw [h] at q; exact h1 _ (Option.some.inj q))]; exact q))
  · exact .inl (.inr ⟨z, by rw [upd_ne (fun e => by subst e; rw [h] at q; exact h2 _ _ (Option.some.inj q))]; exact q⟩)
  · exact .inr q, fun b vs q => by
  rcases q with ⟨z, q⟩ | q
  · exact .inl ⟨z, by rw [upd_ne (fun e => by subst e; rw [h] at q; exact h2 _ _ (Option.some.inj q))]; exact q⟩
  · exact .inr q, fun b vs q => by rw [upd_ne (fun e => by subst e; rw [h] at q; exact h3 _ (Option.some.inj q))]; exact q, fun b vs q => by rw [upd_ne (fun e => by subst e; rw [h] at q; exact h4 _ (Option.some.inj q))]; exact q⟩
theorem Le.ext {G : Gx} {H H' : Hp} (x : ∀ b o, H b = some o → H' b = some o) : Le G H H' := ⟨fun b vs q => by
  rcases q with (q | ⟨z, q⟩) | q
  · exact .inl (.inl (x _ _ q))
  · exact .inl (.inr ⟨z, x _ _ q⟩)
  · exact .inr q, fun b vs q => by
  rcases q with ⟨z, q⟩ | q
  · exact .inl ⟨z, x _ _ q⟩
  · exact .inr q, fun b vs q => x _ _ q, fun b vs q => x _ _ q⟩

theorem pre_get {p p' : List Addr} (h : p <+: p') {n : Nat} {a : Addr} (e : p[n]? = some a) : p'[n]? = some a := by
  obtain ⟨r, rfl⟩ := h
  obtain ⟨hl, _⟩ := List.getElem?_eq_some_iff.mp e
  rw [List.getElem?_append_left hl]
  exact e

section
variable {G : Gx} {H H' : Hp} {p p' : List Addr}
mutual
theorem RelD.mono (l : Le G H H') (q : p <+: p') : ∀ {d : D} {v : V}, RelD G H p d v → RelD G H' p' d v
  | _, _, .non => .non
  | _, _, .bl b => .bl b
  | _, _, .int i => .int i
  | _, _, .str s => .str s
  | _, _, .tup h r => .tup (l.t _ _ h) (RelDs.mono l q r)
  | _, _, .ref e => .ref (pre_get q e)
  | _, _, .scr h => .scr (l.l _ _ h)
  | _, _, .kd g => .kd g
  | _, _, .fn f => .fn f
  | _, _, .exc h1 h2 h3 r => .exc (l.x _ _ h1) (l.d _ _ h2) h3 (RelD.mono l q r)
theorem RelDs.mono (l : Le G H H') (q : p <+: p') : ∀ {ds : List D} {vs : List V}, RelDs G H p ds vs → RelDs G H' p' ds vs
  | _, _, .nil => .nil
  | _, _, .cons r t => .cons (RelD.mono l q r) (RelDs.mono l q t)
end
theorem RelDs.length : ∀ {ds : List D} {vs : List V}, RelDs G H p ds vs → ds.length = vs.length
  | _, _, .nil => rfl
  | _, _, .cons _ t => congrArg (· + 1) t.length
theorem RelDs.get : ∀ {ds : List D} {vs : List V} {i : Nat} {d : D}, RelDs G H p ds vs → ds[i]? = some d → ∃ v, vs[i]? = some v ∧ RelD G H p d v
  | _, _, i, _, .nil, e => by simp at e
  | _, _, 0, _, .cons r _, e => by simp at e; subst e; exact ⟨_, rfl, r⟩
  | _, _, i + 1, d, .cons _ t, e => by
    obtain ⟨v, h1, h2⟩ := RelDs.get (i := i) (d := d) t (by simpa using e)
    exact ⟨v, by simpa using h1, h2⟩
theorem RelDs.getV : ∀ {ds : List D} {vs : List V} {i : Nat} {v : V}, RelDs G H p ds vs → vs[i]? = some v → ∃ d, ds[i]? = some d ∧ RelD G H p d v
  | _, _, i, _, .nil, e => by simp at e
  | _, _, 0, _, .cons r _, e => by simp at e; subst e; exact ⟨_, rfl, r⟩
  | _, _, i + 1, d, .cons _ t, e => by
    obtain ⟨v, h1, h2⟩ := RelDs.getV (i := i) t (by simpa using e)
    exact ⟨v, by simpa using h1, h2⟩
theorem RelDs.append : ∀ {ds es : List D} {vs us : List V}, RelDs G H p ds vs → RelDs G H p es us → RelDs G H p (ds ++ es) (vs ++ us)
  | _, _, _, _, .nil, s => s
  | _, _, _, _, .cons r t, s => .cons r (t.append s)
theorem RelDs.take : ∀ {ds : List D} {vs : List V} (n : Nat), RelDs G H p ds vs → RelDs G H p (ds.take n) (vs.take n)
  | _, _, 0, _ => .nil
  | _, _, _ + 1, .nil => .nil
  | _, _, n + 1, .cons r t => .cons r (t.take n)
theorem RelDs.drop : ∀ {ds : List D} {vs : List V} (n : Nat), RelDs G H p ds vs → RelDs G H p (ds.drop n) (vs.drop n)
  | _, _, 0, r => r
  | _, _, _ + 1, .nil => .nil
  | _, _, n + 1, .cons _ t => t.drop n
theorem RelDs.set {x : D} {u : V} (r : RelD G H p x u) : ∀ {ds : List D} {vs : List V} (i : Nat), RelDs G H p ds vs → RelDs G H p (ds.set i x) (vs.set i u)
  | _, _, _, .nil => .nil
  | _, _, 0, .cons _ t => .cons r t
  | _, _, i + 1, .cons q t => .cons q (RelDs.set r i t)
theorem RelDs.reverse {ds : List D} {vs : List V} (h : RelDs G H p ds vs) : RelDs G H p ds.reverse vs.reverse := by
  induction ds generalizing vs with
  | nil => cases h; exact .nil
  | cons d l ih =>
    cases h with
    | cons r t => rw [List.reverse_cons, List.reverse_cons]; exact (ih t).append (.cons r .nil)
theorem RelDs.rep {ds : List D} {vs : List V} (h : RelDs G H p ds vs) : ∀ k : Nat, RelDs G H p (List.replicate k ds).flatten (List.replicate k vs).flatten
  | 0 => .nil
  | k + 1 => by rw [List.replicate_succ, List.replicate_succ, List.flatten_cons, List.flatten_cons]; exact h.append (h.rep k)
theorem RelDs.dropLast {ds : List D} {vs : List V} (h : RelDs G H p ds vs) : RelDs G H p ds.dropLast vs.dropLast := by
  rw [List.dropLast_eq_take, List.dropLast_eq_take, h.length]; exact h.take _
/-- ints, bools -/
theorem RelDs.intsL : ∀ {ds : List D} {vs : List V} {ns : List Int}, RelDs G H p ds vs → intsOf ds = some ns → vs = ns.map V.int
  | _, _, _, .nil, e => by simp [intsOf] at e; subst e; rfl
  | _, _, ns, .cons (d := d) r t, e => by
    cases r <;> simp [intsOf] at e
    obtain ⟨ms, e1, rfl⟩ := e
    rw [t.intsL e1]; rfl
theorem RelDs.strsL : ∀ {ds : List D} {vs : List V} {ns : List (List Nat)}, RelDs G H p ds vs → strsOf ds = some ns → vs = ns.map fun s => V.str ⟨s.toArray⟩
  | _, _, _, .nil, e => by simp [strsOf] at e; subst e; rfl
  | _, _, ns, .cons (d := d) r t, e => by
    cases r <;> simp [strsOf] at e
    obtain ⟨ms, e1, rfl⟩ := e
    rw [t.strsL e1]; rfl
theorem RelDs.blsL : ∀ {ds : List D} {vs : List V} {ns : List Bool}, RelDs G H p ds vs → blsOf ds = some ns → vs = ns.map V.bl
  | _, _, _, .nil, e => by simp [blsOf] at e; subst e; rfl
  | _, _, ns, .cons (d := d) r t, e => by
    cases r <;> simp [blsOf] at e
    obtain ⟨ms, e1, rfl⟩ := e
    rw [t.blsL e1]; rfl
theorem RelDs.ofInts (ns : List Int) : RelDs G H p (ns.map D.int) (ns.map V.int) := by
  induction ns with
  | nil => exact .nil
  | cons n l ih => exact .cons (.int n) ih
end

/-- the fields of an instance -/
inductive RelF (G : Gx) (H : Hp) (p : List Addr) : List (Nat × D) → List (Str × V) → Prop
  | nil : RelF G H p [] []
  | cons {f : Nat} {d : D} {v : V} {l : List (Nat × D)} {vs : List (Str × V)} : RelD G H p d v → RelF G H p l vs → RelF G H p ((f, d) :: l) ((G.fN f, v) :: vs)
/-- the pairs of a dict -/
def keyR : D → Key → Prop
  | .int i, k => k = .inl i
  | .str s, k => k = .inr ⟨s.toArray⟩
  | _, _ => False
inductive RelK (G : Gx) (H : Hp) (p : List Addr) : List (D × D) → List (Key × V) → Prop
  | nil : RelK G H p [] []
  | cons {k d : D} {kk : Key} {v : V} {l : List (D × D)} {vs : List (Key × V)} : keyR k kk → RelD G H p d v → RelK G H p l vs → RelK G H p ((k, d) :: l) ((kk, v) :: vs)

section
variable {G : Gx} {H H' : Hp} {p p' : List Addr}
theorem RelF.mono (l : Le G H H') (q : p <+: p') : ∀ {fs : List (Nat × D)} {vs : List (Str × V)}, RelF G H p fs vs → RelF G H' p' fs vs
  | _, _, .nil => .nil
  | _, _, .cons r t => .cons (r.mono l q) (t.mono l q)
theorem RelK.mono (l : Le G H H') (q : p <+: p') : ∀ {fs : List (D × D)} {vs : List (Key × V)}, RelK G H p fs vs → RelK G H' p' fs vs
  | _, _, .nil => .nil
  | _, _, .cons e r t => .cons e (r.mono l q) (t.mono l q)
theorem RelF.length : ∀ {fs : List (Nat × D)} {vs : List (Str × V)}, RelF G H p fs vs → fs.length = vs.length
  | _, _, .nil => rfl
  | _, _, .cons _ t => congrArg (· + 1) t.length
theorem RelK.length : ∀ {fs : List (D × D)} {vs : List (Key × V)}, RelK G H p fs vs → fs.length = vs.length
  | _, _, .nil => rfl
  | _, _, .cons _ _ t => congrArg (· + 1) t.length
end

/-- what stands at an address -/
def RelO (G : Gx) (H : Hp) (p : List Addr) (a : Addr) : O → Prop
  | .lst l => ∃ vs, H a = some (.lst vs) ∧ RelDs G H p l vs
  | .dct kvs => ∃ vs, H a = some (.dK vs) ∧ RelK G H p kvs vs
  | .ins c fs => ∃ dx vs, H a = some (.ins (G.cA c) dx vs) ∧ RelF G H p fs vs

structure RelM (G : Gx) (p : List Addr) (h : Mem) (H : Hp) : Prop where
  len : p.length = h.length
  nd : p.Nodup
  at_ : ∀ (n : Nat) (o : O), h[n]? = some o → ∃ a, p[n]? = some a ∧ RelO G H p a o
structure RelS (G : Gx) (p : List Addr) (r : Env) (σ : L2.St) (H : Hp) : Prop where
  len : r.length = σ.length
  at_ : ∀ (i : Nat) (d : D), r[i]? = some (some d) → ∃ v, σ[i]? = some (some v) ∧ RelD G H p d v
theorem RelS.mono {G : Gx} {p p' : List Addr} {r : Env} {σ : L2.St} {H H' : Hp} (s : RelS G p r σ H) (l : Le G H H') (q : p <+: p') : RelS G p' r σ H' :=
  ⟨s.len, fun i d e => let ⟨v, h1, h2⟩ := s.at_ i d e; ⟨v, h1, h2.mono l q⟩⟩
theorem RelS.set {G : Gx} {p : List Addr} {r : Env} {σ : L2.St} {H : Hp} {d : D} {v : V} (s : RelS G p r σ H) (i : Nat) (x : RelD G H p d v) : RelS G p (r.set i (some d)) (σ.set i (some v)) H :=
  ⟨by rw [List.length_set, List.length_set]; exact s.len, fun j e h => by
    by_cases hj : i = j
    · subst hj
      obtain ⟨hl, he⟩ := List.getElem?_eq_some_iff.mp h
      rw [List.length_set] at hl
      rw [List.getElem?_set_self hl] at h
      cases h
      exact ⟨v, List.getElem?_set_self (s.len ▸ hl), x⟩
    · rw [List.getElem?_set_ne hj] at h ⊢
      exact s.at_ j e h⟩

section
variable {G : Gx} {p : List Addr} {h : Mem} {H : Hp}
theorem RelM.lst (m : RelM G p h H) {n : Nat} {a : Addr} {l : List D} (e : p[n]? = some a) (q : h[n]? = some (.lst l)) : ∃ vs, H a = some (.lst vs) ∧ RelDs G H p l vs := by
  obtain ⟨b, e', r⟩ := m.at_ n _ q
  rw [e] at e'; cases e'; exact r
theorem RelM.ins (m : RelM G p h H) {n c : Nat} {a : Addr} {fs : List (Nat × D)} (e : p[n]? = some a) (q : h[n]? = some (.ins c fs)) : ∃ dx vs, H a = some (.ins (G.cA c) dx vs) ∧ RelF G H p fs vs := by
  obtain ⟨b, e', r⟩ := m.at_ n _ q
  rw [e] at e'; cases e'; exact r
theorem RelM.rd (m : RelM G p h H) {n : Nat} {a : Addr} {l : List D} (e : p[n]? = some a) (q : rd h n = some l) : ∃ vs, SqL G.K H a vs ∧ RelDs G H p l vs := by
  unfold RG.rd at q
  cases x : h[n]? with
  | none => rw [x] at q; cases q
  | some o =>
    obtain ⟨b, e', r⟩ := m.at_ n _ x
    rw [e] at e'; cases e'
    rw [x] at q
    cases o with
    | lst l' => cases q; obtain ⟨vs, h1, h2⟩ := r; exact ⟨vs, SqL.of h1, h2⟩
    | dct _ => cases q
    | ins _ _ => cases q
/-- the memory has grown by a new thing -/
theorem RelM.new (m : RelM G p h H) {a : Addr} {o : O} {u : HO} (na : H a = none) (hp : ∀ b ∈ p, b ≠ a) (r : RelO G (upd H a u) (p ++ [a]) a o) : RelM G (p ++ [a]) (h ++ [o]) (upd H a u) where
  len := by rw [List.length_append, List.length_append, m.len]; rfl
  nd := by
    rw [List.nodup_append]
    exact ⟨m.nd, by simp, fun x hx y hy => by rw [List.mem_singleton] at hy; subst hy; exact hp x hx⟩
  at_ := fun n ob e => by
    have l : Le G H (upd H a u) := Le.new na
    have q : p <+: p ++ [a] := List.prefix_append _ _
    by_cases hn : n < h.length
    · rw [List.getElem?_append_left hn] at e
      obtain ⟨b, e1, r1⟩ := m.at_ n ob e
      refine ⟨b, pre_get q e1, ?_⟩
      have hb : b ≠ a := hp b (List.mem_of_getElem? e1)
      cases ob with
      | lst l' => obtain ⟨vs, h1, h2⟩ := r1; exact ⟨vs, by rw [upd_ne hb]; exact h1, h2.mono l q⟩
      | dct kvs => obtain ⟨vs, h1, h2⟩ := r1; exact ⟨vs, by rw [upd_ne hb]; exact h1, h2.mono l q⟩
      | ins c fs => obtain ⟨dx, vs, h1, h2⟩ := r1; exact ⟨dx, vs, by rw [upd_ne hb]; exact h1, h2.mono l q⟩
    · rw [List.getElem?_append_right (by omega)] at e
      have e0 : n - h.length = 0 := by
        cases z : n - h.length with
        | zero => rfl
        | succ k => rw [z] at e; simp at e
      rw [e0] at e
      have : ob = o := by simpa using e.symm
      subst this
      refine ⟨a, ?_, r⟩
      rw [List.getElem?_append_right (by rw [m.len]; omega), m.len, e0]
      rfl
/-- a thing of the memory has changed -/
theorem RelM.set (m : RelM G p h H) {n : Nat} {a : Addr} {o : O} {u u0 : HO} (e : p[n]? = some a) (hu : H a = some u0) (h1 : ∀ xs, u0 ≠ .tup xs) (h2 : ∀ x xs, u0 ≠ .frz x xs) (r : RelO G (upd H a u) p a o) (h3 : ∀ φ, u0 ≠ .ext φ := by intro _ z; cases z) (h4 : ∀ fs, u0 ≠ .xd fs := by intro _ z; cases z) : RelM G p (h.set n o) (upd H a u) where
  len := by rw [List.length_set]; exact m.len
  nd := m.nd
  at_ := fun k ob ek => by
    have l : Le G H (upd H a u) := Le.mut hu h1 h2 h3 h4
    have q : p <+: p := List.prefix_refl _
    by_cases hk : n = k
    · subst hk
      obtain ⟨hl, _⟩ := List.getElem?_eq_some_iff.mp ek
      rw [List.length_set] at hl
      rw [List.getElem?_set_self hl] at ek
      cases ek
      exact ⟨a, e, r⟩
    · rw [List.getElem?_set_ne hk] at ek
      obtain ⟨b, e1, r1⟩ := m.at_ k ob ek
      refine ⟨b, e1, ?_⟩
      have hb : b ≠ a := fun z => by
        subst z
        obtain ⟨l1, g1⟩ := List.getElem?_eq_some_iff.mp e
        obtain ⟨l2, g2⟩ := List.getElem?_eq_some_iff.mp e1
        exact hk ((List.getElem_inj m.nd).mp (g1.trans g2.symm))
      cases ob with
      | lst l' => obtain ⟨vs, h1, h2⟩ := r1; exact ⟨vs, by rw [upd_ne hb]; exact h1, h2.mono l q⟩
      | dct kvs => obtain ⟨vs, h1, h2⟩ := r1; exact ⟨vs, by rw [upd_ne hb]; exact h1, h2.mono l q⟩
      | ins c fs => obtain ⟨dx, vs, h1, h2⟩ := r1; exact ⟨dx, vs, by rw [upd_ne hb]; exact h1, h2.mono l q⟩
/-- new tuples, new things elsewhere -/
theorem RelM.ext (m : RelM G p h H) {H' : Hp} (x : ∀ b o, H b = some o → H' b = some o) : RelM G p h H' where
  len := m.len
  nd := m.nd
  at_ := fun k ob ek => by
    have l : Le G H H' := Le.ext x
    have q : p <+: p := List.prefix_refl _
    obtain ⟨b, e1, r1⟩ := m.at_ k ob ek
    refine ⟨b, e1, ?_⟩
    cases ob with
    | lst l' => obtain ⟨vs, h1, h2⟩ := r1; exact ⟨vs, x _ _ h1, h2.mono l q⟩
    | dct kvs => obtain ⟨vs, h1, h2⟩ := r1; exact ⟨vs, x _ _ h1, h2.mono l q⟩
    | ins c fs => obtain ⟨dx, vs, h1, h2⟩ := r1; exact ⟨dx, vs, x _ _ h1, h2.mono l q⟩
end
end RG

end

section
/-! RgSnd1: readings out of the language's functions; the simplest rules. -/
namespace RG
open PySem L2

theorem Out.bind_assoc {a b d : Type} (m : Out a) (f : a → Mem → Out b) (g : b → Mem → Out d) : (m.bind f).bind g = m.bind fun x h => (f x h).bind g := by
  cases m <;> rfl
theorem Out.bind_ok {a : Type} (m : Out a) : (m.bind fun x h => .ok x h) = m := by
  cases m <;> rfl

theorem RelM.fresh {G : Gx} {p : List Addr} {h : Mem} {H : Hp} (m : RelM G p h H) {a : Addr} (na : H a = none) : ∀ b ∈ p, b ≠ a := fun b hb e => by
  subst e
  obtain ⟨n, hn, e⟩ := List.getElem_of_mem hb
  have hn' : n < h.length := by rw [← m.len]; exact hn
  obtain ⟨c, e1, r⟩ := m.at_ n h[n] (by simp [hn'])
  have e2 : p[n]? = some b := by rw [List.getElem?_eq_getElem hn, e]
  rw [e2] at e1; cases e1
  cases ho : h[n] with
  | lst l => rw [ho] at r; obtain ⟨vs, h1, _⟩ := r; rw [na] at h1; cases h1
  | dct l => rw [ho] at r; obtain ⟨vs, h1, _⟩ := r; rw [na] at h1; cases h1
  | ins c fs => rw [ho] at r; obtain ⟨dx, vs, h1, _⟩ := r; rw [na] at h1; cases h1

/-- an exception of the program's own: its class, its one field -/
structure Xn where
  nm : Nat → Str
def RelX (G : Gx) (xn : Nat → Str) (H : Hp) (p : List Addr) : D → Value → Option Addr → Prop
  | .exc c x, cls, dd => cls = .ref (G.cA c) ∧ ∃ d v, dd = some d ∧ H d = some (.xd [(xn c, v)]) ∧ RelD G H p x v
  | _, _, _ => False

/-- what is wanted behind an expression -/
def PostE (G : Gx) (xn : Nat → Str) (p : List Addr) (σ : L2.St) (H : Hp) (W : WX) (Q : VK) : Out D → Prop
  | .ok d h' => ∀ p' v H', p <+: p' → Le G H H' → RelM G p' h' H' → RelD G H' p' d v → Q v H'
  | .exc x h' => ∀ p' cls dd H', p <+: p' → Le G H H' → RelM G p' h' H' → RelX G xn H' p' x cls dd → W cls dd σ H'
  | .stuck => False
def PostA (G : Gx) (xn : Nat → Str) (p : List Addr) (σ : L2.St) (H : Hp) (W : WX) (Q : List V → Hp → Prop) : Out (List D) → Prop
  | .ok d h' => ∀ p' v H', p <+: p' → Le G H H' → RelM G p' h' H' → RelDs G H' p' d v → Q v H'
  | .exc x h' => ∀ p' cls dd H', p <+: p' → Le G H H' → RelM G p' h' H' → RelX G xn H' p' x cls dd → W cls dd σ H'
  | .stuck => False
def PostT (G : Gx) (xn : Nat → Str) (p : List Addr) (σ : L2.St) (H : Hp) (W : WX) (Q : Bool → Hp → Prop) : Out Bool → Prop
  | .ok d h' => ∀ p' H', p <+: p' → Le G H H' → RelM G p' h' H' → Q d H'
  | .exc x h' => ∀ p' cls dd H', p <+: p' → Le G H H' → RelM G p' h' H' → RelX G xn H' p' x cls dd → W cls dd σ H'
  | .stuck => False
def PostS (G : Gx) (xn : Nat → Str) (p : List Addr) (H : Hp) (W : WX) (En : Ends) : Out Fl → Prop
  | .ok (.nx r') h' => ∀ p' σ' H', p <+: p' → Le G H H' → RelM G p' h' H' → RelS G p' r' σ' H' → En.nx σ' H'
  | .ok (.rt d) h' => ∀ p' v H', p <+: p' → Le G H H' → RelM G p' h' H' → RelD G H' p' d v → En.rt v H'
  | .ok (.xc x r') h' => ∀ p' cls dd σ' H', p <+: p' → Le G H H' → RelM G p' h' H' → RelS G p' r' σ' H' → RelX G xn H' p' x cls dd → W cls dd σ' H'
  | .exc _ _ => False
  | .stuck => False
/-- an operation upon values: it raises nothing -/
def PostV (G : Gx) (p : List Addr) (H : Hp) (Q : VK) : Out D → Prop
  | .ok d h' => ∀ p' v H', p <+: p' → Le G H H' → RelM G p' h' H' → RelD G H' p' d v → Q v H'
  | _ => False

def rE (G : Gx) (xn : Nat → Str) (W : WX) (f : Env → Mem → Out D) : TE := fun σ H Q => ∃ p r h, RelM G p h H ∧ RelS G p r σ H ∧ PostE G xn p σ H W Q (f r h)
def rA (G : Gx) (xn : Nat → Str) (W : WX) (f : Env → Mem → Out (List D)) : TA := fun σ H Q => ∃ p r h, RelM G p h H ∧ RelS G p r σ H ∧ PostA G xn p σ H W Q (f r h)
def rT (G : Gx) (xn : Nat → Str) (W : WX) (f : Env → Mem → Out Bool) : TT := fun σ H Q => ∃ p r h, RelM G p h H ∧ RelS G p r σ H ∧ PostT G xn p σ H W Q (f r h)
def rS (G : Gx) (xn : Nat → Str) (W : WX) (f : Env → Mem → Out Fl) : TS := fun En σ H => ∃ p r h, RelM G p h H ∧ RelS G p r σ H ∧ PostS G xn p H W En (f r h)

section
variable {G : Gx} {xn : Nat → Str} {p p' : List Addr} {σ : L2.St} {H H' : Hp} {W : WX} {h : Mem}
theorem PostE.mono {Q : VK} {o : Out D} (k : PostE G xn p σ H W Q o) (q : p <+: p') (l : Le G H H') : PostE G xn p' σ H' W Q o := by
  cases o with
  | ok d h' => exact fun p2 v H2 q2 l2 m r => k p2 v H2 (q.trans q2) (l.trans l2) m r
  | exc x h' => exact fun p2 c d H2 q2 l2 m r => k p2 c d H2 (q.trans q2) (l.trans l2) m r
  | stuck => exact k
theorem PostA.mono {Q : List V → Hp → Prop} {o : Out (List D)} (k : PostA G xn p σ H W Q o) (q : p <+: p') (l : Le G H H') : PostA G xn p' σ H' W Q o := by
  cases o with
  | ok d h' => exact fun p2 v H2 q2 l2 m r => k p2 v H2 (q.trans q2) (l.trans l2) m r
  | exc x h' => exact fun p2 c d H2 q2 l2 m r => k p2 c d H2 (q.trans q2) (l.trans l2) m r
  | stuck => exact k
theorem PostT.mono {Q : Bool → Hp → Prop} {o : Out Bool} (k : PostT G xn p σ H W Q o) (q : p <+: p') (l : Le G H H') : PostT G xn p' σ H' W Q o := by
  cases o with
  | ok d h' => exact fun p2 H2 q2 l2 m => k p2 H2 (q.trans q2) (l.trans l2) m
  | exc x h' => exact fun p2 c d H2 q2 l2 m r => k p2 c d H2 (q.trans q2) (l.trans l2) m r
  | stuck => exact k
theorem PostS.mono {En : Ends} {o : Out Fl} (k : PostS G xn p H W En o) (q : p <+: p') (l : Le G H H') : PostS G xn p' H' W En o := by
  cases o with
  | ok d h' => cases d with
    | nx r => exact fun p2 s H2 q2 l2 m r => k p2 s H2 (q.trans q2) (l.trans l2) m r
    | rt r => exact fun p2 s H2 q2 l2 m r => k p2 s H2 (q.trans q2) (l.trans l2) m r
    | xc x r' => exact fun p2 c d s H2 q2 l2 m r z => k p2 c d s H2 (q.trans q2) (l.trans l2) m r z
  | exc x h' => exact k
  | stuck => exact k
/-- an operation's end is an expression's end -/
theorem PostE.v {Q : VK} {o : Out D} (k : PostE G xn p σ H W Q o) (n : ∀ x h, o ≠ .exc x h) : PostV G p H Q o := by
  cases o with
  | ok d h' => exact k
  | exc x h' => exact absurd rfl (n x h')
  | stuck => exact k
/-- the first part of a text -/
theorem PostE.bind {Q Q' : VK} {o : Out D} {g : D → Mem → Out D} (k : PostE G xn p σ H W Q (o.bind g))
    (n : ∀ d h' p' v H', p <+: p' → Le G H H' → RelM G p' h' H' → RelD G H' p' d v → PostE G xn p' σ H' W Q (g d h') → Q' v H') : PostE G xn p σ H W Q' o := by
  cases o with
  | ok d h' => exact fun p2 v H2 q2 l2 m r => n d h' p2 v H2 q2 l2 m r (PostE.mono k q2 l2)
  | exc x h' => exact k
  | stuck => exact k
theorem PostE.bindS {En : Ends} {Q' : VK} {o : Out D} {r : Env} {g : D → Mem → Out Fl} (s : RelS G p r σ H) (k : PostS G xn p H W En (o.bs r g))
    (n : ∀ d h' p' v H', p <+: p' → Le G H H' → RelM G p' h' H' → RelD G H' p' d v → PostS G xn p' H' W En (g d h') → Q' v H') : PostE G xn p σ H W Q' o := by
  cases o with
  | ok d h' => exact fun p2 v H2 q2 l2 m r => n d h' p2 v H2 q2 l2 m r (PostS.mono k q2 l2)
  | exc x h' => exact fun p2 c d H2 q2 l2 m r => k p2 c d σ H2 q2 l2 m (s.mono l2 q2) r
  | stuck => exact k
theorem PostE.bindT {Q : Bool → Hp → Prop} {Q' : VK} {o : Out D} {g : D → Mem → Out Bool} (k : PostT G xn p σ H W Q (o.bind g))
    (n : ∀ d h' p' v H', p <+: p' → Le G H H' → RelM G p' h' H' → RelD G H' p' d v → PostT G xn p' σ H' W Q (g d h') → Q' v H') : PostE G xn p σ H W Q' o := by
  cases o with
  | ok d h' => exact fun p2 v H2 q2 l2 m r => n d h' p2 v H2 q2 l2 m r (PostT.mono k q2 l2)
  | exc x h' => exact k
  | stuck => exact k
theorem PostE.bindA {Q : List V → Hp → Prop} {Q' : VK} {o : Out D} {g : D → Mem → Out (List D)} (k : PostA G xn p σ H W Q (o.bind g))
    (n : ∀ d h' p' v H', p <+: p' → Le G H H' → RelM G p' h' H' → RelD G H' p' d v → PostA G xn p' σ H' W Q (g d h') → Q' v H') : PostE G xn p σ H W Q' o := by
  cases o with
  | ok d h' => exact fun p2 v H2 q2 l2 m r => n d h' p2 v H2 q2 l2 m r (PostA.mono k q2 l2)
  | exc x h' => exact k
  | stuck => exact k
theorem PostA.bind {Q : VK} {Q' : List V → Hp → Prop} {o : Out (List D)} {g : List D → Mem → Out D} (k : PostE G xn p σ H W Q (o.bind g))
    (n : ∀ d h' p' v H', p <+: p' → Le G H H' → RelM G p' h' H' → RelDs G H' p' d v → PostE G xn p' σ H' W Q (g d h') → Q' v H') : PostA G xn p σ H W Q' o := by
  cases o with
  | ok d h' => exact fun p2 v H2 q2 l2 m r => n d h' p2 v H2 q2 l2 m r (PostE.mono k q2 l2)
  | exc x h' => exact k
  | stuck => exact k
theorem PostA.bindA {Q Q' : List V → Hp → Prop} {o : Out (List D)} {g : List D → Mem → Out (List D)} (k : PostA G xn p σ H W Q (o.bind g))
    (n : ∀ d h' p' v H', p <+: p' → Le G H H' → RelM G p' h' H' → RelDs G H' p' d v → PostA G xn p' σ H' W Q (g d h') → Q' v H') : PostA G xn p σ H W Q' o := by
  cases o with
  | ok d h' => exact fun p2 v H2 q2 l2 m r => n d h' p2 v H2 q2 l2 m r (PostA.mono k q2 l2)
  | exc x h' => exact k
  | stuck => exact k
theorem PostT.bind {Q : VK} {Q' : Bool → Hp → Prop} {o : Out Bool} {g : Bool → Mem → Out D} (k : PostE G xn p σ H W Q (o.bind g))
    (n : ∀ d h' p' H', p <+: p' → Le G H H' → RelM G p' h' H' → PostE G xn p' σ H' W Q (g d h') → Q' d H') : PostT G xn p σ H W Q' o := by
  cases o with
  | ok d h' => exact fun p2 H2 q2 l2 m => n d h' p2 H2 q2 l2 m (PostE.mono k q2 l2)
  | exc x h' => exact k
  | stuck => exact k
theorem PostT.bindT {Q Q' : Bool → Hp → Prop} {o : Out Bool} {g : Bool → Mem → Out Bool} (k : PostT G xn p σ H W Q (o.bind g))
    (n : ∀ d h' p' H', p <+: p' → Le G H H' → RelM G p' h' H' → PostT G xn p' σ H' W Q (g d h') → Q' d H') : PostT G xn p σ H W Q' o := by
  cases o with
  | ok d h' => exact fun p2 H2 q2 l2 m => n d h' p2 H2 q2 l2 m (PostT.mono k q2 l2)
  | exc x h' => exact k
  | stuck => exact k
theorem PostT.bindS {En : Ends} {Q' : Bool → Hp → Prop} {o : Out Bool} {r : Env} {g : Bool → Mem → Out Fl} (s : RelS G p r σ H) (k : PostS G xn p H W En (o.bs r g))
    (n : ∀ d h' p' H', p <+: p' → Le G H H' → RelM G p' h' H' → PostS G xn p' H' W En (g d h') → Q' d H') : PostT G xn p σ H W Q' o := by
  cases o with
  | ok d h' => exact fun p2 H2 q2 l2 m => n d h' p2 H2 q2 l2 m (PostS.mono k q2 l2)
  | exc x h' => exact fun p2 c d H2 q2 l2 m r => k p2 c d σ H2 q2 l2 m (s.mono l2 q2) r
  | stuck => exact k
theorem PostV.e {Q : VK} {o : Out D} (k : PostV G p H Q o) : PostE G xn p σ H W Q o := by
  cases o with
  | ok d h' => exact k
  | exc x h' => exact k.elim
  | stuck => exact k
end

theorem PE.imp {X : Cx} {e : Expr} {t t' : TE} (x : PE X e t) (k : ∀ σ H Q, t' σ H Q → t σ H Q) : PE X e t' := ⟨fun pins s σ H Q I w => x.run pins s σ H Q I (k σ H Q w)⟩
theorem PT.imp {X : Cx} {e : Expr} {t t' : TT} (x : PT X e t) (k : ∀ σ H Q, t' σ H Q → t σ H Q) : PT X e t' := ⟨fun pins s σ H Q I w => x.run pins s σ H Q I (k σ H Q w)⟩
theorem PW.imp {X : Cx} {e : Expr} {t t' : TT} (x : PW X e t) (k : ∀ σ H Q, t' σ H Q → t σ H Q) : PW X e t' := ⟨fun wh pins s σ H Q I w => x.run wh pins s σ H Q I (k σ H Q w)⟩
theorem PA.imp {X : Cx} {e : List Expr} {t t' : TA} (x : PA X e t) (k : ∀ σ H Q, t' σ H Q → t σ H Q) : PA X e t' := ⟨fun pos pins s σ H Q I w => x.run pos pins s σ H Q I (k σ H Q w)⟩
theorem PS.imp {X : Cx} {e : Stmt} {t t' : TS} (x : PS X e t) (k : ∀ D σ H, t' D σ H → t D σ H) : PS X e t' := ⟨fun pins s σ H D I w => x.run pins s σ H D I (k D σ H w)⟩
theorem PSs.imp {X : Cx} {e : List Stmt} {t t' : TS} (x : PSs X e t) (k : ∀ D σ H, t' D σ H → t D σ H) : PSs X e t' := ⟨fun pins s σ H D I w => x.run pins s σ H D I (k D σ H w)⟩

/-- an operation of two values, by the layer's rule -/
def Pr2 (G : Gx) (r : R2) (f : D → D → Mem → Out D) : Prop := ∀ p h H x y d e Q, RelM G p h H → RelD G H p d x → RelD G H p e y → PostV G p H Q (f d e h) → r x y H Q
def Pr1 (G : Gx) (r : V → Hp → VK → Prop) (f : D → Mem → Out D) : Prop := ∀ p h H x d Q, RelM G p h H → RelD G H p d x → PostV G p H Q (f d h) → r x H Q
/-- a call upon values -/
def PrN (G : Gx) (r : List V → Hp → VK → Prop) (f : List D → Mem → Out D) : Prop := ∀ p h H xs ds Q, RelM G p h H → RelDs G H p ds xs → PostV G p H Q (f ds h) → r xs H Q

section
variable {X : Cx} {G : Gx} {xn : Nat → Str} {W : WX} {a b : Expr} {pos : Pos} {fa fb : Env → Mem → Out D}
def NoX (o : Out D) : Prop := ∀ x h, o ≠ .exc x h
theorem s_op {op : Operator} {r : R2} {f : D → D → Mem → Out D} (ho : OpR X (binaryOp op) r) (hp : Pr2 G r f) (nx : ∀ d e h, NoX (f d e h)) (ha : PE X a (rE G xn W fa)) (hb : PE X b (rE G xn W fb)) :
    PE X (.BinOp a op b pos) (rE G xn W fun r h => (fa r h).bind fun x h => (fb r h).bind fun y h => f x y h) :=
  PE.imp (pe_op ho ha hb) fun σ H Q ⟨p, r, h, m, s, k⟩ => ⟨p, r, h, m, s, PostE.bind (o := fa r h) k fun d h1 p1 v H1 q1 l1 m1 r1 k1 =>
    ⟨p1, r, h1, m1, s.mono l1 q1, PostE.bind (o := fb r h1) k1 fun e h2 p2 u H2 q2 l2 m2 r2 k2 => hp p2 h2 H2 v u d e Q m2 (r1.mono l2 q2) r2 (k2.v (nx d e h2))⟩⟩
theorem s_cmp {op : CmpOp} {r : R2} {f : D → D → Mem → Out D} (ho : OpR X (compareOp op) r) (hp : Pr2 G r f) (nx : ∀ d e h, NoX (f d e h)) (ha : PE X a (rE G xn W fa)) (hb : PE X b (rE G xn W fb)) (hm : behindInMarks op b = false) :
    PE X (.Compare a [op] [b] pos) (rE G xn W fun r h => (fa r h).bind fun x h => (fb r h).bind fun y h => f x y h) :=
  PE.imp (pe_cmpR ho ha hb hm) fun σ H Q ⟨p, r, h, m, s, k⟩ => ⟨p, r, h, m, s, PostE.bind (o := fa r h) k fun d h1 p1 v H1 q1 l1 m1 r1 k1 =>
    ⟨p1, r, h1, m1, s.mono l1 q1, PostE.bind (o := fb r h1) k1 fun e h2 p2 u H2 q2 l2 m2 r2 k2 => hp p2 h2 H2 v u d e Q m2 (r1.mono l2 q2) r2 (k2.v (nx d e h2))⟩⟩
theorem s_ix {r : R2} {f : D → D → Mem → Out D} (ho : IxR X r) (hp : Pr2 G r f) (nx : ∀ d e h, NoX (f d e h)) (ha : PE X a (rE G xn W fa)) (hb : PE X b (rE G xn W fb)) (hs : PlainIx b) :
    PE X (.Subscript a b pos) (rE G xn W fun r h => (fa r h).bind fun x h => (fb r h).bind fun y h => f x y h) :=
  PE.imp (pe_ix ho ha hb hs) fun σ H Q ⟨p, r, h, m, s, k⟩ => ⟨p, r, h, m, s, PostE.bind (o := fa r h) k fun d h1 p1 v H1 q1 l1 m1 r1 k1 =>
    ⟨p1, r, h1, m1, s.mono l1 q1, PostE.bind (o := fb r h1) k1 fun e h2 p2 u H2 q2 l2 m2 r2 k2 => hp p2 h2 H2 v u d e Q m2 (r1.mono l2 q2) r2 (k2.v (nx d e h2))⟩⟩
theorem s_un {op : UnaryOp} {r : V → Hp → VK → Prop} {f : D → Mem → Out D} (ho : UnR X (unaryOp op) r) (hp : Pr1 G r f) (nx : ∀ d h, NoX (f d h)) (ha : PE X a (rE G xn W fa)) :
    PE X (.UnaryOp op a pos) (rE G xn W fun r h => (fa r h).bind fun x h => f x h) :=
  PE.imp (pe_un ho ha) fun σ H Q ⟨p, r, h, m, s, k⟩ => ⟨p, r, h, m, s, PostE.bind (o := fa r h) k fun d h1 p1 v H1 q1 l1 m1 r1 k1 => hp p1 h1 H1 v d Q m1 r1 (k1.v (nx d h1))⟩
theorem s_var {i : Nat} {x : Str} (hN : X.N[i]? = some x) (hv : Vis X.env.scope x) (hd : (x == ("__debug__" : Str)) = false) (hcd : (x == ("__classdict__" : Str)) = false) :
    PE X (.Name x pos) (rE G xn W fun r h => match r[i]? with | some (some d) => .ok d h | _ => .stuck) :=
  PE.imp (pe_var hN hv hd hcd) fun σ H Q ⟨p, r, h, m, s, k⟩ => by
    dsimp only at k
    cases e : r[i]? with
    | none => rw [e] at k; exact k.elim
    | some o => cases o with
      | none => rw [e] at k; exact k.elim
      | some d =>
        rw [e] at k
        obtain ⟨v, h1, h2⟩ := s.at_ i d e
        exact ⟨v, h1, k p v H (List.prefix_refl _) (Le.refl H) m h2⟩
theorem s_cst {e : Expr} {v : V} {d : D} (hc : PE X e (tC v)) (hr : ∀ H p, RelD G H p d v) : PE X e (rE G xn W fun _ h => .ok d h) :=
  PE.imp hc fun σ H Q ⟨p, r, h, m, s, k⟩ => k p v H (List.prefix_refl _) (Le.refl H) m (hr H p)

/-! ### arguments -/
theorem s_nil : PA X [] (rA G xn W fun _ h => .ok [] h) := PA.imp pa_nil fun σ H Q ⟨p, r, h, m, s, k⟩ => k p [] H (List.prefix_refl _) (Le.refl H) m .nil
theorem s_cons {es : List Expr} {f : Env → Mem → Out (List D)} (ha : PE X a (rE G xn W fa)) (hr : PA X es (rA G xn W f)) (hs : starEach (a :: es) X.env = (false, eval a X.env) :: starEach es X.env) :
    PA X (a :: es) (rA G xn W fun r h => (fa r h).bind fun d h => (f r h).bind fun ds h => .ok (d :: ds) h) :=
  PA.imp (pa_cons ha hr hs) fun σ H Q ⟨p, r, h, m, s, k⟩ => ⟨p, r, h, m, s, PostE.bindA (o := fa r h) k fun d h1 p1 v H1 q1 l1 m1 r1 k1 =>
    ⟨p1, r, h1, m1, s.mono l1 q1, PostA.bindA (o := f r h1) k1 fun ds h2 p2 vs H2 q2 l2 m2 r2 k2 => k2 p2 (v :: vs) H2 (List.prefix_refl _) (Le.refl H2) m2 (.cons (r1.mono l2 q2) r2)⟩⟩
theorem s_tup {es : List Expr} {x1 : Nat} {f : Env → Mem → Out (List D)} (h : PA X es (rA G xn W f)) :
    PE X (.Tuple es x1 pos) (rE G xn W fun r h => (f r h).bind fun ds h => if ds.length ≤ sizeLine then .ok (.tup ds) h else .stuck) :=
  PE.imp (pe_tup h) fun σ H Q ⟨p, r, h, m, s, k⟩ => ⟨p, r, h, m, s, PostA.bind (o := f r h) k fun ds h1 p1 vs H1 q1 l1 m1 r1 k1 => by
    by_cases c : ds.length ≤ sizeLine
    · rw [if_pos c] at k1
      refine ⟨r1.length ▸ c, fun a na => ?_⟩
      exact k1 p1 (.ref a) _ (List.prefix_refl _) (Le.new na) (m1.ext fun b o e => by rw [upd_ne (ne_of_none e na)]; exact e) (.tup (SqT.of upd_same) (r1.mono (Le.new na) (List.prefix_refl _)))
    · rw [if_neg c] at k1
      exact k1.elim⟩
/-- a new list -/
theorem post_new {p : List Addr} {h : Mem} {H : Hp} {Q : VK} {o : O} {u : HO} (k : PostV G p H Q (new o h)) (m : RelM G p h H) (r : ∀ a, H a = none → RelO G (upd H a u) (p ++ [a]) a o) : ∀ a, H a = none → Q (.ref a) (upd H a u) := fun a na =>
  k (p ++ [a]) (.ref a) _ (List.prefix_append _ _) (Le.new na) (m.new na (m.fresh na) (r a na)) (.ref (by rw [← m.len]; simp))
theorem s_lst {es : List Expr} {f : Env → Mem → Out (List D)} (h : PA X es (rA G xn W f)) :
    PE X (.List es pos) (rE G xn W fun r h => (f r h).bind fun ds h => if ds.length ≤ sizeLine then new (.lst ds) h else .stuck) :=
  PE.imp (pe_lst h) fun σ H Q ⟨p, r, h, m, s, k⟩ => ⟨p, r, h, m, s, PostA.bind (o := f r h) k fun ds h1 p1 vs H1 q1 l1 m1 r1 k1 => by
    by_cases c : ds.length ≤ sizeLine
    · rw [if_pos c] at k1
      exact ⟨r1.length ▸ c, post_new (k1.v (by intro x h z; cases z)) m1 fun a na => ⟨vs, upd_same, r1.mono (Le.new na) (List.prefix_append _ _)⟩⟩
    · rw [if_neg c] at k1
      exact k1.elim⟩
/-- a built-in's call -/
theorem s_callB {es : List Expr} {f : Env → Mem → Out (List D)} {g : List D → Mem → Out D} {rr : List V → Hp → VK → Prop} {x : Str} {q : Pos} {id : String} (hc : CallR X (.builtin id) rr) (hp : PrN G rr g) (nx : ∀ ds h, NoX (g ds h)) (hg : Gl X x) (hm : X.mg x = none) (hv : bootBuiltins x = some (.builtin id)) (ha : PA X (a :: es) (rA G xn W f))
    (hn : x ≠ "__name__") (hdb : (x == ("__debug__" : Str)) = false) (he : starEach (a :: es) X.env = (false, eval a X.env) :: starEach es X.env) (hpl : (backTo pos (starEach es X.env)).any (·.1) = false) :
    PE X (.Call (.Name x q) (a :: es) [] pos) (rE G xn W fun r h => (f r h).bind fun ds h => g ds h) :=
  PE.imp (pe_callB hc hg hm hv ha hn hdb he hpl) fun σ H Q ⟨p, r, h, m, s, k⟩ => ⟨p, r, h, m, s, PostA.bind (o := f r h) k fun ds h1 p1 vs H1 q1 l1 m1 r1 k1 => hp p1 h1 H1 vs ds Q m1 r1 (k1.v (nx ds h1))⟩
theorem s_callTy {es : List Expr} {f : Env → Mem → Out (List D)} {g : List D → Mem → Out D} {rr : List V → Hp → VK → Prop} {x : Str} {q : Pos} {id : String} (hc : CallR X (.type id) rr) (hp : PrN G rr g) (nx : ∀ ds h, NoX (g ds h)) (hg : Gl X x) (hm : X.mg x = none) (hv : bootBuiltins x = some (.type id)) (ha : PA X (a :: es) (rA G xn W f))
    (hn : x ≠ "__name__") (hdb : (x == ("__debug__" : Str)) = false) (he : starEach (a :: es) X.env = (false, eval a X.env) :: starEach es X.env) (hpl : (backTo pos (starEach es X.env)).any (·.1) = false) :
    PE X (.Call (.Name x q) (a :: es) [] pos) (rE G xn W fun r h => (f r h).bind fun ds h => g ds h) :=
  PE.imp (pe_callTy hc hg hm hv ha hn hdb he hpl) fun σ H Q ⟨p, r, h, m, s, k⟩ => ⟨p, r, h, m, s, PostA.bind (o := f r h) k fun ds h1 p1 vs H1 q1 l1 m1 r1 k1 => hp p1 h1 H1 vs ds Q m1 r1 (k1.v (nx ds h1))⟩
end
end RG

end

section
/-! RgTm: a tuple times 1, or times 0 and less. -/
namespace RG
open PySem PySem.Spec L2 PyProof.Rows
theorem tm_self (l : Addr) (its : Array Value) (m : Nat) (dd : Option Addr) (slo : Array (Option Value)) (x : Int) (tk : Tok) (k0 : (decide (x < -(2 ^ 63)) || decide (x ≥ 2 ^ 63)) = false) (k1 : (its.isEmpty || x == 1) = true) :
    Meets (Builtin.«tuple.__mul__» ⟨[.ref l, .int x tk], []⟩) (fun _ R st => st.heap.get? l = some ⟨.type "tuple", dd, .seq its m, slo⟩ ∧ R (.ok (.ret (.ref l))) st) :=
  .of_wp fun prog w A R st hh => by
    obtain ⟨he, ge, dr, tq, oo⟩ := st
    obtain ⟨hg, hq⟩ := hh
    have idx := AutoSeq1.idx_int
    wp_walk using wpAny_loadPart' hg
    refine wpAny_ite_false (decide_eq_false (by rw [k0]; exact Bool.false_ne_true)) ?_
    wp_walk using wpAny_loadPart' hg
    exact ⟨_, rfl, hq⟩
theorem tm_none (l : Addr) (its : Array Value) (m : Nat) (dd : Option Addr) (slo : Array (Option Value)) (x : Int) (tk : Tok) (k0 : (decide (x < -(2 ^ 63)) || decide (x ≥ 2 ^ 63)) = false) (k1 : (its.isEmpty || x == 1) = false) (k2 : (decide (x ≤ 0) || its.isEmpty) = true) :
    Meets (Builtin.«tuple.__mul__» ⟨[.ref l, .int x tk], []⟩) (fun _ R st => st.heap.get? l = some ⟨.type "tuple", dd, .seq its m, slo⟩ ∧ R (.ok (.ret (.ref st.heap.objs.size))) { st with heap := st.heap.push { cls := .type "tuple", data := .seq #[] } }) :=
  .of_wp fun prog w A R st hh => by
    obtain ⟨he, ge, dr, tq, oo⟩ := st
    obtain ⟨hg, hq⟩ := hh
    have idx := AutoSeq1.idx_int
    wp_walk using wpAny_loadPart' hg
    refine wpAny_ite_false (decide_eq_false (by rw [k0]; exact Bool.false_ne_true)) ?_
    wp_walk using wpAny_loadPart' hg
    exact ⟨_, rfl, hq⟩
def rRep0 (K : PySem.W.Frag) : R2 := fun x y H Q => ∃ (l : Addr) (k : Int) (xs : List V), x = .ref l ∧ y = .int k ∧ SqT K H l xs ∧ -(2 ^ 63) ≤ k ∧ k ≤ 1 ∧ ((xs = [] ∨ k = 1) → Q (.ref l) H) ∧ (xs ≠ [] → k ≤ 0 → ∀ p, H p = none → Q (.ref p) (upd H p (.tup [])))
theorem op_rep0 {X : Cx} : OpR X (binaryOp .Mult) (rRep0 X.K) := by
  intro pins s σ H x y v u Q I rx ry h
  obtain ⟨l, k, xs, rfl, rfl, hT, g1, g2, q1, q2⟩ := h
  cases rx
  obtain ⟨tk, rfl⟩ := ry
  obtain ⟨its, r, ⟨⟨cls, dd, data, slo⟩, ho, hcl, m, hda⟩, hs⟩ := I.tuple hT
  simp only at hcl hda
  subst hcl hda
  have ke : (decide (k < -(2 ^ 63)) || decide (k ≥ 2 ^ 63)) = false := by
    have a1 : ¬ k < -(2 ^ 63) := by omega
    have a2 : ¬ k ≥ 2 ^ 63 := by omega
    rw [decide_eq_false a1, decide_eq_false a2]; rfl
  have emp : its.toArray.isEmpty = true ↔ xs = [] := by
    have hle : xs.length = its.length := r.length
    cases its <;> cases xs <;> simp at hle ⊢
  by_cases c : xs = [] ∨ k = 1
  · have k1 : (its.toArray.isEmpty || k == 1) = true := by
      rw [Bool.or_eq_true]
      rcases c with c | c
      · exact .inl (emp.mpr c)
      · exact .inr (by rw [c]; rfl)
    refine wpAny_binaryOp_repeat_ref (T := "tuple") (U := "int") (by decide) ⟨_, ho, rfl⟩ (fun s' => typeIs_int s' k tk) noFill_tuple_mul F.fills_int_mul F.slot_int_rmul repeat_tuple F.slot_int_index.lookup ?_
    refine call_meets F.slot_int_rmul (typeIs_int s k tk) F.entry_int_rmul (F.args_int_rmul_2 _ _) (int_rmul_tuple k tk l its.toArray m dd slo) ⟨ho, rfl, ⟨_, ho, rfl⟩, ?_⟩
    exact call_meets F.slot_tuple_mul ⟨_, ho, rfl⟩ F.entry_tuple_mul (F.args_tuple_mul_2 _ _) (tm_self l its.toArray m dd slo k tk ke k1) ⟨ho, .ref l, H, I, rfl, q1 c⟩
  · have nx : xs ≠ [] := fun z => c (.inl z)
    have n1 : k ≠ 1 := fun z => c (.inr z)
    have ni : its.toArray.isEmpty = false := by
      cases e : its.toArray.isEmpty with
      | false => rfl
      | true => exact absurd (emp.mp e) nx
    have k1 : (its.toArray.isEmpty || k == 1) = false := by rw [ni, Bool.false_or]; exact beq_eq_false_iff_ne.mpr n1
    have k2 : (decide (k ≤ 0) || its.toArray.isEmpty) = true := by
      have : k ≤ 0 := by omega
      simp [this]
    refine wpAny_binaryOp_repeat_ref (T := "tuple") (U := "int") (by decide) ⟨_, ho, rfl⟩ (fun s' => typeIs_int s' k tk) noFill_tuple_mul F.fills_int_mul F.slot_int_rmul repeat_tuple F.slot_int_index.lookup ?_
    refine call_meets F.slot_int_rmul (typeIs_int s k tk) F.entry_int_rmul (F.args_int_rmul_2 _ _) (int_rmul_tuple k tk l its.toArray m dd slo) ⟨ho, rfl, ⟨_, ho, rfl⟩, ?_⟩
    refine call_meets F.slot_tuple_mul ⟨_, ho, rfl⟩ F.entry_tuple_mul (F.args_tuple_mul_2 _ _) (tm_none l its.toArray m dd slo k tk ke k1 k2) ⟨ho, ?_⟩
    refine ⟨.ref s.heap.objs.size, _, I.laid (t' := s.toks) (o := .tup []) (fun b ob q => Heap.get?_push_of_some _ q) (Nat.le_refl _) ?_, rfl, q2 nx (by omega) _ (I.hok.fresh (Nat.le_refl _))⟩
    exact ⟨Nat.zero_le _, _, .nil, IsTup.new _ _⟩
end RG

end

section
/-! RgRv: t[::-1], t a tuple. -/
namespace RG
open PySem PySem.Spec L2 PyProof.Rows
section
variable {prog : Program} {w : World} {A : Around} {Er : Value → Shared → Prop} {s : Shared}
theorem adj_rev (m : Nat) : Builtin.Slice.sliceAdjust none none (-1) (m : Int) = ((m : Int) - 1, -1) := by
  simp [Builtin.Slice.sliceAdjust]
theorem pla_rev (m : Nat) : Builtin.Slice.slicePlaces ((m : Int) - 1) (-1) (-1) = m := by
  unfold Builtin.Slice.slicePlaces
  rw [if_neg (by decide)]
  by_cases c : m = 0
  · subst c; decide
  · rw [if_pos (by omega), show (- (-1 : Int)) = 1 from rfl, Int.ediv_one]
    omega
theorem sla_rev {sl : Addr} {va vb vc : Value} {m : Nat} {Q : Int × Int × Nat → Shared → Prop} (hs : s.heap.IsSliceOf sl va vb vc) (p1 : IsPart va none) (p2 : IsPart vb none) (p3 : IsPart vc (some (-1))) (hq : Q ((m : Int) - 1, -1, m) s) :
    wpAny (model prog w) A (Builtin.Slice.sliceApplied (.ref sl) (pure (m : Int))) Q Er s := by
  obtain ⟨ob, e1, e2, e3⟩ := id hs
  unfold Builtin.Slice.sliceApplied Builtin.Slice.sliceFields
  refine wpAny_bind (wpAny_bind (wpAny_field e1 e3 (x := va) rfl ?_))
  refine wpAny_bind (wpAny_field e1 e3 (x := vb) rfl ?_)
  refine wpAny_bind (wpAny_field e1 e3 (x := vc) rfl (wpAny_pure ?_))
  refine wpAny_bind (HT.slicePart_ p3 ?_)
  show wpAny _ _ (if ((-1 : Int) == 0) = true then _ else _) _ _ s
  rw [if_neg (by decide)]
  refine wpAny_bind (HT.slicePart_ p1 (wpAny_bind (HT.slicePart_ p2 (wpAny_bind (wpAny_pure ?_)))))
  show wpAny _ _ (match Builtin.Slice.sliceAdjust none none (-1) (m : Int) with | (lo, hi) => pure (lo, (-1 : Int), Builtin.Slice.slicePlaces lo hi (-1))) _ _ s
  rw [adj_rev]
  show wpAny _ _ (pure ((m : Int) - 1, (-1 : Int), Builtin.Slice.slicePlaces ((m : Int) - 1) (-1) (-1))) _ _ s
  rw [pla_rev]
  exact wpAny_pure hq
theorem pick_rev (xs : Array Value) : ((List.range xs.size).filterMap fun (k : Nat) => xs[(((xs.size : Int) - 1) + (k : Int) * (-1)).toNat]?).toArray = xs.toList.reverse.toArray := by
  congr 1
  have e : ∀ k ∈ List.range xs.size, xs[(((xs.size : Int) - 1) + (k : Int) * (-1)).toNat]? = xs.toList.reverse[k]? := by
    intro k hk
    have hk := List.mem_range.mp hk
    have h1 : (((xs.size : Int) - 1) + (k : Int) * (-1)).toNat = xs.size - 1 - k := by omega
    rw [h1, List.getElem?_reverse (by simpa using hk)]
    simp
  have cg : ∀ (l : List Nat) (f g : Nat → Option Value), (∀ k ∈ l, f k = g k) → l.filterMap f = l.filterMap g := by
    intro l f g hfg
    induction l with
    | nil => rfl
    | cons a l ih => rw [List.filterMap_cons, List.filterMap_cons, hfg a List.mem_cons_self, ih fun k hk => hfg k (List.mem_cons_of_mem _ hk)]
  rw [cg _ _ _ e]
  have : ∀ l : List Value, (List.range l.length).filterMap (fun k => l[k]?) = l := by
    intro l
    induction l with
    | nil => rfl
    | cons a l ih =>
      rw [List.length_cons, List.range_succ_eq_map, List.filterMap_cons]
      simp only [List.getElem?_cons_zero, List.filterMap_map]
      have : ((fun k => (a :: l)[k]?) ∘ Nat.succ) = fun k => l[k]? := by funext k; simp
      rw [this, ih]
  have z := this xs.toList.reverse
  rw [List.length_reverse, Array.length_toList] at z
  exact z
theorem get_rev {t sl : Addr} {its : Array Value} {va vb vc : Value} {Q : Value → Shared → Prop} (ht : IsTup s.heap t its) (hs : s.heap.IsSliceOf sl va vb vc) (p1 : IsPart va none) (p2 : IsPart vb none) (p3 : IsPart vc (some (-1)))
    (hq : Q (.ref s.heap.objs.size) { s with heap := s.heap.push { cls := .type "tuple", data := .seq its.toList.reverse.toArray } }) (hz : its.size ≤ sizeLine) : wpAny (model prog w) A (getItem (.ref t) (.ref sl)) Q Er s := by
  have fits : sizeOk (.seq its.toList.reverse.toArray) := by
    show its.toList.reverse.toArray.size ≤ sizeLine
    rw [List.size_toArray, List.length_reverse, Array.length_toList]
    exact hz
  obtain ⟨ob, e1, e2, e3⟩ := id hs
  have tys : s.TypeIs (.ref sl) "slice" := ⟨ob, e1, e2⟩
  unfold getItem
  try with_reducible refine wpAny_holding ?_
  first | refine wpAny_bind (wpAny_pure ?_) | skip
  refine wpAny_bind (wpAny_sequenceKey ht.typeIs (by decide) ?_)
  refine wpAny_bind (wpAny_callSpecial?_slot (name := Str.ofString "__getitem__") ht.typeIs PyProof.Rows.slot_tuple_getitem (wpAny_call_entry PyProof.Rows.slot_tuple_getitem ht.typeIs entry_tuple_getitem ?_ (args_tuple_getitem _ _)))
  show wpAny _ _ (Builtin.Tuple.tupleItemsOf (.ref t) >>= _) _ _ s
  refine wpAny_bind (tupleItemsOf_ ht (wpAny_bind (wpAny_typeOf tys ?_)))
  rw [if_pos (by decide)]
  refine wpAny_bind (sla_rev hs p1 p2 p3 ?_)
  show wpAny _ _ (if ((((its.size : Int) - 1) == 0 && (-1 : Int) == 1 && its.size == its.size) = true) then _ else _) _ _ s
  have no : ¬ ((((its.size : Int) - 1) == 0 && (-1 : Int) == 1 && its.size == its.size) = true) := by
    have : ((-1 : Int) == 1) = false := by decide
    rw [this]
    simp
  rw [if_neg no, pick_rev]
  first
    | exact wpAny_bind (m := Builtin.Tuple.tupleExact _) (wpAny_newObj_type (wpAny_pure ⟨_, rfl, wpAny_pure hq⟩) fits)
    | exact wpAny_bind (m := Builtin.Tuple.tupleExact _) (wpAny_newObj_type (wpAny_bind (wpAny_pure (wpAny_pure ⟨_, rfl, wpAny_pure hq⟩))) fits)
    | exact wpAny_bind (wpAny_bind (m := Builtin.Tuple.tupleExact _) (wpAny_newObj_type (wpAny_pure (wpAny_pure ⟨_, rfl, wpAny_pure hq⟩)) fits))
    | exact wpAny_bind (wpAny_bind (m := Builtin.Tuple.tupleExact _) (wpAny_newObj_type (wpAny_pure ⟨_, rfl, wpAny_pure hq⟩) fits))
end
section
variable {X : Cx} {a : Expr} {te : TE} {k : Nat} {q1 q2 q3 pos : Pos}
theorem pe_rv (ha : PE X a te) : PE X (.Subscript a (.Slice none none (some (.UnaryOp .USub (.Constant (.int 1) k q1) q2)) q3) pos)
    (fun σ H Q => te σ H fun x H1 => (∃ (l : Addr) (xs : List V), x = .ref l ∧ SqL X.K H1 l xs ∧ ∀ p, H1 p = none → Q (.ref p) (upd H1 p (.lst xs.reverse))) ∨ ∃ (l : Addr) (xs : List V), x = .ref l ∧ SqT X.K H1 l xs ∧ ∀ p, H1 p = none → Q (.ref p) (upd H1 p (.tup xs.reverse))) := by
  refine ⟨fun pins s σ H Q I hh => Subscript_ (thn (ha.run pins s σ H _ I hh) fun v s1 ⟨x, H1, I1, r1, w1⟩ => ?_)⟩
  have stp : PO X (some (.UnaryOp .USub (.Constant (.int 1) k q1) q2)) (tPart (tUn (rU fun i => .int (-i)) (tC (.int 1)))) := po_some (pe_un un_neg pe_int)
  refine wpAny_Slice (thn (po_none.run pins s1 σ H1 (fun o H2 => o = none ∧ H2 = H1) I1 ⟨rfl, rfl⟩) fun va s2 hz2 => ?_)
  obtain ⟨_, _, I2, pa, rfl, rfl⟩ := hz2
  refine thn (po_none.run pins s2 σ _ (fun o H3 => o = none ∧ H3 = _) I2 ⟨rfl, rfl⟩) fun vb s3 hz3 => ?_
  obtain ⟨_, _, I3, pb, rfl, rfl⟩ := hz3
  refine thn (stp.run pins s3 σ _ (fun o H4 => o = some (-1) ∧ H4 = _) I3 ⟨1, rfl, -1, rfl, rfl, rfl⟩) fun vc s4 hz4 => ?_
  obtain ⟨_, H4, I4, pc, rfl, rfl⟩ := hz4
  have I5 : Inv X pins σ H4 { s4 with heap := s4.heap.push { cls := .type "slice", data := .fields #[va, vb, vc] } } := I4.kept (t' := s4.toks) fun _ _ z => Heap.get?_push_of_some _ z
  rcases w1 with ⟨l, xs, rfl, sq, qq⟩ | ⟨l, xs, rfl, sq, qq⟩
  · cases r1
    obtain ⟨its, rr, pl, lz⟩ := I5.list sq
    have le := rr.length
    show wpAny (model X.prog X.w) X.A (subscriptTail a (.Slice none none (some (.UnaryOp .USub (.Constant (.int 1) k q1) q2)) q3) (.ref l) (.ref s4.heap.objs.size)) (EP X pins σ Q) X.xe _
    refine tail_any (ops := [.ref l, .ref s4.heap.objs.size]) pl.isList.typeIs (PySem.slot_list_getitem.lookup) (wpAny_getItem_list_slice pl.isList (Heap.IsSliceOf.new _ va vb vc) pa pb pc (by decide) ?_ (by rw [List.size_toArray]; omega)) (by with_unfolding_all rfl)
    rw [PySem.W.krv_pick]
    refine ⟨.ref _, _, I5.laid (t' := s4.toks) (o := .lst xs.reverse) (fun _ _ z => Heap.get?_push_of_some _ z) (Nat.le_refl _) ⟨by rw [List.length_reverse]; exact lz, _, 0, rr.reverse, Heap.get?_push_size _ rfl⟩, rfl, qq _ (I5.hok.fresh (Nat.le_refl _))⟩
  · cases r1
    obtain ⟨its, rr, pl, lz⟩ := I5.tuple sq
    have le := rr.length
    show wpAny (model X.prog X.w) X.A (subscriptTail a (.Slice none none (some (.UnaryOp .USub (.Constant (.int 1) k q1) q2)) q3) (.ref l) (.ref s4.heap.objs.size)) (EP X pins σ Q) X.xe _
    refine tail_any (ops := [.ref l, .ref s4.heap.objs.size]) pl.typeIs PyProof.Rows.slot_tuple_getitem.lookup (get_rev pl (Heap.IsSliceOf.new _ va vb vc) pa pb pc ?_ (by rw [List.size_toArray]; omega)) (by with_unfolding_all rfl)
    refine ⟨.ref _, _, I5.laid (t' := s4.toks) (o := .tup xs.reverse) (fun _ _ z => Heap.get?_push_of_some _ z) (Nat.le_refl _) ⟨by rw [List.length_reverse]; exact lz, _, rr.reverse, IsTup.new _ _⟩, rfl, qq _ (I5.hok.fresh (Nat.le_refl _))⟩
end
end RG

end

section
/-! RgSo: sorted(t), t a tuple of ints. -/
namespace RG
open PySem PySem.Spec L2 PyProof.Rows
section
variable {prog : Program} {w : World} {A : Around} {Er : Value → Shared → Prop} {s : Shared}
theorem col_tup {t : Addr} {us : List Value} {Q : List Value → Shared → Prop} (ht : IsTup s.heap t us.toArray) (hz : us.length ≤ sizeLine)
    (hq : Q us { s with heap := (s.heap.push (seqObj "list" #[] 0)).update s.heap.objs.size (Obj.mapSeq (· ++ us.toArray)) }) : wpAny (model prog w) A (collect (.ref t)) Q Er s := by
  obtain ⟨ob, e1, e2, ep, e3⟩ := id ht
  have e1' : (s.heap.push (seqObj "list" #[] 0)).get? t = some ob := Heap.get?_push_of_some _ e1
  have new0 : (s.heap.push (seqObj "list" #[] 0)).get? s.heap.objs.size = some (seqObj "list" #[] 0) := Heap.get?_push_size _ rfl
  unfold collect
  refine wpAny_bind (wpAny_runValue (codeAny_builtin entry_proto_collect' ?_))
  show wpAny _ _ (do again (.builtin "list.__iadd__" ⟨[← newList [], .ref t], []⟩)) _ _ s
  refine wpAny_bind (wpAny_newList (wpAny_pure ⟨Code.quiet_builtin _ (by decide +kernel), codeAny_builtin entry_list_iadd' ?_⟩))
  show wpAny _ _ (Builtin.List.listExtendWith (.ref s.heap.objs.size) (.ref t) (.ref s.heap.objs.size)) _ _ { s with heap := s.heap.push (seqObj "list" #[] 0) }
  unfold Builtin.List.listExtendWith
  refine wpAny_bind (wpAny_typeOf (T := "tuple") ⟨ob, e1', e2⟩ ?_)
  have tt : (Value.type "tuple" == Value.type "tuple") = true := by rfl
  rw [if_pos (by rw [tt]; simp)]
  refine wpAny_bind (listItems_at e1' e3 (wpAny_bind (listItems_at (xs := #[]) (n := 0) new0 rfl ?_)))
  rw [if_neg (by simp)]
  refine wpAny_bind (listUpdate_at (xs := #[]) (n := 0) new0 rfl (wpAny_pure ?_) (Nat.zero_le _) (by
    show (#[] ++ us.toArray).size ≤ sizeLine + 1
    simp only [Array.size_append, List.size_toArray, List.length_nil]
    omega))
  show wpAny (model prog w) A (do
      let o ← load s.heap.objs.size
      match o.data with
      | .seq xs _ => pure xs.toList
      | _ => unsupported "internal:collect") Q Er { s with heap := (s.heap.push (seqObj "list" #[] 0)).update s.heap.objs.size (Obj.mapSeq (· ++ us.toArray)) }
  refine wpAny_bind (wpAny_load (get?_update_seq new0 _) ?_)
  show wpAny _ _ (pure ((#[] : Array Value) ++ us.toArray).toList) Q Er _
  have eu : ((#[] : Array Value) ++ us.toArray).toList = us := by simp
  rw [eu]
  exact wpAny_pure hq
theorem so_tup {t : Addr} {us : List Value} {ns : List Int} {Q : Value → Shared → Prop} (ht : IsTup s.heap t us.toArray) (hI : IntsAre us ns) (h64 : us.length < 64)
    (hq : ∀ (out : Array Value) (ms : List Int), IntsAre out.toList ms → ms.Perm ns → ms.Pairwise (· ≤ ·) → Q (.ref (s.heap.objs.size + 1)) { s with heap := sortedAll s.heap us out }) : wpAny (model prog w) A (call (.builtin "sorted") [.ref t]) Q Er s := by
  have hz : us.length ≤ sizeLine := by rw [sizeLine_eq]; omega
  refine Calls.call_function_entry kind_sorted plain_sorted entry_sorted (args_sorted1 _) ?_
  unfold Builtin.«sorted»
  refine wpAny_bind (m := checkCount "sorted" 1 1 _) (wpAny_pure (wpAny_bind (col_tup ht hz (wpAny_bind (wpAny_newList ?_ hz)))))
  have sz : ((s.heap.push (seqObj "list" #[] 0)).update s.heap.objs.size (Obj.mapSeq (· ++ us.toArray))).objs.size = s.heap.objs.size + 1 := (Heap.size_update _ _ _).trans (size_push' _ _)
  have at_ : (((s.heap.push (seqObj "list" #[] 0)).update s.heap.objs.size (Obj.mapSeq (· ++ us.toArray))).push (seqObj "list" us.toArray 0)).get? (s.heap.objs.size + 1) = some (seqObj "list" us.toArray 0) := by
    rw [← sz]
    exact Heap.get?_push_size _ rfl
  show wpAny _ _ _ _ _ { s with heap := ((s.heap.push (seqObj "list" #[] 0)).update s.heap.objs.size (Obj.mapSeq (· ++ us.toArray))).push (seqObj "list" us.toArray 0) }
  rw [sz]
  refine wpAny_bind (wpAny_holding (wpAny_call_entry slot_list_sort ⟨_, at_, rfl⟩ entry_list_sort (list_sort_tree at_ hI h64 fun out ms a1 a2 a3 => ⟨_, rfl, wpAny_pure ⟨_, rfl, hq out ms a1 a2 a3⟩⟩) (args_list_sort _)))
end
def rSoT (K : PySem.W.Frag) : List V → Hp → VK → Prop := fun vs H Q => ∃ (l : Addr) (ns : List Int), vs = [V.ref l] ∧ SqT K H l (ns.map V.int) ∧ ns.length < 64 ∧ ∀ (ms : List Int) (p : Addr), ms.Perm ns → ms.Pairwise (· ≤ ·) → H p = none → Q (.ref p) (upd H p (.lst (ms.map V.int)))
theorem cr_soT {X : Cx} : CallR X (.builtin "sorted") (rSoT X.K) := by
  intro pins s σ H vs us Q I r hh
  obtain ⟨l, ns, rfl, sq, h64, qq⟩ := hh
  obtain ⟨its, rv, tp, _⟩ := I.tuple sq
  rw [Vals.ref1 r]
  have hi := rv.ints
  refine so_tup tp hi (by rw [hi.length]; exact h64) fun out ms g1 g2 g3 => ?_
  obtain ⟨ep, ee⟩ := PyProof.Rows.sortedAll_at s.heap its out
  have hm : (ms.map V.int).length ≤ sizeLine := by rw [List.length_map, g2.length_eq, sizeLine_eq]; omega
  refine ⟨.ref _, upd H (s.heap.objs.size + 1) (.lst (ms.map V.int)), ?_, rfl, qq ms _ g2 g3 (I.hok.fresh (Nat.le_succ _))⟩
  exact I.laid (t' := s.toks) (fun _ _ => PyProof.Rows.sortedAll_old) (Nat.le_succ _) ⟨hm, out.toList, ep, vals_of_ints g1, ee⟩
end RG

end

section
/-! RgSnd2: the operations upon values. -/
namespace RG
open PySem L2

def Op2 (X : Cx) (G : Gx) (op : Value → Value → Sem Value) (f : D → D → Mem → Out D) : Prop := ∃ r, OpR X op r ∧ Pr2 G r f
def CalN (X : Cx) (G : Gx) (v : Value) (f : List D → Mem → Out D) : Prop := ∃ r, CallR X v r ∧ PrN G r f

section
variable {G : Gx} {H : Hp} {p : List Addr} {h : Mem} {Q : VK}
theorem PostV.get {d : D} (k : PostV G p H Q (.ok d h)) (m : RelM G p h H) {v : V} (r : RelD G H p d v) : Q v H := k p v H (List.prefix_refl _) (Le.refl H) m r
/-- a new tuple -/
theorem PostV.tup {l : List D} {vs : List V} (k : PostV G p H Q (.ok (.tup l) h)) (m : RelM G p h H) (r : RelDs G H p l vs) : ∀ a, H a = none → Q (.ref a) (upd H a (.tup vs)) := fun a na =>
  k p (.ref a) _ (List.prefix_refl _) (Le.new na) (m.ext fun b o e => by rw [upd_ne (ne_of_none e na)]; exact e) (.tup (SqT.of upd_same) (r.mono (Le.new na) (List.prefix_refl _)))
/-- a new list -/
theorem PostV.lst {l : List D} {vs : List V} (k : PostV G p H Q (new (.lst l) h)) (m : RelM G p h H) (r : RelDs G H p l vs) : ∀ a, H a = none → Q (.ref a) (upd H a (.lst vs)) :=
  post_new k m fun a na => ⟨vs, upd_same, r.mono (Le.new na) (List.prefix_append _ _)⟩
/-- a list changed -/
theorem PostV.set {n : Nat} {a : Addr} {d : D} {v : V} {l : List D} {vs us : List V} (k : PostV G p H Q (.ok d (h.set n (.lst l)))) (m : RelM G p h H) (e : p[n]? = some a) (ha : H a = some (.lst us)) (r : RelDs G H p l vs) (rd : RelD G H p d v) : Q v (upd H a (.lst vs)) := by
  have le : Le G H (upd H a (.lst vs)) := Le.mut ha (fun _ z => by cases z) (fun _ _ z => by cases z)
  exact k p v _ (List.prefix_refl _) le (m.set e ha (fun _ z => by cases z) (fun _ _ z => by cases z) ⟨vs, upd_same, r.mono le (List.prefix_refl _)⟩) (rd.mono le (List.prefix_refl _))
theorem lstAt {n : Nat} {l : List D} (e : rd h n = some l) : h[n]? = some (.lst l) := by
  unfold rd at e
  split at e
  · cases e; assumption
  · cases e
end

section
variable {X : Cx} {G : Gx} (hK : X.K = G.K)
include hK
theorem o_add : Op2 X G (binaryOp .Add) fun x y h => evP .add [x, y] h := by
  refine ⟨_, op_add.or (op_add_str.or (op_catA.or op_cat)), ?_⟩
  intro p h H x y d e Q m r1 r2 k
  cases r1 with
  | int i => cases r2 with
    | int j => exact .inl ⟨i, j, rfl, rfl, PostV.get (d := .int (i + j)) k m (.int _)⟩
    | _ => exact False.elim k
  | str a => cases r2 with
    | str b =>
      have k : PostV G p H Q (if a.length + b.length ≤ sizeLine then .ok (.str (a ++ b)) h else .stuck) := k
      split at k
      · rename_i c
        refine .inr (.inl ⟨_, _, rfl, rfl, by simpa [Str.length] using c, ?_⟩)
        have e : (⟨a.toArray⟩ : Str) ++ ⟨b.toArray⟩ = ⟨(a ++ b).toArray⟩ := by
          show (⟨a.toArray ++ b.toArray⟩ : Str) = _
          simp
        rw [e]
        exact k.get m (.str _)
      · exact k.elim
    | _ => exact False.elim k
  | tup s1 l1 => cases r2 with
    | tup s2 l2 =>
      rename_i a xs vs b ys us
      have k : PostV G p H Q (if xs.length + ys.length ≤ sizeLine then .ok (.tup (xs ++ ys)) h else .stuck) := k
      split at k
      · rename_i c
        refine .inr (.inr (.inl ⟨a, b, vs, us, rfl, rfl, hK ▸ s1, hK ▸ s2, by rw [← l1.length, ← l2.length]; exact c, fun z => ?_, fun _ z => ?_, fun _ z => ?_⟩))
        · subst z; cases l1
          exact k.get m (.tup s2 l2)
        · subst z; cases l2
          rw [List.append_nil] at k
          exact k.get m (.tup s1 l1)
        · exact k.tup m (l1.append l2)
      · exact k.elim
    | _ => exact False.elim k
  | ref e1 => cases r2 with
    | ref e2 =>
      rename_i n a n' b
      have k : PostV G p H Q (match h[n]?, h[n']? with
        | some (.lst a), some (.lst b) => if a.length + b.length ≤ sizeLine then new (.lst (a ++ b)) h else .stuck
        | _, _ => .stuck) := k
      split at k
      · rename_i q1 q2
        obtain ⟨vs, h1, l1⟩ := m.lst e1 q1
        obtain ⟨us, h2, l2⟩ := m.lst e2 q2
        split at k
        · rename_i c
          exact .inr (.inr (.inr ⟨a, b, vs, us, rfl, rfl, h1, h2, by rw [← l1.length, ← l2.length]; exact c, k.lst m (l1.append l2)⟩))
        · exact k.elim
      · exact k.elim
    | _ => exact False.elim k
  | _ => exact False.elim k
omit hK
theorem o_sub : Op2 X G (binaryOp .Sub) fun x y h => evP .sub [x, y] h := by
  refine ⟨_, op_sub, ?_⟩
  intro p h H x y d e Q m r1 r2 k
  cases r1 with
  | int i => cases r2 with
    | int j => exact ⟨i, j, rfl, rfl, PostV.get (d := .int (i - j)) k m (.int _)⟩
    | _ => exact False.elim k
  | _ => exact False.elim k
include hK in
theorem o_mul : Op2 X G (binaryOp .Mult) fun x y h => evP .mul [x, y] h := by
  refine ⟨_, op_mulW.or (op_mul.or (op_rep.or (op_repT.or op_rep0))), ?_⟩
  intro p h H x y d e Q m r1 r2 k
  cases r1 with
  | int i => cases r2 with
    | int j =>
      have k : PostV G p H Q (@ite _ (MulOk i j) (Classical.propDecidable _) (.ok (.int (i * j)) h) .stuck) := k
      split at k
      · rename_i c
        rcases c with c | c
        · exact .inl ⟨i, j, rfl, rfl, c, k.get m (.int _)⟩
        · exact .inr (.inl ⟨i, j, rfl, rfl, c, k.get m (.int _)⟩)
      · exact k.elim
    | _ => exact False.elim k
  | ref e1 => cases r2 with
    | int j =>
      rename_i n a
      have k : PostV G p H Q (match h[n]? with
        | some (.lst a) => if -(2 ^ 63) ≤ j ∧ j < 2 ^ 63 ∧ a.length * j.toNat ≤ sizeLine then new (.lst (List.replicate j.toNat a).flatten) h else .stuck
        | _ => .stuck) := k
      split at k
      · rename_i q1
        obtain ⟨vs, h1, l1⟩ := m.lst e1 q1
        split at k
        · rename_i c
          exact .inr (.inr (.inl ⟨a, j, vs, rfl, rfl, h1, c.1, c.2.1, by rw [← l1.length]; exact c.2.2, k.lst m (l1.rep _)⟩))
        · exact k.elim
      · exact k.elim
    | _ => exact False.elim k
  | tup s1 l1 => cases r2 with
    | int j =>
      rename_i a xs vs
      have k : PostV G p H Q (if (xs ≠ [] ∧ 2 ≤ j ∧ j ≤ 1000 ∧ xs.length ≤ 1000) ∨ (-(2 ^ 63) ≤ j ∧ j ≤ 1) then .ok (.tup (List.replicate j.toNat xs).flatten) h else .stuck) := k
      split at k
      · rename_i c
        rcases c with c | c
        case inr =>
          refine .inr (.inr (.inr (.inr ⟨a, j, vs, rfl, rfl, hK ▸ s1, c.1, c.2, fun z => ?_, fun z1 z2 => ?_⟩)))
          · have ee : (List.replicate j.toNat xs).flatten = xs := by
              rcases z with z | z
              · subst z; cases l1; simp
              · subst z; simp
            rw [ee] at k
            exact k.get m (.tup s1 l1)
          · have ee : (List.replicate j.toNat xs).flatten = [] := by
              have : j.toNat = 0 := by omega
              rw [this]; rfl
            rw [ee] at k
            exact k.tup m .nil
        exact .inr (.inr (.inr (.inl ⟨a, j, vs, rfl, rfl, hK ▸ s1, fun z => c.1 (by subst z; cases l1; rfl), c.2.1, c.2.2.1, by rw [← l1.length]; exact c.2.2.2, k.tup m (l1.rep _)⟩)))
      · exact k.elim
    | _ => exact False.elim k
  | _ => exact False.elim k
theorem o_fdiv : Op2 X G (binaryOp .FloorDiv) fun x y h => evP .fdiv [x, y] h := by
  refine ⟨_, op_fdivW, ?_⟩
  intro p h H x y d e Q m r1 r2 k
  cases r1 with
  | int i => cases r2 with
    | int j =>
      have k : PostV G p H Q (@ite _ (CDivW i j) (Classical.propDecidable _) (.ok (.int (i / j)) h) .stuck) := k
      split at k
      · rename_i c
        exact ⟨i, j, rfl, rfl, c, k.get m (.int _)⟩
      · exact k.elim
    | _ => exact False.elim k
  | _ => exact False.elim k
theorem o_mod : Op2 X G (binaryOp .Mod) fun x y h => evP .mod [x, y] h := by
  refine ⟨_, op_mod, ?_⟩
  intro p h H x y d e Q m r1 r2 k
  cases r1 with
  | int i => cases r2 with
    | int j =>
      have k : PostV G p H Q (if 0 < j then .ok (.int (i % j)) h else .stuck) := k
      split at k
      · rename_i c
        exact ⟨i, j, rfl, rfl, c, k.get m (.int _)⟩
      · exact k.elim
    | _ => exact False.elim k
  | _ => exact False.elim k
theorem o_pow : Op2 X G (binaryOp .Pow) fun x y h => evP .pow [x, y] h := by
  refine ⟨_, op_pow, ?_⟩
  intro p h H x y d e Q m r1 r2 k
  cases r1 with
  | int i => cases r2 with
    | int j =>
      have k : PostV G p H Q (@ite _ (CPow i j) (Classical.propDecidable _) (.ok (.int (i ^ j.toNat)) h) .stuck) := k
      split at k
      · rename_i c
        exact ⟨i, j, rfl, rfl, c, k.get m (.int _)⟩
      · exact k.elim
    | _ => exact False.elim k
  | _ => exact False.elim k
theorem o_neg : ∃ r, UnR X (unaryOp .USub) r ∧ Pr1 G r fun x h => evP .neg [x] h := by
  refine ⟨_, un_neg, ?_⟩
  intro p h H x d Q m r1 k
  cases r1 with
  | int i => exact ⟨i, rfl, PostV.get (d := .int (-i)) k m (.int _)⟩
  | _ => exact False.elim k
theorem o_lt : Op2 X G (compareOp .Lt) fun x y h => evP .lt [x, y] h := by
  refine ⟨_, op_lt, ?_⟩
  intro p h H x y d e Q m r1 r2 k
  cases r1 with
  | int i => cases r2 with
    | int j => exact ⟨i, j, rfl, rfl, PostV.get (d := .bl _) k m (.bl _)⟩
    | _ => exact False.elim k
  | _ => exact False.elim k
theorem o_le : Op2 X G (compareOp .LtE) fun x y h => evP .le [x, y] h := by
  refine ⟨_, op_le, ?_⟩
  intro p h H x y d e Q m r1 r2 k
  cases r1 with
  | int i => cases r2 with
    | int j => exact ⟨i, j, rfl, rfl, PostV.get (d := .bl _) k m (.bl _)⟩
    | _ => exact False.elim k
  | _ => exact False.elim k
theorem o_gt : Op2 X G (compareOp .Gt) fun x y h => evP .gt [x, y] h := by
  refine ⟨_, op_gt, ?_⟩
  intro p h H x y d e Q m r1 r2 k
  cases r1 with
  | int i => cases r2 with
    | int j => exact ⟨i, j, rfl, rfl, PostV.get (d := .bl _) k m (.bl _)⟩
    | _ => exact False.elim k
  | _ => exact False.elim k
theorem o_ge : Op2 X G (compareOp .GtE) fun x y h => evP .ge [x, y] h := by
  refine ⟨_, op_ge, ?_⟩
  intro p h H x y d e Q m r1 r2 k
  cases r1 with
  | int i => cases r2 with
    | int j => exact ⟨i, j, rfl, rfl, PostV.get (d := .bl _) k m (.bl _)⟩
    | _ => exact False.elim k
  | _ => exact False.elim k
end

/-! ### == of data -/
section
variable {G : Gx} {H : Hp} {p : List Addr} {h : Mem}
mutual
theorem PD.dp (m : RelM G p h H) : ∀ {d : D} {v : V} {q : PyData}, PD h d q → RelD G H p d v → Dp G.K H v q
  | _, _, _, .non, .non => .non
  | _, _, _, .bl b, .bl _ => .bl b
  | _, _, _, .int i, .int _ => .int i
  | _, _, _, .str s, .str _ => .str _
  | _, _, _, .tup ps, .tup s r => .tup s (PDs.dp m ps r)
  | _, _, _, .lst e ps, .ref e' => by
    obtain ⟨vs, h1, h2⟩ := m.rd e' e
    exact .lst h1 (PDs.dp m ps h2)
theorem PDs.dp (m : RelM G p h H) : ∀ {l : List D} {vs : List V} {qs : List PyData}, PDs h l qs → RelDs G H p l vs → DpAll G.K H vs qs
  | _, _, _, .nil, .nil => .nil
  | _, _, _, .cons q qs, .cons r rs => .cons (PD.dp m q r) (PDs.dp m qs rs)
end
end
theorem eqO_some {h : Mem} {a b : D} {r : Bool} (e : eqO h a b = some r) : ∃ p q, PD h a p ∧ PD h b q ∧ SeqAt.shaped p = true ∧ SeqAt.shaped q = true ∧ r = PyData.eqv p q := by
  unfold eqO at e
  split at e
  · rename_i w
    cases e
    exact ⟨_, _, w.choose_spec.choose_spec.1, w.choose_spec.choose_spec.2.1, w.choose_spec.choose_spec.2.2.1, w.choose_spec.choose_spec.2.2.2, rfl⟩
  · cases e
theorem inO_some {h : Mem} {a b : D} {r : Bool} (e : inO h a b = some r) : ∃ p q, PD h a p ∧ PD h b (.list q) ∧ SeqAt.shaped p = true ∧ SeqAt.shaped (.list q) = true ∧ r = q.any fun z => PyData.eqv z p := by
  unfold inO at e
  split at e
  · rename_i w
    cases e
    exact ⟨_, _, w.choose_spec.choose_spec.1, w.choose_spec.choose_spec.2.1, w.choose_spec.choose_spec.2.2.1, w.choose_spec.choose_spec.2.2.2, rfl⟩
  · cases e
section
variable {X : Cx} {G : Gx} (hK : X.K = G.K) (hu : X.A.units + 65 < cLine)
include hK hu
theorem o_eq : Op2 X G (compareOp .Eq) fun x y h => evP .eq [x, y] h := by
  refine ⟨_, op_eqD (by omega), ?_⟩
  intro p h H x y d e Q m r1 r2 k
  have k : PostV G p H Q (match eqO h d e with | some r => .ok (.bl r) h | none => .stuck) := by
    revert k; cases d <;> cases e <;> exact id
  split at k
  · rename_i c
    obtain ⟨a, b, p1, p2, s1, s2, rfl⟩ := eqO_some c
    exact ⟨a, b, hK ▸ p1.dp m r1, hK ▸ p2.dp m r2, s1, s2, k.get m (.bl _)⟩
  · exact k.elim
theorem o_ne : Op2 X G (compareOp .NotEq) fun x y h => evP .ne [x, y] h := by
  refine ⟨_, op_neD (by omega), ?_⟩
  intro p h H x y d e Q m r1 r2 k
  have k : PostV G p H Q (match eqO h d e with | some r => .ok (.bl (!r)) h | none => .stuck) := by
    revert k; cases d <;> cases e <;> exact id
  split at k
  · rename_i c
    obtain ⟨a, b, p1, p2, s1, s2, rfl⟩ := eqO_some c
    exact ⟨a, b, hK ▸ p1.dp m r1, hK ▸ p2.dp m r2, s1, s2, k.get m (.bl _)⟩
  · exact k.elim
end
end RG

end

section
/-! RgSnd3: in, subscripts, slices, built-in calls, methods of lists. -/
namespace RG
open PySem L2 PyProof.Rows

section
variable {G : Gx} {H : Hp} {p : List Addr} {h : Mem}
theorem flat_of {d : D} {v : V} (r : RelD G H p d v) (f : (eqF d d).isSome = true) : flatV v = true := by
  cases r <;> first | rfl | (simp [eqF] at f)
theorem eqF_eqV {d e : D} {v u : V} (r1 : RelD G H p d v) (r2 : RelD G H p e u) {b : Bool} (x : eqF d e = some b) : flatV v = true ∧ flatV u = true ∧ eqV v u = b := by
  cases r1 <;> cases r2 <;> simp [eqF] at x
  · subst x; exact ⟨rfl, rfl, rfl⟩
  · subst x; refine ⟨rfl, rfl, ?_⟩; simp [eqV]; rename_i a c; cases a <;> cases c <;> rfl
  · subst x; refine ⟨rfl, rfl, ?_⟩; rename_i a c; show (a == c) = decide (a = c); by_cases q : a = c <;> simp [q]
  · subst x; refine ⟨rfl, rfl, ?_⟩; rename_i a c
    show ((⟨a.toArray⟩ : Str) == ⟨c.toArray⟩) = decide (a = c)
    by_cases q : a = c
    · subst q; simp
    · rw [decide_eq_false q]
      apply beq_eq_false_iff_ne.mpr
      intro z
      injection z with z
      exact q (by simpa using congrArg Array.toList z)
theorem inF_inV {d : D} {v : V} (r1 : RelD G H p d v) : ∀ {l : List D} {vs : List V} {b : Bool}, RelDs G H p l vs → inF d l = some b → flatV v = true ∧ vs.all flatV = true ∧ inV v vs = b
  | [], _, b, .nil, x => by
    unfold inF at x
    split at x
    · rename_i f
      cases x
      exact ⟨flat_of r1 f, rfl, rfl⟩
    · cases x
  | e :: l, _, b, .cons (v := u) (vs := vs) r rs, x => by
    unfold inF at x
    cases e1 : eqF e d with
    | none => rw [e1] at x; cases x
    | some b1 =>
      cases e2 : inF d l with
      | none => rw [e1, e2] at x; cases x
      | some b2 =>
        rw [e1, e2] at x
        cases x
        obtain ⟨f1, f2, q⟩ := eqF_eqV r r1 e1
        obtain ⟨_, g1, g2⟩ := inF_inV r1 rs e2
        exact ⟨f2, by rw [List.all_cons, f1, g1]; rfl, by
          show (eqV u v || (vs.any fun y => eqV y v)) = (b1 || b2)
          have : (vs.any fun y => eqV y v) = b2 := g2
          rw [q, this]⟩
theorem keyR_of {d : D} {v : V} (r : RelD G H p d v) (k : isKey d = true) : ∃ kk, keyR d kk ∧ v = kV kk := by
  cases r <;> simp [isKey] at k
  · exact ⟨_, rfl, rfl⟩
  · exact ⟨_, rfl, rfl⟩
theorem keyR_eq {a b : D} {ka kb : Key} (h1 : keyR a ka) (h2 : keyR b kb) : eqF a b = some true ↔ ka = kb := by
  cases a <;> simp [keyR] at h1 <;> cases b <;> simp [keyR] at h2 <;> subst h1 <;> subst h2 <;> simp [eqF]
theorem kget_val : ∀ {kvs : List (D × D)} {vs : List (Key × V)}, RelK G H p kvs vs → ∀ {k : D} {kk : Key}, keyR k kk → (∀ d, kget k kvs = some d → ∃ v, valV vs kk = some v ∧ RelD G H p d v) ∧ (kget k kvs = none → valV vs kk = none)
  | _, _, .nil, k, kk, hk => ⟨fun d e => by simp [kget] at e, fun _ => rfl⟩
  | _, _, .cons (k := k') (kk := kk') h1 r t, k, kk, hk => by
    obtain ⟨i1, i2⟩ := kget_val t hk
    by_cases e : eqF k' k = some true
    · have e' := (keyR_eq h1 hk).mp e
      refine ⟨fun d x => ?_, fun x => ?_⟩
      · unfold kget at x
        rw [if_pos e] at x
        cases x
        exact ⟨_, valV_pos e', r⟩
      · unfold kget at x
        rw [if_pos e] at x
        cases x
    · have e' : ¬ kk' = kk := fun z => e ((keyR_eq h1 hk).mpr z)
      refine ⟨fun d x => ?_, fun x => ?_⟩
      · unfold kget at x
        rw [if_neg e] at x
        rw [valV_neg e']
        exact i1 d x
      · unfold kget at x
        rw [if_neg e] at x
        rw [valV_neg e']
        exact i2 x
end

section
variable {X : Cx} {G : Gx} (hK : X.K = G.K) (hu : X.A.units + 65 < cLine)
theorem op_dIn (hu : X.A.units + 65 < cLine) : OpR X (compareOp .In) (fun x y H Q => ∃ a o, y = .ref a ∧ DGet H a x o ∧ Q (.bl o.isSome) H) := by
  intro pins s σ H x y v u Q I rx ry h
  obtain ⟨a, o, rfl, g, q⟩ := h
  cases ry
  exact d_in (by omega) I g rx fun s3 I3 => ⟨.bl o.isSome, H, I3, rfl, q⟩
theorem op_dNotIn (hu : X.A.units + 65 < cLine) : OpR X (compareOp .NotIn) (fun x y H Q => ∃ a o, y = .ref a ∧ DGet H a x o ∧ Q (.bl (!o.isSome)) H) := by
  intro pins s σ H x y v u Q I rx ry h
  obtain ⟨a, o, rfl, g, q⟩ := h
  cases ry
  exact d_notIn (by omega) I g rx fun s3 I3 => ⟨.bl (!o.isSome), H, I3, rfl, q⟩
theorem ix_dict (hu : X.A.units + 65 < cLine) : IxR X (fun x y H Q => ∃ a v, x = .ref a ∧ DGet H a y (some v) ∧ Q v H) := by
  intro value slice pins s σ H x y v u Q I rx ry h hs
  obtain ⟨a, w, rfl, g, q⟩ := h
  cases rx
  exact tail_any (dict_typeIs I g) PySem.F.slot_dict_getitem.lookup (d_getItem (by omega) I g ry fun w' s3 I3 rw' => ⟨w, H, I3, rw', q⟩) hs

include hK hu
theorem o_inn : Op2 X G (compareOp .In) fun x y h => evP .inn [x, y] h := by
  refine ⟨_, op_in_sign.or (op_in_seq.or ((op_inD hu).or (op_dIn hu))), ?_⟩
  intro p h H x y d e Q m r1 r2 k
  have inl : ∀ (n : Nat) (a : Addr) (e2 : p[n]? = some a) (k : PostV G p H Q (match h[n]? with
      | some (.dct kvs) => if isKey d then .ok (.bl (kget d kvs).isSome) h else .stuck
      | _ => match inO h d (.ref n) with
        | some r => .ok (.bl r) h
        | none => .stuck)), (rInD X.K x (.ref a) H Q ∨ ∃ b o, V.ref a = .ref b ∧ DGet H b x o ∧ Q (.bl o.isSome) H) := by
    intro n a e2 k
    split at k
    · rename_i kvs q1
      split at k
      · rename_i ck
        obtain ⟨b, e3, r⟩ := m.at_ n _ q1
        rw [e2] at e3; cases e3
        obtain ⟨vs, h1, rk⟩ := r
        obtain ⟨kk, hk, rfl⟩ := keyR_of r1 ck
        refine .inr ⟨a, _, rfl, DGet.k h1, ?_⟩
        have e4 : (valV vs kk).isSome = (kget d kvs).isSome := by
          obtain ⟨i1, i2⟩ := kget_val rk hk
          cases z : kget d kvs with
          | none => rw [i2 z]; rfl
          | some d' => obtain ⟨v, i3, _⟩ := i1 d' z; rw [i3]; rfl
        rw [e4]
        exact k.get m (.bl _)
      · exact k.elim
    · split at k
      · rename_i c
        obtain ⟨a', b', p1, p2, s1, s2, rfl⟩ := inO_some c
        exact .inl ⟨a', b', hK ▸ p1.dp m r1, hK ▸ p2.dp m (.ref e2), s1, s2, k.get m (.bl _)⟩
      · exact k.elim
  have int : ∀ (a : Addr) (l : List D) (vs : List V) (s2 : SqT G.K H a vs) (l2 : RelDs G H p l vs) (k : PostV G p H Q (match inF d l with
      | some r => .ok (.bl r) h
      | none => .stuck)), rIn X.K false x (.ref a) H Q := by
    intro a l vs s2 l2 k
    split at k
    · rename_i c
      obtain ⟨f1, f2, q⟩ := inF_inV r1 l2 c
      refine ⟨a, vs, rfl, .inr (hK ▸ s2), f1, f2, ?_⟩
      show Q (.bl (inV x vs)) H
      rw [q]
      exact k.get m (.bl _)
    · exact k.elim
  cases r2 with
  | str s => cases r1 with
    | str s' =>
      match s', k with
      | [c], k =>
        refine .inl ⟨c, _, rfl, rfl, ?_⟩
        show Q (.bl (decide (c ∈ (⟨s.toArray⟩ : Str).cps.toList))) H
        have e : (⟨s.toArray⟩ : Str).cps.toList = s := by simp
        rw [e]
        exact PostV.get (d := .bl _) k m (.bl _)
    | _ => exact False.elim k
  | tup s2 l2 =>
    rename_i a l vs
    cases r1 with
    | str s' =>
      refine .inr (.inl (int a l vs s2 l2 ?_))
      match s', k with
      | [], k => exact k
      | [c], k => exact k
      | _ :: _ :: _, k => exact k
    | _ => exact .inr (.inl (int a l vs s2 l2 k))
  | ref e2 =>
    rename_i n a
    refine .inr (.inr (inl n a e2 ?_))
    revert k
    cases d <;> first | exact id | (rename_i s'; intro k; match s', k with
      | [], k => exact k
      | [c], k => exact k
      | _ :: _ :: _, k => exact k)
  | _ => cases r1 <;> first | exact False.elim k | (rename_i s'; match s', k with
      | [], k => exact False.elim k
      | [c], k => exact False.elim k
      | _ :: _ :: _, k => exact False.elim k)
theorem o_nin : Op2 X G (compareOp .NotIn) fun x y h => evP .nin [x, y] h := by
  refine ⟨_, op_notIn_sign.or (op_notIn_seq.or ((op_notInD hu).or (op_dNotIn hu))), ?_⟩
  intro p h H x y d e Q m r1 r2 k
  have inl : ∀ (n : Nat) (a : Addr) (e2 : p[n]? = some a) (k : PostV G p H Q (match h[n]? with
      | some (.dct kvs) => if isKey d then .ok (.bl (!(kget d kvs).isSome)) h else .stuck
      | _ => match inO h d (.ref n) with
        | some r => .ok (.bl (!r)) h
        | none => .stuck)), (rNotInD X.K x (.ref a) H Q ∨ ∃ b o, V.ref a = .ref b ∧ DGet H b x o ∧ Q (.bl (!o.isSome)) H) := by
    intro n a e2 k
    split at k
    · rename_i kvs q1
      split at k
      · rename_i ck
        obtain ⟨b, e3, r⟩ := m.at_ n _ q1
        rw [e2] at e3; cases e3
        obtain ⟨vs, h1, rk⟩ := r
        obtain ⟨kk, hk, rfl⟩ := keyR_of r1 ck
        refine .inr ⟨a, _, rfl, DGet.k h1, ?_⟩
        have e4 : (valV vs kk).isSome = (kget d kvs).isSome := by
          obtain ⟨i1, i2⟩ := kget_val rk hk
          cases z : kget d kvs with
          | none => rw [i2 z]; rfl
          | some d' => obtain ⟨v, i3, _⟩ := i1 d' z; rw [i3]; rfl
        rw [e4]
        exact k.get m (.bl _)
      · exact k.elim
    · split at k
      · rename_i c
        obtain ⟨a', b', p1, p2, s1, s2, rfl⟩ := inO_some c
        exact .inl ⟨a', b', hK ▸ p1.dp m r1, hK ▸ p2.dp m (.ref e2), s1, s2, k.get m (.bl _)⟩
      · exact k.elim
  have int : ∀ (a : Addr) (l : List D) (vs : List V) (s2 : SqT G.K H a vs) (l2 : RelDs G H p l vs) (k : PostV G p H Q (match inF d l with
      | some r => .ok (.bl (!r)) h
      | none => .stuck)), rIn X.K true x (.ref a) H Q := by
    intro a l vs s2 l2 k
    split at k
    · rename_i c
      obtain ⟨f1, f2, q⟩ := inF_inV r1 l2 c
      refine ⟨a, vs, rfl, .inr (hK ▸ s2), f1, f2, ?_⟩
      show Q (.bl (!inV x vs)) H
      rw [q]
      exact k.get m (.bl _)
    · exact k.elim
  cases r2 with
  | str s => cases r1 with
    | str s' =>
      match s', k with
      | [c], k =>
        refine .inl ⟨c, _, rfl, rfl, ?_⟩
        show Q (.bl (!decide (c ∈ (⟨s.toArray⟩ : Str).cps.toList))) H
        have e : (⟨s.toArray⟩ : Str).cps.toList = s := by simp
        rw [e]
        exact PostV.get (d := .bl _) k m (.bl _)
    | _ => exact False.elim k
  | tup s2 l2 =>
    rename_i a l vs
    cases r1 with
    | str s' =>
      refine .inr (.inl (int a l vs s2 l2 ?_))
      match s', k with
      | [], k => exact k
      | [c], k => exact k
      | _ :: _ :: _, k => exact k
    | _ => exact .inr (.inl (int a l vs s2 l2 k))
  | ref e2 =>
    rename_i n a
    refine .inr (.inr (inl n a e2 ?_))
    revert k
    cases d <;> first | exact id | (rename_i s'; intro k; match s', k with
      | [], k => exact k
      | [c], k => exact k
      | _ :: _ :: _, k => exact k)
  | _ => cases r1 <;> first | exact False.elim k | (rename_i s'; match s', k with
      | [], k => exact False.elim k
      | [c], k => exact False.elim k
      | _ :: _ :: _, k => exact False.elim k)
theorem o_ix : ∃ r, IxR X r ∧ Pr2 G r fun x y h => evP .ix [x, y] h := by
  refine ⟨_, ix_list.or (ix_tup.or (ix_str.or (ix_dict hu))), ?_⟩
  intro p h H x y d e Q m r1 r2 k
  cases r1 with
  | tup s1 l1 => cases r2 with
    | int i =>
      rename_i a l vs
      have k : PostV G p H Q (match atI l i with | some d => .ok d h | none => .stuck) := k
      split at k
      · rename_i c
        obtain ⟨j, e1, e2, e3, e4, e5⟩ := atI_get c
        unfold atI at c
        cases c1 : ixN l.length i with
        | none => rw [c1] at c; cases c
        | some j' =>
          rw [c1] at c
          obtain ⟨v, g1, g2⟩ := l1.get (show l[j']? = _ from c)
          refine .inr (.inl ⟨a, vs, i, v, rfl, rfl, hK ▸ s1, ?_, k.get m g2⟩)
          unfold atI
          rw [← l1.length, c1]
          exact g1
      · exact k.elim
    | _ => exact False.elim k
  | str s => cases r2 with
    | int i =>
      have k : PostV G p H Q (if s.length ≤ sizeLine then (match atI s i with | some c => .ok (.str [c]) h | none => .stuck) else .stuck) := k
      split at k
      · rename_i sz
        split at k
        · rename_i c1 c
          refine .inr (.inr (.inl ⟨_, i, c1, rfl, rfl, by simpa [Str.length] using sz, ?_, k.get m (.str _)⟩))
          have e : (⟨s.toArray⟩ : Str).cps.toList = s := by simp
          rw [e]
          exact c
        · exact k.elim
      · exact k.elim
    | _ => exact False.elim k
  | ref e1 =>
    rename_i n a
    have k : PostV G p H Q (ixRef n e h) := k
    unfold ixRef at k
    split at k
    · rename_i kvs q1
      split at k
      · rename_i q2
        split at k
        · rename_i ck
          obtain ⟨b, e3, r⟩ := m.at_ n _ q1
          rw [e1] at e3; cases e3
          obtain ⟨vs, h1, rk⟩ := r
          obtain ⟨kk, hk, rfl⟩ := keyR_of r2 ck
          obtain ⟨v, i3, i4⟩ := (kget_val rk hk).1 _ q2
          refine .inr (.inr (.inr ⟨a, v, rfl, ?_, k.get m i4⟩))
          rw [← i3]
          exact DGet.k h1
        · exact k.elim
      · exact k.elim
    · rename_i l q2
      cases r2 with
      | int i =>
        have k : PostV G p H Q (match atI l i with | some d => .ok d h | none => .stuck) := k
        split at k
        · rename_i c
          obtain ⟨vs, s1, l1⟩ := m.lst e1 q2
          have s1 := SqL.of (K := G.K) s1
          unfold atI at c
          cases c1 : ixN l.length i with
          | none => rw [c1] at c; cases c
          | some j' =>
            rw [c1] at c
            obtain ⟨v, g1, g2⟩ := l1.get (show l[j']? = _ from c)
            refine .inl ⟨a, vs, i, v, rfl, rfl, hK ▸ s1, ?_, k.get m g2⟩
            unfold atI
            rw [← l1.length, c1]
            exact g1
        · exact k.elim
      | _ => exact False.elim k
    · exact k.elim
  | scr s1 => cases r2 with
    | int i =>
      rename_i a l
      have k : PostV G p H Q (match atI l i with | some d => .ok (.int d) h | none => .stuck) := k
      split at k
      · rename_i d c
        refine .inl ⟨a, _, i, .int d, rfl, rfl, hK ▸ s1.sq, ?_, k.get m (.int _)⟩
        unfold atI at c ⊢
        rw [List.length_map]
        cases c1 : ixN l.length i with
        | none => rw [c1] at c; cases c
        | some j' =>
          rw [c1] at c
          have c : l[j']? = some d := c
          show (l.map V.int)[j']? = some (.int d)
          rw [List.getElem?_map, c]
          rfl
      · exact k.elim
    | _ => exact False.elim k
  | _ => exact False.elim k
end
end RG

end

section
/-! RgSnd4: slices, built-in calls, methods of lists, tests. -/
namespace RG
open PySem L2 PyProof.Rows

section
variable {G : Gx} {H : Hp} {p : List Addr} {h : Mem}
theorem cut_rel {l : List D} {vs : List V} (r : RelDs G H p l vs) (lo hi : Option Int) : RelDs G H p (cut l lo hi) (cutV vs lo hi) := by
  unfold cut cutV
  rw [r.length]
  exact (r.drop _).take _
def PrS (G : Gx) (r : V → Option Int → Option Int → Hp → VK → Prop) : Prop := ∀ p h H x d lo hi Q, RelM G p h H → RelD G H p d x → PostV G p H Q (slc d lo hi h) → r x lo hi H Q
end
section
variable {X : Cx} {G : Gx} (hK : X.K = G.K)
include hK
theorem o_sl : ∃ r, SlR X r ∧ PrS G r := by
  refine ⟨_, sl_list.or (sl_tupA.or sl_str), ?_⟩
  intro p h H x d lo hi Q m r1 k
  cases r1 with
  | ref e1 =>
    rename_i n a
    unfold slc at k
    dsimp only at k
    split at k
    · rename_i l c
      obtain ⟨vs, s1, l1⟩ := m.rd e1 c
      exact .inl ⟨a, vs, rfl, hK ▸ s1, k.lst m (cut_rel l1 lo hi)⟩
    · exact k.elim
  | scr s1 =>
    rename_i a l
    exact .inl ⟨a, _, rfl, hK ▸ s1.sq, PostV.lst k m (cut_rel (RelDs.ofInts l) lo hi)⟩
  | tup s1 l1 =>
    rename_i a l vs
    have k : PostV G p H Q (.ok (.tup (cut l lo hi)) h) := k
    refine .inr (.inl ⟨a, vs, rfl, hK ▸ s1, fun z => ?_, fun _ => k.tup m (cut_rel l1 lo hi)⟩)
    obtain ⟨z1, z2⟩ := z
    have e : cut l lo hi = l := by
      unfold cut
      rw [l1.length, z1, z2, List.drop_zero, Nat.sub_zero, ← l1.length, List.take_length]
    rw [e] at k
    exact k.get m (.tup s1 l1)
  | str s =>
    have k : PostV G p H Q (if s.length ≤ sizeLine then .ok (.str (cutN s lo hi)) h else .stuck) := k
    split at k
    · rename_i c
      refine .inr (.inr ⟨_, rfl, by simpa [Str.length] using c, ?_⟩)
      have e : cutS ⟨s.toArray⟩ lo hi = ⟨(cutN s lo hi).toArray⟩ := by
        unfold cutS cutN
        simp [Str.length]
      rw [e]
      exact k.get m (.str _)
    · exact k.elim
  | _ => exact False.elim k
theorem s_rev {xn : Nat → Str} {W : WX} {a : Expr} {kk : Nat} {q1 q2 q3 pos : Pos} {fa : Env → Mem → Out D} (ha : PE X a (rE G xn W fa)) :
    PE X (.Subscript a (.Slice none none (some (.UnaryOp .USub (.Constant (.int 1) kk q1) q2)) q3) pos) (rE G xn W fun r h => (fa r h).bind fun x h => evP .rev [x] h) := by
  refine PE.imp (pe_rv ha) fun σ H Q ⟨p, r, h, m, s, k⟩ => ⟨p, r, h, m, s, PostE.bind (o := fa r h) k fun d h1 p1 v H1 q1 l1 m1 r1 k1 => ?_⟩
  cases r1 with
  | tup s1 l1 =>
    rename_i a l vs
    have k1 : PostE G xn p1 σ H1 W Q (.ok (.tup l.reverse) h1) := k1
    exact .inr ⟨a, vs, rfl, hK ▸ s1, (k1.v fun x h z => by cases z).tup m1 l1.reverse⟩
  | ref e1 =>
    rename_i n a
    have k1 : PostE G xn p1 σ H1 W Q (match rd h1 n with | some l => new (.lst l.reverse) h1 | none => .stuck) := k1
    split at k1
    · rename_i l c
      obtain ⟨vs, s1, l1⟩ := m1.rd e1 c
      exact .inl ⟨a, vs, rfl, hK ▸ s1, (k1.v fun x h z => by cases z).lst m1 l1.reverse⟩
    · exact k1.elim
  | _ => exact k1.elim
theorem c_len : CalN X G (.builtin "len") fun ds h => evP .len ds h := by
  refine ⟨_, call_len_seq.or call_len_str, ?_⟩
  intro p h H xs ds Q m r k
  cases r with
  | nil => exact False.elim k
  | cons r1 rs => cases rs with
    | cons r2 rs => cases r1 <;> exact False.elim k
    | nil => cases r1 with
      | tup s1 l1 =>
        refine .inl ⟨_, _, rfl, .inr (hK ▸ s1), ?_⟩
        rw [← l1.length]
        exact PostV.get (d := .int _) k m (.int _)
      | str s =>
        have k : PostV G p H Q (if s.length ≤ sizeLine then .ok (.int s.length) h else .stuck) := k
        split at k
        · rename_i c
          refine .inr ⟨_, rfl, by simpa [Str.length] using c, ?_⟩
          have e : ((⟨s.toArray⟩ : Str).length : Int) = (s.length : Int) := by simp [Str.length]
          rw [e]
          exact k.get m (.int _)
        · exact k.elim
      | ref e1 =>
        rename_i n a
        have k : PostV G p H Q (match rd h n with | some l => .ok (.int l.length) h | none => .stuck) := k
        split at k
        · rename_i l c
          obtain ⟨vs, s1, l1⟩ := m.rd e1 c
          refine .inl ⟨_, vs, rfl, .inl (hK ▸ s1), ?_⟩
          rw [← l1.length]
          exact k.get m (.int _)
        · exact k.elim
      | scr s1 =>
        rename_i a l
        refine .inl ⟨_, _, rfl, .inl (hK ▸ s1.sq), ?_⟩
        rw [List.length_map]
        exact PostV.get (d := .int _) k m (.int _)
      | _ => exact False.elim k
theorem c_list : CalN X G (.type "list") fun ds h => evP .toList ds h := by
  refine ⟨_, call_list_of, ?_⟩
  intro p h H xs ds Q m r k
  cases r with
  | nil => exact False.elim k
  | cons r1 rs => cases rs with
    | cons r2 rs => cases r1 <;> exact False.elim k
    | nil => cases r1 with
      | tup s1 l1 => exact ⟨_, _, rfl, .inr (hK ▸ s1), PostV.lst k m l1⟩
      | ref e1 =>
        rename_i n a
        have k : PostV G p H Q (match rd h n with | some l => new (.lst l) h | none => .stuck) := k
        split at k
        · rename_i l c
          obtain ⟨vs, s1, l1⟩ := m.rd e1 c
          exact ⟨_, vs, rfl, .inl (hK ▸ s1), k.lst m l1⟩
        · exact k.elim
      | scr s1 =>
        rename_i a l
        exact ⟨_, _, rfl, .inl (hK ▸ s1.sq), PostV.lst (l := l.map .int) k m (RelDs.ofInts l)⟩
      | _ => exact False.elim k
theorem c_tuple : CalN X G (.type "tuple") fun ds h => evP .toTuple ds h := by
  refine ⟨_, call_tuple_of, ?_⟩
  intro p h H xs ds Q m r k
  cases r with
  | nil => exact False.elim k
  | cons r1 rs => cases rs with
    | cons r2 rs => cases r1 <;> exact False.elim k
    | nil => cases r1 with
      | tup s1 l1 => exact ⟨_, _, rfl, .inr ⟨hK ▸ s1, PostV.get (d := .tup _) k m (.tup s1 l1)⟩⟩
      | ref e1 =>
        rename_i n a
        have k : PostV G p H Q (match rd h n with | some l => .ok (.tup l) h | none => .stuck) := k
        split at k
        · rename_i l c
          obtain ⟨vs, s1, l1⟩ := m.rd e1 c
          exact ⟨_, vs, rfl, .inl ⟨hK ▸ s1, k.tup m l1⟩⟩
        · exact k.elim
      | _ => exact False.elim k
theorem c_all (hc : X.calm = true) : CalN X G (.builtin "all") fun ds h => evP .all ds h := by
  refine ⟨_, cr_all hc, ?_⟩
  intro p h H xs ds Q m r k
  cases r with
  | nil => exact False.elim k
  | cons r1 rs => cases rs with
    | cons r2 rs => cases r1 <;> exact False.elim k
    | nil => cases r1 with
      | ref e1 =>
        rename_i n a
        have k : PostV G p H Q (match rd h n with | some l => (match blsOf l with | some ns => .ok (.bl (ns.all id)) h | none => .stuck) | none => .stuck) := k
        split at k
        · rename_i l c
          obtain ⟨vs, s1, l1⟩ := m.rd e1 c
          split at k
          · rename_i ns ci
            obtain rfl := l1.blsL ci
            exact ⟨_, ns, rfl, hK ▸ s1, k.get m (.bl _)⟩
          · exact k.elim
        · exact k.elim
      | _ => exact False.elim k
theorem c_any (hc : X.calm = true) : CalN X G (.builtin "any") fun ds h => evP .any ds h := by
  refine ⟨_, cr_any hc, ?_⟩
  intro p h H xs ds Q m r k
  cases r with
  | nil => exact False.elim k
  | cons r1 rs => cases rs with
    | cons r2 rs => cases r1 <;> exact False.elim k
    | nil => cases r1 with
      | ref e1 =>
        rename_i n a
        have k : PostV G p H Q (match rd h n with | some l => (match blsOf l with | some ns => .ok (.bl (ns.any id)) h | none => .stuck) | none => .stuck) := k
        split at k
        · rename_i l c
          obtain ⟨vs, s1, l1⟩ := m.rd e1 c
          split at k
          · rename_i ns ci
            obtain rfl := l1.blsL ci
            exact ⟨_, ns, rfl, hK ▸ s1, k.get m (.bl _)⟩
          · exact k.elim
        · exact k.elim
      | _ => exact False.elim k
omit hK in
theorem insI_perm (a : Int) : ∀ l : List Int, (insI a l).Perm (a :: l)
  | [] => .refl _
  | b :: l => by
    unfold insI
    split
    · exact .refl _
    · exact ((insI_perm a l).cons b).trans (.swap a b l)
omit hK in
theorem srt_perm : ∀ l : List Int, (srt l).Perm l
  | [] => .refl _
  | a :: l => (insI_perm a _).trans ((srt_perm l).cons a)
omit hK in
theorem insI_sorted (a : Int) : ∀ l : List Int, l.Pairwise (· ≤ ·) → (insI a l).Pairwise (· ≤ ·)
  | [], _ => by simp [insI]
  | b :: l, h => by
    rw [List.pairwise_cons] at h
    unfold insI
    split
    · rename_i c
      rw [List.pairwise_cons]
      refine ⟨fun x hx => ?_, List.pairwise_cons.mpr h⟩
      rcases List.mem_cons.mp hx with rfl | hx
      · exact c
      · exact Int.le_trans c (h.1 x hx)
    · rename_i c
      rw [List.pairwise_cons]
      refine ⟨fun x hx => ?_, insI_sorted a l h.2⟩
      rcases List.mem_cons.mp ((insI_perm a l).mem_iff.mp hx) with rfl | hx
      · omega
      · exact h.1 x hx
omit hK in
theorem srt_sorted : ∀ l : List Int, (srt l).Pairwise (· ≤ ·)
  | [] => .nil
  | a :: l => insI_sorted a _ (srt_sorted l)
theorem c_sorted : CalN X G (.builtin "sorted") fun ds h => evP .sorted ds h := by
  refine ⟨_, cr_sorted.or cr_soT, ?_⟩
  intro p h H xs ds Q m r k
  cases r with
  | nil => exact False.elim k
  | cons r1 rs => cases rs with
    | cons r2 rs => cases r1 <;> exact False.elim k
    | nil => cases r1 with
      | ref e1 =>
        rename_i n a
        have k : PostV G p H Q (match rd h n with | some l => (match intsOf l with | some ns => (if ns.length < 64 then new (.lst ((srt ns).map .int)) h else .stuck) | none => .stuck) | none => .stuck) := k
        split at k
        · rename_i l c
          obtain ⟨vs, s1, l1⟩ := m.rd e1 c
          split at k
          · rename_i ns ci
            obtain rfl := l1.intsL ci
            split at k
            · rename_i c64
              refine .inl ⟨_, ns, rfl, hK ▸ s1, c64, fun ns' b pm so nb => ?_⟩
              have e : ns' = srt ns := PySem.W.ksm_same (pm.trans (srt_perm ns).symm) so (srt_sorted ns)
              subst e
              exact k.lst m (RelDs.ofInts _) b nb
            · exact k.elim
          · exact k.elim
        · exact k.elim
      | tup s1 l1 =>
        rename_i a l vs
        have k : PostV G p H Q (match intsOf l with | some ns => (if ns.length < 64 then new (.lst ((srt ns).map .int)) h else .stuck) | none => .stuck) := k
        split at k
        · rename_i ns ci
          obtain rfl := l1.intsL ci
          split at k
          · rename_i c64
            refine .inr ⟨_, ns, rfl, hK ▸ s1, c64, fun ns' b pm so nb => ?_⟩
            have e : ns' = srt ns := PySem.W.ksm_same (pm.trans (srt_perm ns).symm) so (srt_sorted ns)
            subst e
            exact k.lst m (RelDs.ofInts _) b nb
          · exact k.elim
        · exact k.elim
      | _ => exact False.elim k
end
section
variable {X : Cx} {G : Gx}
theorem c_abs : CalN X G (.builtin "abs") fun ds h => evP .abs ds h := by
  refine ⟨_, call_abs, ?_⟩
  intro p h H xs ds Q m r k
  cases r with
  | nil => exact False.elim k
  | cons r1 rs => cases rs with
    | cons r2 rs => cases r1 <;> exact False.elim k
    | nil => cases r1 with
      | int i => exact ⟨i, rfl, PostV.get (d := .int _) k m (.int _)⟩
      | _ => exact False.elim k
theorem c_toInt : CalN X G (.type "int") fun ds h => evP .toInt ds h := by
  refine ⟨_, call_int1, ?_⟩
  intro p h H xs ds Q m r k
  cases r with
  | nil => exact False.elim k
  | cons r1 rs => cases rs with
    | cons r2 rs => cases r1 <;> exact False.elim k
    | nil => cases r1 with
      | int i => exact .inl ⟨i, rfl, PostV.get (d := .int _) k m (.int _)⟩
      | bl i => exact .inr ⟨i, rfl, PostV.get (d := .int _) k m (.int _)⟩
      | _ => exact False.elim k
theorem nu3 (i j k : Int) : nuMax3 (.int i) (.int j) (.int k) = some (.int (if k > (if j > i then j else i) then k else (if j > i then j else i))) := by
  have e : ∀ a b : Int, nuMax2 (.int a) (.int b) = some (.int (if b > a then b else a)) := fun a b => by
    show some (if decide (a < b) = true then V.int b else V.int a) = _
    by_cases c : a < b
    · have c' : b > a := c
      rw [decide_eq_true c, if_pos rfl, if_pos c']
    · have c' : ¬ b > a := c
      rw [decide_eq_false c, if_neg Bool.false_ne_true, if_neg c']
  unfold nuMax3
  rw [e i j]
  exact e _ k
theorem c_max (hc : X.calm = true) : CalN X G (.builtin "max") fun ds h => evP .max ds h := by
  refine ⟨_, CallR.or (call_max2 hc) (call_max3Nu hc), ?_⟩
  intro p h H xs ds Q m r k
  cases r with
  | nil => exact False.elim k
  | cons r1 rs => cases rs with
    | nil => cases r1 <;> exact False.elim k
    | cons r2 rs => cases rs with
      | cons r3 rs => cases rs with
        | cons r4 rs => cases r1 <;> cases r2 <;> cases r3 <;> exact False.elim k
        | nil => cases r1 with
          | int i => cases r2 with
            | int j => cases r3 with
              | int l => exact .inr ⟨_, _, _, _, rfl, nu3 i j l, PostV.get (d := .int _) k m (.int _)⟩
              | _ => exact False.elim k
            | _ => cases r3 <;> exact False.elim k
          | _ => cases r2 <;> cases r3 <;> exact False.elim k
      | nil => cases r1 with
        | int i => cases r2 with
          | int j => exact .inl ⟨i, j, rfl, PostV.get (d := .int _) k m (.int _)⟩
          | _ => exact False.elim k
        | _ => exact False.elim k
open Classical in
theorem c_divmod : CalN X G (.builtin "divmod") fun ds h => evP .divmod ds h := by
  refine ⟨_, call_divmod, ?_⟩
  intro p h H xs ds Q m r k
  cases r with
  | nil => exact False.elim k
  | cons r1 rs => cases rs with
    | nil => cases r1 <;> exact False.elim k
    | cons r2 rs => cases rs with
      | cons r3 rs => cases r1 <;> cases r2 <;> exact False.elim k
      | nil => cases r1 with
        | int i => cases r2 with
          | int j =>
            have k : PostV G p H Q (if CDiv i j then .ok (.tup [.int (i / j), .int (i % j)]) h else .stuck) := k
            split at k
            · rename_i c
              exact ⟨i, j, rfl, c, PostV.tup k m (.cons (.int _) (.cons (.int _) .nil))⟩
            · exact k.elim
          | _ => exact False.elim k
        | _ => exact False.elim k
theorem c_min (hc : X.calm = true) : CalN X G (.builtin "min") fun ds h => evP .min ds h := by
  refine ⟨_, call_min2 hc, ?_⟩
  intro p h H xs ds Q m r k
  cases r with
  | nil => exact False.elim k
  | cons r1 rs => cases rs with
    | nil => cases r1 <;> exact False.elim k
    | cons r2 rs => cases rs with
      | cons r3 rs => cases r1 <;> cases r2 <;> exact False.elim k
      | nil => cases r1 with
        | int i => cases r2 with
          | int j => exact ⟨i, j, rfl, PostV.get (d := .int _) k m (.int _)⟩
          | _ => exact False.elim k
        | _ => exact False.elim k
/-- a method of a list -/
def MtN (X : Cx) (G : Gx) (id : String) (f : D → List D → Mem → Out D) : Prop := ∃ r, MtR X id r ∧ ∀ p h H x xs d ds Q, RelM G p h H → RelD G H p d x → RelDs G H p ds xs → PostV G p H Q (f d ds h) → r x xs H Q
theorem m_append : MtN X G "list.append" fun x ds h => evP .append (x :: ds) h := by
  refine ⟨_, mt_append, ?_⟩
  intro p h H x xs d ds Q m r1 r2 k
  cases r2 with
  | nil => cases r1 <;> exact False.elim k
  | cons r2 rs => cases rs with
    | cons r3 rs => cases r1 <;> exact False.elim k
    | nil =>
      rename_i e v
      cases r1 with
      | ref e1 =>
        rename_i n a
        have k : PostV G p H Q (match h[n]? with | some (.lst l) => (if l.length < sizeLine then .ok .non (h.set n (.lst (l ++ [e]))) else .stuck) | _ => .stuck) := k
        split at k
        · rename_i l c
          obtain ⟨vs, s1, l1⟩ := m.lst e1 c
          split at k
          · rename_i c2
            exact ⟨a, vs, v, rfl, rfl, s1, by rw [← l1.length]; exact c2, k.set m e1 s1 (l1.append (.cons r2 .nil)) .non⟩
          · exact k.elim
        · exact k.elim
      | _ => exact False.elim k
theorem m_pop : MtN X G "list.pop" fun x ds h => match ds with | [] => evP .pop [x] h | ds => evP .popAt (x :: ds) h := by
  refine ⟨_, MtR.or mt_pop mt_popAt, ?_⟩
  intro p h H x xs d ds Q m r1 r2 k
  cases r2 with
  | nil =>
    cases r1 with
    | ref e1 =>
      rename_i n a
      have k : PostV G p H Q (match h[n]? with | some (.lst l) => (match l.getLast? with | some x => .ok x (h.set n (.lst l.dropLast)) | none => .stuck) | _ => .stuck) := k
      split at k
      · rename_i l c
        obtain ⟨vs, s1, l1⟩ := m.lst e1 c
        split at k
        · rename_i z c2
          rw [List.getLast?_eq_getElem?] at c2
          obtain ⟨v, g1, g2⟩ := l1.get c2
          exact .inl ⟨a, vs, v, rfl, rfl, s1, by rw [← l1.length]; exact g1, k.set m e1 s1 l1.dropLast g2⟩
        · exact k.elim
      · exact k.elim
    | _ => exact False.elim k
  | cons r2 rs => cases rs with
    | cons r3 rs => cases r1 <;> cases r2 <;> exact False.elim k
    | nil =>
      rename_i e v
      cases r1 with
      | ref e1 =>
        rename_i n a
        cases r2 with
        | int i =>
          have k2 : PostV G p H Q (match h[n]? with | some (.lst (x :: l)) => (if i = 0 then .ok x (h.set n (.lst l)) else .stuck) | _ => .stuck) := k
          split at k2
          · rename_i z l c
            obtain ⟨vs, s1, l1⟩ := m.lst e1 c
            split at k2
            · rename_i c2
              subst c2
              cases l1 with
              | cons g2 l2 =>
                rename_i v vs
                refine .inr ⟨a, v :: vs, 0, 0, v, rfl, rfl, s1, by decide, by decide, ?_, rfl, k2.set m e1 s1 l2 g2⟩
                simp [seqIndex?]
            · exact k2.elim
          · exact k2.elim
        | _ => exact False.elim k
      | _ => exact False.elim k
theorem m_insert : MtN X G "list.insert" fun x ds h => evP .insert (x :: ds) h := by
  refine ⟨_, mt_insert, ?_⟩
  intro p h H x xs d ds Q m r1 r2 k
  cases r2 with
  | nil => cases r1 <;> exact False.elim k
  | cons r2 rs => cases rs with
    | nil => cases r1 <;> cases r2 <;> exact False.elim k
    | cons r3 rs => cases rs with
      | cons r4 rs => cases r1 <;> cases r2 <;> exact False.elim k
      | nil =>
        rename_i e v
        cases r1 with
        | ref e1 => cases r2 with
          | int i =>
            rename_i n a
            have k : PostV G p H Q (match h[n]? with | some (.lst l) => (if l.length < sizeLine ∧ 0 ≤ i ∧ i < 2 ^ 63 then .ok .non (h.set n (.lst (l.take i.toNat ++ [e] ++ l.drop i.toNat))) else .stuck) | _ => .stuck) := k
            split at k
            · rename_i l c
              obtain ⟨vs, s1, l1⟩ := m.lst e1 c
              split at k
              · rename_i c2
                exact ⟨a, vs, i, v, rfl, rfl, s1, by rw [← l1.length]; exact c2.1, c2.2.1, c2.2.2, k.set m e1 s1 (((l1.take _).append (.cons r3 .nil)).append (l1.drop _)) .non⟩
              · exact k.elim
            · exact k.elim
          | _ => exact False.elim k
        | _ => exact False.elim k
theorem m_index (hK : X.K = G.K) : MtN X G "list.index" fun x ds h => evP .index (x :: ds) h := by
  refine ⟨_, mt_index, ?_⟩
  intro p h H x xs d ds Q m r1 r2 k
  cases r2 with
  | nil => cases r1 <;> exact False.elim k
  | cons r2 rs => cases rs with
    | cons r3 rs => cases r1 <;> cases r2 <;> exact False.elim k
    | nil =>
      cases r1 with
      | ref e1 => cases r2 with
        | int i =>
          rename_i n a
          have k : PostV G p H Q (match rd h n with | some l => (match intsOf l with | some ns => (match ns.findIdx? (fun x => decide (x = i)) with | some j => .ok (.int (j : Nat)) h | none => .stuck) | none => .stuck) | none => .stuck) := k
          split at k
          · rename_i l c
            obtain ⟨vs, s1, l1⟩ := m.rd e1 c
            split at k
            · rename_i ns c2
              split at k
              · rename_i j c3
                have ev := l1.intsL c2
                subst ev
                obtain ⟨hj, g1, g2⟩ := List.findIdx?_eq_some_iff_getElem.mp c3
                have fl : ∀ ns : List Int, (ns.map V.int).all flatV = true := fun ns => by rw [List.all_map, List.all_eq_true]; intro z _; rfl
                refine ⟨a, ns.map V.int, .int i, j, .int i, rfl, rfl, hK ▸ s1, rfl, fl ns, ?_, ?_, fun q z' hq hz => ?_, k.get m (.int _)⟩
                · rw [List.getElem?_map, List.getElem?_eq_getElem hj, of_decide_eq_true g1]; rfl
                · show (i == i) = true; simp
                · rw [List.getElem?_map, List.getElem?_eq_getElem (by omega)] at hz
                  cases hz
                  have := g2 q hq
                  show (_ == i) = false
                  simpa using this
              · exact k.elim
            · exact k.elim
          · exact k.elim
        | str i =>
          rename_i n a
          have k : PostV G p H Q (match rd h n with | some l => (match strsOf l with | some ns => (match ns.findIdx? (fun x => decide (x = i)) with | some j => .ok (.int (j : Nat)) h | none => .stuck) | none => .stuck) | none => .stuck) := k
          split at k
          · rename_i l c
            obtain ⟨vs, s1, l1⟩ := m.rd e1 c
            split at k
            · rename_i ns c2
              split at k
              · rename_i j c3
                have ev := l1.strsL c2
                subst ev
                obtain ⟨hj, g1, g2⟩ := List.findIdx?_eq_some_iff_getElem.mp c3
                have fl : ∀ ns : List (List Nat), (ns.map fun s => V.str ⟨s.toArray⟩).all flatV = true := fun ns => by rw [List.all_map, List.all_eq_true]; intro z _; rfl
                refine ⟨a, ns.map fun s => V.str ⟨s.toArray⟩, .str ⟨i.toArray⟩, j, .str ⟨i.toArray⟩, rfl, rfl, hK ▸ s1, rfl, fl ns, ?_, ?_, fun q z' hq hz => ?_, k.get m (.int _)⟩
                · rw [List.getElem?_map, List.getElem?_eq_getElem hj, of_decide_eq_true g1]; rfl
                · show ((⟨i.toArray⟩ : Str) == ⟨i.toArray⟩) = true; simp
                · rw [List.getElem?_map, List.getElem?_eq_getElem (by omega)] at hz
                  cases hz
                  have := g2 q hq
                  show ((⟨_⟩ : Str) == ⟨i.toArray⟩) = false
                  simpa using this
              · exact k.elim
            · exact k.elim
          · exact k.elim
        | _ => exact False.elim k
      | _ => exact False.elim k
theorem m_reverse : MtN X G "list.reverse" fun x ds h => evP .reverse (x :: ds) h := by
  refine ⟨_, mt_reverse, ?_⟩
  intro p h H x xs d ds Q m r1 r2 k
  cases r2 with
  | cons r2 rs => cases r1 <;> exact False.elim k
  | nil =>
    cases r1 with
    | ref e1 =>
      rename_i n a
      have k : PostV G p H Q (match h[n]? with | some (.lst l) => .ok .non (h.set n (.lst l.reverse)) | _ => .stuck) := k
      split at k
      · rename_i l c
        obtain ⟨vs, s1, l1⟩ := m.lst e1 c
        exact ⟨a, vs, rfl, rfl, s1, k.set m e1 s1 l1.reverse .non⟩
      · exact k.elim
    | _ => exact False.elim k
theorem m_clear : MtN X G "list.clear" fun x ds h => evP .clear (x :: ds) h := by
  refine ⟨_, mt_clear, ?_⟩
  intro p h H x xs d ds Q m r1 r2 k
  cases r2 with
  | cons r2 rs => cases r1 <;> exact False.elim k
  | nil =>
    cases r1 with
    | ref e1 =>
      rename_i n a
      have k : PostV G p H Q (match h[n]? with | some (.lst l) => .ok .non (h.set n (.lst [])) | _ => .stuck) := k
      split at k
      · rename_i l c
        obtain ⟨vs, s1, l1⟩ := m.lst e1 c
        exact ⟨a, vs, rfl, rfl, s1, k.set m e1 s1 .nil .non⟩
      · exact k.elim
    | _ => exact False.elim k
end
end RG

end

section
/-! RgSnd5: truth, and, or, not, chains, statements. -/
namespace RG
open PySem L2 PyProof.Rows

section
variable {G : Gx} {H : Hp} {p : List Addr} {h : Mem}
theorem tru_rel {d : D} {v : V} {b : Bool} (m : RelM G p h H) (r : RelD G H p d v) (e : truth d h = some b) : TruV G.K v H b := by
  cases r with
  | non => simp [truth] at e; exact e
  | bl c => simp [truth] at e; exact e.symm
  | int i => simp [truth] at e; exact e.symm
  | str s =>
    unfold truth at e
    dsimp only at e
    split at e
    · rename_i c
      cases e
      refine ⟨by simpa [Str.length] using c, ?_⟩
      have e2 : ((⟨s.toArray⟩ : Str).length : Int) = (s.length : Int) := by simp [Str.length]
      rw [e2]
      cases s <;> simp
      omega
    · cases e
  | tup s1 l1 =>
    unfold truth at e
    cases e
    refine .inr (.inl ⟨_, s1, ?_⟩)
    cases l1 <;> rfl
  | ref e1 =>
    unfold truth at e
    dsimp only at e
    split at e
    · rename_i l c
      cases e
      obtain ⟨vs, s1, l1⟩ := m.rd e1 c
      refine .inl ⟨vs, s1, ?_⟩
      cases l1 <;> rfl
    · cases e
  | _ => simp [truth] at e
theorem tru_ok' {d : D} {b : Bool} {h' : Mem} (e : tru d h = .ok b h') : truth d h = some b ∧ h' = h := by
  unfold tru at e
  split at e
  · cases e; exact ⟨by assumption, rfl⟩
  · cases e
theorem tru_nx {d : D} {x : D} {h' : Mem} : tru d h ≠ .exc x h' := by
  unfold tru
  split <;> intro e <;> cases e
end

section
variable {X : Cx} {G : Gx} {xn : Nat → Str} {W : WX} {a b t : Expr} {pos : Pos} {fa fb ft : Env → Mem → Out D} {rest : List Expr}
/-- a truth that is asked: in a text of values -/
theorem tru_bind {p : List Addr} {h : Mem} {H : Hp} {σ : L2.St} {Q : VK} {d : D} {v : V} {g : Bool → Mem → Out D} (m : RelM G p h H) (r : RelD G H p d v) (k : PostE G xn p σ H W Q ((tru d h).bind g)) : ∃ c, TruV G.K v H c ∧ PostE G xn p σ H W Q (g c h) := by
  cases e : tru d h with
  | ok c h' =>
    obtain ⟨e1, rfl⟩ := tru_ok' e
    rw [e] at k
    exact ⟨c, tru_rel m r e1, k⟩
  | exc x h' => exact absurd e tru_nx
  | stuck => rw [e] at k; exact k.elim
theorem tru_bindT {p : List Addr} {h : Mem} {H : Hp} {σ : L2.St} {Q : Bool → Hp → Prop} {d : D} {v : V} {g : Bool → Mem → Out Bool} (m : RelM G p h H) (r : RelD G H p d v) (k : PostT G xn p σ H W Q ((tru d h).bind g)) : ∃ c, TruV G.K v H c ∧ PostT G xn p σ H W Q (g c h) := by
  cases e : tru d h with
  | ok c h' =>
    obtain ⟨e1, rfl⟩ := tru_ok' e
    rw [e] at k
    exact ⟨c, tru_rel m r e1, k⟩
  | exc x h' => exact absurd e tru_nx
  | stuck => rw [e] at k; exact k.elim
theorem s_andV (hK : X.K = G.K) (ha : PE X a (rE G xn W fa)) (hb : PE X (.BoolOp .And (b :: rest) pos) (rE G xn W fb)) :
    PE X (.BoolOp .And (a :: b :: rest) pos) (rE G xn W fun r h => (fa r h).bind fun d h => (tru d h).bind fun k h => if k then fb r h else .ok d h) :=
  PE.imp (pe_andT ha hb) fun σ H Q ⟨p, r, h, m, s, k⟩ => ⟨p, r, h, m, s, PostE.bind (o := fa r h) k fun d h1 p1 v H1 q1 l1 m1 r1 k1 => by
    obtain ⟨c, tv, k2⟩ := tru_bind m1 r1 k1
    refine ⟨c, hK ▸ tv, ?_⟩
    cases c with
    | true => exact ⟨p1, r, h1, m1, s.mono l1 q1, k2⟩
    | false => exact k2 p1 v H1 (List.prefix_refl _) (Le.refl _) m1 r1⟩
theorem s_orV (hK : X.K = G.K) (ha : PE X a (rE G xn W fa)) (hb : PE X (.BoolOp .Or (b :: rest) pos) (rE G xn W fb)) :
    PE X (.BoolOp .Or (a :: b :: rest) pos) (rE G xn W fun r h => (fa r h).bind fun d h => (tru d h).bind fun k h => if k then .ok d h else fb r h) :=
  PE.imp (pe_orT ha hb) fun σ H Q ⟨p, r, h, m, s, k⟩ => ⟨p, r, h, m, s, PostE.bind (o := fa r h) k fun d h1 p1 v H1 q1 l1 m1 r1 k1 => by
    obtain ⟨c, tv, k2⟩ := tru_bind m1 r1 k1
    refine ⟨c, hK ▸ tv, ?_⟩
    cases c with
    | false => exact ⟨p1, r, h1, m1, s.mono l1 q1, k2⟩
    | true => exact k2 p1 v H1 (List.prefix_refl _) (Le.refl _) m1 r1⟩
theorem s_one {op : BoolOp} (ha : PE X a (rE G xn W fa)) : PE X (.BoolOp op [a] pos) (rE G xn W fa) := pe_one ha
theorem s_notV (hK : X.K = G.K) (ha : PE X a (rE G xn W fa)) : PE X (.UnaryOp .Not a pos) (rE G xn W fun r h => (fa r h).bind fun d h => (tru d h).bind fun k h => .ok (.bl (!k)) h) :=
  PE.imp (pe_notT ha) fun σ H Q ⟨p, r, h, m, s, k⟩ => ⟨p, r, h, m, s, PostE.bind (o := fa r h) k fun d h1 p1 v H1 q1 l1 m1 r1 k1 => by
    obtain ⟨c, tv, k2⟩ := tru_bind m1 r1 k1
    exact ⟨c, hK ▸ tv, k2 p1 _ H1 (List.prefix_refl _) (Le.refl _) m1 (.bl _)⟩⟩
/-! tests -/
def rTr (G : Gx) (xn : Nat → Str) (W : WX) (f : Env → Mem → Out D) : TT := rT G xn W fun r h => (f r h).bind fun d h => tru d h
theorem s_truth (hK : X.K = G.K) (ha : PE X a (rE G xn W fa)) (he : ∀ whole, isTrue a X.env whole = (do let v ← whole; standAt a.pos; holding [v] (truthy v))) : PT X a (rTr G xn W fa) :=
  PT.imp (pt_truth ha he) fun σ H Q ⟨p, r, h, m, s, k⟩ => ⟨p, r, h, m, s, PostE.bindT (o := fa r h) k fun d h1 p1 v H1 q1 l1 m1 r1 k1 => by
    rw [← Out.bind_ok (tru d h1)] at k1
    obtain ⟨c, tv, k2⟩ := tru_bindT m1 r1 k1
    exact ⟨c, hK ▸ tv, k2 p1 H1 (List.prefix_refl _) (Le.refl _) m1⟩⟩
theorem s_notT (ha : PT X a (rTr G xn W fa)) : PT X (.UnaryOp .Not a pos) (rTr G xn W fun r h => (fa r h).bind fun d h => (tru d h).bind fun k h => .ok (.bl (!k)) h) :=
  PT.imp (pt_not ha) fun σ H Q ⟨p, r, h, m, s, k⟩ => ⟨p, r, h, m, s, by
    dsimp only at k
    rw [Out.bind_assoc, show (fun (x : D) (h : Mem) => ((tru x h).bind fun k h => Out.ok (D.bl (!k)) h).bind fun d h => tru d h) = fun x h => (tru x h).bind fun k h => .ok (!k) h from by
      funext x h
      rw [Out.bind_assoc]
      rfl, ← Out.bind_assoc] at k
    exact PostT.bindT k fun c h1 p1 H1 q1 l1 m1 k1 => k1 p1 H1 (List.prefix_refl _) (Le.refl _) m1⟩
/-- and, as a test: the first operand's truth, then the rest's -/
theorem s_and1 (ha : PT X a (rTr G xn W fa)) : PW X (.BoolOp .And [a] pos) (rTr G xn W fa) := pw_and1 ha
theorem s_or1 (ha : PT X a (rTr G xn W fa)) : PW X (.BoolOp .Or [a] pos) (rTr G xn W fa) := pw_or1 ha
theorem tru_again (d : D) (h : Mem) (g : Out Bool) : ((tru d h).bind fun k h' => if k then g else (Out.ok d h').bind fun d h => tru d h) = (tru d h).bind fun k h' => if k then g else .ok false h' := by
  cases e : tru d h with
  | ok c h' =>
    obtain ⟨e1, rfl⟩ := tru_ok' e
    cases c with
    | true => rfl
    | false => show tru d h' = _; rw [e]; rfl
  | exc x h' => rfl
  | stuck => rfl
theorem tru_againO (d : D) (h : Mem) (g : Out Bool) : ((tru d h).bind fun k h' => if k then (Out.ok d h').bind fun d h => tru d h else g) = (tru d h).bind fun k h' => if k then .ok true h' else g := by
  cases e : tru d h with
  | ok c h' =>
    obtain ⟨e1, rfl⟩ := tru_ok' e
    cases c with
    | false => rfl
    | true => show tru d h' = _; rw [e]; rfl
  | exc x h' => rfl
  | stuck => rfl
theorem ite_bind {a b : Type} (k : Bool) (x y : Out a) (f : a → Mem → Out b) : (if k then x else y).bind f = if k then x.bind f else y.bind f := by cases k <;> rfl
theorem tru_keeps {d : D} {h h' : Mem} {c : Bool} (e : tru d h = .ok c h') : h' = h := (tru_ok' e).2
theorem s_andT (ha : PT X a (rTr G xn W fa)) (hb : PW X (.BoolOp .And (b :: rest) pos) (rTr G xn W fb)) :
    PW X (.BoolOp .And (a :: b :: rest) pos) (rTr G xn W fun r h => (fa r h).bind fun d h => (tru d h).bind fun k h => if k then fb r h else .ok d h) :=
  PW.imp (pw_and ha hb) fun σ H Q ⟨p, r, h, m, s, k⟩ => ⟨p, r, h, m, s, by
    have e : (((fa r h).bind fun d h => (tru d h).bind fun k h => if k then fb r h else .ok d h).bind fun d h => tru d h) = ((fa r h).bind fun d h => tru d h).bind fun k h => if k then (fb r h).bind fun d h => tru d h else .ok false h := by
      rw [Out.bind_assoc, Out.bind_assoc]
      congr 1
      funext d h
      rw [Out.bind_assoc]
      cases e : tru d h with
      | ok c h' =>
        obtain ⟨e1, rfl⟩ := tru_ok' e
        cases c with
        | true => rfl
        | false => show tru d h' = _; rw [e]; rfl
      | exc x h' => rfl
      | stuck => rfl
    dsimp only at k
    rw [e] at k
    exact PostT.bindT k fun c h1 p1 H1 q1 l1 m1 k1 => by
      cases c with
      | true => exact ⟨p1, r, h1, m1, s.mono l1 q1, k1⟩
      | false => exact k1 p1 H1 (List.prefix_refl _) (Le.refl _) m1⟩
theorem s_orT (ha : PT X a (rTr G xn W fa)) (hb : PW X (.BoolOp .Or (b :: rest) pos) (rTr G xn W fb)) :
    PW X (.BoolOp .Or (a :: b :: rest) pos) (rTr G xn W fun r h => (fa r h).bind fun d h => (tru d h).bind fun k h => if k then .ok d h else fb r h) :=
  PW.imp (pw_or ha hb) fun σ H Q ⟨p, r, h, m, s, k⟩ => ⟨p, r, h, m, s, by
    have e : (((fa r h).bind fun d h => (tru d h).bind fun k h => if k then .ok d h else fb r h).bind fun d h => tru d h) = ((fa r h).bind fun d h => tru d h).bind fun k h => if k then .ok true h else (fb r h).bind fun d h => tru d h := by
      rw [Out.bind_assoc, Out.bind_assoc]
      congr 1
      funext d h
      rw [Out.bind_assoc]
      cases e : tru d h with
      | ok c h' =>
        obtain ⟨e1, rfl⟩ := tru_ok' e
        cases c with
        | false => rfl
        | true => show tru d h' = _; rw [e]; rfl
      | exc x h' => rfl
      | stuck => rfl
    dsimp only at k
    rw [e] at k
    exact PostT.bindT k fun c h1 p1 H1 q1 l1 m1 k1 => by
      cases c with
      | false => exact ⟨p1, r, h1, m1, s.mono l1 q1, k1⟩
      | true => exact k1 p1 H1 (List.prefix_refl _) (Le.refl _) m1⟩
theorem s_ite (ht : PT X t (rTr G xn W ft)) (ha : PE X a (rE G xn W fa)) (hb : PE X b (rE G xn W fb)) :
    PE X (.IfExp t a b pos) (rE G xn W fun r h => (ft r h).bind fun d h => (tru d h).bind fun k h => if k then fa r h else fb r h) :=
  PE.imp (pe_ifExp ht ha hb) fun σ H Q ⟨p, r, h, m, s, k⟩ => ⟨p, r, h, m, s, by
    dsimp only at k
    rw [← Out.bind_assoc] at k
    exact PostT.bind k fun c h1 p1 H1 q1 l1 m1 k1 => by
      cases c with
      | true => exact ⟨p1, r, h1, m1, s.mono l1 q1, k1⟩
      | false => exact ⟨p1, r, h1, m1, s.mono l1 q1, k1⟩⟩
/-- an operation whose answer is a truth value -/
def IsB (f : D → D → Mem → Out D) : Prop := ∀ d e h x h', f d e h = .ok x h' → ∃ b, x = .bl b
theorem isB_post {p : List Addr} {H : Hp} {σ : L2.St} {Q : Bool → Hp → Prop} {o : Out D} (hb : ∀ x h', o = .ok x h' → ∃ b, x = .bl b) (nx : NoX o) (k : PostT G xn p σ H W Q (o.bind fun d h => tru d h)) : PostV G p H (fun z H' => ∃ k, z = .bl k ∧ Q k H') o := by
  cases o with
  | ok x h' =>
    obtain ⟨b, rfl⟩ := hb x h' rfl
    intro p' v H' q l m r
    cases r
    exact ⟨b, rfl, k p' H' q l m⟩
  | exc x h' => exact absurd rfl (nx x h')
  | stuck => exact k
theorem s_cmpT {op : CmpOp} {r : R2} {f : D → D → Mem → Out D} (ho : OpR X (compareOp op) r) (hp : Pr2 G r f) (nx : ∀ d e h, NoX (f d e h)) (hB : IsB f) (ha : PE X a (rE G xn W fa)) (hb : PE X b (rE G xn W fb)) (hm : behindInMarks op b = false) :
    PT X (.Compare a [op] [b] pos) (rTr G xn W fun r h => (fa r h).bind fun x h => (fb r h).bind fun y h => f x y h) :=
  PT.imp (pt_cmpR ho ha hb hm) fun σ H Q ⟨p, r, h, m, s, k⟩ => ⟨p, r, h, m, s, by
    dsimp only at k
    rw [Out.bind_assoc] at k
    exact PostE.bindT k fun d h1 p1 v H1 q1 l1 m1 r1 k1 => by
      rw [Out.bind_assoc] at k1
      exact ⟨p1, r, h1, m1, s.mono l1 q1, PostE.bindT k1 fun e h2 p2 u H2 q2 l2 m2 r2 k2 => hp p2 h2 H2 v u d e _ m2 (r1.mono l2 q2) r2 (isB_post (hB d e h2) (nx d e h2) k2)⟩⟩
theorem s_chain {c : Expr} {fc : Env → Mem → Out D} {op op' : CmpOp} {r r' : R2} {f f' : D → D → Mem → Out D} (ho : OpR X (compareOp op) r) (ho' : OpR X (compareOp op') r') (hp : Pr2 G r f) (hp' : Pr2 G r' f') (nx : ∀ d e h, NoX (f d e h)) (nx' : ∀ d e h, NoX (f' d e h)) (hB : IsB f)
    (ha : PE X a (rE G xn W fa)) (hb : PE X b (rE G xn W fb)) (hc : PE X c (rE G xn W fc)) (hm : lastMarks [op, op'] [b, c] = false) :
    PE X (.Compare a [op, op'] [b, c] pos) (rE G xn W fun r h => (fa r h).bind fun dx h => (fb r h).bind fun dy h => (f dx dy h).bind fun k h => match k with
    | .bl true => (fc r h).bind fun dz h => f' dy dz h
    | .bl false => .ok (.bl false) h
    | _ => .stuck) :=
  PE.imp (pe_chain ho ho' ha hb hc hm) fun σ H Q ⟨p, r, h, m, s, k⟩ => ⟨p, r, h, m, s, PostE.bind (o := fa r h) k fun d h1 p1 v H1 q1 l1 m1 r1 k1 =>
    ⟨p1, r, h1, m1, s.mono l1 q1, PostE.bind (o := fb r h1) k1 fun e h2 p2 u H2 q2 l2 m2 r2 k2 => hp p2 h2 H2 v u d e _ m2 (r1.mono l2 q2) r2 (by
      cases z : f d e h2 with
      | ok x h3 =>
        rw [z] at k2
        obtain ⟨b', rfl⟩ := hB d e h2 x h3 z
        intro p3 v3 H3 q3 l3 m3 r3
        cases r3
        refine ⟨b', rfl, ?_⟩
        have k2 := PostE.mono (o := (match D.bl b' with | .bl true => (fc r h3).bind fun dz h => f' e dz h | .bl false => .ok (.bl false) h3 | _ => .stuck)) k2 q3 l3
        cases b' with
        | true =>
          exact ⟨p3, r, h3, m3, (s.mono (l1.trans (l2.trans l3)) (q1.trans (q2.trans q3))), PostE.bind (o := fc r h3) k2 fun dz h4 p4 w4 H4 q4 l4 m4 r4 k4 => hp' p4 h4 H4 u w4 e dz Q m4 (r2.mono (l3.trans l4) (q3.trans q4)) r4 (k4.v (nx' e dz h4))⟩
        | false => exact k2 p3 _ H3 (List.prefix_refl _) (Le.refl _) m3 (.bl _)
      | exc x h3 => exact absurd z (nx d e h2 x h3)
      | stuck => rw [z] at k2; exact k2)⟩⟩
end

/-! ### statements -/
theorem bs_assoc {a b : Type} (m : Out a) (f : a → Mem → Out b) (r : Env) (g : b → Mem → Out Fl) : (m.bind f).bs r g = m.bs r fun x h => (f x h).bs r g := by
  cases m <;> rfl
section
variable {X : Cx} {G : Gx} {xn : Nat → Str} {W : WX} {e : Expr} {pos : Pos} {fe : Env → Mem → Out D} {st : Stmt} {sts : List Stmt} {fs ft : Env → Mem → Out Fl}
theorem s_skip : PSs X [] (rS G xn W fun r h => .ok (.nx r) h) := PSs.imp pss_nil fun En σ H ⟨p, r, h, m, s, k⟩ => k p σ H (List.prefix_refl _) (Le.refl _) m s
/-- what follows -/
theorem PostS.seq {p : List Addr} {H : Hp} {En : Ends} {o : Out Fl} {g : Env → Mem → Out Fl} (k : PostS G xn p H W En (o.seq g)) : PostS G xn p H W { En with nx := rS G xn W g En } o := by
  cases o with
  | ok f h' => cases f with
    | nx r' => exact fun p' σ' H' q l m s => ⟨p', r', h', m, s, PostS.mono (o := g r' h') k q l⟩
    | rt d => exact k
    | xc x r' => exact k
  | exc x h' => exact k
  | stuck => exact k
theorem s_seq (h1 : PS X st (rS G xn W fs)) (h2 : PSs X sts (rS G xn W ft)) : PSs X (st :: sts) (rS G xn W fun r h => (fs r h).seq fun r h => ft r h) :=
  PSs.imp (pss_cons h1 h2) fun En σ H ⟨p, r, h, m, s, k⟩ => ⟨p, r, h, m, s, PostS.seq k⟩
theorem s_pass : PS X (.Pass pos) (rS G xn W fun r h => .ok (.nx r) h) := PS.imp ps_pass fun En σ H ⟨p, r, h, m, s, k⟩ => k p σ H (List.prefix_refl _) (Le.refl _) m s
theorem s_stuck : PS X st (rS G xn W fun r h => .stuck) := PS.imp ps_never fun En σ H ⟨p, r, h, m, s, k⟩ => k
theorem s_expr (he : PE X e (rE G xn W fe)) (hs : swapsWith e none pos.line X.env = pure false) : PS X (.Expr e pos) (rS G xn W fun r h => (fe r h).bs r fun _ h => .ok (.nx r) h) :=
  PS.imp (ps_expr he hs) fun En σ H ⟨p, r, h, m, s, k⟩ => ⟨p, r, h, m, s, PostE.bindS (o := fe r h) s k fun d h1 p1 v H1 q1 l1 m1 r1 k1 => k1 p1 σ H1 (List.prefix_refl _) (Le.refl _) m1 (s.mono l1 q1)⟩
theorem s_ret (he : PE X e (rE G xn W fe)) : PS X (.Return (some e) pos) (rS G xn W fun r h => (fe r h).bs r fun d h => .ok (.rt d) h) :=
  PS.imp (ps_ret he) fun En σ H ⟨p, r, h, m, s, k⟩ => ⟨p, r, h, m, s, PostE.bindS (o := fe r h) s k fun d h1 p1 v H1 q1 l1 m1 r1 k1 => k1 p1 v H1 (List.prefix_refl _) (Le.refl _) m1 r1⟩
theorem s_if {t : Expr} {a b : List Stmt} (ht : PT X t (rTr G xn W fe)) (ha : PSs X a (rS G xn W fs)) (hb : PSs X b (rS G xn W ft)) :
    PS X (.If t a b pos) (rS G xn W fun r h => (fe r h).bs r fun d h => (tru d h).bs r fun k h => if k then fs r h else ft r h) :=
  PS.imp (ps_if ht ha hb) fun En σ H ⟨p, r, h, m, s, k⟩ => ⟨p, r, h, m, s, by
    dsimp only at k
    rw [← bs_assoc] at k
    exact PostT.bindS s k fun c h1 p1 H1 q1 l1 m1 k1 => by
      cases c with
      | true => exact ⟨p1, r, h1, m1, s.mono l1 q1, k1⟩
      | false => exact ⟨p1, r, h1, m1, s.mono l1 q1, k1⟩⟩
/-- name = e -/
theorem s_set {i : Nat} {x : Str} {pos' : Pos} (hN : X.N.Nodup) (hi : X.N[i]? = some x) (hx : Loc X.env.scope x) (he : PE X e (rE G xn W fe)) (hs : swapsWith e (some (.Name x pos')) pos.line X.env = pure false) (hf : X.fn x = true ∨ X.env.scope.names.lookup x = some .local) :
    PS X (.Assign [.Name x pos'] e pos) (rS G xn W fun r h => (fe r h).bs r fun d h => .ok (.nx (r.set i (some d))) h) :=
  PS.imp (ps_set hN hi hx he hs hf) fun En σ H ⟨p, r, h, m, s, k⟩ => ⟨p, r, h, m, s, PostE.bindS (o := fe r h) s k fun d h1 p1 v H1 q1 l1 m1 r1 k1 => k1 p1 _ H1 (List.prefix_refl _) (Le.refl _) m1 ((s.mono l1 q1).set i r1)⟩
/-! ### targets -/
/-- the target's wish: it raises nothing -/
def PostG (G : Gx) (p : List Addr) (H : Hp) (Q : L2.St → Hp → Prop) : Out Env → Prop
  | .ok r' h' => ∀ p' σ' H', p <+: p' → Le G H H' → RelM G p' h' H' → RelS G p' r' σ' H' → Q σ' H'
  | _ => False
def rG (G : Gx) (f : D → Env → Mem → Out Env) : TG := fun v σ H Q => ∃ p r h d, RelM G p h H ∧ RelS G p r σ H ∧ RelD G H p d v ∧ PostG G p H Q (f d r h)
def rGs (G : Gx) (f : List D → Env → Mem → Out Env) : TGs := fun vs σ H Q => ∃ p r h ds, RelM G p h H ∧ RelS G p r σ H ∧ RelDs G H p ds vs ∧ PostG G p H Q (f ds r h)
theorem PG.imp {tg : Expr} {t t' : TG} (x : PG X tg t) (k : ∀ v σ H Q, t' v σ H Q → t v σ H Q) : PG X tg t' := ⟨fun pins s σ H v u Q I r w => x.run pins s σ H v u Q I r (k v σ H Q w)⟩
theorem PGs.imp {tg : List Expr} {t t' : TGs} (x : PGs X tg t) (k : ∀ v σ H Q, t' v σ H Q → t v σ H Q) : PGs X tg t' := ⟨fun pins s σ H v u Q I r w => x.run pins s σ H v u Q I r (k v σ H Q w)⟩
theorem PostG.mono {p p' : List Addr} {H H' : Hp} {Q : L2.St → Hp → Prop} {o : Out Env} (k : PostG G p H Q o) (q : p <+: p') (l : Le G H H') : PostG G p' H' Q o := by
  cases o with
  | ok d h' => exact fun p2 v H2 q2 l2 m r => k p2 v H2 (q.trans q2) (l.trans l2) m r
  | exc x h' => exact k
  | stuck => exact k
theorem g_name {i : Nat} {x : Str} (hN : X.N.Nodup) (hi : X.N[i]? = some x) (hx : Loc X.env.scope x) (hf : X.fn x = true ∨ X.env.scope.names.lookup x = some .local) : PG X (.Name x pos) (rG G fun d r h => .ok (r.set i (some d)) h) :=
  PG.imp (pg_name hN hi hx hf) fun v σ H Q ⟨p, r, h, d, m, s, rd, k⟩ => k p _ H (List.prefix_refl _) (Le.refl _) m (s.set i rd)
theorem g_nil : PGs X [] (rGs G fun ds r h => match ds with | [] => .ok r h | _ => .stuck) :=
  PGs.imp pgs_nil fun vs σ H Q ⟨p, r, h, ds, m, s, rd, k⟩ => by
    cases rd with
    | nil => exact ⟨rfl, k p σ H (List.prefix_refl _) (Le.refl _) m s⟩
    | cons _ _ => exact k.elim
theorem g_cons {t : Expr} {ts : List Expr} {f : D → Env → Mem → Out Env} {g : List D → Env → Mem → Out Env} (h1 : PG X t (rG G f)) (h2 : PGs X ts (rGs G g)) (hs : (assignEach (t :: ts) X.env).map (·.2) = assign t X.env :: (assignEach ts X.env).map (·.2)) :
    PGs X (t :: ts) (rGs G fun ds r h => match ds with | d :: ds => (f d r h).bind fun r h => g ds r h | _ => .stuck) :=
  PGs.imp (pgs_cons h1 h2 hs) fun vs σ H Q ⟨p, r, h, ds, m, s, rd, k⟩ => by
    cases rd with
    | nil => exact k.elim
    | @cons d v ds vs rd rds =>
      refine ⟨v, vs, rfl, p, r, h, d, m, s, rd, ?_⟩
      have k : PostG G p H Q ((f d r h).bind fun r h => g ds r h) := k
      cases e : f d r h with
      | ok r' h' =>
        rw [e] at k
        exact fun p1 σ1 H1 q1 l1 m1 s1 => ⟨p1, r', h', ds, m1, s1, rds.mono l1 q1, PostG.mono (o := g ds r' h') k q1 l1⟩
      | exc x h' => rw [e] at k; exact k
      | stuck => rw [e] at k; exact k
theorem g_tup {ts : List Expr} {k n : Nat} {g : List D → Env → Mem → Out Env} (hK : X.K = G.K) (hc : X.calm = true) (h : PGs X ts (rGs G g)) (hg : ∀ ds r h, (∃ r' h', g ds r h = .ok r' h') → ds.length = n) (hn : (assignEach ts X.env).length = n) (hst : (assignEach ts X.env).findIdx? (·.1) = none) :
    PG X (.Tuple ts k pos) (rG G fun d r h => match d with
    | .tup l => g l r h
    | .ref n => match rd h n with
      | some l => g l r h
      | none => .stuck
    | _ => .stuck) := by
  refine ⟨fun pins s σ H v u Q I rv ⟨p, r, hh, d, m, sg, rd, kk⟩ => ?_⟩
  have len : ∀ l, PostG G p H Q (g l r hh) → l.length = n := fun l z => by
    cases e : g l r hh with
    | ok r' h' => exact hg l r hh ⟨r', h', e⟩
    | exc x h' => rw [e] at z; exact z.elim
    | stuck => rw [e] at z; exact z.elim
  cases rd with
  | tup s1 l1 => exact (pg_tup (pos := pos) (k := k) (n := n) hc h hn hst).run pins s σ H _ u Q I rv ⟨_, _, rfl, hK ▸ s1, by rw [← l1.length]; exact len _ kk, p, r, hh, _, m, sg, l1, kk⟩
  | ref e1 =>
    dsimp only at kk
    split at kk
    · rename_i l c
      obtain ⟨vs, s1, l1⟩ := m.rd e1 c
      exact (pg_lst (pos := pos) (k := k) (n := n) hc h hn hst).run pins s σ H _ u Q I rv ⟨_, _, rfl, hK ▸ s1, by rw [← l1.length]; exact len _ kk, p, r, hh, _, m, sg, l1, kk⟩
    · exact kk.elim
  | _ => exact kk.elim
/-- o[i] = .. -/
theorem s_asg {tg : Expr} {f : D → Env → Mem → Out Env} (he : PE X e (rE G xn W fe)) (hg : PG X tg (rG G f)) (hs : swapsWithSole [tg] e pos.line X.env = pure false) (hw : swappedStores [tg] e X.env = pure none) (h1 : (assignEach [tg] X.env).map (·.2) = [assign tg X.env]) :
    PS X (.Assign [tg] e pos) (rS G xn W fun r h => (fe r h).bs r fun d h => asgS (f d r h)) :=
  PS.imp (ps_asg he hg hs hw h1) fun En σ H ⟨p, r, h, m, s, k⟩ => ⟨p, r, h, m, s, PostE.bindS (o := fe r h) s k fun d h1 p1 v H1 q1 l1 m1 r1 k1 =>
    ⟨p1, r, h1, d, m1, s.mono l1 q1, r1, by
      cases e : f d r h1 with
      | ok r' h' => rw [e] at k1; exact k1
      | exc x h' => rw [e] at k1; exact k1
      | stuck => rw [e] at k1; exact k1⟩⟩
end
end RG

end

section
/-! RgSnd6: fields, stores by place, op=. -/
namespace RG
open PySem L2 PyProof.Rows

/-- what stands of the program's names and classes -/
structure GOk (G : Gx) : Prop where
  inj : ∀ i j, G.fN i = G.fN j → i = j
  fld : ∀ k f, G.t.fld k f = true → Cls G.K (G.cA k) ∧ NoAttr G.K (G.cA k) (G.fN f)

section
variable {G : Gx} {H : Hp} {p : List Addr} {h : Mem}
theorem fget_rel (g : GOk G) {f : Nat} : ∀ {fs : List (Nat × D)} {vs : List (Str × V)} {d : D}, RelF G H p fs vs → fget f fs = some d → ∃ v, vs.lookup (G.fN f) = some v ∧ RelD G H p d v
  | _, _, d, .nil, e => by simp [fget] at e
  | _, _, d, .cons (f := k) r t, e => by
    unfold fget at e
    by_cases c : k = f
    · rw [if_pos c] at e
      cases e
      subst c
      exact ⟨_, by simp [List.lookup], r⟩
    · rw [if_neg c] at e
      obtain ⟨v, h1, h2⟩ := fget_rel g t e
      refine ⟨v, ?_, h2⟩
      have : (G.fN f == G.fN k) = false := beq_eq_false_iff_ne.mpr fun z => c (g.inj _ _ z).symm
      rw [List.lookup_cons, this]
      exact h1
theorem fput_rel (g : GOk G) {f : Nat} {d : D} {v : V} (rd : RelD G H p d v) : ∀ {fs : List (Nat × D)} {vs : List (Str × V)}, RelF G H p fs vs → RelF G H p (fput f d fs) (putF (G.fN f) v vs)
  | _, _, .nil => .cons rd .nil
  | _, _, .cons (f := k) r t => by
    unfold fput putF
    by_cases c : k = f
    · subst c
      rw [if_pos rfl, if_pos rfl]
      exact .cons rd t
    · rw [if_neg c, if_neg fun z => c (g.inj _ _ z)]
      exact .cons r (fput_rel g rd t)
theorem kput_rel {k d : D} {kk : Key} {v : V} (hk : keyR k kk) (rd : RelD G H p d v) {kvs : List (D × D)} {vs : List (Key × V)} (nd : (vs.map (·.1)).Nodup) (rk : RelK G H p kvs vs) : RelK G H p (kput k d kvs) (putK vs kk v) := by
  induction rk with
  | nil =>
    unfold kput putK
    exact .cons hk rd .nil
  | @cons k' d' kk' v' l vs h1 r t ih =>
    rw [List.map_cons, List.nodup_cons] at nd
    unfold kput
    by_cases c : eqF k' k = some true
    · have e := (keyR_eq h1 hk).mp c
      subst e
      rw [if_pos c]
      have : putK ((kk', v') :: vs) kk' v = (kk', v) :: vs := by
        unfold putK
        rw [if_pos (by simp)]
        simp only [List.map_cons, if_true]
        congr 1
        have : ∀ kv ∈ vs, (if kv.1 = kk' then (kv.1, v) else kv) = kv := fun kv hkv => if_neg fun (z : kv.1 = kk') => nd.1 (List.mem_map.mpr ⟨kv, hkv, z⟩)
        exact (List.map_congr_left this).trans (List.map_id' _)
      rw [this]
      exact .cons h1 rd t
    · have e : ¬ kk' = kk := fun z => c ((keyR_eq h1 hk).mpr z)
      rw [if_neg c]
      have ih := ih nd.2
      have : putK ((kk', v') :: vs) kk v = (kk', v') :: putK vs kk v := by
        unfold putK
        simp only [List.any_cons, decide_eq_false e, Bool.false_or, List.map_cons, if_neg e]
        split <;> rfl
      rw [this]
      exact .cons h1 r ih
theorem putIx_some {x i d : D} {h' : Mem} (e : putIx x i d h = some h') : ∃ n, x = .ref n ∧ ((∃ l k j, h[n]? = some (.lst l) ∧ i = .int k ∧ ixN l.length k = some j ∧ h' = h.set n (.lst (l.set j d))) ∨ ∃ kvs, h[n]? = some (.dct kvs) ∧ isKey i = true ∧ kvs.length < sizeLine ∧ h' = h.set n (.dct (kput i d kvs))) := by
  unfold putIx at e
  split at e
  · rename_i n
    split at e
    · rename_i l c
      split at e
      · rename_i k
        split at e
        · rename_i j c2
          cases e
          exact ⟨n, rfl, .inl ⟨l, k, j, c, rfl, c2, rfl⟩⟩
        · cases e
      · cases e
    · rename_i kvs c
      split at e
      · rename_i c2
        cases e
        exact ⟨n, rfl, .inr ⟨kvs, c, c2.1, c2.2, rfl⟩⟩
      · cases e
    · cases e
  · cases e
theorem putFld_some {t : Tab} {x d : D} {f : Nat} {h' : Mem} (e : putFld t x f d h = some h') : ∃ n k fs, x = .ref n ∧ h[n]? = some (.ins k fs) ∧ t.fld k f = true ∧ fs.length < 1000 ∧ h' = h.set n (.ins k (fput f d fs)) := by
  unfold putFld at e
  split at e
  · split at e
    · split at e
      · rename_i c
        cases e
        exact ⟨_, _, _, rfl, by assumption, c.1, c.2, rfl⟩
      · cases e
    · cases e
  · cases e
end

section
variable {X : Cx} {G : Gx} {xn : Nat → Str} {W : WX} {o e i : Expr} {pos : Pos} {fo fe fi : Env → Mem → Out D}
theorem s_fld (hK : X.K = G.K) (g : GOk G) {f : Nat} {x : Str} (hx : G.fN f = x) (ho : PE X o (rE G xn W fo)) (hb : attributeBase o x X.env (eval o X.env) = eval o X.env) :
    PE X (.Attribute o x pos) (rE G xn W fun r h => (fo r h).bind fun d h => match d with
    | .ref n => match h[n]? with
      | some (.ins k fs) => if G.t.fld k f then (match fget f fs with
        | some v => .ok v h
        | none => .stuck) else .stuck
      | _ => .stuck
    | _ => .stuck) :=
  PE.imp (pe_fld ho hb) fun σ H Q ⟨p, r, h, m, s, k⟩ => ⟨p, r, h, m, s, PostE.bind (o := fo r h) k fun d h1 p1 v H1 q1 l1 m1 r1 k1 => by
    subst hx
    cases r1 with
    | @ref n a e1 =>
      dsimp only at k1
      split at k1
      · rename_i kk fs c
        split at k1
        · rename_i cf
          obtain ⟨dx, vs, h2, rf⟩ := m1.ins e1 c
          obtain ⟨c1, c2⟩ := g.fld _ _ cf
          split at k1
          · rename_i z
            obtain ⟨u, l2, r2⟩ := fget_rel g rf z
            exact ⟨a, _, dx, vs, u, rfl, h2, hK ▸ c1, hK ▸ c2, l2, k1 p1 u H1 (List.prefix_refl _) (Le.refl _) m1 r2⟩
          · exact k1.elim
        · exact k1.elim
      · exact k1.elim
    | _ => exact k1.elim⟩
/-- o.f = .. as a target -/
theorem g_fld (hK : X.K = G.K) (g : GOk G) {f : Nat} {x : Str} (hx : G.fN f = x) (ho : PE X o (rE G xn W fo)) :
    PG X (.Attribute o x pos) (rG G fun d r h => (fo r h).calm.bind fun z h => match putFld G.t z f d h with
    | some h => .ok r h
    | none => .stuck) := by
  refine ⟨fun pins s σ H v u Q I rv ⟨p, r, h, d, m, sg, rd, k⟩ => ?_⟩
  have ha : assign (.Attribute o x pos) X.env u = (do
    let ov ← holding [u] (eval o X.env)
    standAt pos.atName
    holding [u, ov] (setAttr ov x u)
    release [u, ov] []) := by unfold assign; rfl
  rw [ha]
  dsimp only at k
  cases eo : fo r h with
  | ok d2 h2 =>
    rw [eo] at k
    have k : PostG G p H Q (match putFld G.t d2 f d h2 with | some h => .ok r h | none => .stuck) := k
    split at k
    · rename_i h3 c
      obtain ⟨n, kk, fs, rfl, c2, cf, cl, rfl⟩ := putFld_some c
      refine wpAny_bind (wpAny_holding (thn (ho.run pins s σ H (fun x H' => ∃ p', p <+: p' ∧ Le G H H' ∧ RelM G p' h2 H' ∧ RelD G H' p' (.ref n) x) I ⟨p, r, h, m, sg, ?_⟩) fun ov s1 hh => ?_))
      · rw [eo]
        exact fun p' v H' q l m' r' => ⟨p', q, l, m', r'⟩
      · obtain ⟨y, H1, I1, r1, p1, q1, l1, m1, rr⟩ := hh
        cases rr with
        | @ref _ a e1 =>
          obtain rfl : ov = Value.ref a := r1
          obtain ⟨dx, vs, h4, rf⟩ := m1.ins e1 c2
          obtain ⟨c3, c4⟩ := g.fld _ _ cf
          subst hx
          refine wpAny_bind (wpAny_standAt (wpAny_bind (wpAny_holding (setattr_ok I1 h4 (hK ▸ c3) (hK ▸ c4) (by rw [← rf.length]; exact cl) rv fun s2 I2 => wpAny_release ⟨σ, _, I2, ?_⟩))))
          have le : Le G H1 (upd H1 a (.ins (G.cA kk) dx (putF (G.fN f) v vs))) := Le.mut h4 (fun _ z => by cases z) (fun _ _ z => by cases z)
          refine k p1 σ _ q1 (l1.trans le) (m1.set e1 h4 (fun _ z => by cases z) (fun _ _ z => by cases z) ⟨dx, _, upd_same, ?_⟩) (sg.mono (l1.trans le) q1)
          exact RelF.mono le (List.prefix_refl _) (fput_rel g (rd.mono l1 q1) rf)
    · exact k.elim
  | exc x h' => rw [eo] at k; exact k.elim
  | stuck => rw [eo] at k; exact k.elim
/-- o[i] = .. as a target: a list, a dict -/
theorem set_dict (hu : X.A.units + 65 < cLine) : PSet X (fun o i v H Q => ∃ a H', o = .ref a ∧ DPut H a i v H' ∧ Q H') := by
  intro pins s σ H o i v ov iv u Q I ro ri rv h
  obtain ⟨a, H', rfl, g, q⟩ := h
  cases ro
  exact d_setItem (by omega) I g ri rv fun s3 I3 => ⟨H', I3, q⟩
theorem PSet.or {t t' : TSet} (h : PSet X t) (h' : PSet X t') : PSet X (fun o i v H Q => t o i v H Q ∨ t' o i v H Q) := by
  intro pins s σ H o i v ov iv u Q I ro ri rv q
  rcases q with q | q
  · exact h pins s σ H o i v ov iv u Q I ro ri rv q
  · exact h' pins s σ H o i v ov iv u Q I ro ri rv q
theorem dk_nodup {pins : List (Addr × Obj)} {σ : L2.St} {H : Hp} {s : Shared} (I : Inv X pins σ H s) {a : Addr} {kvs : List (Key × V)} (e : H a = some (.dK kvs)) : (kvs.map (·.1)).Nodup := by
  obtain ⟨_, _, vs, rv, dd⟩ := dk_of I.hok e
  rw [rv.keys]
  obtain ⟨_, _, _, _, _, _, _, _, nd⟩ := dd
  exact nd
theorem run_calm {pins : List (Addr × Obj)} {s : Shared} {σ : L2.St} {H : Hp} {p : List Addr} {r : Env} {h h2 : Mem} {d : D} {Q : Value → Shared → Prop} (ho : PE X o (rE G xn W fo)) (I : Inv X pins σ H s) (m : RelM G p h H) (sg : RelS G p r σ H) (eo : fo r h = .ok d h2)
    (k : ∀ u s' v H' p', Inv X pins σ H' s' → RelV v u → p <+: p' → Le G H H' → RelM G p' h2 H' → RelD G H' p' d v → Q u s') : wpAny (model X.prog X.w) X.A (eval o X.env) Q X.xe s := by
  refine thn (ho.run pins s σ H (fun x H' => ∃ p', p <+: p' ∧ Le G H H' ∧ RelM G p' h2 H' ∧ RelD G H' p' d x) I ⟨p, r, h, m, sg, ?_⟩) fun ov s1 hh => ?_
  · rw [eo]
    exact fun p' v H' q l m' r' => ⟨p', q, l, m', r'⟩
  · obtain ⟨y, H1, I1, r1, p1, q1, l1, m1, rr⟩ := hh
    exact k ov s1 y H1 p1 I1 r1 q1 l1 m1 rr
theorem g_sub (hu : X.A.units + 65 < cLine) (ho : PE X o (rE G xn W fo)) (hi : PE X i (rE G xn W fi))
    (ha : ∀ v, assign (.Subscript o i pos) X.env v = (do
      let ov ← holding [v] (eval o X.env)
      let iv ← holding [v, ov] (eval i X.env)
      standAt pos
      holding [v, ov, iv] (setItem ov iv v)
      release [v, ov, iv] [])) :
    PG X (.Subscript o i pos) (rG G fun d r h => (fo r h).calm.bind fun x h => (fi r h).calm.bind fun k h => match putIx x k d h with
    | some h => .ok r h
    | none => .stuck) := by
  refine ⟨fun pins s σ H v u Q I rv ⟨p, r, h, d, m, sg, rd, k⟩ => ?_⟩
  rw [ha]
  dsimp only at k
  cases eo : fo r h with
  | ok d2 h2 =>
    rw [eo] at k
    have k : PostG G p H Q ((fi r h2).calm.bind fun k h => match putIx d2 k d h with | some h => .ok r h | none => .stuck) := k
    cases ei : fi r h2 with
    | ok d3 h3 =>
      rw [ei] at k
      have k : PostG G p H Q (match putIx d2 d3 d h3 with | some h => .ok r h | none => .stuck) := k
      split at k
      · rename_i h4 c
        refine wpAny_bind (wpAny_holding (run_calm ho I m sg eo fun ov s1 v1 H1 p1 I1 r1 q1 l1 m1 rr => ?_))
        refine wpAny_bind (wpAny_holding (run_calm hi I1 m1 (sg.mono l1 q1) ei fun iv s2 v2 H2 p2 I2 r2 q2 l2 m2 rr2 => ?_))
        have rr := rr.mono l2 q2
        refine wpAny_bind (wpAny_standAt (wpAny_bind (wpAny_holding ?_)))
        obtain ⟨n, rfl, ⟨l, kk, j, c1, rfl, c2, rfl⟩ | ⟨kvs, c1, c2, c3, rfl⟩⟩ := putIx_some c
        · cases rr with
          | @ref _ a e1 =>
            cases rr2
            obtain ⟨vs, h5, l5⟩ := m2.lst e1 c1
            refine thn (set_list pins s2 σ H2 _ _ v ov iv u (fun H' => H' = upd H2 a (.lst (vs.set j v))) I2 r1 r2 rv ⟨a, vs, kk, j, rfl, rfl, h5, by rw [← l5.length]; exact c2, rfl⟩) fun _ s3 hh => ?_
            obtain ⟨H3, I3, rfl⟩ := hh
            have le : Le G H2 (upd H2 a (.lst (vs.set j v))) := Le.mut h5 (fun _ z => by cases z) (fun _ _ z => by cases z)
            refine wpAny_release ⟨σ, _, I3, k p2 σ _ (q1.trans q2) ((l1.trans l2).trans le) (m2.set e1 h5 (fun _ z => by cases z) (fun _ _ z => by cases z) ⟨_, upd_same, ?_⟩) (sg.mono ((l1.trans l2).trans le) (q1.trans q2))⟩
            exact RelDs.mono le (List.prefix_refl _) (RelDs.set (rd.mono (l1.trans l2) (q1.trans q2)) j l5)
        · cases rr with
          | @ref _ a e1 =>
            obtain ⟨b, e3, z⟩ := m2.at_ n _ c1
            rw [e1] at e3; cases e3
            obtain ⟨vs, h5, l5⟩ := z
            obtain ⟨kk, hk, rfl⟩ := keyR_of rr2 c2
            refine thn (set_dict hu pins s2 σ H2 _ _ v ov iv u (fun H' => H' = upd H2 a (.dK (putK vs kk v))) I2 r1 r2 rv ⟨a, _, rfl, DPut.k h5 (by rw [← l5.length]; exact c3), rfl⟩) fun _ s3 hh => ?_
            obtain ⟨H3, I3, rfl⟩ := hh
            have le : Le G H2 (upd H2 a (.dK (putK vs kk v))) := Le.mut h5 (fun _ z => by cases z) (fun _ _ z => by cases z)
            refine wpAny_release ⟨σ, _, I3, k p2 σ _ (q1.trans q2) ((l1.trans l2).trans le) (m2.set e1 h5 (fun _ z => by cases z) (fun _ _ z => by cases z) ⟨_, upd_same, ?_⟩) (sg.mono ((l1.trans l2).trans le) (q1.trans q2))⟩
            exact RelK.mono le (List.prefix_refl _) (kput_rel hk (rd.mono (l1.trans l2) (q1.trans q2)) (dk_nodup I2 h5) l5)
      · exact k.elim
    | exc x h' => rw [ei] at k; exact k.elim
    | stuck => rw [ei] at k; exact k.elim
  | exc x h' => rw [eo] at k; exact k.elim
  | stuck => rw [eo] at k; exact k.elim
/-! ### op= -/
theorem aug_some {q : P} {x d z : D} (e : aug q x d = some z) : ∃ a b, x = .int a ∧ d = .int b ∧ ((q = .add ∧ z = .int (a + b)) ∨ (q = .sub ∧ z = .int (a - b))) := by
  unfold aug at e
  split at e
  · cases e; exact ⟨_, _, rfl, rfl, .inl ⟨rfl, rfl⟩⟩
  · cases e; exact ⟨_, _, rfl, rfl, .inr ⟨rfl, rfl⟩⟩
  · cases e
def augOp : Operator → Option P
  | .Add => some .add
  | .Sub => some .sub
  | _ => none
theorem s_augN {op : Operator} {q : P} (hq : augOp op = some q) {j : Nat} {x : Str} {pos' : Pos} (hN : X.N.Nodup) (hi : X.N[j]? = some x) (hx : Loc X.env.scope x) (he : PE X e (rE G xn W fe)) (hf : X.fn x = true ∨ X.env.scope.names.lookup x = some .local) :
    PS X (.AugAssign (.Name x pos') op e pos) (rS G xn W fun r h => match r[j]? with
    | some (some x) => (fe r h).bs r fun d h => match aug q x d with
      | some z => .ok (.nx (r.set j (some z))) h
      | none => .stuck
    | _ => .stuck) := by
  have key : ∀ (f : Int → Int → Int) (ip : PIp X op (ipI f)) (hz : ∀ a b z, aug q (.int a) (.int b) = some z → z = .int (f a b)), PS X (.AugAssign (.Name x pos') op e pos) (rS G xn W fun r h => match r[j]? with
      | some (some x) => (fe r h).bs r fun d h => match aug q x d with
        | some z => .ok (.nx (r.set j (some z))) h
        | none => .stuck
      | _ => .stuck) := fun f ip hz => PS.imp (ps_aug hN hi hx he ip hf) fun En σ H ⟨p, r, h, m, s, k⟩ => by
    dsimp only at k
    cases e1 : r[j]? with
    | none => rw [e1] at k; exact k.elim
    | some o => cases o with
      | none => rw [e1] at k; exact k.elim
      | some d0 =>
        rw [e1] at k
        obtain ⟨v0, h1, h2⟩ := s.at_ j d0 e1
        refine ⟨v0, h1, p, r, h, m, s, PostE.bindS (o := fe r h) s k fun d h1 p1 v H1 q1 l1 m1 r1 k1 => ?_⟩
        split at k1
        · rename_i z c
          obtain ⟨a, b, rfl, rfl, _⟩ := aug_some c
          obtain rfl := hz a b z c
          cases h2
          cases r1
          exact ⟨a, b, rfl, rfl, k1 p1 _ H1 (List.prefix_refl _) (Le.refl _) m1 ((s.mono l1 q1).set j (.int _))⟩
        · exact k1.elim
  cases op <;> simp [augOp] at hq <;> subst hq
  · exact key _ ip_add fun a b z c => by simp [aug] at c; exact c.symm
  · exact key _ ip_sub fun a b z c => by simp [aug] at c; exact c.symm
end
end RG

end

section
/-! RgSnd7: calls. -/
namespace RG
open PySem L2 PyProof.Rows

/-- what is wanted behind a call -/
def PostC (G : Gx) (xn : Nat → Str) (p : List Addr) (H : Hp) (Q : VK) (E : XK) : Out D → Prop
  | .ok d h' => ∀ p' v H', p <+: p' → Le G H H' → RelM G p' h' H' → RelD G H' p' d v → Q v H'
  | .exc x h' => ∀ p' cls dd H', p <+: p' → Le G H H' → RelM G p' h' H' → RelX G xn H' p' x cls dd → E cls dd H'
  | .stuck => False
/-- a def's promise: what the language's function tells -/
def spF (G : Gx) (xn : Nat → Str) (n f : Nat) (ar : Nat) : Sp := fun vs H Q E => ∃ p ds h, RelM G p h H ∧ RelDs G H p ds vs ∧ vs.length = ar ∧ PostC G xn p H Q E (run G.t n f ds h)

/-- the defs as the text has them -/
structure Fo where
  fd : Nat → FuncData
  ps : Nat → List Str
structure CallOk (G : Gx) (F : Fo) (xn : Nat → Str) (n : Nat) : Prop where
  ok : ∀ f d, G.t.defs f = some d → FnOk G.P G.w G.K G.mg G.base (L2.CX G.P G.w) (n + 1) (G.fA f) (F.fd f) (F.ps f) (spF G xn n f (F.ps f).length)

/-- the context of a body: over G -/
structure XG (X : Cx) (G : Gx) : Prop where
  P : X.prog = G.P
  w : X.w = G.w
  K : X.K = G.K
  mg : X.mg = G.mg
  base : X.base = G.base

section
variable {X : Cx} {G : Gx} {F : Fo} {xn : Nat → Str} {W : WX} {n f : Nat}
theorem run_some {t : Tab} {n f : Nat} {ds : List D} {h : Mem} (k : run t n f ds h ≠ .stuck) : ∃ d, t.defs f = some d := by
  match n, k with
  | 0, k => exact absurd rfl k
  | 1, k => exact absurd rfl k
  | n + 2, k =>
    unfold run at k
    cases e : t.defs f with
    | none => rw [e] at k; exact absurd rfl k
    | some d => exact ⟨d, rfl⟩
theorem PostE.c {p : List Addr} {σ : L2.St} {H : Hp} {Q : VK} {o : Out D} (k : PostE G xn p σ H W Q o) : PostC G xn p H Q (WE W σ) o := by
  cases o <;> exact k
theorem PostE.ns {p : List Addr} {σ : L2.St} {H : Hp} {Q : VK} {o : Out D} (k : PostE G xn p σ H W Q o) : o ≠ .stuck := fun e => by rw [e] at k; exact k
/-- the call of the def at f, however its arguments were bound -/
theorem callF (xg : XG X G) (C : CallOk G F xn n) (tk : Takes X W) (hr : Room (n + 1) X.A) {pins : List (Addr × Obj)} {σ : L2.St} {H : Hp} {s : Shared} {Q : VK} {us zs : List Value} {kw : List (Str × Value)} {vs : List V} {p : List Addr} {ds : List D} {h : Mem}
    (I : Inv X pins σ H s) (hb : BindsTo s (F.fd f) ⟨us, kw⟩ ((F.ps f).zip zs)) (r : Vals vs zs) (hl : zs.length = (F.ps f).length) (m : RelM G p h H) (rd : RelDs G H p ds vs) (k : PostE G xn p σ H W Q (run G.t n f ds h)) :
    wpAny (model X.prog X.w) X.A (call (.ref (G.fA f)) us kw) (EP X pins σ Q) X.xe s := by
  obtain ⟨d, hd⟩ := run_some k.ns
  have Fk := C.ok f d hd
  have Fk : FnOk X.prog X.w X.K X.mg X.base (L2.CX X.prog X.w) (n + 1) (G.fA f) (F.fd f) (F.ps f) (spF G xn n f (F.ps f).length) := by
    rw [xg.P, xg.w, xg.K, xg.mg, xg.base]; exact Fk
  refine wpAny_call (codeAny_mono (Fk.run X.A X.stack s H ⟨us, kw⟩ zs vs Q (WE W σ) hr I.env0 hb r ⟨p, ds, h, m, rd, by rw [r.length]; exact hl, k.c⟩) fun r s' hq => ?_)
  cases r with
  | error e => exact passAt tk σ pins H s e s' I hq
  | ok fl =>
    cases fl with
    | ret u => exact I.after hq
    | next => exact False.elim hq
    | brk => exact False.elim hq
    | cont => exact False.elim hq
/-- how a call binds: so many values, keywords of these names; the values and the defaults in another order -/
def Form (G : Gx) (F : Fo) (f n : Nat) (ks : List Str) (pk : List Nat) (dd : List D) : Prop :=
  ∃ (its : List Value) (dvs : List V), Vals dvs its ∧ (∀ H p, RelDs G H p dd dvs) ∧ ∀ (s : Shared) (us ws : List Value), G.K.In s.heap → us.length = n → ws.length = ks.length →
    ∃ zs, pickO (us ++ ws ++ its) pk = some zs ∧ zs.length = (F.ps f).length ∧ BindsTo s (F.fd f) ⟨us, ks.zip ws⟩ ((F.ps f).zip zs)
theorem pick_vals {vs : List V} {us : List Value} (r : Vals vs us) : ∀ {pk : List Nat} {zs : List Value}, pickO us pk = some zs → ∃ ys, pickO vs pk = some ys ∧ Vals ys zs
  | [], _, e => by cases e; exact ⟨[], rfl, .nil⟩
  | i :: pk, zs, e => by
    unfold pickO at e
    split at e
    · rename_i x xs c1 c2
      cases e
      obtain ⟨ys, h1, h2⟩ := pick_vals r c2
      cases q : vs[i]? with
      | none => rw [r.none_of q] at c1; cases c1
      | some v =>
        obtain ⟨u, g1, g2⟩ := r.get q
        rw [g1] at c1; cases c1
        exact ⟨v :: ys, by unfold pickO; rw [q, h1], .cons g2 h2⟩
    · cases e
theorem pick_rel {p : List Addr} {H : Hp} {ds : List D} {vs : List V} (r : RelDs G H p ds vs) : ∀ {pk : List Nat} {zs : List V}, pickO vs pk = some zs → ∃ ys, pickO ds pk = some ys ∧ RelDs G H p ys zs
  | [], _, e => by cases e; exact ⟨[], rfl, .nil⟩
  | i :: pk, zs, e => by
    unfold pickO at e
    split at e
    · rename_i x xs c1 c2
      cases e
      obtain ⟨ys, h1, h2⟩ := pick_rel r c2
      obtain ⟨d, g1, g2⟩ := r.getV c1
      exact ⟨d :: ys, by unfold pickO; rw [g1, h1], .cons g2 h2⟩
    · cases e
theorem Vals.split {vs : List V} {us : List Value} (n : Nat) (r : Vals vs us) : Vals (vs.take n) (us.take n) ∧ Vals (vs.drop n) (us.drop n) := ⟨r.take n, r.drop n⟩
end

section
variable {X : Cx} {G : Gx} {F : Fo} {xn : Nat → Str} {W : WX} {n f : Nat} {a o : Expr} {es : List Expr} {x : Str} {q pos apos : Pos} {fa : Env → Mem → Out (List D)} {fo : Env → Mem → Out D}
/-- f(e, ..) -/
theorem s_call (xg : XG X G) (C : CallOk G F xn n) (tk : Takes X W) (hr : Room (n + 1) X.A) (hg : Gl X x) (hm : G.mg x = some (.ref (G.fA f))) (hk : PySem.W.keepIn G.K (.ref (G.fA f)) = true) (hb : Binds G.K (F.fd f) (F.ps f) []) (har : (a :: es).length = (F.ps f).length) (hla : ∀ r h ds h', fa r h = .ok ds h' → ds.length = (a :: es).length)
    (ha : PA X (a :: es) (rA G xn W fa)) (hdb : (x == ("__debug__" : Str)) = false) (he : starEach (a :: es) X.env = (false, eval a X.env) :: starEach es X.env) (hpl : (backTo pos (starEach es X.env)).any (·.1) = false) :
    PE X (.Call (.Name x q) (a :: es) [] pos) (rE G xn W fun r h => (fa r h).bind fun ds h => run G.t n f ds h) := by
  refine ⟨fun pins s σ H Q I ⟨p, r, h, m, sg, k⟩ => ?_⟩
  refine wpAny_Call_Name_kw (ld_glob I hg (by rw [xg.mg]; exact hm) ?_ hdb)
  dsimp only at k
  have hK := xg.K
  refine PySem.W.callWith_K (h₀ := X.base) I.ok.mod.kin (by rw [hK]; exact hk) (thn (ha.run pos pins s σ H (fun vs H' => ∃ p' h' ds, RelM G p' h' H' ∧ RelDs G H' p' ds vs ∧ ds.length = (a :: es).length ∧ PostE G xn p' σ H' W Q (run G.t n f ds h')) I ⟨p, r, h, m, sg, ?_⟩) fun us s1 hh => ?_) he hpl
  · cases e : fa r h with
    | ok ds h' =>
      rw [e] at k
      exact fun p1 vs H1 q1 l1 m1 r1 => ⟨p1, h', ds, m1, r1, hla r h ds h' e, PostE.mono (o := run G.t n f ds h') k q1 l1⟩
    | exc x h' => rw [e] at k; exact k
    | stuck => rw [e] at k; exact k
  · obtain ⟨vs, H1, I1, rv, p1, h1, ds, m1, rd, ld, k1⟩ := hh
    refine ⟨I1.kIn, ?_⟩
    have hl : us.length = (F.ps f).length := by rw [← rv.length, ← rd.length, ld, har]
    have hb' := hb s1 us (hK ▸ I1.kIn) (by rw [List.append_nil]; exact hl)
    rw [List.append_nil] at hb'
    exact callF xg C tk hr I1 hb' rv hl m1 rd k1
/-- f() -/
theorem s_call0 (xg : XG X G) (C : CallOk G F xn n) (tk : Takes X W) (hr : Room (n + 1) X.A) (hg : Gl X x) (hm : G.mg x = some (.ref (G.fA f))) (hk : PySem.W.keepIn G.K (.ref (G.fA f)) = true) (hb : Binds G.K (F.fd f) (F.ps f) []) (har : 0 = (F.ps f).length) (hdb : (x == ("__debug__" : Str)) = false) :
    PE X (.Call (.Name x q) [] [] pos) (rE G xn W fun r h => run G.t n f [] h) := by
  refine ⟨fun pins s σ H Q I ⟨p, r, h, m, sg, k⟩ => ?_⟩
  refine wpAny_Call_Name_kw (ld_glob I hg (by rw [xg.mg]; exact hm) ?_ hdb)
  have hK := xg.K
  have hb' := hb s [] (hK ▸ I.kIn) har
  exact PySem.W.callWith_K0 I.kIn (by rw [hK]; exact hk) (callF xg C tk hr I hb' .nil har m .nil k)
/-- a method's promise holds: the class of the receiver is told by the memory -/
structure MethOk (G : Gx) (F : Fo) (mN : Nat → Str) : Prop where
  at_ : ∀ k m f, G.t.meth k m = some f → Cls G.K (G.cA k) ∧ Meth G.K (G.cA k) (mN m) (G.fA f) ∧ Binds G.K (F.fd f) (F.ps f) []
  no : ∀ m g, mN m ≠ G.fN g
theorem nof_lookup {p : List Addr} {H : Hp} {y : Str} (no : ∀ g, y ≠ G.fN g) : ∀ {fs : List (Nat × D)} {vs : List (Str × V)}, RelF G H p fs vs → vs.lookup y = none
  | _, _, .nil => rfl
  | _, _, .cons (f := g) r t => by
    have : (y == G.fN g) = false := beq_eq_false_iff_ne.mpr (no g)
    rw [List.lookup_cons, this]
    exact nof_lookup no t
/-- o.m(e, ..) -/
theorem s_meth {mN : Nat → Str} {mm : Nat} {pl : Sem Bool} (xg : XG X G) (C : CallOk G F xn n) (M : MethOk G F mN) (tk : Takes X W) (hr : Room (n + 1) X.A) (hmm : mN mm = x) (ho : PE X o (rE G xn W fo)) (ha : PA X (a :: es) (rA G xn W fa))
    (hla : ∀ r h ds h', fa r h = .ok ds h' → ds.length = (a :: es).length) (har : ∀ k f, G.t.meth k mm = some f → (a :: es).length + 1 = (F.ps f).length)
    (hst : starEach (a :: es) X.env = (false, eval a X.env) :: starEach es X.env) (hpl : (backTo pos (starEach es X.env)).any (·.1) = false)
    (ht : eval (.Call (.Attribute o x apos) (a :: es) [] pos) X.env = (do
      let ov ← eval o X.env
      standAt apos.atName
      let (f, first) ← holding [ov] (getMethod ov x pl)
      callWith pos f first (backTo pos (starEach (a :: es) X.env)) (backToKw pos (keywordEach [] X.env)))) :
    PE X (.Call (.Attribute o x apos) (a :: es) [] pos) (rE G xn W fun r h => (fo r h).bind fun d h => match d with
    | .ref i => match h[i]? with
      | some (.ins k _) => match G.t.meth k mm with
        | some f => (fa r h).bind fun ds h => run G.t n f (d :: ds) h
        | none => .stuck
      | _ => .stuck
    | _ => .stuck) := by
  refine ⟨fun pins s σ H Q I ⟨p, r, h, m, sg, k⟩ => ?_⟩
  dsimp only at k
  have hK := xg.K
  refine PySem.W.methodCall_KW (pl := pl) (thn (ho.run pins s σ H (fun v H' => ∃ p' h' d, p <+: p' ∧ Le G H H' ∧ RelM G p' h' H' ∧ RelD G H' p' d v ∧ PostE G xn p' σ H' W Q (match d with
    | .ref i => match h'[i]? with
      | some (.ins k _) => match G.t.meth k mm with
        | some f => (fa r h').bind fun ds h => run G.t n f (d :: ds) h
        | none => .stuck
      | _ => .stuck
    | _ => .stuck)) I ⟨p, r, h, m, sg, ?_⟩) fun u s1 hh => ?_) ht
  · cases e : fo r h with
    | ok d h' =>
      rw [e] at k
      exact fun p1 vs H1 q1 l1 m1 r1 => ⟨p1, h', d, q1, l1, m1, r1, PostE.mono k q1 l1⟩
    | exc x h' => rw [e] at k; exact k
    | stuck => rw [e] at k; exact k
  · obtain ⟨v, H1, I1, rv, p1, h1, d, q1, l1, m1, rd, k1⟩ := hh
    cases rd with
    | @ref i b e1 =>
      dsimp only at k1
      split at k1
      · rename_i kk fs c
        split at k1
        · rename_i f cf
          obtain ⟨dx, vs, h2, rf⟩ := m1.ins e1 c
          obtain ⟨c1, c2, c3⟩ := M.at_ _ _ _ cf
          obtain rfl : u = Value.ref b := rv
          subst hmm
          refine getmeth_ok I1 h2 (hK ▸ c1) (hK ▸ c2) (nof_lookup (M.no mm) rf) ?_
          refine PySem.W.callWith_K (first := [.ref b]) (h₀ := X.base) I.ok.mod.kin (by rw [hK]; exact c2.kp) (thn (ha.run pos pins s1 σ H1 (fun vs H' => ∃ p' h' ds, RelM G p' h' H' ∧ RelDs G H' p' ds vs ∧ RelD G H' p' (.ref i) (.ref b) ∧ ds.length = (a :: es).length ∧ PostE G xn p' σ H' W Q (run G.t n f (.ref i :: ds) h')) I1 ⟨p1, r, h1, m1, sg.mono l1 q1, ?_⟩) fun us s2 hh2 => ?_) hst hpl
          · cases e : fa r h1 with
            | ok ds h' =>
              rw [e] at k1
              exact fun p2 vs H2 q2 l2 m2 r2 => ⟨p2, h', ds, m2, r2, .ref (pre_get q2 e1), hla r h1 ds h' e, PostE.mono (o := run G.t n f (.ref i :: ds) h') k1 q2 l2⟩
            | exc x h' => rw [e] at k1; exact k1
            | stuck => rw [e] at k1; exact k1
          · obtain ⟨vs2, H2, I2, rv2, p2, h3, ds, m2, rd2, rr, ld, k2⟩ := hh2
            refine ⟨I2.kIn, ?_⟩
            have hl : (Value.ref b :: us).length = (F.ps f).length := by
              rw [← har _ _ cf, List.length_cons, ← rv2.length, ← rd2.length, ld]
            have hb' := c3 s2 (Value.ref b :: us) (hK ▸ I2.kIn) (by rw [List.append_nil]; exact hl)
            rw [List.append_nil] at hb'
            exact callF (vs := .ref b :: vs2) xg C tk hr I2 hb' (.cons rfl rv2) hl m2 (.cons rr rd2) k2
        · exact k1.elim
      · exact k1.elim
    | _ => exact k1.elim
/-- o.m() -/
theorem s_meth0 {mN : Nat → Str} {mm : Nat} {pl : Sem Bool} (xg : XG X G) (C : CallOk G F xn n) (M : MethOk G F mN) (tk : Takes X W) (hr : Room (n + 1) X.A) (hmm : mN mm = x) (ho : PE X o (rE G xn W fo)) (har : ∀ k f, G.t.meth k mm = some f → 1 = (F.ps f).length)
    (ht : eval (.Call (.Attribute o x apos) [] [] pos) X.env = (do
      let ov ← eval o X.env
      standAt apos.atName
      let (f, first) ← holding [ov] (getMethod ov x pl)
      callWith pos f first (backTo pos (starEach [] X.env)) (backToKw pos (keywordEach [] X.env)))) :
    PE X (.Call (.Attribute o x apos) [] [] pos) (rE G xn W fun r h => (fo r h).bind fun d h => match d with
    | .ref i => match h[i]? with
      | some (.ins k _) => match G.t.meth k mm with
        | some f => run G.t n f [d] h
        | none => .stuck
      | _ => .stuck
    | _ => .stuck) := by
  refine ⟨fun pins s σ H Q I ⟨p, r, h, m, sg, k⟩ => ?_⟩
  dsimp only at k
  have hK := xg.K
  refine PySem.W.methodCall_KW (pl := pl) (thn (ho.run pins s σ H (fun v H' => ∃ p' h' d, p <+: p' ∧ Le G H H' ∧ RelM G p' h' H' ∧ RelD G H' p' d v ∧ PostE G xn p' σ H' W Q (match d with
    | .ref i => match h'[i]? with
      | some (.ins k _) => match G.t.meth k mm with
        | some f => run G.t n f [d] h'
        | none => .stuck
      | _ => .stuck
    | _ => .stuck)) I ⟨p, r, h, m, sg, ?_⟩) fun u s1 hh => ?_) ht
  · cases e : fo r h with
    | ok d h' =>
      rw [e] at k
      exact fun p1 vs H1 q1 l1 m1 r1 => ⟨p1, h', d, q1, l1, m1, r1, PostE.mono k q1 l1⟩
    | exc x h' => rw [e] at k; exact k
    | stuck => rw [e] at k; exact k
  · obtain ⟨v, H1, I1, rv, p1, h1, d, q1, l1, m1, rd, k1⟩ := hh
    cases rd with
    | @ref i b e1 =>
      dsimp only at k1
      split at k1
      · rename_i kk fs c
        split at k1
        · rename_i f cf
          obtain ⟨dx, vs, h2, rf⟩ := m1.ins e1 c
          obtain ⟨c1, c2, c3⟩ := M.at_ _ _ _ cf
          obtain rfl : u = Value.ref b := rv
          subst hmm
          refine getmeth_ok I1 h2 (hK ▸ c1) (hK ▸ c2) (nof_lookup (M.no mm) rf) ?_
          have hb' := c3 s1 [Value.ref b] (hK ▸ I1.kIn) (har _ _ cf)
          exact PySem.W.callWith_K0 (first := [.ref b]) I1.kIn (by rw [hK]; exact c2.kp) (callF (vs := [.ref b]) xg C tk hr I1 hb' (.cons rfl .nil) (har _ _ cf) m1 (.cons (.ref e1) .nil) k1)
        · exact k1.elim
      · exact k1.elim
    | _ => exact k1.elim
end
end RG

end

section
/-! RgSnd8: calls with keywords and defaults, new instances, len of an instance, a name that holds a def. -/
namespace RG
open PySem L2 PyProof.Rows

/-- keywords' values -/
theorem PK.imp {X : Cx} {e : List Keyword} {t t' : TA} (x : PK X e t) (k : ∀ σ H Q, t' σ H Q → t σ H Q) : PK X e t' := ⟨fun pos pins s σ H Q I w => x.run pos pins s σ H Q I (k σ H Q w)⟩
section
variable {X : Cx} {G : Gx} {xn : Nat → Str} {W : WX} {a : Expr} {fa : Env → Mem → Out D}
theorem k_nil : PK X [] (rA G xn W fun _ h => .ok [] h) := PK.imp pk_nil fun σ H Q ⟨p, r, h, m, s, k⟩ => k p [] H (List.prefix_refl _) (Le.refl H) m .nil
theorem k_cons {es : List Keyword} {nm : Option Str} {kpos : Pos} {f : Env → Mem → Out (List D)} (ha : PE X a (rE G xn W fa)) (hr : PK X es (rA G xn W f)) :
    PK X (⟨nm, a, kpos⟩ :: es) (rA G xn W fun r h => (fa r h).bind fun d h => (f r h).bind fun ds h => .ok (d :: ds) h) :=
  PK.imp (pk_cons ha hr) fun σ H Q ⟨p, r, h, m, s, k⟩ => ⟨p, r, h, m, s, PostE.bindA (o := fa r h) k fun d h1 p1 v H1 q1 l1 m1 r1 k1 =>
    ⟨p1, r, h1, m1, s.mono l1 q1, PostA.bindA (o := f r h1) k1 fun ds h2 p2 vs H2 q2 l2 m2 r2 k2 => k2 p2 (v :: vs) H2 (List.prefix_refl _) (Le.refl H2) m2 (.cons (r1.mono l2 q2) r2)⟩⟩
end

section
variable {X : Cx} {G : Gx} {F : Fo} {xn : Nat → Str} {W : WX} {n f c : Nat} {a o : Expr} {es : List Expr} {kws : List Keyword} {x : Str} {q pos apos : Pos} {fa fk : Env → Mem → Out (List D)} {fo : Env → Mem → Out D} {ks : List Str} {pk : List Nat} {dd : List D}
theorem pickO_len {b : Type} {l : List b} : ∀ {pk : List Nat} {zs : List b}, pickO l pk = some zs → zs.length = pk.length
  | [], _, e => by cases e; rfl
  | i :: pk, zs, e => by
    unfold pickO at e
    split at e
    · rename_i x xs c1 c2
      cases e
      exact congrArg (· + 1) (pickO_len c2)
    · cases e
/-- the values in the parameters' order -/
theorem form_put {p : List Addr} {H : Hp} {vs zs dvs : List V} {us ws its : List Value} {ds es : List D} {ys : List Value} (r1 : Vals vs us) (r2 : Vals zs ws) (r3 : Vals dvs its) (d1 : RelDs G H p ds vs) (d2 : RelDs G H p es zs) (d3 : RelDs G H p dd dvs) (e : pickO (us ++ ws ++ its) pk = some ys) :
    ∃ vys dys, pickO (ds ++ es ++ dd) pk = some dys ∧ Vals vys ys ∧ RelDs G H p dys vys := by
  obtain ⟨vys, h1, h2⟩ := pick_vals ((r1.append r2).append r3) e
  obtain ⟨dys, h3, h4⟩ := pick_rel ((d1.append d2).append d3) h1
  exact ⟨vys, dys, h3, h2, h4⟩
/-- f(e, .., k = v, ..), defaults behind -/
theorem s_callP (xg : XG X G) (C : CallOk G F xn n) (tk : Takes X W) (hr : Room (n + 1) X.A) (hg : Gl X x) (hm : G.mg x = some (.ref (G.fA f))) (hk : PySem.W.keepIn G.K (.ref (G.fA f)) = true) (hb : Form G F f (a :: es).length ks pk dd)
    (hla : ∀ r h ds h', fa r h = .ok ds h' → ds.length = (a :: es).length) (hlk : ∀ r h ds h', fk r h = .ok ds h' → ds.length = ks.length)
    (ha : PA X (a :: es) (rA G xn W fa)) (hkw : PK X kws (rA G xn W fk)) (hall : (backToKw pos (keywordEach kws X.env)).all (·.1.isSome) = true) (hks : (backToKw pos (keywordEach kws X.env)).filterMap (·.1) = ks)
    (hdb : (x == ("__debug__" : Str)) = false) (he : starEach (a :: es) X.env = (false, eval a X.env) :: starEach es X.env)
    (hpl : ((backTo pos (starEach (a :: es) X.env)).any (·.1) || (backToKw pos (keywordEach kws X.env)).any (·.1.isNone)) = false) :
    PE X (.Call (.Name x q) (a :: es) kws pos) (rE G xn W fun r h => (fa r h).bind fun ds h => (fk r h).bind fun es h => match pickO (ds ++ es ++ dd) pk with
    | some zs => run G.t n f zs h
    | none => .stuck) := by
  refine ⟨fun pins s σ H Q I ⟨p, r, h, m, sg, k⟩ => ?_⟩
  refine wpAny_Call_Name_kw (ld_glob I hg (by rw [xg.mg]; exact hm) ?_ hdb)
  dsimp only at k
  have hK := xg.K
  obtain ⟨its, dvs, rdv, rdd, hbind⟩ := hb
  refine PySem.W.callWith_KW (h₀ := X.base) I.ok.mod.kin (by rw [hK]; exact hk) hall (thn (ha.run pos pins s σ H (fun vs H' => ∃ p' h' ds, p <+: p' ∧ Le G H H' ∧ RelM G p' h' H' ∧ RelDs G H' p' ds vs ∧ ds.length = (a :: es).length ∧ PostE G xn p' σ H' W Q ((fk r h').bind fun es h => match pickO (ds ++ es ++ dd) pk with
    | some zs => run G.t n f zs h
    | none => .stuck)) I ⟨p, r, h, m, sg, ?_⟩) fun us s1 hh => ?_) hpl he
  · cases e : fa r h with
    | ok ds h' =>
      rw [e] at k
      exact fun p1 vs H1 q1 l1 m1 r1 => ⟨p1, h', ds, q1, l1, m1, r1, hla r h ds h' e, PostE.mono k q1 l1⟩
    | exc x h' => rw [e] at k; exact k
    | stuck => rw [e] at k; exact k
  · obtain ⟨vs, H1, I1, rv, p1, h1, ds, q1, l1, m1, rd, ld, k1⟩ := hh
    refine thn (hkw.run pos pins s1 σ H1 (fun zs H' => ∃ p' h' es', p1 <+: p' ∧ Le G H1 H' ∧ RelM G p' h' H' ∧ RelDs G H' p' es' zs ∧ es'.length = ks.length ∧ PostE G xn p' σ H' W Q (match pickO (ds ++ es' ++ dd) pk with
      | some zs => run G.t n f zs h'
      | none => .stuck)) I1 ⟨p1, r, h1, m1, sg.mono l1 q1, ?_⟩) fun ws s2 hh2 => ?_
    · cases e : fk r h1 with
      | ok es' h' =>
        rw [e] at k1
        exact fun p2 vs H2 q2 l2 m2 r2 => ⟨p2, h', es', q2, l2, m2, r2, hlk r h1 es' h' e, PostE.mono k1 q2 l2⟩
      | exc x h' => rw [e] at k1; exact k1
      | stuck => rw [e] at k1; exact k1
    · obtain ⟨zs, H2, I2, rz, p2, h2, es', q2, l2, m2, re, le', k2⟩ := hh2
      refine ⟨I2.kIn, ?_⟩
      rw [hks]
      obtain ⟨ys, e1, e2, hb'⟩ := hbind s2 us ws (hK ▸ I2.kIn) (by rw [← rv.length, ← rd.length, ld]) (by rw [← rz.length, ← re.length, le'])
      obtain ⟨vys, dys, g1, g2, g3⟩ := form_put rv rz rdv (rd.mono l2 q2) re (rdd H2 p2) e1
      rw [g1] at k2
      exact callF xg C tk hr I2 hb' g2 e2 m2 g3 k2
/-- a new instance, however its arguments were bound -/
theorem makeF (xg : XG X G) (C : CallOk G F xn n) (tk : Takes X W) (hr : Room (n + 2) X.A) (M : Mk G.K (G.cA c) (G.fA f)) {pins : List (Addr × Obj)} {σ : L2.St} {H : Hp} {s : Shared} {Q : VK} {us : List Value} {kw : List (Str × Value)} {p : List Addr} {h : Mem} {dys : List D}
    (I : Inv X pins σ H s) (m : RelM G p h H)
    (hb : ∀ (b : Addr) (s' : Shared), G.K.In s'.heap → ∃ zs vys, BindsTo s' (F.fd f) ⟨.ref b :: us, kw⟩ ((F.ps f).zip zs) ∧ zs.length = (F.ps f).length ∧ Vals vys zs ∧ ∀ H' p', p <+: p' → Le G H H' → p'[h.length]? = some b → RelDs G H' p' dys vys)
    (k : PostE G xn p σ H W Q ((run G.t n f dys (h ++ [.ins c []])).bind fun v h' => match v with | .non => .ok (.ref h.length) h' | _ => .stuck)) :
    wpAny (model X.prog X.w) X.A (call (.ref (G.cA c)) us kw) (EP X pins σ Q) X.xe s := by
  have ns : run G.t n f dys (h ++ [.ins c []]) ≠ .stuck := fun e => by rw [e] at k; exact k
  obtain ⟨d, hd⟩ := run_some ns
  have Fk := C.ok f d hd
  have hK := xg.K
  have Fk : FnOk X.prog X.w X.K X.mg X.base (L2.CX X.prog X.w) (n + 1) (G.fA f) (F.fd f) (F.ps f) (spF G xn n f (F.ps f).length) := by
    rw [xg.P, xg.w, xg.K, xg.mg, xg.base]; exact Fk
  have M' : Mk X.K (G.cA c) (G.fA f) := by rw [hK]; exact M
  have I2 := Inv.made (C := G.cA c) I
  generalize hb0 : s.heap.objs.size + 1 = b at I2
  have n1 : H b = none := by rw [← hb0]; exact I.hok.fresh (Nat.le_succ _)
  have n0 : H s.heap.objs.size = none := I.hok.fresh (Nat.le_refl _)
  have ne : s.heap.objs.size ≠ b := by rw [← hb0]; exact Nat.ne_of_lt (Nat.lt_succ_self _)
  have x1 : ∀ d o, H d = some o → (upd H s.heap.objs.size (.own b)) d = some o := fun d o e => by rw [upd_ne (ne_of_none e n0)]; exact e
  have m1 : RelM G p h (upd H s.heap.objs.size (.own b)) := m.ext x1
  have nb : (upd H s.heap.objs.size (.own b)) b = none := by rw [upd_ne (Ne.symm ne)]; exact n1
  have le1 : Le G H (upd (upd H s.heap.objs.size (.own b)) b (.ins (G.cA c) s.heap.objs.size [])) := (Le.ext x1).trans (Le.new nb)
  have m2 : RelM G (p ++ [b]) (h ++ [.ins c []]) (upd (upd H s.heap.objs.size (.own b)) b (.ins (G.cA c) s.heap.objs.size [])) := m1.new nb (m1.fresh nb) ⟨_, _, upd_same, .nil⟩
  have pb : (p ++ [b])[h.length]? = some b := by rw [← m.len]; simp
  obtain ⟨zs, vys, hbt, hl, rv, rr⟩ := hb b { s with heap := (s.heap.push PySem.W.emptyDict).push (PySem.W.instObj (G.cA c) s.heap.objs.size) } (hK ▸ I2.kIn)
  have rdd := rr _ _ (List.prefix_append p [b]) le1 pb
  subst hb0
  refine wpAny_call (make_map (f := G.fA f) I.kIn M'.makes M'.init (beq_iff_eq.mp M'.fn) (codeAny_mono (Fk.run _ X.stack _ _ ⟨Value.ref (s.heap.objs.size + 1) :: us, kw⟩ zs vys (fun v H2 => v = .non ∧ Q (.ref (s.heap.objs.size + 1)) H2) (WE W σ) (hr.make (G.cA c) us kw)
    (I2.env0.make (G.cA c) us kw) hbt rv ⟨_, dys, _, m2, rdd, by rw [rv.length]; exact hl, ?_⟩) fun r s' hq' => ?_))
  · cases e : run G.t n f dys (h ++ [.ins c []]) with
    | ok v h' =>
      rw [e] at k
      intro p' u H' q l m' r'
      cases v with
      | non =>
        cases r'
        exact ⟨rfl, k p' _ H' ((List.prefix_append p _).trans q) (le1.trans l) m' (.ref (pre_get q pb))⟩
      | _ => exact k.elim
    | exc x h' =>
      rw [e] at k
      exact fun p' cls dd' H' q l m' r' => k p' cls dd' H' ((List.prefix_append p _).trans q) (le1.trans l) m' r'
    | stuck => exact absurd e ns
  · cases r with
    | error e => exact passAt tk σ pins _ _ e s' I2 hq'
    | ok fl =>
      cases fl with
      | ret u =>
        obtain ⟨v, H', I3, rv, ev, q3⟩ := I2.after hq'
        subst ev
        exact ⟨rv, ⟨V.ref (s.heap.objs.size + 1), H', I3, rfl, q3⟩⟩
      | next => exact False.elim hq'
      | brk => exact False.elim hq'
      | cont => exact False.elim hq'
/-- how the arguments of a new instance bind -/
def FormM (G : Gx) (F : Fo) (f n : Nat) (ks : List Str) (pk : List Nat) (dd : List D) : Prop :=
  ∃ (its : List Value) (dvs : List V), Vals dvs its ∧ (∀ H p, RelDs G H p dd dvs) ∧ ∀ (s : Shared) (b : Value) (us ws : List Value), G.K.In s.heap → us.length = n → ws.length = ks.length →
    ∃ zs, pickO (b :: (us ++ ws ++ its)) pk = some zs ∧ zs.length = (F.ps f).length ∧ BindsTo s (F.fd f) ⟨b :: us, ks.zip ws⟩ ((F.ps f).zip zs)
theorem s_makeP (xg : XG X G) (C : CallOk G F xn n) (tk : Takes X W) (hr : Room (n + 2) X.A) (hg : Gl X x) (hm : G.mg x = some (.ref (G.cA c))) (M : Mk G.K (G.cA c) (G.fA f)) (hi : G.t.init c = some f) (hb : FormM G F f (a :: es).length ks pk dd)
    (hla : ∀ r h ds h', fa r h = .ok ds h' → ds.length = (a :: es).length) (hlk : ∀ r h ds h', fk r h = .ok ds h' → ds.length = ks.length)
    (ha : PA X (a :: es) (rA G xn W fa)) (hkw : PK X kws (rA G xn W fk)) (hall : (backToKw pos (keywordEach kws X.env)).all (·.1.isSome) = true) (hks : (backToKw pos (keywordEach kws X.env)).filterMap (·.1) = ks)
    (hdb : (x == ("__debug__" : Str)) = false) (he : starEach (a :: es) X.env = (false, eval a X.env) :: starEach es X.env)
    (hpl : ((backTo pos (starEach (a :: es) X.env)).any (·.1) || (backToKw pos (keywordEach kws X.env)).any (·.1.isNone)) = false) :
    PE X (.Call (.Name x q) (a :: es) kws pos) (rE G xn W fun r h => (fa r h).bind fun ds h => (fk r h).bind fun es h => match G.t.init c, pickO (.ref h.length :: (ds ++ es ++ dd)) pk with
    | some f, some zs => (run G.t n f zs (h ++ [.ins c []])).bind fun v h' => match v with
      | .non => .ok (.ref h.length) h'
      | _ => .stuck
    | _, _ => .stuck) := by
  refine ⟨fun pins s σ H Q I ⟨p, r, h, m, sg, k⟩ => ?_⟩
  refine wpAny_Call_Name_kw (ld_glob I hg (by rw [xg.mg]; exact hm) ?_ hdb)
  dsimp only at k
  rw [hi] at k
  have hK := xg.K
  obtain ⟨its, dvs, rdv, rdd, hbind⟩ := hb
  refine PySem.W.callWith_KW (h₀ := X.base) I.ok.mod.kin (by rw [hK]; exact M.kp) hall (thn (ha.run pos pins s σ H (fun vs H' => ∃ p' h' ds, p <+: p' ∧ Le G H H' ∧ RelM G p' h' H' ∧ RelDs G H' p' ds vs ∧ ds.length = (a :: es).length ∧ PostE G xn p' σ H' W Q ((fk r h').bind fun es h => match (some f : Option Nat), pickO (.ref h.length :: (ds ++ es ++ dd)) pk with
    | some f, some zs => (run G.t n f zs (h ++ [.ins c []])).bind fun v h' => match v with
      | .non => .ok (.ref h.length) h'
      | _ => .stuck
    | _, _ => .stuck)) I ⟨p, r, h, m, sg, ?_⟩) fun us s1 hh => ?_) hpl he
  · cases e : fa r h with
    | ok ds h' =>
      rw [e] at k
      exact fun p1 vs H1 q1 l1 m1 r1 => ⟨p1, h', ds, q1, l1, m1, r1, hla r h ds h' e, PostE.mono k q1 l1⟩
    | exc x h' => rw [e] at k; exact k
    | stuck => rw [e] at k; exact k
  · obtain ⟨vs, H1, I1, rv, p1, h1, ds, q1, l1, m1, rd, ld, k1⟩ := hh
    refine thn (hkw.run pos pins s1 σ H1 (fun zs H' => ∃ p' h' es', p1 <+: p' ∧ Le G H1 H' ∧ RelM G p' h' H' ∧ RelDs G H' p' es' zs ∧ es'.length = ks.length ∧ PostE G xn p' σ H' W Q (match (some f : Option Nat), pickO (.ref h'.length :: (ds ++ es' ++ dd)) pk with
      | some f, some zs => (run G.t n f zs (h' ++ [.ins c []])).bind fun v h'' => match v with
        | .non => .ok (.ref h'.length) h''
        | _ => .stuck
      | _, _ => .stuck)) I1 ⟨p1, r, h1, m1, sg.mono l1 q1, ?_⟩) fun ws s2 hh2 => ?_
    · cases e : fk r h1 with
      | ok es' h' =>
        rw [e] at k1
        exact fun p2 vs H2 q2 l2 m2 r2 => ⟨p2, h', es', q2, l2, m2, r2, hlk r h1 es' h' e, PostE.mono k1 q2 l2⟩
      | exc x h' => rw [e] at k1; exact k1
      | stuck => rw [e] at k1; exact k1
    · obtain ⟨zs, H2, I2, rz, p2, h2, es', q2, l2, m2, re, le', k2⟩ := hh2
      refine ⟨I2.kIn, ?_⟩
      rw [hks]
      have l3 : us.length = (a :: es).length := by rw [← rv.length, ← rd.length, ld]
      have l4 : ws.length = ks.length := by rw [← rz.length, ← re.length, le']
      cases e3 : pickO (D.ref h2.length :: (ds ++ es' ++ dd)) pk with
      | none => rw [e3] at k2; exact k2.elim
      | some dys =>
        rw [e3] at k2
        refine makeF xg C tk hr M I2 m2 (dys := dys) (fun b s' KI => ?_) k2
        obtain ⟨ys, e1, e2, hb'⟩ := hbind s' (.ref b) us ws KI l3 l4
        have rva : Vals (V.ref b :: (vs ++ zs ++ dvs)) (Value.ref b :: (us ++ ws ++ its)) := .cons rfl ((rv.append rz).append rdv)
        obtain ⟨vys, g1, g2⟩ := pick_vals rva e1
        refine ⟨ys, vys, hb', e2, g2, fun H' p' q l pb => ?_⟩
        have rda : RelDs G H' p' (D.ref h2.length :: (ds ++ es' ++ dd)) (V.ref b :: (vs ++ zs ++ dvs)) := .cons (.ref pb) ((((rd.mono l2 q2).mono l q).append (re.mono l q)).append (rdd H' p'))
        obtain ⟨dys', g3, g4⟩ := pick_rel rda g1
        rw [e3] at g3; cases g3
        exact g4
end
end RG

end

section
/-! RgAg: a call by a local name that holds a def; o.f += e. -/
namespace RG
open PySem L2 PyProof.Rows
theorem run_len {t : Tab} {f : Nat} {ds : List D} {h : Mem} : ∀ {n : Nat}, run t n f ds h ≠ .stuck → ∃ d, t.defs f = some d ∧ ds.length = d.np
  | 0, ne => absurd rfl ne
  | 1, ne => absurd rfl ne
  | n + 2, ne => by
    unfold run at ne
    split at ne
    · exact absurd rfl ne
    · rename_i d e
      split at ne
      · rename_i c; exact ⟨d, e, c⟩
      · exact absurd rfl ne
section
variable {X : Cx} {G : Gx} {F : Fo} {xn : Nat → Str} {W : WX} {n i : Nat} {a : Expr} {es : List Expr} {x : Str} {q pos : Pos} {fa : Env → Mem → Out (List D)}
/-- f(e, ..), f a local name -/
theorem s_callV (xg : XG X G) (C : CallOk G F xn n) (tk : Takes X W) (hr : Room (n + 1) X.A) (hN : X.N[i]? = some x) (hv : Vis X.env.scope x)
    (vf : ∀ f, G.t.plf f = true → PySem.W.keepIn G.K (.ref (G.fA f)) = true ∧ Binds G.K (F.fd f) (F.ps f) [] ∧ ∀ d, G.t.defs f = some d → (F.ps f).length = d.np)
    (ha : PA X (a :: es) (rA G xn W fa)) (hdb : (x == ("__debug__" : Str)) = false) (hcd : (x == ("__classdict__" : Str)) = false) (he : starEach (a :: es) X.env = (false, eval a X.env) :: starEach es X.env) (hpl : (backTo pos (starEach es X.env)).any (·.1) = false) :
    PE X (.Call (.Name x q) (a :: es) [] pos) (rE G xn W fun r h => match r[i]? with
    | some (some (.fn f)) => if G.t.plf f then (fa r h).bind fun ds h => run G.t n f ds h else .stuck
    | _ => .stuck) := by
  refine ⟨fun pins s σ H Q I ⟨p, r, h, m, sg, k⟩ => ?_⟩
  dsimp only at k
  split at k
  · rename_i f e0
    split at k
    · rename_i cf
      obtain ⟨v, hv1, hr1⟩ := sg.at_ i _ e0
      cases hr1
      obtain ⟨hk, hb, hnp⟩ := vf f cf
      have hK := xg.K
      refine wpAny_Call_Name_kw (thn ((pe_var (pos := q) hN hv hdb hcd).run pins s σ H (fun v H1 => v = .ref (G.fA f) ∧ H1 = H) I ⟨_, hv1, rfl, rfl⟩) fun u s0 ⟨v, H0, I0, r0, q0⟩ => ?_)
      obtain ⟨rfl, rfl⟩ := q0
      cases r0
      refine PySem.W.callWith_K (h₀ := X.base) I.ok.mod.kin (by rw [hK]; exact hk) (thn (ha.run pos pins s0 σ _ (fun vs H' => ∃ p' h' ds, RelM G p' h' H' ∧ RelDs G H' p' ds vs ∧ PostE G xn p' σ H' W Q (run G.t n f ds h')) I0 ⟨p, r, h, m, sg, ?_⟩) fun us s1 hh => ?_) he hpl
      · cases e : fa r h with
        | ok ds h' =>
          rw [e] at k
          exact fun p1 vs H1 q1 l1 m1 r1 => ⟨p1, h', ds, m1, r1, PostE.mono (o := run G.t n f ds h') k q1 l1⟩
        | exc x h' => rw [e] at k; exact k
        | stuck => rw [e] at k; exact k
      · obtain ⟨vs, H1, I1, rv, p1, h1, ds, m1, rd, k1⟩ := hh
        refine ⟨I1.kIn, ?_⟩
        obtain ⟨d, hd, hl0⟩ := run_len (t := G.t) (n := n) (f := f) (ds := ds) (h := h1) (fun z => by rw [z] at k1; exact k1)
        have hl : us.length = (F.ps f).length := by rw [← rv.length, ← rd.length, hl0, hnp d hd]
        have hb' := hb s1 us (hK ▸ I1.kIn) (by rw [List.append_nil]; exact hl)
        rw [List.append_nil] at hb'
        exact callF xg C tk hr I1 hb' rv hl m1 rd k1
    · exact k.elim
  · exact k.elim
end
section
variable {X : Cx} {G : Gx} {xn : Nat → Str} {W : WX} {o e : Expr} {pos tpos : Pos} {fo fe : Env → Mem → Out D}
/-- o.f += e -/
theorem s_augF {op : Operator} {q : P} (hq : augOp op = some q) (hK : X.K = G.K) (g : GOk G) {f : Nat} {x : Str} (hx : G.fN f = x) (ho : PE X o (rE G xn W fo)) (he : PE X e (rE G xn W fe)) :
    PS X (.AugAssign (.Attribute o x tpos) op e pos) (rS G xn W fun r h => (fo r h).bs r fun x h => match x with
    | .ref n => match h[n]? with
      | some (.ins k fs) => if G.t.fld k f then (match fget f fs with
        | some v => (fe r h).bs r fun d h => match aug q v d with
          | some z => match h[n]? with
            | some (.ins k2 fs2) => if k2 = k ∧ fs2.length < 1000 then .ok (.nx r) (h.set n (.ins k (fput f z fs2))) else .stuck
            | _ => .stuck
          | none => .stuck
        | none => .stuck) else .stuck
      | _ => .stuck
    | _ => .stuck) := by
  have key : ∀ (fn : Int → Int → Int) (ip : InOp X op (fun x y H Q => ∃ i j, x = .int i ∧ y = .int j ∧ Q (.int (fn i j)) H)) (hz : ∀ a b z, aug q (.int a) (.int b) = some z → z = .int (fn a b)), PS X (.AugAssign (.Attribute o x tpos) op e pos) (rS G xn W fun r h => (fo r h).bs r fun x h => match x with
    | .ref n => match h[n]? with
      | some (.ins k fs) => if G.t.fld k f then (match fget f fs with
        | some v => (fe r h).bs r fun d h => match aug q v d with
          | some z => match h[n]? with
            | some (.ins k2 fs2) => if k2 = k ∧ fs2.length < 1000 then .ok (.nx r) (h.set n (.ins k (fput f z fs2))) else .stuck
            | _ => .stuck
          | none => .stuck
        | none => .stuck) else .stuck
      | _ => .stuck
    | _ => .stuck) := fun fn ip hz => PS.imp (ps_fldaug ho he ip) fun En σ H ⟨p, r, h, m, s, k⟩ => by
    subst hx
    refine ⟨p, r, h, m, s, PostE.bindS (o := fo r h) s k fun d h1 p1 v H1 q1 l1 m1 r1 k1 => ?_⟩
    cases r1 with
    | @ref n a e1 =>
      dsimp only at k1
      split at k1
      · rename_i kk fs c
        split at k1
        · rename_i cf
          obtain ⟨dx, vs, h2, rf⟩ := m1.ins e1 c
          obtain ⟨c1, c2⟩ := g.fld _ _ cf
          split at k1
          · rename_i z0 hz0
            obtain ⟨u, l2, r2⟩ := fget_rel g rf hz0
            refine ⟨a, _, dx, vs, u, rfl, h2, hK ▸ c1, hK ▸ c2, l2, p1, r, h1, m1, s.mono l1 q1, PostE.bindS (o := fe r h1) (s.mono l1 q1) k1 fun d2 h3 p2 v2 H2 q2 l3 m2 r3 k2 => ?_⟩
            split at k2
            · rename_i z1 hz1
              obtain ⟨i, j, rfl, rfl, _⟩ := aug_some hz1
              have e3 := hz i j z1 hz1
              subst e3
              cases r2
              cases r3
              refine ⟨i, j, rfl, rfl, ?_⟩
              split at k2
              · rename_i k2' fs2 c3
                split at k2
                · rename_i cc
                  obtain ⟨rfl, cl⟩ := cc
                  have e2 : p2[n]? = some a := pre_get q2 e1
                  obtain ⟨dx', vs', h5, rf'⟩ := m2.ins e2 c3
                  refine ⟨dx', vs', h5, by rw [← rf'.length]; exact cl, ?_⟩
                  have le : Le G H2 (upd H2 a (.ins (G.cA k2') dx' (putF (G.fN f) (.int (fn i j)) vs'))) := Le.mut h5 (fun _ z => by cases z) (fun _ _ z => by cases z)
                  exact k2 p2 σ _ (List.prefix_refl _) le (m2.set e2 h5 (fun _ z => by cases z) (fun _ _ z => by cases z) ⟨dx', _, upd_same, (fput_rel g (.int _) rf').mono le (List.prefix_refl _)⟩) (((s.mono l1 q1).mono l3 q2).mono le (List.prefix_refl _))
                · exact k2.elim
              · exact k2.elim
            · exact k2.elim
          · exact k1.elim
        · exact k1.elim
      · exact k1.elim
    | _ => exact k1.elim
  cases op <;> first | (cases hq; done) | skip
  · cases hq
    exact key (· + ·) in_add fun a b z e => by cases e; rfl
  · cases hq
    exact key (· - ·) in_sub fun a b z e => by cases e; rfl
end
end RG

end

section
/-! RgSnd9: what is walked; for, while, comprehensions. -/
namespace RG
open PySem L2 PyProof.Rows

/-- the walk J gives out the items of src, while what src guards stays -/
def ItOk (G : Gx) (J : It) (src : Src) (p0 : List Addr) (H0 : Hp) : Prop := ∀ (i : Nat) p h H, RelM G p h H → p0 <+: p → Le G H0 H → src.ok h →
  (∀ d, src.items[i]? = some d → J.go i H ∧ ∀ x H', J.yld i H x H' → RelM G p h H' ∧ Le G H H' ∧ RelD G H' p d x) ∧ (src.items.length = i → J.stop i H)
def PostI (G : Gx) (xn : Nat → Str) (p : List Addr) (σ : L2.St) (H : Hp) (W : WX) (R : It → Hp → Prop) : Out Src → Prop
  | .ok s h' => ∀ p' J H', p <+: p' → Le G H H' → RelM G p' h' H' → ItOk G J s p' H' → R J H'
  | .exc x h' => ∀ p' cls dd H', p <+: p' → Le G H H' → RelM G p' h' H' → RelX G xn H' p' x cls dd → W cls dd σ H'
  | .stuck => False
def rI (G : Gx) (xn : Nat → Str) (W : WX) (f : Env → Mem → Out Src) : TI := fun σ H R => ∃ p r h, RelM G p h H ∧ RelS G p r σ H ∧ PostI G xn p σ H W R (f r h)
theorem PI.imp {X : Cx} {tg e : Expr} {t t' : TI} (x : PI X tg e t) (k : ∀ σ H R, t' σ H R → t σ H R) : PI X tg e t' := ⟨fun pins s σ H R I w => x.run pins s σ H R I (k σ H R w)⟩

section
variable {G : Gx} {xn : Nat → Str} {p p' : List Addr} {σ : L2.St} {H H' : Hp} {W : WX} {h : Mem}
theorem PostI.mono {R : It → Hp → Prop} {o : Out Src} (k : PostI G xn p σ H W R o) (q : p <+: p') (l : Le G H H') : PostI G xn p' σ H' W R o := by
  cases o with
  | ok d h' => exact fun p2 J H2 q2 l2 m r => k p2 J H2 (q.trans q2) (l.trans l2) m r
  | exc x h' => exact fun p2 c d H2 q2 l2 m r => k p2 c d H2 (q.trans q2) (l.trans l2) m r
  | stuck => exact k
theorem PostE.bindI {R : It → Hp → Prop} {Q' : VK} {o : Out D} {g : D → Mem → Out Src} (k : PostI G xn p σ H W R (o.bind g))
    (n : ∀ d h' p' v H', p <+: p' → Le G H H' → RelM G p' h' H' → RelD G H' p' d v → PostI G xn p' σ H' W R (g d h') → Q' v H') : PostE G xn p σ H W Q' o := by
  cases o with
  | ok d h' => exact fun p2 v H2 q2 l2 m r => n d h' p2 v H2 q2 l2 m r (PostI.mono k q2 l2)
  | exc x h' => exact k
  | stuck => exact k
theorem PostI.bind {R' : It → Hp → Prop} {Q : VK} {o : Out Src} {g : Src → Mem → Out D} (k : PostE G xn p σ H W Q (o.bind g))
    (n : ∀ s h' p' J H', p <+: p' → Le G H H' → RelM G p' h' H' → ItOk G J s p' H' → PostE G xn p' σ H' W Q (g s h') → R' J H') : PostI G xn p σ H W R' o := by
  cases o with
  | ok d h' => exact fun p2 J H2 q2 l2 m r => n d h' p2 J H2 q2 l2 m r (PostE.mono k q2 l2)
  | exc x h' => exact k
  | stuck => exact k
theorem PostI.bindS {R' : It → Hp → Prop} {En : Ends} {o : Out Src} {r : Env} {g : Src → Mem → Out Fl} (s : RelS G p r σ H) (k : PostS G xn p H W En (o.bs r g))
    (n : ∀ s h' p' J H', p <+: p' → Le G H H' → RelM G p' h' H' → ItOk G J s p' H' → PostS G xn p' H' W En (g s h') → R' J H') : PostI G xn p σ H W R' o := by
  cases o with
  | ok d h' => exact fun p2 J H2 q2 l2 m r => n d h' p2 J H2 q2 l2 m r (PostS.mono k q2 l2)
  | exc x h' => exact fun p2 c d H2 q2 l2 m z => k p2 c d σ H2 q2 l2 m (s.mono l2 q2) z
  | stuck => exact k
/-! ### the sources -/
theorem it_list {n : Nat} {a : Addr} {l : List D} (p0 : List Addr) (H0 : Hp) (e : p0[n]? = some a) : ItOk G (Itl G.K a) ⟨l, [(n, l)]⟩ p0 H0 := by
  intro i p h H m q le ok
  have c : rd h n = some l := ok (n, l) (List.mem_singleton.mpr rfl)
  obtain ⟨vs, s1, l1⟩ := m.rd (pre_get q e) c
  refine ⟨fun d hd => ?_, fun hi => ⟨vs, s1, by rw [← l1.length]; exact Nat.le_of_eq hi⟩⟩
  obtain ⟨v, g1, g2⟩ := l1.get hd
  refine ⟨⟨vs, v, s1, g1⟩, fun x H' y => ?_⟩
  obtain ⟨rfl, y⟩ := y
  have := y vs s1
  rw [g1] at this; cases this
  exact ⟨m, Le.refl _, g2⟩
theorem it_tup {a : Addr} {l : List D} {vs : List V} (p0 : List Addr) (H0 : Hp) (s1 : SqT G.K H0 a vs) (l1 : RelDs G H0 p0 l vs) : ItOk G (Itt G.K a) ⟨l, []⟩ p0 H0 := by
  intro i p h H m q le ok
  have s2 := le.t _ _ s1
  have l2 := l1.mono le q
  refine ⟨fun d hd => ?_, fun hi => ⟨vs, s2, by rw [← l1.length]; exact Nat.le_of_eq hi⟩⟩
  obtain ⟨v, g1, g2⟩ := l2.get hd
  refine ⟨⟨vs, v, s2, g1⟩, fun x H' y => ?_⟩
  obtain ⟨rfl, y⟩ := y
  have := y vs s2
  rw [g1] at this; cases this
  exact ⟨m, Le.refl _, g2⟩
theorem it_scr {a : Addr} {l : List Int} (p0 : List Addr) (H0 : Hp) (s1 : Frl G.K H0 a (l.map V.int)) : ItOk G (Itl G.K a) ⟨l.map .int, []⟩ p0 H0 := by
  intro i p h H m q le ok
  have s2 := (le.l _ _ s1).sq
  have l2 : RelDs G H p (l.map D.int) (l.map V.int) := RelDs.ofInts l
  refine ⟨fun d hd => ?_, fun hi => ⟨_, s2, by rw [← l2.length]; exact Nat.le_of_eq hi⟩⟩
  obtain ⟨v, g1, g2⟩ := l2.get hd
  refine ⟨⟨_, v, s2, g1⟩, fun x H' y => ?_⟩
  obtain ⟨rfl, y⟩ := y
  have := y _ s2
  rw [g1] at this; cases this
  exact ⟨m, Le.refl _, g2⟩
theorem it_str {s : List Nat} (p0 : List Addr) (H0 : Hp) : ItOk G (Its ⟨s.toArray⟩) ⟨chars s, []⟩ p0 H0 := by
  intro i p h H m q le ok
  refine ⟨fun d hd => ?_, fun hi => by show s.toArray.size ≤ i; simpa [chars] using Nat.le_of_eq hi⟩
  have hi : i < s.length := by
    have := (List.getElem?_eq_some_iff.mp hd).1
    simpa [chars] using this
  have e : d = .str [s[i]] := by
    have h2 : (chars s)[i]? = some (.str [s[i]]) := by simp [chars, hi]
    rw [h2] at hd; cases hd; rfl
  subst e
  refine ⟨by show i < s.toArray.size; simpa using hi, fun x H' y => ?_⟩
  obtain ⟨rfl, c, hc, rfl⟩ := y
  have : c = s[i] := by
    have h3 : s.toArray[i]? = some s[i] := by simp [hi]
    rw [h3] at hc; cases hc; rfl
  subst this
  exact ⟨m, Le.refl _, .str [s[i]]⟩
theorem it_rng {lo : Int} {n : Nat} (p0 : List Addr) (H0 : Hp) : ItOk G (Itr lo n) ⟨rngD lo n, []⟩ p0 H0 := by
  intro i p h H m q le ok
  refine ⟨fun d hd => ?_, fun hi => by show n ≤ i; simpa [rngD] using Nat.le_of_eq hi⟩
  have hi : i < n := by
    have := (List.getElem?_eq_some_iff.mp hd).1
    simpa [rngD] using this
  have e : d = .int (lo + i) := by
    have h2 : (rngD lo n)[i]? = some (.int (lo + i)) := by simp [rngD, hi]
    rw [h2] at hd; cases hd; rfl
  subst e
  refine ⟨hi, fun x H' y => ?_⟩
  obtain ⟨rfl, rfl⟩ := y
  exact ⟨m, Le.refl _, .int _⟩
theorem it_enum {n : Nat} {a : Addr} {l : List D} (p0 : List Addr) (H0 : Hp) (e : p0[n]? = some a) : ItOk G (Ite G.K a) ⟨enumD l, [(n, l)]⟩ p0 H0 := by
  intro i p h H m q le ok
  have c : rd h n = some l := ok (n, l) (List.mem_singleton.mpr rfl)
  obtain ⟨vs, s1, l1⟩ := m.rd (pre_get q e) c
  have len : (enumD l).length = l.length := by simp [enumD]
  refine ⟨fun d hd => ?_, fun hi => ⟨vs, s1, by rw [← l1.length, ← len]; exact Nat.le_of_eq hi⟩⟩
  have hi : i < l.length := by rw [← len]; exact (List.getElem?_eq_some_iff.mp hd).1
  have e2 : d = .tup [.int (i : Nat), l[i]] := by
    have h2 : (enumD l)[i]? = some (.tup [.int (i : Nat), l[i]]) := by simp [enumD, hi]
    rw [h2] at hd; cases hd; rfl
  subst e2
  obtain ⟨v, g1, g2⟩ := l1.get (show l[i]? = some l[i] by simp [hi])
  refine ⟨⟨vs, v, s1, g1⟩, fun x H' y => ?_⟩
  obtain ⟨T, x', rfl, hT, rfl, y⟩ := y
  have := y vs s1
  rw [g1] at this; cases this
  exact ⟨m.ext fun b o z => by rw [upd_ne (ne_of_none z hT)]; exact z, Le.new hT, .tup (SqT.of upd_same) (.cons (.int _) (.cons (g2.mono (Le.new hT) (List.prefix_refl _)) .nil))⟩
end

section
variable {X : Cx} {G : Gx} {xn : Nat → Str} {W : WX} {a b tg : Expr} {pos q : Pos} {fa fb : Env → Mem → Out D}
/-- a list, a tuple, a text, the script -/
theorem i_of (hK : X.K = G.K) (ha : PE X a (rE G xn W fa)) : PI X tg a (rI G xn W fun r h => (fa r h).bind fun d h => match srcS d h with | some s => .ok s h | none => .stuck) := by
  refine ⟨fun pins s σ H R I ⟨p, r, h, m, sg, k⟩ => ?_⟩
  dsimp only at k
  have l1 : PI X tg a (iList X.K (rE G xn W fa)) := pi_list ha
  have l2 : PI X tg a (iTup X.K (rE G xn W fa)) := pi_tup ha
  have l3 : PI X tg a (iStr (rE G xn W fa)) := pi_str ha
  cases e : fa r h with
  | exc x h' => rw [e] at k; exact l1.run pins s σ H R I ⟨p, r, h, m, sg, by rw [e]; exact k⟩
  | stuck => rw [e] at k; exact k.elim
  | ok d h' =>
    rw [e] at k
    have k : PostI G xn p σ H W R (match srcS d h' with | some s => .ok s h' | none => .stuck) := k
    cases d with
    | str s =>
      have k : PostI G xn p σ H W R (.ok ⟨chars s, []⟩ h') := k
      refine l3.run pins _ σ H R I ⟨p, r, h, m, sg, ?_⟩
      rw [e]
      intro p1 v H1 q1 l1' m1 r1
      cases r1
      exact ⟨_, rfl, k p1 _ H1 q1 l1' m1 (it_str p1 H1)⟩
    | tup l =>
      have k : PostI G xn p σ H W R (.ok ⟨l, []⟩ h') := k
      refine l2.run pins _ σ H R I ⟨p, r, h, m, sg, ?_⟩
      rw [e]
      intro p1 v H1 q1 l1' m1 r1
      cases r1 with
      | tup s1 r1 => exact ⟨_, rfl, ⟨_, hK ▸ s1⟩, hK ▸ k p1 _ H1 q1 l1' m1 (it_tup p1 H1 s1 r1)⟩
    | scr l =>
      have k : PostI G xn p σ H W R (.ok ⟨l.map .int, []⟩ h') := k
      refine l1.run pins _ σ H R I ⟨p, r, h, m, sg, ?_⟩
      rw [e]
      intro p1 v H1 q1 l1' m1 r1
      cases r1 with
      | scr s1 => exact ⟨_, rfl, ⟨_, hK ▸ s1.sq⟩, hK ▸ k p1 _ H1 q1 l1' m1 (it_scr p1 H1 s1)⟩
    | ref n =>
      cases c : rd h' n with
      | none =>
        have : srcS (.ref n) h' = none := by simp [srcS, srcOf, c]
        rw [this] at k
        exact k.elim
      | some l =>
        have : srcS (.ref n) h' = some ⟨l, [(n, l)]⟩ := by simp [srcS, srcOf, c]
        rw [this] at k
        refine l1.run pins _ σ H R I ⟨p, r, h, m, sg, ?_⟩
        rw [e]
        intro p1 v H1 q1 l1' m1 r1
        cases r1 with
        | ref e1 =>
          obtain ⟨vs, s1, _⟩ := m1.rd e1 c
          exact ⟨_, rfl, ⟨vs, hK ▸ s1⟩, hK ▸ k p1 _ H1 q1 l1' m1 (it_list p1 H1 e1)⟩
    | _ => exact k.elim
theorem i_rng1 (hg : Gl X "range") (hm : X.mg "range" = none) (ha : PE X a (rE G xn W fa)) (hs : starEach [a] X.env = [(false, eval a X.env)]) :
    PI X tg (.Call (.Name "range" q) [a] [] pos) (rI G xn W fun r h => (fa r h).bind fun d h => match d with
    | .int j => if -(2 ^ 62) ≤ j ∧ j < 2 ^ 62 then .ok ⟨rngD 0 j.toNat, []⟩ h else .stuck
    | _ => .stuck) :=
  PI.imp (pi_range1 hg hm (pa_cons ha pa_nil (by rw [hs]; rfl)) hs) fun σ H R ⟨p, r, h, m, s, k⟩ => ⟨p, r, h, m, s, PostE.bindI (o := fa r h) k fun d h1 p1 v H1 q1 l1 m1 r1 k1 => by
    cases r1 with
    | int j =>
      dsimp only at k1
      split at k1
      · rename_i c
        exact ⟨j, rfl, c.1, c.2, k1 p1 _ H1 (List.prefix_refl _) (Le.refl _) m1 (it_rng p1 H1)⟩
      · exact k1.elim
    | _ => exact k1.elim⟩
theorem i_rng2 (hg : Gl X "range") (hm : X.mg "range" = none) (ha : PE X a (rE G xn W fa)) (hb : PE X b (rE G xn W fb)) (hs : starEach [a, b] X.env = [(false, eval a X.env), (false, eval b X.env)]) (hs2 : starEach [b] X.env = [(false, eval b X.env)]) :
    PI X tg (.Call (.Name "range" q) [a, b] [] pos) (rI G xn W fun r h => (fa r h).bind fun d h => (fb r h).bind fun e h => match d, e with
    | .int i, .int j => if -(2 ^ 62) ≤ i ∧ i < 2 ^ 62 ∧ -(2 ^ 62) ≤ j ∧ j < 2 ^ 62 then .ok ⟨rngD i (j - i).toNat, []⟩ h else .stuck
    | _, _ => .stuck) :=
  PI.imp (pi_range2 hg hm (pa_cons ha (pa_cons hb pa_nil (by rw [hs2]; rfl)) (by rw [hs, hs2])) hs hs2) fun σ H R ⟨p, r, h, m, s, k⟩ => ⟨p, r, h, m, s, PostE.bindI (o := fa r h) k fun d h1 p1 v H1 q1 l1 m1 r1 k1 =>
    ⟨p1, r, h1, m1, s.mono l1 q1, PostE.bindI (o := fb r h1) k1 fun e h2 p2 u H2 q2 l2 m2 r2 k2 => by
      cases r1 with
      | int i => cases r2 with
        | int j =>
          dsimp only at k2
          split at k2
          · rename_i c
            exact ⟨i, j, rfl, c, k2 p2 _ H2 (List.prefix_refl _) (Le.refl _) m2 (it_rng p2 H2)⟩
          · exact k2.elim
        | _ => exact k2.elim
      | _ => exact k2.elim⟩⟩
theorem i_enum {elts : List Expr} {kk : Nat} {tpos : Pos} (hK : X.K = G.K) (hg : Gl X "enumerate") (hm : X.mg "enumerate" = none) (ha : PE X a (rE G xn W fa)) (hs : starEach [a] X.env = [(false, eval a X.env)]) :
    PI X (.Tuple elts kk tpos) (.Call (.Name "enumerate" q) [a] [] pos) (rI G xn W fun r h => (fa r h).bind fun d h => match d with
    | .ref n => match rd h n with
      | some l => .ok ⟨enumD l, [(n, l)]⟩ h
      | none => .stuck
    | _ => .stuck) :=
  PI.imp (pi_enum hg hm (pa_cons ha pa_nil (by rw [hs]; rfl)) hs) fun σ H R ⟨p, r, h, m, s, k⟩ => ⟨p, r, h, m, s, PostE.bindI (o := fa r h) k fun d h1 p1 v H1 q1 l1 m1 r1 k1 => by
    cases r1 with
    | @ref n a' e1 =>
      dsimp only at k1
      split at k1
      · rename_i l c
        obtain ⟨vs, s1, _⟩ := m1.rd e1 c
        exact ⟨a', vs, rfl, hK ▸ s1, hK ▸ k1 p1 _ H1 (List.prefix_refl _) (Le.refl _) m1 (it_enum p1 H1 e1)⟩
      · exact k1.elim
    | _ => exact k1.elim⟩

/-! ### for -/
theorem s_for {iter : Expr} {body : List Stmt} {fi : Env → Mem → Out Src} {fg : D → Env → Mem → Out Env} {fs : Env → Mem → Out Fl} (hp : PassesOwn (model X.prog X.w) X.A X.env X.xe) (hc : X.calm = true) (hi : PI X tg iter (rI G xn W fi)) (hg : PG X tg (rG G fg)) (hb : PSs X body (rS G xn W fs))
    (hs : ∀ x, foldedSetIterable iter X.env x = pure x) : PS X (.For tg iter body [] pos) (rS G xn W fun r h => (fi r h).bs r fun s h => forL fg fs s s.items r h) :=
  PS.imp (ps_for hp hc hi hg hb hs) fun En σ H ⟨p, r, h, m, s, k⟩ => ⟨p, r, h, m, s, PostI.bindS (o := fi r h) s k fun src h1 p1 J H1 q1 l1 m1 it k1 => by
    refine ⟨fun i m σ' H' => m = src.items.length - i ∧ i ≤ src.items.length ∧ ∃ p' r' h', p1 <+: p' ∧ Le G H1 H' ∧ RelM G p' h' H' ∧ RelS G p' r' σ' H' ∧ PostS G xn p' H' W En (forL fg fs src (src.items.drop i) r' h'), ⟨src.items.length, by simp, Nat.zero_le _, p1, r, h1, List.prefix_refl _, Le.refl _, m1, s.mono l1 q1, k1⟩, ?_⟩
    rintro i n σ' H' ⟨rfl, hi, p', r', h', q', l', m', s', k'⟩
    by_cases hlt : i < src.items.length
    · rw [List.drop_eq_getElem_cons hlt] at k'
      unfold forL at k'
      split at k'
      · rename_i ok
        obtain ⟨g1, _⟩ := it i p' h' H' m' q' l' ok
        obtain ⟨g2, g3⟩ := g1 src.items[i] (by simp [hlt])
        refine .inr ⟨g2, fun σ'' H'' => ∃ p' r' h', p1 <+: p' ∧ Le G H1 H'' ∧ RelM G p' h' H'' ∧ RelS G p' r' σ'' H'' ∧ PostS G xn p' H'' W En (forL fg fs src (src.items.drop (i + 1)) r' h'), fun σ'' H'' z => ⟨src.items.length - (i + 1), by omega, rfl, hlt, z⟩, fun x H'' y => ?_⟩
        obtain ⟨m2, l2, r2⟩ := g3 x H'' y
        refine ⟨p', r', h', _, m2, s'.mono l2 (List.prefix_refl _), r2, ?_⟩
        cases eg : fg src.items[i] r' h' with
        | ok r3 h3 =>
          rw [eg] at k'
          intro p3 σ3 H3 q3 l3 m3 s3
          have k3 : PostS G xn p3 H3 W En ((fs r3 h3).seq fun r h => forL fg fs src (src.items.drop (i + 1)) r h) := PostS.mono k' q3 (l2.trans l3)
          refine ⟨p3, r3, h3, m3, s3, ?_⟩
          cases ef : fs r3 h3 with
          | ok fl h4 =>
            rw [ef] at k3
            cases fl with
            | nx r4 => exact fun p4 σ4 H4 q4 l4 m4 s4 => ⟨p4, r4, h4, (q'.trans q3).trans q4, (l'.trans (l2.trans l3)).trans l4, m4, s4, PostS.mono (o := forL fg fs src (src.items.drop (i + 1)) r4 h4) k3 q4 l4⟩
            | rt d => exact k3
            | xc x r4 => exact k3
          | exc x h4 => rw [ef] at k3; exact k3
          | stuck => rw [ef] at k3; exact k3
        | exc x h3 => rw [eg] at k'; exact k'.elim
        | stuck => rw [eg] at k'; exact k'.elim
      · exact k'.elim
    · have e : i = src.items.length := by omega
      subst e
      rw [List.drop_length] at k'
      unfold forL at k'
      split at k'
      · rename_i ok
        obtain ⟨_, g2⟩ := it src.items.length p' h' H' m' q' l' ok
        exact .inl ⟨g2 rfl, k' p' σ' H' (List.prefix_refl _) (Le.refl _) m' s'⟩
      · exact k'.elim⟩

/-! ### while -/
theorem whlN_mono (c : Env → Mem → Out Bool) (b : Env → Mem → Out Fl) : ∀ {n k : Nat} {r : Env} {h : Mem} {o : Out Fl}, whlN c b n r h = some o → n ≤ k → whlN c b k r h = some o
  | 0, _, _, _, _, e, _ => by simp [whlN] at e
  | n + 1, 0, _, _, _, _, l => absurd l (by omega)
  | n + 1, k + 1, r, h, o, e, l => by
    unfold whlN at e ⊢
    split at e
    · rename_i h' ec
      split at e
      · rename_i r' h'' eb
        exact whlN_mono c b e (by omega)
      · exact e
      · exact e
      · exact e
      · exact e
    · exact e
    · exact e
    · exact e
theorem whl_some {c : Env → Mem → Out Bool} {b : Env → Mem → Out Fl} {n : Nat} {r : Env} {h : Mem} {o : Out Fl} (e : whlN c b n r h = some o) : whl c b r h = o := by
  have x : ∃ n o, whlN c b n r h = some o := ⟨n, o, e⟩
  unfold whl
  rw [dif_pos x]
  have e2 := x.choose_spec.choose_spec
  have e3 := whlN_mono c b e (Nat.le_max_left n x.choose)
  have e4 := whlN_mono c b e2 (Nat.le_max_right n x.choose)
  rw [e3] at e4
  exact (Option.some.inj e4).symm
theorem whl_ns {c : Env → Mem → Out Bool} {b : Env → Mem → Out Fl} {r : Env} {h : Mem} (e : whl c b r h ≠ .stuck) : ∃ n o, whlN c b n r h = some o := by
  unfold whl at e
  split at e
  · assumption
  · exact absurd rfl e
/-- one turn -/
theorem whl_eq (c : Env → Mem → Out Bool) (b : Env → Mem → Out Fl) (r : Env) (h : Mem) : whl c b r h = (c r h).bs r fun k h => if k then (b r h).seq fun r h => whl c b r h else .ok (.nx r) h := by
  cases ec : c r h with
  | ok k h' => cases k with
    | true =>
      show whl c b r h = (b r h').seq fun r h => whl c b r h
      cases eb : b r h' with
      | ok f h'' => cases f with
        | nx r' =>
          show whl c b r h = whl c b r' h''
          by_cases z : ∃ n o, whlN c b n r' h'' = some o
          · obtain ⟨n, o, z⟩ := z
            rw [whl_some z]
            exact whl_some (n := n + 1) (by unfold whlN; rw [ec]; dsimp only; rw [eb]; exact z)
          · have z2 : ¬ ∃ n o, whlN c b n r h = some o := fun ⟨n, o, e⟩ => by
              cases n with
              | zero => simp [whlN] at e
              | succ n =>
                unfold whlN at e
                rw [ec] at e
                dsimp only at e
                rw [eb] at e
                exact z ⟨n, o, e⟩
            unfold whl
            rw [dif_neg z, dif_neg z2]
        | rt d => exact whl_some (n := 1) (by simp [whlN, ec, eb])
        | xc x r' => exact whl_some (n := 1) (by simp [whlN, ec, eb])
      | exc x h'' => exact whl_some (n := 1) (by simp [whlN, ec, eb])
      | stuck => exact whl_some (n := 1) (by simp [whlN, ec, eb])
    | false => exact whl_some (n := 1) (by simp [whlN, ec])
  | exc x h' => exact whl_some (n := 1) (by simp [whlN, ec])
  | stuck => exact whl_some (n := 1) (by simp [whlN, ec])
theorem s_while {t : Expr} {body : List Stmt} {fe : Env → Mem → Out D} {fs : Env → Mem → Out Fl} (hp : PassesOwn (model X.prog X.w) X.A X.env X.xe) (ht : PT X t (rTr G xn W fe)) (hb : PSs X body (rS G xn W fs)) :
    PS X (.While t body [] pos) (rS G xn W fun r h => whl (fun r h => (fe r h).bind fun d h => tru d h) fs r h) :=
  PS.imp (ps_while hp ht hb) fun En σ H ⟨p, r, h, m, s, k⟩ => by
    dsimp only at k
    generalize hc : (fun r h => (fe r h).bind fun d h => tru d h : Env → Mem → Out Bool) = c at k
    have ns : whl c fs r h ≠ .stuck := fun e => by rw [e] at k; exact k
    obtain ⟨n, o, e⟩ := whl_ns ns
    refine ⟨fun n σ' H' => ∃ p' r' h' o, RelM G p' h' H' ∧ RelS G p' r' σ' H' ∧ whlN c fs n r' h' = some o ∧ PostS G xn p' H' W En o, ⟨n, p, r, h, o, m, s, e, by rw [whl_some e] at k; exact k⟩, ?_⟩
    rintro n σ' H' ⟨p', r', h', o, m', s', e', k'⟩
    cases n with
    | zero => simp [whlN] at e'
    | succ n =>
      unfold whlN at e'
      refine ⟨p', r', h', m', s', ?_⟩
      show PostT G xn p' σ' H' W _ ((fun r h => (fe r h).bind fun d h => tru d h : Env → Mem → Out Bool) r' h')
      rw [hc]
      cases ec : c r' h' with
      | ok kk h2 =>
        rw [ec] at e'
        intro p2 H2 q2 l2 m2
        cases kk with
        | true =>
          dsimp only at e'
          refine ⟨fun σ'' H'' => ∃ p' r' h' o, RelM G p' h' H'' ∧ RelS G p' r' σ'' H'' ∧ whlN c fs n r' h' = some o ∧ PostS G xn p' H'' W En o, fun σ'' H'' z => ⟨n, Nat.lt_succ_self _, z⟩, p2, r', h2, m2, s'.mono l2 q2, ?_⟩
          cases eb : fs r' h2 with
          | ok fl h3 =>
            rw [eb] at e'
            cases fl with
            | nx r3 => exact fun p3 σ3 H3 q3 l3 m3 s3 => ⟨p3, r3, h3, o, m3, s3, e', PostS.mono k' (q2.trans q3) (l2.trans l3)⟩
            | rt d => cases e'; exact PostS.mono k' q2 l2
            | xc x r3 => cases e'; exact PostS.mono k' q2 l2
          | exc x h3 => rw [eb] at e'; cases e'; exact k'.elim
          | stuck => rw [eb] at e'; cases e'; exact k'.elim
        | false =>
          cases e'
          exact k' p2 σ' H2 q2 l2 m2 (s'.mono l2 q2)
      | exc x h2 =>
        rw [ec] at e'
        cases e'
        exact fun p2 cls dd H2 q2 l2 m2 rx => k' p2 cls dd σ' H2 q2 l2 m2 (s'.mono l2 q2) rx
      | stuck =>
        rw [ec] at e'
        cases e'
        exact k'.elim
end
end RG

end

section
/-! RgSnd10: list comprehensions. -/
namespace RG
open PySem L2 PyProof.Rows

abbrev W0 : WX := fun _ _ _ _ => False
def gTs : List Nat → TGs
  | [] => gNil
  | i :: is => gCons (gName i) (gTs is)
def gOf (K : PySem.W.Frag) : List Nat → Bool → TG
  | [i], true => gName i
  | ts, _ => gTup K ts.length (gTs ts)

section
variable {G : Gx} {H : Hp} {p : List Addr}
theorem wipe_get (σ : L2.St) : ∀ (vs : List Nat) (j : Nat), j < σ.length → (wipe σ vs)[j]? = if j ∈ vs then some none else σ[j]?
  | [], j, hj => by simp [wipe]
  | v :: vs, j, hj => by
    unfold wipe
    have ih := wipe_get σ vs j hj
    by_cases e : v = j
    · subst e
      rw [List.getElem?_set_self (by rw [wipe_length]; exact hj), if_pos (List.mem_cons_self ..)]
    · rw [List.getElem?_set_ne e, ih]
      have : (j ∈ v :: vs) ↔ j ∈ vs := by simp [Ne.symm e]
      simp only [this]
theorem wipe_set {σ : L2.St} {vs : List Nat} {i : Nat} {x : Option V} (hi : i ∈ vs) : wipe ((wipe σ vs).set i x) vs = wipe σ vs := by
  apply List.ext_getElem?
  intro j
  by_cases hj : j < σ.length
  · have hl : j < ((wipe σ vs).set i x).length := by rw [List.length_set, wipe_length]; exact hj
    rw [wipe_get _ vs j hl, wipe_get σ vs j hj]
    by_cases c : j ∈ vs
    · rw [if_pos c, if_pos c]
    · rw [if_neg c, if_neg c, List.getElem?_set_ne (fun (z : i = j) => c (by rw [← z]; exact hi)), wipe_get σ vs j hj, if_neg c]
  · rw [List.getElem?_eq_none (by rw [wipe_length, List.length_set, wipe_length]; omega), List.getElem?_eq_none (by rw [wipe_length]; omega)]
theorem wipe_wipe {σ τ : L2.St} {vs : List Nat} {i : Nat} {x : Option V} (hi : i ∈ vs) (e : wipe τ vs = wipe σ vs) : wipe (τ.set i x) vs = wipe σ vs := by
  rw [← e]
  apply List.ext_getElem?
  intro j
  by_cases hj : j < τ.length
  · rw [wipe_get _ vs j (by rw [List.length_set]; exact hj), wipe_get τ vs j hj]
    by_cases c : j ∈ vs
    · rw [if_pos c, if_pos c]
    · rw [if_neg c, if_neg c, List.getElem?_set_ne (fun (z : i = j) => c (by rw [← z]; exact hi))]
  · rw [List.getElem?_eq_none (by rw [wipe_length, List.length_set]; omega), List.getElem?_eq_none (by rw [wipe_length]; omega)]
theorem wipe_set' (vs : List Nat) (σ : L2.St) : wipe (wipe σ vs) vs = wipe σ vs := by
  apply List.ext_getElem?
  intro j
  by_cases hj : j < σ.length
  · rw [wipe_get _ vs j (by rw [wipe_length]; exact hj), wipe_get σ vs j hj]
    by_cases c : j ∈ vs
    · rw [if_pos c, if_pos c]
    · rw [if_neg c]
  · rw [List.getElem?_eq_none (by rw [wipe_length, wipe_length]; omega), List.getElem?_eq_none (by rw [wipe_length]; omega)]
theorem wipeE_some {r : Env} {i : Nat} {x : D} : ∀ {vs : List Nat}, (wipeE r vs)[i]? = some (some x) → r[i]? = some (some x) ∧ i ∉ vs
  | [], h => ⟨h, by simp⟩
  | v :: vs, h => by
    unfold wipeE at h
    by_cases hi : v = i
    · subst hi
      by_cases hv : v < (wipeE r vs).length
      · rw [List.getElem?_set_self hv] at h; cases h
      · rw [List.getElem?_eq_none (by simpa using hv)] at h; cases h
    · rw [List.getElem?_set_ne hi] at h
      obtain ⟨h1, h2⟩ := wipeE_some h
      exact ⟨h1, by simp only [List.mem_cons, not_or]; exact ⟨fun e => hi e.symm, h2⟩⟩
theorem wipeE_length (r : Env) : ∀ vs : List Nat, (wipeE r vs).length = r.length
  | [] => rfl
  | v :: vs => by unfold wipeE; rw [List.length_set, wipeE_length r vs]
theorem RelS.wipe {r : Env} {σ : L2.St} (s : RelS G p r σ H) (vs : List Nat) : RelS G p (wipeE r vs) (wipe σ vs) H :=
  ⟨by rw [wipeE_length, wipe_length]; exact s.len, fun i d e => by
    obtain ⟨h1, h2⟩ := wipeE_some e
    obtain ⟨v, g1, g2⟩ := s.at_ i d h1
    refine ⟨v, ?_, g2⟩
    rw [wipe_get σ vs i (List.getElem?_eq_some_iff.mp g1).1, if_neg h2]
    exact g1⟩
/-- the targets of a comprehension -/
theorem gTs_ok {vs : List Nat} {σ0 : L2.St} : ∀ {ts : List Nat} {l : List D} {us : List V} {r r' : Env} {σ : L2.St} {Q : L2.St → Hp → Prop}, RelS G p r σ H → RelDs G H p l us → setAll ts l r = some r' → (∀ i ∈ ts, i ∈ vs) → L2.wipe σ vs = L2.wipe σ0 vs → (∀ σ', RelS G p r' σ' H → L2.wipe σ' vs = L2.wipe σ0 vs → Q σ' H) → gTs ts us σ H Q
  | [], [], _, r, r', σ, Q, s, .nil, e, _, w, k => by
    unfold setAll at e
    cases e
    exact ⟨rfl, k σ s w⟩
  | [], _ :: _, _, _, _, _, _, _, _, e, _, _, _ => by simp [setAll] at e
  | _ :: _, [], _, _, _, _, _, _, _, e, _, _, _ => by simp [setAll] at e
  | i :: ts, d :: l, _, r, r', σ, Q, s, .cons rd rds, e, hv, w, k => by
    unfold setAll at e
    exact ⟨_, _, rfl, gTs_ok (s.set i rd) rds e (fun j hj => hv j (List.mem_cons_of_mem _ hj)) (wipe_wipe (hv i (List.mem_cons_self ..)) w) k⟩
theorem cTarget_mem {ts : List Nat} {one : Bool} {d : D} {r r' : Env} {h h' : Mem} (e : cTarget ts one d r h = .ok r' h') : h' = h := by
  unfold cTarget at e
  split at e
  · cases e; rfl
  · split at e
    · cases e; rfl
    · cases e
  · cases e
theorem cTarget_ok {vs : List Nat} {σ0 : L2.St} {ts : List Nat} {one : Bool} {d : D} {v : V} {r r' : Env} {σ : L2.St} {h h' : Mem} {Q : L2.St → Hp → Prop} (s : RelS G p r σ H) (rd : RelD G H p d v) (e : cTarget ts one d r h = .ok r' h') (hv : ∀ i ∈ ts, i ∈ vs) (w : L2.wipe σ vs = L2.wipe σ0 vs)
    (k : ∀ σ', RelS G p r' σ' H → L2.wipe σ' vs = L2.wipe σ0 vs → Q σ' H) : h' = h ∧ gOf G.K ts one v σ H Q := by
  cases one with
  | true =>
    match ts, hv, e with
    | [i], hv, e =>
      cases e
      exact ⟨rfl, k _ (s.set _ rd) (wipe_wipe (hv _ (List.mem_singleton.mpr rfl)) w)⟩
  | false =>
    have z0 : ∀ v, gOf G.K ts false v σ H Q = gTup G.K ts.length (gTs ts) v σ H Q := fun v => by
      match ts with
      | [] => rfl
      | [i] => rfl
      | _ :: _ :: _ => rfl
    cases rd with
    | @tup a l us s1 l1 =>
      have e : (match setAll ts l r with | some r => Out.ok r h | none => .stuck) = .ok r' h' := by
        rw [← e]
        match ts with
        | [] => rfl
        | [i] => rfl
        | _ :: _ :: _ => rfl
      split at e
      · rename_i r2 c
        cases e
        refine ⟨rfl, ?_⟩
        have len : l.length = ts.length := by
          have : ∀ (ts : List Nat) (l : List D) (r r2 : Env), setAll ts l r = some r2 → l.length = ts.length := by
            intro ts
            induction ts with
            | nil => intro l r r2 c; cases l with
              | nil => rfl
              | cons a b => simp [setAll] at c
            | cons i ts ih => intro l r r2 c; cases l with
              | nil => simp [setAll] at c
              | cons a b => unfold setAll at c; exact congrArg (· + 1) (ih _ _ _ c)
          exact this _ _ _ _ c
        rw [z0]
        exact ⟨_, _, rfl, s1, by rw [← l1.length]; exact len, gTs_ok s l1 c hv w k⟩
      · cases e
    | _ => exfalso; revert e; match ts with
      | [] => intro e; cases e
      | [i] => intro e; cases e
      | _ :: _ :: _ => intro e; cases e
end

section
variable {X : Cx} {G : Gx} {xn : Nat → Str} {W : WX} {elt tg iter : Expr} {ifs : List Expr} {scope : Scope} {own : List (Str × Nat)} {pos : Pos} {fi : Env → Mem → Out Src} {fc : Env → Mem → Out Bool} {fe : Env → Mem → Out D} {ts : List Nat} {one : Bool}
/-- the comprehension's text -/
noncomputable def compF (fi : Env → Mem → Out Src) (fc : Env → Mem → Out Bool) (fe : Env → Mem → Out D) (ts : List Nat) (one : Bool) (vs : List Nat) (r : Env) (h : Mem) : Out D :=
  (fi r h).bind fun s h => cmpL (fun d r h => cTarget ts one d r h) (fun r h => (fc r h).calm) (fun r h => (fe r h).calm) s h.length (wipeE r vs) s.items (h ++ [.lst []])
theorem lc_imp (hK : X.K = G.K) {vs : List Nat} (hv : ∀ i ∈ ts, i ∈ vs) (σ : L2.St) (H : Hp) (Q : VK) (k0 : rE G xn W (compF fi fc fe ts one vs) σ H Q) : tLc (rI G xn W fi) (gOf G.K ts one) (rT G xn W0 fc) (rE G xn W0 fe) vs σ H Q := by
  obtain ⟨p, r, h, m, s, k⟩ := k0
  unfold compF at k
  refine ⟨p, r, h, m, s, PostI.bind (o := fi r h) k fun src h1 p1 J H1 q1 l1 m1 it k1 => ?_⟩
  intro D hD
  have s1 := s.mono l1 q1
  have mD : RelM G (p1 ++ [D]) (h1 ++ [.lst []]) (upd H1 D (.lst [])) := m1.new hD (m1.fresh hD) ⟨[], upd_same, .nil⟩
  have pD : (p1 ++ [D])[h1.length]? = some D := by rw [← m1.len]; simp
  have leD : Le G H1 (upd H1 D (.lst [])) := Le.new hD
  refine ⟨fun i mm H' => mm = src.items.length - i ∧ i ≤ src.items.length ∧ ∃ p' h', (p1 ++ [D]) <+: p' ∧ Le G (upd H1 D (.lst [])) H' ∧ RelM G p' h' H' ∧ PostE G xn p' σ H' W Q (cmpL (fun d r h => cTarget ts one d r h) (fun r h => (fc r h).calm) (fun r h => (fe r h).calm) src h1.length (wipeE r vs) (src.items.drop i) h'),
    ⟨src.items.length, by simp, Nat.zero_le _, p1 ++ [D], h1 ++ [.lst []], List.prefix_refl _, Le.refl _, mD, PostE.mono k1 (List.prefix_append _ _) leD⟩, ?_⟩
  rintro i mm H' ⟨rfl, hi, p', h', q', l', m', k'⟩
  have q1' : p1 <+: p' := (List.prefix_append _ _).trans q'
  have l1' : Le G H1 H' := leD.trans l'
  by_cases hlt : i < src.items.length
  · rw [List.drop_eq_getElem_cons hlt] at k'
    unfold cmpL at k'
    split at k'
    · rename_i ok
      obtain ⟨g1, _⟩ := it i p' h' H' m' q1' l1' ok
      obtain ⟨g2, g3⟩ := g1 src.items[i] (by simp [hlt])
      refine .inr ⟨g2, fun H'' => ∃ p' h', (p1 ++ [D]) <+: p' ∧ Le G (upd H1 D (.lst [])) H'' ∧ RelM G p' h' H'' ∧ PostE G xn p' σ H'' W Q (cmpL (fun d r h => cTarget ts one d r h) (fun r h => (fc r h).calm) (fun r h => (fe r h).calm) src h1.length (wipeE r vs) (src.items.drop (i + 1)) h'), fun H'' z => ⟨src.items.length - (i + 1), by omega, rfl, hlt, z⟩, fun x H'' y => ?_⟩
      obtain ⟨m2, l2, r2⟩ := g3 x H'' y
      have sw : RelS G p' (wipeE r vs) (L2.wipe σ vs) H'' := (s1.mono (l1'.trans l2) q1').wipe vs
      cases eg : cTarget ts one src.items[i] (wipeE r vs) h' with
      | ok r3 h3 =>
        rw [eg] at k'
        have e3 : h3 = h' := cTarget_mem eg
        subst e3
        refine (cTarget_ok (σ0 := σ) (Q := fun σ2 H2 => L2.wipe σ2 vs = L2.wipe σ vs ∧ rT G xn W0 fc σ2 H2 fun b H3 =>
          if b = true then rE G xn W0 fe σ2 H3 fun y H4 => ∃ acc, H4 D = some (.lst acc) ∧ acc.length < sizeLine ∧ (∃ p' h', (p1 ++ [D]) <+: p' ∧ Le G (upd H1 D (.lst [])) (upd H4 D (.lst (acc ++ [y]))) ∧ RelM G p' h' (upd H4 D (.lst (acc ++ [y]))) ∧ PostE G xn p' σ (upd H4 D (.lst (acc ++ [y]))) W Q (cmpL (fun d r h => cTarget ts one d r h) (fun r h => (fc r h).calm) (fun r h => (fe r h).calm) src h1.length (wipeE r vs) (src.items.drop (i + 1)) h'))
          else ∃ p' h', (p1 ++ [D]) <+: p' ∧ Le G (upd H1 D (.lst [])) H3 ∧ RelM G p' h' H3 ∧ PostE G xn p' σ H3 W Q (cmpL (fun d r h => cTarget ts one d r h) (fun r h => (fc r h).calm) (fun r h => (fe r h).calm) src h1.length (wipeE r vs) (src.items.drop (i + 1)) h')) sw r2 eg hv (wipe_set' vs σ) fun σ' s' w' => ?_).2
        · refine ⟨w', p', r3, h3, m2, s', ?_⟩
          dsimp only [Out.bind] at k'
          cases ec : fc r3 h3 with
          | ok b h4 =>
            rw [ec] at k'
            intro p4 H4 q4 l4 m4
            have k4 := PostE.mono k' q4 (l2.trans l4)
            cases b with
            | true =>
              rw [if_pos rfl]
              refine ⟨p4, r3, h4, m4, s'.mono l4 q4, ?_⟩
              dsimp only [Out.calm, Out.bind] at k4
              rw [if_pos rfl] at k4
              cases ee : fe r3 h4 with
              | ok d h5 =>
                rw [ee] at k4
                intro p5 v H5 q5 l5 m5 r5
                dsimp only [Out.calm, Out.bind] at k4
                have k5 := PostE.mono k4 q5 l5
                split at k5
                · rename_i acc ca
                  have pD5 : p5[h1.length]? = some D := pre_get ((q'.trans q4).trans q5) pD
                  obtain ⟨us, hD5, l5'⟩ := m5.lst pD5 ca
                  split at k5
                  · rename_i csz
                    have le5 : Le G H5 (upd H5 D (.lst (us ++ [v]))) := Le.mut hD5 (fun _ z => by cases z) (fun _ _ z => by cases z)
                    refine ⟨us, hD5, by rw [← l5'.length]; exact csz, p5, h5.set h1.length (.lst (acc ++ [d])), (q'.trans q4).trans q5, ((l'.trans l2).trans (l4.trans l5)).trans le5, m5.set pD5 hD5 (fun _ z => by cases z) (fun _ _ z => by cases z) ⟨_, upd_same, ?_⟩, PostE.mono k5 (List.prefix_refl _) le5⟩
                    exact RelDs.mono le5 (List.prefix_refl _) (l5'.append (.cons r5 .nil))
                  · exact k5.elim
                · exact k5.elim
              | exc x h5 => rw [ee] at k4; exact k4.elim
              | stuck => rw [ee] at k4; exact k4.elim
            | false =>
              rw [if_neg Bool.false_ne_true]
              dsimp only [Out.calm, Out.bind] at k4
              rw [if_neg Bool.false_ne_true] at k4
              exact ⟨p4, h4, q'.trans q4, (l'.trans l2).trans l4, m4, k4⟩
          | exc x h4 => rw [ec] at k'; exact k'.elim
          | stuck => rw [ec] at k'; exact k'.elim
      | exc x h3 => exfalso; unfold cTarget at eg; split at eg <;> first | cases eg | (split at eg <;> cases eg)
      | stuck => rw [eg] at k'; exact k'.elim
    · exact k'.elim
  · have e : i = src.items.length := by omega
    subst e
    rw [List.drop_length] at k'
    unfold cmpL at k'
    split at k'
    · rename_i ok
      obtain ⟨_, g2⟩ := it src.items.length p' h' H' m' q1' l1' ok
      exact .inl ⟨g2 rfl, k' p' _ H' (List.prefix_refl _) (Le.refl _) m' (.ref (pre_get q' pD))⟩
    · exact k'.elim
theorem PTs.imp {X : Cx} {e : List Expr} {t t' : TT} (x : PTs X e t) (k : ∀ σ H Q, t' σ H Q → t σ H Q) : PTs X e t' := ⟨fun pins s σ H Q I w => x.run pins s σ H Q I (k σ H Q w)⟩
theorem t_nil {Y : Cx} : PTs Y [] (rT G xn W0 fun _ h => .ok true h) := PTs.imp pts_nil fun σ H Q ⟨p, r, h, m, s, k⟩ => k p H (List.prefix_refl _) (Le.refl _) m
theorem s_comp (hK : X.K = G.K) (hc : X.calm = true) (hN : X.N.Nodup) (hi : PI X tg iter (rI G xn W fi)) (ok : BlkOk X.N X.env.scope scope own) (hv : ∀ i ∈ ts, i ∈ own.map (·.2))
    (hg : ∀ (s : Shared) (H : Hp) (C : Addr) (cl : List (Str × Addr)) (fp : List Addr), PG (X.blk s H scope (compEnvC scope cl C X.env) fp) tg (gOf G.K ts one))
    (ht : ∀ (s : Shared) (H : Hp) (C : Addr) (cl : List (Str × Addr)) (fp : List Addr), PTs (X.blk s H scope (compEnvC scope cl C X.env) fp) ifs (rT G xn W0 fc))
    (he : ∀ (s : Shared) (H : Hp) (C : Addr) (cl : List (Str × Addr)) (fp : List Addr), PE (X.blk s H scope (compEnvC scope cl C X.env) fp) elt (rE G xn W0 fe)) (hs : ∀ x, foldedSetIterable iter X.env x = pure x) :
    PE X (.ListComp elt [⟨tg, iter, ifs, 0⟩] scope pos) (rE G xn W (compF fi fc fe ts one (own.map (·.2)))) :=
  PE.imp (pe_lc hc hN hi ok hg ht he hs) fun σ H Q k => lc_imp hK hv σ H Q k
theorem s_setComp {j : Nat} {y : Str} {py spos : Pos} (hK : X.K = G.K) (hc : X.calm = true) (hN : X.N.Nodup) (hy : X.N[j]? = some y) (hyl : X.env.scope.names.lookup y = some .local)
    (hsw : swapsWith (.ListComp elt [⟨tg, iter, ifs, 0⟩] scope pos) (some (.Name y py)) spos.line X.env = pure true) (hi : PI X tg iter (rI G xn W fi)) (ok : BlkOk X.N X.env.scope scope own) (hv : ∀ i ∈ ts, i ∈ own.map (·.2))
    (hg : ∀ (s : Shared) (H : Hp) (C : Addr) (cl : List (Str × Addr)) (fp : List Addr), PG (X.blk s H scope (compEnvC scope cl C X.env) fp) tg (gOf G.K ts one))
    (ht : ∀ (s : Shared) (H : Hp) (C : Addr) (cl : List (Str × Addr)) (fp : List Addr), PTs (X.blk s H scope (compEnvC scope cl C X.env) fp) ifs (rT G xn W0 fc))
    (he : ∀ (s : Shared) (H : Hp) (C : Addr) (cl : List (Str × Addr)) (fp : List Addr), PE (X.blk s H scope (compEnvC scope cl C X.env) fp) elt (rE G xn W0 fe)) (hs : ∀ x, foldedSetIterable iter X.env x = pure x) :
    PS X (.Assign [.Name y py] (.ListComp elt [⟨tg, iter, ifs, 0⟩] scope pos) spos) (rS G xn W fun r h => (compF fi fc fe ts one (own.map (·.2)) r h).bs r fun d h => .ok (.nx (r.set j (some d))) h) :=
  PS.imp (ps_setLc hc hN hy hyl hsw hi ok hg ht he hs) fun En σ H ⟨p, r, h, m, s, k⟩ => lc_imp hK hv σ H _ ⟨p, r, h, m, s, PostE.bindS (o := compF fi fc fe ts one (own.map (·.2)) r h) s k fun d h1 p1 v H1 q1 l1 m1 r1 k1 => k1 p1 _ H1 (List.prefix_refl _) (Le.refl _) m1 ((s.mono l1 q1).set j r1)⟩
end
end RG

end

section
/-! RgStar: x, *xs = a tuple. -/
namespace RG
open PySem PySem.Spec PyProof PyProof.Rows

theorem nolen_ti : typeLookup (.type "tuple_iterator") "__len__" = pure none := by rw [typeLookup_type, builtinLookup_eq_fast]; kernel_rfl
theorem hint_ti : typeLookup (.type "tuple_iterator") "__length_hint__" = pure (some (.builtin "tuple_iterator.__length_hint__")) := by rw [typeLookup_type, builtinLookup_eq_fast]; kernel_rfl

/-- a walk that has gone on by one -/
theorem walk_on {prog : Program} {w : World} {A : Around} {I : Addr} {fp wr : List Addr} {n : Nat} {P : Nat → Value → Prop} {St : Nat → Heap → Prop} (W : Walks prog w A I fp wr (n + 1) P St) : Walks prog w A I fp wr n (fun i v => P (i + 1) v) (fun i h => St (i + 1) h) where
  sub := W.sub
  frame := fun i h h' st k => W.frame (i + 1) h h' st k
  item := fun i s Q E hi st hQ => W.item (i + 1) s Q E (by omega) st hQ
  done := fun s Q E st hQ => W.done s Q E st hQ
  self := fun i s Q E st hQ => W.self (i + 1) s Q E st hQ

section
variable {prog : Program} {w : World} {A : Around} {E : Value → Shared → Prop} {s : Shared}
theorem collect_tupIter {it t : Addr} {items : Array Value} {n : Nat} {Q : List Value → Shared → Prop} (hh : A.handled = none) (hit : s.heap.IsTupleIter it t 1) (hl : s.heap.IsTuple t items) (hne : t ≠ it) (hz : items.size = n + 1) (hn : n ≤ sizeLine)
    (hQ : ∀ (h' : Heap) (tk : Nat) (acc : Array Value), s.heap.objs.size < h'.objs.size → (∀ b o, b ≠ it → s.heap.get? b = some o → h'.get? b = some o) → ItemsOf (fun i v => items[i + 1]? = some v) acc n → Q acc.toList { s with heap := h', toks := tk }) :
    wpAny (model prog w) A (collect (.ref it)) Q E s := by
  have W0 := Walks.tuple (prog := prog) (w := w) (A := A.in1) hh it t hne items
  rw [hz] at W0
  have W := (walk_on W0).toS
  obtain ⟨oi, hoi, hci, hdi⟩ := id hit
  obtain ⟨ol, hol, _⟩ := id hl
  have hSi : s.heap.objs.size ≠ it := Nat.ne_of_gt (Heap.lt_size hoi)
  have hSl : s.heap.objs.size ≠ t := Nat.ne_of_gt (Heap.lt_size hol)
  have hSf : s.heap.objs.size ∉ [it, t] := by simp only [List.mem_cons, List.not_mem_nil, or_false, not_or]; exact ⟨hSi, hSl⟩
  unfold collect
  refine wpAny_bind (wpAny_runValue (codeAny_builtin F.entry_proto_collect ?_))
  rw [Around.under_plainId F.plain_proto_collect _]
  show wpAny _ A.in1 (newList [] >>= fun l' => again (.builtin "list.__iadd__" ⟨[l', .ref it], []⟩)) _ _ s
  refine wpAny_bind (wpAny_newObj_type ?_)
  refine wpAny_pure ⟨plainId_quiet F.plain_list_iadd _, codeAny_builtin F.entry_list_iadd ?_⟩
  rw [Around.under_plainId F.plain_list_iadd _]
  have hS₁ : (s.heap.push { cls := .type "list", data := .seq ([] : List Value).toArray }).get? s.heap.objs.size = some { cls := .type "list", data := .seq ([] : List Value).toArray } := Heap.get?_push_size _ rfl
  have hit1 : (s.heap.push { cls := .type "list", data := .seq ([] : List Value).toArray }).IsTupleIter it t 1 := ⟨oi, Heap.get?_push_of_some _ hoi, hci, hdi⟩
  have hl1 : (s.heap.push { cls := .type "list", data := .seq ([] : List Value).toArray }).IsTuple t items := hl.at fun o e => Heap.get?_push_of_some _ e
  have hT : ({ s with heap := s.heap.push { cls := .type "list", data := .seq ([] : List Value).toArray } } : Shared).TypeIs (.ref it) "tuple_iterator" := ⟨oi, Heap.get?_push_of_some _ hoi, hci⟩
  have h1 : Builtin.List.listSameRef (.ref s.heap.objs.size) (.ref it) = false := by simp [Builtin.List.listSameRef, hSi]
  show wpAny _ A.in1 (Builtin.List.listExtendWith (.ref s.heap.objs.size) (.ref it) (.ref s.heap.objs.size)) _ _ _
  unfold Builtin.List.listExtendWith
  refine wpAny_bind (wpAny_typeOf hT ?_)
  rw [if_neg (by rw [h1]; decide)]
  refine wpAny_bind (W.self 0 _ _ _ ⟨hit1, hl1⟩ ?_)
  refine wpAny_bind (wpAny_holding ?_)
  unfold Builtin.List.listLengthHint
  refine wpAny_bind (wpAny_specialOf hT nolen_ti ?_)
  show wpAny _ A.in1 (specialOf (Value.ref it) (Str.ofString "__length_hint__") >>= _) _ _ _
  refine wpAny_bind (wpAny_specialOf hT hint_ti ?_)
  generalize hid : ("tuple_iterator.__length_hint__" : String) = id0
  wp_delta
  rw [show splitId id0 = some ("tuple_iterator", "__length_hint__") from by subst hid; decide +kernel]
  subst hid
  refine wpAny_bind (wpAny_isInstance (b := true) hT (by rw [isSubtype_type]; kernel_rfl) ?_)
  refine wpAny_pure ?_
  rw [if_neg (by decide)]
  refine wpAny_pure ⟨plainId_quiet F.plain_extend_loop _, codeAny_extend_loopS W hn _ hSf _ n 0 _ _ _ rfl (Nat.zero_le _) ⟨hit1, hl1⟩ hS₁ (ItemsOf.nil _) fun s' acc' c' hm hS' hacc => ?_⟩
  show wpAny _ A (load s.heap.objs.size >>= _) _ _ s'
  refine wpAny_bind (wpAny_load hS' ?_)
  refine wpAny_pure ?_
  rw [Moved.eq_with hm]
  refine hQ s'.heap s'.toks acc' (Heap.lt_size hS') (fun b o hb e => hm.heap b o (fun hmem => ?_) (Heap.get?_push_of_some _ e)) hacc
  rcases List.mem_cons.mp hmem with e' | hmem
  · exact absurd (Heap.lt_size e) (by rw [e']; exact Nat.lt_irrefl _)
  · exact hb (List.mem_singleton.mp hmem)
end
end RG

end

section
namespace RG
open PySem PySem.Spec PyProof PyProof.Rows L2

section
variable {prog : Program} {w : World} {A : Around} {E : Value → Shared → Prop} {s : Shared}
theorem unpack_star1 {t : Addr} {x : Value} {its : List Value} {Q : List Value → Shared → Prop} (hh : A.handled = none) (ht : IsTup s.heap t (x :: its).toArray) (hn : its.length ≤ sizeLine)
    (hQ : ∀ (h' : Heap) (tk : Nat), s.heap.objs.size ≤ h'.objs.size → (∀ b o, s.heap.get? b = some o → h'.get? b = some o) → Q [x, .ref h'.objs.size] { s with heap := h'.push { cls := .type "list", data := .seq its.toArray }, toks := tk }) :
    wpAny (model prog w) A (unpackItems (.ref t) 2 (some 1)) Q E s := by
  have hlt : t ≠ s.heap.objs.size := by obtain ⟨o, ho, _⟩ := ht; exact Nat.ne_of_lt (Heap.lt_size ho)
  unfold unpackItems
  refine wpAny_bind ?_
  unfold notIterableAtAll
  refine wpAny_bind (wpAny_specialOf ht.typeIs slot_tuple_iter.lookup ?_)
  refine wpAny_pure ?_
  simp only [Bool.false_eq_true, if_false]
  refine wpAny_bind (wpAny_holding (iter_tuple ht ?_))
  refine wpAny_bind (wpAny_holding (draw_tuple hlt 1 0 _ _ ⟨_, Heap.get?_push_size _ rfl, rfl, rfl⟩ (ht.push _) (by simp) fun h₁ hit₁ hs₁ => ?_))
  have e1 : List.take 1 (List.drop 0 (x :: its).toArray.toList) = [x] := by simp
  rw [e1]
  rw [if_neg (by simp)]
  have ht₁ : IsTup h₁ t (x :: its).toArray := (ht.push _).extBut hs₁.extBut hlt
  refine wpAny_bind (wpAny_holding (collect_tupIter (n := its.length) hh hit₁ ht₁ hlt (by simp) hn fun h₂ tk acc hsz hk hacc => ?_))
  have e2 : acc.toList = its := by
    obtain ⟨a1, a2⟩ := hacc
    apply List.ext_getElem?
    intro i
    by_cases hi : i < its.length
    · have hi2 : i < acc.size := by rw [a1]; exact hi
      have := a2 i acc[i] (by simp [hi2])
      simp only [List.getElem?_toArray, List.getElem?_cons_succ] at this
      rw [this]
      simp [hi2]
    · rw [List.getElem?_eq_none (by simp [a1]; omega), List.getElem?_eq_none (by omega)]
  rw [e2]
  dsimp only
  rw [if_neg (by omega)]
  have e3 : its.length - (2 - 1 - 1) = its.length := by omega
  rw [e3, List.take_length, List.drop_length]
  refine wpAny_bind (wpAny_newObj_type ?_ (by show its.toArray.size ≤ sizeLine; simpa using hn))
  refine wpAny_pure ?_
  refine hQ h₂ tk (by have z := hs₁.1; rw [Heap.size_push] at z; have z2 : h₁.objs.size < h₂.objs.size := hsz; omega) fun b o e => hk b o (Nat.ne_of_lt (Heap.lt_size e)) (hs₁.extBut b o (Nat.ne_of_lt (Heap.lt_size e)) (Heap.get?_push_of_some _ e))
end

section
variable {X : Cx} {G : Gx} {i j : Nat} {x y : Str} {px py ps pos : Pos} {kk : Nat}
theorem g_star1 (hK : X.K = G.K) (hc : X.calm = true) (g1 : PG X (.Name x px) (gName i)) (g2 : PG X (.Name y py) (gName j)) :
    PG X (.Tuple [.Name x px, .Starred (.Name y py) ps] kk pos) (rG G fun d r h => match d with
    | .tup (x :: l) => .ok ((r.set i (some x)).set j (some (.ref h.length))) (h ++ [.lst l])
    | _ => .stuck) := by
  refine ⟨fun pins s σ H v u Q I rv ⟨p, r, h, d, m, sg, rd, k⟩ => ?_⟩
  cases rd with
  | @tup a l vs s1 l1 =>
    cases l1 with
    | nil => exact k.elim
    | @cons d0 v0 l vs r0 l1 =>
      obtain rfl : u = Value.ref a := rv
      obtain ⟨its, rvs, ht, hz⟩ := I.tuple (hK ▸ s1)
      cases rvs with
      | @cons _ u0 _ its ru0 rvs =>
        rw [assign_Tuple]
        refine wpAny_bind (wpAny_standAt ?_)
        show wpAny _ _ (holding [Value.ref a] (unpackItems (.ref a) 2 (some 1)) >>= fun items => assignInOrder [assign (.Name x px) X.env, assign (.Name y py) X.env] items) _ _ _
        have hz' : its.length ≤ sizeLine := by
          rw [List.length_cons] at hz
          rw [← rvs.length]; omega
        refine wpAny_bind (wpAny_holding (unpack_star1 (I.ok.hd hc) ht hz' fun h' tk hsz hk => ?_))
        have I2 : Inv X pins σ (upd H h'.objs.size (.lst vs)) { s with heap := h'.push { cls := .type "list", data := .seq its.toArray }, toks := tk } := by
          exact I.laid (fun b o e => Heap.get?_push_of_some _ (hk b o e)) hsz ⟨by rw [rvs.length]; exact hz', its, _, rvs, Heap.get?_push_size _ rfl⟩
        have nL : H h'.objs.size = none := I.hok.fresh hsz
        refine assignInOrder_cons (thn (g1.run pins _ σ _ v0 u0 _ I2 ru0 (show gName i v0 σ _ (fun σ' H' => σ' = σ.set i (some v0) ∧ H' = upd H h'.objs.size (.lst vs)) from ⟨rfl, rfl⟩)) fun _ s3 hh => ?_)
        obtain ⟨σ3, H3, I3, rfl, rfl⟩ := hh
        refine assignInOrder_cons (thn (g2.run pins _ _ _ (.ref h'.objs.size) _ _ I3 rfl (show gName j _ _ _ (fun σ' H' => σ' = (σ.set i (some v0)).set j (some (.ref h'.objs.size)) ∧ H' = upd H h'.objs.size (.lst vs)) from ⟨rfl, rfl⟩)) fun _ s4 hh => ?_)
        obtain ⟨σ4, H4, I4, rfl, rfl⟩ := hh
        have le : Le G H (upd H h'.objs.size (.lst vs)) := Le.new nL
        refine assignInOrder_nil ⟨_, _, I4, k (p ++ [h'.objs.size]) _ _ (List.prefix_append _ _) le (m.new nL (m.fresh nL) ⟨vs, upd_same, l1.mono le (List.prefix_append _ _)⟩) ?_⟩
        exact ((sg.mono le (List.prefix_append _ _)).set i (r0.mono le (List.prefix_append _ _))).set j (.ref (by rw [← m.len]; simp))
  | _ => exact k.elim
end
end RG

end

section
/-! RgZip: zip of lists, tuples, texts in any mix. -/
namespace RG
open PySem PySem.Spec PyProof PyProof.Rows L2

/-- what may be zipped -/
inductive Zk where
  | lst (a : Addr) | tup (a : Addr) | str (x : Str) (t : Tok)
def Zk.val : Zk → Value
  | .lst a => .ref a
  | .tup a => .ref a
  | .str x t => .str x t
def Zk.obj : Zk → Obj
  | .lst a => { cls := .type "list_iterator", data := .fields #[.ref a, .int 0 0] }
  | .tup a => { cls := .type "tuple_iterator", data := .fields #[.ref a, .int 0 0] }
  | .str x t => { cls := .type (strIterType x), data := .fields #[.str x t, .int 0 0] }
/-- the iterator at turn i -/
def Zk.it (k : Zk) (it : Addr) (i : Nat) (h : Heap) : Prop := match k with
  | .lst a => h.IsListIter it a i
  | .tup a => h.IsTupleIter it a i
  | .str x t => h.IsStrIter it (strIterType x) x t i
def Zk.has (K : PySem.W.Frag) (H : Hp) (xs : List V) : Zk → Prop
  | .lst a => SqL K H a xs
  | .tup a => SqT K H a xs
  | .str x _ => xs = x.cps.toList.map fun c => .str ⟨#[c]⟩
/-- the cells beside the iterator that it leans on -/
def Zk.cells : Zk → List Addr
  | .lst a => [a]
  | .tup a => [a]
  | .str _ _ => []
/-- what it holds, as values -/
def Zk.now (k : Zk) (h : Heap) (us : List Value) : Prop := match k with
  | .lst a => h.IsList a us.toArray
  | .tup a => h.IsTuple a us.toArray
  | .str _ _ => True
def Zk.len (k : Zk) (us : List Value) : Nat := match k with
  | .str x _ => x.cps.size
  | .lst _ => us.length
  | .tup _ => us.length
def Zk.P (k : Zk) (us : List Value) (i : Nat) (v : Value) : Prop := match k with
  | .lst _ => us[i]? = some v
  | .tup _ => us[i]? = some v
  | .str x _ => ∃ c u, x.cps[i]? = some c ∧ v = .str ⟨#[c]⟩ u
theorem Zk.it0 (k : Zk) {it : Addr} {h : Heap} (e : h.get? it = some k.obj) : k.it it 0 h := by
  cases k <;> exact ⟨_, e, rfl, rfl⟩
theorem Zk.it_obj (k : Zk) {it : Addr} {i : Nat} {h : Heap} (e : k.it it i h) : ∃ o, h.get? it = some o ∧ ∀ v, o.data ≠ .cell v := by
  cases k <;> (obtain ⟨o, e, _, d⟩ := e; exact ⟨o, e, fun v z => by rw [d] at z; cases z⟩)
theorem Zk.it_at (k : Zk) {it : Addr} {i : Nat} {h h' : Heap} (e : k.it it i h) (kp : ∀ o, h.get? it = some o → h'.get? it = some o) : k.it it i h' := by
  cases k <;> (obtain ⟨o, e, c, d⟩ := e; exact ⟨o, kp o e, c, d⟩)
/-- how it is drawn from -/
theorem Zk.draws (k : Zk) {prog : Program} {w : World} {A : Around} (hh : A.handled = none) (it : Addr) (hne : it ∉ k.cells) (us : List Value) :
    Draws prog w A it (it :: k.cells) (k.len us) (k.P us) (fun i h => k.it it i h ∧ k.now h us) := by
  cases k with
  | lst a =>
    have d := Draws.list (prog := prog) (w := w) hh it a (fun z => hne (by simp [Zk.cells, z])) us.toArray
    simp only [List.size_toArray, List.getElem?_toArray] at d
    exact d
  | tup a =>
    have d := Draws.tuple (prog := prog) (w := w) hh it a (fun z => hne (by simp [Zk.cells, z])) us.toArray
    simp only [List.size_toArray, List.getElem?_toArray] at d
    exact d
  | str x t =>
    have d := Draws.text (prog := prog) (w := w) hh it x t
    have e : (fun i h => Zk.it (.str x t) it i h ∧ True) = fun (i : Nat) (h : Heap) => h.IsStrIter it (strIterType x) x t i := by
      funext i h
      exact propext ⟨fun z => z.1, fun z => ⟨z, trivial⟩⟩
    show Draws prog w A it [it] x.cps.size _ (fun i h => Zk.it (.str x t) it i h ∧ True)
    rw [e]
    exact d
/-- it begins -/
theorem Zk.begins (k : Zk) (us : List Value) : Begins k.val k.obj (fun h => k.now h us) := by
  cases k with
  | lst a => exact begins_list a us.toArray
  | tup a => exact begins_tuple a us.toArray
  | str x t => exact begins_text x t
/-- the values that stand there, while the abstract heap has xs -/
theorem Zk.inv {X : Cx} {pins : List (Addr × Obj)} {σ : L2.St} {H : Hp} {s : Shared} (I : Inv X pins σ H s) {k : Zk} {xs : List V} (hx : k.has X.K H xs) :
    ∃ us : List Value, k.now s.heap us ∧ k.len us = xs.length ∧ (∀ i v, k.P us i v → ∃ x, xs[i]? = some x ∧ RelV x v) ∧ ∀ a ∈ k.cells, a < s.heap.objs.size := by
  cases k with
  | lst a =>
    obtain ⟨its, rv, p, hz⟩ := I.list hx
    refine ⟨its, p.isList, rv.length.symm, fun i v e => ?_, fun b hb => ?_⟩
    · have e : its[i]? = some v := e
      cases q : xs[i]? with
      | none => rw [rv.none_of q] at e; cases e
      | some x =>
        obtain ⟨u, g1, g2⟩ := rv.get q
        rw [g1] at e; cases e
        exact ⟨x, rfl, g2⟩
    · simp only [Zk.cells, List.mem_singleton] at hb
      subst hb
      exact p.lt
  | tup a =>
    obtain ⟨its, rv, p, hz⟩ := I.tuple hx
    refine ⟨its, p, rv.length.symm, fun i v e => ?_, fun b hb => ?_⟩
    · have e : its[i]? = some v := e
      cases q : xs[i]? with
      | none => rw [rv.none_of q] at e; cases e
      | some x =>
        obtain ⟨u, g1, g2⟩ := rv.get q
        rw [g1] at e; cases e
        exact ⟨x, rfl, g2⟩
    · simp only [Zk.cells, List.mem_singleton] at hb
      subst hb
      exact p.lt
  | str x t =>
    have hx : xs = x.cps.toList.map fun c => V.str ⟨#[c]⟩ := hx
    subst hx
    refine ⟨[], trivial, by simp [Zk.len], fun i v e => ?_, fun b hb => by simp [Zk.cells] at hb⟩
    obtain ⟨c, u, e1, rfl⟩ := e
    refine ⟨.str ⟨#[c]⟩, ?_, ⟨u, rfl⟩⟩
    rw [List.getElem?_map]
    have : x.cps.toList[i]? = some c := by simpa using e1
    rw [this]
    rfl
theorem Zk.has_inj {X : Cx} {pins : List (Addr × Obj)} {σ : L2.St} {H : Hp} {s : Shared} (I : Inv X pins σ H s) {k : Zk} {xs ys : List V} (hx : k.has X.K H xs) (hy : k.has X.K H ys) : xs = ys := by
  cases k with
  | lst a => exact I.list_inj hx hy
  | tup a => exact I.tuple_inj hx hy
  | str x t => exact (show xs = _ from hx).trans (show ys = _ from hy).symm

def Itzz (K : PySem.W.Frag) (k1 k2 : Zk) : It :=
  ⟨fun i H => ∃ (xs ys : List V), k1.has K H xs ∧ k2.has K H ys ∧ i < min xs.length ys.length,
    fun i H v H' => ∃ T x y, v = .ref T ∧ H T = none ∧ H' = upd H T (.tup [x, y]) ∧ (∀ xs, k1.has K H xs → xs[i]? = some x) ∧ ∀ ys, k2.has K H ys → ys[i]? = some y,
    fun i H => ∃ xs ys : List V, k1.has K H xs ∧ k2.has K H ys ∧ i = min xs.length ys.length⟩
theorem turn_zz {P : Program} {w : World} {K : PySem.W.Frag} {elts : List Expr} {kk : Nat} {tpos : Pos} {k1 k2 : Zk} {z TI TO i1 i2 : Addr} (hS : ZipSep2 z TI TO i1 i2 (i1 :: k1.cells) (i2 :: k2.cells)) :
    Turn P w K (.Tuple elts kk tpos) (Itzz K k1 k2) [z, TI, TO, i1, i2] z (fun i h => IsZip h z TI TO .none ∧ IsTupOf2 h TI (.ref i1) (.ref i2) ∧ (∃ x y, IsTupOf2 h TO x y) ∧ k1.it i1 i h ∧ k2.it i2 i h) where
  mem := by simp
  obj := fun i h st c hc => by
    obtain ⟨hz, hTI, ⟨x, y, hTO⟩, h1, h2⟩ := st
    have e' : c = z ∨ c = TI ∨ c = TO ∨ c = i1 ∨ c = i2 := by simpa using hc
    rcases e' with q | q | q | q | q
    · rw [q]; exact ⟨_, hz, fun v q => nomatch q⟩
    · rw [q]; exact ⟨_, hTI, fun v q => nomatch q⟩
    · rw [q]; exact ⟨_, hTO, fun v q => nomatch q⟩
    · rw [q]; exact k1.it_obj h1
    · rw [q]; exact k2.it_obj h2
  keep := fun i h h' st k => by
    obtain ⟨hz, hTI, ⟨x, y, hTO⟩, h1, h2⟩ := st
    exact ⟨k z (by simp) _ hz, k TI (by simp) _ hTI, ⟨x, y, k TO (by simp) _ hTO⟩, k1.it_at h1 fun o q => k i1 (by simp) o q, k2.it_at h2 fun o q => k i2 (by simp) o q⟩
  item := by
    intro X hP hw hK hc i pins s σ H E I hf st hg
    subst hP hw hK
    obtain ⟨hz, hTI, hTO, h1, h2⟩ := st
    obtain ⟨xs, ys, hx, hy, hi⟩ := hg
    obtain ⟨us, n1, e1, p1, c1⟩ := Zk.inv I hx
    obtain ⟨ws, n2, e2, p2, c2⟩ := Zk.inv I hy
    have hh : X.A.in1.handled = none := I.ok.hd hc
    have S1 : i1 ∉ k1.cells := fun q => by
      obtain ⟨o, e, _⟩ := k1.it_obj h1
      have f1 := (hf i1 (by simp)).1
      cases k1 with
      | lst a =>
        simp only [Zk.cells, List.mem_singleton] at q
        obtain ⟨its, _, ⟨oo, n, ho, hc1, _⟩, _⟩ := I.list hx
        obtain ⟨o', e', c', _⟩ := h1
        rw [q, ho] at e'; cases e'; rw [hc1] at c'; exact absurd c' (by decide)
      | tup a =>
        simp only [Zk.cells, List.mem_singleton] at q
        obtain ⟨its, _, ⟨oo, ho, hc1, _⟩, _⟩ := I.tuple hx
        obtain ⟨o', e', c', _⟩ := h1
        rw [q, ho] at e'; cases e'; rw [hc1] at c'; exact absurd c' (by decide)
      | str x t => simp [Zk.cells] at q
    have S2 : i2 ∉ k2.cells := fun q => by
      cases k2 with
      | lst a =>
        simp only [Zk.cells, List.mem_singleton] at q
        obtain ⟨its, _, ⟨oo, n, ho, hc1, _⟩, _⟩ := I.list hy
        obtain ⟨o', e', c', _⟩ := h2
        rw [q, ho] at e'; cases e'; rw [hc1] at c'; exact absurd c' (by decide)
      | tup a =>
        simp only [Zk.cells, List.mem_singleton] at q
        obtain ⟨its, _, ⟨oo, ho, hc1, _⟩, _⟩ := I.tuple hy
        obtain ⟨o', e', c', _⟩ := h2
        rw [q, ho] at e'; cases e'; rw [hc1] at c'; exact absurd c' (by decide)
      | str x t => simp [Zk.cells] at q
    have D1 := k1.draws (prog := X.prog) (w := X.w) hh i1 S1 us
    have D2 := k2.draws (prog := X.prog) (w := X.w) hh i2 S2 ws
    have W := GoesN.zip2 (A := X.A) (elts := elts) (x1 := kk) (pos := tpos) hS D1 D2
    have hzl : z < s.heap.objs.size := Heap.lt_size hz
    have fl : ∀ c ∈ [z, TI, TO, i1, i2], c < s.heap.objs.size := fun c hcm => by
      have e' : c = z ∨ c = TI ∨ c = TO ∨ c = i1 ∨ c = i2 := by simpa using hcm
      rcases e' with q | q | q | q | q
      · rw [q]; exact hzl
      · rw [q]; exact Heap.lt_size hTI
      · rw [q]; obtain ⟨_, _, h⟩ := hTO; exact Heap.lt_size h
      · rw [q]; obtain ⟨_, e1, _⟩ := k1.it_obj h1; exact Heap.lt_size e1
      · rw [q]; obtain ⟨_, e2, _⟩ := k2.it_obj h2; exact Heap.lt_size e2
    refine thn (W.goes i s (fun v s2 => ∃ x H', Inv X pins σ H' s2 ∧ RelV x v ∧ (Itzz X.K k1 k2).yld i H x H' ∧ (IsZip s2.heap z TI TO .none ∧ IsTupOf2 s2.heap TI (.ref i1) (.ref i2) ∧ (∃ x y, IsTupOf2 s2.heap TO x y) ∧ k1.it i1 (i + 1) s2.heap ∧ k2.it i2 (i + 1) s2.heap) ∧ ∀ b ∈ [z, TI, TO, i1, i2], H' b = none) E (by rw [e1, e2]; exact hi) ⟨hz, hTI, hTO, ⟨h1, n1⟩, ⟨h2, n2⟩⟩ fun v h' tk Y st' hk htk => ?_) fun r s1 hh => ?_
    · obtain ⟨T, x, y, rfl, hT, px, py, tt⟩ := Y
      obtain ⟨st1, st2, st3, st4, st5⟩ := st'
      obtain ⟨vx, gx, rx⟩ := p1 i x px
      obtain ⟨vy, gy, ry⟩ := p2 i y py
      have new : ObjOk X.prog X.w (upd H T (.tup [vx, vy])) h' T (.tup [vx, vy]) := ⟨by show 2 ≤ sizeLine; decide, [x, y], .cons rx (.cons ry .nil), tt⟩
      have I1 : Inv X pins σ (upd H T (.tup [vx, vy])) { s with heap := h', toks := tk } :=
        I.turnedNew (ch := [z, TI, TO, i1, i2]) (fun b ob hb q => hk b ob (fun z => hb (by simp only [List.mem_cons, List.not_mem_nil, or_false] at z ⊢; rcases z with z | z | z | z <;> simp [z])) q) hf hT new
      refine ⟨.ref T, _, I1, rfl, ⟨T, vx, vy, rfl, I.hok.fresh hT, rfl, fun l hl => by rw [Zk.has_inj I hl hx]; exact gx, fun l hl => by rw [Zk.has_inj I hl hy]; exact gy⟩, ⟨st1, st2, st3, st4.1, st5.1⟩, fun b hb => ?_⟩
      rw [upd_ne (Nat.ne_of_lt (Nat.lt_of_lt_of_le (fl b hb) hT))]
      exact (hf b hb).1
    · obtain ⟨v, e, q⟩ := hh
      exact ⟨v, e, q⟩
  done := by
    intro X hP hw hK hc i pins s σ H E I hf st hg
    subst hP hw hK
    obtain ⟨hz, hTI, hTO, h1, h2⟩ := st
    obtain ⟨xs, ys, hx, hy, hi⟩ := hg
    obtain ⟨us, n1, e1, p1, c1⟩ := Zk.inv I hx
    obtain ⟨ws, n2, e2, p2, c2⟩ := Zk.inv I hy
    have hh : X.A.in1.handled = none := I.ok.hd hc
    have S1 : i1 ∉ k1.cells := fun q => by
      cases k1 with
      | lst a =>
        simp only [Zk.cells, List.mem_singleton] at q
        obtain ⟨its, _, ⟨oo, n, ho, hc1, _⟩, _⟩ := I.list hx
        obtain ⟨o', e', c', _⟩ := h1
        rw [q, ho] at e'; cases e'; rw [hc1] at c'; exact absurd c' (by decide)
      | tup a =>
        simp only [Zk.cells, List.mem_singleton] at q
        obtain ⟨its, _, ⟨oo, ho, hc1, _⟩, _⟩ := I.tuple hx
        obtain ⟨o', e', c', _⟩ := h1
        rw [q, ho] at e'; cases e'; rw [hc1] at c'; exact absurd c' (by decide)
      | str x t => simp [Zk.cells] at q
    have S2 : i2 ∉ k2.cells := fun q => by
      cases k2 with
      | lst a =>
        simp only [Zk.cells, List.mem_singleton] at q
        obtain ⟨its, _, ⟨oo, n, ho, hc1, _⟩, _⟩ := I.list hy
        obtain ⟨o', e', c', _⟩ := h2
        rw [q, ho] at e'; cases e'; rw [hc1] at c'; exact absurd c' (by decide)
      | tup a =>
        simp only [Zk.cells, List.mem_singleton] at q
        obtain ⟨its, _, ⟨oo, ho, hc1, _⟩, _⟩ := I.tuple hy
        obtain ⟨o', e', c', _⟩ := h2
        rw [q, ho] at e'; cases e'; rw [hc1] at c'; exact absurd c' (by decide)
      | str x t => simp [Zk.cells] at q
    have D1 := k1.draws (prog := X.prog) (w := X.w) hh i1 S1 us
    have D2 := k2.draws (prog := X.prog) (w := X.w) hh i2 S2 ws
    have W := GoesN.zip2 (A := X.A) (elts := elts) (x1 := kk) (pos := tpos) hS D1 D2
    have ei : i = min (k1.len us) (k2.len ws) := by rw [e1, e2]; exact hi
    refine thn (W.stops s (fun s1 => Inv X pins σ H s1) E (by rw [← ei]; exact ⟨hz, hTI, hTO, ⟨h1, n1⟩, ⟨h2, n2⟩⟩) fun h' tk hk htk => I.turnedL (ch := [z, TI, TO, i1, i2]) (fun b ob hb q => hk b ob (fun z => hb (by simp only [List.mem_cons, List.not_mem_nil, or_false] at z ⊢; rcases z with z | z | z | z <;> simp [z])) q) hf) fun r s1 hh => hh
  self := fun A i s Q E st h => wpAny_pyIter_zip st.1 h
end RG

end

section
/-! RgZip2: for .. in zip(a, b) -/
namespace RG
open PySem PySem.Spec PyProof PyProof.Rows L2

theorem RelDs.ofChars {G : Gx} {H : Hp} {p : List Addr} : (s : List Nat) → RelDs G H p (chars s) (s.map fun c => V.str ⟨#[c]⟩)
  | [] => .nil
  | c :: s => .cons (.str [c]) (RelDs.ofChars s)
theorem zk_of {G : Gx} {H : Hp} {p : List Addr} {d : D} {v : V} {u : Value} {h : Mem} {s : Src} (m : RelM G p h H) (r : RelD G H p d v) (ru : RelV v u) (e : srcS d h = some s) :
    ∃ k : Zk, k.val = u ∧ s.ok h ∧ ∀ p' h' H', RelM G p' h' H' → p <+: p' → Le G H H' → s.ok h' → ∃ xs, k.has G.K H' xs ∧ RelDs G H' p' s.items xs := by
  cases r with
  | str x =>
    obtain ⟨t, rfl⟩ := ru
    cases (show some (Src.mk (chars x) []) = some s from e)
    exact ⟨.str _ t, rfl, (fun g hg => nomatch hg), fun p' h' H' m' q l ok => ⟨_, rfl, by simpa using RelDs.ofChars x⟩⟩
  | @tup a l vs s1 r1 =>
    cases (show some (Src.mk l []) = some s from e)
    cases ru
    exact ⟨.tup a, rfl, (fun g hg => nomatch hg), fun p' h' H' m' q le ok => ⟨_, le.t _ _ s1, r1.mono le q⟩⟩
  | @scr a l s1 =>
    cases (show some (Src.mk (l.map .int) []) = some s from e)
    cases ru
    exact ⟨.lst a, rfl, (fun g hg => nomatch hg), fun p' h' H' m' q le ok => ⟨_, (le.l _ _ s1).sq, RelDs.ofInts l⟩⟩
  | @ref n a e1 =>
    cases ru
    cases c : rd h n with
    | none =>
      have : srcS (.ref n) h = none := by simp [srcS, srcOf, c]
      rw [this] at e; cases e
    | some l =>
      have : srcS (.ref n) h = some ⟨l, [(n, l)]⟩ := by simp [srcS, srcOf, c]
      rw [this] at e; cases e
      refine ⟨.lst a, rfl, (fun g hg => by rw [List.mem_singleton.mp hg]; exact c), fun p' h' H' m' q le ok => ?_⟩
      obtain ⟨vs, s1, l1⟩ := m'.rd (pre_get q e1) (ok (n, l) (List.mem_singleton.mpr rfl))
      exact ⟨vs, s1, l1⟩
  | _ => cases e

theorem it_zz {G : Gx} {k1 k2 : Zk} {s t : Src} {p0 : List Addr} {H0 : Hp}
    (f1 : ∀ p' h' H', RelM G p' h' H' → p0 <+: p' → Le G H0 H' → s.ok h' → ∃ xs, k1.has G.K H' xs ∧ RelDs G H' p' s.items xs)
    (f2 : ∀ p' h' H', RelM G p' h' H' → p0 <+: p' → Le G H0 H' → t.ok h' → ∃ xs, k2.has G.K H' xs ∧ RelDs G H' p' t.items xs) :
    ItOk G (Itzz G.K k1 k2) ⟨s.items.zipWith (fun x y => .tup [x, y]) t.items, s.grd ++ t.grd⟩ p0 H0 := by
  intro i p h H m q le ok
  obtain ⟨xs, hx, rx⟩ := f1 p h H m q le fun g hg => ok g (List.mem_append_left _ hg)
  obtain ⟨ys, hy, ry⟩ := f2 p h H m q le fun g hg => ok g (List.mem_append_right _ hg)
  have lx := rx.length
  have ly := ry.length
  refine ⟨fun d hd => ?_, fun hi => ⟨xs, ys, hx, hy, by rw [← lx, ← ly, ← hi]; simp⟩⟩
  have hd : (s.items.zipWith (fun x y => D.tup [x, y]) t.items)[i]? = some d := hd
  rw [List.getElem?_zipWith] at hd
  cases e1 : s.items[i]? with
  | none => rw [e1] at hd; cases hd
  | some dx =>
    cases e2 : t.items[i]? with
    | none => rw [e1, e2] at hd; cases hd
    | some dy =>
      rw [e1, e2] at hd
      cases hd
      obtain ⟨vx, g1, r1⟩ := rx.get e1
      obtain ⟨vy, g2, r2⟩ := ry.get e2
      refine ⟨⟨xs, ys, hx, hy, ?_⟩, fun x H' y => ?_⟩
      · have a1 := (List.getElem?_eq_some_iff.mp g1).1
        have a2 := (List.getElem?_eq_some_iff.mp g2).1
        omega
      · obtain ⟨T, x', y', rfl, hT, rfl, w1, w2⟩ := y
        have := w1 xs hx
        rw [g1] at this; cases this
        have := w2 ys hy
        rw [g2] at this; cases this
        exact ⟨m.ext fun b o z => by rw [upd_ne (ne_of_none z hT)]; exact z, Le.new hT, .tup (SqT.of upd_same) (.cons (r1.mono (Le.new hT) (List.prefix_refl _)) (.cons (r2.mono (Le.new hT) (List.prefix_refl _)) .nil))⟩

theorem i_zip {X : Cx} {G : Gx} {xn : Nat → Str} {W : WX} {a b : Expr} {pos q tpos : Pos} {elts : List Expr} {kk : Nat} {fs : Env → Mem → Out (List D)} (hK : X.K = G.K) (hg : Gl X "zip") (hm : X.mg "zip" = none) (ha : PA X [a, b] (rA G xn W fs))
    (hs : starEach [a, b] X.env = (false, eval a X.env) :: starEach [b] X.env) (hpl : (backTo pos (starEach [b] X.env)).any (·.1) = false) :
    PI X (.Tuple elts kk tpos) (.Call (.Name "zip" q) [a, b] [] pos) (rI G xn W fun r h => (fs r h).bind fun ds h => match ds with
      | [d, e] => match srcS d h, srcS e h with
        | some s, some t => .ok ⟨s.items.zipWith (fun x y => .tup [x, y]) t.items, s.grd ++ t.grd⟩ h
        | _, _ => .stuck
      | _ => .stuck) := by
  refine ⟨fun pins s σ H R I ⟨p, r, h, m, sg, k⟩ => ?_⟩
  dsimp only at k
  have t0 : rA G xn W fs σ H fun vs H1 => ∃ p1 h1 ds, RelM G p1 h1 H1 ∧ RelDs G H1 p1 ds vs ∧ PostI G xn p1 σ H1 W R (match ds with
      | [d, e] => match srcS d h1, srcS e h1 with
        | some s, some t => .ok ⟨s.items.zipWith (fun x y => .tup [x, y]) t.items, s.grd ++ t.grd⟩ h1
        | _, _ => .stuck
      | _ => .stuck) := by
    refine ⟨p, r, h, m, sg, ?_⟩
    cases e : fs r h with
    | ok ds h' =>
      rw [e] at k
      exact fun p2 v H2 q2 l2 m2 r2 => ⟨p2, h', ds, m2, r2, PostI.mono k q2 l2⟩
    | exc x h' => rw [e] at k; exact k
    | stuck => rw [e] at k; exact k
  refine Call_ (ld_blt I hg hm PyProof.Rows.boot_zip (PyProof.Rows.callWith_type1 (thn (ha.run pos pins s σ H _ I t0) fun us s1 ⟨vs, H1, I1, r1, q1⟩ => ?_) hs hpl))
  obtain ⟨p1, h1, ds, m1, rd1, k1⟩ := q1
  match ds, rd1, k1 with
  | [d, e], .cons da (.cons db .nil), k1 =>
    dsimp only at k1
    cases r1 with
    | cons ra rr => cases rr with
      | cons rb rr =>
        cases rr
        cases ea : srcS d h1 with
        | none => rw [ea] at k1; exact k1.elim
        | some sa =>
          cases eb : srcS e h1 with
          | none => rw [ea, eb] at k1; exact k1.elim
          | some sb =>
            rw [ea, eb] at k1
            obtain ⟨z1, ez1, ok1, f1⟩ := zk_of m1 da ra ea
            obtain ⟨z2, ez2, ok2, f2⟩ := zk_of m1 db rb eb
            subst ez1 ez2
            have J := it_zz f1 f2
            have kk1 := k1 p1 _ H1 (List.prefix_refl _) (Le.refl _) m1 J
            obtain ⟨xs, hx, _⟩ := f1 p1 h1 H1 m1 (List.prefix_refl _) (Le.refl _) ok1
            obtain ⟨ys, hy, _⟩ := f2 p1 h1 H1 m1 (List.prefix_refl _) (Le.refl _) ok2
            obtain ⟨u1, n1, _, _, c1⟩ := Zk.inv I1 (hK ▸ hx)
            obtain ⟨u2, n2, _, _, c2⟩ := Zk.inv I1 (hK ▸ hy)
            refine zip_begins2 (z1.begins u1) (z2.begins u2) n1 n2 fun h' hz hTI hTO h1 h2 hsz hk => wpAny_pyIter_zip hz ?_
            have I2 : Inv X pins σ H1 { s1 with heap := h' } := I1.kept (t' := s1.toks) hk
            refine ⟨s1.heap.objs.size + 4, [s1.heap.objs.size + 4, s1.heap.objs.size + 2, s1.heap.objs.size + 3, s1.heap.objs.size, s1.heap.objs.size + 1], _, _, H1, rfl, I2, turn_zz (zip_sep2 c1 c2), ⟨hz, hTI, ⟨_, _, hTO⟩, z1.it0 h1, z2.it0 h2⟩, fun c hcm => ?_, hK ▸ kk1⟩
            have e' : c = s1.heap.objs.size + 4 ∨ c = s1.heap.objs.size + 2 ∨ c = s1.heap.objs.size + 3 ∨ c = s1.heap.objs.size ∨ c = s1.heap.objs.size + 1 := by simpa using hcm
            have hle : s1.heap.objs.size ≤ c := by
              rcases e' with z | z | z | z | z
              · rw [z]; exact Nat.le_add_right _ _
              · rw [z]; exact Nat.le_add_right _ _
              · rw [z]; exact Nat.le_add_right _ _
              · rw [z]; exact Nat.le_refl _
              · rw [z]; exact Nat.le_add_right _ _
            exact I1.fpOk hle (I1.hok.fresh hle)
end RG

end

section
/-! RgSum: sum of a list of truths -/
namespace RG
open PySem PySem.Spec PyProof PyProof.Rows L2
def bI (b : Bool) : Int := if b then 1 else 0
theorem pre_bI (b : Nat → Bool) : ∀ j, 0 ≤ preSum (fun i => bI (b i)) j ∧ preSum (fun i => bI (b i)) j ≤ j
  | 0 => ⟨Int.le_refl _, Int.le_refl _⟩
  | j + 1 => by
    have := pre_bI b j
    have h2 : 0 ≤ bI (b j) ∧ bI (b j) ≤ 1 := by cases b j <;> decide
    simp only [preSum]
    omega
section
variable {prog : Program} {w : World} {A : Around} {R : Result → Shared → Prop} {I : Addr} {fp wr : List Addr} {n : Nat} {P : Nat → Value → Prop} {St : Nat → Heap → Prop}
theorem sumB_loop (W : Walks prog w A.in1 I fp wr n P St) (bs : Nat → Bool) (hval : ∀ i v, P i v → v = .bool (bs i)) (hn : n < 2 ^ 62) (S : Addr) (hSf : S ∉ fp) :
    ∀ (k i : Nat) (s : Shared) (tA : Tok) (c : Nat), n - i = k → i ≤ n → St i s.heap → s.heap.get? S = some { cls := .type "list", dict := none, data := .seq #[.int (preSum (fun i => bI (bs i)) i) tA] c, slots := #[] } →
    (∀ h' tk t', (∀ b o, b ∉ wr → b ≠ S → s.heap.get? b = some o → h'.get? b = some o) → R (.ok (.ret (.int (preSum (fun i => bI (bs i)) n) t'))) { s with heap := h', toks := tk }) →
    codeAny (model prog w) A (.builtin "sum.loop" ⟨[.ref I, .ref S, rawInt 0, rawInt 0], []⟩) R s := by
  have hSw : S ∉ wr := fun h => hSf (W.sub _ h)
  intro k
  induction k with
  | zero =>
    intro i s tA c hk hi hst hS hR
    have hin : i = n := by omega
    subst hin
    refine codeAny_builtin F.entry_sum_loop ?_
    rw [Around.under_plainId F.plain_sum_loop _]
    show wpAny _ A.in1 (seqItems? (.ref S) >>= _) _ _ s
    refine wpAny_bind (wpAny_seqItems hS rfl ?_)
    show wpAny _ A.in1 (tryCatch (pyNext (.ref I)) _ >>= _) _ _ s
    refine wpAny_bind (wpAny_tryCatch (W.done s _ _ hst fun h' tk hk' => ?_))
    exact wpAny_pure (hR h' tk tA fun b o hbw _ e => hk' b o hbw e)
  | succ k ih =>
    intro i s tA c hk hi hst hS hR
    have hlt : i < n := by omega
    refine codeAny_builtin F.entry_sum_loop ?_
    rw [Around.under_plainId F.plain_sum_loop _]
    show wpAny _ A.in1 (seqItems? (.ref S) >>= _) _ _ s
    refine wpAny_bind (wpAny_seqItems hS rfl ?_)
    show wpAny _ A.in1 (tryCatch (pyNext (.ref I)) _ >>= _) _ _ s
    refine wpAny_bind (wpAny_tryCatch (W.item i s _ _ hlt hst fun v h' tk hP hst' hk' => ?_))
    obtain rfl := hval i v hP
    have hS' := hk' S _ hSw hS
    have f1 := pre_bI bs i
    have f2 : 0 ≤ bI (bs i) ∧ bI (bs i) ≤ 1 := by cases bs i <;> decide
    have hc : ((decide (-(2 ^ 63) ≤ bI (bs i)) && decide (bI (bs i) < 2 ^ 63)) && (decide (-(2 ^ 63) ≤ preSum (fun i => bI (bs i)) i + bI (bs i)) && decide (preSum (fun i => bI (bs i)) i + bI (bs i) < 2 ^ 63))) = true := by
      simp only [Bool.and_eq_true, decide_eq_true_eq]
      omega
    show wpAny _ A.in1 (if ((decide (-(2 ^ 63) ≤ bI (bs i)) && decide (bI (bs i) < 2 ^ 63)) && (decide (-(2 ^ 63) ≤ preSum (fun i => bI (bs i)) i + bI (bs i)) && decide (preSum (fun i => bI (bs i)) i + bI (bs i) < 2 ^ 63))) = true then (mkInt (preSum (fun i => bI (bs i)) i + bI (bs i)) >>= _) else _) _ _ _
    rw [if_pos hc]
    refine wpAny_bind (wpAny_mkInt ?_)
    show wpAny _ A.in1 (updateSeq S (fun _ => #[.int (preSum (fun i => bI (bs i)) i + bI (bs i)) tk]) >>= _) _ _ _
    refine wpAny_bind ?_
    refine wpAny_updateSeq hS' rfl (wpAny_pure ⟨plainId_quiet F.plain_sum_loop _, ih (i + 1) _ tk _ (by omega) hlt (W.frame _ _ _ hst' fun b hb o e => ?_) (Heap.get?_update_self _ hS' rfl) fun h'' tk'' t'' hk'' => ?_⟩)
    · exact (Heap.get?_update_other _ _ (fun h : S = b => hSf (by rw [h]; exact hb))).trans e
    · exact hR h'' tk'' t'' fun b o hbw hbS e => hk'' b o hbw hbS ((Heap.get?_update_other _ _ (Ne.symm hbS)).trans (hk' b o hbw e))
end
section
variable {prog : Program} {w : World} {A : Around} {E : Value → Shared → Prop} {s : Shared}
theorem call_sumB {l : Addr} {bs : List Bool} {Q : Value → Shared → Prop} (hh : A.handled = none) (hl : s.heap.IsList l (bs.map Value.bool).toArray) (hn : bs.length < 2 ^ 62)
    (h : ∀ h' tk t', (∀ b o, s.heap.get? b = some o → h'.get? b = some o) → Q (.int (preSum (fun i => bI (bs.getD i false)) bs.length) t') { s with heap := h', toks := tk }) :
    wpAny (model prog w) A (call (.builtin "sum") [.ref l]) Q E s := by
  refine call_function_tree F.kind_sum F.plain_sum F.entry_sum (F.args_sum1 _) ?_
  unfold Builtin.«sum»
  simp only [List.length_cons, List.length_nil]
  rw [if_neg (by decide)]
  refine wpAny_bind (wpAny_of_eq (show Builtin.Builtins.bindParams "sum" ["start"] 0 { } = pure [none] from rfl) ?_)
  refine wpAny_bind (wpAny_pyIter_list hl ?_)
  have ll : l < s.heap.objs.size := by obtain ⟨o, ho, _⟩ := hl; exact Heap.lt_size ho
  have hli : l ≠ s.heap.objs.size := Nat.ne_of_lt ll
  have W := Walks.list (prog := prog) (w := w) (A := A.in1) hh s.heap.objs.size l hli (bs.map Value.bool).toArray
  have hsz : (bs.map Value.bool).toArray.size = bs.length := by simp
  rw [hsz] at W
  have hst : (s.heap.push { cls := .type "list_iterator", data := .fields #[.ref l, .int 0 0] }).IsListIter s.heap.objs.size l 0 ∧ (s.heap.push { cls := .type "list_iterator", data := .fields #[.ref l, .int 0 0] }).IsList l (bs.map Value.bool).toArray :=
    ⟨⟨_, Heap.get?_push_size _ rfl, rfl, rfl⟩, hl.at fun o e => Heap.get?_push_of_some _ e⟩
  refine wpAny_bind (wpAny_mkInt ?_)
  refine wpAny_bind (wpAny_pure ?_)
  simp only [List.forIn_cons, List.forIn_nil]
  refine wpAny_bind (wpAny_bind (wpAny_bind (wpAny_isInstance (T := "int") (b := false) (typeIs_int _ _ _) PySem.sub_int_str ?_)))
  simp only [Bool.false_eq_true, if_false]
  refine wpAny_pure (wpAny_bind (wpAny_bind (wpAny_isInstance (T := "int") (b := false) (typeIs_int _ _ _) PySem.sub_int_bytes ?_)))
  simp only [Bool.false_eq_true, if_false]
  refine wpAny_pure (wpAny_bind (wpAny_bind (wpAny_isInstance (T := "int") (b := false) (typeIs_int _ _ _) PySem.sub_int_bytearray ?_)))
  simp only [Bool.false_eq_true, if_false]
  refine wpAny_pure (wpAny_pure ?_)
  refine wpAny_bind (wpAny_newObj_type ?_)
  have hz : (s.heap.push { cls := .type "list_iterator", data := .fields #[.ref l, .int 0 0] }).objs.size = s.heap.objs.size + 1 := Heap.size_push ..
  have hSf : (s.heap.push { cls := .type "list_iterator", data := .fields #[.ref l, .int 0 0] }).objs.size ∉ [s.heap.objs.size, l] := fun hm => by
    rw [hz] at hm
    have hm : s.heap.objs.size + 1 = s.heap.objs.size ∨ s.heap.objs.size + 1 = l := by simpa using hm
    have ll : (l : Nat) < s.heap.objs.size := ll
    rcases hm with q | q
    · exact absurd q (Nat.succ_ne_self _)
    · rw [← q] at ll; exact absurd ll (Nat.not_lt.mpr (Nat.le_succ _))
  refine wpAny_pure ⟨plainId_quiet F.plain_sum_loop _, sumB_loop W (fun i => bs.getD i false) (fun i v e => ?_) hn _ hSf bs.length 0 _ s.toks 0 rfl (Nat.zero_le _)
    (W.frame _ _ _ hst fun b _ o e => Heap.get?_push_of_some _ e) (Heap.get?_push_size _ rfl) fun h' tk t' hk => ?_⟩
  · have e : (bs.map Value.bool)[i]? = some v := by simpa using e
    rw [List.getElem?_map] at e
    cases q : bs[i]? with
    | none => rw [q] at e; cases e
    | some b =>
      rw [q] at e
      cases e
      simp [List.getD_eq_getElem?_getD, q]
  · refine h h' tk t' fun b o e => hk b o (fun q => ?_) (fun q => ?_) (Heap.get?_push_of_some _ (Heap.get?_push_of_some _ e))
    · have := Heap.lt_size e
      rw [List.mem_singleton.mp q] at this
      exact Nat.lt_irrefl _ this
    · have := Heap.lt_size e
      rw [q, hz] at this
      exact Nat.lt_irrefl _ (Nat.lt_of_succ_lt this)
end
theorem pre_list : ∀ (bs : List Bool) (n : Nat), preSum (fun i => bI (bs.getD i false)) n = ((bs.take n).map bI).sum
  | bs, 0 => by simp [preSum]
  | bs, n + 1 => by
    rw [preSum, pre_list bs n]
    cases q : bs[n]? with
    | none =>
      have hl : bs.length ≤ n := by simpa using q
      rw [List.take_of_length_le hl, List.take_of_length_le (Nat.le_succ_of_le hl)]
      simp [List.getD_eq_getElem?_getD, q, bI]
    | some b =>
      rw [List.take_add_one, q]
      simp [List.getD_eq_getElem?_getD, q]
def rSumB (K : PySem.W.Frag) : List V → Hp → VK → Prop := fun vs H Q => ∃ (a : Addr) (bs : List Bool), vs = [V.ref a] ∧ SqL K H a (bs.map V.bl) ∧ Q (.int (bs.map bI).sum) H
theorem vals_bools : ∀ {bs : List Bool} {us : List Value}, Vals (bs.map V.bl) us → us = bs.map Value.bool
  | [], _, .nil => rfl
  | b :: bs, _, .cons r t => by cases r; rw [vals_bools t]; rfl
theorem cr_sumB {X : Cx} (hc : X.calm = true) : CallR X (.builtin "sum") (rSumB X.K) := by
  intro pins s σ H vs us Q I r h
  obtain ⟨a, bs, rfl, hs, q⟩ := h
  obtain ⟨its, rv, hl, hz⟩ := I.list hs
  rw [L2.Vals.ref1 r]
  obtain rfl := vals_bools rv
  refine call_sumB (I.ok.hd hc) hl.isList (by have hz := hz; simp [sizeLine_eq] at hz; omega) fun h' tk t' hk => ⟨.int _, H, I.kept hk, ⟨_, rfl⟩, ?_⟩
  rw [pre_list, List.take_of_length_le (Nat.le_refl _)]
  exact q
end RG

end

section
/-! RgSnd11: more expressions: slices, None, methods of lists, constants, dicts of the module, displays. -/
namespace RG
open PySem L2 PyProof.Rows

section
variable {X : Cx} {G : Gx}
theorem bI_map (bs : List Bool) : (bs.map fun b => if b then (1 : Int) else 0) = bs.map bI := rfl
theorem c_sum (hK : X.K = G.K) (hc : X.calm = true) : CalN X G (.builtin "sum") fun ds h => evP .sum ds h := by
  refine ⟨fun vs H Q => rSum X.K vs H Q ∨ rSumB X.K vs H Q, ?_, ?_⟩
  · intro pins s σ H vs us Q I r h
    rcases h with h | h
    · exact cr_sum hc pins s σ H vs us Q I r h
    · exact cr_sumB hc pins s σ H vs us Q I r h
  intro p h H xs ds Q m r k
  cases r with
  | nil => exact False.elim k
  | cons r1 rs => cases rs with
    | cons r2 rs => cases r1 <;> exact False.elim k
    | nil => cases r1 with
      | ref e1 =>
        rename_i n a
        have k : PostV G p H Q (match rd h n with | some l => (match intsOf l with | some ns => .ok (.int ns.sum) h | none => (match blsOf l with | some bs => .ok (.int (bs.map fun b => if b then 1 else 0).sum) h | none => .stuck)) | none => .stuck) := k
        split at k
        · rename_i l c
          obtain ⟨vs, s1, l1⟩ := m.rd e1 c
          split at k
          · rename_i ns ci
            obtain rfl := l1.intsL ci
            exact .inl ⟨_, ns, rfl, hK ▸ s1, k.get m (.int _)⟩
          · split at k
            · rename_i bs cb
              obtain rfl := l1.blsL cb
              exact .inr ⟨_, bs, rfl, hK ▸ s1, k.get m (.int _)⟩
            · exact k.elim
        · exact k.elim
      | _ => exact False.elim k
end

section
variable {X : Cx} {G : Gx} {xn : Nat → Str} {W : WX} {a b c o : Expr} {es : List Expr} {pos p2 apos : Pos} {fa fb fc fo : Env → Mem → Out D} {fs : Env → Mem → Out (List D)}
theorem slcX (x : D) (i j : Option Int) (h : Mem) : NoX (slc x i j h) := by
  intro y h' e
  unfold slc new at e
  repeat' split at e
  all_goals cases e
theorem s_slLo (hr : ∃ r, SlR X r ∧ PrS G r) (ha : PE X a (rE G xn W fa)) (hb : PE X b (rE G xn W fb)) :
    PE X (.Subscript a (.Slice (some b) none none p2) pos) (rE G xn W fun r h => (fa r h).bind fun x h => (fb r h).bind fun y h => evP .slLo [x, y] h) := by
  obtain ⟨rr, hr, hp⟩ := hr
  exact PE.imp (pe_slice hr ha (po_some hb) po_none) fun σ H Q ⟨p, r, h, m, s, k⟩ => ⟨p, r, h, m, s, PostE.bind (o := fa r h) k fun d h1 p1 v H1 q1 l1 m1 r1 k1 =>
    ⟨p1, r, h1, m1, s.mono l1 q1, PostE.bind (o := fb r h1) k1 fun e h2 p2 u H2 q2 l2 m2 r2 k2 => by
      cases r2 with
      | int i => exact ⟨i, rfl, hp p2 h2 H2 v d _ _ Q m2 (r1.mono l2 q2) ((show PostE G xn p2 σ H2 W Q (slc d (some i) none h2) from k2).v (slcX _ _ _ _))⟩
      | _ => exact k2.elim⟩⟩
theorem s_slHi (hr : ∃ r, SlR X r ∧ PrS G r) (ha : PE X a (rE G xn W fa)) (hb : PE X b (rE G xn W fb)) :
    PE X (.Subscript a (.Slice none (some b) none p2) pos) (rE G xn W fun r h => (fa r h).bind fun x h => (fb r h).bind fun y h => evP .slHi [x, y] h) := by
  obtain ⟨rr, hr, hp⟩ := hr
  exact PE.imp (pe_slice hr ha po_none (po_some hb)) fun σ H Q ⟨p, r, h, m, s, k⟩ => ⟨p, r, h, m, s, PostE.bind (o := fa r h) k fun d h1 p1 v H1 q1 l1 m1 r1 k1 =>
    ⟨p1, r, h1, m1, s.mono l1 q1, PostE.bind (o := fb r h1) k1 fun e h2 p2 u H2 q2 l2 m2 r2 k2 => by
      cases r2 with
      | int i => exact ⟨i, rfl, hp p2 h2 H2 v d _ _ Q m2 (r1.mono l2 q2) ((show PostE G xn p2 σ H2 W Q (slc d none (some i) h2) from k2).v (slcX _ _ _ _))⟩
      | _ => exact k2.elim⟩⟩
theorem s_sl3 (hr : ∃ r, SlR X r ∧ PrS G r) (ha : PE X a (rE G xn W fa)) (hb : PE X b (rE G xn W fb)) (hc : PE X c (rE G xn W fc)) :
    PE X (.Subscript a (.Slice (some b) (some c) none p2) pos) (rE G xn W fun r h => (fa r h).bind fun dx h => (fb r h).bind fun dy h => match dy with
    | .int i => (fc r h).bind fun dz h => match dz with
      | .int j => slc dx (some i) (some j) h
      | _ => .stuck
    | _ => .stuck) := by
  obtain ⟨rr, hr, hp⟩ := hr
  exact PE.imp (pe_slice hr ha (po_some hb) (po_some hc)) fun σ H Q ⟨p, r, h, m, s, k⟩ => ⟨p, r, h, m, s, PostE.bind (o := fa r h) k fun d h1 p1 v H1 q1 l1 m1 r1 k1 =>
    ⟨p1, r, h1, m1, s.mono l1 q1, PostE.bind (o := fb r h1) k1 fun e h2 p2 u H2 q2 l2 m2 r2 k2 => by
      cases r2 with
      | int i =>
        refine ⟨i, rfl, p2, r, h2, m2, (s.mono l1 q1).mono l2 q2, PostE.bind (o := fc r h2) k2 fun e' h3 p3 u' H3 q3 l3 m3 r3 k3 => ?_⟩
        cases r3 with
        | int j => exact ⟨j, rfl, hp p3 h3 H3 v d _ _ Q m3 ((r1.mono l2 q2).mono l3 q3) ((show PostE G xn p3 σ H3 W Q (slc d (some i) (some j) h3) from k3).v (slcX _ _ _ _))⟩
        | _ => exact k3.elim
      | _ => exact k2.elim⟩⟩
theorem s_isN {j : Nat} {pos' : Pos} (ha : PE X a (rE G xn W fa)) : PE X (.Compare a [.Is] [.Constant .none j pos'] pos) (rE G xn W fun r h => (fa r h).bind fun x h => evP .isN [x] h) :=
  PE.imp (pe_cmp (pc_isN ha)) fun σ H Q ⟨p, r, h, m, s, k⟩ => ⟨p, r, h, m, s, PostE.bind (o := fa r h) k fun d h1 p1 v H1 q1 l1 m1 r1 k1 => by
    cases r1 <;> exact k1 p1 _ H1 (List.prefix_refl _) (Le.refl _) m1 (.bl _)⟩
theorem s_notN {j : Nat} {pos' : Pos} (ha : PE X a (rE G xn W fa)) : PE X (.Compare a [.IsNot] [.Constant .none j pos'] pos) (rE G xn W fun r h => (fa r h).bind fun x h => evP .notN [x] h) :=
  PE.imp (pe_cmp (pc_notN ha)) fun σ H Q ⟨p, r, h, m, s, k⟩ => ⟨p, r, h, m, s, PostE.bind (o := fa r h) k fun d h1 p1 v H1 q1 l1 m1 r1 k1 => by
    cases r1 <;> exact k1 p1 _ H1 (List.prefix_refl _) (Le.refl _) m1 (.bl _)⟩
/-- a method of a list -/
theorem s_lm0 {name : Str} {id : String} {f : D → List D → Mem → Out D} {cpos : Pos} (hK : X.K = G.K) (slot : Slot "list" name id) (hty : typeOf (.builtin id) = pure (.type "method_descriptor")) (hm : MtN X G id f) (nx : ∀ d ds h, NoX (f d ds h)) (ho : PE X o (rE G xn W fo))
    (hbase : attributeBase o name X.env (eval o X.env) = eval o X.env) (hline : (apos.endLine == cpos.line) = true) :
    PE X (.Call (.Attribute o name apos) [] [] cpos) (rE G xn W fun r h => (fo r h).bind fun d h => match d with
    | .ref n => match rd h n with
      | some _ => f d [] h
      | none => .stuck
    | _ => .stuck) := by
  obtain ⟨rr, hm, hp⟩ := hm
  refine PE.imp (pe_bm0 PySem.F.plainAttrs_list slot hty hm ho hbase hline) fun σ H Q ⟨p, r, h, m, s, k⟩ => ⟨p, r, h, m, s, PostE.bind (o := fo r h) k fun d h1 p1 v H1 q1 l1 m1 r1 k1 => ?_⟩
  cases r1 with
  | @ref n a e1 =>
    dsimp only at k1
    split at k1
    · rename_i l c
      obtain ⟨vs, s1, _⟩ := m1.rd e1 c
      exact ⟨.inl ⟨rfl, _, hK ▸ s1⟩, hp p1 h1 H1 _ _ _ _ Q m1 (.ref e1) .nil (k1.v (nx _ _ _))⟩
    · exact k1.elim
  | _ => exact k1.elim
theorem s_lm {name : Str} {id : String} {f : D → List D → Mem → Out D} {cpos : Pos} (hK : X.K = G.K) (slot : Slot "list" name id) (hty : typeOf (.builtin id) = pure (.type "method_descriptor")) (hm : MtN X G id f) (nx : ∀ d ds h, NoX (f d ds h)) (ho : PE X o (rE G xn W fo)) (ha : PA X (a :: es) (rA G xn W fs))
    (hbase : attributeBase o name X.env (eval o X.env) = eval o X.env)
    (hfew : ((backTo cpos (starEach (a :: es) X.env)).all (fun x => !x.1) && (backToKw cpos (keywordEach [] X.env)).all (fun x => x.1.isSome)
      && decide ((a :: es).length + ([] : List Keyword).length + (if ([] : List Keyword).isEmpty then 0 else 1) < 30)) = true)
    (hline : (apos.endLine == cpos.line) = true) (hs : starEach (a :: es) X.env = (false, eval a X.env) :: starEach es X.env) (hplain : (backTo cpos (starEach es X.env)).any (·.1) = false) :
    PE X (.Call (.Attribute o name apos) (a :: es) [] cpos) (rE G xn W fun r h => (fo r h).bind fun d h => match d with
    | .ref n => match rd h n with
      | some _ => (fs r h).bind fun ds h => f d ds h
      | none => .stuck
    | _ => .stuck) := by
  obtain ⟨rr, hm, hp⟩ := hm
  refine PE.imp (pe_bm PySem.F.plainAttrs_list slot hty hm ho ha hbase hfew hline hs hplain) fun σ H Q ⟨p, r, h, m, s, k⟩ => ⟨p, r, h, m, s, PostE.bind (o := fo r h) k fun d h1 p1 v H1 q1 l1 m1 r1 k1 => ?_⟩
  cases r1 with
  | @ref n a e1 =>
    dsimp only at k1
    split at k1
    · rename_i l c
      obtain ⟨vs, s1, _⟩ := m1.rd e1 c
      exact ⟨.inl ⟨rfl, _, hK ▸ s1⟩, p1, r, h1, m1, s.mono l1 q1, PostA.bind (o := fs r h1) k1 fun ds h2 p2 us H2 q2 l2 m2 r2 k2 => hp p2 h2 H2 _ _ _ _ Q m2 (.ref (pre_get q2 e1)) r2 (k2.v (nx _ _ _))⟩
    · exact k1.elim
  | _ => exact k1.elim
/-- a constant of the module -/
theorem s_glob {x : Str} {v : V} {u : Value} {d : D} (hg : Gl X x) (hm : X.mg x = some u) (r : RelV v u) (hr : ∀ H p, RelD G H p d v) (hd : (x == ("__debug__" : Str)) = false) : PE X (.Name x pos) (rE G xn W fun _ h => .ok d h) := s_cst (pe_glob hg hm r hd) hr
/-- a dict of the module: its texts -/
structure KdOk (G : Gx) (g : Nat) (kvs : List (D × D)) : Prop where
  low : (G.kA g == sysModules) = false
  ex : ∃ es n, G.K.lookup (G.kA g) = some ⟨.type "dict", none, .dict es n, #[]⟩ ∧ PySem.W.KeysLit G.w.params es.toList ∧
    ∀ s : List Nat, (∃ d v u, kget (.str s) kvs = some d ∧ PySem.W.nsIn G.K (G.kA g) ⟨s.toArray⟩ = some (some u) ∧ RelV v u ∧ ∀ H p, RelD G H p d v) ∨ (kget (.str s) kvs = none ∧ PySem.W.nsIn G.K (G.kA g) ⟨s.toArray⟩ = some none)
theorem s_kix {g : Nat} {kvs : List (D × D)} {x : Str} {q : Pos} (xg : XG X G) (D : KdOk G g kvs) (hg : Gl X x) (hm : X.mg x = some (.ref (G.kA g))) (hd : (x == ("__debug__" : Str)) = false) (hb : PE X b (rE G xn W fb)) (hs : PlainIx b) :
    PE X (.Subscript (.Name x q) b pos) (rE G xn W fun r h => (fb r h).bind fun d h => match d with
    | .str s => match kget (.str s) kvs with
      | some v => .ok v h
      | none => .stuck
    | _ => .stuck) := by
  obtain ⟨lo, es, n, hl, hk, hv⟩ := D
  refine PE.imp (pe_ix ix_kdict (pe_glob hg hm (v := .ref (G.kA g)) rfl hd) hb hs) fun σ H Q ⟨p, r, h, m, s, k⟩ => ⟨p, r, h, m, s, PostE.bind (o := fb r h) k fun d h1 p1 v H1 q1 l1 m1 r1 k1 => ?_⟩
  cases r1 with
  | str z =>
    dsimp only at k1
    rcases hv z with ⟨d, v, u, e1, e2, e3, e4⟩ | ⟨e1, _⟩
    · rw [e1] at k1
      exact ⟨_, _, v, rfl, rfl, ⟨es, n, u, xg.K ▸ hl, xg.w ▸ hk, xg.K ▸ e2, e3⟩, k1 p1 v H1 (List.prefix_refl _) (Le.refl _) m1 (e4 H1 p1)⟩
    · rw [e1] at k1; exact k1.elim
  | _ => exact k1.elim
theorem s_kin {g : Nat} {kvs : List (D × D)} {x : Str} {q : Pos} (xg : XG X G) (D : KdOk G g kvs) (hg : Gl X x) (hm : X.mg x = some (.ref (G.kA g))) (hd : (x == ("__debug__" : Str)) = false) (ha : PE X a (rE G xn W fa)) (hb : behindInMarks .In (.Name x q) = false) :
    PE X (.Compare a [.In] [.Name x q] pos) (rE G xn W fun r h => (fa r h).bind fun d h => match d with
    | .str s => .ok (.bl (kget (.str s) kvs).isSome) h
    | _ => .stuck) := by
  obtain ⟨lo, es, n, hl, hk, hv⟩ := D
  have kd : KDict X.K X.w (G.kA g) es n := ⟨xg.K ▸ hl, xg.w ▸ hk, lo⟩
  refine PE.imp (pe_cmpR (op_in_kd kd) ha (pe_glob hg hm (v := .ref (G.kA g)) rfl hd) hb) fun σ H Q ⟨p, r, h, m, s, k⟩ => ⟨p, r, h, m, s, PostE.bind (o := fa r h) k fun d h1 p1 v H1 q1 l1 m1 r1 k1 => ?_⟩
  cases r1 with
  | str z =>
    dsimp only at k1
    rcases hv z with ⟨d, v, u, e1, e2, e3, e4⟩ | ⟨e1, e2⟩
    · rw [e1] at k1
      exact ⟨_, _, rfl, rfl, xg.K ▸ e2, k1 p1 _ H1 (List.prefix_refl _) (Le.refl _) m1 (.bl _)⟩
    · rw [e1] at k1
      exact ⟨_, _, rfl, rfl, xg.K ▸ e2, k1 p1 _ H1 (List.prefix_refl _) (Le.refl _) m1 (.bl _)⟩
  | _ => exact k1.elim
theorem s_knin {g : Nat} {kvs : List (D × D)} {x : Str} {q : Pos} (xg : XG X G) (D : KdOk G g kvs) (hg : Gl X x) (hm : X.mg x = some (.ref (G.kA g))) (hd : (x == ("__debug__" : Str)) = false) (ha : PE X a (rE G xn W fa)) (hb : behindInMarks .NotIn (.Name x q) = false) :
    PE X (.Compare a [.NotIn] [.Name x q] pos) (rE G xn W fun r h => (fa r h).bind fun d h => match d with
    | .str s => .ok (.bl (!(kget (.str s) kvs).isSome)) h
    | _ => .stuck) := by
  obtain ⟨lo, es, n, hl, hk, hv⟩ := D
  have kd : KDict X.K X.w (G.kA g) es n := ⟨xg.K ▸ hl, xg.w ▸ hk, lo⟩
  refine PE.imp (pe_cmpR (op_notIn_kd kd) ha (pe_glob hg hm (v := .ref (G.kA g)) rfl hd) hb) fun σ H Q ⟨p, r, h, m, s, k⟩ => ⟨p, r, h, m, s, PostE.bind (o := fa r h) k fun d h1 p1 v H1 q1 l1 m1 r1 k1 => ?_⟩
  cases r1 with
  | str z =>
    dsimp only at k1
    rcases hv z with ⟨d, v, u, e1, e2, e3, e4⟩ | ⟨e1, e2⟩
    · rw [e1] at k1
      exact ⟨_, _, rfl, rfl, xg.K ▸ e2, k1 p1 _ H1 (List.prefix_refl _) (Le.refl _) m1 (.bl _)⟩
    · rw [e1] at k1
      exact ⟨_, _, rfl, rfl, xg.K ▸ e2, k1 p1 _ H1 (List.prefix_refl _) (Le.refl _) m1 (.bl _)⟩
  | _ => exact k1.elim
end
end RG

end

section
/-! RgDisp: displays of dicts with constant keys; len of an instance -/
namespace RG
open PySem L2 PyProof.Rows

theorem nd_put {kvs : List (Key × V)} {k : Key} {v : V} (hn : (kvs.map (·.1)).Nodup) : ((putK kvs k v).map (·.1)).Nodup := by
  unfold putK
  split
  · have e : (kvs.map fun kv => if kv.1 = k then (kv.1, v) else kv).map (·.1) = kvs.map (·.1) := by
      rw [List.map_map]
      apply List.map_congr_left
      intro kv _
      show (if kv.1 = k then (kv.1, v) else kv).1 = kv.1
      split <;> rfl
    rw [e]; exact hn
  · rename_i h
    rw [List.map_append, List.nodup_append]
    refine ⟨hn, by simp, fun a ha b hb => ?_⟩
    simp only [List.map_cons, List.map_nil, List.mem_singleton] at hb
    subst hb
    intro e
    subst e
    obtain ⟨kv, h1, h2⟩ := List.mem_map.mp ha
    exact h (List.any_eq_true.mpr ⟨kv, h1, by simpa using h2⟩)
inductive KeysR : List D → List Key → Prop
  | nil : KeysR [] []
  | cons {d : D} {k : Key} {ds : List D} {ks : List Key} : keyR d k → KeysR ds ks → KeysR (d :: ds) (k :: ks)
theorem KeysR.length : ∀ {ds : List D} {ks : List Key}, KeysR ds ks → ds.length = ks.length
  | _, _, .nil => rfl
  | _, _, .cons _ t => congrArg (· + 1) t.length
theorem dmk_rel {G : Gx} {H : Hp} {p : List Addr} : ∀ {ks : List D} {kks : List Key} {ds : List D} {vs : List V} {kvs : List (D × D)} {ws : List (Key × V)}, KeysR ks kks → RelDs G H p ds vs → RelK G H p kvs ws → (ws.map (·.1)).Nodup → RelK G H p (dmk ks ds kvs) (mergeK ws (kks.zip vs))
  | _, _, _, _, kvs, ws, .nil, _, r, _ => by unfold dmk; exact r
  | _, _, _, _, kvs, ws, .cons _ _, .nil, r, _ => by unfold dmk; exact r
  | _, _, _, _, kvs, ws, .cons (k := kk) (ks := kks) h t, .cons (v := v) (vs := vs) r1 rs, r, nd => by
    unfold dmk
    have := dmk_rel (kks := kks) (vs := vs) t rs (kput_rel h r1 nd r) (nd_put nd)
    exact this

section
variable {X : Cx} {G : Gx} {xn : Nat → Str} {W : WX} {a : Expr} {pos : Pos} {fa : Env → Mem → Out D} {f : Env → Mem → Out (List D)}
def PDi (X : Cx) (G : Gx) (xn : Nat → Str) (W : WX) (pos : Pos) (keys : List (Option Expr)) (values : List Expr) (ks : List D) (f : Env → Mem → Out (List D)) : Prop :=
  ∃ kks trs, KeysR ks kks ∧ PPs X pos keys values trs ∧ keys.all (·.isSome) = true ∧ keys.length = values.length ∧ keys.length = ks.length ∧
    ∀ σ H Q, rA G xn W f σ H (fun vs H' => vs.length = kks.length → Q ((kks.zip vs).map fun kv => (kV kv.1, kv.2)) H') → tPairs trs σ H Q
theorem d_nil : PDi X G xn W pos [] [] [] (fun _ h => .ok [] h) :=
  ⟨[], [], .nil, pps_nil, rfl, rfl, rfl, fun σ H Q ⟨p, r, h, m, s, k⟩ => k p [] H (List.prefix_refl _) (Le.refl _) m .nil rfl⟩
theorem d_cons {k : Expr} {kd : D} {kk : Key} {keys : List (Option Expr)} {values : List Expr} {ks : List D} (hk : PE X k (tC (kV kk))) (hkd : keyR kd kk) (ha : PE X a (rE G xn W fa)) (hr : PDi X G xn W pos keys values ks f) :
    PDi X G xn W pos (some k :: keys) (a :: values) (kd :: ks) (fun r h => (fa r h).bind fun d h => (f r h).bind fun ds h => .ok (d :: ds) h) := by
  obtain ⟨kks, trs, h1, h2, h3, h4, h5, h6⟩ := hr
  refine ⟨kk :: kks, _, .cons hkd h1, pps_cons hk ha h2, by rw [List.all_cons, h3]; rfl, congrArg (· + 1) h4, congrArg (· + 1) h5, fun σ H Q ⟨p, r, h, m, s, k⟩ => ?_⟩
  refine ⟨p, r, h, m, s, PostE.bindA (o := fa r h) k fun d h1 p1 v H1 q1 l1 m1 r1 k1 => ?_⟩
  refine h6 σ H1 _ ⟨p1, r, h1, m1, s.mono l1 q1, PostA.bindA (o := f r h1) k1 fun ds h2 p2 vs H2 q2 l2 m2 r2 k2 => fun el => ?_⟩
  exact k2 p2 (v :: vs) H2 (List.prefix_refl _) (Le.refl _) m2 (.cons (r1.mono l2 q2) r2) (congrArg (· + 1) el)
theorem s_dct {keys : List (Option Expr)} {values : List Expr} {ks : List D} (hd : PDi X G xn W pos keys values ks f) (h0 : keys ≠ []) (h15 : keys.length ≤ 15) (hlen : ∀ r h ds h', f r h = .ok ds h' → ds.length = ks.length) :
    PE X (.Dict keys values pos) (rE G xn W fun r h => (f r (h ++ [.dct []])).bind fun ds h' => match h'[h.length]? with
    | some (.dct []) => if ks.length ≤ 15 then .ok (.ref h.length) (h'.set h.length (.dct (dmk ks ds []))) else .stuck
    | _ => .stuck) := by
  obtain ⟨kks, trs, h1, h2, h3, h4, h5, h6⟩ := hd
  refine PE.imp (pe_disp h2 h3 h4 h0 h15) fun σ H Q ⟨p, r, h, m, s, k⟩ => ?_
  intro b nb
  have m1 : RelM G (p ++ [b]) (h ++ [.dct []]) (upd H b (.dK [])) := m.new nb (m.fresh nb) ⟨[], upd_same, .nil⟩
  have pb : (p ++ [b])[h.length]? = some b := by rw [← m.len]; simp
  have le := Le.new (G := G) (o := .dK []) nb
  refine h6 σ _ _ ⟨p ++ [b], r, h ++ [.dct []], m1, s.mono le (List.prefix_append _ _), ?_⟩
  have k := PostE.mono k (List.prefix_append p [b]) le
  refine PostA.bind (o := f r (h ++ [.dct []])) k fun ds h' p2 vs H2 q2 l2 m2 r2 k2 => fun el => ?_
  split at k2
  · rename_i c
    split at k2
    · rename_i c15
      obtain ⟨a', e', ws, hw, rw0⟩ := m2.at_ _ _ c
      rw [pre_get q2 pb] at e'
      cases e'
      cases rw0
      refine ⟨hw, kks.zip vs, rfl, ?_, ?_⟩
      · rw [List.length_zip, ← h1.length, ← h5]; exact Nat.le_trans (Nat.min_le_left _ _) h15
      · have le2 : Le G H2 (upd H2 b (.dK (mergeK [] (kks.zip vs)))) := Le.mut hw (fun _ z => by cases z) (fun _ _ z => by cases z)
        exact k2 p2 _ _ (List.prefix_refl _) le2 (m2.set (pre_get q2 pb) hw (fun _ z => by cases z) (fun _ _ z => by cases z) ⟨_, upd_same, dmk_rel h1 (r2.mono le2 (List.prefix_refl _)) .nil List.nodup_nil⟩) (.ref (pre_get q2 pb))
    · exact k2.elim
  · exact k2.elim
end

/-! ### len -/
section
variable {X : Cx} {G : Gx} {F : Fo} {xn : Nat → Str} {W : WX} {n f : Nat} {o : Expr} {q pos : Pos} {fo : Env → Mem → Out D}
theorem lenX (d : D) (h : Mem) : NoX (evP .len [d] h) := by
  intro x h' e
  cases d with
  | str s =>
    have q : evP .len [.str s] h = (if s.length ≤ sizeLine then .ok (.int s.length) h else .stuck) := rfl
    rw [q] at e
    split at e <;> cases e
  | ref n =>
    have q : evP .len [.ref n] h = (match rd h n with
      | some l => .ok (.int l.length) h
      | none => .stuck) := rfl
    rw [q] at e
    split at e <;> cases e
  | _ => cases e
theorem s_len {mN : Nat → Str} (xg : XG X G) (C : CallOk G F xn n) (M : MethOk G F mN) (tk : Takes X W) (hr : Room (n + 2) X.A) (hg : Gl X "len") (hm : X.mg "len" = none) (h0 : mN 0 = "__len__") (har : ∀ k f, G.t.meth k 0 = some f → 1 = (F.ps f).length)
    (ho : PE X o (rE G xn W fo)) (hs : starEach [o] X.env = (false, eval o X.env) :: starEach [] X.env) :
    PE X (.Call (.Name "len" q) [o] [] pos) (rE G xn W fun r h => (fo r h).bind fun d h => match d with
    | .ref i => match h[i]? with
      | some (.ins k _) => match G.t.meth k 0 with
        | some f => (run G.t n f [d] h).bind fun v h => match v with
          | .int i => if 0 ≤ i ∧ i < 2 ^ 63 then .ok (.int i) h else .stuck
          | _ => .stuck
        | none => .stuck
      | _ => evP .len [d] h
    | _ => evP .len [d] h) := by
  refine ⟨fun pins s σ H Q I ⟨p, r, h, m, sg, k⟩ => ?_⟩
  dsimp only at k
  have hK := xg.K
  have ha : PA X [o] (rA G xn W _) := s_cons ho s_nil hs
  refine wpAny_Call_Name_kw (ld_blt I hg hm boot_len ?_)
  refine PyProof.Rows.callWith_builtin1 (thn (ha.run pos pins s σ H (fun vs H' => ∃ v p' h' d, vs = [v] ∧ RelM G p' h' H' ∧ RelD G H' p' d v ∧ PostE G xn p' σ H' W Q (match d with
    | .ref i => match h'[i]? with
      | some (.ins k _) => match G.t.meth k 0 with
        | some f => (run G.t n f [d] h').bind fun v h => match v with
          | .int i => if 0 ≤ i ∧ i < 2 ^ 63 then .ok (.int i) h else .stuck
          | _ => .stuck
        | none => .stuck
      | _ => evP .len [d] h'
    | _ => evP .len [d] h')) I ⟨p, r, h, m, sg, ?_⟩) fun us s1 hh => ?_) hs rfl
  · cases e : fo r h with
    | ok d h' =>
      rw [e] at k
      show PostA G xn p σ H W _ ((fo r h).bind fun d h => (Out.ok [] h).bind fun ds h => .ok (d :: ds) h)
      rw [e]
      intro p1 vs H1 q1 l1 m1 r1
      cases r1 with
      | cons ra rr =>
        cases rr
        exact ⟨_, p1, h', d, rfl, m1, ra, PostE.mono k q1 l1⟩
    | exc x h' =>
      rw [e] at k
      show PostA G xn p σ H W _ ((fo r h).bind fun d h => (Out.ok [] h).bind fun ds h => .ok (d :: ds) h)
      rw [e]
      exact k
    | stuck => rw [e] at k; exact k.elim
  · obtain ⟨vs, H1, I1, rv, v, p1, h1, d, rfl, m1, rd, k1⟩ := hh
    cases rv with
    | @cons _ u _ _ ru rr =>
      cases rr
      have plain : PostE G xn p1 σ H1 W Q (evP .len [d] h1) → wpAny (model X.prog X.w) X.A (call (.builtin "len") [u]) (EP X pins σ Q) X.xe s1 := fun k => by
        obtain ⟨rr, hc, hp⟩ := c_len (X := X) (G := G) hK
        exact hc pins s1 σ H1 [v] [u] Q I1 (.cons ru .nil) (hp p1 h1 H1 [v] [d] Q m1 (.cons rd .nil) (k.v (lenX d h1)))
      cases rd with
      | @ref i b e1 =>
        dsimp only at k1
        split at k1
        · rename_i kk fs c
          split at k1
          · rename_i f cf
            obtain ⟨dx, vs, h2, rf⟩ := m1.ins e1 c
            obtain ⟨c1, c2, c3⟩ := M.at_ _ _ _ cf
            obtain rfl : u = Value.ref b := ru
            have ns : run G.t n f [.ref i] h1 ≠ .stuck := fun z => by rw [z] at k1; exact k1
            obtain ⟨dd, hd⟩ := run_some ns
            have Fk := C.ok f dd hd
            have Fk : FnOk X.prog X.w X.K X.mg X.base (L2.CX X.prog X.w) (n + 1) (G.fA f) (F.fd f) (F.ps f) (spF G xn n f (F.ps f).length) := by
              rw [xg.P, xg.w, xg.K, xg.mg, xg.base]; exact Fk
            obtain ⟨mA, O, _, _, _, _⟩ := ins_get I1.hok h2
            obtain ⟨od, J, _⟩ := O.look
            have hb' := c3 s1 [Value.ref b] (hK ▸ I1.kIn) (by rw [List.append_nil]; exact har _ _ cf)
            rw [List.append_nil] at hb'
            refine Calls.call_function_entry kind_len plain_len entry_len (args_len1 _) ?_
            unfold Builtin.«len»
            refine wpAny_bind (m := oneArg "len" _) (wpAny_pure ?_)
            refine wpAny_bind (m := callSpecial? (.ref b) (PySem.Str.ofString "__len__")) ?_
            unfold callSpecial? specialOf
            refine wpAny_bind (wpAny_bind (J.type.here ((PySem.W.looks_findIn I1.kIn (hK ▸ h0 ▸ c2.at_)).here ?_)))
            refine wpAny_holding ?_
            refine wpAny_bind ((PySem.W.bind_fn I1.kIn _ (beq_iff_eq.mp (hK ▸ c2.fn))).here ?_)
            refine wpAny_bind (wpAny_call (codeAny_mono (Fk.run X.A.in1 X.stack s1 H1 ⟨[.ref b], []⟩ [.ref b] [.ref b] (fun v H2 => ∃ j : Int, v = .int j ∧ 0 ≤ j ∧ j < 2 ^ 63 ∧ Q (.int j) H2) (WE W σ) hr.in1 I1.env0.in1 hb' (.cons rfl .nil) ⟨p1, [.ref i], h1, m1, .cons (.ref e1) .nil, har _ _ cf, ?_⟩) fun r s' hq => ?_))
            · cases e : run G.t n f [.ref i] h1 with
              | ok v h' =>
                rw [e] at k1
                intro p' u H' q l m' r'
                cases r' with
                | int j =>
                  have k1 : PostE G xn p1 σ H1 W Q (if 0 ≤ j ∧ j < 2 ^ 63 then .ok (.int j) h' else .stuck) := k1
                  split at k1
                  · rename_i cj
                    exact ⟨j, rfl, cj.1, cj.2, k1 p' _ H' q l m' (.int j)⟩
                  · exact k1.elim
                | _ => exact k1.elim
              | exc x h' => rw [e] at k1; exact k1
              | stuck => exact absurd e ns
            · cases r with
              | error e => exact passAt tk σ pins H1 s1 e s' I1 hq
              | ok fl =>
                cases fl with
                | next => exact False.elim hq
                | brk => exact False.elim hq
                | cont => exact False.elim hq
                | ret u =>
                  obtain ⟨v, H', I3, rv, j, ev, g1, g2, q3⟩ := I1.after hq
                  subst ev
                  obtain ⟨t, rfl⟩ := rv
                  refine wpAny_pure ?_
                  refine wpAny_bind (wpAny_holding (wpAny_pure ?_))
                  refine wpAny_bind (wpAny_letGo ?_)
                  show wpAny _ _ (if j < 0 then _ else _) _ _ _
                  rw [if_neg (by omega)]
                  show wpAny _ _ (if j ≥ 2 ^ 63 then _ else _) _ _ _
                  rw [if_neg (by omega)]
                  exact wpAny_bind (wpAny_mkInt (wpAny_pure ⟨_, rfl, .int j, H', I3.tok _, ⟨_, rfl⟩, q3⟩))
          · exact k1.elim
        · exact plain k1
      | _ => exact plain k1
end
end RG

end

section
/-! RgIsi: isinstance with a built-in type; calls with keywords alone. -/
namespace RG
open PySem L2 PyProof.Rows

def tyS : Nat → String
  | 0 => "bool" | 1 => "int" | 2 => "str" | 3 => "list" | 4 => "tuple" | 5 => "dict" | _ => "NoneType"
def tyN : Nat → Option Str
  | 0 => some "bool" | 1 => some "int" | 2 => some "str" | 3 => some "list" | 4 => some "tuple" | 5 => some "dict" | _ => none
theorem boot_ty {k : Nat} {x : Str} (h : tyN k = some x) : bootBuiltins x = some (.type (tyS k)) := by
  match k with
  | 0 => cases h; decide +kernel
  | 1 => cases h; decide +kernel
  | 2 => cases h; decide +kernel
  | 3 => cases h; decide +kernel
  | 4 => cases h; decide +kernel
  | 5 => cases h; decide +kernel
  | n + 6 => cases h
theorem kit_all : ∀ k < 6, ∀ t < 7, kitB (tyS t) (tyS k) = some (isK k t) := by decide +kernel
theorem tyN_lt {k : Nat} {x : Str} (h : tyN k = some x) : k < 6 := by
  match k with
  | 0 | 1 | 2 | 3 | 4 | 5 => decide
  | n + 6 => cases h
section
variable {X : Cx} {G : Gx} {xn : Nat → Str} {W : WX} {a : Expr} {pos : Pos} {fa : Env → Mem → Out D}
theorem ty_rel {p : List Addr} {h : Mem} {H : Hp} {d : D} {v : V} {t : Nat} (m : RelM G p h H) (r : RelD G H p d v) (e : tyK d h = some t) : TyX G.K H v (.type (tyS t)) ∧ t < 7 := by
  cases r with
  | non => cases e; exact ⟨.base .non, by decide⟩
  | bl b => cases e; exact ⟨.base (.bl b), by decide⟩
  | int i => cases e; exact ⟨.base (.int i), by decide⟩
  | str s => cases e; exact ⟨.base (.str _), by decide⟩
  | tup s _ =>
    cases e
    refine ⟨?_, by decide⟩
    rcases s with (q | ⟨u, q⟩) | ⟨o, its, n, q, c, _⟩
    · exact .base (.tup q)
    · exact .fTuple q
    · exact .kTuple q c
  | scr s =>
    cases e
    refine ⟨?_, by decide⟩
    rcases s with ⟨u, q⟩ | ⟨o, its, n, q, c, _⟩
    · exact .base (.frz q)
    · exact .kList q c
  | @ref n a q =>
    unfold tyK at e
    dsimp only at e
    cases x : h[n]? with
    | none => rw [x] at e; cases e
    | some o =>
      rw [x] at e
      obtain ⟨b, e1, r1⟩ := m.at_ n o x
      rw [q] at e1; cases e1
      cases o with
      | lst l => cases e; obtain ⟨vs, h1, _⟩ := r1; exact ⟨.base (.lst h1), by decide⟩
      | dct l => cases e; obtain ⟨vs, h1, _⟩ := r1; exact ⟨.base (.dK h1), by decide⟩
      | ins c l => cases e
  | kd g => cases e
  | fn f => cases e
  | exc _ _ _ _ => cases e
theorem s_isi {k : Nat} {x : Str} {q q2 : Pos} (hK : X.K = G.K) (hg : Gl X "isinstance") (hm : X.mg "isinstance" = none) (hg2 : Gl X x) (hm2 : X.mg x = none) (hx : tyN k = some x) (hn2 : x ≠ "__name__") (hd2 : (x == ("__debug__" : Str)) = false)
    (ha : PE X a (rE G xn W fa)) (hs : starEach [a, .Name x q2] X.env = (false, eval a X.env) :: starEach [.Name x q2] X.env) :
    PE X (.Call (.Name "isinstance" q) [a, .Name x q2] [] pos) (rE G xn W fun r h => (fa r h).bind fun d h => evP (.isI k) [d] h) :=
  PE.imp (pe_callB call_isi hg hm PyProof.Rows.boot_isinstance (pa_cons ha (pa_cons (pe_bltn (v := .ty (tyS k)) hg2 hm2 (boot_ty hx) rfl hn2 hd2) pa_nil rfl) hs) (by decide) (by decide) hs rfl)
    fun σ H Q ⟨p, r, h, m, s, k0⟩ => ⟨p, r, h, m, s, PostE.bind (o := fa r h) k0 fun d h1 p1 v H1 q1 l1 m1 r1 k1 => by
      have k2 := k1.v (fun x h' z => by unfold evP at z; dsimp only at z; split at z <;> cases z)
      unfold evP at k2
      dsimp only at k2
      cases e : tyK d h1 with
      | none => rw [e] at k2; exact k2.elim
      | some t =>
        rw [e] at k2
        obtain ⟨ty, ht⟩ := ty_rel m1 r1 e
        exact ⟨v, .ty (tyS k), _, _, isK k t, rfl, .ty _, by rw [hK]; exact ty, kit_ty (kit_all k (tyN_lt hx) t ht), k2 p1 _ H1 (List.prefix_refl _) (Le.refl _) m1 (.bl _)⟩⟩
/-- the names of a tuple of built-in types -/
inductive TyNms (X : Cx) : List Nat → List Expr → Prop
  | nil : TyNms X [] []
  | cons {k : Nat} {x : Str} {q : Pos} {ks : List Nat} {es : List Expr} : tyN k = some x → Gl X x → X.mg x = none → x ≠ "__name__" → (x == ("__debug__" : Str)) = false → TyNms X ks es → TyNms X (k :: ks) (.Name x q :: es)
theorem nms_pa : ∀ {ks : List Nat} {es : List Expr}, TyNms X ks es → ∃ t, PA X es t ∧ ∀ σ H Q, Q (ks.map fun k => V.ty (tyS k)) H → t σ H Q
  | _, _, .nil => ⟨_, pa_nil, fun σ H Q z => z⟩
  | _, _, .cons (k := k) h1 h2 h3 h4 h5 r => by
    obtain ⟨t, t1, t2⟩ := nms_pa r
    exact ⟨_, pa_cons (pe_bltn (v := .ty (tyS k)) h2 h3 (boot_ty h1) rfl h4 h5) t1 rfl, fun σ H Q z => t2 σ H _ z⟩
theorem nms_lt : ∀ {ks : List Nat} {es : List Expr}, TyNms X ks es → ∀ k ∈ ks, k < 6
  | _, _, .nil, _, h => by cases h
  | _, _, .cons h1 _ _ _ _ r, k, h => by
    rcases List.mem_cons.mp h with z | z
    · rw [z]; exact tyN_lt h1
    · exact nms_lt r k z
theorem ty_pairs : ∀ ks : List Nat, Paired ClsV (ks.map fun k => V.ty (tyS k)) (ks.map fun k => Value.type (tyS k))
  | [] => .nil
  | k :: ks => .cons (.ty _) (ty_pairs ks)
theorem kit_tys {K : PySem.W.Frag} {t : Nat} (ht : t < 7) : ∀ {ks : List Nat}, (∀ k ∈ ks, k < 6) → PySem.W.kitAny K (.type (tyS t)) (ks.map fun k => Value.type (tyS k)) = some (ks.any fun k => isK k t)
  | [], _ => rfl
  | k :: ks, h => by
    refine kitAny_cons (kit_ty (kit_all k (h k List.mem_cons_self) t ht)) (fun z => ?_) fun z => ?_
    · rw [kit_tys ht fun j hj => h j (List.mem_cons_of_mem _ hj)]
      rw [List.any_cons, z, Bool.false_or]
    · rw [List.any_cons, z, Bool.true_or]
theorem s_isT {ks : List Nat} {es : List Expr} {kk : Nat} {q q2 : Pos} (hK : X.K = G.K) (hg : Gl X "isinstance") (hm : X.mg "isinstance" = none) (hn : TyNms X ks es) (hl : ks.length ≤ 1000)
    (ha : PE X a (rE G xn W fa)) (hs : starEach [a, .Tuple es kk q2] X.env = (false, eval a X.env) :: starEach [.Tuple es kk q2] X.env) :
    PE X (.Call (.Name "isinstance" q) [a, .Tuple es kk q2] [] pos) (rE G xn W fun r h => (fa r h).bind fun d h => evP (.isT ks) [d] h) := by
  obtain ⟨t, t1, t2⟩ := nms_pa hn
  refine PE.imp (pe_callB call_isiT hg hm PyProof.Rows.boot_isinstance (pa_cons ha (pa_cons (pe_tup t1) pa_nil rfl) hs) (by decide) (by decide) hs rfl)
    fun σ H Q ⟨p, r, h, m, s, k0⟩ => ⟨p, r, h, m, s, PostE.bind (o := fa r h) k0 fun d h1 p1 v H1 q1 l1 m1 r1 k1 => ?_⟩
  have k2 := k1.v (fun x h' z => by unfold evP at z; dsimp only at z; split at z <;> cases z)
  unfold evP at k2
  dsimp only at k2
  cases e : tyK d h1 with
  | none => rw [e] at k2; exact k2.elim
  | some ty =>
    rw [e] at k2
    refine t2 σ H1 _ ⟨by rw [List.length_map, sizeLine_eq]; omega, fun tp nt => ?_⟩
    have x1 : ∀ b o, H1 b = some o → (upd H1 tp (.tup (ks.map fun k => V.ty (tyS k)))) b = some o := fun b o e => by rw [upd_ne (ne_of_none e nt)]; exact e
    have m2 := m1.ext x1
    have r2 := r1.mono (Le.ext x1) (List.prefix_refl _)
    obtain ⟨tx, ht⟩ := ty_rel m2 r2 e
    exact ⟨v, tp, _, _, _, _, rfl, upd_same, ty_pairs ks, by rw [hK]; exact tx, kit_tys ht (nms_lt hn), k2 p1 _ _ (List.prefix_refl _) (Le.ext x1) m2 (.bl _)⟩
end

section
variable {X : Cx} {G : Gx} {F : Fo} {xn : Nat → Str} {W : WX} {n f c : Nat} {kws : List Keyword} {x : Str} {q pos : Pos} {fk : Env → Mem → Out (List D)} {ks : List Str} {pk : List Nat} {dd : List D}
/-- f(k = v, ..), defaults behind -/
theorem s_callP0 (xg : XG X G) (C : CallOk G F xn n) (tk : Takes X W) (hr : Room (n + 1) X.A) (hg : Gl X x) (hm : G.mg x = some (.ref (G.fA f))) (hk : PySem.W.keepIn G.K (.ref (G.fA f)) = true) (hb : Form G F f 0 ks pk dd)
    (hlk : ∀ r h ds h', fk r h = .ok ds h' → ds.length = ks.length)
    (hkw : PK X kws (rA G xn W fk)) (hall : (backToKw pos (keywordEach kws X.env)).all (·.1.isSome) = true) (hks : (backToKw pos (keywordEach kws X.env)).filterMap (·.1) = ks)
    (hdb : (x == ("__debug__" : Str)) = false)
    (hpl : ((backTo pos (starEach [] X.env)).any (·.1) || (backToKw pos (keywordEach kws X.env)).any (·.1.isNone)) = false) :
    PE X (.Call (.Name x q) [] kws pos) (rE G xn W fun r h => (fk r h).bind fun es h => match pickO (es ++ dd) pk with
    | some zs => run G.t n f zs h
    | none => .stuck) := by
  refine ⟨fun pins s σ H Q I ⟨p, r, h, m, sg, k⟩ => ?_⟩
  refine wpAny_Call_Name_kw (ld_glob I hg (by rw [xg.mg]; exact hm) ?_ hdb)
  dsimp only at k
  have hK := xg.K
  obtain ⟨its, dvs, rdv, rdd, hbind⟩ := hb
  refine PySem.W.callWith_KW0 (h₀ := X.base) I.ok.mod.kin (by rw [hK]; exact hk) hall (thn (hkw.run pos pins s σ H (fun zs H' => ∃ p' h' es', p <+: p' ∧ Le G H H' ∧ RelM G p' h' H' ∧ RelDs G H' p' es' zs ∧ es'.length = ks.length ∧ PostE G xn p' σ H' W Q (match pickO (es' ++ dd) pk with
      | some zs => run G.t n f zs h'
      | none => .stuck)) I ⟨p, r, h, m, sg, ?_⟩) fun ws s2 hh2 => ?_) hpl
  · cases e : fk r h with
    | ok es' h' =>
      rw [e] at k
      exact fun p2 vs H2 q2 l2 m2 r2 => ⟨p2, h', es', q2, l2, m2, r2, hlk r h es' h' e, PostE.mono k q2 l2⟩
    | exc x h' => rw [e] at k; exact k
    | stuck => rw [e] at k; exact k
  · obtain ⟨zs, H2, I2, rz, p2, h2, es', q2, l2, m2, re, le', k2⟩ := hh2
    refine ⟨I2.kIn, ?_⟩
    rw [hks]
    obtain ⟨ys, e1, e2, hb'⟩ := hbind s2 [] ws (hK ▸ I2.kIn) rfl (by rw [← rz.length, ← re.length, le'])
    obtain ⟨vys, dys, g1, g2, g3⟩ := form_put (us := []) (vs := []) (ds := []) .nil rz rdv .nil re (rdd H2 p2) e1
    rw [List.nil_append] at g1
    rw [g1] at k2
    exact callF xg C tk hr I2 hb' g2 e2 m2 g3 k2
/-- a new instance, by keywords alone -/
theorem s_makeP0 (xg : XG X G) (C : CallOk G F xn n) (tk : Takes X W) (hr : Room (n + 2) X.A) (hg : Gl X x) (hm : G.mg x = some (.ref (G.cA c))) (M : Mk G.K (G.cA c) (G.fA f)) (hi : G.t.init c = some f) (hb : FormM G F f 0 ks pk dd)
    (hlk : ∀ r h ds h', fk r h = .ok ds h' → ds.length = ks.length)
    (hkw : PK X kws (rA G xn W fk)) (hall : (backToKw pos (keywordEach kws X.env)).all (·.1.isSome) = true) (hks : (backToKw pos (keywordEach kws X.env)).filterMap (·.1) = ks)
    (hdb : (x == ("__debug__" : Str)) = false)
    (hpl : ((backTo pos (starEach [] X.env)).any (·.1) || (backToKw pos (keywordEach kws X.env)).any (·.1.isNone)) = false) :
    PE X (.Call (.Name x q) [] kws pos) (rE G xn W fun r h => (fk r h).bind fun es h => match G.t.init c, pickO (.ref h.length :: (es ++ dd)) pk with
    | some f, some zs => (run G.t n f zs (h ++ [.ins c []])).bind fun v h' => match v with
      | .non => .ok (.ref h.length) h'
      | _ => .stuck
    | _, _ => .stuck) := by
  refine ⟨fun pins s σ H Q I ⟨p, r, h, m, sg, k⟩ => ?_⟩
  refine wpAny_Call_Name_kw (ld_glob I hg (by rw [xg.mg]; exact hm) ?_ hdb)
  dsimp only at k
  rw [hi] at k
  have hK := xg.K
  obtain ⟨its, dvs, rdv, rdd, hbind⟩ := hb
  refine PySem.W.callWith_KW0 (h₀ := X.base) I.ok.mod.kin (by rw [hK]; exact M.kp) hall (thn (hkw.run pos pins s σ H (fun zs H' => ∃ p' h' es', p <+: p' ∧ Le G H H' ∧ RelM G p' h' H' ∧ RelDs G H' p' es' zs ∧ es'.length = ks.length ∧ PostE G xn p' σ H' W Q (match (some f : Option Nat), pickO (.ref h'.length :: (es' ++ dd)) pk with
      | some f, some zs => (run G.t n f zs (h' ++ [.ins c []])).bind fun v h'' => match v with
        | .non => .ok (.ref h'.length) h''
        | _ => .stuck
      | _, _ => .stuck)) I ⟨p, r, h, m, sg, ?_⟩) fun ws s2 hh2 => ?_) hpl
  · cases e : fk r h with
    | ok es' h' =>
      rw [e] at k
      exact fun p2 vs H2 q2 l2 m2 r2 => ⟨p2, h', es', q2, l2, m2, r2, hlk r h es' h' e, PostE.mono k q2 l2⟩
    | exc x h' => rw [e] at k; exact k
    | stuck => rw [e] at k; exact k
  · obtain ⟨zs, H2, I2, rz, p2, h2, es', q2, l2, m2, re, le', k2⟩ := hh2
    refine ⟨I2.kIn, ?_⟩
    rw [hks]
    have l4 : ws.length = ks.length := by rw [← rz.length, ← re.length, le']
    cases e3 : pickO (D.ref h2.length :: (es' ++ dd)) pk with
    | none => rw [e3] at k2; exact k2.elim
    | some dys =>
      rw [e3] at k2
      refine makeF (us := []) xg C tk hr M I2 m2 (dys := dys) (fun b s' KI => ?_) k2
      obtain ⟨ys, e1, e2, hb'⟩ := hbind s' (.ref b) [] ws KI rfl l4
      have rva : Vals (V.ref b :: ([] ++ zs ++ dvs)) (Value.ref b :: ([] ++ ws ++ its)) := .cons rfl (rz.append rdv)
      obtain ⟨vys, g1, g2⟩ := pick_vals rva e1
      refine ⟨ys, vys, hb', e2, g2, fun H' p' q l pb => ?_⟩
      have rda : RelDs G H' p' (D.ref h2.length :: (es' ++ dd)) (V.ref b :: ([] ++ zs ++ dvs)) := .cons (.ref pb) ((re.mono l q).append (rdd H' p'))
      obtain ⟨dys', g3, g4⟩ := pick_rel rda g1
      rw [e3] at g3; cases g3
      exact g4
end
end RG

end

section
/-! RgRx: own exception classes over any built-in one: a field put by __init__, the making. -/
namespace RG
open PySem L2 PyProof.Rows PySem.W PySem.Calls PySem.HandSPX Builtin Builtin.ObjectAttr

/-- own classes, then what a built-in class stands upon -/
def refsT (tl : List Value) : List Value → Bool
  | .ref _ :: r => refsT tl r
  | l => l == tl
theorem refsT_by (tl l : List Value) (e : refsT tl l = true) : (∃ c r, l = .ref c :: r ∧ refsT tl r = true) ∨ l = tl := by
  unfold refsT at e
  split at e
  · exact .inl ⟨_, _, rfl, e⟩
  · exact .inr (eq_of_beq e)
theorem refsT_lets {tl : List Value} {me : Value} (S : refuseLoop me "__setattr__" tl = pure ()) : ∀ l : List Value, refsT tl l = true → refuseLoop me "__setattr__" l = pure ()
  | [], e => by
    rcases refsT_by tl [] e with ⟨c, r, q, _⟩ | q
    · cases q
    · rw [q]; exact S
  | a :: r, e => by
    rcases refsT_by tl (a :: r) e with ⟨c, r', q, h⟩ | q
    · obtain ⟨rfl, rfl⟩ := List.cons.inj q
      rw [refuseLoop_ref]; exact refsT_lets S r h
    · rw [q]; exact S
theorem refsT_has {tl : List Value} (Y : String) : ∀ l : List Value, refsT tl l = true → l.contains (.type Y) = tl.contains (.type Y)
  | [], e => by
    rcases refsT_by tl [] e with ⟨c, r, q, _⟩ | q
    · cases q
    · rw [q]
  | a :: r, e => by
    rcases refsT_by tl (a :: r) e with ⟨c, r', q, h⟩ | q
    · obtain ⟨rfl, rfl⟩ := List.cons.inj q
      rw [List.contains_cons, refsT_has Y r h]; rfl
    · rw [q]
theorem refsT_some {tl l : List Value} (ht : tl.isEmpty = false) (e : refsT tl l = true) : l.isEmpty = false := by
  rcases refsT_by tl l e with ⟨c, r, q, _⟩ | q
  · rw [q]; rfl
  · rw [q]; exact ht

/-- what is known of the built-in class -/
structure BaseX (B nI iI : String) (tl : List Value) : Prop where
  base : ExcBaseFacts B nI iI tl
  pass : ∀ me : Value, refuseLoop me "__setattr__" tl = pure ()
  obj : tl.contains (.type "object") = true
  ne : tl.isEmpty = false
theorem base_VE : BaseX "ValueError" "ValueError.__new__" "ValueError.__init__" [.type "ValueError", .type "Exception", .type "BaseException", .type "object"] :=
  ⟨F.excBase_ValueError, F.store_ValueError.passes, by decide +kernel, rfl⟩
theorem base_RE : BaseX "RuntimeError" "RuntimeError.__new__" "RuntimeError.__init__" [.type "RuntimeError", .type "Exception", .type "BaseException", .type "object"] :=
  ⟨F.excBase_RuntimeError, F.store_RuntimeError.passes, by decide +kernel, rfl⟩

section
variable {prog : Program} {w : World} {A : Around} {R : Result → Shared → Prop} {hp : Heap} {g : Array GenState} {d : Drawn} {t : Nat} {os : OsState}
theorem osa_any {tl : List Value} {K : W.Frag} {fn : Str} {tk : Tok} {v : Value} {x C : Addr} {fv : Array Value} {cd : ClassData}
    (lets : refuseLoop (.ref x) "__setattr__" tl = pure ()) (htl : tl.contains (.type "object") = true) (hne : tl.isEmpty = false) (KI : K.In hp) (hx : hp.get? x = some { cls := .ref C, data := .fields fv }) (hcd : W.clsIn K C = some cd) (hm : refsT tl cd.mro = true) (hd : cd.hasDict = true) (hno : W.findIn K (.ref C) fn = some none)
    (fin : ∀ h' tk' dx, (∀ b o, b ≠ x → hp.get? b = some o → h'.get? b = some o) → hp.objs.size ≤ dx → dx ≠ x → h'.get? x = some { cls := .ref C, dict := some dx, data := .fields fv } → h'.Ns1 dx (fun y => if y = fn then some v else none) → R (.ok (.ret .none)) ⟨h', g, d, tk', os⟩) :
    codeAny (model prog w) A (.call (.builtin "object.__setattr__") ⟨[.ref x, .str fn tk, v], []⟩) R ⟨hp, g, d, t, os⟩ := by
  have at_ : W.InstAt hp x { cls := .ref C, data := .fields fv } C none := ⟨hx, rfl, rfl, trivial⟩
  have so := F.store_object
  have mne := refsT_some hne hm
  have mob : cd.mro.contains (.type "object") = true := (refsT_has "object" _ hm).trans htl
  have nx : x ≠ hp.objs.size := Nat.ne_of_lt (Heap.lt_size hx)
  have isO : W.Looks (model prog w) hp (isInstance (.ref x) (.type "object")) true := at_.type.andThen (W.looks_mroIn KI (by
    unfold W.mroIn
    rw [hcd, Option.bind_some, if_neg (by rw [mne]; decide), mob]))
  refine codeAny_call_builtin so.slot.plain so.entry (@W.check_slot (model prog w) _ _ ⟨hp, g, d, t, os⟩ "object.__setattr__" "object" "__setattr__" (.ref x) [.str fn tk, v] [] _ so.kind so.split isO (so.args (.ref x) (.str fn tk) v) ?_)
  have lm : W.Looks (model prog w) hp (mroOf (.ref C)) cd.mro := (W.looks_clsIn KI hcd).andThen .now
  have ls : W.Looks (model prog w) hp (storeTaker? none) none := .now
  have lc : W.Looks (model prog w) hp (classData C) cd := W.looks_clsIn KI hcd
  rw [W.osa_eq, refuse_eq]
  refine wpAny_bind (wpAny_bind (at_.type.at (wpAny_bind (lm.at ?_))))
  rw [refsT_lets lets _ hm]
  refine wpAny_pure (wpAny_bind (at_.type.at (wpAny_bind ((W.looks_findIn KI hno).at (wpAny_bind (ls.at ?_))))))
  show wpAny _ _ (storeInOwnDict (.ref x) (.ref C) (.str fn tk) fn v false) _ _ _
  obtain ⟨nm, bs, mro, ns, qn, hdc, sn, sb, ab, col, dl⟩ := cd
  dsimp only at hd
  subst hd
  unfold storeInOwnDict ownDictForStores
  repeat (first | with_reducible refine store_in_new ?_ ?_ | with_reducible refine wpAny_loadPart_at hx ?_ | with_reducible refine lc.at ?_ | wp_step)
  · exact ⟨_, #[], _, (Heap.get?_update_ne _ _ _ _ nx.symm).trans (Heap.get?_push_at rfl rfl), rfl, fun e he => absurd he (by simp), fun _ => rfl⟩
  · intro h' tk' hn' hs
    have hx1 : (hp.push { cls := .type "dict", data := .dict #[] }).get? x = some { cls := .ref C, data := .fields fv } := Heap.get?_push_of_some _ hx
    refine fin h' tk' hp.objs.size (fun b o hb ho => ?_) (Nat.le_refl _) nx.symm ?_ hn'
    · exact (hs.2 b (Nat.ne_of_lt (Heap.lt_size ho))).trans ((Heap.get?_update_ne _ _ _ _ hb).trans (Heap.get?_push_of_some _ ho))
    · exact (hs.2 x nx).trans (Heap.get?_update_self _ hx1 rfl)
end

/-- an own exception class, over whatever built-in one -/
structure OexG (K : PySem.W.Frag) (C : Addr) : Prop where
  cls : ∃ (B nI iI : String) (tl : List Value), BaseX B nI iI tl ∧ ∃ nm q N bs bm sn sub ab col dd k0 k1 k2 k3 k5, K.lookup C = some (excClassObj nm q C N bs bm true sn sub ab col dd k0 k1 k2 k3 k5 nI) ∧ refsT tl bm = true
  sa : PySem.W.findIn K (.ref C) "__setattr__" = some (some (.builtin "object.__setattr__"))
  exC : PySem.W.subIn K (.ref C) (.type "BaseException") = some true
  tyC : PySem.W.typeIn K (.ref C) = some (.type "type")
  kC : PySem.W.keepIn K (.ref C) = true

section
variable {X : Cx} {pins : List (Addr × Obj)} {σ : L2.St} {H : Hp} {s : Shared} {a C dx : Addr} {f : Str} {y : V} {u : Value} {Q : Unit → Shared → Prop} {E : Value → Shared → Prop} {A : Around}
/-- the first field of an exception that is being made -/
theorem put_first (T : OexG X.K C) (I : Inv X pins σ H s) (e : H a = some (exo a C none)) (hno : PySem.W.findIn X.K (.ref C) f = some none) (ry : RelV y u)
    (k : ∀ dx s', H dx = none → dx ≠ a → Inv X pins σ (upd (upd H dx (exd dx [(f, y)])) a (exo a C (some dx))) s' → Q () s') : wpAny (model X.prog X.w) A (setAttr (.ref a) f u) Q E s := by
  obtain ⟨B, nI, iI, tl, bx, nm, q, N, bs, bm, sn, sub, ab, col, dd, k0, k1, k2, k3, k5, hC, hbm⟩ := T.cls
  have hcl : PySem.W.clsIn X.K C = some { name := nm, bases := bs, mro := .ref C :: bm, ns := N, qualname := q, hasDict := true, slotNames := sn, subclasses := sub, abstract := ab, collection := col, hasDel := false } := by
    unfold PySem.W.clsIn
    rw [hC] <;> rfl
  obtain ⟨t1, ho⟩ := exo_at I.hok e
  obtain ⟨hp, g, d, t, os⟩ := s
  refine PySem.W.set_plain I.kIn (ox := { cls := .ref C, dict := none, data := .fields #[.ref t1, .none, .none, .none, .bool false, .none] }) (od := none) ⟨ho, rfl, rfl, trivial⟩ T.sa ?_
  refine osa_any (tl := tl) (bx.pass (.ref a)) bx.obj bx.ne I.kIn ho hcl (show refsT tl (.ref C :: bm) = true from hbm) rfl hno (fun h' tk' dx kp dn dne hx hn => ?_)
  have fd : H dx = none := I.hok.fresh dn
  have ofd : ∀ {b : Addr} {o : Obj}, hp.get? b = some o → b ≠ dx := fun {b o} q => Nat.ne_of_lt (Nat.lt_of_lt_of_le (Heap.lt_size q) dn)
  have ofa : ∀ {b : Addr}, H b = none → b ≠ a := fun {b} n z => by
    rw [z, e] at n
    cases n
  have un : Un X.fs [] H (upd (upd H dx (exd dx [(f, y)])) a (exo a C (some dx))) hp h' := {
    keep := fun b o q n _ _ => kp b o (ofa n) q
    slot := fun b o q n _ _ => ⟨o.slots, kp b o (ofa n) q⟩
    free := fun b o q n _ => by
      rw [upd_ne (ofa n), upd_ne (ofd q)]
      exact n
    there := fun b o q _ => by
      by_cases hb : b = a
      · exact ⟨_, by rw [hb]; exact hx⟩
      · exact ⟨o, kp b o hb q⟩
    tups := fun b xs q => by
      rw [upd_ne (at_ne e q exo_tup), upd_ne (ne_of_none q fd)]
      exact q
    frzs := fun b o v q => by
      rw [upd_ne (at_ne e q exo_frz), upd_ne (ne_of_none q fd)]
      exact q
    tbls := fun b ps q => ⟨#[], by rw [upd_ne (at_ne e q exo_tbl), upd_ne (ne_of_none q fd), q]; simp⟩ }
  refine k dx _ fd dne (I.un (t' := tk') un fun b o q => ?_)
  by_cases hb : b = a
  · subst hb
    rw [upd_same] at q
    cases q
    exact exo_ok hx
  · rw [upd_ne hb] at q
    by_cases hd : b = dx
    · subst hd
      rw [upd_same] at q
      cases q
      exact exd_ok hn (relO_put (fs := []) ry fun g => True.intro)
    · rw [upd_ne hd] at q
      refine (I.hok b o q).stay (fun c v hc z => kp c v ?_ z) (fun c hc => ?_) (fun c xs hc => ?_)
      · rcases hc with hc | hc
        · rw [hc]; exact hb
        · exact at_ne e hc exo_own
      · rw [upd_ne (at_ne e hc exo_own), upd_ne (ne_of_none hc fd)]; exact hc
      · rw [upd_ne (at_ne e hc exo_tup), upd_ne (ne_of_none hc fd)]; exact hc
end
/-- self.f = e, the first field -/
def tPut (K : PySem.W.Frag) (f : Str) (to te : TE) : TS := fun D σ H => te σ H fun y H1 => to σ H1 fun x H2 => ∃ a C : Addr, x = .ref a ∧ OexG K C ∧ PySem.W.findIn K (.ref C) f = some none ∧
  (H2 a = some (exo a C none) ∧ ∀ dx, H2 dx = none → dx ≠ a → D.nx σ (upd (upd H2 dx (exd dx [(f, y)])) a (exo a C (some dx))))
section
variable {X : Cx} {o e : Expr} {es : List Expr} {to te : TE} {ta : TA} {f : Str} {p p' pos : Pos}
theorem ps_put (ho : PE X o to) (he : PE X e te) (hs : swapsWith e (some (.Attribute o f p')) pos.line X.env = pure false := by rfl) : PS X (.Assign [.Attribute o f p'] e pos) (tPut X.K f to te) := by
  refine ⟨fun pins s σ H D I h => ?_⟩
  refine plainObj_wpAny_Assign_Attribute (thn (he.run pins s σ H _ I h) fun v s1 ⟨y, H1, I1, r1, q1⟩ => thn (ho.run pins s1 σ H1 _ I1 q1) fun u s2 ⟨x, H2, I2, r2, a, C, ex, T, hno, ea, q⟩ => ?_) hs
  subst ex
  obtain rfl : u = Value.ref a := r2
  exact put_first T I2 ea hno r1 fun dx s' n ne J => ⟨σ, _, J, q dx n ne⟩
theorem pmk_any {CX : CXT} {x : Str} {C fI : Addr} {k : Nat} {fd : FuncData} {ps : List Str} {sp : Sp} (T : OexG X.K C) (iC : PySem.W.findIn X.K (.ref C) "__init__" = some (some (.ref fI))) (tI : PySem.W.typeIn X.K (.ref fI) = some (.type "function"))
    (F1 : FnOk X.prog X.w X.K X.mg X.base CX k fI fd ps sp) (hr : Room (k + 1) X.A) (hb : Binds X.K fd ps []) (hx : Passes CX X (fun _ _ _ => False)) (hg : Gl X x) (hm : X.mg x = some (.ref C)) (ha : PA X (e :: es) ta)
    (hdb : (x == ("__debug__" : Str)) = false) (he : starEach (e :: es) X.env = (false, eval e X.env) :: starEach es X.env) (hpl : (backTo pos (starEach es X.env)).any (·.1) = false) :
    PMk X (.Call (.Name x p) (e :: es) [] pos) (tMkO C sp [] ta) := by
  intro pins s σ H Q I h
  obtain ⟨B, nI, iI, tl, bx, nm, q, N, bs, bm, sn, sub, ab, col, dd, k0, k1, k2, k3, k5, hC, hbm⟩ := T.cls
  refine wpAny_Call_Name_kw (ld_glob I hg hm ?_ hdb)
  refine PySem.W.callWith_K (h₀ := X.base) I.ok.mod.kin T.kC (thn (ha.run pos pins s σ H _ I h) fun us s1 ⟨vs, H1, I1, r1, hz, q1⟩ => ⟨I1.kIn, ?_⟩) he hpl
  show wpAny _ _ (call (.ref C) us) _ _ _
  obtain ⟨hp, g, dr, tk, os⟩ := s1
  have far : hp.objs.size ≤ hp.objs.size + 1 := Nat.le_succ _
  have hn : H1 (hp.objs.size + 1) = none := I1.hok.fresh far
  have hq := q1 (hp.objs.size + 1) hn
  have kk : ∀ b o, hp.get? b = some o → ((hp.push (PySem.W.kdv_tup us)).push (PySem.HandSPX.excO C hp.objs.size)).get? b = some o := fun b o e => Heap.get?_push_of_some _ (Heap.get?_push_of_some _ e)
  have here : ((hp.push (PySem.W.kdv_tup us)).push (PySem.HandSPX.excO C hp.objs.size)).get? (hp.objs.size + 1) = some (PySem.HandSPX.excO C hp.objs.size) := by heap_get
  have I2 : Inv X pins σ (upd H1 (hp.objs.size + 1) (exo (hp.objs.size + 1) C none)) ⟨(hp.push (PySem.W.kdv_tup us)).push (PySem.HandSPX.excO C hp.objs.size), g, dr, tk, os⟩ :=
    I1.laid (t' := tk) (a := hp.objs.size + 1) (o := exo (hp.objs.size + 1) C none) (h' := (hp.push (PySem.W.kdv_tup us)).push (PySem.HandSPX.excO C hp.objs.size)) kk far (exo_ok here)
  rw [List.append_nil] at hq
  have r2 : Vals (V.ref (hp.objs.size + 1) :: vs) (Value.ref (hp.objs.size + 1) :: us) := .cons rfl r1
  have hl : (Value.ref (hp.objs.size + 1) :: us ++ []).length = ps.length := by
    have e := r2.length
    rw [F1.len _ _ _ _ hq] at e
    rw [List.append_nil]
    exact e.symm
  have hus : us.length ≤ sizeLine := by
    rw [← Paired.length r1, sizeLine_eq]
    omega
  have hb2 := hb _ (Value.ref (hp.objs.size + 1) :: us) I2.kIn hl
  rw [List.append_nil] at hb2
  refine wpAny_call (PySem.HandSPX.call_own bx.base (fun Y => refsT_has Y bm hbm) (I1.kIn _ _ hC) (PySem.W.looks_findIn I1.kIn iC) (fun self => PySem.W.bind_fn I1.kIn self tI) hus
    (codeAny_mono (F1.run _ X.stack _ _ ⟨Value.ref (hp.objs.size + 1) :: us, []⟩ (Value.ref (hp.objs.size + 1) :: us) _ _ (fun _ _ _ => False) (hr.make C us []) (I2.env0.make C us []) hb2 r2 hq) fun r s' hq' => ?_))
  cases r with
  | error er => exact hx pins σ _ _ er s' I2 hq'
  | ok fl =>
    cases fl with
    | ret u =>
      obtain ⟨v, H2, os2, bare2, un2, hok2, rv, ev, d, fs, ea, ed, hd1, q2⟩ := hq'
      subst ev
      obtain ⟨h2, g2, d2, t2, os'⟩ := s'
      exact ⟨rv, mk_end (raises_own T.exC T.tyC) I1 far kk un2 hok2 os2 bare2 ea ed hd1 q2⟩
    | next => exact False.elim hq'
    | brk => exact False.elim hq'
    | cont => exact False.elim hq'
end
end RG

end

section
/-! RgX1: the program's own exceptions: their making and raising. -/
namespace RG
open PySem L2 PyProof.Rows

/-- the class is an own one over ValueError, or RuntimeError -/
def tailOf (n : String) : Option (List Value) := if n = "ValueError.__new__" then some [.type "ValueError", .type "Exception", .type "BaseException", .type "object"] else
  if n = "RuntimeError.__new__" then some [.type "RuntimeError", .type "Exception", .type "BaseException", .type "object"] else none
theorem tail_ok {n : String} {tl : List Value} (h : tailOf n = some tl) : ∃ B iI, BaseX B n iI tl := by
  unfold tailOf at h
  split at h
  · rename_i c; subst c; cases h; exact ⟨_, _, base_VE⟩
  · split at h
    · rename_i c; subst c; cases h; exact ⟨_, _, base_RE⟩
    · cases h
def oexB (K : PySem.W.Frag) (C : Addr) : Bool :=
  (match K.lookup C with
  | some ⟨.type "type", _, .cls cd, sl⟩ => (match cd.mro, sl.toList with
    | .ref C' :: bm, [_, _, _, _, some (.builtin n), _] => (match tailOf n with
      | some tl => C' == C && !cd.hasDel && cd.hasDict && refsT tl bm
      | none => false)
    | _, _ => false)
  | _ => false) && (decide (PySem.W.findIn K (.ref C) "__setattr__" = some (some (.builtin "object.__setattr__"))) && (decide (PySem.W.subIn K (.ref C) (.type "BaseException") = some true) && (decide (PySem.W.typeIn K (.ref C) = some (.type "type")) && PySem.W.keepIn K (.ref C))))
theorem oexB_ok {K : PySem.W.Frag} {C : Addr} (h : oexB K C = true) : OexG K C := by
  unfold oexB at h
  obtain ⟨h1, h⟩ := Bool.and_eq_true_iff.mp h
  obtain ⟨h2, h⟩ := Bool.and_eq_true_iff.mp h
  obtain ⟨h3, h⟩ := Bool.and_eq_true_iff.mp h
  obtain ⟨h4, h5⟩ := Bool.and_eq_true_iff.mp h
  refine ⟨?_, of_decide_eq_true h2, of_decide_eq_true h3, of_decide_eq_true h4, h5⟩
  split at h1
  · rename_i dd cd sl ho
    split at h1
    · rename_i C' bm k0 k1 k2 k3 n k5 hm hs
      split at h1
      · rename_i tl htl
        simp only [Bool.and_eq_true, beq_iff_eq, Bool.not_eq_true'] at h1
        obtain ⟨⟨⟨rfl, hdel⟩, hdct⟩, hve⟩ := h1
        obtain ⟨nm, bs, mro, ns, qn, hd, sn, sub, ab, col, del⟩ := cd
        dsimp only at hm hdel hdct
        subst hm hdel hdct
        have hsl : sl = #[k0, k1, k2, k3, some (.builtin n), k5] := by
          obtain ⟨l⟩ := sl
          simp only at hs
          rw [hs]
        subst hsl
        obtain ⟨B, iI, bx⟩ := tail_ok htl
        exact ⟨B, n, iI, tl, bx, nm, qn, ns, bs, bm, sn, sub, ab, col, dd, k0, k1, k2, k3, k5, ho, hve⟩
      · cases h1
    · cases h1
  · cases h1

/-- what its __init__ promises: self.f = y -/
def spX (K : PySem.W.Frag) (f : Str) : Sp := fun vs H Q _ => ∃ (a C : Addr) (y : V), vs = [.ref a, y] ∧ OexG K C ∧ PySem.W.findIn K (.ref C) f = some none ∧ H a = some (exo a C none) ∧
  ∀ dx, H dx = none → dx ≠ a → Q .non (upd (upd H dx (exd dx [(f, y)])) a (exo a C (some dx)))
/-- self.f = w -/
def isXi (s w f : Str) : List Stmt → Bool
  | [.Assign [.Attribute (.Name s' _) f' _] (.Name w' _) _] => decide (s' = s) && decide (f' = f) && decide (w' = w)
  | _ => false
theorem xinit_ok {P : Program} {w : World} {K : PySem.W.Frag} {mg : Str → Option Value} {base : Heap} {CX : CXT} {x qual : Str} {params : Arguments} {body : List Stmt} {scope : Scope} {dvs : List V} {kws : List (Str × V)} {fI : Addr} {fd : FuncData} {sn wn f : Str}
    (FD : FunD K x qual params body scope dvs kws fI fd) (S : FnScope [sn, wn] [sn, wn] scope) (hb : isXi sn wn f body = true) (d1 : ((sn == ("__debug__" : Str)) || (sn == ("__classdict__" : Str)) || (wn == ("__debug__" : Str)) || (wn == ("__classdict__" : Str))) = false) (k : Nat) : FnOk P w K mg base CX (k + 1) fI fd [sn, wn] (spX K f) := by
  simp only [Bool.or_eq_false_iff] at d1
  unfold isXi at hb
  split at hb
  · rename_i s' p1 f' p2 w' p3 p4
    simp only [Bool.and_eq_true, decide_eq_true_eq] at hb
    obtain ⟨⟨rfl, rfl⟩, rfl⟩ := hb
    refine FD.ok S (fun vs H Q E ⟨a, C, y, e, _⟩ => by rw [e]; rfl) fun cdv A outer s H vs Q E hr hsp => ?_
    obtain ⟨a, C, y, rfl, T, hno, ha, q⟩ := hsp
    have v1 : Vis scope s' := (S.par s' List.mem_cons_self).elim .inl fun z => .inr (.inl z)
    have v2 : Vis scope w' := (S.par w' (List.mem_cons_of_mem _ List.mem_cons_self)).elim .inl fun z => .inr (.inl z)
    refine ⟨_, pss_one (ps_put (pe_var (i := 0) rfl v1 d1.1.1.1 d1.1.1.2) (pe_var (i := 1) rfl v2 d1.1.2 d1.2)), ?_⟩
    exact ⟨y, rfl, .ref a, rfl, a, C, rfl, T, hno, ha, fun dx n ne => q dx n ne⟩
  · cases hb

/-- an exception class of the program -/
structure XcOk (G : Gx) (f : Str) (C : Addr) : Prop where
  T : OexG G.K C
  xf : XfC G.K C
  no : PySem.W.findIn G.K (.ref C) f = some none
  ini : ∃ (fI : Addr) (fd : FuncData) (ps : List Str), PySem.W.findIn G.K (.ref C) "__init__" = some (some (.ref fI)) ∧ PySem.W.typeIn G.K (.ref fI) = some (.type "function") ∧ (∀ k, FnOk G.P G.w G.K G.mg G.base (L2.CX G.P G.w) (k + 1) fI fd ps (spX G.K f)) ∧ Binds G.K fd ps []

section
variable {X : Cx} {G : Gx} {xn : Nat → Str} {W : WX} {a : Expr} {x : Str} {q pos pos' : Pos} {fa : Env → Mem → Out D}
/-- raise C(e) -/
theorem s_rse {c : Nat} (xg : XG X G) (xc : XcOk G (xn c) (G.cA c)) (tk : Takes X W) (hc : X.calm = true) (hr : Room 2 X.A) (hg : Gl X x) (hm : G.mg x = some (.ref (G.cA c))) (hdb : (x == ("__debug__" : Str)) = false) (ha : PE X a (rE G xn W fa)) (hs : starEach [a] X.env = (false, eval a X.env) :: starEach [] X.env) :
    PS X (.Raise (some (.Call (.Name x q) [a] [] pos)) none pos') (rS G xn W fun r h => (fa r h).bs r fun d h => .ok (.xc (.exc c d) r) h) := by
  obtain ⟨fI, fd, ps, i1, i2, i3, i4⟩ := xc.ini
  have hK := xg.K
  have F1 : FnOk X.prog X.w X.K X.mg X.base (L2.CX X.prog X.w) 1 fI fd ps (spX G.K (xn c)) := by
    rw [xg.P, xg.w, xg.K, xg.mg, xg.base]; exact i3 0
  have pm := pmk_any (X := X) (x := x) (p := q) (pos := pos) (by rw [hK]; exact xc.T) (by rw [hK]; exact i1) (by rw [hK]; exact i2) F1 hr (by rw [hK]; exact i4) (passes_call tk fun _ _ _ _ z => z.elim) hg (by rw [xg.mg]; exact hm) (pa_cons ha pa_nil hs) hdb hs rfl
  refine PS.imp (ps_raise hc tk pm) fun En σ H ⟨p, r, h, m, s, k⟩ => ?_
  refine ⟨p, r, h, m, s, PostE.bindS (o := fa r h) s k fun d h1 p1 v H1 q1 l1 m1 r1 k1 => ?_⟩
  refine ⟨by show 1 ≤ 1000; omega, fun e ne => ⟨e, G.cA c, v, rfl, xc.T, xc.no, upd_same, fun dx n1 n2 => ⟨rfl, dx, [(xn c, v)], upd_same, ?_, ?_, ?_⟩⟩⟩
  · rw [upd_ne n2, upd_same]
  · rw [upd_ne n2] at n1; exact n1
  · rw [upd_ne n2] at n1
    have eh : upd (del (upd (upd (upd H1 e (exo e (G.cA c) none)) dx (exd dx [(xn c, v)])) e (exo e (G.cA c) (some dx))) e) dx (.xd [(xn c, v)]) = upd H1 dx (.xd [(xn c, v)]) := by
      funext b
      by_cases h1 : b = dx
      · rw [h1, upd_same, upd_same]
      · rw [upd_ne h1, upd_ne h1]
        by_cases h2 : b = e
        · rw [h2, del_same, ne]
        · rw [del_ne h2, upd_ne h2, upd_ne h1, upd_ne h2]
    rw [eh]
    have x1 : ∀ b o, H1 b = some o → (upd H1 dx (.xd [(xn c, v)])) b = some o := fun b o e => by rw [upd_ne (ne_of_none e n1)]; exact e
    exact k1 p1 _ _ σ _ (List.prefix_refl _) (Le.ext x1) (m1.ext x1) ((s.mono l1 q1).mono (Le.ext x1) (List.prefix_refl _)) ⟨rfl, dx, v, rfl, upd_same, r1.mono (Le.ext x1) (List.prefix_refl _)⟩
end
end RG

end

section
/-! RgKe: try .. except C as e: the clause keeps e; later e.f and isinstance(e, ..). -/
namespace RG
open PySem L2 PyProof.Rows

section
variable {X : Cx} {pins : List (Addr × Obj)} {σ : L2.St} {H : Hp} {s : Shared}
/-- a pinned object becomes a thing of the abstract heap -/
theorem inv_track {a : Addr} {oe : Obj} {φ : Heap → Prop} (I : Inv X ((a, oe) :: pins) σ H s) (n0 : ∀ o, X.s_0.heap.get? a = some o → a ∈ X.ex) (np : ∀ p ∈ X.pn ++ pins, p.1 ≠ a)
    (hφ : φ s.heap) (hst : ∀ h1 h2 : Heap, φ h1 → (∀ o, h1.get? a = some o → h2.get? a = some o) → φ h2) : Inv X pins σ (upd H a (.ext φ)) s := by
  obtain ⟨ha, na, nl, nf, nc⟩ := I.pin (a, oe) (List.mem_append_right _ List.mem_cons_self)
  have ext : ∀ b o, H b = some o → (upd H a (.ext φ)) b = some o := fun b o e => by rw [upd_ne (ne_of_none e na)]; exact e
  refine ⟨I.ok, I.os, I.bare, ⟨I.base.keep, I.base.slot, fun b o e n hx => ?_, I.base.there, fun b xs e => ext _ _ (I.base.tups b xs e), fun b o u e => ext _ _ (I.base.frzs b o u e), fun b ps e => ?_⟩, I.loc, I.cell, ?_, fun x c e => ?_, fun p hp => ?_, fun b o e => ?_, I.len⟩
  · have nb : b ≠ a := fun z => by subst z; exact hx (n0 o e)
    rw [upd_ne nb]
    exact I.base.free b o e n hx
  · obtain ⟨more, q⟩ := I.base.tbls b ps e
    exact ⟨more, ext _ _ q⟩
  · rw [upd_ne (Ne.symm nl)]; exact I.free
  · have nb : c ≠ a := fun z => by
      subst z
      obtain ⟨v, o, q1, q2⟩ := I.cell x c e
      rw [ha] at q1
      cases q1
      exact nc v q2
    rw [upd_ne nb]; exact I.freeC x c e
  · obtain ⟨q1, q2, q3⟩ := I.pin p (by
      rcases List.mem_append.mp hp with z | z
      · exact List.mem_append_left _ z
      · exact List.mem_append_right _ (List.mem_cons_of_mem _ z))
    exact ⟨q1, by rw [upd_ne (np p hp)]; exact q2, q3⟩
  · by_cases hb : b = a
    · subst hb
      rw [upd_same] at e
      cases e
      exact ⟨hφ, ⟨oe, ha⟩, hst⟩
    · rw [upd_ne hb] at e
      exact (I.hok b o e).stay (fun _ _ _ q => q) (fun c q => ext _ _ q) fun c xs q => ext _ _ q
theorem inv_pin {a : Addr} {oe : Obj} {pn' : List (Addr × Obj)} (I : Inv (X.suite a ((a, oe) :: (X.pn ++ pins))) pn' σ H s) (ok : X.Ok) : Inv X ((a, oe) :: pins) σ H s :=
  ⟨ok, I.os, I.bare, I.base, I.loc, I.cell, I.free, I.freeC, fun p hp => by
    refine I.pin p (List.mem_append_left _ ?_)
    rcases List.mem_append.mp hp with z | z
    · exact List.mem_cons_of_mem _ (List.mem_append_left _ z)
    · rcases List.mem_cons.mp z with z | z
      · rw [z]; exact List.mem_cons_self
      · exact List.mem_cons_of_mem _ (List.mem_append_right _ z), I.hok, I.len⟩
end

/-- what the clause 'except x as n', which keeps what it caught, wishes -/
def wKpt (K : PySem.W.Frag) (c : Value) (i : Nat) (ts : Addr → Value → Option Addr → TS) (Wout : WX) (D : Ends) : WX := fun cls d σ H =>
  ∃ b, PySem.W.exmOne K cls c = some b ∧ (b = true → ∀ a, H a = none → ts a cls d { nx := fun σ' H' => D.nx (σ'.set i none) (upd H' a (XO cls d a)), rt := fun v H' => D.rt v (upd H' a (XO cls d a)), bk := fun _ _ => False, ct := fun _ _ => False } (σ.set i (some (.ref a))) H) ∧
    (b = false → Wout cls d σ H)

section
variable {X : Cx} {x n : Str} {c : Value} {i : Nat} {body suite : List Stmt} {b₀ : Stmt} {np pos pos' : Pos} {tb : WX → TS} {ts : Addr → Value → Option Addr → TS} {Wout : WX}
theorem ps_try_keep (hs : X.stack = X.env :: X.outer) (hf : X.env.frame = some X.env.locals) (hN : X.N.Nodup) (hi : X.N[i]? = some n) (hln : X.env.kindOf n = some .local) (hc : Names X x c) (tk : Takes X Wout)
    (hb : ∀ (W : WX) (pn : List (Addr × Obj)) (xe : Value → Shared → Prop), Takes (X.tr pn xe) W → PassesOwn (model X.prog X.w) X.A X.env xe → PSs (X.tr pn xe) body (tb W))
    (hsu : ∀ (a : Addr) (oe : Obj) (cls : Value) (d : Option Addr) (pn : List (Addr × Obj)), Zc cls d oe → (∃ vs, oe.data = .fields vs) → PSs (X.suite a ((a, oe) :: pn)) (b₀ :: suite) (ts a cls d)) :
    PS X (.Try body [.ExceptHandler (some (.Name x np)) (some n) (b₀ :: suite) pos'] [] [] pos) (fun D σ H => tb (wKpt X.K c i ts Wout D) D σ H) := by
  refine ⟨fun pins s σ H D I h => ?_⟩
  have ok := I.ok
  have hfr : X.A.frames = some (X.env :: X.outer) := by rw [ok.frames, hs]
  have hloc : Loc X.env.scope n := .inl hln
  refine wpAny_Try_except ?_
  refine wpAny_mono ((hb (wKpt X.K c i ts Wout D) (X.pn ++ pins) (fun e s₁ => wpAny (model X.prog X.w) X.A (noteFrame e X.env) (fun _ s₂ => wpAny (model X.prog X.w) X.A (setFlight e none) (fun _ s₃ =>
    wpAny (model X.prog X.w) X.A (handleBy e X.env [.ExceptHandler (some (.Name x np)) (some n) (b₀ :: suite) pos']) (SP X pins D) X.xe s₃) X.xe s₂) X.xe s₁) (fun u s' xx => ?_) PassesOwn.looking).run [] s σ H D (I.toTry _) h) (fun f s1 hsp => ?_) (fun e s1 he => he)
  · -- the catch
    obtain ⟨a, B, sI, pins', σ', H', cls, d, rfl, J', nb, up, sky, na, os, ag, b, hb1, hyes, hno⟩ := xx
    have J : Inv X pins σ' H' sI := J'.ofTry ok
    have sky' : Sky B (X.env :: X.outer) a (Zc cls d) X.env.locals s'.heap := by rw [← hs]; exact sky
    have Ba : B.get? a = none := by
      rcases sky' with z | z | z
      · exact z.2.1
      · exact z.2.1
      · exact z.2.1
    show wpAny (model X.prog X.w) X.A (noteFrame (.ref a) X.env) _ _ _
    refine Sky.land Zc.steady hfr hf sky' fun h3 fl3 up3 => ?_
    have J3 : Inv X pins σ' H' { s' with heap := h3 } := J.landed nb fl3.1 (up.trans up3) os ag
    obtain ⟨oe3, vs3, he3, hz3, hd3⟩ := fl3.there
    have notFr : ∀ {h : Heap} {o : Obj} {vs : Array Value}, h.FunFrames B (X.env :: X.outer) → h.get? a = some o → o.data = .fields vs → a ∉ frs (X.env :: X.outer) := fun {h o vs} ff e dd hm => by
      obtain ⟨_, o', e', hnf⟩ := ff.mem hm
      rw [e] at e'; cases e'
      exact hnf _ dd
    have nfr := notFr fl3.2.2.1 he3 hd3
    have nL : a ≠ X.env.locals := fun z => nfr (List.mem_filterMap.mpr ⟨X.env, List.mem_cons_self, by rw [hf, z]⟩)
    have nF : a ∉ X.fs := fun hm => by
      obtain ⟨e, he, q⟩ := List.mem_filterMap.mp hm
      exact nfr (List.mem_filterMap.mpr ⟨e, List.mem_cons_of_mem _ he, q⟩)
    have n0 : ∀ o, X.s_0.heap.get? a = some o → a ∈ X.ex := fun o e => Classical.byContradiction fun hx => by
      obtain ⟨o', q⟩ := J.base.there a o e hx
      have := nb a o' q (by rw [hs]; exact nfr)
      rw [Ba] at this
      cases this
    have npn : ∀ p ∈ X.pn ++ pins, p.1 ≠ a := fun p hp z => by
      obtain ⟨q1, _, q3, q4, _⟩ := J.pin p hp
      have hm : p.1 ∉ frs X.stack := fun hm => by
        rcases List.mem_cons.mp (J.stkSub p.1 hm) with y | y
        · exact q3 y
        · exact q4 y
      have := nb _ _ q1 hm
      rw [z, Ba] at this
      cases this
    have S3 := J3.suite he3 hd3 na nL nF
    refine wpAny_handleBy_cons (codeAny_handlers_test ?_) (by intro q; cases q)
    have LT : PySem.W.Looks (model X.prog X.w) h3 (typeOf (.ref a)) cls := fun A Q E s k q => wpAny_typeOf_ref (k _ _ he3) (by rw [hz3.1]; exact q)
    have LM := PySem.W.exm_one (M := model X.prog X.w) (J3.kIn) LT hb1
    have test : ∀ {Q : Value → Shared → Prop} {E : Value → Shared → Prop}, Q c { s' with heap := h3 } → wpAny (model X.prog X.w) (X.A.mark (some (.ref a))) (eval (.Name x np) X.env) Q E { s' with heap := h3 } := fun {Q E} q => by
      obtain ⟨hg, hdbg, hm | ⟨hm, hv, hnn⟩⟩ := hc
      · exact ld_glob (X := X.suite a ((a, oe3) :: (X.pn ++ pins))) S3 hg hm q hdbg
      · exact ld_blt (X := X.suite a ((a, oe3) :: (X.pn ++ pins))) S3 hg hm hv q hnn hdbg
    refine test (LM.here ?_)
    cases b with
    | true =>
      refine codeAny_handlers_suite_as ?_
      refine HandSPX.lands_againZ fl3 fun h4 fl4 up4 => ?_
      have J4 : Inv X pins σ' H' { s' with heap := h4 } := J.landed nb fl4.1 ((up.trans up3).trans up4) os ag
      obtain ⟨oe4, vs4, he4, hz4, hd4⟩ := fl4.there
      have S4 := J4.suite he4 hd4 na nL nF
      refine store_ok (X := X.suite a ((a, oe4) :: (X.pn ++ pins))) (v := .ref a) S4 hN hi hloc rfl (fun s5 S5 => ?_) (.inr hln)
      refine wpAny_mono ((hsu a oe4 cls d (X.pn ++ pins) hz4 ⟨_, hd4⟩).run [] s5 _ H' _ S5 (hyes rfl a na)) (fun f s6 hsp => ?_) (fun _ _ z => False.elim z)
      have end_ : ∀ {σ6 : L2.St} {H6 : Hp} {Q : Shared → Prop}, Inv (X.suite a ((a, oe4) :: (X.pn ++ pins))) [] σ6 H6 s6 → (∀ s7, Inv X pins (σ6.set i none) (upd H6 a (XO cls d a)) s7 → Q s7) →
          wpAny (model X.prog X.w) X.A (do bindName X.env n .none; unbindBehindTheSuite X.env n pos') (fun _ s7 => Q s7) X.xe s6 := fun {σ6 H6 Q} S6 hq => gone_ok (inv_pin S6 ok) hN hi hln fun s7 J7 => hq s7 (by
            obtain ⟨ha7, _⟩ := J7.pin (a, oe4) (List.mem_append_right _ List.mem_cons_self)
            exact inv_track J7 n0 npn ⟨oe4, vs4, ha7, hz4, hd4⟩ fun h1 h2 ⟨o, v, e, r⟩ k => ⟨o, v, k o e, r⟩)
      cases f with
      | next =>
        obtain ⟨σ6, H6, S6, q6⟩ := hsp
        exact end_ S6 fun s7 J7 => ⟨_, _, J7, q6⟩
      | brk =>
        obtain ⟨σ6, H6, S6, q6⟩ := hsp
        exact q6.elim
      | cont =>
        obtain ⟨σ6, H6, S6, q6⟩ := hsp
        exact q6.elim
      | ret u =>
        obtain ⟨v6, σ6, H6, S6, r6, q6⟩ := hsp
        exact end_ S6 fun s7 J7 => ⟨_, _, _, J7, r6, q6⟩
    | false =>
      show wpAny _ X.A (handleBy (.ref a) X.env []) _ _ _
      refine wpAny_handleBy_nil ?_
      obtain ⟨k1, k2, k3, oe, vs, T, oT, ts', he, hz, hd, h1, hr⟩ := id fl3
      unfold PySem.passOn
      refine wpAny_bind (wpAny_field he hd h1 ?_)
      rw [if_neg (show ¬ ((Value.ref T == Value.none) = true) from by simp)]
      have fin : wpAny (model X.prog X.w) X.A (setFlight (.ref a) X.env.frame) (fun _ s4 => wpAny (model X.prog X.w) X.A (throw (.ref a) : Sem Flow) (SP X pins D) X.xe s4) X.xe { s' with heap := h3 } := by
        rw [hf]
        refine HandSPX.setFlight_upZ fl3 fun h4 hh4 up4 => wpAny_throw (tk _ _ ?_)
        exact ⟨a, B, sI, pins, σ', H', cls, d, rfl, J, nb, (up.trans up3).trans up4, .inr (.inr (by rw [hs]; exact hh4)), na, os, ag, hno rfl⟩
      first
        | exact wpAny_bind (wpAny_pure (wpAny_bind fin))
        | exact wpAny_bind fin
  · cases f with
    | next =>
      obtain ⟨σ', H', J', q⟩ := hsp
      exact wpAny_execs_nil ⟨σ', H', J'.ofTry ok, q⟩
    | brk =>
      obtain ⟨σ', H', J', q⟩ := hsp
      exact ⟨σ', H', J'.ofTry ok, q⟩
    | cont =>
      obtain ⟨σ', H', J', q⟩ := hsp
      exact ⟨σ', H', J'.ofTry ok, q⟩
    | ret u =>
      obtain ⟨v, σ', H', J', r, q⟩ := hsp
      exact ⟨v, σ', H', J'.ofTry ok, r, q⟩
end

section
variable {X : Cx}
/-- e.f of a kept exception -/
theorem pe_xo {e : Expr} {te : TE} {pos : Pos} {n : Str} (he : PE X e te) (hb : attributeBase e n X.env (eval e X.env) = eval e X.env) :
    PE X (.Attribute e n pos) (fun σ H Q => te σ H fun x H1 => ∃ (a C dd : Addr) (fs : List (Str × V)) (v : V), x = .ref a ∧ XfC X.K C ∧ PySem.W.findIn X.K (.ref C) n = some none ∧ H1 a = some (XO (.ref C) (some dd) a) ∧ H1 dd = some (.xd fs) ∧ fs.lookup n = some v ∧ Q v H1) := by
  refine ⟨fun pins s σ H Q I h => ?_⟩
  refine attr_of hb (thn (he.run pins s σ H _ I h) fun u s1 hh => ?_)
  obtain ⟨x, H1, I1, rx, a, C, dd, fs, v, ex, T, hno, hx, ea, l, q⟩ := hh
  subst ex
  obtain rfl : u = Value.ref a := rx
  obtain ⟨⟨oe, vs, ha, hz, hd⟩, _⟩ := I1.hok a _ hx
  have hx : ObjOk X.prog X.w H1 s1.heap dd (.xd fs) := I1.hok dd _ ea
  obtain ⟨mA, hns, hr⟩ := hx
  obtain ⟨od, ho, hl⟩ := lookIn_ns hns
  obtain ⟨u, hu, ru⟩ := RelO.some_of (v := v) (o := mA n) (by rw [← l]; exact hr n)
  have J : PySem.W.InstAt s1.heap a oe C (some od) := ⟨ha, hz.1, by unfold PySem.W.notCls; rw [hd] <;> rfl, by rw [hz.2]; exact ho⟩
  exact HandSPX.exc_get I1.kIn J T.ga T.gg T.exC (PySem.W.findObj_own T.hdC hno rfl (by rw [hl, hu])) (handed_of ru) ⟨v, H1, I1.tok _, ru, q⟩
theorem kit_xo {a C dd : Addr} {fs : List (Str × V)} {pins : List (Addr × Obj)} {σ : L2.St} {H : Hp} {s : Shared} (I : Inv X pins σ H s) (hx : H a = some (XO (.ref C) (some dd) a)) (hd : H dd = some (.xd fs)) :
    ∃ oe od, PySem.W.InstAt s.heap a oe C (some od) := by
  obtain ⟨⟨oe, vs, ha, hz, hdv⟩, _⟩ := I.hok a _ hx
  have hx : ObjOk X.prog X.w H s.heap dd (.xd fs) := I.hok dd _ hd
  obtain ⟨mA, hns, hr⟩ := hx
  obtain ⟨od, ho, hl⟩ := lookIn_ns hns
  exact ⟨oe, od, ha, hz.1, by unfold PySem.W.notCls; rw [hdv] <;> rfl, by rw [hz.2]; exact ho⟩
theorem call_xo1 : CallR X (.builtin "isinstance") (fun xs H Q => ∃ (a C dd : Addr) (fs : List (Str × V)) (c : V) (cv : Value) (b : Bool), xs = [.ref a, c] ∧ ClsV c cv ∧ ExcC X.K C ∧ H a = some (XO (.ref C) (some dd) a) ∧ H dd = some (.xd fs) ∧ PySem.W.kitOne X.K (.ref C) cv = some b ∧ Q (.bl b) H) := by
  intro pins s σ H xs us Q I r h
  obtain ⟨a, C, dd, fs, c, cv, b, rfl, hcv, E, hx, hd, e, q⟩ := h
  obtain ⟨u1, u2, rfl, r1, r2⟩ := vals2 r
  cases (show u1 = Value.ref a from r1)
  have ec := hcv.eq r2
  subst ec
  obtain ⟨oe, od, J⟩ := kit_xo I hx hd
  obtain ⟨cdD, hcD, _⟩ := PySem.W.any_some E.hd
  exact PySem.W.kia_one (PySem.W.kitx_exc (by rw [hcD]; rfl) E.hg E.hk E.hs E.ha E.hn E.ht E.hm) I.kIn J e (fun z => nomatch z) fun tk => ⟨.bl b, H, I.kept (t' := tk) fun _ _ z => z, rfl, q⟩
theorem call_xoT : CallR X (.builtin "isinstance") (fun xs H Q => ∃ (a C dd tp : Addr) (fs : List (Str × V)) (cs : List V) (cvs : List Value) (b : Bool), xs = [.ref a, .ref tp] ∧ H tp = some (.tup cs) ∧ Paired ClsV cs cvs ∧ ExcC X.K C ∧ H a = some (XO (.ref C) (some dd) a) ∧ H dd = some (.xd fs) ∧ PySem.W.kitAny X.K (.ref C) cvs = some b ∧ Q (.bl b) H) := by
  intro pins s σ H xs us Q I r h
  obtain ⟨a, C, dd, tp, fs, cs, cvs, b, rfl, ht, hcv, E, hx, hd, e, q⟩ := h
  obtain ⟨u1, u2, rfl, r1, r2⟩ := vals2 r
  cases (show u1 = Value.ref a from r1)
  cases (show u2 = Value.ref tp from r2)
  obtain ⟨oe, od, J⟩ := kit_xo I hx hd
  obtain ⟨cdD, hcD, _⟩ := PySem.W.any_some E.hd
  obtain ⟨_, its, rv, o, h1, h2, n, h3⟩ := (show ObjOk X.prog X.w H s.heap tp (.tup cs) from I.hok tp _ ht)
  have e3 := ClsV.all hcv rv
  subst e3
  obtain ⟨oc, odd, dt, sl⟩ := o
  simp only at h2 h3
  subst h2 h3
  exact PySem.W.kia_tup (PySem.W.kitx_exc (by rw [hcD]; rfl) E.hg E.hk E.hs E.ha E.hn E.ht E.hm) I.kIn J h1 e (fun z => nomatch z) fun tk => ⟨.bl b, H, I.kept (t' := tk) fun _ _ z => z, rfl, q⟩
end
end RG

end

section
/-! RgNew: is of truths; str(); list(range()); d[k] op= e; e.f and isinstance of kept exceptions; the clause that keeps. -/
namespace RG
open PySem L2 PyProof.Rows

section
variable {X : Cx} {G : Gx}
theorem op_isB : OpR X (compareOp .Is) (fun x y H Q => ∃ a b, x = .bl a ∧ y = .bl b ∧ Q (.bl (decide (a = b))) H) := by
  intro pins s σ H x y v u Q I rx ry h
  obtain ⟨a, b, rfl, rfl, q⟩ := h
  cases rx; cases ry
  show wpAny _ _ ((isSame (Value.bool a) (Value.bool b)) >>= fun z => pure (Value.bool z)) _ _ s
  refine wpAny_bind (wpAny_isSame_plain rfl (wpAny_pure ⟨.bl (decide (a = b)), H, I, ?_, q⟩))
  cases a <;> cases b <;> rfl
theorem op_notB : OpR X (compareOp .IsNot) (fun x y H Q => ∃ a b, x = .bl a ∧ y = .bl b ∧ Q (.bl (!decide (a = b))) H) := by
  intro pins s σ H x y v u Q I rx ry h
  obtain ⟨a, b, rfl, rfl, q⟩ := h
  cases rx; cases ry
  show wpAny _ _ ((isSame (Value.bool a) (Value.bool b)) >>= fun z => pure (Value.bool (!z))) _ _ s
  refine wpAny_bind (wpAny_isSame_plain rfl (wpAny_pure ⟨.bl (!decide (a = b)), H, I, ?_, q⟩))
  cases a <;> cases b <;> rfl
theorem o_isV : Op2 X G (compareOp .Is) fun x y h => evP .isV [x, y] h := by
  refine ⟨_, op_isB, fun p h H x y d e Q m r1 r2 k => ?_⟩
  cases r1 with
  | bl a =>
    cases r2 with
    | bl b => exact ⟨a, b, rfl, rfl, k.get m (.bl _)⟩
    | _ => exact False.elim k
  | _ => exact False.elim k
theorem o_notV : Op2 X G (compareOp .IsNot) fun x y h => evP .notV [x, y] h := by
  refine ⟨_, op_notB, fun p h H x y d e Q m r1 r2 k => ?_⟩
  cases r1 with
  | bl a =>
    cases r2 with
    | bl b => exact ⟨a, b, rfl, rfl, k.get m (.bl _)⟩
    | _ => exact False.elim k
  | _ => exact False.elim k
theorem c_toStr : CalN X G (.type "str") fun ds h => evP .toStr ds h := by
  refine ⟨fun vs H Q => (∃ i, vs = [.int i] ∧ i.natAbs.log2 < 1920 ∧ Q (.str (toString i)) H) ∨ ∃ a, vs = [.str a] ∧ Q (.str a) H, ?_, ?_⟩
  · intro pins s σ H vs us Q I r h
    rcases h with h | h
    · exact call_str_int pins s σ H vs us Q I r h
    · exact SkE.call_str_str pins s σ H vs us Q I r h
  intro p h H xs ds Q m r k
  cases r with
  | nil => exact False.elim k
  | cons r1 rs => cases rs with
    | cons r2 rs => cases r1 <;> exact False.elim k
    | nil => cases r1 with
      | int i =>
        have k : PostV G p H Q (match strO (.int i) with | some s => .ok (.str s) h | none => .stuck) := k
        unfold strO at k
        dsimp only at k
        by_cases c : i.natAbs.log2 < 1920
        · rw [if_pos c] at k
          have z := k.get m (.str _)
          exact .inl ⟨i, rfl, c, by simpa using z⟩
        · rw [if_neg c] at k
          exact k.elim
      | str s => exact .inr ⟨_, rfl, k.get m (.str s)⟩
      | _ => exact False.elim k
end

section
variable {X : Cx} {G : Gx} {xn : Nat → Str} {W : WX} {a o i e : Expr} {pos tpos : Pos} {fa fo fi fe : Env → Mem → Out D}
/-- e.f of a kept exception -/
theorem s_xw {k : Nat} {nm : Str} (hK : X.K = G.K) (hx : ∀ j, G.t.sub j j = true → G.t.sub k k = true → G.t.sub j k = true → XfC G.K (G.cA j) ∧ PySem.W.findIn G.K (.ref (G.cA j)) nm = some none ∧ G.xN j = nm) (ha : PE X a (rE G xn W fa)) (hb : attributeBase a nm X.env (eval a X.env) = eval a X.env) :
    PE X (.Attribute a nm pos) (rE G xn W fun r h => (fa r h).bind fun d h => match d with
    | .exc j x => if G.t.sub j j ∧ G.t.sub k k ∧ G.t.sub j k then .ok x h else .stuck
    | _ => .stuck) :=
  PE.imp (pe_xo ha hb) fun σ H Q ⟨p, r, h, m, s, k0⟩ => ⟨p, r, h, m, s, PostE.bind (o := fa r h) k0 fun d h1 p1 v H1 q1 l1 m1 r1 k1 => by
    cases r1 with
    | @exc c a' dd x v' e1 e2 e3 rx =>
      dsimp only at k1
      by_cases cc : G.t.sub c c = true ∧ G.t.sub k k = true ∧ G.t.sub c k = true
      · rw [if_pos cc] at k1
        obtain ⟨x1, x2, x3⟩ := hx c cc.1 cc.2.1 cc.2.2
        exact ⟨a', G.cA c, dd, _, v', rfl, by rw [hK]; exact x1, by rw [hK]; exact x2, e1, e2, by rw [x3]; simp, k1 p1 _ H1 (List.prefix_refl _) (Le.refl _) m1 rx⟩
      · rw [if_neg cc] at k1
        exact k1.elim
    | _ => exact k1.elim⟩
/-- what is known of the program's exceptions for isinstance -/
structure KxOk (G : Gx) : Prop where
  ki : ∀ j k, G.t.sub j j = true → G.t.sub k k = true → PySem.W.kitOne G.K (.ref (G.cA j)) (.ref (G.cA k)) = some (G.t.sub j k)
  kv : ∀ j, G.t.sub j j = true → PySem.W.kitOne G.K (.ref (G.cA j)) (.type "ValueError") = some (G.t.sub j 99)
  ec : ∀ j, G.t.sub j j = true → ExcC G.K (G.cA j)
theorem s_isxV {q q2 : Pos} (hK : X.K = G.K) (kx : KxOk G) (hg : Gl X "isinstance") (hm : X.mg "isinstance" = none) (hg2 : Gl X "ValueError") (hm2 : X.mg "ValueError" = none) (ha : PE X a (rE G xn W fa))
    (hs : starEach [a, .Name "ValueError" q2] X.env = (false, eval a X.env) :: starEach [.Name "ValueError" q2] X.env) :
    PE X (.Call (.Name "isinstance" q) [a, .Name "ValueError" q2] [] pos) (rE G xn W fun r h => (fa r h).bind fun d h => match d with
    | .exc j _ => if G.t.sub j j then .ok (.bl ([99].any fun k => G.t.sub j k)) h else .stuck
    | _ => .stuck) :=
  PE.imp (pe_callB call_xo1 hg hm PyProof.Rows.boot_isinstance (pa_cons ha (pa_cons (pe_bltn (v := .ty "ValueError") hg2 hm2 PyProof.Rows.Boot.«ValueError» rfl (by decide) (by decide)) pa_nil rfl) hs) (by decide) (by decide) hs rfl)
    fun σ H Q ⟨p, r, h, m, s, k0⟩ => ⟨p, r, h, m, s, PostE.bind (o := fa r h) k0 fun d h1 p1 v H1 q1 l1 m1 r1 k1 => by
      cases r1 with
      | @exc c a' dd x v' e1 e2 e3 rx =>
        dsimp only at k1
        rw [if_pos e3] at k1
        exact ⟨a', G.cA c, dd, _, .ty "ValueError", _, G.t.sub c 99, rfl, .ty _, by rw [hK]; exact kx.ec c e3, e1, e2, by rw [hK]; exact kx.kv c e3, by simpa using k1 p1 _ H1 (List.prefix_refl _) (Le.refl _) m1 (.bl _)⟩
      | _ => exact k1.elim⟩
theorem s_isx1 {c : Nat} {y : Str} {q q2 : Pos} (hK : X.K = G.K) (kx : KxOk G) (hg : Gl X "isinstance") (hm : X.mg "isinstance" = none) (hg2 : Gl X y) (hm2 : X.mg y = some (.ref (G.cA c))) (hc : G.t.sub c c = true) (hd : (y == ("__debug__" : Str)) = false) (ha : PE X a (rE G xn W fa))
    (hs : starEach [a, .Name y q2] X.env = (false, eval a X.env) :: starEach [.Name y q2] X.env) :
    PE X (.Call (.Name "isinstance" q) [a, .Name y q2] [] pos) (rE G xn W fun r h => (fa r h).bind fun d h => match d with
    | .exc j _ => if G.t.sub j j then .ok (.bl ([c].any fun k => G.t.sub j k)) h else .stuck
    | _ => .stuck) :=
  PE.imp (pe_callB call_xo1 hg hm PyProof.Rows.boot_isinstance (pa_cons ha (pa_cons (pe_glob (v := .ref (G.cA c)) hg2 hm2 rfl hd) pa_nil rfl) hs) (by decide) (by decide) hs rfl)
    fun σ H Q ⟨p, r, h, m, s, k0⟩ => ⟨p, r, h, m, s, PostE.bind (o := fa r h) k0 fun d h1 p1 v H1 q1 l1 m1 r1 k1 => by
      cases r1 with
      | @exc j a' dd x v' e1 e2 e3 rx =>
        dsimp only at k1
        rw [if_pos e3] at k1
        exact ⟨a', G.cA j, dd, _, .ref (G.cA c), _, G.t.sub j c, rfl, .own _, by rw [hK]; exact kx.ec j e3, e1, e2, by rw [hK]; exact kx.ki j c e3 hc, by simpa using k1 p1 _ H1 (List.prefix_refl _) (Le.refl _) m1 (.bl _)⟩
      | _ => exact k1.elim⟩
theorem kit_anyN {K : PySem.W.Frag} {t : Value} {b : Nat → Bool} {f : Nat → Value} : ∀ {cs : List Nat}, (∀ c ∈ cs, PySem.W.kitOne K t (f c) = some (b c)) → PySem.W.kitAny K t (cs.map f) = some (cs.any b)
  | [], _ => rfl
  | c :: cs, h => by
    refine kitAny_cons (h c List.mem_cons_self) (fun z => ?_) fun z => ?_
    · rw [kit_anyN fun k hk => h k (List.mem_cons_of_mem _ hk)]
      rw [List.any_cons, z, Bool.false_or]
    · rw [List.any_cons, z, Bool.true_or]
theorem cls_pairsN {f : Nat → Addr} : ∀ cs : List Nat, Paired ClsV (cs.map fun c => V.ref (f c)) (cs.map fun c => Value.ref (f c))
  | [] => .nil
  | c :: cs => .cons (.own _) (cls_pairsN cs)
theorem s_isxT {cs : List Nat} {es : List Expr} {kk : Nat} {q q2 : Pos} {t : TA} (hK : X.K = G.K) (kx : KxOk G) (hg : Gl X "isinstance") (hm : X.mg "isinstance" = none) (t1 : PA X es t) (t2 : ∀ σ H Q, Q (cs.map fun c => V.ref (G.cA c)) H → t σ H Q) (t3 : ∀ c ∈ cs, G.t.sub c c = true) (hl : cs.length ≤ 1000)
    (ha : PE X a (rE G xn W fa)) (hs : starEach [a, .Tuple es kk q2] X.env = (false, eval a X.env) :: starEach [.Tuple es kk q2] X.env) :
    PE X (.Call (.Name "isinstance" q) [a, .Tuple es kk q2] [] pos) (rE G xn W fun r h => (fa r h).bind fun d h => match d with
    | .exc j _ => if G.t.sub j j then .ok (.bl (cs.any fun k => G.t.sub j k)) h else .stuck
    | _ => .stuck) :=
  PE.imp (pe_callB call_xoT hg hm PyProof.Rows.boot_isinstance (pa_cons ha (pa_cons (pe_tup t1) pa_nil rfl) hs) (by decide) (by decide) hs rfl)
    fun σ H Q ⟨p, r, h, m, s, k0⟩ => ⟨p, r, h, m, s, PostE.bind (o := fa r h) k0 fun d h1 p1 v H1 q1 l1 m1 r1 k1 => by
      cases r1 with
      | @exc j a' dd x v' e1 e2 e3 rx =>
        dsimp only at k1
        rw [if_pos e3] at k1
        refine t2 σ H1 _ ⟨by rw [List.length_map, sizeLine_eq]; omega, fun tp nt => ?_⟩
        have x1 : ∀ b o, H1 b = some o → (upd H1 tp (.tup (cs.map fun c => V.ref (G.cA c)))) b = some o := fun b o e => by rw [upd_ne (ne_of_none e nt)]; exact e
        exact ⟨a', G.cA j, dd, tp, _, _, _, cs.any fun c => G.t.sub j c, rfl, upd_same, cls_pairsN (f := G.cA) cs, by rw [hK]; exact kx.ec j e3, x1 _ _ e1, x1 _ _ e2, by rw [hK]; exact kit_anyN (f := fun c => Value.ref (G.cA c)) fun c hc => kx.ki j c e3 (t3 c hc), k1 p1 _ _ (List.prefix_refl _) (Le.ext x1) (m1.ext x1) (.bl _)⟩
      | _ => exact k1.elim⟩

/-! ### list(range()) -/
theorem bindA {a b c : Type} (m : Out a) (f : a → Mem → Out b) (g : b → Mem → Out c) : (m.bind f).bind g = m.bind fun x h => (f x h).bind g := by cases m <;> rfl
theorem rg_rel {H : Hp} {p : List Addr} (i : Int) (n : Nat) : RelDs G H p (rngD i n) ((List.range n).map fun k : Nat => V.int (i + (k : Int))) := by
  unfold rngD
  induction n with
  | zero => exact .nil
  | succ n ih =>
    rw [List.range_succ, List.map_append, List.map_append]
    exact ih.append (.cons (.int _) .nil)
theorem s_lrng1 {q q2 p2 : Pos} (hc : X.calm = true) (hg : Gl X "list") (hm : X.mg "list" = none) (hg2 : Gl X "range") (hm2 : X.mg "range" = none) (ha : PE X a (rE G xn W fa)) (hs : starEach [a] X.env = (false, eval a X.env) :: starEach [] X.env) :
    PE X (.Call (.Name "list" q) [.Call (.Name "range" q2) [a] [] p2] [] pos) (rE G xn W fun r h => ((fa r h).bind fun d h => match d with
      | .int j => if -(2 ^ 62) ≤ j ∧ j < 2 ^ 62 then .ok (⟨rngD 0 j.toNat, []⟩ : Src) h else .stuck
      | _ => .stuck).bind fun s h => if s.items.length ≤ 2 ^ 24 then new (.lst s.items) h else .stuck) :=
  PE.imp (pe_listRg hc hg hm (prg_1 hg2 hm2 ha hs) rfl) fun σ H Q ⟨p, r, h, m, s, k⟩ => ⟨p, r, h, m, s, by
    dsimp only at k
    rw [bindA] at k
    exact PostE.bind (o := fa r h) k fun d h1 p1 v H1 q1 l1 m1 r1 k1 => by
      cases r1 with
      | int j =>
        dsimp only at k1
        by_cases c : -(2 ^ 62) ≤ j ∧ j < 2 ^ 62
        · rw [if_pos c] at k1
          have k1 : PostE G xn p1 σ H1 W Q (if (rngD 0 j.toNat).length ≤ 2 ^ 24 then new (.lst (rngD 0 j.toNat)) h1 else .stuck) := k1
          by_cases c2 : (rngD 0 j.toNat).length ≤ 2 ^ 24
          · rw [if_pos c2] at k1
            have ln : (rngD 0 j.toNat).length = j.toNat := by unfold rngD; simp
            rw [ln] at c2
            have ev : rgV 0 j = (List.range j.toNat).map fun k : Nat => V.int (0 + (k : Int)) := by unfold rgV; rw [Int.sub_zero]
            refine ⟨j, rfl, ⟨by omega, by omega, c.1, c.2, by rw [Int.sub_zero]; exact c2⟩, ?_⟩
            rw [ev]
            exact post_new (k1.v (by intro x h z; cases z)) m1 fun a na => ⟨_, upd_same, rg_rel 0 j.toNat⟩
          · rw [if_neg c2] at k1
            exact k1.elim
        · rw [if_neg c] at k1
          exact k1.elim
      | _ => exact k1.elim⟩
theorem s_lrng2 {b : Expr} {fb : Env → Mem → Out D} {q q2 p2 : Pos} (hc : X.calm = true) (hg : Gl X "list") (hm : X.mg "list" = none) (hg2 : Gl X "range") (hm2 : X.mg "range" = none) (ha : PE X a (rE G xn W fa)) (hb : PE X b (rE G xn W fb)) (hs : starEach [a, b] X.env = (false, eval a X.env) :: starEach [b] X.env) (hs2 : starEach [b] X.env = (false, eval b X.env) :: starEach [] X.env) (hpl : (backTo p2 (starEach [b] X.env)).any (·.1) = false) :
    PE X (.Call (.Name "list" q) [.Call (.Name "range" q2) [a, b] [] p2] [] pos) (rE G xn W fun r h => ((fa r h).bind fun d h => (fb r h).bind fun e h => match d, e with
      | .int i, .int j => if -(2 ^ 62) ≤ i ∧ i < 2 ^ 62 ∧ -(2 ^ 62) ≤ j ∧ j < 2 ^ 62 then .ok (⟨rngD i (j - i).toNat, []⟩ : Src) h else .stuck
      | _, _ => .stuck).bind fun s h => if s.items.length ≤ 2 ^ 24 then new (.lst s.items) h else .stuck) :=
  PE.imp (pe_listRg hc hg hm (prg_2 hg2 hm2 ha hb hs hs2 hpl) rfl) fun σ H Q ⟨p, r, h, m, s, k⟩ => ⟨p, r, h, m, s, by
    dsimp only at k
    rw [bindA] at k
    simp only [bindA] at k
    exact PostE.bind (o := fa r h) k fun d h1 p1 v H1 q1 l1 m1 r1 k1 => ⟨p1, r, h1, m1, s.mono l1 q1, PostE.bind (o := fb r h1) k1 fun e h2 p2 u H2 q2 l2 m2 r2 k2 => by
      cases r1 with
      | int i =>
        cases r2 with
        | int j =>
          dsimp only at k2
          by_cases c : -(2 ^ 62) ≤ i ∧ i < 2 ^ 62 ∧ -(2 ^ 62) ≤ j ∧ j < 2 ^ 62
          · rw [if_pos c] at k2
            have k2 : PostE G xn p2 σ H2 W Q (if (rngD i (j - i).toNat).length ≤ 2 ^ 24 then new (.lst (rngD i (j - i).toNat)) h2 else .stuck) := k2
            by_cases c2 : (rngD i (j - i).toNat).length ≤ 2 ^ 24
            · rw [if_pos c2] at k2
              have ln : (rngD i (j - i).toNat).length = (j - i).toNat := by unfold rngD; simp
              rw [ln] at c2
              refine ⟨i, j, rfl, rfl, ⟨c.1, c.2.1, c.2.2.1, c.2.2.2, c2⟩, ?_⟩
              exact post_new (k2.v (by intro x h z; cases z)) m2 fun a na => ⟨_, upd_same, rg_rel i (j - i).toNat⟩
            · rw [if_neg c2] at k2
              exact k2.elim
          · rw [if_neg c] at k2
            exact k2.elim
        | _ => exact k2.elim
      | _ => exact k2.elim⟩⟩

/-! ### d[k] op= e -/
theorem run_bs {pins : List (Addr × Obj)} {s : Shared} {σ : L2.St} {H : Hp} {p : List Addr} {r : Env} {h : Mem} {En : Ends} {g : D → Mem → Out Fl} {Q : Value → Shared → Prop} (ho : PE X o (rE G xn W fo)) (I : Inv X pins σ H s) (m : RelM G p h H) (sg : RelS G p r σ H) (k : PostS G xn p H W En ((fo r h).bs r g))
    (c : ∀ u s' v H' p' d h', Inv X pins σ H' s' → RelV v u → p <+: p' → Le G H H' → RelM G p' h' H' → RelD G H' p' d v → PostS G xn p' H' W En (g d h') → Q u s') : wpAny (model X.prog X.w) X.A (eval o X.env) Q X.xe s := by
  refine thn (ho.run pins s σ H (fun x H' => ∃ p' d h', p <+: p' ∧ Le G H H' ∧ RelM G p' h' H' ∧ RelD G H' p' d x ∧ PostS G xn p' H' W En (g d h')) I ⟨p, r, h, m, sg, PostE.bindS (o := fo r h) sg k fun d h' p' v H' q l m' r' kk => ⟨p', d, h', q, l, m', r', kk⟩⟩) fun u s1 hh => ?_
  obtain ⟨x, H1, I1, rx, p1, d, h1, q, l, m1, r1, kk⟩ := hh
  exact c u s1 x H1 p1 d h1 I1 rx q l m1 r1 kk
theorem s_augS {op : Operator} {q : P} (hq : augOp op = some q) (hu : X.A.units + 65 < cLine) (ho : PE X o (rE G xn W fo)) (hi : PE X i (rE G xn W fi)) (he : PE X e (rE G xn W fe))
    (ha : ∀ ov iv new, augStore i ov iv new = (do holding [new, ov, iv] (setItem ov iv new); release [new, ov, iv] []; pure .next)) :
    PS X (.AugAssign (.Subscript o i tpos) op e pos) (rS G xn W fun r h => (fo r h).bs r fun x h => (fi r h).bs r fun k h => match x with
    | .ref n => match h[n]? with
      | some (.dct kvs) => if isKey k then (match kget k kvs with
        | some v => (fe r h).bs r fun d h => match aug q v d with
          | some z => match h[n]? with
            | some (.dct kvs2) => if kvs2.length < sizeLine then .ok (.nx r) (h.set n (.dct (kput k z kvs2))) else .stuck
            | _ => .stuck
          | none => .stuck
        | none => .stuck) else .stuck
      | _ => .stuck
    | _ => .stuck) := by
  have key : ∀ (fn : Int → Int → Int) (ip : InOp X op (fun x y H Q => ∃ i j, x = .int i ∧ y = .int j ∧ Q (.int (fn i j)) H)) (hz : ∀ a b z, aug q (.int a) (.int b) = some z → z = .int (fn a b)), PS X (.AugAssign (.Subscript o i tpos) op e pos) (rS G xn W fun r h => (fo r h).bs r fun x h => (fi r h).bs r fun k h => match x with
    | .ref n => match h[n]? with
      | some (.dct kvs) => if isKey k then (match kget k kvs with
        | some v => (fe r h).bs r fun d h => match aug q v d with
          | some z => match h[n]? with
            | some (.dct kvs2) => if kvs2.length < sizeLine then .ok (.nx r) (h.set n (.dct (kput k z kvs2))) else .stuck
            | _ => .stuck
          | none => .stuck
        | none => .stuck) else .stuck
      | _ => .stuck
    | _ => .stuck) := by
    intro fn ip hz
    refine ⟨fun pins s σ H D I ⟨p, r, h, m, sg, k⟩ => ?_⟩
    refine wpAny_AugAssign_SubscriptAny (run_bs ho I m sg k fun u s1 x H1 p1 d1 h1 I1 rx q1 l1 m1 r1 k1 => run_bs hi I1 m1 (sg.mono l1 q1) k1 fun iv s2 y H2 p2 d2 h2 I2 ry q2 l2 m2 r2 k2 => ?_) ha
    have r1 := r1.mono l2 q2
    have sg2 := (sg.mono l1 q1).mono l2 q2
    cases r1 with
    | @ref n a e1 =>
      dsimp only at k2
      split at k2
      · rename_i kvs c1
        split at k2
        · rename_i ck
          split at k2
          · rename_i v0 c2
            obtain ⟨b, e3, z⟩ := m2.at_ n _ c1
            rw [e1] at e3; cases e3
            obtain ⟨vs, h5, l5⟩ := z
            obtain ⟨kk, hk, rfl⟩ := keyR_of r2 ck
            obtain ⟨v, i3, i4⟩ := (kget_val l5 hk).1 _ c2
            obtain rfl : u = Value.ref a := rx
            refine d_getItem (v := v) (show X.A.units + 1 < cLine by omega) I2 (by rw [← i3]; exact DGet.k h5) ry fun w' s3 I3 rw' => run_bs he I3 m2 sg2 k2 fun w2 s4 y2 H3 p3 d3 h3 I4 ry2 q3 l3 m3 r3 k3 => ?_
            split at k3
            · rename_i z cz
              obtain ⟨a1, b1, rfl, rfl, _⟩ := aug_some cz
              have ez := hz a1 b1 z cz
              subst ez
              cases i4
              cases r3
              refine thn (ip pins s4 σ H3 (.int a1) (.int b1) w' w2 (fun z H' => z = .int (fn a1 b1) ∧ H' = H3) I4 rw' ry2 ⟨a1, b1, rfl, rfl, rfl, rfl⟩) fun w3 s5 hh => ?_
              obtain ⟨z, H4, I5, rz, rfl, rfl⟩ := hh
              split at k3
              · rename_i kvs2 c3
                split at k3
                · rename_i cl
                  obtain ⟨b, e3, z⟩ := m3.at_ n _ c3
                  rw [pre_get q3 e1] at e3; cases e3
                  obtain ⟨vs2, h6, l6⟩ := z
                  have le : Le G H4 (upd H4 a (.dK (putK vs2 kk (.int (fn a1 b1))))) := Le.mut h6 (fun _ z => by cases z) (fun _ _ z => by cases z)
                  refine d_setItem (show X.A.units + 1 < cLine by omega) I5 (DPut.k h6 (by rw [← l6.length]; exact cl)) ry rz fun s6 I6 => ⟨σ, _, I6, ?_⟩
                  refine k3 p3 σ _ (List.prefix_refl _) le (m3.set (pre_get q3 e1) h6 (fun _ z => by cases z) (fun _ _ z => by cases z) ⟨_, upd_same, ?_⟩) ((sg2.mono l3 q3).mono le (List.prefix_refl _))
                  exact RelK.mono le (List.prefix_refl _) (kput_rel hk (.int _) (dk_nodup I5 h6) l6)
                · exact k3.elim
              · exact k3.elim
            · exact k3.elim
          · exact k2.elim
        · exact k2.elim
      · exact k2.elim
    | _ => exact k2.elim
  cases op <;> first | (cases hq; done) | skip
  · cases hq
    exact key (fun i j => i + j) in_add fun a b z e => by cases e; rfl
  · cases hq
    exact key (fun i j => i - j) in_sub fun a b z e => by cases e; rfl
end
end RG

end

section
/-! RgChk1: what of a text is plain; the language's expressions by their parts. -/
namespace RG
open PySem L2 PyProof.Rows

def notStar : Expr → Bool
  | .Starred _ _ => false
  | _ => true
theorem star_of {a : Expr} {es : List Expr} {env : PySem.Env} (h : notStar a = true) : starEach (a :: es) env = (false, eval a env) :: starEach es env := by
  cases a <;> first | rfl | cases h
def allPlain (l : List Expr) : Bool := l.all notStar
theorem back_of {es : List Expr} {env : PySem.Env} {pos : Pos} (h : allPlain es = true) : (backTo pos (starEach es env)).any (·.1) = false := by
  induction es with
  | nil => rfl
  | cons a es ih =>
    unfold allPlain at h
    rw [List.all_cons, Bool.and_eq_true] at h
    rw [star_of h.1]
    show (false || (backTo pos (starEach es env)).any (·.1)) = false
    rw [ih h.2]; rfl
theorem back_all {es : List Expr} {env : PySem.Env} {pos : Pos} (h : allPlain es = true) : (backTo pos (starEach es env)).all (fun x => !x.1) = true := by
  induction es with
  | nil => rfl
  | cons a es ih =>
    unfold allPlain at h
    rw [List.all_cons, Bool.and_eq_true] at h
    rw [star_of h.1]
    show (true && (backTo pos (starEach es env)).all (fun x => !x.1)) = true
    rw [ih h.2]; rfl
def notSl : Expr → Bool
  | .Slice _ _ _ _ => false
  | _ => true
theorem plain_ix {b : Expr} (h : notSl b = true) : PlainIx b := by
  intro o i
  cases b <;> first | rfl | cases h
def notComp : Expr → Bool
  | .ListComp _ _ _ _ => false
  | .SetComp _ _ _ _ => false
  | .DictComp _ _ _ _ _ => false
  | _ => true
theorem swaps_of {e : Expr} {t : Option Expr} {l : Nat} {env : PySem.Env} (h : notComp e = true) : swapsWith e t l env = pure false := by
  cases e <;> first | rfl | cases h
def notCall0 : Expr → Bool
  | .Call (.Name _ _) [] [] _ => false
  | _ => true
theorem base_of {o : Expr} {x : Str} {env : PySem.Env} (h : notCall0 o = true) (w : Sem Value) : attributeBase o x env w = w := by
  unfold attributeBase
  split
  · cases h
  · rfl
def notSet : Expr → Bool
  | .Set _ _ _ => false
  | _ => true
theorem marks_of {op : CmpOp} {b : Expr} (h : notSet b = true) : behindInMarks op b = false := by
  cases b <;> first | rfl | cases h
theorem folded_of {e : Expr} {env : PySem.Env} (h : notSet e = true) (x : Value) : foldedSetIterable e env x = pure x := by
  cases e <;> first | rfl | cases h
def plainT : Expr → Bool
  | .UnaryOp .Not _ _ => false
  | .BoolOp _ _ _ => false
  | .IfExp _ _ _ _ => false
  | .Compare _ _ _ _ => false
  | _ => true
theorem true_of {e : Expr} {env : PySem.Env} (h : plainT e = true) : ∀ whole, isTrue e env whole = (do let v ← whole; standAt e.pos; holding [v] (truthy v)) := by
  intro whole
  cases e <;> first | rfl | cases h | skip
  rename_i op _ _
  cases op <;> first | rfl | cases h
def notTup : Expr → Bool
  | .Tuple _ _ _ => false
  | _ => true
def isNm : Expr → Bool
  | .Name _ _ => true
  | _ => false
theorem swapped_of {tg e : Expr} {env : PySem.Env} (h : notTup e = true) : swappedStores [tg] e env = pure none := by
  cases e <;> first | (cases tg <;> rfl) | cases h
theorem swapped_of2 {tg e : Expr} {env : PySem.Env} (h : isNm tg = true) : swappedStores [tg] e env = pure none := by
  cases tg <;> first | (cases e <;> rfl) | cases h
def isFlat : Expr → Bool
  | .Name _ _ => true
  | .Subscript _ _ _ => true
  | .Attribute _ _ _ => true
  | _ => false
theorem swapped_of3 {tg e : Expr} {env : PySem.Env} (h : isFlat tg = true) : swappedStores [tg] e env = pure none := by
  cases tg <;> first | (cases e <;> rfl) | cases h
theorem each_of {t : Expr} {ts : List Expr} {env : PySem.Env} (h : notStar t = true) : (assignEach (t :: ts) env).map (·.2) = assign t env :: (assignEach ts env).map (·.2) := by
  cases t <;> first | rfl | cases h
theorem each_len {env : PySem.Env} : ∀ (ts : List Expr), (assignEach ts env).length = ts.length
  | [] => rfl
  | t :: ts => by
    have := each_len (env := env) ts
    cases t <;> exact congrArg (· + 1) this
theorem each_st {env : PySem.Env} : ∀ (ts : List Expr), allPlain ts = true → (assignEach ts env).findIdx? (·.1) = none
  | [], _ => rfl
  | t :: ts, h => by
    unfold allPlain at h
    rw [List.all_cons, Bool.and_eq_true] at h
    have := each_st (env := env) ts h.2
    have e : ∃ g, assignEach (t :: ts) env = (false, g) :: assignEach ts env := by
      cases t <;> first | exact ⟨_, rfl⟩ | cases h.1
    obtain ⟨g, e⟩ := e
    rw [e, List.findIdx?_cons]
    show (if (false : Bool) = true then _ else _) = _
    rw [if_neg Bool.false_ne_true, this]
    rfl

/-! ### expressions by their parts -/
section
variable {c : Cl} {r : Env} {h : Mem}
theorem ev_pr1 (p : P) (a : E) : ev c (.pr p (.cons a .nil)) r h = (ev c a r h).bind fun x h => evP p [x] h := by
  simp only [ev, evs]
  cases ev c a r h <;> rfl
theorem ev_pr2 (p : P) (a b : E) : ev c (.pr p (.cons a (.cons b .nil))) r h = (ev c a r h).bind fun x h => (ev c b r h).bind fun y h => evP p [x, y] h := by
  simp only [ev, evs]
  cases ev c a r h with
  | ok x h' =>
    simp only [Out.bind]
    cases ev c b r h' <;> rfl
  | exc x h' => rfl
  | stuck => rfl
end
theorem noXQ (p : P) (ds : List D) (h : Mem) : NoX (evQ p ds h) := by
  intro x h' e
  unfold evQ at e
  split at e <;> (repeat' split at e) <;> cases e
theorem evQ_isB {p : P} {ds : List D} {h h' : Mem} {d : D} (hp : p ≠ .toStr) (e : evQ p ds h = .ok d h') : ∃ b, d = .bl b := by
  unfold evQ at e
  split at e
  · cases e; exact ⟨_, rfl⟩
  · cases e; exact ⟨_, rfl⟩
  · exact absurd rfl hp
  · cases e
theorem noX2 (p : P) (ds : List D) (h : Mem) : NoX (evP p ds h) := by
  intro x h' e
  unfold evP at e
  split at e <;> (try unfold slc at e) <;> (try unfold ixRef at e) <;> (try unfold new at e) <;> (repeat' split at e) <;> first | (cases e; done) | exact noXQ _ _ _ _ _ e
end RG

end

section
/-! RgChk2: comparisons, as values and as tests. -/
namespace RG
open PySem L2 PyProof.Rows

section
variable {X : Cx} {G : Gx} {xn : Nat → Str} {W : WX} {a b c : Expr} {pos : Pos} {fa fb fc : Env → Mem → Out D}
/-- a comparison, as a value and as a test -/
def Both (X : Cx) (G : Gx) (xn : Nat → Str) (W : WX) (e : Expr) (f : Env → Mem → Out D) : Prop :=
  (∃ t, PE X e t ∧ PT X e (tTest t) ∧ ∀ σ H Q, rE G xn W f σ H Q → t σ H Q) ∧ ∀ r h d h', f r h = .ok d h' → ∃ b, d = .bl b
theorem Both.pe {e : Expr} {f : Env → Mem → Out D} (b : Both X G xn W e f) : PE X e (rE G xn W f) := let ⟨⟨_, h1, _, h3⟩, _⟩ := b; PE.imp h1 h3
theorem Both.pt {e : Expr} {f : Env → Mem → Out D} (b : Both X G xn W e f) : PT X e (rTr G xn W f) := by
  obtain ⟨⟨t, h1, h2, h3⟩, hB⟩ := b
  refine PT.imp h2 fun σ H Q ⟨p, r, h, m, s, k⟩ => h3 σ H _ ⟨p, r, h, m, s, ?_⟩
  dsimp only at k
  cases e : f r h with
  | ok d h' =>
    rw [e] at k
    obtain ⟨b, rfl⟩ := hB r h d h' e
    intro p' v H' q l m' r'
    cases r'
    exact ⟨b, rfl, k p' H' q l m'⟩
  | exc x h' => rw [e] at k; exact k
  | stuck => rw [e] at k; exact k
theorem bind_isB {f : Out D} {g : D → Mem → Out D} (hg : ∀ x h d h', g x h = .ok d h' → ∃ b, d = .bl b) {d : D} {h' : Mem} (e : f.bind g = .ok d h') : ∃ b, d = .bl b := by
  cases f with
  | ok x h => exact hg x h d h' e
  | exc x h => cases e
  | stuck => cases e
theorem b_cmp {op : CmpOp} {f : D → D → Mem → Out D} (ho : Op2 X G (compareOp op) f) (nx : ∀ d e h, NoX (f d e h)) (hB : IsB f) (ha : PE X a (rE G xn W fa)) (hb : PE X b (rE G xn W fb)) (hm : behindInMarks op b = false) :
    Both X G xn W (.Compare a [op] [b] pos) (fun r h => (fa r h).bind fun x h => (fb r h).bind fun y h => f x y h) := by
  obtain ⟨r, ho, hp⟩ := ho
  refine ⟨⟨_, pe_cmpR ho ha hb hm, pt_cmpR ho ha hb hm, fun σ H Q ⟨p, r, h, m, s, k⟩ => ⟨p, r, h, m, s, PostE.bind (o := fa r h) k fun d h1 p1 v H1 q1 l1 m1 r1 k1 =>
    ⟨p1, r, h1, m1, s.mono l1 q1, PostE.bind (o := fb r h1) k1 fun e h2 p2 u H2 q2 l2 m2 r2 k2 => hp p2 h2 H2 v u d e Q m2 (r1.mono l2 q2) r2 (k2.v (nx d e h2))⟩⟩⟩, fun r h d h' e => ?_⟩
  exact bind_isB (fun x h d h' e => bind_isB (fun y h d h' e => hB x y h d h' e) e) e
theorem b_chain {op op' : CmpOp} {f f' : D → D → Mem → Out D} (ho : Op2 X G (compareOp op) f) (ho' : Op2 X G (compareOp op') f') (nx : ∀ d e h, NoX (f d e h)) (nx' : ∀ d e h, NoX (f' d e h)) (hB : IsB f) (hB' : IsB f')
    (ha : PE X a (rE G xn W fa)) (hb : PE X b (rE G xn W fb)) (hc : PE X c (rE G xn W fc)) (hm : lastMarks [op, op'] [b, c] = false) :
    Both X G xn W (.Compare a [op, op'] [b, c] pos) (fun r h => (fa r h).bind fun dx h => (fb r h).bind fun dy h => (f dx dy h).bind fun k h => match k with
    | .bl true => (fc r h).bind fun dz h => f' dy dz h
    | .bl false => .ok (.bl false) h
    | _ => .stuck) := by
  obtain ⟨r, ho, hp⟩ := ho
  obtain ⟨r', ho', hp'⟩ := ho'
  refine ⟨⟨_, pe_chain ho ho' ha hb hc hm, pt_chain ho ho' ha hb hc hm, fun σ H Q ⟨p, r, h, m, s, k⟩ => ⟨p, r, h, m, s, PostE.bind (o := fa r h) k fun d h1 p1 v H1 q1 l1 m1 r1 k1 =>
    ⟨p1, r, h1, m1, s.mono l1 q1, PostE.bind (o := fb r h1) k1 fun e h2 p2 u H2 q2 l2 m2 r2 k2 => hp p2 h2 H2 v u d e _ m2 (r1.mono l2 q2) r2 (by
      cases z : f d e h2 with
      | ok x h3 =>
        rw [z] at k2
        obtain ⟨b', rfl⟩ := hB d e h2 x h3 z
        intro p3 v3 H3 q3 l3 m3 r3
        cases r3
        refine ⟨b', rfl, ?_⟩
        have k2 := PostE.mono (o := (match D.bl b' with | .bl true => (fc r h3).bind fun dz h => f' e dz h | .bl false => .ok (.bl false) h3 | _ => .stuck)) k2 q3 l3
        cases b' with
        | true =>
          exact ⟨p3, r, h3, m3, (s.mono (l1.trans (l2.trans l3)) (q1.trans (q2.trans q3))), PostE.bind (o := fc r h3) k2 fun dz h4 p4 w4 H4 q4 l4 m4 r4 k4 => hp' p4 h4 H4 u w4 e dz Q m4 (r2.mono (l3.trans l4) (q3.trans q4)) r4 (k4.v (nx' e dz h4))⟩
        | false => exact k2 p3 _ H3 (List.prefix_refl _) (Le.refl _) m3 (.bl _)
      | exc x h3 => exact absurd z (nx d e h2 x h3)
      | stuck => rw [z] at k2; exact k2)⟩⟩⟩, fun r h d h' e => ?_⟩
  refine bind_isB (fun x h d h' e => bind_isB (fun y h d h' e => bind_isB (fun z h d h' e => ?_) e) e) e
  split at e
  · exact bind_isB (fun w h d h' e => hB' y w h d h' e) e
  · cases e; exact ⟨_, rfl⟩
  · cases e
theorem b_isN {j : Nat} {pos' : Pos} (ha : PE X a (rE G xn W fa)) : Both X G xn W (.Compare a [.Is] [.Constant .none j pos'] pos) (fun r h => (fa r h).bind fun x h => evP .isN [x] h) := by
  refine ⟨⟨_, pe_cmp (pc_isN ha), pt_cmp (pc_isN ha), fun σ H Q ⟨p, r, h, m, s, k⟩ => ⟨p, r, h, m, s, PostE.bind (o := fa r h) k fun d h1 p1 v H1 q1 l1 m1 r1 k1 => by
    cases r1 <;> exact k1 p1 _ H1 (List.prefix_refl _) (Le.refl _) m1 (.bl _)⟩⟩, fun r h d h' e => bind_isB (fun x h d h' e => ?_) e⟩
  cases (show Out.ok (D.bl _) h = .ok d h' from e); exact ⟨_, rfl⟩
theorem b_notN {j : Nat} {pos' : Pos} (ha : PE X a (rE G xn W fa)) : Both X G xn W (.Compare a [.IsNot] [.Constant .none j pos'] pos) (fun r h => (fa r h).bind fun x h => evP .notN [x] h) := by
  refine ⟨⟨_, pe_cmp (pc_notN ha), pt_cmp (pc_notN ha), fun σ H Q ⟨p, r, h, m, s, k⟩ => ⟨p, r, h, m, s, PostE.bind (o := fa r h) k fun d h1 p1 v H1 q1 l1 m1 r1 k1 => by
    cases r1 <;> exact k1 p1 _ H1 (List.prefix_refl _) (Le.refl _) m1 (.bl _)⟩⟩, fun r h d h' e => bind_isB (fun x h d h' e => ?_) e⟩
  cases (show Out.ok (D.bl _) h = .ok d h' from e); exact ⟨_, rfl⟩
theorem b_kin {g : Nat} {kvs : List (D × D)} {x : Str} {q : Pos} (xg : XG X G) (D : KdOk G g kvs) (hg : Gl X x) (hm : X.mg x = some (.ref (G.kA g))) (hd : (x == ("__debug__" : Str)) = false) (ha : PE X a (rE G xn W fa)) (hb : behindInMarks .In (.Name x q) = false) :
    Both X G xn W (.Compare a [.In] [.Name x q] pos) (fun r h => (fa r h).bind fun d h => match d with
    | .str s => .ok (.bl (kget (.str s) kvs).isSome) h
    | _ => .stuck) := by
  obtain ⟨lo, es, n, hl, hk, hv⟩ := D
  have kd : KDict X.K X.w (G.kA g) es n := ⟨xg.K ▸ hl, xg.w ▸ hk, lo⟩
  refine ⟨⟨_, pe_cmpR (op_in_kd kd) ha (pe_glob hg hm (v := .ref (G.kA g)) rfl hd) hb, pt_cmpR (op_in_kd kd) ha (pe_glob hg hm (v := .ref (G.kA g)) rfl hd) hb, fun σ H Q ⟨p, r, h, m, s, k⟩ => ⟨p, r, h, m, s, PostE.bind (o := fa r h) k fun d h1 p1 v H1 q1 l1 m1 r1 k1 => ?_⟩⟩, fun r h d h' e => bind_isB (fun x h d h' e => ?_) e⟩
  · cases r1 with
    | str z =>
      dsimp only at k1
      rcases hv z with ⟨d, v, u, e1, e2, e3, e4⟩ | ⟨e1, e2⟩
      · rw [e1] at k1
        exact ⟨_, _, rfl, rfl, xg.K ▸ e2, k1 p1 _ H1 (List.prefix_refl _) (Le.refl _) m1 (.bl _)⟩
      · rw [e1] at k1
        exact ⟨_, _, rfl, rfl, xg.K ▸ e2, k1 p1 _ H1 (List.prefix_refl _) (Le.refl _) m1 (.bl _)⟩
    | _ => exact k1.elim
  · cases x with
    | str s => cases e; exact ⟨_, rfl⟩
    | _ => cases e
theorem b_knin {g : Nat} {kvs : List (D × D)} {x : Str} {q : Pos} (xg : XG X G) (D : KdOk G g kvs) (hg : Gl X x) (hm : X.mg x = some (.ref (G.kA g))) (hd : (x == ("__debug__" : Str)) = false) (ha : PE X a (rE G xn W fa)) (hb : behindInMarks .NotIn (.Name x q) = false) :
    Both X G xn W (.Compare a [.NotIn] [.Name x q] pos) (fun r h => (fa r h).bind fun d h => match d with
    | .str s => .ok (.bl (!(kget (.str s) kvs).isSome)) h
    | _ => .stuck) := by
  obtain ⟨lo, es, n, hl, hk, hv⟩ := D
  have kd : KDict X.K X.w (G.kA g) es n := ⟨xg.K ▸ hl, xg.w ▸ hk, lo⟩
  refine ⟨⟨_, pe_cmpR (op_notIn_kd kd) ha (pe_glob hg hm (v := .ref (G.kA g)) rfl hd) hb, pt_cmpR (op_notIn_kd kd) ha (pe_glob hg hm (v := .ref (G.kA g)) rfl hd) hb, fun σ H Q ⟨p, r, h, m, s, k⟩ => ⟨p, r, h, m, s, PostE.bind (o := fa r h) k fun d h1 p1 v H1 q1 l1 m1 r1 k1 => ?_⟩⟩, fun r h d h' e => bind_isB (fun x h d h' e => ?_) e⟩
  · cases r1 with
    | str z =>
      dsimp only at k1
      rcases hv z with ⟨d, v, u, e1, e2, e3, e4⟩ | ⟨e1, e2⟩
      · rw [e1] at k1
        exact ⟨_, _, rfl, rfl, xg.K ▸ e2, k1 p1 _ H1 (List.prefix_refl _) (Le.refl _) m1 (.bl _)⟩
      · rw [e1] at k1
        exact ⟨_, _, rfl, rfl, xg.K ▸ e2, k1 p1 _ H1 (List.prefix_refl _) (Le.refl _) m1 (.bl _)⟩
    | _ => exact k1.elim
  · cases x with
    | str s => cases e; exact ⟨_, rfl⟩
    | _ => cases e
/-! ### tables of operations -/
def binP : Operator → Option P
  | .Add => some .add | .Sub => some .sub | .Mult => some .mul | .FloorDiv => some .fdiv | .Mod => some .mod | .Pow => some .pow | _ => none
theorem bin_ok (hK : X.K = G.K) {op : Operator} {p : P} (e : binP op = some p) : Op2 X G (binaryOp op) fun x y h => evP p [x, y] h := by
  cases op <;> cases e
  · exact o_add hK
  · exact o_sub
  · exact o_mul hK
  · exact o_mod
  · exact o_pow
  · exact o_fdiv
def cmpP : CmpOp → Option P
  | .Eq => some .eq | .NotEq => some .ne | .Lt => some .lt | .LtE => some .le | .Gt => some .gt | .GtE => some .ge | .In => some .inn | .NotIn => some .nin | .Is => some .isV | .IsNot => some .notV
theorem cmp_ok (hK : X.K = G.K) (hu : X.A.units + 65 < cLine) {op : CmpOp} {p : P} (e : cmpP op = some p) : Op2 X G (compareOp op) fun x y h => evP p [x, y] h := by
  cases op <;> cases e
  · exact o_eq hK hu
  · exact o_ne hK hu
  · exact o_lt
  · exact o_le
  · exact o_gt
  · exact o_ge
  · exact o_isV
  · exact o_notV
  · exact o_inn hK hu
  · exact o_nin hK hu
theorem cmp_isB {op : CmpOp} {p : P} (e : cmpP op = some p) : IsB fun x y h => evP p [x, y] h := by
  intro x y h d h' q
  cases op <;> cases e <;> (dsimp only at q; unfold evP at q; split at q <;> (repeat' split at q) <;> first | contradiction | (cases q; exact ⟨_, rfl⟩) | exact evQ_isB (by intro z; cases z) q | cases q)
end
end RG

end

section
/-! RgChk3: a term of the language is checked against a text: expressions. -/
namespace RG
open PySem L2 PyProof.Rows

/-- the names of a text -/
structure Tb where
  fn : Str → Option Nat
  np : Nat → Nat
  pl : Nat → Bool
  cl : Str → Option Nat
  gl : Str → Option Nat
  kd : Str → Option Nat
  fr : Str → Bool
  fl : Str → Option Nat
  mt : Str → Option Nat
  ma : Nat → Nat
  ff : Nat → Nat → List Str → List Nat → List D → Bool
  fm : Nat → Nat → List Str → List Nat → List D → Bool
  xc : Str → Option Nat
  xf : Nat → Str

structure TbOk (T : Tb) (G : Gx) (F : Fo) (mN : Nat → Str) : Prop where
  g : GOk G
  M : MethOk G F mN
  fn : ∀ x f, T.fn x = some f → G.mg x = some (.ref (G.fA f)) ∧ PySem.W.keepIn G.K (.ref (G.fA f)) = true
  pl : ∀ f, T.pl f = true → Binds G.K (F.fd f) (F.ps f) [] ∧ (F.ps f).length = T.np f
  cl : ∀ x c, T.cl x = some c → G.mg x = some (.ref (G.cA c)) ∧ ∃ f, G.t.init c = some f ∧ Mk G.K (G.cA c) (G.fA f)
  gl : ∀ x g, T.gl x = some g → ∃ d v u, G.t.glo g = some d ∧ G.mg x = some u ∧ RelV v u ∧ ∀ H p, RelD G H p d v
  kd : ∀ x g, T.kd x = some g → G.mg x = some (.ref (G.kA g)) ∧ ∃ kvs, G.t.kdc g = some kvs ∧ KdOk G g kvs
  fr : ∀ x, T.fr x = true → G.mg x = none
  fl : ∀ x f, T.fl x = some f → G.fN f = x
  mt : ∀ x m, T.mt x = some m → mN m = x
  m0 : mN 0 = "__len__"
  ma : ∀ k m f, G.t.meth k m = some f → (F.ps f).length = T.ma m
  ma0 : T.ma 0 = 1
  ff : ∀ f n ks pk dd, T.ff f n ks pk dd = true → Form G F f n ks pk dd
  fm : ∀ c f n ks pk dd, T.fm c n ks pk dd = true → G.t.init c = some f → FormM G F f n ks pk dd
  vf : ∀ f, G.t.plf f = true → PySem.W.keepIn G.K (.ref (G.fA f)) = true ∧ Binds G.K (F.fd f) (F.ps f) [] ∧ ∀ d, G.t.defs f = some d → (F.ps f).length = d.np

/-- the program's exceptions as the text names them -/
structure XTb (T : Tb) (G : Gx) (xn : Nat → Str) : Prop where
  nm : ∀ j, xn j = T.xf j
  nG : ∀ j, G.xN j = T.xf j
  sx : ∀ j k, G.t.sub k k = true → G.t.sub j k = true → T.xf j = T.xf k
  xc : ∀ x c, T.xc x = some c → G.mg x = some (.ref (G.cA c)) ∧ G.t.sub c c = true
  ok : ∀ c, G.t.sub c c = true → XcOk G (T.xf c) (G.cA c)
  ex : ∀ j k, G.t.sub j j = true → G.t.sub k k = true → PySem.W.exmOne G.K (.ref (G.cA j)) (.ref (G.cA k)) = some (G.t.sub j k)
  ki : ∀ j k, G.t.sub j j = true → G.t.sub k k = true → PySem.W.kitOne G.K (.ref (G.cA j)) (.ref (G.cA k)) = some (G.t.sub j k)
  kv : ∀ j, G.t.sub j j = true → PySem.W.kitOne G.K (.ref (G.cA j)) (.type "ValueError") = some (G.t.sub j 99)
  ec : ∀ j, G.t.sub j j = true → ExcC G.K (G.cA j)

/-- a body's context -/
structure Ok (G : Gx) (F : Fo) (xn : Nat → Str) (n : Nat) (N : List Str) (X : Cx) (sc : Scope) (W : WX) : Prop where
  xg : XG X G
  C : CallOk G F xn (n + 1)
  C1 : CallOk G F xn n
  tk : Takes X W
  hr : Room (n + 2) X.A
  hN : X.N = N
  nd : N.Nodup
  hsc : X.env.scope = sc
  cm : X.calm = true

/-! ### the checks -/
def isG (sc : Scope) (x : Str) : Bool := decide (sc.names.lookup x = some .globalImplicit) && !(x == ("__debug__" : Str)) && !decide (x = ("__name__" : Str))
def vis (sc : Scope) (x : Str) : Bool := decide (sc.names.lookup x = some .local) || decide (sc.names.lookup x = some .cell) || decide (sc.names.lookup x = some .free)
def locB (sc : Scope) (x : Str) : Bool := decide (sc.names.lookup x = some .local) || decide (sc.names.lookup x = some .cell)
theorem isG_of {sc : Scope} {x : Str} (h : isG sc x = true) : sc.names.lookup x = some .globalImplicit ∧ (x == ("__debug__" : Str)) = false ∧ x ≠ "__name__" := by
  unfold isG at h
  simp only [Bool.and_eq_true, decide_eq_true_eq, Bool.not_eq_true', decide_eq_false_iff_not] at h
  exact ⟨h.1.1, h.1.2, h.2⟩
theorem vis_of {sc : Scope} {x : Str} (h : vis sc x = true) : Vis sc x := by
  unfold vis at h
  simp only [Bool.or_eq_true, decide_eq_true_eq] at h
  rcases h with (h | h) | h
  · exact .inl h
  · exact .inr (.inl h)
  · exact .inr (.inr h)
theorem locB_of {sc : Scope} {x : Str} (h : locB sc x = true) : Loc sc x := by
  unfold locB at h
  simp only [Bool.or_eq_true, decide_eq_true_eq] at h
  exact h
/-- a comprehension's block -/
def rlb (scope sc : Scope) : Scope := { scope with names := scope.names.map fun (n, k) => if (k == .free && sc.kind == .function && sc.names.lookup n == some .cell) then (n, .cell) else (n, k) }
theorem rlb_eq (scope : Scope) (env : PySem.Env) : relabel scope env = rlb scope env.scope := rfl

def notIf : Expr → Bool
  | .IfExp _ _ _ _ => false
  | _ => true
def isNone : Expr → Bool
  | .Constant .none _ _ => true
  | _ => false
def ckName (T : Tb) (N : List Str) (sc : Scope) (x : Str) : E → Bool
  | .var i => decide (N[i]? = some x) && vis sc x && !(x == ("__debug__" : Str)) && !(x == ("__classdict__" : Str))
  | .glo g => isG sc x && decide (T.gl x = some g)
  | _ => false
def ckCst : Const → E → Bool
  | .none, .cst .non => true
  | .bool b, .cst (.bl b') => b == b'
  | .int i, .cst (.int j) => decide (i = j)
  | .str s, .cst (.str l) => decide (s = ⟨l.toArray⟩)
  | _, _ => false
def ckEs (k : Expr → E → Bool) : List Expr → Es → Bool
  | [], .nil => true
  | a :: as, .cons e es => notStar a && k a e && ckEs k as es
  | _, _ => false
def ckB (k : Expr → E → Bool) (op : BoolOp) : List Expr → E → Bool
  | [], _ => false
  | [a], e => notIf a && k a e
  | a :: b :: r, e => match op, e with
    | .And, .and x y => notIf a && k a x && ckB k op (b :: r) y
    | .Or, .or x y => notIf a && k a x && ckB k op (b :: r) y
    | _, _ => false
def ckCmp1 (T : Tb) (sc : Scope) (k : Expr → E → Bool) (a : Expr) (op : CmpOp) (b : Expr) : E → Bool
  | .pr p (.cons x (.cons y .nil)) => decide (cmpP op = some p) && notSet b && k a x && k b y
  | .pr .isN (.cons x .nil) => decide (op = .Is) && isNone b && k a x
  | .pr .notN (.cons x .nil) => decide (op = .IsNot) && isNone b && k a x
  | .kin g x => match b with
    | .Name nm _ => decide (op = .In) && isG sc nm && decide (T.kd nm = some g) && k a x
    | _ => false
  | .knin g x => match b with
    | .Name nm _ => decide (op = .NotIn) && isG sc nm && decide (T.kd nm = some g) && k a x
    | _ => false
  | _ => false
def ckCmp (T : Tb) (sc : Scope) (k : Expr → E → Bool) (a : Expr) : List CmpOp → List Expr → E → Bool
  | [op], [b], e => ckCmp1 T sc k a op b e
  | [op, op'], [b, c], .chain p q x y z => decide (cmpP op = some p) && decide (cmpP op' = some q) && notSet c && k a x && k b y && k c z
  | _, _, _ => false
def ckSub (T : Tb) (sc : Scope) (k : Expr → E → Bool) (a b : Expr) : E → Bool
  | .pr .ix (.cons x (.cons y .nil)) => notSl b && k a x && k b y
  | .pr .slLo (.cons x (.cons y .nil)) => match b with
    | .Slice (some lo) none none _ => k a x && k lo y
    | _ => false
  | .pr .slHi (.cons x (.cons y .nil)) => match b with
    | .Slice none (some hi) none _ => k a x && k hi y
    | _ => false
  | .sl3 x y z => match b with
    | .Slice (some lo) (some hi) none _ => k a x && k lo y && k hi z
    | _ => false
  | .pr .rev (.cons x .nil) => match b with
    | .Slice none none (some (.UnaryOp .USub (.Constant (.int i) _ _) _)) _ => decide (i = 1) && k a x
    | _ => false
  | .kix g y => match a with
    | .Name nm _ => isG sc nm && decide (T.kd nm = some g) && notSl b && k b y
    | _ => false
  | _ => false
/-- the builtins that are called by name -/
def bltn : P → Option Str
  | .len => some "len" | .sum => some "sum" | .all => some "all" | .any => some "any" | .sorted => some "sorted" | .abs => some "abs" | .max => some "max" | .min => some "min" | .divmod => some "divmod"
  | .toList => some "list" | .toTuple => some "tuple" | .toInt => some "int" | .toStr => some "str" | _ => none
/-- the methods of lists -/
def lmeth : P → Option Str
  | .append => some "append" | .insert => some "insert" | .index => some "index" | .pop => some "pop" | .popAt => some "pop" | .reverse => some "reverse" | .clear => some "clear" | _ => none
def lmN : P → Nat
  | .append => 1
  | .insert => 2
  | .index => 1
  | .popAt => 1
  | _ => 0
def kwNames (l : List Keyword) : List Str := l.filterMap (·.arg)
def ckKw (k : Expr → E → Bool) : List Keyword → Es → Bool
  | [], .nil => true
  | ⟨nm, a, _⟩ :: as, .cons e es => nm.isSome && k a e && ckKw k as es
  | _, _ => false
/-- the values of positional arguments and of keywords -/
def ckArgs (k : Expr → E → Bool) (kws : List Keyword) : List Expr → Es → Bool
  | [], es => ckKw k kws es
  | a :: as, .cons e es => notStar a && k a e && ckArgs k kws as es
  | _, _ => false
/-- the names of a tuple of classes -/
def ckCs (T : Tb) (sc : Scope) : List Expr → List Nat → Bool
  | [], [] => true
  | .Name x _ :: es, c :: cs => isG sc x && decide (T.xc x = some c) && ckCs T sc es cs
  | _, _ => false
def ckTy (T : Tb) (sc : Scope) : List Nat → List Expr → Bool
  | [], [] => true
  | j :: js, .Name y _ :: bs => isG sc y && T.fr y && decide (tyN j = some y) && ckTy T sc js bs
  | _, _ => false
def ckCallN (T : Tb) (N : List Str) (sc : Scope) (k : Expr → E → Bool) (x : Str) (args : List Expr) (kws : List Keyword) : E → Bool
  | .pr (.isI j) (.cons e .nil) => match args with
    | [a, .Name y _] => isG sc x && T.fr x && decide (x = ("isinstance" : Str)) && kws.isEmpty && notStar a && isG sc y && T.fr y && decide (tyN j = some y) && k a e
    | _ => false
  | .pr (.isT js) (.cons e .nil) => match args with
    | [a, .Tuple bs _ _] => isG sc x && T.fr x && decide (x = ("isinstance" : Str)) && kws.isEmpty && notStar a && ckTy T sc js bs && decide (js.length ≤ 1000) && k a e
    | _ => false
  | .pr p es => isG sc x && T.fr x && decide (bltn p = some x) && decide (p ≠ .len) && !args.isEmpty && kws.isEmpty && ckEs k args es
  | .isx cs o => match args with
    | [a, .Name y _] => isG sc x && T.fr x && decide (x = ("isinstance" : Str)) && kws.isEmpty && notStar a && isG sc y && ((decide (y = ("ValueError" : Str)) && T.fr y && decide (cs = [99])) || (match cs with
      | [c] => decide (T.xc y = some c)
      | _ => false)) && k a o
    | [a, .Tuple bs _ _] => isG sc x && T.fr x && decide (x = ("isinstance" : Str)) && kws.isEmpty && notStar a && ckCs T sc bs cs && decide (cs.length ≤ 1000) && k a o
    | _ => false
  | .lrng src => match args with
    | [.Call (.Name y _) [a] [] _] => isG sc x && T.fr x && decide (x = ("list" : Str)) && kws.isEmpty && isG sc y && T.fr y && decide (y = ("range" : Str)) && notStar a && (match src with
      | .rng1 e => k a e
      | _ => false)
    | [.Call (.Name y _) [a, b] [] _] => isG sc x && T.fr x && decide (x = ("list" : Str)) && kws.isEmpty && isG sc y && T.fr y && decide (y = ("range" : Str)) && notStar a && notStar b && (match src with
      | .rng2 e f => k a e && k b f
      | _ => false)
    | _ => false
  | .len o => match args with
    | [a] => isG sc x && T.fr x && decide (x = ("len" : Str)) && kws.isEmpty && notStar a && k a o
    | _ => false
  | .call f es => isG sc x && decide (T.fn x = some f) && T.pl f && decide (args.length = T.np f) && kws.isEmpty && ckEs k args es
  | .callP f es pk dd => isG sc x && decide (T.fn x = some f) && T.ff f args.length (kwNames kws) pk dd && ckArgs k kws args es
  | .callv i es => decide (N[i]? = some x) && vis sc x && !(x == ("__debug__" : Str)) && !(x == ("__classdict__" : Str)) && !args.isEmpty && kws.isEmpty && ckEs k args es
  | .makeP c es pk dd => isG sc x && decide (T.cl x = some c) && T.fm c args.length (kwNames kws) pk dd && ckArgs k kws args es
  | _ => false
def ckCallA (T : Tb) (k : Expr → E → Bool) (o : Expr) (x : Str) (apos : Pos) (args : List Expr) (kws : List Keyword) (pos : Pos) : E → Bool
  | .lm p e es => decide (lmeth p = some x) && kws.isEmpty && notCall0 o && (apos.endLine == pos.line) && decide (args.length = lmN p) && k o e && ckEs k args es
  | .meth m e es => decide (T.mt x = some m) && kws.isEmpty && decide (args.length + 1 = T.ma m) && notCall0 o && (apos.endLine == pos.line) && decide (args.length < 30) && k o e && ckEs k args es
  | _ => false
def ckDict (k : Expr → E → Bool) : List (Option Expr) → List Expr → List D → Es → Bool
  | [], [], [], .nil => true
  | some (.Constant c _ _) :: ks, v :: vs, d :: ds, .cons e es => (match c, d with
      | .int i, .int j => decide (i = j)
      | .str s, .str l => decide (s = ⟨l.toArray⟩)
      | _, _ => false) && k v e && ckDict k ks vs ds es
  | _, _, _, _ => false
def ckI (T : Tb) (sc : Scope) (k : Expr → E → Bool) (tg iter : Expr) : I → Bool
  | .of e => k iter e
  | .rng1 a => match iter with
    | .Call (.Name x _) [e] [] _ => decide (x = ("range" : Str)) && isG sc x && T.fr x && notStar e && k e a
    | _ => false
  | .rng2 a b => match iter with
    | .Call (.Name x _) [e, f] [] _ => decide (x = ("range" : Str)) && isG sc x && T.fr x && notStar e && notStar f && k e a && k f b
    | _ => false
  | .enum a => match iter with
    | .Call (.Name x _) [e] [] _ => decide (x = ("enumerate" : Str)) && isG sc x && T.fr x && notStar e && k e a && !notTup tg
    | _ => false
  | .zip a b => match iter with
    | .Call (.Name x _) [e, f] [] _ => decide (x = ("zip" : Str)) && isG sc x && T.fr x && notStar e && notStar f && k e a && k f b && !notTup tg
    | _ => false
def ckC (k : Expr → E → Bool) : List Expr → C → Bool
  | [], .yes => true
  | [t], .test e => notIf t && k t e
  | _, _ => false
/-- the names of a comprehension's target -/
def ckNm (N : List Str) (scope sc : Scope) (x : Str) (i : Nat) : Bool := decide (N[i]? = some x) && locB (rlb scope sc) x && ((scope.names.lookup x == some .cell) || decide ((rlb scope sc).names.lookup x = some .local))
def ckNms (N : List Str) (scope sc : Scope) : List Expr → List Nat → Bool
  | [], [] => true
  | .Name x _ :: es, i :: is => ckNm N scope sc x i && ckNms N scope sc es is
  | _, _ => false
def ckTg (N : List Str) (scope sc : Scope) (tg : Expr) (ts : List Nat) (one : Bool) : Bool := match one, ts, tg with
  | true, [i], .Name x _ => ckNm N scope sc x i
  | false, ts, .Tuple es _ _ => ckNms N scope sc es ts
  | _, _, _ => false
def ownOf (N : List Str) (vs : List Nat) : List (Str × Nat) := vs.map fun i => (N.getD i "", i)

def ckE (T : Tb) (N : List Str) : Nat → Scope → Expr → E → Bool
  | 0, _, _, _ => false
  | n + 1, sc, e, e' => match e with
    | .Name x _ => ckName T N sc x e'
    | .Constant c _ _ => ckCst c e'
    | .BinOp a op b _ => (match e' with
      | .pr p (.cons x (.cons y .nil)) => decide (binP op = some p) && ckE T N n sc a x && ckE T N n sc b y
      | _ => false)
    | .UnaryOp op a _ => (match op, e' with
      | .Not, .not x => notIf a && ckE T N n sc a x
      | .USub, .pr .neg (.cons x .nil) => ckE T N n sc a x
      | _, _ => false)
    | .BoolOp op l _ => ckB (ckE T N n sc) op l e'
    | .Compare a ops bs _ => ckCmp T sc (ckE T N n sc) a ops bs e'
    | .IfExp t a b _ => (match e' with
      | .ite x y z => notIf t && ckE T N n sc t x && ckE T N n sc a y && ckE T N n sc b z
      | _ => false)
    | .Tuple es _ _ => (match e' with
      | .tup xs => ckEs (ckE T N n sc) es xs
      | _ => false)
    | .List es _ => (match e' with
      | .lst xs => ckEs (ckE T N n sc) es xs
      | _ => false)
    | .Subscript a b _ => ckSub T sc (ckE T N n sc) a b e'
    | .Attribute o x _ => (match e' with
      | .fld y f => decide (T.fl x = some f) && notCall0 o && ckE T N n sc o y
      | .xw k y => decide (T.xf k = x) && notCall0 o && ckE T N n sc o y
      | _ => false)
    | .Dict ks vs _ => (match e' with
      | .dct ds es => !ks.isEmpty && decide (ks.length ≤ 15) && ckDict (ckE T N n sc) ks vs ds es
      | _ => false)
    | .Call (.Name x _) args kws _ => ckCallN T N sc (ckE T N n sc) x args kws e'
    | .Call (.Attribute o x apos) args kws pos => ckCallA T (ckE T N n sc) o x apos args kws pos e'
    | .ListComp elt [⟨tg, iter, ifs, 0⟩] scope _ => (match e' with
      | .comp ts one src cond y vs => ckI T sc (ckE T N n sc) tg iter src && notSet iter && blkC N sc scope (ownOf N vs) && ckTg N scope sc tg ts one && ts.all (fun i => vs.contains i) && ckC (ckE T N n (rlb scope sc)) ifs cond && ckE T N n (rlb scope sc) elt y
      | _ => false)
    | _ => false
end RG

end

section
/-! RgChk4: a checked expression does what its term does. -/
namespace RG
open PySem L2 PyProof.Rows

section
variable {T : Tb} {G : Gx} {F : Fo} {xn mN : Nat → Str} {n : Nat} {N : List Str}
/-- what a body may call -/
noncomputable abbrev clN (G : Gx) (n : Nat) : Cl := clAt G.t (run G.t (n + 1)) (run G.t n)
def SE (G : Gx) (xn : Nat → Str) (n : Nat) (X : Cx) (W : WX) (a : Expr) (e : E) : Prop :=
  PE X a (rE G xn W (ev (clN G n) e)) ∧ (notIf a = true → PT X a (rTr G xn W (ev (clN G n) e)))
theorem Ok.blk {X : Cx} {sc : Scope} {W : WX} (o : Ok G F xn n N X sc W) (s : Shared) (H : Hp) (scope : Scope) (cl : List (Str × Addr)) (C : Addr) (fp : List Addr) :
    Ok G F xn n N (X.blk s H scope (compEnvC scope cl C X.env) fp) (rlb scope sc) W0 where
  xg := ⟨o.xg.P, o.xg.w, o.xg.K, o.xg.mg, o.xg.base⟩
  C := o.C
  C1 := o.C1
  tk := fun u s' ⟨_, _, _, _, _, _, _, _, _, _, _, _, _, _, _, _, w⟩ => w.elim
  hr := o.hr
  hN := o.hN
  nd := o.nd
  hsc := by show relabel scope X.env = _; rw [rlb_eq, o.hsc]
  cm := o.cm

section
variable {X : Cx} {sc : Scope} {W : WX} (tb : TbOk T G F mN) (o : Ok G F xn n N X sc W) {k : Expr → E → Bool} (hk : ∀ a x, k a x = true → SE G xn n X W a x)
include tb o
theorem SE.plain {a : Expr} {e : E} (h : PE X a (rE G xn W (ev (clN G n) e))) (hp : plainT a = true) : SE G xn n X W a e := ⟨h, fun _ => s_truth o.xg.K h (true_of hp)⟩
omit tb o in
theorem SE.both {a : Expr} {e : E} (h : Both X G xn W a (ev (clN G n) e)) : SE G xn n X W a e := ⟨h.pe, fun _ => h.pt⟩
theorem gl_of {x : Str} (h : isG sc x = true) : Gl X x ∧ (x == ("__debug__" : Str)) = false ∧ x ≠ "__name__" := by
  obtain ⟨h1, h2, h3⟩ := isG_of h
  exact ⟨by show X.env.scope.names.lookup x = _; rw [o.hsc]; exact h1, h2, h3⟩
theorem mg_fr {x : Str} (h : T.fr x = true) : X.mg x = none := by rw [o.xg.mg]; exact tb.fr x h
theorem un_of : X.A.units + 65 < cLine := by have := o.hr.un; omega
theorem name_ok {x : Str} {pos : Pos} {e : E} (h : ckName T N sc x e = true) : PE X (.Name x pos) (rE G xn W (ev (clN G n) e)) := by
  cases e with
  | var i =>
    simp only [ckName, Bool.and_eq_true, decide_eq_true_eq, Bool.not_eq_true'] at h
    have := s_var (X := X) (G := G) (xn := xn) (W := W) (pos := pos) (i := i) (x := x) (by rw [o.hN]; exact h.1.1.1) (by rw [o.hsc]; exact vis_of h.1.1.2) h.1.2 h.2
    have q : ev (clN G n) (.var i) = fun r h => match r[i]? with | some (some d) => .ok d h | _ => .stuck := by funext r h; simp only [ev] <;> rfl
    rw [q]; exact this
  | glo g =>
    simp only [ckName, Bool.and_eq_true, decide_eq_true_eq] at h
    obtain ⟨d, v, u, h1, h2, h3, h4⟩ := tb.gl x g h.2
    obtain ⟨g1, g2, g3⟩ := gl_of tb o h.1
    have q : ev (clN G n) (.glo g) = fun _ h => .ok d h := by
      funext r h
      simp only [ev]
      rw [show (clN G n).t.glo g = some d from h1]
    rw [q]
    exact s_glob g1 (by rw [o.xg.mg]; exact h2) h3 h4 g2
  | _ => cases h
omit tb o in
theorem cst_ok {c : Const} {j : Nat} {pos : Pos} {e : E} (h : ckCst c e = true) : PE X (.Constant c j pos) (rE G xn W (ev (clN G n) e)) := by
  unfold ckCst at h
  split at h
  · have q : ev (clN G n) (.cst .non) = fun _ h => .ok .non h := by funext r h; simp only [ev]
    rw [q]; exact s_cst pe_non fun H p => .non
  · rename_i b b'
    have e : b = b' := by simpa using h
    subst e
    have q : ev (clN G n) (.cst (.bl b)) = fun _ h => .ok (.bl b) h := by funext r h; simp only [ev]
    rw [q]; exact s_cst pe_bl fun H p => .bl b
  · rename_i i i'
    have e : i = i' := by simpa using h
    subst e
    have q : ev (clN G n) (.cst (.int i)) = fun _ h => .ok (.int i) h := by funext r h; simp only [ev]
    rw [q]; exact s_cst pe_int fun H p => .int i
  · rename_i s l
    have e : s = ⟨l.toArray⟩ := by simpa using h
    subst e
    have q : ev (clN G n) (.cst (.str l)) = fun _ h => .ok (.str l) h := by funext r h; simp only [ev]
    rw [q]; exact s_cst pe_str fun H p => .str l
  · cases h
omit tb o in
theorem evs_cons (c : Cl) (e : E) (es : Es) : evs c (.cons e es) = fun r h => (ev c e r h).bind fun d h => (evs c es r h).bind fun ds h => .ok (d :: ds) h := by funext r h; simp only [evs]
omit tb o in
theorem evs_nil (c : Cl) : evs c .nil = fun _ h => .ok [] h := by funext r h; simp only [evs]
omit tb o in
theorem cons_len {c : Cl} {e : E} {es : Es} {m : Nat} (hl : ∀ r h ds h', evs c es r h = .ok ds h' → ds.length = m) : ∀ r h ds h', evs c (.cons e es) r h = .ok ds h' → ds.length = m + 1 := by
  intro r h ds h' q
  rw [evs_cons] at q
  dsimp only at q
  cases e1 : ev c e r h with
  | ok d h1 =>
    rw [e1] at q
    simp only [Out.bind] at q
    cases e2 : evs c es r h1 with
    | ok ds' h2 =>
      rw [e2] at q
      simp only [Out.ok.injEq] at q
      rw [← q.1, List.length_cons, hl r h1 ds' h2 e2]
    | exc x h2 => rw [e2] at q; cases q
    | stuck => rw [e2] at q; cases q
  | exc x h1 => rw [e1] at q; cases q
  | stuck => rw [e1] at q; cases q
include hk in
omit tb o in
theorem es_ok : ∀ {as : List Expr} {es : Es}, ckEs k as es = true → PA X as (rA G xn W (evs (clN G n) es)) ∧ allPlain as = true ∧ ∀ r h ds h', evs (clN G n) es r h = .ok ds h' → ds.length = as.length
  | [], .nil, _ => by
    rw [evs_nil]
    exact ⟨s_nil, rfl, fun r h ds h' q => by cases q; rfl⟩
  | [], .cons _ _, h => by cases h
  | _ :: _, .nil, h => by cases h
  | a :: as, .cons e es, h => by
    simp only [ckEs, Bool.and_eq_true] at h
    obtain ⟨h1, h2, h3⟩ := es_ok (as := as) (es := es) h.2
    refine ⟨?_, ?_, cons_len h3⟩
    · rw [evs_cons]
      exact s_cons (hk a e h.1.2).1 h1 (star_of h.1.1)
    · unfold allPlain
      rw [List.all_cons, h.1.1]
      exact h2
include hk in
theorem bool_ok {op : BoolOp} {pos : Pos} : ∀ {l : List Expr} {e : E}, ckB k op l e = true → PE X (.BoolOp op l pos) (rE G xn W (ev (clN G n) e)) ∧ PW X (.BoolOp op l pos) (rTr G xn W (ev (clN G n) e))
  | [], e, h => by cases h
  | [a], e, h => by
    simp only [ckB, Bool.and_eq_true] at h
    have q := hk a e h.2
    refine ⟨s_one q.1, ?_⟩
    cases op with
    | And => exact s_and1 (q.2 h.1)
    | Or => exact s_or1 (q.2 h.1)
  | a :: b :: r, e, h => by
    unfold ckB at h
    split at h
    · rename_i x y
      simp only [Bool.and_eq_true] at h
      have q := hk a x h.1.2
      have q2 := bool_ok (op := .And) (pos := pos) (l := b :: r) h.2
      have e1 : ev (clN G n) (.and x y) = fun r h => (ev (clN G n) x r h).bind fun d h => (tru d h).bind fun k h => if k then ev (clN G n) y r h else .ok d h := by funext r h; simp only [ev]
      rw [e1]
      exact ⟨s_andV o.xg.K q.1 q2.1, s_andT (q.2 h.1.1) q2.2⟩
    · rename_i x y
      simp only [Bool.and_eq_true] at h
      have q := hk a x h.1.2
      have q2 := bool_ok (op := .Or) (pos := pos) (l := b :: r) h.2
      have e1 : ev (clN G n) (.or x y) = fun r h => (ev (clN G n) x r h).bind fun d h => (tru d h).bind fun k h => if k then .ok d h else ev (clN G n) y r h := by funext r h; simp only [ev]
      rw [e1]
      exact ⟨s_orV o.xg.K q.1 q2.1, s_orT (q.2 h.1.1) q2.2⟩
    · cases h
omit tb o in
theorem f_pr1 (p : P) (a : E) : ev (clN G n) (.pr p (.cons a .nil)) = fun r h => (ev (clN G n) a r h).bind fun x h => evP p [x] h := by funext r h; exact ev_pr1 p a
omit tb o in
theorem f_pr2 (p : P) (a b : E) : ev (clN G n) (.pr p (.cons a (.cons b .nil))) = fun r h => (ev (clN G n) a r h).bind fun x h => (ev (clN G n) b r h).bind fun y h => evP p [x, y] h := by funext r h; exact ev_pr2 p a b
include hk in
theorem cmp1_ok {a b : Expr} {op : CmpOp} {pos : Pos} {e : E} (h : ckCmp1 T sc k a op b e = true) : Both X G xn W (.Compare a [op] [b] pos) (ev (clN G n) e) := by
  unfold ckCmp1 at h
  split at h
  · rename_i p x y
    simp only [Bool.and_eq_true, decide_eq_true_eq] at h
    rw [f_pr2]
    exact b_cmp (cmp_ok o.xg.K (un_of tb o) h.1.1.1) (fun d e h => noX2 p [d, e] h) (cmp_isB h.1.1.1) (hk a x h.1.2).1 (hk b y h.2).1 (marks_of h.1.1.2)
  · rename_i x
    simp only [Bool.and_eq_true, decide_eq_true_eq] at h
    obtain ⟨⟨rfl, h2⟩, h3⟩ := h
    unfold isNone at h2
    split at h2
    · rw [f_pr1]
      exact b_isN (hk a x h3).1
    · cases h2
  · rename_i x
    simp only [Bool.and_eq_true, decide_eq_true_eq] at h
    obtain ⟨⟨rfl, h2⟩, h3⟩ := h
    unfold isNone at h2
    split at h2
    · rw [f_pr1]
      exact b_notN (hk a x h3).1
    · cases h2
  · rename_i g x
    split at h
    · rename_i nm q
      simp only [Bool.and_eq_true, decide_eq_true_eq] at h
      obtain ⟨⟨⟨rfl, h2⟩, h3⟩, h4⟩ := h
      obtain ⟨m1, kvs, m2, m3⟩ := tb.kd nm g h3
      obtain ⟨g1, g2, g3⟩ := gl_of tb o h2
      have e1 : ev (clN G n) (.kin g x) = fun r h => (ev (clN G n) x r h).bind fun d h => match d with
          | .str s => .ok (.bl (kget (.str s) kvs).isSome) h
          | _ => .stuck := by
        funext r h
        simp only [ev]
        rw [show (clN G n).t.kdc g = some kvs from m2]
        cases ev (clN G n) x r h with
        | ok d h' => cases d <;> rfl
        | exc x h' => rfl
        | stuck => rfl
      rw [e1]
      exact b_kin o.xg m3 g1 (by rw [o.xg.mg]; exact m1) g2 (hk a x h4).1 rfl
    · cases h
  · rename_i g x
    split at h
    · rename_i nm q
      simp only [Bool.and_eq_true, decide_eq_true_eq] at h
      obtain ⟨⟨⟨rfl, h2⟩, h3⟩, h4⟩ := h
      obtain ⟨m1, kvs, m2, m3⟩ := tb.kd nm g h3
      obtain ⟨g1, g2, g3⟩ := gl_of tb o h2
      have e1 : ev (clN G n) (.knin g x) = fun r h => (ev (clN G n) x r h).bind fun d h => match d with
          | .str s => .ok (.bl (!(kget (.str s) kvs).isSome)) h
          | _ => .stuck := by
        funext r h
        simp only [ev]
        rw [show (clN G n).t.kdc g = some kvs from m2]
        cases ev (clN G n) x r h with
        | ok d h' => cases d <;> rfl
        | exc x h' => rfl
        | stuck => rfl
      rw [e1]
      exact b_knin o.xg m3 g1 (by rw [o.xg.mg]; exact m1) g2 (hk a x h4).1 rfl
    · cases h
  · cases h
include hk in
theorem cmp_sound {a : Expr} {ops : List CmpOp} {bs : List Expr} {pos : Pos} {e : E} (h : ckCmp T sc k a ops bs e = true) : Both X G xn W (.Compare a ops bs pos) (ev (clN G n) e) := by
  unfold ckCmp at h
  split at h
  · exact cmp1_ok tb o hk h
  · rename_i op op' b c p q x y z
    simp only [Bool.and_eq_true, decide_eq_true_eq] at h
    have e1 : ev (clN G n) (.chain p q x y z) = fun r h => (ev (clN G n) x r h).bind fun dx h => (ev (clN G n) y r h).bind fun dy h => (evP p [dx, dy] h).bind fun k h => match k with
        | .bl true => (ev (clN G n) z r h).bind fun dz h => evP q [dy, dz] h
        | .bl false => .ok (.bl false) h
        | _ => .stuck := by funext r h; simp only [ev] <;> rfl
    rw [e1]
    obtain ⟨⟨⟨⟨⟨h1, h2⟩, h3⟩, h4⟩, h5⟩, h6⟩ := h
    exact b_chain (cmp_ok o.xg.K (un_of tb o) h1) (cmp_ok o.xg.K (un_of tb o) h2) (fun d e h => noX2 p [d, e] h) (fun d e h => noX2 q [d, e] h) (cmp_isB h1) (cmp_isB h2) (hk a x h4).1 (hk b y h5).1 (hk c z h6).1 (marks_of h3)
  · cases h

include hk in
theorem sub_ok {a b : Expr} {pos : Pos} {e : E} (h : ckSub T sc k a b e = true) : PE X (.Subscript a b pos) (rE G xn W (ev (clN G n) e)) := by
  unfold ckSub at h
  split at h
  · rename_i x y
    simp only [Bool.and_eq_true] at h
    rw [f_pr2]
    obtain ⟨r, ho, hp⟩ := o_ix (X := X) (G := G) o.xg.K (un_of tb o)
    exact s_ix ho hp (fun d e h => noX2 _ [d, e] h) (hk a x h.1.2).1 (hk b y h.2).1 (plain_ix h.1.1)
  · rename_i x y
    split at h
    · rename_i lo _
      simp only [Bool.and_eq_true] at h
      rw [f_pr2]
      exact s_slLo (o_sl o.xg.K) (hk a x h.1).1 (hk lo y h.2).1
    · cases h
  · rename_i x y
    split at h
    · rename_i hi _
      simp only [Bool.and_eq_true] at h
      rw [f_pr2]
      exact s_slHi (o_sl o.xg.K) (hk a x h.1).1 (hk hi y h.2).1
    · cases h
  · rename_i x y z
    split at h
    · rename_i lo hi _
      simp only [Bool.and_eq_true] at h
      have e1 : ev (clN G n) (.sl3 x y z) = fun r h => (ev (clN G n) x r h).bind fun dx h => (ev (clN G n) y r h).bind fun dy h => match dy with
          | .int i => (ev (clN G n) z r h).bind fun dz h => match dz with
            | .int j => slc dx (some i) (some j) h
            | _ => .stuck
          | _ => .stuck := by funext r h; simp only [ev] <;> rfl
      rw [e1]
      exact s_sl3 (o_sl o.xg.K) (hk a x h.1.1).1 (hk lo y h.1.2).1 (hk hi z h.2).1
    · cases h
  · rename_i x
    split at h
    · rename_i i _ _ _ _
      simp only [Bool.and_eq_true, decide_eq_true_eq] at h
      obtain ⟨rfl, h2⟩ := h
      rw [f_pr1]
      exact s_rev o.xg.K (hk a x h2).1
    · cases h
  · rename_i g y
    split at h
    · rename_i nm q
      simp only [Bool.and_eq_true, decide_eq_true_eq] at h
      obtain ⟨⟨⟨h1, h2⟩, h3⟩, h4⟩ := h
      obtain ⟨m1, kvs, m2, m3⟩ := tb.kd nm g h2
      obtain ⟨g1, g2, g3⟩ := gl_of tb o h1
      have e1 : ev (clN G n) (.kix g y) = fun r h => (ev (clN G n) y r h).bind fun d h => match d with
          | .str s => match kget (.str s) kvs with
            | some v => .ok v h
            | none => .stuck
          | _ => .stuck := by
        funext r h
        simp only [ev]
        rw [show (clN G n).t.kdc g = some kvs from m2]
        cases ev (clN G n) y r h with
        | ok d h' => cases d <;> rfl
        | exc x h' => rfl
        | stuck => rfl
      rw [e1]
      exact s_kix o.xg m3 g1 (by rw [o.xg.mg]; exact m1) g2 (hk b y h4).1 (plain_ix h3)
    · cases h
  · cases h
include tb o in
theorem bltn_ok {p : P} {x : Str} (hp : p ≠ .len) (h : bltn p = some x) : (∃ id, bootBuiltins x = some (.builtin id) ∧ CalN X G (.builtin id) fun ds h => evP p ds h) ∨ ∃ id, bootBuiltins x = some (.type id) ∧ CalN X G (.type id) fun ds h => evP p ds h := by
  cases p <;> first | (cases h; done) | skip
  · exact absurd rfl hp
  · cases h; exact .inl ⟨_, boot_abs, c_abs⟩
  · cases h; exact .inl ⟨_, boot_min, c_min o.cm⟩
  · cases h; exact .inl ⟨_, boot_max, c_max o.cm⟩
  · cases h; exact .inl ⟨_, boot_divmod, c_divmod⟩
  · cases h; exact .inr ⟨_, boot_int, c_toInt⟩
  · cases h; exact .inr ⟨_, boot_str, c_toStr⟩
  · cases h; exact .inr ⟨_, boot_list, c_list o.xg.K⟩
  · cases h; exact .inr ⟨_, boot_tuple, c_tuple o.xg.K⟩
  · cases h; exact .inl ⟨_, boot_sum, c_sum o.xg.K o.cm⟩
  · cases h; exact .inl ⟨_, boot_all, c_all o.xg.K o.cm⟩
  · cases h; exact .inl ⟨_, boot_any, c_any o.xg.K o.cm⟩
  · cases h; exact .inl ⟨_, boot_sorted, c_sorted o.xg.K⟩
end
end
end RG

end

section
/-! RgChk5: calls, walks, comprehensions; every checked expression. -/
namespace RG
open PySem L2 PyProof.Rows

section
variable {T : Tb} {G : Gx} {F : Fo} {xn mN : Nat → Str} {n : Nat} {N : List Str}
variable {X : Cx} {sc : Scope} {W : WX} (tb : TbOk T G F mN) (o : Ok G F xn n N X sc W) {k : Expr → E → Bool} (hk : ∀ a x, k a x = true → SE G xn n X W a x)

/-! ### arguments and keywords -/
theorem kw_all {env : PySem.Env} {pos : Pos} : ∀ {kws : List Keyword} {es : Es}, ckKw k kws es = true → (backToKw pos (keywordEach kws env)).all (·.1.isSome) = true ∧ (backToKw pos (keywordEach kws env)).filterMap (·.1) = kwNames kws ∧ (backToKw pos (keywordEach kws env)).any (·.1.isNone) = false
  | [], _, _ => ⟨rfl, rfl, rfl⟩
  | ⟨nm, a, p⟩ :: kws, .nil, h => by cases h
  | ⟨nm, a, p⟩ :: kws, .cons e es, h => by
    simp only [ckKw, Bool.and_eq_true] at h
    obtain ⟨h1, h2, h3⟩ := kw_all (env := env) (pos := pos) (kws := kws) (es := es) h.2
    cases nm with
    | none => cases h.1.1
    | some y =>
      refine ⟨?_, ?_, ?_⟩
      · show (true && (backToKw pos (keywordEach kws env)).all (·.1.isSome)) = true
        rw [h1]; rfl
      · show y :: (backToKw pos (keywordEach kws env)).filterMap (·.1) = y :: kwNames kws
        rw [h2]
      · show (false || (backToKw pos (keywordEach kws env)).any (·.1.isNone)) = false
        rw [h3]; rfl
include hk in
theorem kw_ok : ∀ {kws : List Keyword} {es : Es}, ckKw k kws es = true → PK X kws (rA G xn W (evs (clN G n) es)) ∧ ∀ r h ds h', evs (clN G n) es r h = .ok ds h' → ds.length = (kwNames kws).length
  | [], .nil, _ => by
    rw [evs_nil]
    exact ⟨k_nil, fun r h ds h' q => by cases q; rfl⟩
  | [], .cons _ _, h => by cases h
  | ⟨nm, a, p⟩ :: kws, .nil, h => by cases h
  | ⟨nm, a, p⟩ :: kws, .cons e es, h => by
    simp only [ckKw, Bool.and_eq_true] at h
    obtain ⟨h1, h3⟩ := kw_ok (kws := kws) (es := es) h.2
    cases nm with
    | none => cases h.1.1
    | some y =>
      refine ⟨?_, cons_len h3⟩
      rw [evs_cons]
      exact k_cons (hk a e h.1.2).1 h1
include hk in
/-- the arguments, the keywords, and both together -/
theorem args_ok {kws : List Keyword} : ∀ {as : List Expr} {es : Es}, ckArgs k kws as es = true → ∃ es2 : Es, ∃ fa : Env → Mem → Out (List D), ckKw k kws es2 = true ∧ PA X as (rA G xn W fa) ∧ allPlain as = true ∧ (∀ r h ds h', fa r h = .ok ds h' → ds.length = as.length) ∧
      ∀ r h (g : List D → Mem → Out D), (evs (clN G n) es r h).bind g = (fa r h).bind fun ds h => (evs (clN G n) es2 r h).bind fun zs h => g (ds ++ zs) h
  | [], es, h => ⟨es, fun _ h => .ok [] h, h, s_nil, rfl, fun r h ds h' q => (by cases q; rfl), fun r h g => rfl⟩
  | a :: as, .nil, h => by cases h
  | a :: as, .cons e es, h => by
    simp only [ckArgs, Bool.and_eq_true] at h
    obtain ⟨es2, fa, h1, h2, h3, h4, h5⟩ := args_ok (as := as) (es := es) h.2
    refine ⟨es2, fun r h => (ev (clN G n) e r h).bind fun d h => (fa r h).bind fun ds h => .ok (d :: ds) h, h1, s_cons (hk a e h.1.2).1 h2 (star_of h.1.1), ?_, ?_, ?_⟩
    · unfold allPlain
      rw [List.all_cons, h.1.1]
      exact h3
    · intro r h ds h' q
      dsimp only at q
      cases e1 : ev (clN G n) e r h with
      | ok d h1 =>
        rw [e1] at q
        simp only [Out.bind] at q
        cases e2 : fa r h1 with
        | ok ds' h2 =>
          rw [e2] at q
          simp only [Out.ok.injEq] at q
          rw [← q.1, List.length_cons, h4 r h1 ds' h2 e2, List.length_cons]
        | exc x h2 => rw [e2] at q; cases q
        | stuck => rw [e2] at q; cases q
      | exc x h1 => rw [e1] at q; cases q
      | stuck => rw [e1] at q; cases q
    · intro r h g
      rw [evs_cons]
      dsimp only
      cases e1 : ev (clN G n) e r h with
      | ok d h1 =>
        have := h5 r h1 fun ds h => g (d :: ds) h
        simp only [Out.bind]
        cases e2 : fa r h1 with
        | ok ds' h2 =>
          rw [e2] at this
          simp only [Out.bind, List.cons_append] at this ⊢
          rw [← this]
          cases evs (clN G n) es r h1 <;> rfl
        | exc x h2 =>
          rw [e2] at this
          simp only [Out.bind] at this ⊢
          rw [← this]
          cases evs (clN G n) es r h1 <;> rfl
        | stuck =>
          rw [e2] at this
          simp only [Out.bind] at this ⊢
          rw [← this]
          cases evs (clN G n) es r h1 <;> rfl
      | exc x h1 => rfl
      | stuck => rfl
theorem emp {a : Type} {l : List a} (h : l.isEmpty = true) : l = [] := by simpa using h
theorem head_of {l : List Expr} (h : (!l.isEmpty) = true) : ∃ a as, l = a :: as := by
  cases l with
  | nil => cases h
  | cons a as => exact ⟨a, as, rfl⟩
theorem plain_tl {a : Expr} {as : List Expr} (h : allPlain (a :: as) = true) : notStar a = true ∧ allPlain as = true := by
  unfold allPlain at h
  rw [List.all_cons, Bool.and_eq_true] at h
  exact h
include tb o in
theorem tys_ok : ∀ {js : List Nat} {bs : List Expr}, ckTy T sc js bs = true → TyNms X js bs
  | [], [], _ => .nil
  | [], _ :: _, h => by cases h
  | _ :: _, [], h => by cases h
  | j :: js, b :: bs, h => by
    unfold ckTy at h
    split at h
    · rename_i e1 e2; cases e1
    · rename_i j' js' y q bs' e1 e2
      cases e1; cases e2
      simp only [Bool.and_eq_true, decide_eq_true_eq] at h
      obtain ⟨⟨⟨h1, h2⟩, h3⟩, h4⟩ := h
      obtain ⟨g1, g2, g3⟩ := gl_of tb o h1
      exact .cons h3 g1 (mg_fr tb o h2) g3 g2 (tys_ok h4)
    · cases h
omit tb o in
theorem cs_ok {X : Cx} {sc : Scope} (xt : XTb T G xn) (hmg : X.mg = G.mg) (hsc : X.env.scope = sc) : ∀ {es : List Expr} {cs : List Nat}, ckCs T sc es cs = true → ∃ t, PA X es t ∧ (∀ σ H Q, Q (cs.map fun c => V.ref (G.cA c)) H → t σ H Q) ∧ ∀ c ∈ cs, G.t.sub c c = true
  | [], [], _ => ⟨tNil, pa_nil, fun _ _ _ q => q, fun c hc => by cases hc⟩
  | [], _ :: _, h => by cases h
  | e :: es, [], h => by cases e <;> cases h
  | e :: es, c :: cs, h => by
    unfold ckCs at h
    split at h
    · cases ‹_ :: _ = []›
    · rename_i x p es' c' cs' e1 e2
      cases e1; cases e2
      simp only [Bool.and_eq_true, decide_eq_true_eq] at h
      obtain ⟨⟨h1, h2⟩, h3⟩ := h
      obtain ⟨g1, g2, g3⟩ := isG_of h1
      obtain ⟨m1, m2⟩ := xt.xc x c h2
      obtain ⟨t, t1, t2, t3⟩ := cs_ok xt hmg hsc h3
      refine ⟨_, pa_cons (pe_glob (v := .ref (G.cA c)) (by show X.env.scope.names.lookup x = _; rw [hsc]; exact g1) (by rw [hmg]; exact m1) rfl g2) t1 (star_of rfl), fun σ H Q q => t2 σ H _ q, fun k hk => ?_⟩
      rcases List.mem_cons.mp hk with z | z
      · rw [z]; exact m2
      · exact t3 k z
    · cases h
include tb o hk in
theorem callN_ok (xt : XTb T G xn) {x : Str} {q pos : Pos} {args : List Expr} {kws : List Keyword} {e : E} (h : ckCallN T N sc k x args kws e = true) : PE X (.Call (.Name x q) args kws pos) (rE G xn W (ev (clN G n) e)) := by
  unfold ckCallN at h
  split at h
  · rename_i j e
    split at h
    · rename_i a y q2
      simp only [Bool.and_eq_true, decide_eq_true_eq] at h
      obtain ⟨⟨⟨⟨⟨⟨⟨⟨h1, h2⟩, rfl⟩, h4⟩, h5⟩, h6⟩, h7⟩, h8⟩, h9⟩ := h
      obtain ⟨g1, g2, g3⟩ := gl_of tb o h1
      obtain ⟨g4, g5, g6⟩ := gl_of tb o h6
      obtain rfl := emp h4
      rw [f_pr1]
      exact s_isi o.xg.K g1 (mg_fr tb o h2) g4 (mg_fr tb o h7) h8 g6 g5 (hk a e h9).1 (star_of h5)
    · cases h
  · rename_i js e
    split at h
    · rename_i a bs kk q2
      simp only [Bool.and_eq_true, decide_eq_true_eq] at h
      obtain ⟨⟨⟨⟨⟨⟨⟨h1, h2⟩, rfl⟩, h4⟩, h5⟩, h6⟩, h7⟩, h8⟩ := h
      obtain ⟨g1, g2, g3⟩ := gl_of tb o h1
      obtain rfl := emp h4
      rw [f_pr1]
      exact s_isT o.xg.K g1 (mg_fr tb o h2) (tys_ok tb o h6) h7 (hk a e h8).1 (star_of h5)
    · cases h
  · rename_i p es _ _
    simp only [Bool.and_eq_true, decide_eq_true_eq] at h
    obtain ⟨⟨⟨⟨⟨⟨h1, h2⟩, h3⟩, h4⟩, h5⟩, h6⟩, h7⟩ := h
    obtain ⟨g1, g2, g3⟩ := gl_of tb o h1
    obtain rfl := emp h6
    obtain ⟨a, as, rfl⟩ := head_of h5
    obtain ⟨pa, al, hl⟩ := es_ok (G := G) (n := n) hk h7
    obtain ⟨p1, p2⟩ := plain_tl al
    have e1 : ev (clN G n) (.pr p es) = fun r h => (evs (clN G n) es r h).bind fun ds h => evP p ds h := by funext r h; simp only [ev]
    rw [e1]
    rcases bltn_ok tb o h4 h3 with ⟨id, b1, rr, b2, b3⟩ | ⟨id, b1, rr, b2, b3⟩
    · exact s_callB b2 b3 (fun ds h => noX2 p ds h) g1 (mg_fr tb o h2) b1 pa g3 g2 (star_of p1) (back_of p2)
    · exact s_callTy b2 b3 (fun ds h => noX2 p ds h) g1 (mg_fr tb o h2) b1 pa g3 g2 (star_of p1) (back_of p2)
  · rename_i cs y
    have kx : KxOk G := ⟨xt.ki, xt.kv, xt.ec⟩
    have e1 : ev (clN G n) (.isx cs y) = fun r h => (ev (clN G n) y r h).bind fun d h => match d with
      | .exc j _ => if G.t.sub j j then .ok (.bl (cs.any fun k => G.t.sub j k)) h else .stuck
      | _ => .stuck := by funext r h; simp only [ev] <;> rfl
    rw [e1]
    split at h
    · rename_i a z q2
      simp only [Bool.and_eq_true, Bool.or_eq_true, decide_eq_true_eq] at h
      obtain ⟨⟨⟨⟨⟨⟨⟨h1, h2⟩, rfl⟩, h4⟩, h5⟩, h6⟩, h7⟩, h8⟩ := h
      obtain ⟨g1, g2, g3⟩ := gl_of tb o h1
      obtain ⟨g4, g5, g6⟩ := gl_of tb o h6
      obtain rfl := emp h4
      rcases h7 with ⟨⟨rfl, h9⟩, rfl⟩ | h7
      · exact s_isxV o.xg.K kx g1 (mg_fr tb o h2) g4 (mg_fr tb o h9) (hk a y h8).1 (star_of h5)
      · split at h7
        · rename_i c
          have h7 := of_decide_eq_true h7
          obtain ⟨m1, m2⟩ := xt.xc z c h7
          exact s_isx1 o.xg.K kx g1 (mg_fr tb o h2) g4 (by rw [o.xg.mg]; exact m1) m2 g5 (hk a y h8).1 (star_of h5)
        · cases h7
    · rename_i a bs kk q2
      simp only [Bool.and_eq_true, decide_eq_true_eq] at h
      obtain ⟨⟨⟨⟨⟨⟨⟨h1, h2⟩, rfl⟩, h4⟩, h5⟩, h6⟩, h7⟩, h8⟩ := h
      obtain ⟨g1, g2, g3⟩ := gl_of tb o h1
      obtain rfl := emp h4
      obtain ⟨t, t1, t2, t3⟩ := cs_ok (X := X) xt o.xg.mg o.hsc h6
      exact s_isxT o.xg.K kx g1 (mg_fr tb o h2) t1 t2 t3 h7 (hk a y h8).1 (star_of h5)
    · cases h
  · rename_i src
    split at h
    · rename_i z q2 a p2
      simp only [Bool.and_eq_true, decide_eq_true_eq] at h
      obtain ⟨⟨⟨⟨⟨⟨⟨⟨h1, h2⟩, rfl⟩, h4⟩, h5⟩, h6⟩, rfl⟩, h8⟩, h9⟩ := h
      obtain ⟨g1, g2, g3⟩ := gl_of tb o h1
      obtain ⟨g4, g5, g6⟩ := gl_of tb o h5
      obtain rfl := emp h4
      split at h9
      · rename_i e
        have e1 : ev (clN G n) (.lrng (.rng1 e)) = fun r h => ((ev (clN G n) e r h).bind fun d h => match d with
            | .int j => if -(2 ^ 62) ≤ j ∧ j < 2 ^ 62 then .ok (⟨rngD 0 j.toNat, []⟩ : Src) h else .stuck
            | _ => .stuck).bind fun s h => if s.items.length ≤ 2 ^ 24 then new (.lst s.items) h else .stuck := by funext r h; simp only [ev, evI] <;> rfl
        rw [e1]
        exact s_lrng1 o.cm g1 (mg_fr tb o h2) g4 (mg_fr tb o h6) (hk a e h9).1 (star_of h8)
      · cases h9
    · rename_i z q2 a b p2
      simp only [Bool.and_eq_true, decide_eq_true_eq] at h
      obtain ⟨⟨⟨⟨⟨⟨⟨⟨⟨h1, h2⟩, rfl⟩, h4⟩, h5⟩, h6⟩, rfl⟩, h8⟩, h8b⟩, h9⟩ := h
      obtain ⟨g1, g2, g3⟩ := gl_of tb o h1
      obtain ⟨g4, g5, g6⟩ := gl_of tb o h5
      obtain rfl := emp h4
      split at h9
      · rename_i e f
        simp only [Bool.and_eq_true] at h9
        have e1 : ev (clN G n) (.lrng (.rng2 e f)) = fun r h => ((ev (clN G n) e r h).bind fun d h => (ev (clN G n) f r h).bind fun e h => match d, e with
            | .int i, .int j => if -(2 ^ 62) ≤ i ∧ i < 2 ^ 62 ∧ -(2 ^ 62) ≤ j ∧ j < 2 ^ 62 then .ok (⟨rngD i (j - i).toNat, []⟩ : Src) h else .stuck
            | _, _ => .stuck).bind fun s h => if s.items.length ≤ 2 ^ 24 then new (.lst s.items) h else .stuck := by funext r h; simp only [ev, evI] <;> rfl
        rw [e1]
        exact s_lrng2 o.cm g1 (mg_fr tb o h2) g4 (mg_fr tb o h6) (hk a e h9.1).1 (hk b f h9.2).1 (by rw [star_of h8, star_of h8b]) (star_of h8b) (by rw [star_of h8b]; rfl)
      · cases h9
    · cases h
  · rename_i y
    split at h
    · rename_i a
      simp only [Bool.and_eq_true, decide_eq_true_eq] at h
      obtain ⟨⟨⟨⟨⟨h1, h2⟩, rfl⟩, h4⟩, h5⟩, h6⟩ := h
      obtain ⟨g1, g2, g3⟩ := gl_of tb o h1
      obtain rfl := emp h4
      have e1 : ev (clN G n) (.len y) = fun r h => (ev (clN G n) y r h).bind fun d h => match d with
          | .ref i => match h[i]? with
            | some (.ins k _) => match G.t.meth k 0 with
              | some f => (run G.t n f [d] h).bind fun v h => match v with
                | .int i => if 0 ≤ i ∧ i < 2 ^ 63 then .ok (.int i) h else .stuck
                | _ => .stuck
              | none => .stuck
            | _ => evP .len [d] h
          | _ => evP .len [d] h := by funext r h; simp only [ev] <;> rfl
      rw [e1]
      exact s_len o.xg o.C1 tb.M o.tk o.hr g1 (mg_fr tb o h2) tb.m0 (fun k f hf => by rw [tb.ma k 0 f hf, tb.ma0]) (hk a y h6).1 (star_of h5)
    · cases h
  · rename_i f es
    simp only [Bool.and_eq_true, decide_eq_true_eq] at h
    obtain ⟨⟨⟨⟨⟨h1, h2⟩, h3⟩, h4⟩, h5⟩, h6⟩ := h
    obtain ⟨g1, g2, g3⟩ := gl_of tb o h1
    obtain rfl := emp h5
    obtain ⟨m1, m2⟩ := tb.fn x f h2
    obtain ⟨m3, m4⟩ := tb.pl f h3
    obtain ⟨pa, al, hl⟩ := es_ok (G := G) (n := n) hk h6
    have e1 : ev (clN G n) (.call f es) = fun r h => (evs (clN G n) es r h).bind fun ds h => run G.t (n + 1) f ds h := by funext r h; simp only [ev] <;> rfl
    cases args with
    | nil =>
      cases es with
      | nil =>
        have e2 : ev (clN G n) (.call f .nil) = fun r h => run G.t (n + 1) f [] h := by rw [e1, evs_nil]; rfl
        rw [e2]
        exact s_call0 o.xg o.C o.tk o.hr g1 m1 m2 m3 (by rw [m4]; exact h4) g2
      | cons _ _ => cases h6
    | cons a as =>
      obtain ⟨p1, p2⟩ := plain_tl al
      rw [e1]
      exact s_call o.xg o.C o.tk o.hr g1 m1 m2 m3 (by rw [m4]; exact h4) hl pa g2 (star_of p1) (back_of p2)
  · rename_i f es pk dd
    simp only [Bool.and_eq_true, decide_eq_true_eq] at h
    obtain ⟨⟨⟨h1, h2⟩, h4⟩, h5⟩ := h
    obtain ⟨g1, g2, g3⟩ := gl_of tb o h1
    obtain ⟨m1, m2⟩ := tb.fn x f h2
    cases args with
    | nil =>
      have h5 : ckKw k kws es = true := h5
      obtain ⟨k1, k2⟩ := kw_ok (G := G) (n := n) hk h5
      obtain ⟨q1, q2, q3⟩ := kw_all (env := X.env) (pos := pos) h5
      have e1 : ev (clN G n) (.callP f es pk dd) = fun r h => (evs (clN G n) es r h).bind fun zs h => match pickO (zs ++ dd) pk with
          | some zs => run G.t (n + 1) f zs h
          | none => .stuck := by funext r h; simp only [ev] <;> rfl
      rw [e1]
      exact s_callP0 o.xg o.C o.tk o.hr g1 m1 m2 (tb.ff _ _ _ _ _ h4) k2 k1 q1 q2 g2 (by rw [q3]; rfl)
    | cons a as =>
    obtain ⟨es2, fa, c1, c2, c3, c4, c5⟩ := args_ok (G := G) (n := n) hk h5
    obtain ⟨p1, p2⟩ := plain_tl c3
    obtain ⟨k1, k2⟩ := kw_ok (G := G) (n := n) hk c1
    obtain ⟨q1, q2, q3⟩ := kw_all (env := X.env) (pos := pos) c1
    have e1 : ev (clN G n) (.callP f es pk dd) = fun r h => (fa r h).bind fun ds h => (evs (clN G n) es2 r h).bind fun zs h => match pickO (ds ++ zs ++ dd) pk with
        | some zs => run G.t (n + 1) f zs h
        | none => .stuck := by
      funext r h
      simp only [ev]
      exact c5 r h _
    rw [e1]
    exact s_callP o.xg o.C o.tk o.hr g1 m1 m2 (tb.ff _ _ _ _ _ h4) c4 k2 c2 k1 q1 q2 g2 (star_of p1) (by rw [q3, back_of c3]; rfl)
  · rename_i i es
    simp only [Bool.and_eq_true, decide_eq_true_eq, Bool.not_eq_true'] at h
    obtain ⟨⟨⟨⟨⟨⟨h1, h2⟩, h3⟩, h4⟩, h5⟩, h6⟩, h7⟩ := h
    obtain rfl := emp h6
    have h5 : (!args.isEmpty) = true := by rw [h5]; rfl
    obtain ⟨a, as, rfl⟩ := head_of h5
    obtain ⟨pa, al, hl⟩ := es_ok (G := G) (n := n) hk h7
    obtain ⟨p1, p2⟩ := plain_tl al
    have e1 : ev (clN G n) (.callv i es) = fun r h => match r[i]? with
        | some (some (.fn f)) => if G.t.plf f then (evs (clN G n) es r h).bind fun ds h => run G.t (n + 1) f ds h else .stuck
        | _ => .stuck := by funext r h; simp only [ev] <;> rfl
    rw [e1]
    exact s_callV o.xg o.C o.tk o.hr (by rw [o.hN]; exact h1) (by rw [o.hsc]; exact vis_of h2) tb.vf pa h3 h4 (star_of p1) (back_of p2)
  · rename_i c es pk dd
    simp only [Bool.and_eq_true, decide_eq_true_eq] at h
    obtain ⟨⟨⟨h1, h2⟩, h4⟩, h5⟩ := h
    obtain ⟨g1, g2, g3⟩ := gl_of tb o h1
    obtain ⟨m1, f, m2, m3⟩ := tb.cl x c h2
    cases args with
    | nil =>
      have h5 : ckKw k kws es = true := h5
      obtain ⟨k1, k2⟩ := kw_ok (G := G) (n := n) hk h5
      obtain ⟨q1, q2, q3⟩ := kw_all (env := X.env) (pos := pos) h5
      have e1 : ev (clN G n) (.makeP c es pk dd) = fun r h => (evs (clN G n) es r h).bind fun zs h => match G.t.init c, pickO (.ref h.length :: (zs ++ dd)) pk with
        | some f, some zs => (run G.t n f zs (h ++ [.ins c []])).bind fun v h' => match v with
          | .non => .ok (.ref h.length) h'
          | _ => .stuck
        | _, _ => .stuck := by funext r h; simp only [ev] <;> rfl
      rw [e1]
      exact s_makeP0 o.xg o.C1 o.tk o.hr g1 m1 m3 m2 (tb.fm _ _ _ _ _ _ h4 m2) k2 k1 q1 q2 g2 (by rw [q3]; rfl)
    | cons a as =>
    obtain ⟨es2, fa, c1, c2, c3, c4, c5⟩ := args_ok (G := G) (n := n) hk h5
    obtain ⟨p1, p2⟩ := plain_tl c3
    obtain ⟨k1, k2⟩ := kw_ok (G := G) (n := n) hk c1
    obtain ⟨q1, q2, q3⟩ := kw_all (env := X.env) (pos := pos) c1
    have e1 : ev (clN G n) (.makeP c es pk dd) = fun r h => (fa r h).bind fun ds h => (evs (clN G n) es2 r h).bind fun zs h => match G.t.init c, pickO (.ref h.length :: (ds ++ zs ++ dd)) pk with
        | some f, some zs => (run G.t n f zs (h ++ [.ins c []])).bind fun v h' => match v with
          | .non => .ok (.ref h.length) h'
          | _ => .stuck
        | _, _ => .stuck := by
      funext r h
      simp only [ev]
      exact c5 r h _
    rw [e1]
    exact s_makeP o.xg o.C1 o.tk o.hr g1 m1 m3 m2 (tb.fm _ _ _ _ _ _ h4 m2) c4 k2 c2 k1 q1 q2 g2 (star_of p1) (by rw [q3, back_of c3]; rfl)
  · cases h
end
end RG

end

section
/-! RgChk6: methods, displays, walks, comprehensions; every checked expression. -/
namespace RG
open PySem L2 PyProof.Rows

section
variable {T : Tb} {G : Gx} {F : Fo} {xn mN : Nat → Str} {n : Nat} {N : List Str}
variable {X : Cx} {sc : Scope} {W : WX} (tb : TbOk T G F mN) (o : Ok G F xn n N X sc W) {k : Expr → E → Bool} (hk : ∀ a x, k a x = true → SE G xn n X W a x)

theorem few_of {args : List Expr} {pos : Pos} (h : allPlain args = true) (hl : args.length < 30) : ((backTo pos (starEach args X.env)).all (fun x => !x.1) && (backToKw pos (keywordEach [] X.env)).all (fun x => x.1.isSome)
      && decide (args.length + ([] : List Keyword).length + (if ([] : List Keyword).isEmpty then 0 else 1) < 30)) = true := by
  rw [back_all h]
  show (true && true && decide (args.length + 0 + 0 < 30)) = true
  simp; omega
theorem meth_eval {a : Expr} {x : Str} {apos pos : Pos} {args : List Expr} {env : PySem.Env} (hb : notCall0 a = true) (hp : allPlain args = true) (hl : args.length < 30) (hline : (apos.endLine == pos.line) = true) :
    eval (.Call (.Attribute a x apos) args [] pos) env = (do
      let ov ← eval a env
      standAt apos.atName
      let (f, first) ← holding [ov] (getMethod ov x (do return (← importBound a env).getD true))
      callWith pos f first (backTo pos (starEach args env)) (backToKw pos (keywordEach [] env))) := by
  have hform : methodCallForm (args.length + ([] : List Keyword).length) (backTo pos (starEach args env)) (backToKw pos (keywordEach [] env)) = true := by
    unfold methodCallForm
    rw [back_all hp]
    show (true && true && decide (args.length + 0 + 0 < 30)) = true
    simp; omega
  rw [arm_eval_Call, base_of hb]
  unfold methodCall
  rw [hform]
  unfold calleeOf methodCallPos
  simp only [if_true, hline, Bool.not_true, Bool.false_or, pure_bind]
include tb o hk in
theorem callA_ok {a : Expr} {x : Str} {apos pos : Pos} {args : List Expr} {kws : List Keyword} {e : E} (h : ckCallA T k a x apos args kws pos e = true) : PE X (.Call (.Attribute a x apos) args kws pos) (rE G xn W (ev (clN G n) e)) := by
  unfold ckCallA at h
  split at h
  · rename_i p y es
    simp only [Bool.and_eq_true, decide_eq_true_eq] at h
    obtain ⟨⟨⟨⟨⟨⟨h1, h2⟩, h3⟩, h4⟩, h5⟩, h6⟩, h7⟩ := h
    obtain rfl := emp h2
    obtain ⟨pa, al, hl⟩ := es_ok (G := G) (n := n) hk h7
    have hl30 : args.length < 30 := by rw [h5]; cases p <;> simp [lmN]
    have e1 : ev (clN G n) (.lm p y es) = fun r h => (ev (clN G n) y r h).bind fun d h => match d with
        | .ref n' => match rd h n' with
          | some _ => (evs (clN G n) es r h).bind fun ds h => evP p (d :: ds) h
          | none => .stuck
        | _ => .stuck := by funext r h; simp only [ev] <;> rfl
    cases p <;> first | (cases h1; done) | skip
    · -- append
      cases h1
      obtain ⟨z, rfl⟩ := List.length_eq_one_iff.mp h5
      obtain ⟨p1, p2⟩ := plain_tl al
      rw [e1]
      exact s_lm o.xg.K PySem.F.slot_list_append PySem.F.type_list_append m_append (fun d ds h => noX2 _ _ h) (hk a y h6).1 pa (base_of h3 _) (few_of al hl30) h4 (star_of p1) (back_of p2)
    · -- insert
      cases h1
      obtain ⟨z, as, rfl⟩ : ∃ z as, args = z :: as := by
        cases args with
        | nil => cases h5
        | cons z as => exact ⟨z, as, rfl⟩
      obtain ⟨p1, p2⟩ := plain_tl al
      rw [e1]
      exact s_lm o.xg.K PySem.F.slot_list_insert PySem.F.type_list_insert m_insert (fun d ds h => noX2 _ _ h) (hk a y h6).1 pa (base_of h3 _) (few_of al hl30) h4 (star_of p1) (back_of p2)
    · -- pop
      cases h1
      obtain rfl := List.length_eq_zero_iff.mp h5
      cases es with
      | cons _ _ => cases h7
      | nil =>
        have e2 : ev (clN G n) (.lm .pop y .nil) = fun r h => (ev (clN G n) y r h).bind fun d h => match d with
            | .ref n' => match rd h n' with
              | some _ => evP .pop [d] h
              | none => .stuck
            | _ => .stuck := by rw [e1, evs_nil]; rfl
        rw [e2]
        exact s_lm0 (f := fun x ds h => match ds with | [] => evP .pop [x] h | ds => evP .popAt (x :: ds) h) o.xg.K PySem.F.slot_list_pop PySem.F.type_list_pop m_pop (fun d ds h => by cases ds <;> exact noX2 _ _ h) (hk a y h6).1 (base_of h3 _) h4
    · -- popAt
      cases h1
      obtain ⟨z, rfl⟩ := List.length_eq_one_iff.mp h5
      obtain ⟨p1, p2⟩ := plain_tl al
      have e2 : ev (clN G n) (.lm .popAt y es) = fun r h => (ev (clN G n) y r h).bind fun d h => match d with
          | .ref n' => match rd h n' with
            | some _ => (evs (clN G n) es r h).bind fun ds h => (fun x ds h => match ds with | [] => evP .pop [x] h | ds => evP .popAt (x :: ds) h : D → List D → Mem → Out D) d ds h
            | none => .stuck
          | _ => .stuck := by
        rw [e1]
        funext r h
        cases e0 : ev (clN G n) y r h with
        | ok d h' =>
          simp only [Out.bind]
          cases d <;> first | rfl | skip
          rename_i i
          dsimp only
          cases rd h' i with
          | none => rfl
          | some l =>
            dsimp only
            cases e2 : evs (clN G n) es r h' with
            | ok ds h2 =>
              have := hl r h' ds h2 e2
              cases ds with
              | nil => cases this
              | cons _ _ => rfl
            | exc x h2 => rfl
            | stuck => rfl
        | exc x h' => rfl
        | stuck => rfl
      rw [e2]
      exact s_lm (f := fun x ds h => match ds with | [] => evP .pop [x] h | ds => evP .popAt (x :: ds) h) o.xg.K PySem.F.slot_list_pop PySem.F.type_list_pop m_pop (fun d ds h => by cases ds <;> exact noX2 _ _ h) (hk a y h6).1 pa (base_of h3 _) (few_of al hl30) h4 (star_of p1) (back_of p2)
    · -- index
      cases h1
      obtain ⟨z, rfl⟩ := List.length_eq_one_iff.mp h5
      obtain ⟨p1, p2⟩ := plain_tl al
      rw [e1]
      exact s_lm o.xg.K PySem.F.slot_list_index PySem.F.type_list_index (m_index o.xg.K) (fun d ds h => noX2 _ _ h) (hk a y h6).1 pa (base_of h3 _) (few_of al hl30) h4 (star_of p1) (back_of p2)
    · -- reverse
      cases h1
      obtain rfl := List.length_eq_zero_iff.mp h5
      cases es with
      | cons _ _ => cases h7
      | nil =>
        have e2 : ev (clN G n) (.lm .reverse y .nil) = fun r h => (ev (clN G n) y r h).bind fun d h => match d with
            | .ref n' => match rd h n' with
              | some _ => evP .reverse [d] h
              | none => .stuck
            | _ => .stuck := by rw [e1, evs_nil]; rfl
        rw [e2]
        exact s_lm0 o.xg.K PySem.F.slot_list_reverse PySem.F.type_list_reverse m_reverse (fun d ds h => noX2 _ _ h) (hk a y h6).1 (base_of h3 _) h4
    · -- clear
      cases h1
      obtain rfl := List.length_eq_zero_iff.mp h5
      cases es with
      | cons _ _ => cases h7
      | nil =>
        have e2 : ev (clN G n) (.lm .clear y .nil) = fun r h => (ev (clN G n) y r h).bind fun d h => match d with
            | .ref n' => match rd h n' with
              | some _ => evP .clear [d] h
              | none => .stuck
            | _ => .stuck := by rw [e1, evs_nil]; rfl
        rw [e2]
        exact s_lm0 o.xg.K PySem.F.slot_list_clear PySem.F.type_list_clear m_clear (fun d ds h => noX2 _ _ h) (hk a y h6).1 (base_of h3 _) h4
  · rename_i m y es
    simp only [Bool.and_eq_true, decide_eq_true_eq] at h
    obtain ⟨⟨⟨⟨⟨⟨⟨h1, h2⟩, h3⟩, h4⟩, h5⟩, h6⟩, h7⟩, h8⟩ := h
    obtain rfl := emp h2
    obtain ⟨pa, al, hl⟩ := es_ok (G := G) (n := n) hk h8
    have e1 : ev (clN G n) (.meth m y es) = fun r h => (ev (clN G n) y r h).bind fun d h => match d with
        | .ref i => match h[i]? with
          | some (.ins k _) => match G.t.meth k m with
            | some f => (evs (clN G n) es r h).bind fun ds h => run G.t (n + 1) f (d :: ds) h
            | none => .stuck
          | _ => .stuck
        | _ => .stuck := by funext r h; simp only [ev] <;> rfl
    cases args with
    | nil =>
      cases es with
      | cons _ _ => cases h8
      | nil =>
        have e2 : ev (clN G n) (.meth m y .nil) = fun r h => (ev (clN G n) y r h).bind fun d h => match d with
            | .ref i => match h[i]? with
              | some (.ins k _) => match G.t.meth k m with
                | some f => run G.t (n + 1) f [d] h
                | none => .stuck
              | _ => .stuck
            | _ => .stuck := by rw [e1, evs_nil]; rfl
        rw [e2]
        exact s_meth0 o.xg o.C tb.M o.tk o.hr (tb.mt x m h1) (hk a y h7).1 (fun k f hf => by rw [tb.ma k m f hf]; exact h3) (meth_eval h4 al h6 h5)
    | cons b bs =>
      obtain ⟨p1, p2⟩ := plain_tl al
      rw [e1]
      exact s_meth o.xg o.C tb.M o.tk o.hr (tb.mt x m h1) (hk a y h7).1 pa hl (fun k f hf => by rw [tb.ma k m f hf]; exact h3) (star_of p1) (back_of p2) (meth_eval h4 al h6 h5)
  · cases h
include hk in
theorem dict_ok {pos : Pos} : ∀ {ks : List (Option Expr)} {vs : List Expr} {ds : List D} {es : Es}, ckDict k ks vs ds es = true → PDi X G xn W pos ks vs ds (evs (clN G n) es) ∧ ∀ r h zs h', evs (clN G n) es r h = .ok zs h' → zs.length = ds.length
  | [], [], [], .nil, _ => by
    rw [evs_nil]
    exact ⟨d_nil, fun r h ds h' q => by cases q; rfl⟩
  | some (.Constant c _ _) :: ks, v :: vs, d :: ds, .cons e es, h => by
    simp only [ckDict, Bool.and_eq_true] at h
    obtain ⟨h1, h3⟩ := dict_ok (pos := pos) (ks := ks) (vs := vs) (ds := ds) (es := es) h.2
    refine ⟨?_, cons_len h3⟩
    rw [evs_cons]
    have h0 := h.1.1
    split at h0
    · rename_i i j
      have q : i = j := by simpa using h0
      subst q
      exact d_cons (kk := .inl i) pe_int rfl (hk v e h.1.2).1 h1
    · rename_i s l
      have q : s = ⟨l.toArray⟩ := by simpa using h0
      subst q
      exact d_cons (kk := .inr ⟨l.toArray⟩) pe_str rfl (hk v e h.1.2).1 h1
    · cases h0
  | [], _ :: _, _, _, h => by simp [ckDict] at h
  | [], [], _ :: _, _, h => by simp [ckDict] at h
  | [], [], [], .cons _ _, h => by simp [ckDict] at h
  | _ :: _, [], _, _, h => by simp [ckDict] at h
  | _ :: _, _ :: _, [], _, h => by simp [ckDict] at h
  | _ :: _, _ :: _, _ :: _, .nil, h => by simp [ckDict] at h
  | none :: _, _ :: _, _ :: _, .cons _ _, h => by simp [ckDict] at h
  | some z :: ks, v :: vs, d :: ds, .cons e es, h => by
    cases z <;> first | (simp [ckDict] at h; done) | skip
    rename_i c _ _
    simp only [ckDict, Bool.and_eq_true] at h
    obtain ⟨h1, h3⟩ := dict_ok (pos := pos) (ks := ks) (vs := vs) (ds := ds) (es := es) h.2
    refine ⟨?_, cons_len h3⟩
    rw [evs_cons]
    have h0 := h.1.1
    split at h0
    · rename_i i j
      have q : i = j := by simpa using h0
      subst q
      exact d_cons (kk := .inl i) pe_int rfl (hk v e h.1.2).1 h1
    · rename_i s l
      have q : s = ⟨l.toArray⟩ := by simpa using h0
      subst q
      exact d_cons (kk := .inr ⟨l.toArray⟩) pe_str rfl (hk v e h.1.2).1 h1
    · cases h0
theorem tup_of {e : Expr} (h : (!notTup e) = true) : ∃ es kk p, e = .Tuple es kk p := by
  cases e <;> first | exact ⟨_, _, _, rfl⟩ | cases h
include tb o hk in
theorem iter_ok {tg iter : Expr} {i : I} (h : ckI T sc k tg iter i = true) : PI X tg iter (rI G xn W (evI (clN G n) i)) := by
  cases i with
  | of e =>
    have e1 : evI (clN G n) (.of e) = fun r h => (ev (clN G n) e r h).bind fun d h => match srcS d h with | some s => .ok s h | none => .stuck := by funext r h; simp only [evI] <;> rfl
    rw [e1]
    exact i_of o.xg.K (hk _ _ h).1
  | rng1 a =>
    simp only [ckI] at h
    split at h
    · rename_i x q e p
      simp only [Bool.and_eq_true, decide_eq_true_eq] at h
      obtain ⟨⟨⟨⟨rfl, h2⟩, h3⟩, h4⟩, h5⟩ := h
      have e1 : evI (clN G n) (.rng1 a) = fun r h => (ev (clN G n) a r h).bind fun d h => match d with
          | .int j => if -(2 ^ 62) ≤ j ∧ j < 2 ^ 62 then .ok ⟨rngD 0 j.toNat, []⟩ h else .stuck
          | _ => .stuck := by funext r h; simp only [evI] <;> rfl
      rw [e1]
      exact i_rng1 (gl_of tb o h2).1 (mg_fr tb o h3) (hk _ _ h5).1 (star_of h4)
    · cases h
  | rng2 a b =>
    simp only [ckI] at h
    split at h
    · rename_i x q e f p
      simp only [Bool.and_eq_true, decide_eq_true_eq] at h
      obtain ⟨⟨⟨⟨⟨⟨rfl, h2⟩, h3⟩, h4⟩, h5⟩, h6⟩, h7⟩ := h
      have e1 : evI (clN G n) (.rng2 a b) = fun r h => (ev (clN G n) a r h).bind fun d h => (ev (clN G n) b r h).bind fun e h => match d, e with
          | .int i, .int j => if -(2 ^ 62) ≤ i ∧ i < 2 ^ 62 ∧ -(2 ^ 62) ≤ j ∧ j < 2 ^ 62 then .ok ⟨rngD i (j - i).toNat, []⟩ h else .stuck
          | _, _ => .stuck := by funext r h; simp only [evI] <;> rfl
      rw [e1]
      exact i_rng2 (gl_of tb o h2).1 (mg_fr tb o h3) (hk _ _ h6).1 (hk _ _ h7).1 (by rw [star_of h4, star_of h5]; rfl) (star_of h5)
    · cases h
  | enum a =>
    simp only [ckI] at h
    split at h
    · rename_i x q e p
      simp only [Bool.and_eq_true, decide_eq_true_eq] at h
      obtain ⟨⟨⟨⟨⟨rfl, h2⟩, h3⟩, h4⟩, h5⟩, h6⟩ := h
      obtain ⟨es, kk, pp, rfl⟩ := tup_of h6
      have e1 : evI (clN G n) (.enum a) = fun r h => (ev (clN G n) a r h).bind fun d h => match d with
          | .ref n => match rd h n with
            | some l => .ok ⟨enumD l, [(n, l)]⟩ h
            | none => .stuck
          | _ => .stuck := by funext r h; simp only [evI] <;> rfl
      rw [e1]
      exact i_enum o.xg.K (gl_of tb o h2).1 (mg_fr tb o h3) (hk _ _ h5).1 (star_of h4)
    · cases h
  | zip a b =>
    simp only [ckI] at h
    split at h
    · rename_i x q e f p
      simp only [Bool.and_eq_true, decide_eq_true_eq] at h
      obtain ⟨⟨⟨⟨⟨⟨⟨rfl, h2⟩, h3⟩, h4⟩, h5⟩, h6⟩, h7⟩, h8⟩ := h
      obtain ⟨es, kk, pp, rfl⟩ := tup_of h8
      have pa : PA X [e, f] (rA G xn W _) := s_cons (hk _ _ h6).1 (s_cons (hk _ _ h7).1 s_nil (star_of h5)) (star_of h4)
      have e1 : evI (clN G n) (.zip a b) = fun r h => ((fun r h => (ev (clN G n) a r h).bind fun d h => ((fun r h => (ev (clN G n) b r h).bind fun d h => (Out.ok [] h).bind fun ds h => .ok (d :: ds) h : Env → Mem → Out (List D)) r h).bind fun ds h => .ok (d :: ds) h : Env → Mem → Out (List D)) r h).bind fun ds h => match ds with
          | [d, e] => match srcS d h, srcS e h with
            | some s, some t => .ok ⟨s.items.zipWith (fun x y => .tup [x, y]) t.items, s.grd ++ t.grd⟩ h
            | _, _ => .stuck
          | _ => .stuck := by
        funext r h
        simp only [evI]
        cases ev (clN G n) a r h with
        | ok d h1 =>
          simp only [Out.bind]
          cases ev (clN G n) b r h1 with
          | ok d h2 => simp only [Out.bind] <;> rfl
          | exc x h2 => rfl
          | stuck => rfl
        | exc x h1 => rfl
        | stuck => rfl
      rw [e1]
      exact i_zip o.xg.K (gl_of tb o h2).1 (mg_fr tb o h3) pa (star_of h4) (back_of (by unfold allPlain; rw [List.all_cons, h5]; rfl))
    · cases h
end
end RG

end

section
/-! RgChk7: every checked expression. -/
namespace RG
open PySem L2 PyProof.Rows

section
variable {T : Tb} {G : Gx} {F : Fo} {xn mN : Nat → Str} {n : Nat} {N : List Str}
theorem own_snd (N : List Str) (vs : List Nat) : (ownOf N vs).map (·.2) = vs := by
  unfold ownOf
  rw [List.map_map]
  exact List.map_id' vs
section
variable {X : Cx} {sc : Scope} {W : WX} (tb : TbOk T G F mN) (o : Ok G F xn n N X sc W)
include o in
theorem nm_ok {scope : Scope} {x : Str} {i : Nat} {p : Pos} (h : ckNm N scope sc x i = true) (s : Shared) (H : Hp) (C : Addr) (cl : List (Str × Addr)) (fp : List Addr) : PG (X.blk s H scope (compEnvC scope cl C X.env) fp) (.Name x p) (gName i) := by
  simp only [ckNm, Bool.and_eq_true, Bool.or_eq_true, decide_eq_true_eq] at h
  have b := o.blk s H scope cl C fp
  refine pg_name (by rw [b.hN]; exact o.nd) (by rw [b.hN]; exact h.1.1) (by rw [b.hsc]; exact locB_of h.1.2) ?_
  rcases h.2 with q | q
  · exact .inl q
  · exact .inr (by rw [b.hsc]; exact q)
include o in
theorem nms_ok {scope : Scope} (s : Shared) (H : Hp) (C : Addr) (cl : List (Str × Addr)) (fp : List Addr) : ∀ {es : List Expr} {ts : List Nat}, ckNms N scope sc es ts = true → PGs (X.blk s H scope (compEnvC scope cl C X.env) fp) es (gTs ts) ∧ allPlain es = true ∧ es.length = ts.length
  | [], [], _ => ⟨pgs_nil, rfl, rfl⟩
  | [], _ :: _, h => by simp [ckNms] at h
  | _ :: _, [], h => by simp [ckNms] at h
  | e :: es, i :: is, h => by
    cases e <;> first | (simp [ckNms] at h; done) | skip
    rename_i x p
    simp only [ckNms, Bool.and_eq_true] at h
    obtain ⟨h1, h2, h3⟩ := nms_ok s H C cl fp (es := es) (ts := is) h.2
    exact ⟨pgs_cons (nm_ok o h.1 s H C cl fp) h1 (each_of rfl), h2, congrArg (· + 1) h3⟩
include o in
theorem tg_ok {scope : Scope} {tg : Expr} {ts : List Nat} {one : Bool} (h : ckTg N scope sc tg ts one = true) (s : Shared) (H : Hp) (C : Addr) (cl : List (Str × Addr)) (fp : List Addr) : PG (X.blk s H scope (compEnvC scope cl C X.env) fp) tg (gOf G.K ts one) := by
  unfold ckTg at h
  split at h
  · exact nm_ok o h s H C cl fp
  · rename_i es kk pp
    obtain ⟨h1, h2, h3⟩ := nms_ok o s H C cl fp h
    have := pg_tup (X := X.blk s H scope (compEnvC scope cl C X.env) fp) (k := kk) (pos := pp) (n := ts.length) o.cm h1 (by rw [each_len, h3]) (each_st _ h2)
    have e : ∀ ts', gOf G.K ts' false = gTup G.K ts'.length (gTs ts') := fun ts' => by
      unfold gOf
      split
      · rename_i q; cases q
      · rfl
    rw [e]
    have hK : (X.blk s H scope (compEnvC scope cl C X.env) fp).K = G.K := o.xg.K
    rw [hK] at this
    exact this
  · cases h
end

include N in
/-- every checked expression does what its term does -/
theorem ck_sound (tb : TbOk T G F mN) (xt : XTb T G xn) : ∀ (m : Nat) (sc : Scope) (e : Expr) (e' : E), ckE T N m sc e e' = true → ∀ (X : Cx) (W : WX), Ok G F xn n N X sc W → SE G xn n X W e e' := by
  intro m
  induction m with
  | zero => intro sc e e' h; cases h
  | succ m ih =>
    intro sc e e' h X W o
    have hk : ∀ a x, ckE T N m sc a x = true → SE G xn n X W a x := fun a x q => ih sc a x q X W o
    unfold ckE at h
    split at h
    · exact SE.plain tb o (name_ok tb o h) rfl
    · exact SE.plain tb o (cst_ok h) rfl
    · rename_i a op b pos
      split at h
      · rename_i p x y
        simp only [Bool.and_eq_true, decide_eq_true_eq] at h
        obtain ⟨r, ho, hp⟩ := bin_ok (X := X) (G := G) o.xg.K h.1.1
        refine SE.plain tb o ?_ rfl
        rw [f_pr2]
        exact s_op ho hp (fun d e h => noX2 _ [d, e] h) (hk a x h.1.2).1 (hk b y h.2).1
      · cases h
    · rename_i op a pos
      split at h
      · rename_i x
        simp only [Bool.and_eq_true] at h
        have q := hk a x h.2
        have e1 : ev (clN G n) (.not x) = fun r h => (ev (clN G n) x r h).bind fun d h => (tru d h).bind fun k h => .ok (.bl (!k)) h := by funext r h; simp only [ev]
        refine ⟨?_, fun _ => ?_⟩
        · rw [e1]; exact s_notV o.xg.K q.1
        · rw [e1]; exact s_notT (q.2 h.1)
      · rename_i x
        obtain ⟨r, ho, hp⟩ := o_neg (X := X) (G := G)
        refine SE.plain tb o ?_ rfl
        rw [f_pr1]
        exact s_un ho hp (fun d h => noX2 _ [d] h) (hk a x h).1
      · cases h
    · rename_i op l pos
      have q := bool_ok tb o hk (pos := pos) h
      exact ⟨q.1, fun _ => q.2.pt⟩
    · exact SE.both (cmp_sound tb o hk h)
    · rename_i t a b pos
      split at h
      · rename_i x y z
        simp only [Bool.and_eq_true] at h
        have e1 : ev (clN G n) (.ite x y z) = fun r h => (ev (clN G n) x r h).bind fun d h => (tru d h).bind fun k h => if k then ev (clN G n) y r h else ev (clN G n) z r h := by funext r h; simp only [ev]
        refine ⟨?_, fun q => by cases q⟩
        rw [e1]
        exact s_ite ((hk t x h.1.1.2).2 h.1.1.1) (hk a y h.1.2).1 (hk b z h.2).1
      · cases h
    · rename_i es k pos
      split at h
      · rename_i xs
        have q := es_ok (G := G) (n := n) hk h
        have e1 : ev (clN G n) (.tup xs) = fun r h => (evs (clN G n) xs r h).bind fun ds h => if ds.length ≤ sizeLine then .ok (.tup ds) h else .stuck := by funext r h; simp only [ev]
        refine SE.plain tb o ?_ rfl
        rw [e1]
        exact s_tup q.1
      · cases h
    · rename_i es pos
      split at h
      · rename_i xs
        have q := es_ok (G := G) (n := n) hk h
        have e1 : ev (clN G n) (.lst xs) = fun r h => (evs (clN G n) xs r h).bind fun ds h => if ds.length ≤ sizeLine then new (.lst ds) h else .stuck := by funext r h; simp only [ev]
        refine SE.plain tb o ?_ rfl
        rw [e1]
        exact s_lst q.1
      · cases h
    · exact SE.plain tb o (sub_ok tb o hk h) rfl
    · rename_i a x pos
      split at h
      · rename_i y f
        simp only [Bool.and_eq_true, decide_eq_true_eq] at h
        have e1 : ev (clN G n) (.fld y f) = fun r h => (ev (clN G n) y r h).bind fun d h => match d with
            | .ref n => match h[n]? with
              | some (.ins k fs) => if G.t.fld k f then (match fget f fs with
                | some v => .ok v h
                | none => .stuck) else .stuck
              | _ => .stuck
            | _ => .stuck := by funext r h; simp only [ev] <;> rfl
        refine SE.plain tb o ?_ rfl
        rw [e1]
        exact s_fld o.xg.K tb.g (tb.fl x f h.1.1) (hk a y h.2).1 (base_of h.1.2 _)
      · rename_i k y
        simp only [Bool.and_eq_true, decide_eq_true_eq] at h
        have e1 : ev (clN G n) (.xw k y) = fun r h => (ev (clN G n) y r h).bind fun d h => match d with
            | .exc j z => if G.t.sub j j ∧ G.t.sub k k ∧ G.t.sub j k then .ok z h else .stuck
            | _ => .stuck := by funext r h; simp only [ev] <;> rfl
        refine SE.plain tb o ?_ rfl
        rw [e1]
        refine s_xw o.xg.K (fun j j1 j2 j3 => ?_) (hk a y h.2).1 (base_of h.1.2 _)
        have sx := xt.sx j k j2 j3
        have xo := xt.ok j j1
        rw [sx, h.1.1] at xo
        exact ⟨xo.xf, xo.no, by rw [xt.nG, sx, h.1.1]⟩
      · cases h
    · rename_i ks vs pos
      split at h
      · rename_i ds es
        simp only [Bool.and_eq_true, decide_eq_true_eq] at h
        have q := dict_ok (G := G) (n := n) hk (pos := pos) h.2
        have e1 : ev (clN G n) (.dct ds es) = fun (r : Env) (h : Mem) => (evs (clN G n) es r (h ++ [O.dct []])).bind fun zs (h' : Mem) => match h'[h.length]? with
            | some (O.dct []) => if ds.length ≤ 15 then .ok (.ref h.length) (h'.set h.length (.dct (dmk ds zs []))) else .stuck
            | _ => .stuck := by funext r h; simp only [ev] <;> rfl
        refine SE.plain tb o ?_ rfl
        rw [e1]
        exact s_dct q.1 (fun z => by rw [z] at h; cases h.1.1) h.1.2 q.2
      · cases h
    · exact SE.plain tb o (callN_ok tb o hk xt h) rfl
    · exact SE.plain tb o (callA_ok tb o hk h) rfl
    · rename_i elt tg iter ifs scope pos
      split at h
      · rename_i ts one src cond y vs
        simp only [Bool.and_eq_true] at h
        obtain ⟨⟨⟨⟨⟨⟨h1, h2⟩, h3⟩, h4⟩, h5⟩, h6⟩, h7⟩ := h
        have hb : ∀ (s : Shared) (H : Hp) (C : Addr) (cl : List (Str × Addr)) (fp : List Addr), Ok G F xn n N (X.blk s H scope (compEnvC scope cl C X.env) fp) (rlb scope sc) W0 := fun s H C cl fp => o.blk s H scope cl C fp
        have blk := blkOk_by h3
        have own := own_snd N vs
        have e1 : ev (clN G n) (.comp ts one src cond y vs) = compF (evI (clN G n) src) (evC (clN G n) cond) (ev (clN G n) y) ts one ((ownOf N vs).map (·.2)) := by
          funext r h
          rw [own]
          unfold compF
          simp only [ev]
        have ht : ∀ (s : Shared) (H : Hp) (C : Addr) (cl : List (Str × Addr)) (fp : List Addr), PTs (X.blk s H scope (compEnvC scope cl C X.env) fp) ifs (rT G xn W0 (evC (clN G n) cond)) := by
          intro s H C cl fp
          unfold ckC at h6
          split at h6
          · have e2 : evC (clN G n) .yes = fun _ h => .ok true h := by funext r h; simp only [evC]
            rw [e2]; exact t_nil
          · rename_i t e
            simp only [Bool.and_eq_true] at h6
            have e2 : evC (clN G n) (.test e) = fun r h => (ev (clN G n) e r h).bind fun d h => tru d h := by funext r h; simp only [evC]
            rw [e2]
            exact pts_one ((ih (rlb scope sc) t e h6.2 _ W0 (hb s H C cl fp)).2 h6.1)
          · cases h6
        refine SE.plain tb o ?_ rfl
        rw [e1]
        refine s_comp o.xg.K o.cm (by rw [o.hN]; exact o.nd) (iter_ok tb o hk h1) (by rw [o.hN, o.hsc]; exact blk) (fun i hi => ?_) (fun s H C cl fp => tg_ok o h4 s H C cl fp) ht (fun s H C cl fp => (ih (rlb scope sc) elt y h7 _ W0 (hb s H C cl fp)).1) (folded_of h2)
        rw [own]
        simpa using List.all_eq_true.mp h5 i hi
      · cases h
    · cases h
end
end RG

end

section
/-! RgX2: try .. except, what its clause tells of the exception. -/
namespace RG
open PySem L2 PyProof.Rows

def Ext (H H' : Hp) : Prop := ∀ b o, H b = some o → H' b = some o
theorem Ext.refl (H : Hp) : Ext H H := fun _ _ h => h
theorem Ext.trans {H H1 H2 : Hp} (a : Ext H H1) (b : Ext H1 H2) : Ext H H2 := fun x o h => b x o (a x o h)
theorem Ext.new {H : Hp} {a : Addr} {o : HO} (h : H a = none) : Ext H (upd H a o) := fun b u e => by rw [upd_ne (ne_of_none e h)]; exact e
def cV : D → V
  | .bl b => .bl b
  | .int i => .int i
  | .str s => .str ⟨s.toArray⟩
  | _ => .non
def hiW (t : Tab) (j : Nat) (v : V) : HI → V
  | .what => v
  | .isA cs => .bl (cs.any fun k => t.sub j k)
  | .isV => .bl (t.sub j 99)
  | .cst d => cV d
/-- what is known of the exception a in the clause -/
def Cgt (G : Gx) (xn : Nat → Str) (fn : Str) (a : Addr) (cls : Value) (d : Option Addr) (i : Option Nat) (j : Nat) (v : V) (σ : L2.St) (H : Hp) : Prop :=
  cls = .ref (G.cA j) ∧ G.t.sub j j = true ∧ (∃ dd, d = some dd ∧ H dd = some (.xd [(xn j, v)])) ∧ (∀ i', i = some i' → σ[i']? = some (some (.ref a))) ∧ xn j = fn
theorem Cgt.ext {G : Gx} {xn : Nat → Str} {fn : Str} {a : Addr} {cls : Value} {d : Option Addr} {i : Option Nat} {j : Nat} {v : V} {σ : L2.St} {H H' : Hp} (c : Cgt G xn fn a cls d i j v σ H) (e : Ext H H') : Cgt G xn fn a cls d i j v σ H' :=
  let ⟨c1, c2, ⟨dd, c3, c4⟩, c5, c6⟩ := c; ⟨c1, c2, ⟨dd, c3, e _ _ c4⟩, c5, c6⟩
def tIt (G : Gx) (xn : Nat → Str) (fn : Str) (a : Addr) (cls : Value) (d : Option Addr) (i : Option Nat) (it : HI) : TE := fun σ H Q => ∃ j v, Cgt G xn fn a cls d i j v σ H ∧ ∀ H', Ext H H' → Q (hiW G.t j v it) H'
def tIts (G : Gx) (xn : Nat → Str) (fn : Str) (a : Addr) (cls : Value) (d : Option Addr) (i : Option Nat) (its : List HI) : TA := fun σ H Q => ∃ j v, Cgt G xn fn a cls d i j v σ H ∧ ∀ H', Ext H H' → Q (its.map (hiW G.t j v)) H'

section
variable {X : Cx} {G : Gx} {T : Tb} {xn : Nat → Str} {fn : Str} {a : Addr} {oe : Obj} {cls : Value} {d : Option Addr} {pn : List (Addr × Obj)}
/-- isinstance of the caught one -/
theorem kit_sui {C dd : Addr} {f : Str} {v : V} {pins : List (Addr × Obj)} {σ : L2.St} {H : Hp} {s : Shared} (E : ExcC X.K C) (hz : Zc (.ref C) (some dd) oe) (hf : ∃ vs, oe.data = .fields vs) (I : Inv (X.suite a ((a, oe) :: pn)) pins σ H s) (hd : H dd = some (.xd [(f, v)])) :
    ∃ od, PySem.W.InstAt s.heap a oe C (some od) := by
  obtain ⟨ha, _⟩ := I.pin (a, oe) (List.mem_append_left _ List.mem_cons_self)
  obtain ⟨vs, hdv⟩ := hf
  have hx : ObjOk X.prog X.w H s.heap dd (.xd [(f, v)]) := I.hok dd _ hd
  obtain ⟨mA, hns, hr⟩ := hx
  obtain ⟨od, ho, hl⟩ := lookIn_ns hns
  exact ⟨od, ha, hz.1, by unfold PySem.W.notCls; rw [hdv] <;> rfl, by rw [hz.2]; exact ho⟩
theorem call_sui1 {C dd : Addr} {f : Str} (E : ExcC X.K C) (hz : Zc (.ref C) (some dd) oe) (hf : ∃ vs, oe.data = .fields vs) :
    CallR (X.suite a ((a, oe) :: pn)) (.builtin "isinstance") (fun xs H Q => ∃ (c : V) (cv : Value) (b : Bool) (v : V), xs = [.ref a, c] ∧ ClsV c cv ∧ H dd = some (.xd [(f, v)]) ∧ PySem.W.kitOne X.K (.ref C) cv = some b ∧ Q (.bl b) H) := by
  intro pins s σ H xs us Q I r h
  obtain ⟨c, cv, b, v, rfl, hcv, hd, e, q⟩ := h
  obtain ⟨u1, u2, rfl, r1, r2⟩ := vals2 r
  cases (show u1 = Value.ref a from r1)
  have ec := hcv.eq r2
  subst ec
  obtain ⟨od, J⟩ := kit_sui E hz hf I hd
  obtain ⟨cdD, hcD, _⟩ := PySem.W.any_some E.hd
  exact PySem.W.kia_one (PySem.W.kitx_exc (by rw [hcD]; rfl) E.hg E.hk E.hs E.ha E.hn E.ht E.hm) I.kIn J e (fun z => nomatch z) fun tk => ⟨.bl b, H, I.kept (t' := tk) fun _ _ z => z, rfl, q⟩
theorem call_suiT {C dd : Addr} {f : Str} (E : ExcC X.K C) (hz : Zc (.ref C) (some dd) oe) (hf : ∃ vs, oe.data = .fields vs) :
    CallR (X.suite a ((a, oe) :: pn)) (.builtin "isinstance") (fun xs H Q => ∃ (tp : Addr) (cs : List V) (cvs : List Value) (b : Bool) (v : V), xs = [.ref a, .ref tp] ∧ H tp = some (.tup cs) ∧ Paired ClsV cs cvs ∧ H dd = some (.xd [(f, v)]) ∧ PySem.W.kitAny X.K (.ref C) cvs = some b ∧ Q (.bl b) H) := by
  intro pins s σ H xs us Q I r h
  obtain ⟨tp, cs, cvs, b, v, rfl, ht, hcv, hd, e, q⟩ := h
  obtain ⟨u1, u2, rfl, r1, r2⟩ := vals2 r
  cases (show u1 = Value.ref a from r1)
  cases (show u2 = Value.ref tp from r2)
  obtain ⟨od, J⟩ := kit_sui E hz hf I hd
  obtain ⟨cdD, hcD, _⟩ := PySem.W.any_some E.hd
  obtain ⟨_, its, rv, o, h1, h2, n, h3⟩ := (show ObjOk X.prog X.w H s.heap tp (.tup cs) from I.hok tp _ ht)
  have e3 := ClsV.all hcv rv
  subst e3
  obtain ⟨oc, odd, dt, sl⟩ := o
  simp only at h2 h3
  subst h2 h3
  exact PySem.W.kia_tup (PySem.W.kitx_exc (by rw [hcD]; rfl) E.hg E.hk E.hs E.ha E.hn E.ht E.hm) I.kIn J h1 e (fun z => nomatch z) fun tk => ⟨.bl b, H, I.kept (t' := tk) fun _ _ z => z, rfl, q⟩

variable {i : Nat} {en : Str} {p1 p2 p3 pos : Pos}
theorem it_what (xt : XTb T G xn) (hK : X.K = G.K) (hN : X.N[i]? = some en) (hv : Vis X.env.scope en) (hd1 : (en == ("__debug__" : Str)) = false) (hd2 : (en == ("__classdict__" : Str)) = false) (hz : Zc cls d oe) (hf : ∃ vs, oe.data = .fields vs) :
    PE (X.suite a ((a, oe) :: pn)) (.Attribute (.Name en p1) fn pos) (tIt G xn fn a cls d (some i) .what) := by
  refine ⟨fun pins s σ H Q I ⟨j, v, ⟨c1, c2, ⟨dd, c3, c4⟩, c5, c6⟩, k⟩ => ?_⟩
  have xo := xt.ok j c2
  rw [← xt.nm j, c6] at xo
  refine (pe_xf (X := X) (C := G.cA j) (by rw [hK]; exact xo.xf) (by rw [hK]; exact xo.no) hz hf (pe_var (X := X.suite a ((a, oe) :: pn)) (i := i) hN hv hd1 hd2) (base_of rfl _)).run pins s σ H Q I ?_
  refine ⟨.ref a, c5 i rfl, rfl, c1, dd, _, v, c3, c4, ?_, k H (Ext.refl H)⟩
  rw [c6]
  simp
theorem it_one {c : Nat} {x : Str} (xt : XTb T G xn) (hK : X.K = G.K) (hmg : X.mg = G.mg) (hN : X.N[i]? = some en) (hv : Vis X.env.scope en) (hd1 : (en == ("__debug__" : Str)) = false) (hd2 : (en == ("__classdict__" : Str)) = false) (hz : Zc cls d oe) (hf : ∃ vs, oe.data = .fields vs)
    (hg : Gl X "isinstance") (hm : X.mg "isinstance" = none) (hg2 : Gl X x) (hx : T.xc x = some c) (hdx : (x == ("__debug__" : Str)) = false) :
    PE (X.suite a ((a, oe) :: pn)) (.Call (.Name "isinstance" p1) [.Name en p2, .Name x p3] [] pos) (tIt G xn fn a cls d (some i) (.isA [c])) := by
  obtain ⟨m1, m2⟩ := xt.xc x c hx
  refine ⟨fun pins s σ H Q I ⟨j, v, ⟨c1, c2, ⟨dd, c3, c4⟩, c5, c6⟩, k⟩ => ?_⟩
  subst c1 c3
  have E := xt.ec j c2
  rw [← hK] at E
  refine (pe_callB (X := X.suite a ((a, oe) :: pn)) (call_sui1 (X := X) (f := xn j) E hz hf) hg hm PyProof.Rows.boot_isinstance (pa_cons (pe_var (i := i) hN hv hd1 hd2) (pa_cons (pe_glob (v := .ref (G.cA c)) hg2 (by show X.mg x = _; rw [hmg]; exact m1) rfl hdx) pa_nil rfl) rfl) (by decide) (by decide) rfl rfl).run pins s σ H Q I ?_
  refine ⟨.ref a, c5 i rfl, _, _, _, v, rfl, .own _, c4, by rw [hK]; exact xt.ki j c c2 m2, ?_⟩
  have := k H (Ext.refl H)
  have e : hiW G.t j v (.isA [c]) = .bl (G.t.sub j c) := by simp [hiW]
  rw [e] at this
  exact this
theorem it_ve (xt : XTb T G xn) (hK : X.K = G.K) (hN : X.N[i]? = some en) (hv : Vis X.env.scope en) (hd1 : (en == ("__debug__" : Str)) = false) (hd2 : (en == ("__classdict__" : Str)) = false) (hz : Zc cls d oe) (hf : ∃ vs, oe.data = .fields vs)
    (hg : Gl X "isinstance") (hm : X.mg "isinstance" = none) (hg2 : Gl X "ValueError") (hm2 : X.mg "ValueError" = none) :
    PE (X.suite a ((a, oe) :: pn)) (.Call (.Name "isinstance" p1) [.Name en p2, .Name "ValueError" p3] [] pos) (tIt G xn fn a cls d (some i) .isV) := by
  refine ⟨fun pins s σ H Q I ⟨j, v, ⟨c1, c2, ⟨dd, c3, c4⟩, c5, c6⟩, k⟩ => ?_⟩
  subst c1 c3
  have E := xt.ec j c2
  rw [← hK] at E
  refine (pe_callB (X := X.suite a ((a, oe) :: pn)) (call_sui1 (X := X) (f := xn j) E hz hf) hg hm PyProof.Rows.boot_isinstance (pa_cons (pe_var (i := i) hN hv hd1 hd2) (pa_cons (pe_bltn (v := .ty "ValueError") hg2 hm2 PyProof.Rows.Boot.«ValueError» rfl (by decide) (by decide)) pa_nil rfl) rfl) (by decide) (by decide) rfl rfl).run pins s σ H Q I ?_
  exact ⟨.ref a, c5 i rfl, _, _, _, v, rfl, .ty _, c4, by rw [hK]; exact xt.kv j c2, k H (Ext.refl H)⟩
theorem kit_any {K : PySem.W.Frag} {t : Value} {b : Nat → Bool} {f : Nat → Value} : ∀ {cs : List Nat}, (∀ c ∈ cs, PySem.W.kitOne K t (f c) = some (b c)) → PySem.W.kitAny K t (cs.map f) = some (cs.any b)
  | [], _ => rfl
  | c :: cs, h => by
    refine kitAny_cons (h c List.mem_cons_self) (fun z => ?_) fun z => ?_
    · rw [kit_any fun k hk => h k (List.mem_cons_of_mem _ hk)]
      rw [List.any_cons, z, Bool.false_or]
    · rw [List.any_cons, z, Bool.true_or]
theorem cls_pairs {f : Nat → Addr} : ∀ cs : List Nat, Paired ClsV (cs.map fun c => V.ref (f c)) (cs.map fun c => Value.ref (f c))
  | [] => .nil
  | c :: cs => .cons (.own _) (cls_pairs cs)
theorem it_many {cs : List Nat} {bs : List Expr} {sc : Scope} {kk : Nat} (xt : XTb T G xn) (hK : X.K = G.K) (hmg : X.mg = G.mg) (hsc : X.env.scope = sc) (hN : X.N[i]? = some en) (hv : Vis X.env.scope en) (hd1 : (en == ("__debug__" : Str)) = false) (hd2 : (en == ("__classdict__" : Str)) = false) (hz : Zc cls d oe) (hf : ∃ vs, oe.data = .fields vs)
    (hg : Gl X "isinstance") (hm : X.mg "isinstance" = none) (hb : ckCs T sc bs cs = true) (hl : cs.length ≤ 1000) :
    PE (X.suite a ((a, oe) :: pn)) (.Call (.Name "isinstance" p1) [.Name en p2, .Tuple bs kk p3] [] pos) (tIt G xn fn a cls d (some i) (.isA cs)) := by
  obtain ⟨t, t1, t2, t3⟩ := cs_ok (X := X.suite a ((a, oe) :: pn)) xt hmg hsc hb
  refine ⟨fun pins s σ H Q I ⟨j, v, ⟨c1, c2, ⟨dd, c3, c4⟩, c5, c6⟩, k⟩ => ?_⟩
  subst c1 c3
  have E := xt.ec j c2
  rw [← hK] at E
  refine (pe_callB (X := X.suite a ((a, oe) :: pn)) (call_suiT (X := X) (f := xn j) E hz hf) hg hm PyProof.Rows.boot_isinstance (pa_cons (pe_var (i := i) hN hv hd1 hd2) (pa_cons (pe_tup t1) pa_nil rfl) rfl) (by decide) (by decide) rfl rfl).run pins s σ H Q I ?_
  refine ⟨.ref a, c5 i rfl, t2 σ H _ ⟨by rw [List.length_map, sizeLine_eq]; omega, fun tp nt => ?_⟩⟩
  refine ⟨tp, _, _, cs.any fun c => G.t.sub j c, v, rfl, upd_same, cls_pairs (f := G.cA) cs, (Ext.new nt) _ _ c4, ?_, ?_⟩
  · rw [hK]; exact kit_any (f := fun c => Value.ref (G.cA c)) fun c hc => xt.ki j c c2 (t3 c hc)
  · exact k _ (Ext.new nt)

/-! ### the check of a clause -/
def ckHI (T : Tb) (sc : Scope) (fn : Str) (en : Option Str) : HI → Expr → Bool
  | .what, e => match e with
    | .Attribute (.Name x _) f _ => decide (en = some x) && decide (f = fn)
    | _ => false
  | .isA cs, e => match e with
    | .Call (.Name q _) [.Name x _, b] [] _ => decide (q = ("isinstance" : Str)) && isG sc q && T.fr q && decide (en = some x) && (match b with
      | .Name y _ => (match cs with | [c] => decide (T.xc y = some c) | _ => false) && isG sc y
      | .Tuple bs _ _ => ckCs T sc bs cs && decide (cs.length ≤ 1000)
      | _ => false)
    | _ => false
  | .isV, e => match e with
    | .Call (.Name q _) [.Name x _, .Name y _] [] _ => decide (q = ("isinstance" : Str)) && isG sc q && T.fr q && decide (en = some x) && decide (y = ("ValueError" : Str)) && isG sc y && T.fr y
    | _ => false
  | .cst d, e => match e with
    | .Constant c _ _ => ckCst c (.cst d)
    | _ => false
end
end RG

end

section
/-! RgX3: an except clause, and the statement. -/
namespace RG
open PySem L2 PyProof.Rows

/-- the clause's surroundings: the exception's name and its slot -/
structure SX (T : Tb) (G : Gx) (xn : Nat → Str) (X : Cx) (sc : Scope) (en : Option Str) (i : Option Nat) : Prop where
  xt : XTb T G xn
  fr : ∀ x, T.fr x = true → G.mg x = none
  K : X.K = G.K
  mg : X.mg = G.mg
  se : X.env.scope = sc
  en : ∀ x, en = some x → ∃ i', i = some i' ∧ X.N[i']? = some x ∧ Vis sc x ∧ (x == ("__debug__" : Str)) = false ∧ (x == ("__classdict__" : Str)) = false

def ckHIs (T : Tb) (sc : Scope) (fn : Str) (en : Option Str) : List HI → List Expr → Bool
  | [], [] => true
  | it :: its, e :: es => notStar e && ckHI T sc fn en it e && ckHIs T sc fn en its es
  | _, _ => false
def ckHV (T : Tb) (sc : Scope) (fn : Str) (en : Option Str) (hb : HB) (v : Expr) : Bool := match hb.sh with
  | 0 => (match hb.its with
    | [it] => ckHI T sc fn en it v
    | _ => false)
  | 1 => (match v with
    | .List es _ => ckHIs T sc fn en hb.its es
    | _ => false)
  | 2 => (match v with
    | .Tuple es _ _ => ckHIs T sc fn en hb.its es
    | _ => false)
  | _ => false
def hK (sh : Nat) (ws : List V) (H1 : Hp) (Q : VK) : Prop := match sh, ws with
  | 0, [u] => Q u H1
  | 1, ws => ws.length ≤ sizeLine ∧ ∀ p, H1 p = none → Q (.ref p) (upd H1 p (.lst ws))
  | 2, ws => ws.length ≤ sizeLine ∧ ∀ p, H1 p = none → Q (.ref p) (upd H1 p (.tup ws))
  | _, _ => False
def tHV (G : Gx) (xn : Nat → Str) (fn : Str) (a : Addr) (cls : Value) (d : Option Addr) (i : Option Nat) (hb : HB) : TE := fun σ H Q => ∃ j v, Cgt G xn fn a cls d i j v σ H ∧ ∀ H1, Ext H H1 → hK hb.sh (hb.its.map (hiW G.t j v)) H1 Q

section
variable {T : Tb} {G : Gx} {xn : Nat → Str} {fn : Str} {X : Cx} {sc : Scope} {en : Option Str} {i : Option Nat} {a : Addr} {oe : Obj} {cls : Value} {d : Option Addr} {pn : List (Addr × Obj)}
theorem cst_v {X : Cx} {c : Const} {j : Nat} {pos : Pos} {d : D} (h : ckCst c (.cst d) = true) : PE X (.Constant c j pos) (tC (cV d)) ∧ ∀ G H p, RelD G H p d (cV d) := by
  unfold ckCst at h
  split at h
  · rename_i e; cases e; exact ⟨pe_non, fun _ _ _ => .non⟩
  · rename_i b b' e; cases e; have e : b = b' := by simpa using h
    subst e; exact ⟨pe_bl, fun _ _ _ => .bl _⟩
  · rename_i b b' e; cases e; have e : b = b' := by simpa using h
    subst e; exact ⟨pe_int, fun _ _ _ => .int _⟩
  · rename_i b b' e; cases e; have e : b = ⟨b'.toArray⟩ := by simpa using h
    subst e; exact ⟨pe_str, fun _ _ _ => .str _⟩
  · cases h
theorem cst_r {c : Const} {d : D} (h : ckCst c (.cst d) = true) (G : Gx) (H : Hp) (p : List Addr) : RelD G H p d (cV d) := by
  unfold ckCst at h
  split at h
  · rename_i e; cases e; exact .non
  · rename_i b b' e; cases e; exact .bl _
  · rename_i b b' e; cases e; exact .int _
  · rename_i b b' e; cases e; exact .str _
  · cases h
theorem hi_ok (S : SX T G xn X sc en i) (hz : Zc cls d oe) (hf : ∃ vs, oe.data = .fields vs) {it : HI} {e : Expr} (h : ckHI T sc fn en it e = true) : PE (X.suite a ((a, oe) :: pn)) e (tIt G xn fn a cls d i it) := by
  have gl : ∀ {x}, isG sc x = true → Gl X x ∧ (x == ("__debug__" : Str)) = false ∧ x ≠ "__name__" := fun {x} g => by
    obtain ⟨h1, h2, h3⟩ := isG_of g
    exact ⟨by show X.env.scope.names.lookup x = _; rw [S.se]; exact h1, h2, h3⟩
  cases it with
  | what =>
    simp only [ckHI] at h
    split at h
    · rename_i x p1 f pos
      simp only [Bool.and_eq_true, decide_eq_true_eq] at h
      obtain ⟨h1, rfl⟩ := h
      obtain ⟨i', rfl, n1, n2, n3, n4⟩ := S.en x h1
      exact it_what S.xt S.K n1 (by rw [S.se]; exact n2) n3 n4 hz hf
    · cases h
  | isA cs =>
    simp only [ckHI] at h
    split at h
    · rename_i q p1 x p2 b pos
      simp only [Bool.and_eq_true, decide_eq_true_eq] at h
      obtain ⟨⟨⟨⟨rfl, h2⟩, h3⟩, h4⟩, h5⟩ := h
      obtain ⟨i', rfl, n1, n2, n3, n4⟩ := S.en x h4
      have m0 : X.mg "isinstance" = none := by rw [S.mg]; exact S.fr _ h3
      split at h5
      · rename_i y p3
        split at h5
        · rename_i c
          simp only [Bool.and_eq_true, decide_eq_true_eq] at h5
          exact it_one S.xt S.K S.mg n1 (by rw [S.se]; exact n2) n3 n4 hz hf (gl h2).1 m0 (gl h5.2).1 h5.1 (gl h5.2).2.1
        · simp only [Bool.false_and] at h5; cases h5
      · rename_i bs kk p3
        simp only [Bool.and_eq_true, decide_eq_true_eq] at h5
        exact it_many S.xt S.K S.mg S.se n1 (by rw [S.se]; exact n2) n3 n4 hz hf (gl h2).1 m0 h5.1 h5.2
      · cases h5
    · cases h
  | isV =>
    simp only [ckHI] at h
    split at h
    · rename_i q p1 x p2 y p3 pos
      simp only [Bool.and_eq_true, decide_eq_true_eq] at h
      obtain ⟨⟨⟨⟨⟨⟨rfl, h2⟩, h3⟩, h4⟩, rfl⟩, h6⟩, h7⟩ := h
      obtain ⟨i', rfl, n1, n2, n3, n4⟩ := S.en x h4
      exact it_ve S.xt S.K n1 (by rw [S.se]; exact n2) n3 n4 hz hf (gl h2).1 (by rw [S.mg]; exact S.fr _ h3) (gl h6).1 (by rw [S.mg]; exact S.fr _ h7)
    · cases h
  | cst d =>
    simp only [ckHI] at h
    split at h
    · exact PE.imp (cst_v h).1 fun σ H Q ⟨j, v, _, k⟩ => k H (Ext.refl H)
    · cases h
theorem his_ok (S : SX T G xn X sc en i) (hz : Zc cls d oe) (hf : ∃ vs, oe.data = .fields vs) : ∀ {its : List HI} {es : List Expr}, ckHIs T sc fn en its es = true → PA (X.suite a ((a, oe) :: pn)) es (tIts G xn fn a cls d i its)
  | [], [], _ => PA.imp pa_nil fun σ H Q ⟨j, v, _, k⟩ => k H (Ext.refl H)
  | [], _ :: _, h => by cases h
  | _ :: _, [], h => by cases h
  | it :: its, e :: es, h => by
    simp only [ckHIs, Bool.and_eq_true] at h
    refine PA.imp (pa_cons (hi_ok S hz hf h.1.2) (his_ok S hz hf h.2) (star_of h.1.1)) fun σ H Q ⟨j, v, c, k⟩ => ?_
    exact ⟨j, v, c, fun H1 e1 => ⟨j, v, c.ext e1, fun H2 e2 => k H2 (e1.trans e2)⟩⟩
theorem hv_ok (S : SX T G xn X sc en i) (hz : Zc cls d oe) (hf : ∃ vs, oe.data = .fields vs) {hb : HB} {e : Expr} (h : ckHV T sc fn en hb e = true) : PE (X.suite a ((a, oe) :: pn)) e (tHV G xn fn a cls d i hb) := by
  obtain ⟨ret, tg, sh, its⟩ := hb
  unfold ckHV at h
  dsimp only at h
  split at h
  · split at h
    · rename_i it
      exact PE.imp (hi_ok S hz hf h) fun σ H Q ⟨j, v, c, k⟩ => ⟨j, v, c, fun H1 e1 => k H1 e1⟩
    · cases h
  · split at h
    · exact PE.imp (pe_lst (his_ok S hz hf h)) fun σ H Q ⟨j, v, c, k⟩ => ⟨j, v, c, fun H1 e1 => k H1 e1⟩
    · cases h
  · split at h
    · exact PE.imp (pe_tup (his_ok S hz hf h)) fun σ H Q ⟨j, v, c, k⟩ => ⟨j, v, c, fun H1 e1 => k H1 e1⟩
    · cases h
  · cases h

/-! ### the clause's statement -/
def tHS (G : Gx) (xn : Nat → Str) (fn : Str) (i : Option Nat) (hb : HB) (a : Addr) (cls : Value) (d : Option Addr) : TS := if hb.ret then tRet (tHV G xn fn a cls d i hb) else tAsg (tHV G xn fn a cls d i hb) (gName hb.tg)
def ckHS (T : Tb) (N : List Str) (sc : Scope) (fn : Str) (en : Option Str) (i : Option Nat) (hb : HB) : Stmt → Bool
  | .Assign [.Name y py] v _ => !hb.ret && decide (N[hb.tg]? = some y) && locB sc y && decide (i ≠ some hb.tg) && notComp v && ckHV T sc fn en hb v
  | .Return (some v) _ => hb.ret && ckHV T sc fn en hb v
  | _ => false
theorem hs_ok {N : List Str} (S : SX T G xn X sc en i) (hN : X.N = N) (nd : N.Nodup) (fnn : ∀ x, X.fn x = true) (hz : Zc cls d oe) (hf : ∃ vs, oe.data = .fields vs) {hb : HB} {st : Stmt} (h : ckHS T N sc fn en i hb st = true) : PSs (X.suite a ((a, oe) :: pn)) [st] (tHS G xn fn i hb a cls d) := by
  unfold ckHS at h
  split at h
  · rename_i y py v spos
    simp only [Bool.and_eq_true, decide_eq_true_eq, Bool.not_eq_true'] at h
    obtain ⟨⟨⟨⟨⟨h1, h2⟩, h3⟩, h4⟩, h5⟩, h6⟩ := h
    unfold tHS
    rw [h1, if_neg Bool.false_ne_true]
    exact pss_one (ps_set (X := X.suite a ((a, oe) :: pn)) (by show X.N.Nodup; rw [hN]; exact nd) (by show X.N[_]? = _; rw [hN]; exact h2) (by show Loc X.env.scope y; rw [S.se]; exact locB_of h3) (hv_ok S hz hf h6) (swaps_of h5) (.inl (fnn y)))
  · rename_i v pos
    simp only [Bool.and_eq_true] at h
    unfold tHS
    rw [h.1, if_pos rfl]
    exact pss_one (ps_ret (hv_ok S hz hf h.2))
  · cases h
/-- what the clause tells, related -/
theorem hi_rel {p : List Addr} {H : Hp} {x : D} {v : V} (r : RelD G H p x v) {j : Nat} : ∀ {it : HI} {e : Expr}, ckHI T sc fn en it e = true → RelD G H p (hiV G.t j x it) (hiW G.t j v it)
  | .what, _, _ => r
  | .isA cs, _, _ => .bl _
  | .isV, _, _ => .bl _
  | .cst d, e, h => by
    simp only [ckHI] at h
    split at h
    · exact cst_r h G H p
    · cases h
theorem his_rel {p : List Addr} {H : Hp} {x : D} {v : V} (r : RelD G H p x v) {j : Nat} : ∀ {its : List HI} {es : List Expr}, ckHIs T sc fn en its es = true → RelDs G H p (its.map (hiV G.t j x)) (its.map (hiW G.t j v))
  | [], _, _ => .nil
  | it :: its, [], h => by cases h
  | it :: its, e :: es, h => by
    simp only [ckHIs, Bool.and_eq_true] at h
    exact .cons (hi_rel r h.1.2) (his_rel r h.2)
theorem hv_rel {p : List Addr} {h : Mem} {H : Hp} {x : D} {v : V} {Q : VK} (m : RelM G p h H) (rx : RelD G H p x v) {j : Nat} {hb : HB} {e : Expr} (hc : ckHV T sc fn en hb e = true)
    (k : ∃ d h', hbV G.t hb j x h = .ok d h' ∧ ∀ p' u H', p <+: p' → Le G H H' → RelM G p' h' H' → RelD G H' p' d u → Q u H') : hK hb.sh (hb.its.map (hiW G.t j v)) H Q := by
  obtain ⟨ret, tg, sh, its⟩ := hb
  obtain ⟨d, h', e1, k⟩ := k
  unfold ckHV at hc
  unfold hbV at e1
  dsimp only at hc e1 ⊢
  split at hc
  · split at hc
    · rename_i it
      cases e1
      exact k p _ H (List.prefix_refl _) (Le.refl _) m (hi_rel rx hc)
    · cases hc
  · split at hc
    · have rr := his_rel (j := j) rx hc
      have e1 : (if (its.map (hiV G.t j x)).length ≤ sizeLine then new (.lst (its.map (hiV G.t j x))) h else .stuck) = .ok d h' := e1
      split at e1
      · rename_i c
        cases e1
        refine ⟨by rw [← rr.length]; exact c, fun q nq => ?_⟩
        exact k _ _ _ (List.prefix_append _ _) (Le.new nq) (m.new nq (m.fresh nq) ⟨_, upd_same, rr.mono (Le.new nq) (List.prefix_append _ _)⟩) (.ref (by rw [← m.len]; simp))
      · cases e1
    · cases hc
  · split at hc
    · have rr := his_rel (j := j) rx hc
      have e1 : (if (its.map (hiV G.t j x)).length ≤ sizeLine then Out.ok (D.tup (its.map (hiV G.t j x))) h else Out.stuck) = Out.ok d h' := e1
      split at e1
      · rename_i c
        cases e1
        refine ⟨by rw [← rr.length]; exact c, fun q nq => ?_⟩
        exact k p _ _ (List.prefix_refl _) (Le.new nq) (m.ext (Ext.new nq)) (.tup (SqT.of upd_same) (rr.mono (Le.new nq) (List.prefix_refl _)))
      · cases e1
    · cases hc
  · cases hc

/-- the statement's check -/
def ckTry (T : Tb) (N : List Str) (sc : Scope) (k : Nat) (i : Option Nat) (hb : HB) : List ExceptHandler → Bool
  | [.ExceptHandler (some (.Name x _)) nm [st] _] => isG sc x && decide (T.xc x = some k) && (match nm, i with
    | none, none => ckHS T N sc (T.xf k) none none hb st
    | some y, some i' => decide (N[i']? = some y) && decide (sc.names.lookup y = some .local) && !(y == ("__debug__" : Str)) && !(y == ("__classdict__" : Str)) && ckHS T N sc (T.xf k) (some y) (some i') hb st
    | _, _ => false)
  | _ => false
theorem gone_rel {p p' : List Addr} {H H' : Hp} {r : Env} {σ : L2.St} {i tg : Nat} {u y : V} {d : D} (s : RelS G p r σ H) (l : Le G H H') (q : p <+: p') (ne : i ≠ tg) (rd : RelD G H' p' d u) : RelS G p' ((r.set i none).set tg (some d)) (((σ.set i (some y)).set tg (some u)).set i none) H' := by
  refine ⟨by simp [s.len], fun k e h => ?_⟩
  by_cases h1 : tg = k
  · subst h1
    obtain ⟨hl, he⟩ := List.getElem?_eq_some_iff.mp h
    rw [List.length_set, List.length_set] at hl
    rw [List.getElem?_set_self (by rw [List.length_set]; exact hl)] at h
    cases h
    rw [List.getElem?_set_ne ne, List.getElem?_set_self (by rw [List.length_set, ← s.len]; exact hl)]
    exact ⟨u, rfl, rd⟩
  · rw [List.getElem?_set_ne h1] at h
    by_cases h2 : i = k
    · subst h2
      obtain ⟨hl, he⟩ := List.getElem?_eq_some_iff.mp h
      rw [List.length_set] at hl
      rw [List.getElem?_set_self hl] at h
      cases h
    · rw [List.getElem?_set_ne h2] at h
      rw [List.getElem?_set_ne h2, List.getElem?_set_ne h1, List.getElem?_set_ne h2]
      obtain ⟨v, g1, g2⟩ := s.at_ k e h
      exact ⟨v, g1, g2.mono l q⟩
theorem s_try {N : List Str} {W : WX} {body : List Stmt} {fs : Env → Mem → Out Fl} {k : Nat} {hb : HB} {hds : List ExceptHandler} {pos : Pos} (xt : XTb T G xn) (hfr : ∀ x, T.fr x = true → G.mg x = none) (xg : XG X G) (hsc : X.env.scope = sc) (hN : X.N = N) (nd : N.Nodup) (fnn : ∀ x, X.fn x = true) (tk : Takes X W)
    (hs : X.stack = X.env :: X.outer) (hf : X.env.frame = some X.env.locals)
    (hbody : ∀ (W' : WX) (pn : List (Addr × Obj)) (xe : Value → Shared → Prop), Takes (X.tr pn xe) W' → PassesOwn (model X.prog X.w) X.A X.env xe → PSs (X.tr pn xe) body (rS G xn W' fs)) (hc : ckTry T N sc k i hb hds = true) :
    PS X (.Try body hds [] [] pos) (rS G xn W fun r h => tryF G.t k i hb (fs r h)) := by
  unfold ckTry at hc
  split at hc
  · rename_i x np nm st pos'
    simp only [Bool.and_eq_true, decide_eq_true_eq] at hc
    obtain ⟨⟨h1, h2⟩, h3⟩ := hc
    obtain ⟨g1, g2, g3⟩ := isG_of h1
    obtain ⟨m1, m2⟩ := xt.xc x k h2
    have nms : Names X x (.ref (G.cA k)) := ⟨by show X.env.scope.names.lookup x = _; rw [hsc]; exact g1, g2, .inl (by rw [xg.mg]; exact m1)⟩
    split at h3
    · -- no name
      have S : SX T G xn X sc none none := ⟨xt, hfr, xg.K, xg.mg, hsc, fun x e => by cases e⟩
      refine PS.imp (ps_try_only hs hf nms tk hbody fun a oe cls d pn hz hff => hs_ok S hN nd fnn hz hff h3) fun En σ H ⟨p, r, h, m, s, kk⟩ => ⟨p, r, h, m, s, ?_⟩
      dsimp only at kk
      cases e : fs r h with
      | ok fl h' =>
        rw [e] at kk
        cases fl with
        | nx r' => exact kk
        | rt d => exact kk
        | xc xx r' =>
          cases xx with
          | exc j x' =>
            intro p' cls dd σ' H' q l m' s' rx
            unfold tryF at kk
            dsimp only at kk
            by_cases c : G.t.sub j j = true ∧ G.t.sub k k = true ∧ inB none r' = true
            · rw [if_pos c] at kk
              obtain ⟨rfl, d', v, rfl, hd, rv⟩ := rx
              refine ⟨G.t.sub j k, by rw [xg.K]; exact xt.ex j k c.1 c.2.1, fun hb1 a na => ?_, fun hb1 => ?_⟩
              · rw [hb1, if_pos rfl] at kk
                have hS := h3
                unfold ckHS at h3
                have val : ∀ (Q : VK), (∀ d h'' p2 u H2, hbV G.t hb j x' h' = .ok d h'' → p' <+: p2 → Le G H' H2 → RelM G p2 h'' H2 → RelD G H2 p2 d u → Q u H2) → ∀ v', ckHV T sc (T.xf k) none hb v' = true → tHV G xn (T.xf k) a (.ref (G.cA j)) (some d') none hb σ' H' Q := fun Q hQ v' hv' => by
                  refine ⟨j, v, ⟨rfl, c.1, ⟨d', rfl, hd⟩, fun i' z => (by cases z), by rw [xt.nm j]; exact xt.sx j k c.2.1 hb1⟩, fun H1 e1 => ?_⟩
                  cases e2 : hbV G.t hb j x' h' with
                  | ok d h'' => exact hv_rel (m'.ext e1) (rv.mono (Le.ext e1) (List.prefix_refl _)) hv' ⟨d, h'', e2, fun p2 u H2 q2 l2 m2 r2 => hQ d h'' p2 u H2 e2 q2 ((Le.ext e1).trans l2) m2 r2⟩
                  | exc _ _ => rw [e2] at kk; exact kk.elim
                  | stuck => rw [e2] at kk; exact kk.elim
                unfold tHS
                split at h3
                · rename_i y py v' spos
                  simp only [Bool.and_eq_true, decide_eq_true_eq, Bool.not_eq_true'] at h3
                  rw [h3.1.1.1.1.1, if_neg Bool.false_ne_true]
                  refine val _ (fun d h'' p2 u H2 e2 q2 l2 m2 r2 => ?_) v' h3.2
                  rw [e2] at kk
                  dsimp only [hbF] at kk
                  rw [h3.1.1.1.1.1, if_neg Bool.false_ne_true] at kk
                  exact kk p2 _ H2 (q.trans q2) (l.trans l2) m2 ((s'.mono l2 q2).set hb.tg r2)
                · rename_i v' pos
                  simp only [Bool.and_eq_true] at h3
                  rw [h3.1, if_pos rfl]
                  refine val _ (fun d h'' p2 u H2 e2 q2 l2 m2 r2 => ?_) v' h3.2
                  rw [e2] at kk
                  dsimp only [hbF] at kk
                  rw [h3.1, if_pos rfl] at kk
                  exact kk p2 _ H2 (q.trans q2) (l.trans l2) m2 r2
                · cases h3
              · rw [hb1, if_neg Bool.false_ne_true] at kk
                exact kk p' _ _ σ' H' q l m' s' ⟨rfl, d', v, rfl, hd, rv⟩
            · rw [if_neg c] at kk
              exact kk.elim
          | _ => exact kk.elim
      | exc xx h' => rw [e] at kk; exact kk
      | stuck => rw [e] at kk; exact kk
    · -- as a name
      rename_i y i'
      simp only [Bool.and_eq_true, decide_eq_true_eq, Bool.not_eq_true'] at h3
      obtain ⟨⟨⟨⟨n1, n2⟩, n3⟩, n4⟩, h3⟩ := h3
      have S : SX T G xn X sc (some y) (some i') := ⟨xt, hfr, xg.K, xg.mg, hsc, fun x e => by cases e; exact ⟨i', rfl, by rw [hN]; exact n1, .inl n2, n3, n4⟩⟩
      refine PS.imp (ps_try_as hs hf (by rw [hN]; exact nd) (by rw [hN]; exact n1) (by show X.env.scope.names.lookup y = _; rw [hsc]; exact n2) nms tk hbody fun a oe cls d pn hz hff => hs_ok S hN nd fnn hz hff h3) fun En σ H ⟨p, r, h, m, s, kk⟩ => ⟨p, r, h, m, s, ?_⟩
      dsimp only at kk
      cases e : fs r h with
      | ok fl h' =>
        rw [e] at kk
        cases fl with
        | nx r' => exact kk
        | rt d => exact kk
        | xc xx r' =>
          cases xx with
          | exc j x' =>
            intro p' cls dd σ' H' q l m' s' rx
            unfold tryF at kk
            dsimp only at kk
            by_cases c : G.t.sub j j = true ∧ G.t.sub k k = true ∧ inB (some i') r' = true
            · rw [if_pos c] at kk
              have il : i' < σ'.length := by rw [← s'.len]; exact of_decide_eq_true c.2.2
              obtain ⟨rfl, d', v, rfl, hd, rv⟩ := rx
              refine ⟨G.t.sub j k, by rw [xg.K]; exact xt.ex j k c.1 c.2.1, fun hb1 a na => ?_, fun hb1 => ?_⟩
              · rw [hb1, if_pos rfl] at kk
                unfold ckHS at h3
                have val : ∀ (Q : VK), (∀ d h'' p2 u H2, hbV G.t hb j x' h' = .ok d h'' → p' <+: p2 → Le G H' H2 → RelM G p2 h'' H2 → RelD G H2 p2 d u → Q u H2) → ∀ v', ckHV T sc (T.xf k) (some y) hb v' = true → tHV G xn (T.xf k) a (.ref (G.cA j)) (some d') (some i') hb (σ'.set i' (some (.ref a))) H' Q := fun Q hQ v' hv' => by
                  refine ⟨j, v, ⟨rfl, c.1, ⟨d', rfl, hd⟩, fun i'' z => (by cases z; exact List.getElem?_set_self il), by rw [xt.nm j]; exact xt.sx j k c.2.1 hb1⟩, fun H1 e1 => ?_⟩
                  cases e2 : hbV G.t hb j x' h' with
                  | ok d h'' => exact hv_rel (m'.ext e1) (rv.mono (Le.ext e1) (List.prefix_refl _)) hv' ⟨d, h'', e2, fun p2 u H2 q2 l2 m2 r2 => hQ d h'' p2 u H2 e2 q2 ((Le.ext e1).trans l2) m2 r2⟩
                  | exc _ _ => rw [e2] at kk; exact kk.elim
                  | stuck => rw [e2] at kk; exact kk.elim
                unfold tHS
                split at h3
                · rename_i y' py v' spos
                  simp only [Bool.and_eq_true, decide_eq_true_eq, Bool.not_eq_true'] at h3
                  rw [h3.1.1.1.1.1, if_neg Bool.false_ne_true]
                  refine val _ (fun d h'' p2 u H2 e2 q2 l2 m2 r2 => ?_) v' h3.2
                  rw [e2] at kk
                  dsimp only [hbF] at kk
                  rw [h3.1.1.1.1.1, if_neg Bool.false_ne_true] at kk
                  exact kk p2 _ H2 (q.trans q2) (l.trans l2) m2 (gone_rel s' l2 q2 (fun z => h3.1.1.2 (by rw [z])) r2)
                · rename_i v' pos
                  simp only [Bool.and_eq_true] at h3
                  rw [h3.1, if_pos rfl]
                  refine val _ (fun d h'' p2 u H2 e2 q2 l2 m2 r2 => ?_) v' h3.2
                  rw [e2] at kk
                  dsimp only [hbF] at kk
                  rw [h3.1, if_pos rfl] at kk
                  exact kk p2 _ H2 (q.trans q2) (l.trans l2) m2 r2
                · cases h3
              · rw [hb1, if_neg Bool.false_ne_true] at kk
                exact kk p' _ _ σ' H' q l m' s' ⟨rfl, d', v, rfl, hd, rv⟩
            · rw [if_neg c] at kk
              exact kk.elim
          | _ => exact kk.elim
      | exc xx h' => rw [e] at kk; exact kk
      | stuck => rw [e] at kk; exact kk
    · cases h3
  · cases hc
/-- the clause keeps what it caught -/
def ckTryK (T : Tb) (N : List Str) (sc : Scope) (k i : Nat) (ret : Bool) (tg : Nat) : List ExceptHandler → Bool
  | [.ExceptHandler (some (.Name x _)) (some y) [st] _] => isG sc x && decide (T.xc x = some k) && decide (N[i]? = some y) && decide (sc.names.lookup y = some .local) && !(y == ("__debug__" : Str)) && !(y == ("__classdict__" : Str)) && (match st with
    | .Assign [.Name z _] (.Name y' _) _ => !ret && decide (y' = y) && decide (N[tg]? = some z) && locB sc z && decide (i ≠ tg)
    | .Return (some (.Name y' _)) _ => ret && decide (y' = y)
    | _ => false)
  | _ => false
theorem s_tryK {N : List Str} {W : WX} {body : List Stmt} {fs : Env → Mem → Out Fl} {k i tg : Nat} {ret : Bool} {hds : List ExceptHandler} {pos : Pos} (xt : XTb T G xn) (xg : XG X G) (hsc : X.env.scope = sc) (hN : X.N = N) (nd : N.Nodup) (fnn : ∀ x, X.fn x = true) (tk : Takes X W)
    (hs : X.stack = X.env :: X.outer) (hf : X.env.frame = some X.env.locals)
    (hbody : ∀ (W' : WX) (pn : List (Addr × Obj)) (xe : Value → Shared → Prop), Takes (X.tr pn xe) W' → PassesOwn (model X.prog X.w) X.A X.env xe → PSs (X.tr pn xe) body (rS G xn W' fs)) (hc : ckTryK T N sc k i ret tg hds = true) :
    PS X (.Try body hds [] [] pos) (rS G xn W fun r h => tryG G.t k i ret tg (fs r h)) := by
  unfold ckTryK at hc
  split at hc
  · rename_i x np y st pos'
    simp only [Bool.and_eq_true, decide_eq_true_eq, Bool.not_eq_true'] at hc
    obtain ⟨⟨⟨⟨⟨⟨h1, h2⟩, n1⟩, n2⟩, n3⟩, n4⟩, h3⟩ := hc
    obtain ⟨g1, g2, g3⟩ := isG_of h1
    obtain ⟨m1, m2⟩ := xt.xc x k h2
    have nms : Names X x (.ref (G.cA k)) := ⟨by show X.env.scope.names.lookup x = _; rw [hsc]; exact g1, g2, .inl (by rw [xg.mg]; exact m1)⟩
    have hN' : X.N[i]? = some y := by rw [hN]; exact n1
    have hv : Vis X.env.scope y := by rw [hsc]; exact .inl n2
    -- what is wished of the exception
    have key : ∀ (ts : Addr → Value → Option Addr → TS) (p : List Addr) (r : Env) (h : Mem) (En : Ends) (σ : L2.St) (H : Hp), RelS G p r σ H → PostS G xn p H W En (tryG G.t k i ret tg (fs r h)) →
        (∀ (a : Addr) (cls : Value) (d : Option Addr) (j : Nat) (x' : D) (r' : Env) (h' : Mem) (p' : List Addr) (σ' : L2.St) (H' : Hp), H' a = none → i < σ'.length → p <+: p' → Le G H H' → RelM G p' h' H' → RelS G p' r' σ' H' → RelD G (upd H' a (XO cls d a)) p' (.exc j x') (.ref a) → PostS G xn p H W En (.ok (if ret then .rt (.exc j x') else .nx ((r'.set i none).set tg (some (.exc j x')))) h') →
          ts a cls d { nx := fun σ' H' => En.nx (σ'.set i none) (upd H' a (XO cls d a)), rt := fun v H' => En.rt v (upd H' a (XO cls d a)), bk := fun _ _ => False, ct := fun _ _ => False } (σ'.set i (some (.ref a))) H') →
        PostS G xn p H (wKpt X.K (.ref (G.cA k)) i ts W En) En (fs r h) := by
      intro ts p r h En σ H s kk hts
      cases e : fs r h with
      | ok fl h' =>
        rw [e] at kk
        cases fl with
        | nx r' => exact kk
        | rt d => exact kk
        | xc xx r' =>
          cases xx with
          | exc j x' =>
            intro p' cls dd σ' H' q l m' s' rx
            unfold tryG at kk
            dsimp only at kk
            by_cases c : G.t.sub j j = true ∧ G.t.sub k k = true ∧ inB (some i) r' = true
            · rw [if_pos c] at kk
              have il : i < σ'.length := by rw [← s'.len]; exact of_decide_eq_true c.2.2
              obtain ⟨rfl, d', v, rfl, hd, rv⟩ := rx
              refine ⟨G.t.sub j k, by rw [xg.K]; exact xt.ex j k c.1 c.2.1, fun hb1 a na => ?_, fun hb1 => ?_⟩
              · rw [hb1, if_pos rfl] at kk
                have ex : Ext H' (upd H' a (XO (.ref (G.cA j)) (some d') a)) := Ext.new na
                refine hts a _ _ j x' r' h' p' σ' H' na il q l m' s' ?_ kk
                exact .exc upd_same (by rw [xt.nG, ← xt.nm]; exact ex _ _ hd) c.1 (rv.mono (Le.ext ex) (List.prefix_refl _))
              · rw [hb1, if_neg Bool.false_ne_true] at kk
                exact kk p' _ _ σ' H' q l m' s' ⟨rfl, d', v, rfl, hd, rv⟩
            · rw [if_neg c] at kk
              exact kk.elim
          | _ => exact kk.elim
      | exc xx h' => rw [e] at kk; exact kk
      | stuck => rw [e] at kk; exact kk
    split at h3
    · rename_i z pz y' py spos
      simp only [Bool.and_eq_true, decide_eq_true_eq, Bool.not_eq_true'] at h3
      obtain ⟨⟨⟨⟨rfl, rfl⟩, t1⟩, t2⟩, t3⟩ := h3
      refine PS.imp (ps_try_keep hs hf (by rw [hN]; exact nd) hN' (by show X.env.scope.names.lookup y' = _; rw [hsc]; exact n2) nms tk hbody fun a oe cls d pn hz hff =>
        pss_one (ps_set (X := X.suite a ((a, oe) :: pn)) (i := tg) (by show X.N.Nodup; rw [hN]; exact nd) (by show X.N[_]? = _; rw [hN]; exact t1) (by show Loc X.env.scope z; rw [hsc]; exact locB_of t2) (pe_var (X := X.suite a ((a, oe) :: pn)) (i := i) hN' hv n3 n4) (swaps_of rfl) (.inl (fnn z)))) fun En σ H ⟨p, r, h, m, s, kk⟩ => ⟨p, r, h, m, s, key _ p r h En σ H s kk ?_⟩
      intro a cls d j x' r' h' p' σ' H' na il q l m' s' rd kk
      refine ⟨.ref a, List.getElem?_set_self il, ?_⟩
      exact kk p' _ _ q (l.trans (Le.new na)) (m'.ext (Ext.new na)) (gone_rel s' (Le.new na) (List.prefix_refl _) t3 rd)
    · rename_i y' py spos
      simp only [Bool.and_eq_true, decide_eq_true_eq] at h3
      obtain ⟨rfl, rfl⟩ := h3
      refine PS.imp (ps_try_keep hs hf (by rw [hN]; exact nd) hN' (by show X.env.scope.names.lookup y' = _; rw [hsc]; exact n2) nms tk hbody fun a oe cls d pn hz hff =>
        pss_one (ps_ret (X := X.suite a ((a, oe) :: pn)) (pe_var (X := X.suite a ((a, oe) :: pn)) (i := i) hN' hv n3 n4))) fun En σ H ⟨p, r, h, m, s, kk⟩ => ⟨p, r, h, m, s, key _ p r h En σ H s kk ?_⟩
      intro a cls d j x' r' h' p' σ' H' na il q l m' s' rd kk
      refine ⟨.ref a, List.getElem?_set_self il, ?_⟩
      exact kk p' _ _ q (l.trans (Le.new na)) (m'.ext (Ext.new na)) rd
    · cases h3
  · cases hc
end
end RG

end

section
/-! RgChk8: statements. -/
namespace RG
open PySem L2 PyProof.Rows

mutual
def ckT (Tt : Tb) (N : List Str) (sc : Scope) (k : Expr → E → Bool) : T → Expr → Bool
  | .nm i, e => match e with
    | .Name x _ => decide (N[i]? = some x) && locB sc x
    | _ => false
  | .fld y f, e => match e with
    | .Attribute o x _ => decide (Tt.fl x = some f) && k o y
    | _ => false
  | .sub y i, e => match e with
    | .Subscript o b _ => notSl b && k o y && k b i
    | _ => false
  | .tup ts, e => match e with
    | .Tuple es _ _ => ckTs Tt N sc k ts es
    | _ => false
  | .star1 i j, e => match e with
    | .Tuple [.Name x _, .Starred (.Name y _) _] _ _ => decide (N[i]? = some x) && locB sc x && decide (N[j]? = some y) && locB sc y
    | _ => false
def ckTs (Tt : Tb) (N : List Str) (sc : Scope) (k : Expr → E → Bool) : Ts → List Expr → Bool
  | .nil, l => l.isEmpty
  | .cons t ts, l => match l with
    | e :: es => notStar e && ckT Tt N sc k t e && ckTs Tt N sc k ts es
    | [] => false
end
def isComp : E → Bool
  | .comp _ _ _ _ _ _ => true
  | _ => false
/-- y = [..]: the model's other statement -/
def ckSwap (N : List Str) (sc : Scope) : T → Expr → Expr → E → Bool
  | .nm j, .Name y py, .ListComp _ [⟨_, _, _, 0⟩] scope pos, e => decide (N[j]? = some y) && decide (sc.names.lookup y = some .local) && decide (py.line = pos.line) && !(scope.names.any fun x => x.1 == y && (x.2 == .local || x.2 == .cell)) && isComp e
  | _, _, _, _ => false
/-- two names of two things, stored at once -/
def ckPar (N : List Str) (sc : Scope) : T → Expr → Expr → E → Bool
  | .tup (.cons (.nm i) (.cons (.nm j) .nil)), .Tuple [.Name x px, .Name y py] _ _, .Tuple [a, b] _ _, .tup _ =>
    decide (N[i]? = some x) && decide (N[j]? = some y) && decide (i ≠ j) && decide (sc.names.lookup x = some .local) && decide (sc.names.lookup y = some .local) && decide (py.line = px.line) && !(y == x) && notStar a && notStar b && !([a, b].all (foldedForSure 8)) && !([a, b].all (constantsAlone 8))
  | .tup (.cons (.nm i) (.cons (.nm j) (.cons (.nm l) .nil))), .Tuple [.Name x px, .Name y py, .Name z pz] _ _, .Tuple [a, b, c] _ _, .tup _ =>
    decide (N[i]? = some x) && decide (N[j]? = some y) && decide (N[l]? = some z) && decide (i ≠ j ∧ i ≠ l ∧ j ≠ l) && decide (sc.names.lookup x = some .local) && decide (sc.names.lookup y = some .local) && decide (sc.names.lookup z = some .local) && decide (py.line = px.line) && decide (pz.line = px.line) && !(y == x) && !(z == x) && !(z == y) && notStar a && notStar b && notStar c && !([a, b, c].all (foldedForSure 8)) && !([a, b, c].all (constantsAlone 8))
  | _, _, _, _ => false
/-- a name that comprehensions look at -/
def cellT (sc : Scope) : Expr → Bool
  | .Name y _ => decide (sc.names.lookup y = some .cell)
  | _ => false
theorem swaps_cell {sc : Scope} {v tg : Expr} {l : Nat} {env : PySem.Env} (hs : env.scope = sc) (h : cellT sc tg = true) : swapsWith v (some tg) l env = pure false := by
  unfold cellT at h
  split at h
  · rename_i y p
    have h := of_decide_eq_true h
    have hk : env.kindOf y = some .cell := by show env.scope.names.lookup y = _; rw [hs]; exact h
    unfold swapsWith
    split
    · show pure (env.blockKind == .function && env.kindOf y == some .local && _ && _) = _
      rw [hk]
      have e : ((some NameKind.cell : Option NameKind) == some .local) = false := by decide
      rw [e]
      simp
    · rfl
  · cases h
mutual
def ckS (Tt : Tb) (N : List Str) (sc : Scope) (m : Nat) : S → Stmt → Bool
  | .stuck, _ => true
  | .pass, st => match st with
    | .Pass _ => true
    | _ => false
  | .asg t e, st => match st with
    | .Assign [tg] v _ => ckE Tt N m sc v e && (ckSwap N sc t tg v e || ((notComp v || !isNm tg || cellT sc tg) && (notTup v || isFlat tg) && notStar tg && ckT Tt N sc (ckE Tt N m sc) t tg) || ckPar N sc t tg v e)
    | _ => false
  | .augN p i e, st => match st with
    | .AugAssign (.Name x _) op v _ => decide (augOp op = some p) && decide (N[i]? = some x) && locB sc x && ckE Tt N m sc v e
    | _ => false
  | .augF p y f e, st => match st with
    | .AugAssign (.Attribute o x _) op v _ => decide (augOp op = some p) && decide (Tt.fl x = some f) && ckE Tt N m sc o y && ckE Tt N m sc v e
    | _ => false
  | .ex e, st => match st with
    | .Expr v _ => notComp v && ckE Tt N m sc v e
    | _ => false
  | .ret e, st => match st with
    | .Return (some v) _ => ckE Tt N m sc v e
    | _ => false
  | .iff c a b, st => match st with
    | .If t x y _ => notIf t && ckE Tt N m sc t c && ckSs Tt N sc m a x && ckSs Tt N sc m b y
    | _ => false
  | .foor t src b, st => match st with
    | .For tg iter body [] _ => ckI Tt sc (ckE Tt N m sc) tg iter src && notSet iter && ckT Tt N sc (ckE Tt N m sc) t tg && ckSs Tt N sc m b body
    | _ => false
  | .whl c b, st => match st with
    | .While t body [] _ => notIf t && ckE Tt N m sc t c && ckSs Tt N sc m b body
    | _ => false
  | .rse c e, st => match st with
    | .Raise (some (.Call (.Name x _) [a] [] _)) none _ => isG sc x && decide (Tt.xc x = some c) && notStar a && ckE Tt N m sc a e
    | _ => false
  | .try1 b k i hb, st => match st with
    | .Try body hds [] [] _ => ckTry Tt N sc k i hb hds && ckSs Tt N sc m b body
    | _ => false
  | .tryK b k i ret tg, st => match st with
    | .Try body hds [] [] _ => ckTryK Tt N sc k i ret tg hds && ckSs Tt N sc m b body
    | _ => false
  | .augS p y i e, st => match st with
    | .AugAssign (.Subscript o b _) op v _ => decide (augOp op = some p) && notSl b && ckE Tt N m sc o y && ckE Tt N m sc b i && ckE Tt N m sc v e
    | _ => false
def ckSs (Tt : Tb) (N : List Str) (sc : Scope) (m : Nat) : Ss → List Stmt → Bool
  | .nil, l => l.isEmpty
  | .cons s ss, l => match l with
    | st :: sts => ckS Tt N sc m s st && ckSs Tt N sc m ss sts
    | [] => false
end

section
variable {Tt : Tb} {G : Gx} {F : Fo} {xn mN : Nat → Str} {n : Nat} {N : List Str}
/-- a def's body -/
structure OkS (G : Gx) (F : Fo) (xn : Nat → Str) (n : Nat) (N : List Str) (X : Cx) (sc : Scope) (W : WX) : Prop where
  ok : Ok G F xn n N X sc W
  fn : ∀ x, X.fn x = true
  ps : PassesOwn (model X.prog X.w) X.A X.env X.xe
  bk : X.env.blockKind = .function
  sk : X.stack = X.env :: X.outer
  fr : X.env.frame = some X.env.locals
section
variable {X : Cx} {sc : Scope} {W : WX} (tb : TbOk Tt G F mN) (o : OkS G F xn n N X sc W)
theorem asgs_len (c : Cl) : ∀ (ts : Ts) (ds : List D) (r : Env) (h : Mem) (es : List Expr) (k : Expr → E → Bool), ckTs Tt N sc k ts es = true → (∃ r' h', asgs c ts ds r h = .ok r' h') → ds.length = es.length
  | .nil, ds, r, h, es, k, q, ⟨r', h', e⟩ => by
    simp only [ckTs] at q
    obtain rfl := emp q
    cases ds with
    | nil => rfl
    | cons d ds => simp only [asgs] at e; cases e
  | .cons t ts, ds, r, h, es, k, q, ⟨r', h', e⟩ => by
    unfold ckTs at q
    cases es with
    | nil => cases q
    | cons e0 es =>
      simp only [Bool.and_eq_true] at q
      cases ds with
      | nil => simp only [asgs] at e; cases e
      | cons d ds =>
        simp only [asgs] at e
        cases e1 : asg c t d r h with
        | ok r1 h1 =>
          rw [e1] at e
          exact congrArg (· + 1) (asgs_len c ts ds r1 h1 es k q.2 ⟨r', h', e⟩)
        | exc x h1 => rw [e1] at e; cases e
        | stuck => rw [e1] at e; cases e
theorem sub_asg {a b : Expr} {pos : Pos} {env : PySem.Env} (h : notSl b = true) (v : Value) : assign (.Subscript a b pos) env v = (do
      let ov ← holding [v] (eval a env)
      let iv ← holding [v, ov] (eval b env)
      standAt pos
      holding [v, ov, iv] (setItem ov iv v)
      release [v, ov, iv] []) := by
  cases b <;> first | rfl | cases h
include tb o in
mutual
theorem tgt_ok {k : Expr → E → Bool} (hk : ∀ a x, k a x = true → SE G xn n X W a x) : ∀ (t : T) (tg : Expr), ckT Tt N sc k t tg = true → PG X tg (rG G (asg (clN G n) t))
  | .nm i, tg, h => by
    simp only [ckT] at h
    split at h
    · rename_i x p
      simp only [Bool.and_eq_true, decide_eq_true_eq] at h
      have e1 : asg (clN G n) (.nm i) = fun d r h => .ok (r.set i (some d)) h := by funext d r h; simp only [asg]
      rw [e1]
      exact g_name (by rw [o.ok.hN]; exact o.ok.nd) (by rw [o.ok.hN]; exact h.1) (by rw [o.ok.hsc]; exact locB_of h.2) (.inl (o.fn x))
    · cases h
  | .fld y f, tg, h => by
    simp only [ckT] at h
    split at h
    · rename_i a x p
      simp only [Bool.and_eq_true, decide_eq_true_eq] at h
      have e1 : asg (clN G n) (.fld y f) = fun d r h => (ev (clN G n) y r h).calm.bind fun z h => match putFld G.t z f d h with
          | some h => .ok r h
          | none => .stuck := by funext d r h; simp only [asg] <;> rfl
      rw [e1]
      exact g_fld o.ok.xg.K tb.g (tb.fl x f h.1) (hk a y h.2).1
    · cases h
  | .sub y i, tg, h => by
    simp only [ckT] at h
    split at h
    · rename_i a b p
      simp only [Bool.and_eq_true] at h
      have e1 : asg (clN G n) (.sub y i) = fun d r h => (ev (clN G n) y r h).calm.bind fun x h => (ev (clN G n) i r h).calm.bind fun k h => match putIx x k d h with
          | some h => .ok r h
          | none => .stuck := by funext d r h; simp only [asg] <;> rfl
      rw [e1]
      exact g_sub (un_of tb o.ok) (hk a y h.1.2).1 (hk b i h.2).1 (sub_asg h.1.1)
    · cases h
  | .tup ts, tg, h => by
    simp only [ckT] at h
    split at h
    · rename_i es kk p
      obtain ⟨h1, h2⟩ := tgts_ok hk ts es h
      have e1 : asg (clN G n) (.tup ts) = fun d r h => match d with
          | .tup l => asgs (clN G n) ts l r h
          | .ref n' => match rd h n' with
            | some l => asgs (clN G n) ts l r h
            | none => .stuck
          | _ => .stuck := by funext d r h; simp only [asg] <;> rfl
      rw [e1]
      exact g_tup o.ok.xg.K o.ok.cm h1 (fun ds r h' q => asgs_len (clN G n) ts ds r h' es k h q) (each_len es) (each_st es h2)
    · cases h
  | .star1 i j, tg, h => by
    simp only [ckT] at h
    split at h
    · rename_i x px y py ps kk pos
      simp only [Bool.and_eq_true, decide_eq_true_eq] at h
      have e1 : asg (clN G n) (.star1 i j) = fun d r h => match d with
          | .tup (x :: l) => .ok ((r.set i (some x)).set j (some (.ref h.length))) (h ++ [.lst l])
          | _ => .stuck := by funext d r h; simp only [asg] <;> rfl
      rw [e1]
      exact g_star1 o.ok.xg.K o.ok.cm (pg_name (by rw [o.ok.hN]; exact o.ok.nd) (by rw [o.ok.hN]; exact h.1.1.1) (by rw [o.ok.hsc]; exact locB_of h.1.1.2) (.inl (o.fn x))) (pg_name (by rw [o.ok.hN]; exact o.ok.nd) (by rw [o.ok.hN]; exact h.1.2) (by rw [o.ok.hsc]; exact locB_of h.2) (.inl (o.fn y)))
    · cases h
theorem tgts_ok {k : Expr → E → Bool} (hk : ∀ a x, k a x = true → SE G xn n X W a x) : ∀ (ts : Ts) (es : List Expr), ckTs Tt N sc k ts es = true → PGs X es (rGs G (asgs (clN G n) ts)) ∧ allPlain es = true
  | .nil, es, h => by
    simp only [ckTs] at h
    obtain rfl := emp h
    have e1 : asgs (clN G n) .nil = fun ds r h => match ds with | [] => .ok r h | _ => .stuck := by funext ds r h; cases ds <;> simp only [asgs]
    rw [e1]
    exact ⟨g_nil, rfl⟩
  | .cons t ts, es, h => by
    unfold ckTs at h
    cases es with
    | nil => cases h
    | cons e es =>
      simp only [Bool.and_eq_true] at h
      have q1 := tgt_ok hk t e h.1.2
      obtain ⟨q2, q3⟩ := tgts_ok hk ts es h.2
      have e1 : asgs (clN G n) (.cons t ts) = fun ds r h => match ds with | d :: ds => (asg (clN G n) t d r h).bind fun r h => asgs (clN G n) ts ds r h | _ => .stuck := by funext ds r h; cases ds <;> simp only [asgs]
      rw [e1]
      refine ⟨g_cons q1 q2 (each_of h.1.1), ?_⟩
      unfold allPlain
      rw [List.all_cons, h.1.1]
      exact q3
end
end
end
end RG

end

section
/-! RgPar: two names stored at once. -/
namespace RG
open PySem L2 PyProof.Rows
section
variable {Tt : Tb} {G : Gx} {F : Fo} {xn mN : Nat → Str} {n : Nat} {N : List Str} {X : Cx} {sc : Scope} {W : WX}
theorem s_par {i j : Nat} {x y : Str} {a b : Expr} {fa : Env → Mem → Out (List D)} {px py pt pos : Pos} {kt k2 pt2} {c : Cl} (hc : X.calm = true) (hN : X.N.Nodup) (hi : X.N[i]? = some x) (hj : X.N[j]? = some y) (hij : i ≠ j)
    (hx : X.env.scope.names.lookup x = some .local) (hy : X.env.scope.names.lookup y = some .local) (ha : PA X [a, b] (rA G xn W fa)) (hl : ∀ r h ds h', fa r h = .ok ds h' → ds.length = 2)
    (hw : swappedStores [.Tuple [.Name x px, .Name y py] kt pt] (.Tuple [a, b] k2 pt2) X.env = pure (some [x, y])) :
    PS X (.Assign [.Tuple [.Name x px, .Name y py] kt pt] (.Tuple [a, b] k2 pt2) pos) (rS G xn W fun r h => ((fa r h).bind fun ds h => if ds.length ≤ sizeLine then .ok (.tup ds) h else .stuck).bs r fun d h => asgS (asg c (.tup (.cons (.nm i) (.cons (.nm j) .nil))) d r h)) :=
  PS.imp (ps_par hc hN hi hj hij hx hy ha hw) fun En σ H ⟨p, r, h, m, s, k⟩ => ⟨p, r, h, m, s, by
    dsimp only at k
    cases e : fa r h with
    | ok ds h' =>
      rw [e] at k
      have l2 := hl r h ds h' e
      match ds, l2 with
      | [d1, d2], _ =>
        simp only [Out.bind, List.length_cons, List.length_nil] at k
        rw [if_pos (by rw [sizeLine_eq]; omega)] at k
        simp only [Out.bs, asg, asgs, Out.bind, asgS] at k
        intro p2 vs H2 q2 l2 m2 r2
        cases r2 with
        | cons r1 t =>
          cases t with
          | cons r3 t2 =>
            cases t2
            exact ⟨_, _, rfl, k p2 _ H2 q2 l2 m2 (((s.mono l2 q2).set i r1).set j r3)⟩
    | exc x h' =>
      rw [e] at k
      exact fun p2 cc d H2 q2 l2 m2 r2 => k p2 cc d σ H2 q2 l2 m2 (s.mono l2 q2) r2
    | stuck => rw [e] at k; exact k⟩
theorem swapped_two {x y : Str} {px py pt : Pos} {a b : Expr} {kt k2 pt2} {env : PySem.Env} (hb : env.blockKind = .function) (hx : env.kindOf x = some .local) (hy : env.kindOf y = some .local) (hp : py.line = px.line) (ne : (y == x) = false) (na : notStar a = true) (nb : notStar b = true) (f1 : ([a, b].all (foldedForSure 8)) = false) (f2 : ([a, b].all (constantsAlone 8)) = false) :
    swappedStores [.Tuple [.Name x px, .Name y py] kt pt] (.Tuple [a, b] k2 pt2) env = pure (some [x, y]) := by
  unfold swappedStores
  have k1 : (env.blockKind != .function) = false := by rw [hb]; rfl
  have hk : (env.kindOf x == some NameKind.local) = true := by rw [hx]; rfl
  have hk2 : (env.kindOf y == some NameKind.local) = true := by rw [hy]; rfl
  have hp2 : (py.line == px.line) = true := by rw [hp]; exact beq_self_eq_true _
  simp only [List.length_cons, List.length_nil, List.any_cons, List.any_nil, k1, List.head?_cons, Option.map_some, Option.getD_some, List.filterMap_cons, List.filterMap_nil, f1, f2]
  have c1 : (env.kindOf x == some NameKind.local && px.line == (Expr.Name x px).pos.line) = true := by rw [hk]; exact beq_self_eq_true _
  have c2 : (env.kindOf y == some NameKind.local && py.line == (Expr.Name x px).pos.line) = true := by rw [hk2]; exact hp2
  rw [if_neg (by decide)]
  split
  · cases na
  · split
    · cases nb
    · have ed : [x, y].eraseDups = [x, y] := by
        rw [List.eraseDups_cons]
        simp only [List.filter_cons, ne, Bool.not_false, if_true, List.filter_nil]
        rw [List.eraseDups_cons]
        rfl
      simp only [c1, c2, if_true, ed]
      rfl
theorem s_par3 {i j l : Nat} {x y z : Str} {a b e3 : Expr} {fa : Env → Mem → Out (List D)} {px py pz pt pos : Pos} {kt k2 pt2} {c : Cl} (hc : X.calm = true) (hN : X.N.Nodup) (hi : X.N[i]? = some x) (hj : X.N[j]? = some y) (hl3 : X.N[l]? = some z) (hij : i ≠ j) (hil : i ≠ l) (hjl : j ≠ l)
    (hx : X.env.scope.names.lookup x = some .local) (hy : X.env.scope.names.lookup y = some .local) (hz : X.env.scope.names.lookup z = some .local) (ha : PA X [a, b, e3] (rA G xn W fa)) (hl : ∀ r h ds h', fa r h = .ok ds h' → ds.length = 3)
    (hw : swappedStores [.Tuple [.Name x px, .Name y py, .Name z pz] kt pt] (.Tuple [a, b, e3] k2 pt2) X.env = pure (some [x, y, z])) :
    PS X (.Assign [.Tuple [.Name x px, .Name y py, .Name z pz] kt pt] (.Tuple [a, b, e3] k2 pt2) pos) (rS G xn W fun r h => ((fa r h).bind fun ds h => if ds.length ≤ sizeLine then .ok (.tup ds) h else .stuck).bs r fun d h => asgS (asg c (.tup (.cons (.nm i) (.cons (.nm j) (.cons (.nm l) .nil)))) d r h)) :=
  PS.imp (ps_par3 hc hN hi hj hl3 hij hil hjl hx hy hz ha hw) fun En σ H ⟨p, r, h, m, s, k⟩ => ⟨p, r, h, m, s, by
    dsimp only at k
    cases e : fa r h with
    | ok ds h' =>
      rw [e] at k
      have l2 := hl r h ds h' e
      match ds, l2 with
      | [d1, d2, d3], _ =>
        simp only [Out.bind, List.length_cons, List.length_nil] at k
        rw [if_pos (by rw [sizeLine_eq]; omega)] at k
        simp only [Out.bs, asg, asgs, Out.bind, asgS] at k
        intro p2 vs H2 q2 l2 m2 r2
        cases r2 with
        | cons r1 t =>
          cases t with
          | cons r3 t2 =>
            cases t2 with
            | cons r4 t3 =>
              cases t3
              exact ⟨_, _, _, rfl, k p2 _ H2 q2 l2 m2 ((((s.mono l2 q2).set i r1).set j r3).set l r4)⟩
    | exc x h' =>
      rw [e] at k
      exact fun p2 cc d H2 q2 l2 m2 r2 => k p2 cc d σ H2 q2 l2 m2 (s.mono l2 q2) r2
    | stuck => rw [e] at k; exact k⟩
theorem swapped_three {x y z : Str} {px py pz pt : Pos} {a b c : Expr} {kt k2 pt2} {env : PySem.Env} (hb : env.blockKind = .function) (hx : env.kindOf x = some .local) (hy : env.kindOf y = some .local) (hz : env.kindOf z = some .local) (hp : py.line = px.line) (hpz : pz.line = px.line) (ne : (y == x) = false) (ne2 : (z == x) = false) (ne3 : (z == y) = false) (na : notStar a = true) (nb : notStar b = true) (nc : notStar c = true) (f1 : ([a, b, c].all (foldedForSure 8)) = false) (f2 : ([a, b, c].all (constantsAlone 8)) = false) :
    swappedStores [.Tuple [.Name x px, .Name y py, .Name z pz] kt pt] (.Tuple [a, b, c] k2 pt2) env = pure (some [x, y, z]) := by
  unfold swappedStores
  have k1 : (env.blockKind != .function) = false := by rw [hb]; rfl
  have hk : (env.kindOf x == some NameKind.local) = true := by rw [hx]; rfl
  have hk2 : (env.kindOf y == some NameKind.local) = true := by rw [hy]; rfl
  have hk3 : (env.kindOf z == some NameKind.local) = true := by rw [hz]; rfl
  have hp2 : (py.line == px.line) = true := by rw [hp]; exact beq_self_eq_true _
  have hp3 : (pz.line == px.line) = true := by rw [hpz]; exact beq_self_eq_true _
  simp only [List.length_cons, List.length_nil, List.any_cons, List.any_nil, k1, List.head?_cons, Option.map_some, Option.getD_some, List.filterMap_cons, List.filterMap_nil, f1, f2]
  have c1 : (env.kindOf x == some NameKind.local && px.line == (Expr.Name x px).pos.line) = true := by rw [hk]; exact beq_self_eq_true _
  have c2 : (env.kindOf y == some NameKind.local && py.line == (Expr.Name x px).pos.line) = true := by rw [hk2]; exact hp2
  have c3 : (env.kindOf z == some NameKind.local && pz.line == (Expr.Name x px).pos.line) = true := by rw [hk3]; exact hp3
  rw [if_neg (by decide)]
  split
  · cases na
  · split
    · cases nb
    · split
      · cases nc
      · have ed : [x, y, z].eraseDups = [x, y, z] := by
          rw [List.eraseDups_cons]
          simp only [List.filter_cons, ne, ne2, Bool.not_false, if_true, List.filter_nil]
          rw [List.eraseDups_cons]
          simp only [List.filter_cons, ne3, Bool.not_false, if_true, List.filter_nil]
          rw [List.eraseDups_cons]
          rfl
        simp only [c1, c2, c3, if_true, ed]
        rfl
end
end RG

end

section
/-! RgChk9: every checked statement; every checked def. -/
namespace RG
open PySem L2 PyProof.Rows

section
variable {Tt : Tb} {G : Gx} {F : Fo} {xn mN : Nat → Str} {n : Nat} {N : List Str}
section
variable {X : Cx} {sc : Scope} {W : WX} (tb : TbOk Tt G F mN) (o : OkS G F xn n N X sc W)
include tb o in
theorem swap_ok (xt : XTb Tt G xn) {m : Nat} {t : T} {tg v : Expr} {e : E} {spos : Pos} (h1 : ckE Tt N m sc v e = true) (h2 : ckSwap N sc t tg v e = true) : PS X (.Assign [tg] v spos) (rS G xn W (exc (clN G n) (.asg t e))) := by
  unfold ckSwap at h2
  split at h2
  · rename_i j y py elt tg' iter ifs scope pos
    simp only [Bool.and_eq_true, decide_eq_true_eq, Bool.not_eq_true'] at h2
    obtain ⟨⟨⟨⟨a1, a2⟩, a3⟩, a4⟩, a5⟩ := h2
    unfold isComp at a5
    split at a5
    · rename_i ts one src cond y' vs
      cases m with
      | zero => cases h1
      | succ m =>
        have o' := o.ok
        have hk : ∀ a x, ckE Tt N m sc a x = true → SE G xn n X W a x := fun a x q => ck_sound tb xt m sc a x q X W o'
        simp only [ckE, Bool.and_eq_true] at h1
        obtain ⟨⟨⟨⟨⟨⟨h1, h2⟩, h3⟩, h4⟩, h5⟩, h6⟩, h7⟩ := h1
        have hb : ∀ (s : Shared) (H : Hp) (C : Addr) (cl : List (Str × Addr)) (fp : List Addr), Ok G F xn n N (X.blk s H scope (compEnvC scope cl C X.env) fp) (rlb scope sc) W0 := fun s H C cl fp => o'.blk s H scope cl C fp
        have blk := blkOk_by h3
        have own := own_snd N vs
        have e1 : exc (clN G n) (.asg (.nm j) (.comp ts one src cond y' vs)) = fun r h => (compF (evI (clN G n) src) (evC (clN G n) cond) (ev (clN G n) y') ts one ((ownOf N vs).map (·.2)) r h).bs r fun d h => .ok (.nx (r.set j (some d))) h := by
          funext r h
          rw [own]
          unfold compF
          simp only [exc, ev, asg, asgS]
        have ht : ∀ (s : Shared) (H : Hp) (C : Addr) (cl : List (Str × Addr)) (fp : List Addr), PTs (X.blk s H scope (compEnvC scope cl C X.env) fp) ifs (rT G xn W0 (evC (clN G n) cond)) := by
          intro s H C cl fp
          unfold ckC at h6
          split at h6
          · have e2 : evC (clN G n) .yes = fun _ h => .ok true h := by funext r h; simp only [evC]
            rw [e2]; exact t_nil
          · rename_i t e
            simp only [Bool.and_eq_true] at h6
            have e2 : evC (clN G n) (.test e) = fun r h => (ev (clN G n) e r h).bind fun d h => tru d h := by funext r h; simp only [evC]
            rw [e2]
            exact pts_one ((ck_sound tb xt m (rlb scope sc) t e h6.2 _ W0 (hb s H C cl fp)).2 h6.1)
          · cases h6
        rw [e1]
        refine s_setComp o'.xg.K o'.cm (by rw [o'.hN]; exact o'.nd) (by rw [o'.hN]; exact a1) (by rw [o'.hsc]; exact a2) (swaps_true o.bk (by show X.env.scope.names.lookup y = _; rw [o'.hsc]; exact a2) a3 a4) (iter_ok tb o' hk h1) (by rw [o'.hN, o'.hsc]; exact blk) (fun i hi => ?_) (fun s H C cl fp => tg_ok o' h4 s H C cl fp) ht (fun s H C cl fp => (ck_sound tb xt m (rlb scope sc) elt y' h7 _ W0 (hb s H C cl fp)).1) (folded_of h2)
        rw [own]
        simpa using List.all_eq_true.mp h5 i hi
    · cases a5
  · cases h2
include tb o in
theorem par_ok (xt : XTb Tt G xn) {m : Nat} {t : T} {tg v : Expr} {e : E} {spos : Pos} (h1 : ckE Tt N m sc v e = true) (h2 : ckPar N sc t tg v e = true) : PS X (.Assign [tg] v spos) (rS G xn W (exc (clN G n) (.asg t e))) := by
  unfold ckPar at h2
  split at h2
  · rename_i i j x px y py _ _ a b _ _ es
    simp only [Bool.and_eq_true, decide_eq_true_eq, Bool.not_eq_true'] at h2
    obtain ⟨⟨⟨⟨⟨⟨⟨⟨⟨⟨a1, a2⟩, a3⟩, a4⟩, a5⟩, a6⟩, a7⟩, a8⟩, a9⟩, a10⟩, a11⟩ := h2
    cases m with
    | zero => cases h1
    | succ m =>
      have o' := o.ok
      have hk : ∀ a x, ckE Tt N m sc a x = true → SE G xn n X W a x := fun a x q => ck_sound tb xt m sc a x q X W o'
      simp only [ckE] at h1
      have q := es_ok (G := G) (n := n) hk h1
      have e1 : exc (clN G n) (.asg (.tup (.cons (.nm i) (.cons (.nm j) .nil))) (.tup es)) = fun r h => ((evs (clN G n) es r h).bind fun ds h => if ds.length ≤ sizeLine then .ok (.tup ds) h else .stuck).bs r fun d h => asgS (asg (clN G n) (.tup (.cons (.nm i) (.cons (.nm j) .nil))) d r h) := by
        funext r h
        simp only [exc, ev]
      rw [e1]
      have hx : X.env.scope.names.lookup x = some .local := by rw [o'.hsc]; exact a4
      have hy : X.env.scope.names.lookup y = some .local := by rw [o'.hsc]; exact a5
      exact s_par o'.cm (by rw [o'.hN]; exact o'.nd) (by rw [o'.hN]; exact a1) (by rw [o'.hN]; exact a2) a3 hx hy q.1 (fun r h ds h' z => q.2.2 r h ds h' z) (swapped_two o.bk hx hy a6 a7 a8 a9 a10 a11)
  · rename_i i j l x px y py z pz _ _ a b c _ _ es
    simp only [Bool.and_eq_true, decide_eq_true_eq, Bool.not_eq_true'] at h2
    obtain ⟨⟨⟨⟨⟨⟨⟨⟨⟨⟨⟨⟨⟨⟨⟨⟨a1, a2⟩, a3⟩, a4⟩, a5⟩, a6⟩, a7⟩, a8⟩, a9⟩, a10⟩, a11⟩, a12⟩, a13⟩, a14⟩, a15⟩, a16⟩, a17⟩ := h2
    cases m with
    | zero => cases h1
    | succ m =>
      have o' := o.ok
      have hk : ∀ a x, ckE Tt N m sc a x = true → SE G xn n X W a x := fun a x q => ck_sound tb xt m sc a x q X W o'
      simp only [ckE] at h1
      have q := es_ok (G := G) (n := n) hk h1
      have e1 : exc (clN G n) (.asg (.tup (.cons (.nm i) (.cons (.nm j) (.cons (.nm l) .nil)))) (.tup es)) = fun r h => ((evs (clN G n) es r h).bind fun ds h => if ds.length ≤ sizeLine then .ok (.tup ds) h else .stuck).bs r fun d h => asgS (asg (clN G n) (.tup (.cons (.nm i) (.cons (.nm j) (.cons (.nm l) .nil)))) d r h) := by
        funext r h
        simp only [exc, ev]
      rw [e1]
      have hx : X.env.scope.names.lookup x = some .local := by rw [o'.hsc]; exact a5
      have hy : X.env.scope.names.lookup y = some .local := by rw [o'.hsc]; exact a6
      have hz : X.env.scope.names.lookup z = some .local := by rw [o'.hsc]; exact a7
      exact s_par3 o'.cm (by rw [o'.hN]; exact o'.nd) (by rw [o'.hN]; exact a1) (by rw [o'.hN]; exact a2) (by rw [o'.hN]; exact a3) a4.1 a4.2.1 a4.2.2 hx hy hz q.1 (fun r h ds h' z => q.2.2 r h ds h' z) (swapped_three o.bk hx hy hz a8 a9 a10 a11 a12 a13 a14 a15 a16 a17)
  · cases h2
end
theorem aug_plain {b : Expr} (h : notSl b = true) (ov iv new : Value) : augStore b ov iv new = (do holding [new, ov, iv] (setItem ov iv new); release [new, ov, iv] []; pure .next) := by
  cases b <;> first | rfl | cases h
section
variable {sc : Scope} (tb : TbOk Tt G F mN) (xt : XTb Tt G xn)
include tb xt in
mutual
theorem st_ok (m : Nat) : ∀ (s : S) (st : Stmt) (X : Cx) (W : WX), OkS G F xn n N X sc W → ckS Tt N sc m s st = true → PS X st (rS G xn W (exc (clN G n) s))
  | .stuck, st, X, W, o, h => by
    have e1 : exc (clN G n) .stuck = fun r h => .stuck := by funext r h; simp only [exc]
    rw [e1]; exact s_stuck
  | .pass, st, X, W, o, h => by
    simp only [ckS] at h
    split at h
    · have e1 : exc (clN G n) .pass = fun r h => .ok (.nx r) h := by funext r h; simp only [exc]
      rw [e1]; exact s_pass
    · cases h
  | .asg t e, st, X, W, o, h => by
    simp only [ckS] at h
    split at h
    · rename_i tg v spos
      simp only [Bool.and_eq_true, Bool.or_eq_true] at h
      obtain ⟨h1, h2⟩ := h
      rcases h2 with (h2 | ⟨⟨⟨h2, h3⟩, h4⟩, h5⟩) | h2
      · exact swap_ok tb o xt h1 h2
      · have q := (ck_sound tb xt m sc v e h1 X W o.ok).1
        have g := tgt_ok tb o (fun a x z => ck_sound tb xt m sc a x z X W o.ok) t tg h5
        have e1 : exc (clN G n) (.asg t e) = fun r h => (ev (clN G n) e r h).bs r fun d h => asgS (asg (clN G n) t d r h) := by funext r h; simp only [exc]
        rw [e1]
        refine s_asg q g ?_ ?_ (each_of h4)
        · rcases h2 with (h2 | h2) | h2
          · exact swaps_of h2
          · show swapsWith v (some tg) spos.line X.env = pure false
            unfold swapsWith
            split
            · split
              · rename_i z; cases z
              · rename_i y p z
                cases z
                cases h2
              · rfl
            · rfl
          · exact swaps_cell o.ok.hsc h2
        · rcases h3 with h3 | h3
          · exact swapped_of h3
          · exact swapped_of3 h3
      · exact par_ok tb o xt h1 h2
    · cases h
  | .augN p i e, st, X, W, o, h => by
    simp only [ckS] at h
    split at h
    · rename_i x px op v pos
      simp only [Bool.and_eq_true, decide_eq_true_eq] at h
      obtain ⟨⟨⟨h1, h2⟩, h3⟩, h4⟩ := h
      have e1 : exc (clN G n) (.augN p i e) = fun r h => match r[i]? with
          | some (some x) => (ev (clN G n) e r h).bs r fun d h => match aug p x d with
            | some z => .ok (.nx (r.set i (some z))) h
            | none => .stuck
          | _ => .stuck := by funext r h; simp only [exc] <;> rfl
      rw [e1]
      exact s_augN h1 (by rw [o.ok.hN]; exact o.ok.nd) (by rw [o.ok.hN]; exact h2) (by rw [o.ok.hsc]; exact locB_of h3) (ck_sound tb xt m sc v e h4 X W o.ok).1 (.inl (o.fn x))
    · cases h
  | .ex e, st, X, W, o, h => by
    simp only [ckS] at h
    split at h
    · rename_i v pos
      simp only [Bool.and_eq_true] at h
      have e1 : exc (clN G n) (.ex e) = fun r h => (ev (clN G n) e r h).bs r fun _ h => .ok (.nx r) h := by funext r h; simp only [exc]
      rw [e1]
      exact s_expr (ck_sound tb xt m sc v e h.2 X W o.ok).1 (swaps_of h.1)
    · cases h
  | .ret e, st, X, W, o, h => by
    simp only [ckS] at h
    split at h
    · rename_i v pos
      have e1 : exc (clN G n) (.ret e) = fun r h => (ev (clN G n) e r h).bs r fun d h => .ok (.rt d) h := by funext r h; simp only [exc]
      rw [e1]
      exact s_ret (ck_sound tb xt m sc v e h X W o.ok).1
    · cases h
  | .iff c a b, st, X, W, o, h => by
    simp only [ckS] at h
    split at h
    · rename_i t x y pos
      simp only [Bool.and_eq_true] at h
      obtain ⟨⟨⟨h1, h2⟩, h3⟩, h4⟩ := h
      have q1 := sts_ok m a x X W o h3
      have q2 := sts_ok m b y X W o h4
      have e1 : exc (clN G n) (.iff c a b) = fun r h => (ev (clN G n) c r h).bs r fun d h => (tru d h).bs r fun k h => if k then excs (clN G n) a r h else excs (clN G n) b r h := by funext r h; simp only [exc]
      rw [e1]
      exact s_if ((ck_sound tb xt m sc t c h2 X W o.ok).2 h1) q1 q2
    · cases h
  | .foor t src b, st, X, W, o, h => by
    simp only [ckS] at h
    split at h
    · rename_i tg iter body pos
      simp only [Bool.and_eq_true] at h
      obtain ⟨⟨⟨h1, h2⟩, h3⟩, h4⟩ := h
      have q1 := sts_ok m b body X W o h4
      have hk : ∀ a x, ckE Tt N m sc a x = true → SE G xn n X W a x := fun a x z => ck_sound tb xt m sc a x z X W o.ok
      have g := tgt_ok tb o hk t tg h3
      have e1 : exc (clN G n) (.foor t src b) = fun r h => (evI (clN G n) src r h).bs r fun s h => forL (asg (clN G n) t) (excs (clN G n) b) s s.items r h := by funext r h; simp only [exc]
      rw [e1]
      exact s_for o.ps o.ok.cm (iter_ok tb o.ok hk h1) g q1 (folded_of h2)
    · cases h
  | .whl c b, st, X, W, o, h => by
    simp only [ckS] at h
    split at h
    · rename_i t body pos
      simp only [Bool.and_eq_true] at h
      obtain ⟨⟨h1, h2⟩, h3⟩ := h
      have q1 := sts_ok m b body X W o h3
      have e1 : exc (clN G n) (.whl c b) = fun r h => whl (fun r h => (ev (clN G n) c r h).bind fun d h => tru d h) (excs (clN G n) b) r h := by funext r h; simp only [exc]
      rw [e1]
      exact s_while o.ps ((ck_sound tb xt m sc t c h2 X W o.ok).2 h1) q1
    · cases h
  | .augF p y f e, st, X, W, o, h => by
    simp only [ckS] at h
    split at h
    · rename_i a x pa op v pos
      simp only [Bool.and_eq_true, decide_eq_true_eq] at h
      obtain ⟨⟨⟨h1, h2⟩, h3⟩, h4⟩ := h
      have e1 : exc (clN G n) (.augF p y f e) = fun r h => (ev (clN G n) y r h).bs r fun x h => match x with
          | .ref i => match h[i]? with
            | some (.ins k fs) => if G.t.fld k f then (match fget f fs with
              | some v => (ev (clN G n) e r h).bs r fun d h => match aug p v d with
                | some z => match h[i]? with
                  | some (.ins k2 fs2) => if k2 = k ∧ fs2.length < 1000 then .ok (.nx r) (h.set i (.ins k (fput f z fs2))) else .stuck
                  | _ => .stuck
                | none => .stuck
              | none => .stuck) else .stuck
            | _ => .stuck
          | _ => .stuck := by funext r h; simp only [exc] <;> rfl
      rw [e1]
      exact s_augF h1 o.ok.xg.K tb.g (tb.fl x f h2) (ck_sound tb xt m sc a y h3 X W o.ok).1 (ck_sound tb xt m sc v e h4 X W o.ok).1
    · cases h
  | .rse c e, st, X, W, o, h => by
    simp only [ckS] at h
    split at h
    · rename_i x q a pos pos'
      simp only [Bool.and_eq_true, decide_eq_true_eq] at h
      obtain ⟨⟨⟨h1, h2⟩, h3⟩, h4⟩ := h
      obtain ⟨g1, g2, g3⟩ := gl_of tb o.ok h1
      obtain ⟨m1, m2⟩ := xt.xc x c h2
      have e1 : exc (clN G n) (.rse c e) = fun r h => (ev (clN G n) e r h).bs r fun d h => .ok (.xc (.exc c d) r) h := by funext r h; simp only [exc]
      rw [e1]
      exact s_rse o.ok.xg (by rw [xt.nm c]; exact xt.ok c m2) o.ok.tk o.ok.cm (o.ok.hr.mono (by omega)) g1 m1 g2 (ck_sound tb xt m sc a e h4 X W o.ok).1 (star_of h3)
    · cases h
  | .try1 b k i hb, st, X, W, o, h => by
    simp only [ckS] at h
    split at h
    · rename_i body hds pos
      simp only [Bool.and_eq_true] at h
      have e1 : exc (clN G n) (.try1 b k i hb) = fun r h => tryF G.t k i hb (excs (clN G n) b r h) := by funext r h; simp only [exc] <;> rfl
      rw [e1]
      refine s_try xt tb.fr o.ok.xg o.ok.hsc o.ok.hN o.ok.nd o.fn o.ok.tk o.sk o.fr (fun W' pn xe tk' ps' => ?_) h.1
      exact sts_ok m b body (X.tr pn xe) W' ⟨⟨⟨o.ok.xg.P, o.ok.xg.w, o.ok.xg.K, o.ok.xg.mg, o.ok.xg.base⟩, o.ok.C, o.ok.C1, tk', o.ok.hr, o.ok.hN, o.ok.nd, o.ok.hsc, o.ok.cm⟩, o.fn, ps', o.bk, o.sk, o.fr⟩ h.2
    · cases h
  | .tryK b k i ret tg, st, X, W, o, h => by
    simp only [ckS] at h
    split at h
    · rename_i body hds pos
      simp only [Bool.and_eq_true] at h
      have e1 : exc (clN G n) (.tryK b k i ret tg) = fun r h => tryG G.t k i ret tg (excs (clN G n) b r h) := by funext r h; simp only [exc] <;> rfl
      rw [e1]
      refine s_tryK xt o.ok.xg o.ok.hsc o.ok.hN o.ok.nd o.fn o.ok.tk o.sk o.fr (fun W' pn xe tk' ps' => ?_) h.1
      exact sts_ok m b body (X.tr pn xe) W' ⟨⟨⟨o.ok.xg.P, o.ok.xg.w, o.ok.xg.K, o.ok.xg.mg, o.ok.xg.base⟩, o.ok.C, o.ok.C1, tk', o.ok.hr, o.ok.hN, o.ok.nd, o.ok.hsc, o.ok.cm⟩, o.fn, ps', o.bk, o.sk, o.fr⟩ h.2
    · cases h
  | .augS p y i e, st, X, W, o, h => by
    simp only [ckS] at h
    split at h
    · rename_i a b tp op v pos
      simp only [Bool.and_eq_true, decide_eq_true_eq] at h
      obtain ⟨⟨⟨⟨h1, h2⟩, h3⟩, h4⟩, h5⟩ := h
      have e1 : exc (clN G n) (.augS p y i e) = fun r h => (ev (clN G n) y r h).bs r fun x h => (ev (clN G n) i r h).bs r fun k h => match x with
          | .ref n' => match h[n']? with
            | some (.dct kvs) => if isKey k then (match kget k kvs with
              | some v => (ev (clN G n) e r h).bs r fun d h => match aug p v d with
                | some z => match h[n']? with
                  | some (.dct kvs2) => if kvs2.length < sizeLine then .ok (.nx r) (h.set n' (.dct (kput k z kvs2))) else .stuck
                  | _ => .stuck
                | none => .stuck
              | none => .stuck) else .stuck
            | _ => .stuck
          | _ => .stuck := by funext r h; simp only [exc] <;> rfl
      rw [e1]
      exact s_augS h1 (un_of tb o.ok) (ck_sound tb xt m sc a y h3 X W o.ok).1 (ck_sound tb xt m sc b i h4 X W o.ok).1 (ck_sound tb xt m sc v e h5 X W o.ok).1 (aug_plain h2)
    · cases h
theorem sts_ok (m : Nat) : ∀ (s : Ss) (st : List Stmt) (X : Cx) (W : WX), OkS G F xn n N X sc W → ckSs Tt N sc m s st = true → PSs X st (rS G xn W (excs (clN G n) s))
  | .nil, st, X, W, o, h => by
    simp only [ckSs] at h
    obtain rfl := emp h
    have e1 : excs (clN G n) .nil = fun r h => .ok (.nx r) h := by funext r h; simp only [excs]
    rw [e1]; exact s_skip
  | .cons s ss, st, X, W, o, h => by
    unfold ckSs at h
    cases st with
    | nil => cases h
    | cons a as =>
      simp only [Bool.and_eq_true] at h
      have q1 := st_ok m s a X W o h.1
      have q2 := sts_ok m ss as X W o h.2
      have e1 : excs (clN G n) (.cons s ss) = fun r h => (exc (clN G n) s r h).seq fun r h => excs (clN G n) ss r h := by funext r h; simp only [excs]
      rw [e1]
      exact s_seq q1 q2
end
end
/-! ### defs -/
/-- a def of the text, as its term has it -/
structure DefOk (Tt : Tb) (G : Gx) (F : Fo) (f : Nat) (d : Def) : Prop where
  ex : ∃ (x qual : Str) (params : Arguments) (body : List Stmt) (scope : Scope) (dvs : List V) (kws : List (Str × V)) (N : List Str) (m : Nat),
    FunD G.K x qual params body scope dvs kws (G.fA f) (F.fd f) ∧ FnScope N (F.ps f) scope ∧ N.length = d.ns ∧ (F.ps f).length = d.np ∧ ckSs Tt N scope m d.body body = true
theorem start_rel {p : List Addr} {H : Hp} {ds : List D} {vs : List V} (r : RelDs G H p ds vs) (N : List Str) (hl : ds.length ≤ N.length) : RelS G p (ds.map some ++ List.replicate (N.length - ds.length) none) (start N vs) H := by
  have e : start N vs = vs.map some ++ List.replicate (N.length - vs.length) none := by
    rfl
  rw [e]
  have l := r.length
  refine ⟨by simp [l], fun i d h => ?_⟩
  by_cases hi : i < ds.length
  · rw [List.getElem?_append_left (by simpa using hi)] at h
    rw [List.getElem?_append_left (by simpa using (l ▸ hi))]
    rw [List.getElem?_map] at h ⊢
    cases q : ds[i]? with
    | none => rw [q] at h; cases h
    | some d' =>
      rw [q] at h
      cases h
      obtain ⟨v, g1, g2⟩ := r.get q
      exact ⟨v, by rw [g1]; rfl, g2⟩
  · rw [List.getElem?_append_right (by simpa using Nat.not_lt.mp hi)] at h
    obtain ⟨_, q⟩ := List.getElem?_eq_some_iff.mp h
    simp at q
theorem body_ok (tb : TbOk Tt G F mN) (xt : XTb Tt G xn) {f : Nat} {d : Def} (hd : G.t.defs f = some d) (D : DefOk Tt G F f d) (C : CallOk G F xn (n + 1)) (C1 : CallOk G F xn n) :
    FnOk G.P G.w G.K G.mg G.base (L2.CX G.P G.w) (n + 3) (G.fA f) (F.fd f) (F.ps f) (spF G xn (n + 2) f (F.ps f).length) := by
  obtain ⟨x, qual, params, body, scope, dvs, kws, N, m, FD, S, hN, hnp, hck⟩ := D.ex
  refine FD.ok S (fun vs H Q E ⟨_, _, _, _, _, h, _⟩ => h) fun cdv A outer s H vs Q E hr hsp => ?_
  obtain ⟨p, ds, h, mm, rd, hl, k⟩ := hsp
  have o : OkS G F xn n N (cxOf (L2.CX G.P G.w) G.P G.w G.K G.mg G.base N qual scope (G.fA f) cdv A outer s H E) scope (fun cls d _ H => E cls d H) :=
    ⟨⟨⟨rfl, rfl, rfl, rfl, rfl⟩, C, C1, takes_of rfl rfl rfl rfl, hr, rfl, S.nd, rfl, rfl⟩, fun _ => rfl, passes_of rfl, by
      show (if scope.kind.isAnnotationScope then ScopeKind.function else scope.kind) = .function
      rw [S.kind]; rfl, rfl, rfl⟩
  refine ⟨_, sts_ok tb xt m d.body body _ _ o hck, p, ds.map some ++ List.replicate (d.ns - ds.length) none, h, mm, ?_, ?_⟩
  · rw [← hN]
    have hpl : (F.ps f).length ≤ N.length := by have := congrArg List.length S.pre; rw [List.length_take] at this; omega
    exact start_rel rd N (by rw [rd.length, hl]; exact hpl)
  · unfold run at k
    rw [hd] at k
    dsimp only at k
    rw [if_pos (by rw [rd.length, hl, hnp])] at k
    cases e : excs (clN G n) d.body (ds.map some ++ List.replicate (d.ns - ds.length) none) h with
    | ok fl h' =>
      have e' : excs (clAt G.t (run G.t (n + 1)) (run G.t n)) d.body (ds.map some ++ List.replicate (d.ns - ds.length) none) h = .ok fl h' := e
      rw [e'] at k
      cases fl with
      | nx r' => exact fun p' σ' H' q l m' s' => k p' .non H' q l m' .non
      | rt v => exact k
      | xc x r' => exact fun p' cls dd σ' H' q l m' s' rx => k p' cls dd H' q l m' rx
    | exc x h' =>
      have e' : excs (clAt G.t (run G.t (n + 1)) (run G.t n)) d.body (ds.map some ++ List.replicate (d.ns - ds.length) none) h = .exc x h' := e
      rw [e'] at k
      exact k
    | stuck =>
      have e' : excs (clAt G.t (run G.t (n + 1)) (run G.t n)) d.body (ds.map some ++ List.replicate (d.ns - ds.length) none) h = .stuck := e
      rw [e'] at k
      exact k
theorem calls_ok (tb : TbOk Tt G F mN) (xt : XTb Tt G xn) (hd : ∀ f d, G.t.defs f = some d → DefOk Tt G F f d) : ∀ n, CallOk G F xn n ∧ CallOk G F xn (n + 1) := by
  have z : ∀ k, (∀ f ds h, run G.t k f ds h = .stuck) → CallOk G F xn k := fun k hs => ⟨fun f d _ => ⟨fun vs H Q E ⟨_, _, _, _, _, h, _⟩ => h, fun A outer s H args us vs Q E _ _ _ _ ⟨_, _, _, _, _, _, q⟩ => by rw [hs] at q; exact q.elim⟩⟩
  intro n
  induction n with
  | zero => exact ⟨z 0 fun f ds h => rfl, z 1 fun f ds h => rfl⟩
  | succ n ih => exact ⟨ih.2, ⟨fun f d h => body_ok tb xt h (hd f d h) ih.2 ih.1⟩⟩
end
end RG

end

section
/-! RgHead: a text as data; what the head says of it gives the checker's ground. -/
namespace RG
open PySem PySem.Spec L2 PyProof.Rows

structure Fn where
  d : He.DefD
  ps : List Str
  N : List Str
  df : Def
structure Cla where
  name : Str
  init : Nat
  meths : List (Nat × Nat)
  flds : List Nat
/-- an exception class: the classes that it is of (itself, too), its __init__ -/
structure Exn where
  name : Str
  ups : List Nat
  ini : Nat
  xf : Str
  ve : Bool
structure Txt where
  fns : List (Nat × Fn)
  cls : List Cla
  flN : List Str
  mtN : List Str
  mtA : List Nat
  frees : List Str
  cons : List (Nat × Str × D)
  dics : List (Str × List (List Nat × D))
  pls : Nat → Bool
  ff : Nat → Nat → List Str → List Nat → List D → Bool
  fm : Nat → Nat → List Str → List Nat → List D → Bool
  exs : List Exn := []
/-- what a constant of the module may be -/
def isC : D → Bool
  | .non | .str _ | .int _ | .bl _ | .fn _ => true
  | _ => false
/-- a constant: an int, a text, a tuple of such -/
def isG1 : D → Bool
  | .int _ | .str _ => true
  | .tup l => l.all isC
  | _ => false
namespace Txt
variable (t : Txt)
def fn? (f : Nat) : Option Fn := (t.fns.find? fun q => q.1 == f).map (·.2)
def fl : List Fn := t.fns.map (·.2)
def con? (g : Nat) : Option D := (t.cons.find? fun q => q.1 == g).map (·.2.2)
def tab : Tab where
  defs f := (t.fn? f).map (·.df)
  glo := t.con?
  kdc g := (t.dics[g]?).map fun q => q.2.map fun kv => (.str kv.1, kv.2)
  fld k f := match t.cls[k]? with
    | some c => c.flds.contains f
    | none => false
  meth k m := match t.cls[k]? with
    | some c => c.meths.lookup m
    | none => none
  init k := (t.cls[k]?).map (·.init)
  sub j k := match t.exs[j - 100]? with
    | some e => decide (100 ≤ j) && ((decide (100 ≤ k) && e.ups.contains (k - 100)) || (decide (k = 99) && e.ve))
    | none => false
  plf := t.pls
def xfA (j : Nat) : Str := match t.exs[j - 100]? with
  | some e => e.xf
  | none => ""
def cdv : D → He.Dv
  | .str s => .str ⟨s.toArray⟩
  | .int i => .int i
  | .bl b => .bl b
  | .fn f => .adr fun K => match t.fn? f with
    | some q => He.fAd K q.d.at_
    | none => 0
  | _ => .non
def fN (i : Nat) : Str := match t.flN[i]? with
  | some x => x
  | none => ⟨#[2000000 + i]⟩
def mN (i : Nat) : Str := match t.mtN[i]? with
  | some x => x
  | none => ⟨#[3000000 + i, 0]⟩
def gx (P : Program) (w : World) (K : PySem.W.Frag) (mg : Str → Option Value) (base : Heap) : Gx where
  P := P
  w := w
  K := K
  mg := mg
  base := base
  t := t.tab
  fA f := match t.fn? f with
    | some q => He.fAd K q.d.at_
    | none => 0
  cA c := match t.cls[c]? with
    | some q => He.ga K q.name
    | none => match t.exs[c - 100]? with
      | some e => He.ga K e.name
      | none => 0
  fN := t.fN
  kA g := match t.dics[g]? with
    | some q => He.ga K q.1
    | none => 0
  xN := t.xfA
def tb : Tb where
  fn x := (t.fns.find? fun q => decide (q.2.d.at_ = (x, none))).map (·.1)
  np f := match t.fn? f with
    | some q => q.ps.length
    | none => 0
  pl := t.pls
  cl x := t.cls.findIdx? fun c => decide (c.name = x)
  gl x := (t.cons.find? fun q => decide (q.2.1 = x)).map (·.1)
  kd x := t.dics.findIdx? fun q => decide (q.1 = x)
  fr x := decide (x ∈ t.frees)
  fl x := t.flN.findIdx? fun q => decide (q = x)
  mt x := t.mtN.findIdx? fun q => decide (q = x)
  ma m := t.mtA.getD m 0
  ff := t.ff
  fm := t.fm
  xc x := (t.exs.findIdx? fun e => decide (e.name = x)).map (· + 100)
  xf := t.xfA
/-- what the head is asked -/
def faC (q : Nat × Str × D) : He.Fa := match q.2.2 with
  | .int i => .int q.2.1 i
  | .str s => .str q.2.1 ⟨s.toArray⟩
  | _ => .glo q.2.1
def fa0 : List He.Fa := ((t.fl.filter fun f => decide (f.d.at_.2 = none)).map fun f => .glo f.d.at_.1) ++ (t.frees.map .free ++ (t.cons.map faC ++ ([] ++ (t.dics.map (fun q => .glo q.1) ++
  t.cls.flatMap fun c => [.glo c.name, .cls c.name, .mkr c.name] ++ (c.flds.map (fun f => .noat c.name (t.fN f)) ++ c.meths.map fun m => .meth c.name (t.mN m.1))))))
def fa : List He.Fa := t.fa0 ++ t.exs.map fun e => .glo e.name
theorem sub0 {f : He.Fa} (h : f ∈ t.fa0) : f ∈ t.fa := List.mem_append_left _ h
def fnl : List He.DefD := t.fl.map (·.d)
def ts : List He.Tab := t.dics.map fun q => (fun K => He.ga K q.1, q.2.map fun kv => ⟨kv.1.toArray⟩)
/-- what the head says of an exception class -/
def xcB (K : PySem.W.Frag) (e : Exn) : Bool := oexB K (He.ga K e.name) && (xfB K (He.ga K e.name) && (decide (PySem.W.findIn K (.ref (He.ga K e.name)) e.xf = some none) && ((match t.fn? e.ini with
    | some f => decide (PySem.W.findIn K (.ref (He.ga K e.name)) "__init__" = some (some (.ref (He.fAd K f.d.at_)))) && decide (PySem.W.typeIn K (.ref (He.fAd K f.d.at_)) = some (.type "function"))
    | none => false) && (decide (PySem.W.findIn K (.ref (He.ga K e.name)) "__class__" = some (some (.builtin "object.__class__"))) && (decide (PySem.W.specialIn K (.builtin "object.__class__") "__get__" = some (some (.builtin "getset_descriptor.__get__"))) &&
    (decide (PySem.W.takesIn K (.builtin "object.__class__") = some true) && (decide (PySem.W.mroIn K (He.ga K e.name) (.type "object") = some true) && decide (PySem.W.kitOne K (.ref (He.ga K e.name)) (.type "ValueError") = some e.ve))))))))
def xpB (K : PySem.W.Frag) (e : Exn) : Bool := (List.range t.exs.length).all fun k => match t.exs[k]? with
  | some e' => decide (PySem.W.exmOne K (.ref (He.ga K e.name)) (.ref (He.ga K e'.name)) = some (e.ups.contains k)) && decide (PySem.W.kitOne K (.ref (He.ga K e.name)) (.ref (He.ga K e'.name)) = some (e.ups.contains k))
  | none => false
def tuB (K : PySem.W.Frag) (q : Nat × Str × D) : Bool := match q.2.2 with
  | .tup l => He.tupB K q.2.1 (l.map t.cdv)
  | _ => true
def ex (K : PySem.W.Frag) : Bool := ((t.cons.all (t.tuB K)) && t.dics.all fun q => He.valsB K (He.ga K q.1) (q.2.map fun kv => (⟨kv.1.toArray⟩, t.cdv kv.2))) && t.exs.all fun e => t.xcB K e && t.xpB K e
/-- what of the text must fit -/
def clsC : Bool := (t.cons.all (fun q => isG1 q.2.2) && (t.dics.all (fun q => q.2.all fun kv => isC kv.2) && ((t.fl.all fun f => decide (f.ps.length = f.df.np)) && (decide (t.fns.map (·.1)).Nodup && decide (t.cons.map (·.1)).Nodup)))) && t.cls.all fun c => (match t.fn? c.init with
  | some f => decide (f.d.at_ = (c.name, some ("__init__" : Str)))
  | none => false) && c.meths.all fun m => match t.fn? m.2 with
  | some f => decide (f.d.at_ = (c.name, some (t.mN m.1))) && decide (f.ps.length = t.mtA.getD m.1 0) && t.pls m.2
  | none => false
def low (x : Str) : Bool := x.cps.toList.all (· < 2000000)
def namC : Bool := decide t.flN.Nodup && t.flN.all low && t.mtN.all low && decide (t.mtN[0]? = some ("__len__" : Str)) && decide (t.mtA.getD 0 0 = 1) && t.mtN.all fun m => decide (m ∉ t.flN)
def scC (N ps : List Str) (sc : Scope) : Bool := decide (sc.kind = .function) && !sc.isCoroutine && !sc.isGenerator && decide N.Nodup && decide (N.take ps.length = ps) && ps.all (locB sc) && sc.names.all fun y => decide (y.2 ≠ .free)
def xsC : Bool := decide (t.cls.length ≤ 100) && ((List.range t.exs.length).all fun i => match t.exs[i]? with
  | some e => e.ups.contains i && (e.ups.all fun k => match t.exs[k]? with | some e' => decide (e'.xf = e.xf) | none => true) && (match t.fn? e.ini with
    | some f => (match f.ps with
      | [s, w] => decide (f.N = [s, w]) && isXi s w e.xf f.d.body && !((s == ("__debug__" : Str)) || (s == ("__classdict__" : Str)) || (w == ("__debug__" : Str)) || (w == ("__classdict__" : Str)))
      | _ => false) && t.pls e.ini
    | none => false)
  | none => false)
def fnC (m : Nat) (f : Fn) : Bool := scC f.N f.ps f.d.scope && decide (f.N.length = f.df.ns) && decide (f.ps.length = f.df.np) && ckSs t.tb f.N f.d.scope m f.df.body f.d.body
end Txt
theorem idx_get {a : Type} {p : a → Bool} : ∀ {l : List a} {i : Nat}, l.findIdx? p = some i → ∃ x, l[i]? = some x ∧ p x = true
  | [], i, h => by cases h
  | x :: l, i, h => by
    rw [List.findIdx?_cons] at h
    split at h
    · rename_i q; cases h; exact ⟨x, rfl, q⟩
    · cases e : l.findIdx? p with
      | none => rw [e] at h; cases h
      | some j =>
        rw [e] at h
        cases h
        obtain ⟨y, h1, h2⟩ := idx_get e
        exact ⟨y, by simpa using h1, h2⟩
theorem find_key {a : Type} : ∀ {l : List (Nat × a)} {q : Nat × a}, (l.map (·.1)).Nodup → q ∈ l → (l.find? fun z => z.1 == q.1) = some q
  | [], q, _, h => by cases h
  | z :: l, q, nd, h => by
    rw [List.map_cons, List.nodup_cons] at nd
    by_cases c : z.1 = q.1
    · rw [List.find?_cons, show (z.1 == q.1) = true from by simp [c]]
      rcases List.mem_cons.mp h with e | e
      · rw [e]
      · exact absurd (List.mem_map.mpr ⟨q, e, c.symm⟩) nd.1
    · rw [List.find?_cons, show (z.1 == q.1) = false from by simp [c]]
      rcases List.mem_cons.mp h with e | e
      · exact absurd (by rw [e]) c
      · exact find_key nd.2 e
theorem Txt.fn_mem {t : Txt} {f : Nat} {q : Fn} (h : t.fn? f = some q) : (f, q) ∈ t.fns := by
  unfold Txt.fn? at h
  cases e : t.fns.find? fun q => q.1 == f with
  | none => rw [e] at h; cases h
  | some z =>
    rw [e] at h
    cases h
    have h1 := List.mem_of_find?_eq_some e
    have h2 : z.1 = f := by have := List.find?_some e; simpa using this
    rw [← h2]
    exact h1
theorem Txt.fn_fl {t : Txt} {f : Nat} {q : Fn} (h : t.fn? f = some q) : q ∈ t.fl := List.mem_map.mpr ⟨(f, q), Txt.fn_mem h, rfl⟩
section
variable {t : Txt}
theorem fN_low {i : Nat} {x : Str} (h : t.namC = true) (e : t.flN[i]? = some x) : Txt.low x = true := by
  simp only [Txt.namC, Bool.and_eq_true] at h
  exact List.all_eq_true.mp h.1.1.1.1.2 x (List.mem_of_getElem? e)
theorem mN_low {i : Nat} {x : Str} (h : t.namC = true) (e : t.mtN[i]? = some x) : Txt.low x = true := by
  simp only [Txt.namC, Bool.and_eq_true] at h
  exact List.all_eq_true.mp h.1.1.1.2 x (List.mem_of_getElem? e)
theorem low_no {i : Nat} (k : Nat) (hk : 2000000 ≤ k) : Txt.low ⟨#[k + i]⟩ = false := by
  unfold Txt.low
  simp
  omega
theorem low_no2 {i : Nat} : Txt.low ⟨#[3000000 + i, 0]⟩ = false := by
  unfold Txt.low
  simp
  omega
theorem fN_inj (h : t.namC = true) (i j : Nat) (e : t.fN i = t.fN j) : i = j := by
  unfold Txt.fN at e
  split at e
  · rename_i x q
    split at e
    · rename_i y q'
      subst e
      have nd : t.flN.Nodup := by
        simp only [Txt.namC, Bool.and_eq_true, decide_eq_true_eq] at h
        exact h.1.1.1.1.1
      obtain ⟨l1, g1⟩ := List.getElem?_eq_some_iff.mp q
      obtain ⟨l2, g2⟩ := List.getElem?_eq_some_iff.mp q'
      exact (List.getElem_inj nd).mp (g1.trans g2.symm)
    · have := fN_low h q
      rw [e, low_no 2000000 (Nat.le_refl _)] at this
      cases this
  · split at e
    · rename_i y q'
      have := fN_low h q'
      rw [← e, low_no 2000000 (Nat.le_refl _)] at this
      cases this
    · have e1 : (#[2000000 + i] : Array Nat) = #[2000000 + j] := congrArg Str.cps e
      simp at e1
      exact e1
theorem mN_no (h : t.namC = true) (m g : Nat) : t.mN m ≠ t.fN g := by
  intro e
  unfold Txt.mN Txt.fN at e
  split at e
  · rename_i x q
    split at e
    · rename_i y q'
      subst e
      have h' := h
      simp only [Txt.namC, Bool.and_eq_true] at h'
      have := List.all_eq_true.mp h'.2 x (List.mem_of_getElem? q)
      exact (of_decide_eq_true this) (List.mem_of_getElem? q')
    · have := mN_low h q
      rw [e, low_no 2000000 (Nat.le_refl _)] at this
      cases this
  · split at e
    · rename_i y q'
      have := fN_low h q'
      rw [← e, low_no2] at this
      cases this
    · have e1 : (#[3000000 + m, 0] : Array Nat) = #[2000000 + g] := congrArg Str.cps e
      simp at e1

/-! ### a dict of the module -/
theorem keys_none {P : Params} {x : Str} : ∀ {l : List DictEntry} {ks : List Str}, l.map He.keyOf = He.keysIn P ks → x ∉ ks → l.find? (·.key.isStr x) = none ∧ l.any (·.refKey) = false
  | [], _, _, _ => ⟨rfl, rfl⟩
  | e :: r, [], h, _ => by cases h
  | e :: r, k :: ks, h, hx => by
    have h1 : He.keyOf e :: r.map He.keyOf = some (k, PyData.keyHash P k) :: He.keysIn P ks := h
    injection h1 with h2 h3
    obtain ⟨i1, i2⟩ := keys_none (x := x) h3 (fun z => hx (List.mem_cons_of_mem _ z))
    unfold He.keyOf at h2
    split at h2
    · rename_i y tt q
      have h5 : y = k := (Prod.mk.inj (Option.some.inj h2)).1
      subst h5
      have n1 : e.key.isStr x = false := by
        rw [q]
        show (y == x) = false
        exact beq_eq_false_iff_ne.mpr fun z => hx (by rw [z]; exact List.mem_cons_self)
      have n2 : e.refKey = false := by
        unfold DictEntry.refKey
        rw [q]
      exact ⟨by rw [List.find?_cons, n1]; exact i1, by rw [List.any_cons, n2, i2]; rfl⟩
    · cases h2
theorem dic_in {K : PySem.W.Frag} {w : World} {a : Addr} {ks : List Str} (h : He.dicW K a = some (He.keysIn w.params ks)) {es : Array DictEntry} {n : Nat} (l : K.lookup a = some ⟨.type "dict", none, .dict es n, #[]⟩) {x : Str} (hx : x ∉ ks) : PySem.W.nsIn K a x = some none := by
  unfold He.dicW at h
  rw [l] at h
  dsimp only at h
  split at h
  · have h := Option.some.inj h
    obtain ⟨h1, h2⟩ := keys_none h hx
    unfold PySem.W.nsIn
    rw [l]
    dsimp only
    rw [h1, h2]
    rfl
  · cases h
theorem kget_map {s : List Nat} : ∀ (l : List (List Nat × D)), (∃ kv ∈ l, kv.1 = s ∧ kget (.str s) (l.map fun kv => (D.str kv.1, kv.2)) = some kv.2) ∨ ((∀ kv ∈ l, kv.1 ≠ s) ∧ kget (.str s) (l.map fun kv => (D.str kv.1, kv.2)) = none)
  | [] => .inr ⟨(fun _ h => nomatch h), rfl⟩
  | kv :: l => by
    by_cases c : kv.1 = s
    · refine .inl ⟨kv, List.mem_cons_self, c, ?_⟩
      rw [List.map_cons]
      unfold kget
      have : eqF (.str kv.1) (.str s) = some true := by rw [c]; simp [eqF]
      rw [if_pos this]
    · have : ¬ eqF (.str kv.1) (.str s) = some true := by simp [eqF, c]
      rcases kget_map (s := s) l with ⟨q, h1, h2, h3⟩ | ⟨h1, h2⟩
      · refine .inl ⟨q, List.mem_cons_of_mem _ h1, h2, ?_⟩
        rw [List.map_cons]
        unfold kget
        rw [if_neg this]
        exact h3
      · refine .inr ⟨fun q hq => ?_, ?_⟩
        · rcases List.mem_cons.mp hq with z | z
          · rw [z]; exact c
          · exact h1 q z
        · rw [List.map_cons]
          unfold kget
          rw [if_neg this]
          exact h2
theorem cdv_rel {t : Txt} {P : Program} {w : World} {K : PySem.W.Frag} {mg : Str → Option Value} {base : Heap} {H : Hp} {p : List Addr} : ∀ {d : D}, isC d = true → RelD (t.gx P w K mg base) H p d ((t.cdv d).v K)
  | .non, _ => .non
  | .str s, _ => .str s
  | .int i, _ => .int i
  | .bl b, _ => .bl b
  | .fn f, _ => .fn f
theorem tups_rel {t : Txt} {P : Program} {w : World} {K : PySem.W.Frag} {mg : Str → Option Value} {base : Heap} {H : Hp} {p : List Addr} : ∀ (l : List D), l.all isC = true → RelDs (t.gx P w K mg base) H p l ((l.map t.cdv).map (He.Dv.v K))
  | [], _ => .nil
  | d :: l, h => by
    rw [List.all_cons, Bool.and_eq_true] at h
    exact .cons (cdv_rel h.1) (tups_rel l h.2)

def Txt.fo (t : Txt) (Fd : Nat → FuncData) : Fo := ⟨Fd, fun i => match t.fn? i with | some f => f.ps | none => []⟩
theorem lookup_mem {a b : Type} [BEq a] [LawfulBEq a] {x : a} {y : b} : ∀ {l : List (a × b)}, l.lookup x = some y → (x, y) ∈ l
  | [], h => by cases h
  | (u, v) :: l, h => by
    rw [List.lookup_cons] at h
    split at h
    · rename_i q
      cases h
      rw [eq_of_beq q]
      exact List.mem_cons_self
    · exact List.mem_cons_of_mem _ (lookup_mem h)
section
variable {P : Program} {w : World} {K : PySem.W.Frag} {mg : Str → Option Value} {base h : Heap}
theorem Txt.cls_fa {c : Cla} (hc : c ∈ t.cls) {f : He.Fa} (hf : f ∈ ([.glo c.name, .cls c.name, .mkr c.name] ++ (c.flds.map (fun f => He.Fa.noat c.name (t.fN f)) ++ c.meths.map fun m => He.Fa.meth c.name (t.mN m.1)))) : f ∈ t.fa := by
  refine t.sub0 ?_
  unfold Txt.fa0
  refine List.mem_append_right _ (List.mem_append_right _ (List.mem_append_right _ (List.mem_append_right _ (List.mem_append_right _ ?_))))
  exact List.mem_flatMap.mpr ⟨c, hc, hf⟩
theorem tb_ok (KX : K.In h) (NS : h.Ns mainGlobals mg) (c : He.SaysX t.fa t.fnl t.ts [] t.ex w h K) (hc : t.clsC = true) (hn : t.namC = true) (Fd : Nat → FuncData)
    (hF : ∀ i f, t.fn? i = some f → FunD K f.d.name f.d.qual f.d.params f.d.body f.d.scope (f.d.dvs K) (f.d.kws K) (He.fAd K f.d.at_) (Fd i))
    (hb : ∀ i f, t.fn? i = some f → t.pls i = true → Binds K (Fd i) f.ps [])
    (hff : ∀ f n ks pk dd, t.ff f n ks pk dd = true → Form (t.gx P w K mg base) (t.fo Fd) f n ks pk dd)
    (hpl : ∀ i, t.pls i = true → ∃ f, t.fn? i = some f)
    (hfm : ∀ c f n ks pk dd, t.fm c n ks pk dd = true → t.tab.init c = some f → FormM (t.gx P w K mg base) (t.fo Fd) f n ks pk dd) : TbOk t.tb (t.gx P w K mg base) (t.fo Fd) t.mN := by
  have D := c.t.d
  obtain ⟨hc0, hc⟩ := Bool.and_eq_true_iff.mp hc
  obtain ⟨z1, z2⟩ := Bool.and_eq_true_iff.mp hc0
  obtain ⟨z2, z3⟩ := Bool.and_eq_true_iff.mp z2
  obtain ⟨z3, z4⟩ := Bool.and_eq_true_iff.mp z3
  obtain ⟨z4, z5⟩ := Bool.and_eq_true_iff.mp z4
  have hcG : ∀ q ∈ t.cons, isG1 q.2.2 = true := fun q hq => List.all_eq_true.mp z1 q hq
  have hcD : ∀ q ∈ t.dics, ∀ kv ∈ q.2, isC kv.2 = true := fun q hq kv hk => List.all_eq_true.mp (List.all_eq_true.mp z2 q hq) kv hk
  have hcN : ∀ f ∈ t.fl, f.ps.length = f.df.np := fun f hf => of_decide_eq_true (List.all_eq_true.mp z3 f hf)
  have ndF : (t.fns.map (·.1)).Nodup := of_decide_eq_true z4
  have ndC : (t.cons.map (·.1)).Nodup := of_decide_eq_true z5
  have fnE : ∀ q ∈ t.fns, t.fn? q.1 = some q.2 := fun q hq => by unfold Txt.fn?; rw [find_key ndF hq]; rfl
  have psE : ∀ i f, t.fn? i = some f → (t.fo Fd).ps i = f.ps := fun i f e => by show (match t.fn? i with | some f => f.ps | none => []) = _; rw [e]
  have fAE : ∀ i f, t.fn? i = some f → (t.gx P w K mg base).fA i = He.fAd K f.d.at_ := fun i f e => by show (match t.fn? i with | some q => He.fAd K q.d.at_ | none => 0) = _; rw [e]
  have cAE : ∀ i q, t.cls[i]? = some q → (t.gx P w K mg base).cA i = He.ga K q.name := fun i f e => by show (match t.cls[i]? with | some q => He.ga K q.name | none => match t.exs[i - 100]? with | some e => He.ga K e.name | none => 0) = _; rw [e]
  have kAE : ∀ i q, t.dics[i]? = some q → (t.gx P w K mg base).kA i = He.ga K q.1 := fun i f e => by show (match t.dics[i]? with | some q => He.ga K q.1 | none => 0) = _; rw [e]
  have clsAt : ∀ (cl : Cla), cl ∈ t.cls → (∃ f, t.fn? cl.init = some f ∧ f.d.at_ = (cl.name, some ("__init__" : Str))) ∧ ∀ m ∈ cl.meths, ∃ f, t.fn? m.2 = some f ∧ f.d.at_ = (cl.name, some (t.mN m.1)) ∧ f.ps.length = t.mtA.getD m.1 0 ∧ t.pls m.2 = true := fun cl hcl => by
    have q := List.all_eq_true.mp hc cl hcl
    simp only [Bool.and_eq_true] at q
    obtain ⟨q1, q2⟩ := q
    constructor
    · split at q1
      · rename_i f e
        exact ⟨f, e, of_decide_eq_true q1⟩
      · cases q1
    · intro m hm
      have q3 := List.all_eq_true.mp q2 m hm
      split at q3
      · rename_i f e
        simp only [Bool.and_eq_true, decide_eq_true_eq] at q3
        exact ⟨f, e, q3.1.1, q3.1.2, q3.2⟩
      · cases q3
  have methAt : ∀ k m f, t.tab.meth k m = some f → ∃ cl, t.cls[k]? = some cl ∧ (m, f) ∈ cl.meths := fun k m f e => by
    have e : (match t.cls[k]? with | some c => c.meths.lookup m | none => none) = some f := e
    split at e
    · rename_i cl q
      exact ⟨cl, q, lookup_mem e⟩
    · cases e
  refine ⟨⟨fN_inj hn, fun k f e => ?_⟩, ⟨fun k m f e => ?_, mN_no hn⟩, fun x f e => ?_, fun f e => ?_, fun x k e => ?_, fun x g e => ?_, fun x g e => ?_, fun x e => ?_, fun x f e => ?_, fun x m e => ?_, ?_, fun k m f e => ?_, ?_, hff, hfm, fun f e => ?_⟩
  · -- fields
    have e : (match t.cls[k]? with | some c => c.flds.contains f | none => false) = true := e
    split at e
    · rename_i cl q
      have hm := List.mem_of_getElem? q
      rw [cAE k cl q]
      refine ⟨He.cls_ok (D.facts (Txt.cls_fa hm (by simp))), He.noat_ok (D.facts (Txt.cls_fa hm ?_))⟩
      refine List.mem_append_right _ (List.mem_append_left _ (List.mem_map.mpr ⟨f, ?_, rfl⟩))
      simpa using e
    · cases e
  · -- methods
    obtain ⟨cl, q, hmf⟩ := methAt k m f e
    have hm := List.mem_of_getElem? q
    obtain ⟨f', e1, e2, e3, e4⟩ := (clsAt cl hm).2 (m, f) hmf
    have g : He.Fa.meth cl.name (t.mN m) ∈ t.fa := Txt.cls_fa hm (List.mem_append_right _ (List.mem_append_right _ (List.mem_map.mpr ⟨(m, f), hmf, rfl⟩)))
    have mt := He.meth_ok (D.facts g)
    have fe : (t.gx P w K mg base).fA f = He.ma K (He.ga K cl.name) (t.mN m) := by
      rw [fAE f f' e1, e2]; rfl
    refine ⟨?_, ?_, ?_⟩
    · rw [cAE k cl q]; exact He.cls_ok (D.facts (Txt.cls_fa hm (by simp)))
    · rw [cAE k cl q, fe]; exact mt
    · rw [psE f f' e1]; exact hb f f' e1 e4
  · -- functions
    have e : (t.fns.find? fun q => decide (q.2.d.at_ = (x, none))).map (·.1) = some f := e
    cases e0 : t.fns.find? fun q => decide (q.2.d.at_ = (x, none)) with
    | none => rw [e0] at e; cases e
    | some q =>
      rw [e0] at e
      cases e
      have hq := List.mem_of_find?_eq_some e0
      have e1 := fnE q hq
      have e2 : q.2.d.at_ = (x, none) := by have := List.find?_some e0; exact of_decide_eq_true this
      have g : He.Fa.glo x ∈ t.fa := by
        refine t.sub0 ?_
        unfold Txt.fa0
        refine List.mem_append_left _ (List.mem_map.mpr ⟨q.2, List.mem_filter.mpr ⟨Txt.fn_fl e1, by rw [e2]; rfl⟩, by rw [e2]⟩)
      have fe : (t.gx P w K mg base).fA q.1 = He.ga K x := by rw [fAE q.1 q.2 e1, e2]; rfl
      rw [fe]
      refine ⟨He.glo_ok KX NS (D.facts g), ?_⟩
      have := (hF q.1 q.2 e1).kp
      rw [e2] at this
      exact this
  · -- plain ones
    obtain ⟨f', e1⟩ := hpl f e
    rw [psE f _ e1]
    refine ⟨hb f _ e1 e, ?_⟩
    show _ = (match t.fn? f with | some q => q.ps.length | none => 0)
    rw [e1]
  · -- classes
    obtain ⟨cl, e1, e2⟩ := idx_get (show t.cls.findIdx? (fun c => decide (c.name = x)) = some k from e)
    have e2 : cl.name = x := of_decide_eq_true e2
    have hm := List.mem_of_getElem? e1
    rw [cAE k cl e1]
    obtain ⟨f', g1, g2⟩ := (clsAt cl hm).1
    refine ⟨by rw [← e2]; exact He.glo_ok KX NS (D.facts (Txt.cls_fa hm (by simp))), cl.init, by show (t.cls[k]?).map (·.init) = _; rw [e1]; rfl, ?_⟩
    have fe : (t.gx P w K mg base).fA cl.init = He.ma K (He.ga K cl.name) "__init__" := by rw [fAE _ f' g1, g2]; rfl
    rw [fe]
    exact He.mkr_ok (D.facts (Txt.cls_fa hm (by simp)))
  · -- constants
    have e : (t.cons.find? fun q => decide (q.2.1 = x)).map (·.1) = some g := e
    cases e0 : t.cons.find? fun q => decide (q.2.1 = x) with
    | none => rw [e0] at e; cases e
    | some v =>
      rw [e0] at e
      cases e
      have hv := List.mem_of_find?_eq_some e0
      have e2 : v.2.1 = x := by have := List.find?_some e0; exact of_decide_eq_true this
      have gv : t.tab.glo v.1 = some v.2.2 := by
        show t.con? v.1 = _
        unfold Txt.con?
        rw [find_key ndC hv]
        rfl
      have gf : Txt.faC v ∈ t.fa := by
        refine t.sub0 ?_
        unfold Txt.fa0
        exact List.mem_append_right _ (List.mem_append_right _ (List.mem_append_left _ (List.mem_map.mpr ⟨v, hv, rfl⟩)))
      have ok1 := D.facts gf
      have hg := hcG v hv
      obtain ⟨id, nm, d⟩ := v
      dsimp only at e2 gv hg
      subst e2
      cases d with
      | int i =>
        obtain ⟨tk, mm⟩ := He.int_ok KX NS (x := nm) (i := i) ok1
        exact ⟨_, .int i, .int i tk, gv, mm, ⟨tk, rfl⟩, fun H p => .int _⟩
      | str s =>
        obtain ⟨tk, mm⟩ := He.str_ok KX NS (x := nm) (z := ⟨s.toArray⟩) ok1
        exact ⟨_, .str ⟨s.toArray⟩, .str ⟨s.toArray⟩ tk, gv, mm, ⟨tk, rfl⟩, fun H p => .str _⟩
      | tup l =>
        have m1 := He.glo_ok KX NS (x := nm) ok1
        have ex := c.more
        unfold Txt.ex at ex
        rw [Bool.and_eq_true, Bool.and_eq_true] at ex
        have ex := ex.1
        have tt := He.tupB_ok (List.all_eq_true.mp ex.1 _ hv)
        exact ⟨_, .ref (He.ga K nm), .ref (He.ga K nm), gv, m1, rfl, fun H p => .tup (tt H) (tups_rel l hg)⟩
      | _ => cases hg
  · -- dicts
    obtain ⟨v, e1, e2⟩ := idx_get (show t.dics.findIdx? (fun q => decide (q.1 = x)) = some g from e)
    have e2 : v.1 = x := of_decide_eq_true e2
    have hm := List.mem_of_getElem? e1
    have gf : He.Fa.glo v.1 ∈ t.fa := by
      refine t.sub0 ?_
      unfold Txt.fa0
      exact List.mem_append_right _ (List.mem_append_right _ (List.mem_append_right _ (List.mem_append_right _ (List.mem_append_left _ (List.mem_map.mpr ⟨v, hm, rfl⟩)))))
    have m1 := He.glo_ok KX NS (D.facts gf)
    refine ⟨by rw [kAE g v e1, ← e2]; exact m1, v.2.map fun kv => (.str kv.1, kv.2), by show (t.dics[g]?).map _ = _; rw [e1]; rfl, ?_⟩
    obtain ⟨es, n, kd⟩ := c.t.tab g (t := (fun K => He.ga K v.1, v.2.map fun kv => ⟨kv.1.toArray⟩)) (by unfold Txt.ts; rw [List.getElem?_map, e1]; rfl)
    have ex := c.more
    unfold Txt.ex at ex
    rw [Bool.and_eq_true, Bool.and_eq_true] at ex
    have ex := ex.1
    have vb := List.all_eq_true.mp ex.2 v hm
    have dw : He.dicW K (He.ga K v.1) = some (He.keysIn w.params (v.2.map fun kv => ⟨kv.1.toArray⟩)) := by
      have e : t.ts.map (fun t => He.dicW K (t.1 K)) = t.ts.map fun t => some (He.keysIn w.params t.2) := congrArg (fun z : He.AlT => z.2) c.t
      have e2 : (t.ts.map fun t => He.dicW K (t.1 K))[g]? = (t.ts.map fun t => some (He.keysIn w.params t.2))[g]? := by rw [e]
      rw [List.getElem?_map, List.getElem?_map] at e2
      have e3 : t.ts[g]? = some (fun K => He.ga K v.1, v.2.map fun kv => ⟨kv.1.toArray⟩) := by unfold Txt.ts; rw [List.getElem?_map, e1]; rfl
      rw [e3] at e2
      exact Option.some.inj e2
    refine ⟨by rw [kAE g v e1]; exact kd.low, es, n, by rw [kAE g v e1]; exact kd.at_, kd.lit, fun s => ?_⟩
    rw [kAE g v e1]
    rcases kget_map (s := s) v.2 with ⟨kv, h1, h2, h3⟩ | ⟨h1, h2⟩
    · obtain ⟨u, h4, h5⟩ := He.valsB_ok vb (List.mem_map.mpr ⟨kv, h1, rfl⟩)
      exact .inl ⟨_, _, u, h3, by rw [← h2]; exact h4, h5, fun H p => cdv_rel (hcD v hm kv h1)⟩
    · refine .inr ⟨h2, dic_in dw kd.at_ fun z => ?_⟩
      obtain ⟨kv, h3, h4⟩ := List.mem_map.mp z
      have : kv.1 = s := by
        have h5 := congrArg Str.cps h4
        simpa using h5
      exact h1 kv h3 this
  · -- free names
    have e : x ∈ t.frees := of_decide_eq_true e
    refine He.free_ok KX NS (D.facts ?_)
    refine t.sub0 ?_
    unfold Txt.fa0
    exact List.mem_append_right _ (List.mem_append_left _ (List.mem_map.mpr ⟨x, e, rfl⟩))
  · -- fields' names
    obtain ⟨y, e1, e2⟩ := idx_get (show t.flN.findIdx? (fun q => decide (q = x)) = some f from e)
    have e2 : y = x := of_decide_eq_true e2
    show (match t.flN[f]? with | some x => x | none => _) = x
    rw [e1]; exact e2
  · obtain ⟨y, e1, e2⟩ := idx_get (show t.mtN.findIdx? (fun q => decide (q = x)) = some m from e)
    have e2 : y = x := of_decide_eq_true e2
    show (match t.mtN[m]? with | some x => x | none => _) = x
    rw [e1]; exact e2
  · simp only [Txt.namC, Bool.and_eq_true, decide_eq_true_eq] at hn
    show (match t.mtN[0]? with | some x => x | none => _) = _
    rw [hn.1.1.2]
  · obtain ⟨cl, q, hmf⟩ := methAt k m f e
    obtain ⟨f', e1, e2, e3, e4⟩ := (clsAt cl (List.mem_of_getElem? q)).2 (m, f) hmf
    rw [psE f f' e1]
    exact e3
  · simp only [Txt.namC, Bool.and_eq_true, decide_eq_true_eq] at hn
    exact hn.1.2
  · have e : t.pls f = true := e
    obtain ⟨f', e1⟩ := hpl f e
    refine ⟨by rw [fAE f _ e1]; exact (hF f _ e1).kp, by rw [psE f _ e1]; exact hb f _ e1 e, fun d hd => ?_⟩
    have hd : (t.fn? f).map (·.df) = some d := hd
    rw [e1] at hd
    cases hd
    rw [psE f _ e1]
    exact hcN _ (Txt.fn_fl e1)
end
end
end RG

end

section
/-! RgEnd: a law's end: from a plain statement about its term. -/
namespace RG
open PySem PySem.Spec L2 PyProof.Rows

/-- a law's end, the exceptions by the world -/
theorem walk_ofW {l : PySem.W.OpenLaw} {n k : Nat} {q : Program} {loose : List Str} {XP : (Str → Option Value) → Heap → Prop} {YP : World → Heap → Prop} {d : DefRec} {CX : World → CXT} {x : Str}
    (hn : l.most = some n) (hn2 : n ≤ sizeLine) (hdf : d.params.defaults = []) (hr : Room k callerA)
    (F : ∀ (w : World) (mg : Str → Option Value) (fa : Addr) (h : Heap), YP w h → h.Ns mainGlobals mg → mg d.name = some (.ref fa) →
      ∃ (K : PySem.W.Frag) (fd : FuncData) (sp : Heap → Sp), K.In h ∧ (∀ (s : Shared) (u : Value), BindsTo s fd ⟨[u], []⟩ [(x, u)]) ∧
        ∃ sp : Sp, (∀ (H : Hp) (a : Addr) (ns : List Int), ns.length ≤ n → Only H → SqL K H a (ns.map V.int) → sp [.ref a] H (fun v _ => v = .bl true) fun _ _ _ => False) ∧
        ∀ base : Heap, K.In base → base.Ns mainGlobals mg → FnOk l.prog w K mg base (CX w) k fa fd [x] sp)
    (hCX : ∀ (w : World) (H : Hp) (s : Shared) (e : Value) (s' : Shared), CX w [] H s (fun _ _ _ => False) e s' → False) :
    PySem.W.WalkO q loose XP YP l.row.toRowW d [] (fun f vs => PySem.call f vs) := by
  refine Att.attach_call hn hdf fun w s₀ s₁ mg mb fa o pm cd doc a vs ns G Y ho hd hcd hmg hobj hints hlen hg => ?_
  obtain ⟨K, fd, _, KX, hb, sp, hsp, hF⟩ := F w mg fa _ Y G.T.g hmg
  exact law_call KX G.T.g G.T.b G.T.builtins G.T.nolimit hg hobj hints (Nat.le_trans hlen hn2) hr hF hb (fun H hO hS => hsp H a ns hlen hO hS) fun H e s' => hCX w H s₁ e s'
theorem cx_no (P : Program) (w : World) (H : Hp) (s : Shared) (e : Value) (s' : Shared) (h : L2.CX P w [] H s (fun _ _ _ => False) e s') : False := by
  obtain ⟨_, _, _, _, _, _, _, _, _, _, _, _, z⟩ := h
  exact z
/-- one default that is a number -/
def ddI (k : Int) : List D → Bool
  | [.int i] => decide (i = k)
  | _ => false
theorem ddI_of {k : Int} {dd : List D} (h : ddI k dd = true) : dd = [.int k] := by
  unfold ddI at h
  split at h
  · rw [of_decide_eq_true h]
  · cases h
theorem scC_ok {N ps : List Str} {sc : Scope} (h : Txt.scC N ps sc = true) : FnScope N ps sc := by
  simp only [Txt.scC, Bool.and_eq_true, decide_eq_true_eq, Bool.not_eq_true'] at h
  obtain ⟨⟨⟨⟨⟨⟨h1, h2⟩, h3⟩, h4⟩, h5⟩, h6⟩, h7⟩ := h
  exact ⟨h1, h2, h3, h4, h5, fun x hx => locB_of (List.all_eq_true.mp h6 x hx), fun y hy => of_decide_eq_true (List.all_eq_true.mp h7 y hy)⟩
theorem xtb_ok {t : Txt} {m : Nat} {P : Program} {w : World} {K : PySem.W.Frag} {mg : Str → Option Value} {base h : Heap} (KX : K.In h) (NS : h.Ns mainGlobals mg) (c : He.SaysX t.fa t.fnl t.ts [] t.ex w h K) (hx : t.xsC = true) (hfn : ∀ f ∈ t.fl, t.fnC m f = true) (Fd : Nat → FuncData)
    (hF : ∀ i f, t.fn? i = some f → FunD K f.d.name f.d.qual f.d.params f.d.body f.d.scope (f.d.dvs K) (f.d.kws K) (He.fAd K f.d.at_) (Fd i))
    (hb : ∀ i f, t.fn? i = some f → t.pls i = true → Binds K (Fd i) f.ps []) : XTb t.tb (t.gx P w K mg base) t.xfA := by
  have D := c.t.d
  unfold Txt.xsC at hx
  simp only [Bool.and_eq_true, decide_eq_true_eq] at hx
  obtain ⟨hcl, hx⟩ := hx
  have hx : ∀ (i : Nat) (e : Exn), t.exs[i]? = some e → (e.ups.contains i = true ∧ ∀ k ∈ e.ups, ∀ e', t.exs[k]? = some e' → e'.xf = e.xf) ∧ ∃ (f : Fn) (sn wn : Str), t.fn? e.ini = some f ∧ f.ps = [sn, wn] ∧ f.N = [sn, wn] ∧ isXi sn wn e.xf f.d.body = true ∧ ((sn == ("__debug__" : Str)) || (sn == ("__classdict__" : Str)) || (wn == ("__debug__" : Str)) || (wn == ("__classdict__" : Str))) = false ∧ t.pls e.ini = true := fun i e he => by
    have q := List.all_eq_true.mp hx i (List.mem_range.mpr (List.getElem?_eq_some_iff.mp he).1)
    rw [he] at q
    simp only [Bool.and_eq_true] at q
    obtain ⟨⟨q1, q0⟩, q2⟩ := q
    refine ⟨⟨q1, fun k hk e' he' => ?_⟩, ?_⟩
    · have z := List.all_eq_true.mp q0 k hk
      rw [he'] at z
      exact of_decide_eq_true z
    split at q2
    · rename_i f ef
      simp only [Bool.and_eq_true] at q2
      obtain ⟨q2, q3⟩ := q2
      split at q2
      · rename_i sn wn es
        simp only [Bool.and_eq_true, decide_eq_true_eq, Bool.not_eq_true'] at q2
        exact ⟨f, sn, wn, ef, es, q2.1.1, q2.1.2, q2.2, q3⟩
      · cases q2
    · cases q2
  have cAE : ∀ (i : Nat) (e : Exn), t.exs[i]? = some e → (t.gx P w K mg base).cA (i + 100) = He.ga K e.name := fun i e he => by
    show (match t.cls[i + 100]? with | some q => He.ga K q.name | none => match t.exs[i + 100 - 100]? with | some e => He.ga K e.name | none => 0) = _
    rw [List.getElem?_eq_none (by omega)]
    show (match t.exs[i + 100 - 100]? with | some e => He.ga K e.name | none => 0) = _
    rw [Nat.add_sub_cancel, he]
  have subE : ∀ (i : Nat) (e : Exn), t.exs[i]? = some e → ∀ k, (t.gx P w K mg base).t.sub (i + 100) (k + 100) = e.ups.contains k := fun i e he k => by
    show (match t.exs[i + 100 - 100]? with | some e => decide (100 ≤ i + 100) && ((decide (100 ≤ k + 100) && e.ups.contains (k + 100 - 100)) || (decide (k + 100 = 99) && e.ve)) | none => false) = _
    rw [Nat.add_sub_cancel, he, Nat.add_sub_cancel]
    have z : decide (k + 100 = 99) = false := decide_eq_false (by omega)
    simp [z]
  have sub99 : ∀ (i : Nat) (e : Exn), t.exs[i]? = some e → (t.gx P w K mg base).t.sub (i + 100) 99 = e.ve := fun i e he => by
    show (match t.exs[i + 100 - 100]? with | some e => decide (100 ≤ i + 100) && ((decide (100 ≤ 99) && e.ups.contains (99 - 100)) || (decide (99 = 99) && e.ve)) | none => false) = _
    rw [Nat.add_sub_cancel, he]
    simp
  have xfE : ∀ (i : Nat) (e : Exn), t.exs[i]? = some e → t.xfA (i + 100) = e.xf := fun i e he => by
    unfold Txt.xfA
    rw [Nat.add_sub_cancel, he]
  have subX : ∀ j, (t.gx P w K mg base).t.sub j j = true → ∃ i e, j = i + 100 ∧ t.exs[i]? = some e := fun j hj => by
    have hj : (match t.exs[j - 100]? with | some e => decide (100 ≤ j) && ((decide (100 ≤ j) && e.ups.contains (j - 100)) || (decide (j = 99) && e.ve)) | none => false) = true := hj
    split at hj
    · rename_i e he
      rw [Bool.and_eq_true, decide_eq_true_eq] at hj
      exact ⟨j - 100, e, by omega, he⟩
    · cases hj
  have ex := c.more
  unfold Txt.ex at ex
  rw [Bool.and_eq_true] at ex
  have xs : ∀ (i : Nat) (e : Exn), t.exs[i]? = some e → t.xcB K e = true ∧ t.xpB K e = true := fun i e he => by
    have := List.all_eq_true.mp ex.2 e (List.mem_of_getElem? he)
    rwa [Bool.and_eq_true] at this
  have xp : ∀ (i : Nat) (e : Exn), t.exs[i]? = some e → ∀ (k : Nat) (e' : Exn), t.exs[k]? = some e' → PySem.W.exmOne K (.ref (He.ga K e.name)) (.ref (He.ga K e'.name)) = some (e.ups.contains k) ∧ PySem.W.kitOne K (.ref (He.ga K e.name)) (.ref (He.ga K e'.name)) = some (e.ups.contains k) := fun i e he k e' he' => by
    have q := List.all_eq_true.mp (xs i e he).2 k (List.mem_range.mpr (List.getElem?_eq_some_iff.mp he').1)
    rw [he'] at q
    simp only [Bool.and_eq_true, decide_eq_true_eq] at q
    exact q
  have xcs : ∀ (i : Nat) (e : Exn), t.exs[i]? = some e → OexG K (He.ga K e.name) ∧ XfC K (He.ga K e.name) ∧ PySem.W.findIn K (.ref (He.ga K e.name)) e.xf = some none ∧ (∃ f, t.fn? e.ini = some f ∧ PySem.W.findIn K (.ref (He.ga K e.name)) "__init__" = some (some (.ref (He.fAd K f.d.at_))) ∧ PySem.W.typeIn K (.ref (He.fAd K f.d.at_)) = some (.type "function")) ∧
      ExcC K (He.ga K e.name) ∧ PySem.W.kitOne K (.ref (He.ga K e.name)) (.type "ValueError") = some e.ve := fun i e he => by
    have q := (xs i e he).1
    unfold Txt.xcB at q
    simp only [Bool.and_eq_true, decide_eq_true_eq] at q
    obtain ⟨q1, q2, q3, q4, q5, q6, q7, q8, q9⟩ := q
    have X := xfB_ok q2
    refine ⟨oexB_ok q1, X, q3, ?_, ⟨X.ga, X.gg, X.exC, X.hdC, q5, q6, q7, q8⟩, q9⟩
    split at q4
    · rename_i f ef
      simp only [Bool.and_eq_true, decide_eq_true_eq] at q4
      exact ⟨f, ef, q4.1, q4.2⟩
    · cases q4
  refine ⟨fun j => rfl, fun j => rfl, fun j k hkk hjk => ?_, fun x k e => ?_, fun k hk => ?_, fun j k hj hk => ?_, fun j k hj hk => ?_, fun j hj => ?_, fun j hj => ?_⟩
  · obtain ⟨i', e', rfl, he'⟩ := subX k hkk
    have hj : (match t.exs[j - 100]? with | some e => decide (100 ≤ j) && ((decide (100 ≤ i' + 100) && e.ups.contains (i' + 100 - 100)) || (decide (i' + 100 = 99) && e.ve)) | none => false) = true := hjk
    split at hj
    · rename_i e he
      rw [Nat.add_sub_cancel, Bool.and_eq_true, Bool.or_eq_true, decide_eq_true_eq] at hj
      obtain ⟨h1, h2 | h2⟩ := hj
      · rw [Bool.and_eq_true] at h2
        show t.xfA j = t.xfA (i' + 100)
        have z : t.xfA j = e.xf := by unfold Txt.xfA; rw [he]
        rw [z, xfE i' e' he']
        exact ((hx _ e he).1.2 i' (by simpa using h2.2) e' he').symm
      · rw [Bool.and_eq_true, decide_eq_true_eq] at h2
        omega
    · cases hj
  · have e : (t.exs.findIdx? fun e => decide (e.name = x)).map (· + 100) = some k := e
    cases q : t.exs.findIdx? fun e => decide (e.name = x) with
    | none => rw [q] at e; cases e
    | some i =>
      rw [q] at e
      cases e
      obtain ⟨ee, e1, e2⟩ := idx_get q
      have e2 : ee.name = x := of_decide_eq_true e2
      refine ⟨?_, by rw [subE i ee e1]; exact (hx i ee e1).1.1⟩
      rw [cAE i ee e1, ← e2]
      refine He.glo_ok KX NS (D.facts ?_)
      unfold Txt.fa
      exact List.mem_append_right _ (List.mem_map.mpr ⟨ee, List.mem_of_getElem? e1, rfl⟩)
  · obtain ⟨i, e, rfl, he⟩ := subX k hk
    obtain ⟨x1, x2, x3, ⟨f, f1, f2, f3⟩, x5, x6⟩ := xcs i e he
    obtain ⟨_, f', sn, wn, g1, g2, g3, g4, g5, g6⟩ := hx i e he
    rw [f1] at g1; cases g1
    rw [cAE i e he]
    show XcOk _ (t.xfA (i + 100)) _
    rw [xfE i e he]
    have ck := hfn f (Txt.fn_fl f1)
    simp only [Txt.fnC, Bool.and_eq_true, decide_eq_true_eq] at ck
    have S := scC_ok ck.1.1.1
    rw [g2, g3] at S
    refine ⟨x1, x2, x3, He.fAd K f.d.at_, Fd e.ini, f.ps, f2, f3, fun kk => ?_, hb e.ini f f1 g6⟩
    rw [g2]
    exact xinit_ok (hF e.ini f f1) S g4 g5 kk
  · obtain ⟨i, e, rfl, he⟩ := subX j hj
    obtain ⟨i', e', rfl, he'⟩ := subX k hk
    rw [cAE i e he, cAE i' e' he', subE i e he]
    exact (xp i e he i' e' he').1
  · obtain ⟨i, e, rfl, he⟩ := subX j hj
    obtain ⟨i', e', rfl, he'⟩ := subX k hk
    rw [cAE i e he, cAE i' e' he', subE i e he]
    exact (xp i e he i' e' he').2
  · obtain ⟨i, e, rfl, he⟩ := subX j hj
    rw [cAE i e he, sub99 i e he]
    exact (xcs i e he).2.2.2.2.2
  · obtain ⟨i, e, rfl, he⟩ := subX j hj
    rw [cAE i e he]
    exact (xcs i e he).2.2.2.2.1
/-- what is asked of a text, and of its head -/
structure TxtOk (t : Txt) (m : Nat) : Prop where
  cls : t.clsC = true
  nam : t.namC = true
  fns : ∀ f ∈ t.fl, t.fnC m f = true
  xs : t.xsC = true
  pl : ∀ i, t.pls i = true → ∃ f, t.fn? i = some f
  bind : ∀ (i : Nat) (f : Fn) (K : PySem.W.Frag) (fd : FuncData), t.fn? i = some f → t.pls i = true → FunD K f.d.name f.d.qual f.d.params f.d.body f.d.scope (f.d.dvs K) (f.d.kws K) (He.fAd K f.d.at_) fd → Binds K fd f.ps []
  ff : ∀ (P : Program) (w : World) (K : PySem.W.Frag) (mg : Str → Option Value) (base : Heap) (Fd : Nat → FuncData), (∀ (i : Nat) (f : Fn), t.fn? i = some f → FunD K f.d.name f.d.qual f.d.params f.d.body f.d.scope (f.d.dvs K) (f.d.kws K) (He.fAd K f.d.at_) (Fd i)) →
    ∀ f n ks pk dd, t.ff f n ks pk dd = true → Form (t.gx P w K mg base) (t.fo Fd) f n ks pk dd
  fm : ∀ (P : Program) (w : World) (K : PySem.W.Frag) (mg : Str → Option Value) (base : Heap) (Fd : Nat → FuncData), (∀ (i : Nat) (f : Fn), t.fn? i = some f → FunD K f.d.name f.d.qual f.d.params f.d.body f.d.scope (f.d.dvs K) (f.d.kws K) (He.fAd K f.d.at_) (Fd i)) →
    ∀ c f n ks pk dd, t.fm c n ks pk dd = true → t.tab.init c = some f → FormM (t.gx P w K mg base) (t.fo Fd) f n ks pk dd
theorem law_walk {l : PySem.W.OpenLaw} {q : Program} {loose : List Str} {XP : (Str → Option Value) → Heap → Prop} {d : DefRec} (t : Txt) (m n k li : Nat) (fl : Fn) (ok : TxtOk t m)
    (hn : l.most = some n) (hn2 : n ≤ sizeLine) (hdf : d.params.defaults = []) (hr : Room (k + 1) callerA)
    (hl : t.fn? li = some fl) (hat : fl.d.at_ = (d.name, none)) (hps : fl.ps = [("script" : Str)]) (hdfl : fl.d.dfl = [])
    (hbind : ∀ (kV doc pm : Value) (an : Option Addr) (cdv ct : Value) (us : List Value), us.length = fl.ps.length → bindArgs (PySem.W.fnOf fl.d.name fl.d.qual fl.d.params fl.d.body fl.d.scope .none kV doc pm an cdv ct) ⟨us, []⟩ = pure (fl.ps.zip us))
    (plain : ∀ ns : List Int, ns.length ≤ n → ∃ h', run t.tab k li [.scr ns] [] = .ok (.bl true) h') :
    PySem.W.WalkO q loose XP (He.hookX 6 t.fa t.fnl t.ts [] t.ex).says l.row.toRowW d [] (fun f vs => PySem.call f vs) := by
  refine walk_ofW (CX := fun w => L2.CX l.prog w) (x := "script") (k := k + 1) hn hn2 hdf hr ?_ (fun w H s e s' => cx_no _ w H s e s')
  intro w mg fa h Y NS hmg
  obtain ⟨K, KX, c⟩ := Y
  have D := c.t.d
  have ex : ∀ (i : Nat) (f : Fn), t.fn? i = some f → ∃ fd, FunD K f.d.name f.d.qual f.d.params f.d.body f.d.scope (f.d.dvs K) (f.d.kws K) (He.fAd K f.d.at_) fd := fun i f e => by
    obtain ⟨k, hk⟩ := List.getElem?_of_mem (Txt.fn_fl e)
    exact D.def_ k (d := f.d) (by unfold Txt.fnl; rw [List.getElem?_map, hk]; rfl)
  obtain ⟨fd0, _⟩ := ex li fl hl
  have cho : ∃ Fd : Nat → FuncData, ∀ (i : Nat) (f : Fn), t.fn? i = some f → FunD K f.d.name f.d.qual f.d.params f.d.body f.d.scope (f.d.dvs K) (f.d.kws K) (He.fAd K f.d.at_) (Fd i) := by
    have : ∀ i : Nat, ∃ fd : FuncData, ∀ f : Fn, t.fn? i = some f → FunD K f.d.name f.d.qual f.d.params f.d.body f.d.scope (f.d.dvs K) (f.d.kws K) (He.fAd K f.d.at_) fd := fun i => by
      cases e : t.fn? i with
      | none => exact ⟨fd0, fun f z => by cases z⟩
      | some f =>
        obtain ⟨fd, hf⟩ := ex i f e
        exact ⟨fd, fun f' z => by cases z; exact hf⟩
    exact ⟨fun i => (this i).choose, fun i f e => (this i).choose_spec f e⟩
  obtain ⟨Fd, hF⟩ := cho
  have fe : He.fAd K fl.d.at_ = fa := by
    have g : He.Fa.glo d.name ∈ t.fa := by
      refine t.sub0 ?_
      unfold Txt.fa0
      refine List.mem_append_left _ (List.mem_map.mpr ⟨fl, List.mem_filter.mpr ⟨Txt.fn_fl hl, by rw [hat]; rfl⟩, by rw [hat]⟩)
    have m1 := He.glo_ok KX NS (D.facts g)
    rw [hmg] at m1
    rw [hat]
    cases m1
    rfl
  have FL := hF li fl hl
  have hdv : fl.d.dvs K = [] := by unfold He.DefD.dvs; rw [hdfl]; rfl
  rw [hdv] at FL
  have b := FunD.bindsA (ps := fl.ps) FL hbind
  have psE : (t.fo Fd).ps li = [("script" : Str)] := by show (match t.fn? li with | some f => f.ps | none => []) = _; rw [hl]; exact hps
  refine ⟨K, Fd li, fun _ _ _ _ _ => False, KX, fun s u => ?_, fun vs H Q E => ∀ base, spF (t.gx l.prog w K mg base) t.xfA k li 1 vs H Q E, fun H a ns hlen hO hS base => ?_, fun base kb nb => ?_⟩
  · have := b s [u] (by rw [hps]; rfl)
    rw [hps] at this
    exact this
  · have fr : Frl K H a (ns.map V.int) := by
      rcases hS with (hS | hS) | hS
      · rcases hO a with z | ⟨o, xs, z⟩
        · rw [hS] at z; cases z
        · rw [hS] at z; cases z
      · exact .inl hS
      · exact .inr hS
    obtain ⟨h', e⟩ := plain ns hlen
    refine ⟨[], [.scr ns], [], ⟨rfl, List.nodup_nil, fun n o z => by simp at z⟩, .cons (.scr fr) .nil, rfl, ?_⟩
    show PostC _ _ _ _ _ _ (run t.tab k li [.scr ns] [])
    rw [e]
    intro p' v H' _ _ _ r
    cases r
    rfl
  · have tb := tb_ok (P := l.prog) (w := w) (mg := mg) (base := base) kb nb ⟨c.t, c.more, fun p hp => (by cases hp), fun p hp => (by cases hp), fun p hp => (by cases hp)⟩ ok.cls ok.nam Fd hF (fun i f e hp => ok.bind i f K (Fd i) e hp (hF i f e)) (ok.ff l.prog w K mg base Fd hF) ok.pl (ok.fm l.prog w K mg base Fd hF)
    have all : ∀ i df, (t.gx l.prog w K mg base).t.defs i = some df → DefOk t.tb (t.gx l.prog w K mg base) (t.fo Fd) i df := fun i df e => by
      have e : (t.fn? i).map (·.df) = some df := e
      cases q : t.fn? i with
      | none => rw [q] at e; cases e
      | some f =>
        rw [q] at e
        cases e
        have ck := ok.fns f (Txt.fn_fl q)
        simp only [Txt.fnC, Bool.and_eq_true, decide_eq_true_eq] at ck
        have pe : (t.fo Fd).ps i = f.ps := by show (match t.fn? i with | some f => f.ps | none => []) = _; rw [q]
        have ae : (t.gx l.prog w K mg base).fA i = He.fAd K f.d.at_ := by show (match t.fn? i with | some q => He.fAd K q.d.at_ | none => 0) = _; rw [q]
        exact ⟨_, _, _, _, _, _, _, f.N, m, by rw [ae]; exact hF i f q, by rw [pe]; exact scC_ok ck.1.1.1, ck.1.1.2, by rw [pe]; exact ck.1.2, ck.2⟩
    have xt := xtb_ok (P := l.prog) (w := w) (mg := mg) (base := base) kb nb ⟨c.t, c.more, fun p hp => (by cases hp), fun p hp => (by cases hp), fun p hp => (by cases hp)⟩ ok.xs ok.fns Fd hF fun i f e hp => ok.bind i f K (Fd i) e hp (hF i f e)
    have C := (calls_ok (xn := t.xfA) tb xt all k).1.ok li fl.df (by show (t.fn? li).map (·.df) = _; rw [hl]; rfl)
    have ae : (t.gx l.prog w K mg base).fA li = fa := by show (match t.fn? li with | some q => He.fAd K q.d.at_ | none => 0) = _; rw [hl]; exact fe
    rw [ae, psE] at C
    exact C.imp fun vs H Q E z => z base
end RG

end

section
/-! RgWp: what a term must do, from its end: no exception. -/
namespace RG
open PySem L2

def wpO {a : Type} (o : Out a) (Q : a → Mem → Prop) : Prop := match o with
  | .ok x h => Q x h
  | _ => False
def wpF (o : Out Fl) (N : Env → Mem → Prop) (R : D → Mem → Prop) : Prop := match o with
  | .ok (.nx r) h => N r h
  | .ok (.rt d) h => R d h
  | _ => False
theorem wpO.mono {a : Type} {o : Out a} {Q Q' : a → Mem → Prop} (w : wpO o Q) (k : ∀ x h, Q x h → Q' x h) : wpO o Q' := by
  cases o with
  | ok x h => exact k x h w
  | exc x h => exact w
  | stuck => exact w
theorem wpF.mono {o : Out Fl} {N N' : Env → Mem → Prop} {R R' : D → Mem → Prop} (w : wpF o N R) (k : ∀ r h, N r h → N' r h) (k2 : ∀ d h, R d h → R' d h) : wpF o N' R' := by
  cases o with
  | ok x h => cases x with
    | nx r => exact k r h w
    | rt d => exact k2 d h w
    | xc x r => exact w
  | exc x h => exact w
  | stuck => exact w
@[simp] theorem wpO_ok {a : Type} {x : a} {h : Mem} {Q : a → Mem → Prop} : wpO (.ok x h) Q ↔ Q x h := Iff.rfl
@[simp] theorem wpO_stuck {a : Type} {Q : a → Mem → Prop} : wpO (.stuck : Out a) Q ↔ False := Iff.rfl
@[simp] theorem wpF_nx {r : Env} {h : Mem} {N : Env → Mem → Prop} {R : D → Mem → Prop} : wpF (.ok (.nx r) h) N R ↔ N r h := Iff.rfl
@[simp] theorem wpF_rt {d : D} {h : Mem} {N : Env → Mem → Prop} {R : D → Mem → Prop} : wpF (.ok (.rt d) h) N R ↔ R d h := Iff.rfl
@[simp] theorem wpF_stuck {N : Env → Mem → Prop} {R : D → Mem → Prop} : wpF .stuck N R ↔ False := Iff.rfl
@[simp] theorem wpO_bind {a b : Type} {o : Out a} {f : a → Mem → Out b} {Q : b → Mem → Prop} : wpO (o.bind f) Q ↔ wpO o fun x h => wpO (f x h) Q := by cases o <;> exact Iff.rfl
@[simp] theorem wpO_calm {a : Type} {o : Out a} {Q : a → Mem → Prop} : wpO o.calm Q ↔ wpO o Q := by cases o <;> exact Iff.rfl
@[simp] theorem wpF_seq {o : Out Fl} {f : Env → Mem → Out Fl} {N : Env → Mem → Prop} {R : D → Mem → Prop} : wpF (o.seq f) N R ↔ wpF o (fun r h => wpF (f r h) N R) R := by
  cases o with
  | ok x h => cases x <;> exact Iff.rfl
  | exc x h => exact Iff.rfl
  | stuck => exact Iff.rfl
@[simp] theorem wpF_bs {a : Type} {o : Out a} {r : Env} {f : a → Mem → Out Fl} {N : Env → Mem → Prop} {R : D → Mem → Prop} : wpF (o.bs r f) N R ↔ wpO o fun x h => wpF (f x h) N R := by cases o <;> exact Iff.rfl
@[simp] theorem wpF_asgS {o : Out Env} {N : Env → Mem → Prop} {R : D → Mem → Prop} : wpF (asgS o) N R ↔ wpO o N := by cases o <;> exact Iff.rfl
theorem wpO_ite {a : Type} {p : Prop} [Decidable p] {x y : Out a} {Q : a → Mem → Prop} : wpO (if p then x else y) Q ↔ if p then wpO x Q else wpO y Q := by split <;> exact Iff.rfl
theorem wpF_ite {p : Prop} [Decidable p] {x y : Out Fl} {N : Env → Mem → Prop} {R : D → Mem → Prop} : wpF (if p then x else y) N R ↔ if p then wpF x N R else wpF y N R := by split <;> exact Iff.rfl
theorem wpO_out {a : Type} {o : Out a} {Q : a → Mem → Prop} (w : wpO o Q) : ∃ x h, o = .ok x h ∧ Q x h := by
  cases o with
  | ok x h => exact ⟨x, h, rfl, w⟩
  | exc x h => exact w.elim
  | stuck => exact w.elim
theorem wpO_run {t : Tab} {n f : Nat} {ds : List D} {h : Mem} {Q : D → Mem → Prop} {d : Def} (e : t.defs f = some d) (hl : ds.length = d.np)
    (w : wpF (excs (clAt t (run t (n + 1)) (run t n)) d.body (ds.map some ++ List.replicate (d.ns - ds.length) none) h) (fun _ h => Q .non h) Q) : wpO (run t (n + 2) f ds h) Q := by
  unfold run
  rw [e]
  dsimp only
  rw [if_pos hl]
  cases q : excs (clAt t (run t (n + 1)) (run t n)) d.body (ds.map some ++ List.replicate (d.ns - ds.length) none) h with
  | ok x h' =>
    rw [q] at w
    cases x with
    | nx r => exact w
    | rt v => exact w
    | xc x r => exact w.elim
  | exc x h' => rw [q] at w; exact w.elim
  | stuck => rw [q] at w; exact w.elim

/-! ### loops -/
theorem wpF_for {g : D → Env → Mem → Out Env} {b : Env → Mem → Out Fl} {s : Src} {N : Env → Mem → Prop} {R : D → Mem → Prop} (J : List D → Env → Mem → Prop)
    (hs : ∀ l r h, J l r h → s.ok h) (step : ∀ x l r h, J (x :: l) r h → wpO (g x r h) fun r h => wpF (b r h) (J l) R) (fin : ∀ r h, J [] r h → N r h) :
    ∀ (l : List D) (r : Env) (h : Mem), J l r h → wpF (forL g b s l r h) N R
  | [], r, h, j => by
    unfold forL
    rw [if_pos (hs _ _ _ j)]
    exact fin r h j
  | x :: l, r, h, j => by
    unfold forL
    rw [if_pos (hs _ _ _ j)]
    have w := step x l r h j
    cases e : g x r h with
    | ok r1 h1 =>
      rw [e] at w
      show wpF ((b r1 h1).seq fun r h => forL g b s l r h) N R
      rw [wpF_seq]
      exact wpF.mono w (fun r h j => wpF_for J hs step fin l r h j) fun _ _ z => z
    | exc x h1 => rw [e] at w; exact w.elim
    | stuck => rw [e] at w; exact w.elim
/-- a comprehension: J done rest memory -/
theorem wpO_cmp {g : D → Env → Mem → Out Env} {c : Env → Mem → Out Bool} {f : Env → Mem → Out D} {s : Src} {n : Nat} {r0 : Env} {Q : D → Mem → Prop} (J : List D → List D → Mem → Prop)
    (hs : ∀ acc l h, J acc l h → s.ok h ∧ h[n]? = some (.lst acc))
    (step : ∀ acc x l h, J acc (x :: l) h → wpO (g x r0 h) fun r h => wpO (c r h) fun k h => if k then wpO (f r h) fun d h => h[n]? = some (.lst acc) ∧ acc.length < sizeLine ∧ J (acc ++ [d]) l (h.set n (.lst (acc ++ [d]))) else J acc l h)
    (fin : ∀ acc h, J acc [] h → Q (.ref n) h) :
    ∀ (l acc : List D) (h : Mem), J acc l h → wpO (cmpL g c f s n r0 l h) Q
  | [], acc, h, j => by
    unfold cmpL
    rw [if_pos (hs _ _ _ j).1]
    exact fin acc h j
  | x :: l, acc, h, j => by
    unfold cmpL
    rw [if_pos (hs _ _ _ j).1, wpO_bind]
    refine wpO.mono (step acc x l h j) fun r h1 w => ?_
    rw [wpO_bind]
    refine wpO.mono w fun k h2 w => ?_
    cases k with
    | true =>
      rw [if_pos rfl] at w ⊢
      rw [wpO_bind]
      refine wpO.mono w fun d h3 ⟨e, hl, j'⟩ => ?_
      rw [e]
      dsimp only
      rw [if_pos hl]
      exact wpO_cmp J hs step fin l _ _ j'
    | false =>
      rw [if_neg Bool.false_ne_true] at w ⊢
      exact wpO_cmp J hs step fin l _ _ w
/-- while, by a measure -/
theorem wpF_whl {c : Env → Mem → Out Bool} {b : Env → Mem → Out Fl} {N : Env → Mem → Prop} {R : D → Mem → Prop} (J : Nat → Env → Mem → Prop)
    (step : ∀ m r h, J m r h → wpO (c r h) fun k h => if k then wpF (b r h) (fun r h => ∃ m', m' < m ∧ J m' r h) R else N r h) :
    ∀ (m : Nat) (r : Env) (h : Mem), J m r h → wpF (whl c b r h) N R := by
  intro m
  induction m using Nat.strongRecOn with
  | ind m ih =>
    intro r h j
    rw [whl_eq, wpF_bs]
    refine wpO.mono (step m r h j) fun k h1 w => ?_
    cases k with
    | true =>
      rw [if_pos rfl] at w ⊢
      rw [wpF_seq]
      exact wpF.mono w (fun r h ⟨m', hm, j'⟩ => ih m' hm r h j') fun _ _ z => z
    | false =>
      rw [if_neg Bool.false_ne_true] at w ⊢
      exact w
end RG

end

section
/-! RgEq: == and in, by values. -/
namespace RG
open PySem L2
mutual
theorem PD.inj {h : Mem} : ∀ {d : D} {p q : PyData}, PD h d p → PD h d q → p = q
  | _, _, _, .non, .non => rfl
  | _, _, _, .bl _, .bl _ => rfl
  | _, _, _, .int _, .int _ => rfl
  | _, _, _, .str _, .str _ => rfl
  | _, _, _, .tup a, .tup b => by rw [PDs.inj a b]
  | _, _, _, .lst e a, .lst e' b => by
    rw [e] at e'; cases e'; rw [PDs.inj a b]
theorem PDs.inj {h : Mem} : ∀ {l : List D} {p q : List PyData}, PDs h l p → PDs h l q → p = q
  | _, _, _, .nil, .nil => rfl
  | _, _, _, .cons a b, .cons a' b' => by rw [PD.inj a a', PDs.inj b b']
end
theorem eqO_val {h : Mem} {a b : D} {p q : PyData} (pa : PD h a p) (pb : PD h b q) (sa : SeqAt.shaped p = true) (sb : SeqAt.shaped q = true) : eqO h a b = some (PyData.eqv p q) := by
  have x : ∃ p q, PD h a p ∧ PD h b q ∧ SeqAt.shaped p = true ∧ SeqAt.shaped q = true := ⟨p, q, pa, pb, sa, sb⟩
  have i : (eqO h a b).isSome = true := by unfold eqO; rw [dif_pos x]; rfl
  obtain ⟨r, e⟩ := Option.isSome_iff_exists.mp i
  obtain ⟨p', q', h1, h2, _, _, h3⟩ := eqO_some e
  rw [e, h3, PD.inj h1 pa, PD.inj h2 pb]
theorem inO_val {h : Mem} {a b : D} {p : PyData} {q : List PyData} (pa : PD h a p) (pb : PD h b (.list q)) (sa : SeqAt.shaped p = true) (sb : SeqAt.shaped (.list q) = true) : inO h a b = some (q.any fun z => PyData.eqv z p) := by
  have x : ∃ p qs, PD h a p ∧ PD h b (.list qs) ∧ SeqAt.shaped p = true ∧ SeqAt.shaped (.list qs) = true := ⟨p, q, pa, pb, sa, sb⟩
  have i : (inO h a b).isSome = true := by unfold inO; rw [dif_pos x]; rfl
  obtain ⟨r, e⟩ := Option.isSome_iff_exists.mp i
  obtain ⟨p', q', h1, h2, _, _, h3⟩ := inO_some e
  have z := PD.inj h2 pb
  injection z with z
  rw [e, h3, PD.inj h1 pa, z]
theorem PDs.map {h : Mem} {b : Type} {f : b → D} {g : b → PyData} (k : ∀ x, PD h (f x) (g x)) : ∀ l : List b, PDs h (l.map f) (l.map g)
  | [] => .nil
  | x :: l => .cons (k x) (PDs.map k l)
theorem eqvAll_map {b : Type} [DecidableEq b] {g : b → PyData} (k : ∀ x y, PyData.eqv (g x) (g y) = decide (x = y)) : ∀ l m : List b, PyData.eqvAll (l.map g) (m.map g) = decide (l = m)
  | [], [] => rfl
  | [], _ :: _ => rfl
  | _ :: _, [] => rfl
  | x :: l, y :: m => by
    show (PyData.eqv (g x) (g y) && PyData.eqvAll (l.map g) (m.map g)) = _
    rw [k, eqvAll_map k l m]
    by_cases c : x = y <;> by_cases c2 : l = m <;> simp [c, c2]

theorem lay_map {b : Type} {g : b → PyData} (k : ∀ x, PyData.canLay0 (g x) = true) : ∀ l : List b, PyData.canLayAll0 (l.map g) = true
  | [] => rfl
  | x :: l => by
    show (PyData.canLay0 (g x) && PyData.canLayAll0 (l.map g)) = true
    rw [k, lay_map k l]; rfl
theorem dep_map {b : Type} {g : b → PyData} {m : Nat} (k : ∀ x, PyData.depth (g x) ≤ m) : ∀ l : List b, PyData.depthAll (l.map g) ≤ m
  | [] => Nat.zero_le _
  | x :: l => by
    show max (PyData.depth (g x)) (PyData.depthAll (l.map g)) ≤ m
    exact Nat.max_le.mpr ⟨k x, dep_map k l⟩
theorem shaped_list {b : Type} {g : b → PyData} {m : Nat} (hm : m < 64) (k : ∀ x, PyData.canLay0 (g x) = true) (k2 : ∀ x, PyData.depth (g x) ≤ m) (l : List b) : SeqAt.shaped (.list (l.map g)) = true := by
  unfold SeqAt.shaped
  have h1 : PyData.canLay0 (.list (l.map g)) = true := lay_map k l
  have h2 : PyData.depth (.list (l.map g)) ≤ 64 := by show PyData.depthAll (l.map g) + 1 ≤ 64; have := dep_map k2 l; omega
  rw [h1]
  simp [h2]
/-- lists of truths -/
theorem eqO_bls {h : Mem} {n m : Nat} {xs ys : List Bool} (e1 : rd h n = some (xs.map .bl)) (e2 : rd h m = some (ys.map .bl)) : eqO h (.ref n) (.ref m) = some (decide (xs = ys)) := by
  rw [eqO_val (.lst e1 (PDs.map (g := PyData.bool) PD.bl xs)) (.lst e2 (PDs.map (g := PyData.bool) PD.bl ys)) (shaped_list (m := 0) (by omega) (fun _ => rfl) (fun _ => Nat.le_refl _) xs) (shaped_list (m := 0) (by omega) (fun _ => rfl) (fun _ => Nat.le_refl _) ys)]
  show some (PyData.eqvAll _ _) = _
  rw [eqvAll_map (fun x y => by cases x <;> cases y <;> rfl)]
theorem eqO_nil {h : Mem} {n m : Nat} {xs : List Int} (e1 : rd h n = some (xs.map .int)) (e2 : rd h m = some []) : eqO h (.ref n) (.ref m) = some (decide (xs = [])) := by
  rw [eqO_val (.lst e1 (PDs.map (g := PyData.int) PD.int xs)) (.lst e2 .nil) (shaped_list (m := 0) (by omega) (fun _ => rfl) (fun _ => Nat.le_refl _) xs) (by rfl)]
  cases xs <;> rfl
theorem eqO_str {h : Mem} {s t : List Nat} (k1 : SeqAt.shaped (.str ⟨s.toArray⟩) = true) (k2 : SeqAt.shaped (.str ⟨t.toArray⟩) = true) : eqO h (.str s) (.str t) = some (decide (s = t)) := by
  rw [eqO_val (.str s) (.str t) k1 k2]
  show some ((⟨s.toArray⟩ : Str) == ⟨t.toArray⟩) = _
  congr 1
  by_cases c : s = t
  · subst c; simp
  · rw [decide_eq_false c]
    exact beq_eq_false_iff_ne.mpr fun z => c (by have := congrArg Str.cps z; simpa using this)
theorem eqO_bl {h : Mem} {a b : Bool} : eqO h (.bl a) (.bl b) = some (decide (a = b)) := by
  rw [eqO_val (.bl a) (.bl b) rfl rfl]
  cases a <;> cases b <;> rfl
theorem eqO_int {h : Mem} {a b : Int} : eqO h (.int a) (.int b) = some (decide (a = b)) := by
  rw [eqO_val (.int a) (.int b) rfl rfl]
  show some (a == b) = _
  congr 1
theorem inO_bl {h : Mem} {b : Bool} {n : Nat} {xs : List Bool} (e : rd h n = some (xs.map .bl)) : inO h (.bl b) (.ref n) = some (decide (b ∈ xs)) := by
  rw [inO_val (.bl b) (.lst e (PDs.map (g := PyData.bool) PD.bl xs)) rfl (shaped_list (m := 0) (by omega) (fun _ => rfl) (fun _ => Nat.le_refl _) xs)]
  congr 1
  rw [List.any_map]
  apply Bool.eq_iff_iff.mpr
  have e : ((fun z => PyData.eqv z (.bool b)) ∘ PyData.bool) = fun x => x == b := rfl
  rw [e]
  simp
theorem inO_str {h : Mem} {s : List Nat} {n : Nat} {xs : List (List Nat)} (e : rd h n = some (xs.map .str)) (k1 : SeqAt.shaped (.str ⟨s.toArray⟩) = true) (k2 : SeqAt.shaped (.list (xs.map fun x => PyData.str ⟨x.toArray⟩)) = true) : inO h (.str s) (.ref n) = some (decide (s ∈ xs)) := by
  rw [inO_val (.str s) (.lst e (PDs.map (g := fun x => PyData.str ⟨x.toArray⟩) PD.str xs)) k1 k2]
  congr 1
  rw [List.any_map]
  apply Bool.eq_iff_iff.mpr
  have e : ((fun z => PyData.eqv z (.str ⟨s.toArray⟩)) ∘ fun x => PyData.str ⟨x.toArray⟩) = fun x : List Nat => ((⟨x.toArray⟩ : Str) == ⟨s.toArray⟩) := rfl
  rw [e]
  simp only [List.any_eq_true, decide_eq_true_eq]
  constructor
  · rintro ⟨x, hx, q⟩
    have q := eq_of_beq q
    have q : x = s := by have := congrArg Str.cps q; simpa using this
    rw [← q]; exact hx
  · intro hx
    exact ⟨s, hx, by simp⟩
mutual
theorem eqv_refl : ∀ d : PyData, d.canLay0 = true → PyData.eqv d d = true
  | .none, _ => rfl
  | .bool b, _ => by cases b <;> rfl
  | .int i, _ => by show (i == i) = true; simp
  | .str x, _ => by show (x == x) = true; simp
  | .list xs, h => eqvAll_refl xs h
  | .tuple xs, h => eqvAll_refl xs h
  | .dict _, h => by cases h
theorem eqvAll_refl : ∀ l : List PyData, PyData.canLayAll0 l = true → PyData.eqvAll l l = true
  | [], _ => rfl
  | x :: l, h => by
    have h : (PyData.canLay0 x && PyData.canLayAll0 l) = true := h
    rw [Bool.and_eq_true] at h
    show (PyData.eqv x x && PyData.eqvAll l l) = true
    rw [eqv_refl x h.1, eqvAll_refl l h.2]; rfl
end
end RG

end

section
/-! RgPre: memories that only grow. -/
namespace RG
open PySem L2

theorem pre_at {h h' : Mem} (p : h <+: h') {i : Nat} {o : O} (e : h[i]? = some o) : h'[i]? = some o := by
  obtain ⟨x, rfl⟩ := p
  obtain ⟨hl, _⟩ := List.getElem?_eq_some_iff.mp e
  rw [List.getElem?_append_left hl]; exact e
theorem pre_rd {h h' : Mem} (p : h <+: h') {i : Nat} {l : List D} (e : rd h i = some l) : rd h' i = some l := by
  unfold rd at e ⊢
  cases q : h[i]? with
  | none => rw [q] at e; cases e
  | some o => rw [pre_at p q]; rw [q] at e; exact e
theorem pre_ok {h h' : Mem} (p : h <+: h') {s : Src} (e : s.ok h) : s.ok h' := fun g hg => pre_rd p (e g hg)
theorem pre_set {h h' : Mem} (p : h <+: h') {i : Nat} (hi : h.length ≤ i) (o : O) : h <+: h'.set i o := by
  obtain ⟨x, rfl⟩ := p
  rw [List.set_append_right _ _ hi]
  exact List.prefix_append _ _
theorem pre_app (h : Mem) (x : List O) : h <+: h ++ x := List.prefix_append _ _
theorem pre_len {h h' : Mem} (p : h <+: h') : h.length ≤ h'.length := p.length_le
theorem rd_at {h : Mem} {i : Nat} {l : List D} (e : h[i]? = some (.lst l)) : rd h i = some l := by unfold rd; rw [e]
theorem at_rd {h : Mem} {i : Nat} {l : List D} (e : rd h i = some l) : h[i]? = some (.lst l) := by
  unfold rd at e
  split at e
  · rename_i q; cases e; exact q
  · cases e
theorem set_at {h : Mem} {i : Nat} {o o' : O} (e : h[i]? = some o) : (h.set i o')[i]? = some o' := by
  obtain ⟨hl, _⟩ := List.getElem?_eq_some_iff.mp e
  exact List.getElem?_set_self hl
theorem set_ne {h : Mem} {i j : Nat} {o' : O} (n : i ≠ j) : (h.set i o')[j]? = h[j]? := List.getElem?_set_ne n
/-- a comprehension whose parts only grow the memory -/
theorem cmp_pre {g : D → Env → Mem → Out Env} {c : Env → Mem → Out Bool} {f : Env → Mem → Out D} {s : Src} {h0 : Mem} {r0 : Env} (val : D → D) (keep : D → Bool) (items : List D) (hs : s.ok h0) (hz : items.length ≤ sizeLine)
    (step : ∀ x ∈ items, ∀ h, h0 <+: h → wpO (g x r0 h) fun r h1 => h1 = h ∧ wpO (c r h) fun k h2 => h <+: h2 ∧ k = keep x ∧ (k = true → wpO (f r h2) fun d h3 => h2 <+: h3 ∧ d = val x)) :
    wpO (cmpL g c f s h0.length r0 items (h0 ++ [.lst []])) fun d h => d = .ref h0.length ∧ h0 <+: h ∧ h[h0.length]? = some (.lst ((items.filter keep).map val)) := by
  have key : ∀ (l done : List D) (h : Mem), done ++ l = items → h0 <+: h → h[h0.length]? = some (.lst ((done.filter keep).map val)) → wpO (cmpL g c f s h0.length r0 l h) fun d h => d = .ref h0.length ∧ h0 <+: h ∧ h[h0.length]? = some (.lst ((items.filter keep).map val)) := by
    intro l
    induction l with
    | nil =>
      intro done h e p q
      unfold cmpL
      rw [if_pos (pre_ok p hs)]
      rw [List.append_nil] at e
      subst e
      exact ⟨rfl, p, q⟩
    | cons x l ih =>
      intro done h e p q
      unfold cmpL
      rw [if_pos (pre_ok p hs), wpO_bind]
      have hx : x ∈ items := by rw [← e]; simp
      refine wpO.mono (step x hx h p) fun r h1 ⟨e1, w⟩ => ?_
      subst e1
      rw [wpO_bind]
      refine wpO.mono w fun k h2 ⟨p2, ek, w⟩ => ?_
      cases k with
      | true =>
        rw [if_pos rfl, wpO_bind]
        refine wpO.mono (w rfl) fun d h3 ⟨p3, ed⟩ => ?_
        subst ed
        rw [pre_at p3 (pre_at p2 q)]
        dsimp only
        have hl : ((done.filter keep).map val).length < sizeLine := by
          rw [List.length_map]
          have := List.length_filter_le keep done
          have : done.length + (l.length + 1) = items.length := by rw [← e]; simp
          omega
        rw [if_pos hl]
        refine ih (done ++ [x]) _ (by rw [← e]; simp) (pre_set (p.trans (p2.trans p3)) (Nat.le_refl _) _) ?_
        rw [set_at (pre_at p3 (pre_at p2 q))]
        rw [List.filter_append, List.map_append]
        simp [← ek]
      | false =>
        rw [if_neg Bool.false_ne_true]
        refine ih (done ++ [x]) _ (by rw [← e]; simp) (p.trans p2) ?_
        rw [pre_at p2 q, List.filter_append, List.map_append]
        simp [← ek]
  refine key items [] _ rfl (pre_app _ _) ?_
  simp
theorem blsOf_map : ∀ l : List Bool, blsOf (l.map .bl) = some l
  | [] => rfl
  | b :: l => by show (blsOf (l.map .bl)).map (b :: ·) = _; rw [blsOf_map l]; rfl
theorem intsOf_map : ∀ l : List Int, intsOf (l.map .int) = some l
  | [] => rfl
  | b :: l => by show (intsOf (l.map .int)).map (b :: ·) = _; rw [intsOf_map l]; rfl
theorem P_all {h : Mem} {n : Nat} {l : List Bool} (e : rd h n = some (l.map .bl)) : evP .all [.ref n] h = .ok (.bl (l.all id)) h := by
  have : evP .all [.ref n] h = (match rd h n with | some l => (match blsOf l with | some bs => Out.ok (D.bl (bs.all id)) h | none => .stuck) | none => .stuck) := rfl
  rw [this, e]
  dsimp only
  rw [blsOf_map]
end RG

end

section
/-! RgWp2: the rules of each term. -/
namespace RG
open PySem L2
section
variable {c : Cl} {r : Env} {h : Mem} {Q : D → Mem → Prop} {N : Env → Mem → Prop} {R : D → Mem → Prop}
theorem wv_var {i : Nat} : wpO (ev c (.var i) r h) Q ↔ (match r[i]? with | some (some d) => Q d h | _ => False) := by
  simp only [ev]
  cases r[i]? with
  | none => exact Iff.rfl
  | some o => cases o <;> exact Iff.rfl
theorem wv_cst {d : D} : wpO (ev c (.cst d) r h) Q ↔ Q d h := by simp only [ev, wpO_ok]
theorem wv_glo {g : Nat} : wpO (ev c (.glo g) r h) Q ↔ (match c.t.glo g with | some d => Q d h | none => False) := by
  simp only [ev]
  cases c.t.glo g <;> exact Iff.rfl
theorem wv_pr {p : P} {as : Es} : wpO (ev c (.pr p as) r h) Q ↔ wpO (evs c as r h) fun ds h => wpO (evP p ds h) Q := by simp only [ev, wpO_bind]
theorem ws_nil {Q : List D → Mem → Prop} : wpO (evs c .nil r h) Q ↔ Q [] h := by simp only [evs, wpO_ok]
theorem ws_cons {Q : List D → Mem → Prop} {e : E} {es : Es} : wpO (evs c (.cons e es) r h) Q ↔ wpO (ev c e r h) fun d h => wpO (evs c es r h) fun ds h => Q (d :: ds) h := by simp only [evs, wpO_bind, wpO_ok]
theorem wv_and {a b : E} : wpO (ev c (.and a b) r h) Q ↔ wpO (ev c a r h) fun d h => wpO (tru d h) fun k h => if k then wpO (ev c b r h) Q else Q d h := by simp only [ev, wpO_bind, wpO_ite, wpO_ok]
theorem wv_or {a b : E} : wpO (ev c (.or a b) r h) Q ↔ wpO (ev c a r h) fun d h => wpO (tru d h) fun k h => if k then Q d h else wpO (ev c b r h) Q := by simp only [ev, wpO_bind, wpO_ite, wpO_ok]
theorem wv_not {a : E} : wpO (ev c (.not a) r h) Q ↔ wpO (ev c a r h) fun d h => wpO (tru d h) fun k h => Q (.bl (!k)) h := by simp only [ev, wpO_bind, wpO_ok]
theorem wv_ite {t a b : E} : wpO (ev c (.ite t a b) r h) Q ↔ wpO (ev c t r h) fun d h => wpO (tru d h) fun k h => if k then wpO (ev c a r h) Q else wpO (ev c b r h) Q := by simp only [ev, wpO_bind, wpO_ite]
theorem wv_chain {p q : P} {x y z : E} : wpO (ev c (.chain p q x y z) r h) Q ↔ wpO (ev c x r h) fun dx h => wpO (ev c y r h) fun dy h => wpO (evP p [dx, dy] h) fun k h => match k with
    | .bl b => if b then wpO (ev c z r h) fun dz h => wpO (evP q [dy, dz] h) Q else Q (.bl false) h
    | _ => False := by
  simp only [ev, wpO_bind]
  have e : ∀ (dy k : D) (h : Mem), wpO (match k with
      | .bl true => (ev c z r h).bind fun dz h => evP q [dy, dz] h
      | .bl false => .ok (.bl false) h
      | _ => .stuck) Q ↔ (match k with
      | .bl b => if b then wpO (ev c z r h) fun dz h => wpO (evP q [dy, dz] h) Q else Q (.bl false) h
      | _ => False) := fun dy k h => by
    cases k with
    | bl b => cases b <;> simp only [wpO_bind, wpO_ok, if_true, if_false, Bool.false_eq_true]
    | _ => exact Iff.rfl
  simp only [← e] <;> exact Iff.rfl
theorem wv_tup {as : Es} : wpO (ev c (.tup as) r h) Q ↔ wpO (evs c as r h) fun ds h => if ds.length ≤ sizeLine then Q (.tup ds) h else False := by simp only [ev, wpO_bind, wpO_ite, wpO_ok, wpO_stuck]
theorem wv_lst {as : Es} : wpO (ev c (.lst as) r h) Q ↔ wpO (evs c as r h) fun ds h => if ds.length ≤ sizeLine then Q (.ref h.length) (h ++ [.lst ds]) else False := by simp only [ev, wpO_bind, wpO_ite, wpO_ok, wpO_stuck, new]
theorem wv_call {f : Nat} {as : Es} : wpO (ev c (.call f as) r h) Q ↔ wpO (evs c as r h) fun ds h => wpO (c.cal f ds h) Q := by simp only [ev, wpO_bind]
theorem wv_callP {f : Nat} {as : Es} {pk : List Nat} {dd : List D} : wpO (ev c (.callP f as pk dd) r h) Q ↔ wpO (evs c as r h) fun ds h => match pickO (ds ++ dd) pk with | some zs => wpO (c.cal f zs h) Q | none => False := by
  simp only [ev, wpO_bind]
  have e : ∀ (ds : List D) (h : Mem), wpO (match pickO (ds ++ dd) pk with | some zs => c.cal f zs h | none => .stuck) Q ↔ (match pickO (ds ++ dd) pk with | some zs => wpO (c.cal f zs h) Q | none => False) := fun ds h => by split <;> exact Iff.rfl
  simp only [← e] <;> exact Iff.rfl
theorem wv_comp {ts : List Nat} {one : Bool} {src : I} {cond : C} {elt : E} {vs : List Nat} : wpO (ev c (.comp ts one src cond elt vs) r h) Q ↔ wpO (evI c src r h) fun s h =>
    wpO (cmpL (fun d r h => cTarget ts one d r h) (fun r h => (evC c cond r h).calm) (fun r h => (ev c elt r h).calm) s h.length (wipeE r vs) s.items (h ++ [.lst []])) Q := by simp only [ev, wpO_bind]
theorem wv_fld {o : E} {f : Nat} : wpO (ev c (.fld o f) r h) Q ↔ wpO (ev c o r h) fun d h => match d with
    | .ref n => (match h[n]? with
      | some (.ins k fs) => if c.t.fld k f then (match fget f fs with
        | some v => Q v h
        | none => False) else False
      | _ => False)
    | _ => False := by
  simp only [ev, wpO_bind]
  have e : ∀ (d : D) (h : Mem), wpO (match d with
    | .ref n => match h[n]? with
      | some (.ins k fs) => if c.t.fld k f then (match fget f fs with
        | some v => .ok v h
        | none => .stuck) else .stuck
      | _ => .stuck
    | _ => .stuck) Q ↔ (match d with
    | .ref n => (match h[n]? with
      | some (.ins k fs) => if c.t.fld k f then (match fget f fs with
        | some v => Q v h
        | none => False) else False
      | _ => False)
    | _ => False) := fun d h => by
    cases d with
    | ref n =>
      dsimp only
      split
      · split
        · split <;> exact Iff.rfl
        · exact Iff.rfl
      · exact Iff.rfl
    | _ => exact Iff.rfl
  simp only [← e] <;> exact Iff.rfl
theorem wv_lm {p : P} {o : E} {as : Es} : wpO (ev c (.lm p o as) r h) Q ↔ wpO (ev c o r h) fun d h => match d with
    | .ref n => (match rd h n with
      | some _ => wpO (evs c as r h) fun ds h => wpO (evP p (d :: ds) h) Q
      | none => False)
    | _ => False := by
  simp only [ev, wpO_bind]
  have e : ∀ (d : D) (h : Mem), wpO (match d with
    | .ref n => match rd h n with
      | some _ => (evs c as r h).bind fun ds h => evP p (d :: ds) h
      | none => .stuck
    | _ => .stuck) Q ↔ (match d with
    | .ref n => (match rd h n with
      | some _ => wpO (evs c as r h) fun ds h => wpO (evP p (d :: ds) h) Q
      | none => False)
    | _ => False) := fun d h => by
    cases d with
    | ref n =>
      dsimp only
      split
      · rw [wpO_bind]
      · exact Iff.rfl
    | _ => exact Iff.rfl
  simp only [← e] <;> exact Iff.rfl
theorem wv_meth {m : Nat} {o : E} {as : Es} : wpO (ev c (.meth m o as) r h) Q ↔ wpO (ev c o r h) fun d h => match d with
    | .ref n => (match h[n]? with
      | some (.ins k _) => (match c.t.meth k m with
        | some f => wpO (evs c as r h) fun ds h => wpO (c.cal f (d :: ds) h) Q
        | none => False)
      | _ => False)
    | _ => False := by
  simp only [ev, wpO_bind]
  have e : ∀ (d : D) (h : Mem), wpO (match d with
    | .ref n => match h[n]? with
      | some (.ins k _) => match c.t.meth k m with
        | some f => (evs c as r h).bind fun ds h => c.cal f (d :: ds) h
        | none => .stuck
      | _ => .stuck
    | _ => .stuck) Q ↔ (match d with
    | .ref n => (match h[n]? with
      | some (.ins k _) => (match c.t.meth k m with
        | some f => wpO (evs c as r h) fun ds h => wpO (c.cal f (d :: ds) h) Q
        | none => False)
      | _ => False)
    | _ => False) := fun d h => by
    cases d with
    | ref n =>
      dsimp only
      split
      · split
        · rw [wpO_bind]
        · exact Iff.rfl
      · exact Iff.rfl
    | _ => exact Iff.rfl
  simp only [← e] <;> exact Iff.rfl
/-- len of what is no instance -/
theorem wv_len {o : E} (w : wpO (ev c o r h) fun d h => (∀ n k fs, d = .ref n → h[n]? ≠ some (.ins k fs)) ∧ wpO (evP .len [d] h) Q) : wpO (ev c (.len o) r h) Q := by
  simp only [ev, wpO_bind]
  refine wpO.mono w fun d h ⟨hn, w⟩ => ?_
  cases d with
  | ref n =>
    dsimp only
    split
    · rename_i k fs e
      exact absurd e (hn n k fs rfl)
    · exact w
  | _ => exact w
/-! walks -/
theorem wI_of {Q : Src → Mem → Prop} {e : E} : wpO (evI c (.of e) r h) Q ↔ wpO (ev c e r h) fun d h => match srcS d h with | some s => Q s h | none => False := by
  simp only [evI, wpO_bind]
  have e : ∀ (d : D) (h : Mem), wpO (match srcS d h with | some s => .ok s h | none => .stuck) Q ↔ (match srcS d h with | some s => Q s h | none => False) := fun d h => by split <;> exact Iff.rfl
  simp only [← e] <;> exact Iff.rfl
theorem wI_rng1 {Q : Src → Mem → Prop} {e : E} (w : wpO (ev c e r h) fun d h => ∃ j : Int, d = .int j ∧ -(2 ^ 62) ≤ j ∧ j < 2 ^ 62 ∧ Q ⟨rngD 0 j.toNat, []⟩ h) : wpO (evI c (.rng1 e) r h) Q := by
  simp only [evI, wpO_bind]
  refine wpO.mono w fun d h ⟨j, e, h1, h2, q⟩ => ?_
  subst e
  dsimp only
  rw [if_pos ⟨h1, h2⟩]
  exact q
theorem wI_enum {Q : Src → Mem → Prop} {e : E} (w : wpO (ev c e r h) fun d h => ∃ n l, d = .ref n ∧ rd h n = some l ∧ Q ⟨enumD l, [(n, l)]⟩ h) : wpO (evI c (.enum e) r h) Q := by
  simp only [evI, wpO_bind]
  refine wpO.mono w fun d h ⟨n, l, e, h1, q⟩ => ?_
  subst e
  dsimp only
  rw [h1]
  exact q
theorem wC_yes {Q : Bool → Mem → Prop} : wpO (evC c .yes r h) Q ↔ Q true h := by simp only [evC, wpO_ok]
theorem wC_test {Q : Bool → Mem → Prop} {e : E} : wpO (evC c (.test e) r h) Q ↔ wpO (ev c e r h) fun d h => wpO (tru d h) Q := by simp only [evC, wpO_bind]
/-! targets, statements -/
theorem wg_nm {i : Nat} {d : D} {Q : Env → Mem → Prop} : wpO (asg c (.nm i) d r h) Q ↔ Q (r.set i (some d)) h := by simp only [asg, wpO_ok]
theorem wg_tupT {ts : Ts} {l : List D} {Q : Env → Mem → Prop} : wpO (asg c (.tup ts) (.tup l) r h) Q ↔ wpO (asgs c ts l r h) Q := by simp only [asg]
theorem wg_tupR {ts : Ts} {n : Nat} {l : List D} (e : rd h n = some l) {Q : Env → Mem → Prop} : wpO (asg c (.tup ts) (.ref n) r h) Q ↔ wpO (asgs c ts l r h) Q := by simp only [asg, e]
theorem wgs_nil {Q : Env → Mem → Prop} : wpO (asgs c .nil [] r h) Q ↔ Q r h := by simp only [asgs, wpO_ok]
theorem wgs_cons {t : T} {ts : Ts} {d : D} {ds : List D} {Q : Env → Mem → Prop} : wpO (asgs c (.cons t ts) (d :: ds) r h) Q ↔ wpO (asg c t d r h) fun r h => wpO (asgs c ts ds r h) Q := by simp only [asgs, wpO_bind]
theorem wS_asg {t : T} {e : E} : wpF (exc c (.asg t e) r h) N R ↔ wpO (ev c e r h) fun d h => wpO (asg c t d r h) N := by simp only [exc, wpF_bs, wpF_asgS]
theorem wS_ex {e : E} : wpF (exc c (.ex e) r h) N R ↔ wpO (ev c e r h) fun _ h => N r h := by simp only [exc, wpF_bs, wpF_nx]
theorem wS_ret {e : E} : wpF (exc c (.ret e) r h) N R ↔ wpO (ev c e r h) R := by simp only [exc, wpF_bs, wpF_rt]
theorem wS_iff {t : E} {a b : Ss} : wpF (exc c (.iff t a b) r h) N R ↔ wpO (ev c t r h) fun d h => wpO (tru d h) fun k h => if k then wpF (excs c a r h) N R else wpF (excs c b r h) N R := by simp only [exc, wpF_bs, wpF_ite]
theorem wS_for {t : T} {src : I} {b : Ss} : wpF (exc c (.foor t src b) r h) N R ↔ wpO (evI c src r h) fun s h => wpF (forL (fun d r h => asg c t d r h) (fun r h => excs c b r h) s s.items r h) N R := by simp only [exc, wpF_bs]
theorem wS_whl {t : E} {b : Ss} : wpF (exc c (.whl t b) r h) N R ↔ wpF (whl (fun r h => (ev c t r h).bind fun d h => tru d h) (fun r h => excs c b r h) r h) N R := by simp only [exc]
theorem wSs_nil : wpF (excs c .nil r h) N R ↔ N r h := by simp only [excs, wpF_nx]
theorem wSs_cons {s : S} {ss : Ss} : wpF (excs c (.cons s ss) r h) N R ↔ wpF (exc c s r h) (fun r h => wpF (excs c ss r h) N R) R := by simp only [excs, wpF_seq]
/-- a try whose body raises nothing -/
theorem wS_try0 {b : Ss} {k : Nat} {i : Option Nat} {hb : HB} (w : wpF (excs c b r h) N R) : wpF (exc c (.try1 b k i hb) r h) N R := by
  simp only [exc]
  cases e : excs c b r h with
  | ok f h' =>
    rw [e] at w
    cases f with
    | nx r' => exact w
    | rt d => exact w
    | xc x r' => exact w.elim
  | exc x h' => rw [e] at w; exact w.elim
  | stuck => rw [e] at w; exact w.elim
/-- one whose body raises -/
theorem wS_tryX {b : Ss} {k j : Nat} {i : Option Nat} {hb : HB} {x : D} {r' : Env} {h' : Mem} (e : excs c b r h = .ok (.xc (.exc j x) r') h') (h1 : c.t.sub j j = true) (h2 : c.t.sub k k = true) (h3 : c.t.sub j k = true) (h4 : inB i r' = true)
    (w : wpO (hbV c.t hb j x h') fun d h => wpF (.ok (hbF hb d (gone i r')) h) N R) : wpF (exc c (.try1 b k i hb) r h) N R := by
  simp only [exc]
  rw [e]
  unfold tryF
  dsimp only
  rw [if_pos ⟨h1, h2, h4⟩, if_pos h3]
  cases q : hbV c.t hb j x h' with
  | ok d h2 => rw [q] at w; exact w
  | exc _ _ => rw [q] at w; exact w.elim
  | stuck => rw [q] at w; exact w.elim
theorem wv_lenI {o : E} : wpO (ev c (.len o) r h) Q ↔ wpO (ev c o r h) fun d h => match d with
    | .ref n => (match h[n]? with
      | some (.ins k _) => (match c.t.meth k 0 with
        | some f => wpO (c.ini f [d] h) fun v h => (match v with
          | .int i => if 0 ≤ i ∧ i < 2 ^ 63 then Q (.int i) h else False
          | _ => False)
        | none => False)
      | _ => wpO (evP .len [d] h) Q)
    | _ => wpO (evP .len [d] h) Q := by
  simp only [ev, wpO_bind]
  have e : ∀ (d : D) (h : Mem), wpO (match d with
    | .ref n => match h[n]? with
      | some (.ins k _) => match c.t.meth k 0 with
        | some f => (c.ini f [d] h).bind fun v h => match v with
          | .int i => if 0 ≤ i ∧ i < 2 ^ 63 then .ok (.int i) h else .stuck
          | _ => .stuck
        | none => .stuck
      | _ => evP .len [d] h
    | _ => evP .len [d] h) Q ↔ (match d with
    | .ref n => (match h[n]? with
      | some (.ins k _) => (match c.t.meth k 0 with
        | some f => wpO (c.ini f [d] h) fun v h => (match v with
          | .int i => if 0 ≤ i ∧ i < 2 ^ 63 then Q (.int i) h else False
          | _ => False)
        | none => False)
      | _ => wpO (evP .len [d] h) Q)
    | _ => wpO (evP .len [d] h) Q) := fun d h => by
    cases d with
    | ref n =>
      dsimp only
      split
      · split
        · rw [wpO_bind]
          have e2 : ∀ (v : D) (h : Mem), wpO (match v with
            | .int i => if 0 ≤ i ∧ i < 2 ^ 63 then .ok (.int i) h else .stuck
            | _ => .stuck) Q ↔ (match v with
            | .int i => if 0 ≤ i ∧ i < 2 ^ 63 then Q (.int i) h else False
            | _ => False) := fun v h => by
            cases v with
            | int i => dsimp only; split <;> exact Iff.rfl
            | _ => exact Iff.rfl
          simp only [← e2]
        · exact Iff.rfl
      · exact Iff.rfl
    | _ => exact Iff.rfl
  simp only [← e] <;> exact Iff.rfl
theorem w_bl {b : Bool} {h : Mem} {Q : Bool → Mem → Prop} : wpO (tru (.bl b) h) Q ↔ Q b h := Iff.rfl
end
end RG

end

section
/-! RgWpX: the same with exceptions. -/
namespace RG
open PySem L2
def wpX (o : Out Fl) (N : Env → Mem → Prop) (R : D → Mem → Prop) (X : D → Env → Mem → Prop) : Prop := match o with
  | .ok (.nx r) h => N r h
  | .ok (.rt d) h => R d h
  | .ok (.xc x r) h => X x r h
  | _ => False
def wpR (o : Out D) (Q : D → Mem → Prop) (E : D → Mem → Prop) : Prop := match o with
  | .ok d h => Q d h
  | .exc x h => E x h
  | .stuck => False
section
variable {c : Cl} {r : Env} {h : Mem} {N : Env → Mem → Prop} {R : D → Mem → Prop} {X : D → Env → Mem → Prop} {Q : D → Mem → Prop} {Er : D → Mem → Prop}
theorem wpX.mono {o : Out Fl} {N' : Env → Mem → Prop} {R' : D → Mem → Prop} {X' : D → Env → Mem → Prop} (w : wpX o N R X) (k : ∀ r h, N r h → N' r h) (k2 : ∀ d h, R d h → R' d h) (k3 : ∀ x r h, X x r h → X' x r h) : wpX o N' R' X' := by
  cases o with
  | ok x h => cases x with
    | nx r => exact k r h w
    | rt d => exact k2 d h w
    | xc x r => exact k3 x r h w
  | exc x h => exact w
  | stuck => exact w
theorem wpR.mono {o : Out D} {Q' E' : D → Mem → Prop} (w : wpR o Q Er) (k : ∀ d h, Q d h → Q' d h) (k2 : ∀ d h, Er d h → E' d h) : wpR o Q' E' := by
  cases o with
  | ok x h => exact k x h w
  | exc x h => exact k2 x h w
  | stuck => exact w
theorem wpX_F {o : Out Fl} (w : wpF o N R) : wpX o N R X := by
  cases o with
  | ok x h => cases x with
    | nx r => exact w
    | rt d => exact w
    | xc x r => exact w.elim
  | exc x h => exact w.elim
  | stuck => exact w.elim
theorem wpX_seq {o : Out Fl} {f : Env → Mem → Out Fl} (w : wpX o (fun r h => wpX (f r h) N R X) R X) : wpX (o.seq f) N R X := by
  cases o with
  | ok x h => cases x <;> exact w
  | exc x h => exact w
  | stuck => exact w
theorem wX_nil (w : N r h) : wpX (excs c .nil r h) N R X := by simp only [excs]; exact w
theorem wX_cons {s : S} {ss : Ss} (w : wpX (exc c s r h) (fun r h => wpX (excs c ss r h) N R X) R X) : wpX (excs c (.cons s ss) r h) N R X := by simp only [excs]; exact wpX_seq w
theorem wX_consF {s : S} {ss : Ss} (w : wpF (exc c s r h) (fun r h => wpX (excs c ss r h) N R X) R) : wpX (excs c (.cons s ss) r h) N R X := wX_cons (wpX_F w)
theorem wX_iff {t : E} {a b : Ss} (w : wpO (ev c t r h) fun d h => wpO (tru d h) fun k h => if k then wpX (excs c a r h) N R X else wpX (excs c b r h) N R X) : wpX (exc c (.iff t a b) r h) N R X := by
  simp only [exc]
  cases e : ev c t r h with
  | ok d h1 =>
    rw [e] at w
    have w : wpO (tru d h1) fun k h => if k then wpX (excs c a r h) N R X else wpX (excs c b r h) N R X := w
    simp only [Out.bs]
    cases e2 : tru d h1 with
    | ok k h2 =>
      rw [e2] at w
      have w : if k then wpX (excs c a r h2) N R X else wpX (excs c b r h2) N R X := w
      simp only [Out.bs]
      cases k with
      | true => exact w
      | false => exact w
    | exc x h2 => rw [e2] at w; exact w.elim
    | stuck => rw [e2] at w; exact w.elim
  | exc x h1 => rw [e] at w; exact w.elim
  | stuck => rw [e] at w; exact w.elim
theorem wX_rse {k : Nat} {e : E} (w : wpO (ev c e r h) fun d h => X (.exc k d) r h) : wpX (exc c (.rse k e) r h) N R X := by
  simp only [exc]
  cases e1 : ev c e r h with
  | ok d h1 => rw [e1] at w; exact w
  | exc x h1 => rw [e1] at w; exact w.elim
  | stuck => rw [e1] at w; exact w.elim
/-- an expression statement that may raise -/
theorem wX_ex {e : E} (w : wpR (ev c e r h) (fun _ h => N r h) fun x h => X x r h) : wpX (exc c (.ex e) r h) N R X := by
  simp only [exc]
  cases e1 : ev c e r h with
  | ok d h1 => rw [e1] at w; exact w
  | exc x h1 => rw [e1] at w; exact w
  | stuck => rw [e1] at w; exact w.elim
theorem wX_set {i : Nat} {e : E} (w : wpR (ev c e r h) (fun d h => N (r.set i (some d)) h) fun x h => X x r h) : wpX (exc c (.asg (.nm i) e) r h) N R X := by
  simp only [exc]
  cases e1 : ev c e r h with
  | ok d h1 => rw [e1] at w; simp only [Out.bs, asg, asgS]; exact w
  | exc x h1 => rw [e1] at w; exact w
  | stuck => rw [e1] at w; exact w.elim
theorem wpX_forL {g : D → Env → Mem → Out Env} {b : Env → Mem → Out Fl} {s : Src} (J : List D → Env → Mem → Prop)
    (hs : ∀ l r h, J l r h → s.ok h) (step : ∀ x l r h, J (x :: l) r h → wpO (g x r h) fun r h => wpX (b r h) (J l) R X) (fin : ∀ r h, J [] r h → N r h) :
    ∀ (l : List D) (r : Env) (h : Mem), J l r h → wpX (forL g b s l r h) N R X
  | [], r, h, j => by
    unfold forL
    rw [if_pos (hs _ _ _ j)]
    exact fin r h j
  | x :: l, r, h, j => by
    unfold forL
    rw [if_pos (hs _ _ _ j)]
    have w := step x l r h j
    cases e : g x r h with
    | ok r1 h1 =>
      rw [e] at w
      exact wpX_seq (wpX.mono w (fun r h j => wpX_forL J hs step fin l r h j) (fun _ _ z => z) fun _ _ _ z => z)
    | exc x h1 => rw [e] at w; exact w.elim
    | stuck => rw [e] at w; exact w.elim
theorem wX_for {t : T} {src : I} {b : Ss} (w : wpO (evI c src r h) fun s h => wpX (forL (fun d r h => asg c t d r h) (fun r h => excs c b r h) s s.items r h) N R X) : wpX (exc c (.foor t src b) r h) N R X := by
  simp only [exc]
  cases e1 : evI c src r h with
  | ok d h1 => rw [e1] at w; exact w
  | exc x h1 => rw [e1] at w; exact w.elim
  | stuck => rw [e1] at w; exact w.elim
theorem wpR_run {t : Tab} {n f : Nat} {ds : List D} {d : Def} (e : t.defs f = some d) (hl : ds.length = d.np)
    (w : wpX (excs (clAt t (run t (n + 1)) (run t n)) d.body (ds.map some ++ List.replicate (d.ns - ds.length) none) h) (fun _ h => Q .non h) Q fun x _ h => Er x h) : wpR (run t (n + 2) f ds h) Q Er := by
  unfold run
  rw [e]
  dsimp only
  rw [if_pos hl]
  cases q : excs (clAt t (run t (n + 1)) (run t n)) d.body (ds.map some ++ List.replicate (d.ns - ds.length) none) h with
  | ok x h' =>
    rw [q] at w
    cases x with
    | nx r => exact w
    | rt v => exact w
    | xc x r => exact w
  | exc x h' => rw [q] at w; exact w.elim
  | stuck => rw [q] at w; exact w.elim
/-- a try: its body's three ends -/
theorem wF_try {b : Ss} {k : Nat} {i : Option Nat} {hb : HB} (w : wpX (excs c b r h) N R fun x r' h' => ∃ j y, x = .exc j y ∧ c.t.sub j j = true ∧ c.t.sub k k = true ∧ c.t.sub j k = true ∧ inB i r' = true ∧ wpO (hbV c.t hb j y h') fun d h => wpF (.ok (hbF hb d (gone i r')) h) N R) :
    wpF (exc c (.try1 b k i hb) r h) N R := by
  cases e : excs c b r h with
  | ok f h' =>
    rw [e] at w
    cases f with
    | nx r' => simp only [exc]; rw [e]; exact w
    | rt d => simp only [exc]; rw [e]; exact w
    | xc x r' =>
      obtain ⟨j, y, rfl, h1, h2, h3, h4, w⟩ := w
      exact wS_tryX e h1 h2 h3 h4 w
  | exc x h' => rw [e] at w; exact w.elim
  | stuck => rw [e] at w; exact w.elim
end
end RG

end

section
/-! RgWe: the rules of each term, with what is wanted of an exception. -/
namespace RG
open PySem L2
def wpE (Er : D → Mem → Prop) {a : Type} (o : Out a) (Q : a → Mem → Prop) : Prop := match o with
  | .ok x h => Q x h
  | .exc x h => Er x h
  | .stuck => False
theorem wpE.mono {Er : D → Mem → Prop} {a : Type} {o : Out a} {Q Q' : a → Mem → Prop} (w : wpE Er o Q) (k : ∀ x h, Q x h → Q' x h) : wpE Er o Q' := by
  cases o with
  | ok x h => exact k x h w
  | exc x h => exact w
  | stuck => exact w
theorem wpE.mono2 {Er Er' : D → Mem → Prop} {a : Type} {o : Out a} {Q Q' : a → Mem → Prop} (w : wpE Er o Q) (k : ∀ x h, Q x h → Q' x h) (k2 : ∀ x h, Er x h → Er' x h) : wpE Er' o Q' := by
  cases o with
  | ok x h => exact k x h w
  | exc x h => exact k2 x h w
  | stuck => exact w
theorem wpE_of {Er : D → Mem → Prop} {a : Type} {o : Out a} {Q : a → Mem → Prop} (w : wpO o Q) : wpE Er o Q := by
  cases o with
  | ok x h => exact w
  | exc x h => exact w.elim
  | stuck => exact w
theorem wpO_of {a : Type} {o : Out a} {Q : a → Mem → Prop} (w : wpE (fun _ _ => False) o Q) : wpO o Q := by
  cases o with
  | ok x h => exact w
  | exc x h => exact w.elim
  | stuck => exact w
section
variable {Er : D → Mem → Prop}
theorem wpE_ok {a : Type} {x : a} {h : Mem} {Q : a → Mem → Prop} : wpE Er (.ok x h) Q ↔ Q x h := Iff.rfl
theorem wpE_exc {a : Type} {x : D} {h : Mem} {Q : a → Mem → Prop} : wpE Er (.exc x h : Out a) Q ↔ Er x h := Iff.rfl
theorem wpE_stuck {a : Type} {Q : a → Mem → Prop} : wpE Er (.stuck : Out a) Q ↔ False := Iff.rfl
theorem wpE_bind {a b : Type} {o : Out a} {f : a → Mem → Out b} {Q : b → Mem → Prop} : wpE Er (o.bind f) Q ↔ wpE Er o fun x h => wpE Er (f x h) Q := by cases o <;> exact Iff.rfl
theorem wpE_calm {a : Type} {o : Out a} {Q : a → Mem → Prop} : wpE Er o.calm Q ↔ wpO o Q := by cases o <;> exact Iff.rfl
theorem wpE_ite {a : Type} {p : Prop} [Decidable p] {x y : Out a} {Q : a → Mem → Prop} : wpE Er (if p then x else y) Q ↔ if p then wpE Er x Q else wpE Er y Q := by split <;> exact Iff.rfl
theorem xw_bl {b : Bool} {h : Mem} {Q : Bool → Mem → Prop} : wpE Er (tru (.bl b) h) Q ↔ Q b h := Iff.rfl
end
section
variable {Er : D → Mem → Prop} {c : Cl} {r : Env} {h : Mem} {Q : D → Mem → Prop} {N : Env → Mem → Prop} {R : D → Mem → Prop} {X : D → Env → Mem → Prop}
theorem xwv_var {i : Nat} : wpE Er (ev c (.var i) r h) Q ↔ (match r[i]? with | some (some d) => Q d h | _ => False) := by
  simp only [ev]
  cases r[i]? with
  | none => exact Iff.rfl
  | some o => cases o <;> exact Iff.rfl
theorem xwv_cst {d : D} : wpE Er (ev c (.cst d) r h) Q ↔ Q d h := by simp only [ev, wpE_ok]
theorem xwv_glo {g : Nat} : wpE Er (ev c (.glo g) r h) Q ↔ (match c.t.glo g with | some d => Q d h | none => False) := by
  simp only [ev]
  cases c.t.glo g <;> exact Iff.rfl
theorem xwv_pr {p : P} {as : Es} : wpE Er (ev c (.pr p as) r h) Q ↔ wpE Er (evs c as r h) fun ds h => wpE Er (evP p ds h) Q := by simp only [ev, wpE_bind]
theorem xws_nil {Q : List D → Mem → Prop} : wpE Er (evs c .nil r h) Q ↔ Q [] h := by simp only [evs, wpE_ok]
theorem xws_cons {Q : List D → Mem → Prop} {e : E} {es : Es} : wpE Er (evs c (.cons e es) r h) Q ↔ wpE Er (ev c e r h) fun d h => wpE Er (evs c es r h) fun ds h => Q (d :: ds) h := by simp only [evs, wpE_bind, wpE_ok]
theorem xwv_and {a b : E} : wpE Er (ev c (.and a b) r h) Q ↔ wpE Er (ev c a r h) fun d h => wpE Er (tru d h) fun k h => if k then wpE Er (ev c b r h) Q else Q d h := by simp only [ev, wpE_bind, wpE_ite, wpE_ok]
theorem xwv_or {a b : E} : wpE Er (ev c (.or a b) r h) Q ↔ wpE Er (ev c a r h) fun d h => wpE Er (tru d h) fun k h => if k then Q d h else wpE Er (ev c b r h) Q := by simp only [ev, wpE_bind, wpE_ite, wpE_ok]
theorem xwv_not {a : E} : wpE Er (ev c (.not a) r h) Q ↔ wpE Er (ev c a r h) fun d h => wpE Er (tru d h) fun k h => Q (.bl (!k)) h := by simp only [ev, wpE_bind, wpE_ok]
theorem xwv_ite {t a b : E} : wpE Er (ev c (.ite t a b) r h) Q ↔ wpE Er (ev c t r h) fun d h => wpE Er (tru d h) fun k h => if k then wpE Er (ev c a r h) Q else wpE Er (ev c b r h) Q := by simp only [ev, wpE_bind, wpE_ite]
theorem xwv_chain {p q : P} {x y z : E} : wpE Er (ev c (.chain p q x y z) r h) Q ↔ wpE Er (ev c x r h) fun dx h => wpE Er (ev c y r h) fun dy h => wpE Er (evP p [dx, dy] h) fun k h => match k with
    | .bl b => if b then wpE Er (ev c z r h) fun dz h => wpE Er (evP q [dy, dz] h) Q else Q (.bl false) h
    | _ => False := by
  simp only [ev, wpE_bind]
  have e : ∀ (dy k : D) (h : Mem), wpE Er (match k with
      | .bl true => (ev c z r h).bind fun dz h => evP q [dy, dz] h
      | .bl false => .ok (.bl false) h
      | _ => .stuck) Q ↔ (match k with
      | .bl b => if b then wpE Er (ev c z r h) fun dz h => wpE Er (evP q [dy, dz] h) Q else Q (.bl false) h
      | _ => False) := fun dy k h => by
    cases k with
    | bl b => cases b <;> simp only [wpE_bind, wpE_ok, if_true, if_false, Bool.false_eq_true]
    | _ => exact Iff.rfl
  simp only [← e] <;> exact Iff.rfl
theorem xwv_tup {as : Es} : wpE Er (ev c (.tup as) r h) Q ↔ wpE Er (evs c as r h) fun ds h => if ds.length ≤ sizeLine then Q (.tup ds) h else False := by simp only [ev, wpE_bind, wpE_ite, wpE_ok, wpE_stuck]
theorem xwv_lst {as : Es} : wpE Er (ev c (.lst as) r h) Q ↔ wpE Er (evs c as r h) fun ds h => if ds.length ≤ sizeLine then Q (.ref h.length) (h ++ [.lst ds]) else False := by simp only [ev, wpE_bind, wpE_ite, wpE_ok, wpE_stuck, new]
theorem xwv_call {f : Nat} {as : Es} : wpE Er (ev c (.call f as) r h) Q ↔ wpE Er (evs c as r h) fun ds h => wpE Er (c.cal f ds h) Q := by simp only [ev, wpE_bind]
theorem xwv_callP {f : Nat} {as : Es} {pk : List Nat} {dd : List D} : wpE Er (ev c (.callP f as pk dd) r h) Q ↔ wpE Er (evs c as r h) fun ds h => match pickO (ds ++ dd) pk with | some zs => wpE Er (c.cal f zs h) Q | none => False := by
  simp only [ev, wpE_bind]
  have e : ∀ (ds : List D) (h : Mem), wpE Er (match pickO (ds ++ dd) pk with | some zs => c.cal f zs h | none => .stuck) Q ↔ (match pickO (ds ++ dd) pk with | some zs => wpE Er (c.cal f zs h) Q | none => False) := fun ds h => by split <;> exact Iff.rfl
  simp only [← e] <;> exact Iff.rfl
theorem xwv_comp {ts : List Nat} {one : Bool} {src : I} {cond : C} {elt : E} {vs : List Nat} : wpE Er (ev c (.comp ts one src cond elt vs) r h) Q ↔ wpE Er (evI c src r h) fun s h =>
    wpE Er (cmpL (fun d r h => cTarget ts one d r h) (fun r h => (evC c cond r h).calm) (fun r h => (ev c elt r h).calm) s h.length (wipeE r vs) s.items (h ++ [.lst []])) Q := by simp only [ev, wpE_bind]
theorem xwv_fld {o : E} {f : Nat} : wpE Er (ev c (.fld o f) r h) Q ↔ wpE Er (ev c o r h) fun d h => match d with
    | .ref n => (match h[n]? with
      | some (.ins k fs) => if c.t.fld k f then (match fget f fs with
        | some v => Q v h
        | none => False) else False
      | _ => False)
    | _ => False := by
  simp only [ev, wpE_bind]
  have e : ∀ (d : D) (h : Mem), wpE Er (match d with
    | .ref n => match h[n]? with
      | some (.ins k fs) => if c.t.fld k f then (match fget f fs with
        | some v => .ok v h
        | none => .stuck) else .stuck
      | _ => .stuck
    | _ => .stuck) Q ↔ (match d with
    | .ref n => (match h[n]? with
      | some (.ins k fs) => if c.t.fld k f then (match fget f fs with
        | some v => Q v h
        | none => False) else False
      | _ => False)
    | _ => False) := fun d h => by
    cases d with
    | ref n =>
      dsimp only
      split
      · split
        · split <;> exact Iff.rfl
        · exact Iff.rfl
      · exact Iff.rfl
    | _ => exact Iff.rfl
  simp only [← e] <;> exact Iff.rfl
theorem xwv_lm {p : P} {o : E} {as : Es} : wpE Er (ev c (.lm p o as) r h) Q ↔ wpE Er (ev c o r h) fun d h => match d with
    | .ref n => (match rd h n with
      | some _ => wpE Er (evs c as r h) fun ds h => wpE Er (evP p (d :: ds) h) Q
      | none => False)
    | _ => False := by
  simp only [ev, wpE_bind]
  have e : ∀ (d : D) (h : Mem), wpE Er (match d with
    | .ref n => match rd h n with
      | some _ => (evs c as r h).bind fun ds h => evP p (d :: ds) h
      | none => .stuck
    | _ => .stuck) Q ↔ (match d with
    | .ref n => (match rd h n with
      | some _ => wpE Er (evs c as r h) fun ds h => wpE Er (evP p (d :: ds) h) Q
      | none => False)
    | _ => False) := fun d h => by
    cases d with
    | ref n =>
      dsimp only
      split
      · rw [wpE_bind]
      · exact Iff.rfl
    | _ => exact Iff.rfl
  simp only [← e] <;> exact Iff.rfl
theorem xwv_meth {m : Nat} {o : E} {as : Es} : wpE Er (ev c (.meth m o as) r h) Q ↔ wpE Er (ev c o r h) fun d h => match d with
    | .ref n => (match h[n]? with
      | some (.ins k _) => (match c.t.meth k m with
        | some f => wpE Er (evs c as r h) fun ds h => wpE Er (c.cal f (d :: ds) h) Q
        | none => False)
      | _ => False)
    | _ => False := by
  simp only [ev, wpE_bind]
  have e : ∀ (d : D) (h : Mem), wpE Er (match d with
    | .ref n => match h[n]? with
      | some (.ins k _) => match c.t.meth k m with
        | some f => (evs c as r h).bind fun ds h => c.cal f (d :: ds) h
        | none => .stuck
      | _ => .stuck
    | _ => .stuck) Q ↔ (match d with
    | .ref n => (match h[n]? with
      | some (.ins k _) => (match c.t.meth k m with
        | some f => wpE Er (evs c as r h) fun ds h => wpE Er (c.cal f (d :: ds) h) Q
        | none => False)
      | _ => False)
    | _ => False) := fun d h => by
    cases d with
    | ref n =>
      dsimp only
      split
      · split
        · rw [wpE_bind]
        · exact Iff.rfl
      · exact Iff.rfl
    | _ => exact Iff.rfl
  simp only [← e] <;> exact Iff.rfl
/-- len of what is no instance -/
theorem xwv_len {o : E} (w : wpE Er (ev c o r h) fun d h => (∀ n k fs, d = .ref n → h[n]? ≠ some (.ins k fs)) ∧ wpE Er (evP .len [d] h) Q) : wpE Er (ev c (.len o) r h) Q := by
  simp only [ev, wpE_bind]
  refine wpE.mono w fun d h ⟨hn, w⟩ => ?_
  cases d with
  | ref n =>
    dsimp only
    split
    · rename_i k fs e
      exact absurd e (hn n k fs rfl)
    · exact w
  | _ => exact w
/-! walks -/
theorem xwI_of {Q : Src → Mem → Prop} {e : E} : wpE Er (evI c (.of e) r h) Q ↔ wpE Er (ev c e r h) fun d h => match srcS d h with | some s => Q s h | none => False := by
  simp only [evI, wpE_bind]
  have e : ∀ (d : D) (h : Mem), wpE Er (match srcS d h with | some s => .ok s h | none => .stuck) Q ↔ (match srcS d h with | some s => Q s h | none => False) := fun d h => by split <;> exact Iff.rfl
  simp only [← e] <;> exact Iff.rfl
theorem xwI_rng1 {Q : Src → Mem → Prop} {e : E} (w : wpE Er (ev c e r h) fun d h => ∃ j : Int, d = .int j ∧ -(2 ^ 62) ≤ j ∧ j < 2 ^ 62 ∧ Q ⟨rngD 0 j.toNat, []⟩ h) : wpE Er (evI c (.rng1 e) r h) Q := by
  simp only [evI, wpE_bind]
  refine wpE.mono w fun d h ⟨j, e, h1, h2, q⟩ => ?_
  subst e
  dsimp only
  rw [if_pos ⟨h1, h2⟩]
  exact q
theorem xwI_enum {Q : Src → Mem → Prop} {e : E} (w : wpE Er (ev c e r h) fun d h => ∃ n l, d = .ref n ∧ rd h n = some l ∧ Q ⟨enumD l, [(n, l)]⟩ h) : wpE Er (evI c (.enum e) r h) Q := by
  simp only [evI, wpE_bind]
  refine wpE.mono w fun d h ⟨n, l, e, h1, q⟩ => ?_
  subst e
  dsimp only
  rw [h1]
  exact q
theorem xwC_yes {Q : Bool → Mem → Prop} : wpE Er (evC c .yes r h) Q ↔ Q true h := by simp only [evC, wpE_ok]
theorem xwC_test {Q : Bool → Mem → Prop} {e : E} : wpE Er (evC c (.test e) r h) Q ↔ wpE Er (ev c e r h) fun d h => wpE Er (tru d h) Q := by simp only [evC, wpE_bind]
theorem xwv_lenI {o : E} : wpE Er (ev c (.len o) r h) Q ↔ wpE Er (ev c o r h) fun d h => match d with
    | .ref n => (match h[n]? with
      | some (.ins k _) => (match c.t.meth k 0 with
        | some f => wpE Er (c.ini f [d] h) fun v h => (match v with
          | .int i => if 0 ≤ i ∧ i < 2 ^ 63 then Q (.int i) h else False
          | _ => False)
        | none => False)
      | _ => wpE Er (evP .len [d] h) Q)
    | _ => wpE Er (evP .len [d] h) Q := by
  simp only [ev, wpE_bind]
  have e : ∀ (d : D) (h : Mem), wpE Er (match d with
    | .ref n => match h[n]? with
      | some (.ins k _) => match c.t.meth k 0 with
        | some f => (c.ini f [d] h).bind fun v h => match v with
          | .int i => if 0 ≤ i ∧ i < 2 ^ 63 then .ok (.int i) h else .stuck
          | _ => .stuck
        | none => .stuck
      | _ => evP .len [d] h
    | _ => evP .len [d] h) Q ↔ (match d with
    | .ref n => (match h[n]? with
      | some (.ins k _) => (match c.t.meth k 0 with
        | some f => wpE Er (c.ini f [d] h) fun v h => (match v with
          | .int i => if 0 ≤ i ∧ i < 2 ^ 63 then Q (.int i) h else False
          | _ => False)
        | none => False)
      | _ => wpE Er (evP .len [d] h) Q)
    | _ => wpE Er (evP .len [d] h) Q) := fun d h => by
    cases d with
    | ref n =>
      dsimp only
      split
      · split
        · rw [wpE_bind]
          have e2 : ∀ (v : D) (h : Mem), wpE Er (match v with
            | .int i => if 0 ≤ i ∧ i < 2 ^ 63 then .ok (.int i) h else .stuck
            | _ => .stuck) Q ↔ (match v with
            | .int i => if 0 ≤ i ∧ i < 2 ^ 63 then Q (.int i) h else False
            | _ => False) := fun v h => by
            cases v with
            | int i => dsimp only; split <;> exact Iff.rfl
            | _ => exact Iff.rfl
          simp only [← e2]
        · exact Iff.rfl
      · exact Iff.rfl
    | _ => exact Iff.rfl
  simp only [← e] <;> exact Iff.rfl

/-! statements -/
theorem wpX_seqI {o : Out Fl} {f : Env → Mem → Out Fl} : wpX (o.seq f) N R X ↔ wpX o (fun r h => wpX (f r h) N R X) R X := by
  cases o with
  | ok x h => cases x <;> exact Iff.rfl
  | exc x h => exact Iff.rfl
  | stuck => exact Iff.rfl
theorem wpX_bs {a : Type} {o : Out a} {f : a → Mem → Out Fl} : wpX (o.bs r f) N R X ↔ wpE (fun x h => X x r h) o fun x h => wpX (f x h) N R X := by cases o <;> exact Iff.rfl
theorem wpX_asgS {o : Out Env} : wpX (asgS o) N R X ↔ wpO o N := by cases o <;> exact Iff.rfl
theorem wpX_ite {p : Prop} [Decidable p] {x y : Out Fl} : wpX (if p then x else y) N R X ↔ if p then wpX x N R X else wpX y N R X := by split <;> exact Iff.rfl
theorem xS_asg {t : T} {e : E} : wpX (exc c (.asg t e) r h) N R X ↔ wpE (fun x h => X x r h) (ev c e r h) fun d h => wpO (asg c t d r h) N := by simp only [exc, wpX_bs, wpX_asgS]
theorem xS_ex {e : E} : wpX (exc c (.ex e) r h) N R X ↔ wpE (fun x h => X x r h) (ev c e r h) fun _ h => N r h := by
  simp only [exc, wpX_bs]; exact Iff.rfl
theorem xS_ret {e : E} : wpX (exc c (.ret e) r h) N R X ↔ wpE (fun x h => X x r h) (ev c e r h) R := by
  simp only [exc, wpX_bs]; exact Iff.rfl
theorem xS_iff {t : E} {a b : Ss} : wpX (exc c (.iff t a b) r h) N R X ↔ wpE (fun x h => X x r h) (ev c t r h) fun d h => wpE (fun x h => X x r h) (tru d h) fun k h => if k then wpX (excs c a r h) N R X else wpX (excs c b r h) N R X := by simp only [exc, wpX_bs, wpX_ite]
theorem xS_for {t : T} {src : I} {b : Ss} : wpX (exc c (.foor t src b) r h) N R X ↔ wpE (fun x h => X x r h) (evI c src r h) fun s h => wpX (forL (fun d r h => asg c t d r h) (fun r h => excs c b r h) s s.items r h) N R X := by simp only [exc, wpX_bs]
theorem xS_whl {t : E} {b : Ss} : wpX (exc c (.whl t b) r h) N R X ↔ wpX (whl (fun r h => (ev c t r h).bind fun d h => tru d h) (fun r h => excs c b r h) r h) N R X := by simp only [exc]
theorem xS_rse {k : Nat} {e : E} : wpX (exc c (.rse k e) r h) N R X ↔ wpE (fun x h => X x r h) (ev c e r h) fun d h => X (.exc k d) r h := by
  simp only [exc, wpX_bs]; exact Iff.rfl
theorem xS_pass : wpX (exc c .pass r h) N R X ↔ N r h := by simp only [exc]; exact Iff.rfl
theorem xSs_nil : wpX (excs c .nil r h) N R X ↔ N r h := by simp only [excs]; exact Iff.rfl
theorem xSs_cons {s : S} {ss : Ss} : wpX (excs c (.cons s ss) r h) N R X ↔ wpX (exc c s r h) (fun r h => wpX (excs c ss r h) N R X) R X := by simp only [excs, wpX_seqI]
/-- while, by a measure -/
theorem wpX_whl {cc : Env → Mem → Out Bool} {b : Env → Mem → Out Fl} (J : Nat → Env → Mem → Prop)
    (step : ∀ m r h, J m r h → wpO (cc r h) fun k h => if k then wpX (b r h) (fun r h => ∃ m', m' < m ∧ J m' r h) R X else N r h) :
    ∀ (m : Nat) (r : Env) (h : Mem), J m r h → wpX (whl cc b r h) N R X := by
  intro m
  induction m using Nat.strongRecOn with
  | ind m ih =>
    intro r h j
    rw [whl_eq, wpX_bs]
    refine wpE_of (wpO.mono (step m r h j) fun k h1 w => ?_)
    cases k with
    | true =>
      rw [if_pos rfl] at w ⊢
      rw [wpX_seqI]
      exact wpX.mono w (fun r h ⟨m', hm, j'⟩ => ih m' hm r h j') (fun _ _ z => z) fun _ _ _ z => z
    | false =>
      rw [if_neg Bool.false_ne_true] at w ⊢
      exact w
theorem wpE_run {t : Tab} {n f : Nat} {ds : List D} {Er : D → Mem → Prop} {d : Def} (e : t.defs f = some d) (hl : ds.length = d.np)
    (w : wpX (excs (clAt t (run t (n + 1)) (run t n)) d.body (ds.map some ++ List.replicate (d.ns - ds.length) none) h) (fun _ h => Q .non h) Q fun x _ h => Er x h) : wpE Er (run t (n + 2) f ds h) Q := by
  have := wpR_run (Q := Q) (Er := Er) e hl w
  cases q : run t (n + 2) f ds h with
  | ok x h' => rw [q] at this; exact this
  | exc x h' => rw [q] at this; exact this
  | stuck => rw [q] at this; exact this
theorem xv_callv {i f : Nat} {as : Es} {Er : D → Mem → Prop} (e : r[i]? = some (some (.fn f))) (p : c.t.plf f = true) (w : wpE Er (evs c as r h) fun ds h => wpE Er (c.cal f ds h) Q) : wpE Er (ev c (.callv i as) r h) Q := by
  simp only [ev, e, p, if_true, wpE_bind]
  exact w
theorem xv_kix {g : Nat} {k : E} {Er : D → Mem → Prop} : wpE Er (ev c (.kix g k) r h) Q ↔ wpE Er (ev c k r h) fun d h => (match d, c.t.kdc g with | .str s, some kvs => (match kget (.str s) kvs with | some v => Q v h | none => False) | _, _ => False) := by
  simp only [ev, wpE_bind]
  have e : ∀ (d : D) (h : Mem), wpE Er (match d, c.t.kdc g with
    | .str s, some kvs => match kget (.str s) kvs with
      | some v => .ok v h
      | none => .stuck
    | _, _ => .stuck) Q ↔ (match d, c.t.kdc g with | .str s, some kvs => (match kget (.str s) kvs with | some v => Q v h | none => False) | _, _ => False) := fun d h => by
    split
    · split <;> exact Iff.rfl
    · exact Iff.rfl
  simp only [← e] <;> exact Iff.rfl
theorem xS_augF {p : P} {o : E} {f : Nat} {e : E} (w : wpE (fun x h => X x r h) (ev c o r h) fun x h => ∃ n k fs v, x = .ref n ∧ h[n]? = some (.ins k fs) ∧ c.t.fld k f = true ∧ fget f fs = some v ∧
    wpE (fun x h => X x r h) (ev c e r h) fun d h => ∃ z fs2, aug p v d = some z ∧ h[n]? = some (.ins k fs2) ∧ fs2.length < 1000 ∧ N r (h.set n (.ins k (fput f z fs2)))) : wpX (exc c (.augF p o f e) r h) N R X := by
  simp only [exc, wpX_bs]
  refine wpE.mono w fun x h1 ⟨n, k, fs, v, e1, e2, e3, e4, w⟩ => ?_
  subst e1
  simp only [e2, e3, e4, if_true, wpX_bs]
  refine wpE.mono w fun d h2 ⟨z, fs2, e5, e6, e7, w⟩ => ?_
  simp only [e5, e6, e7, and_self, if_true]
  exact w
theorem cl_cal {t : Tab} {f g : Nat → List D → Mem → Out D} : (clAt t f g).cal = f := rfl
theorem cl_ini {t : Tab} {f g : Nat → List D → Mem → Out D} : (clAt t f g).ini = g := rfl
theorem cl_t {t : Tab} {f g : Nat → List D → Mem → Out D} : (clAt t f g).t = t := rfl
end
end RG

end

section
/-! RgWn: rules of the new terms. -/
namespace RG
open PySem L2
section
variable {c : Cl} {r : Env} {h : Mem} {Q : D → Mem → Prop} {N : Env → Mem → Prop} {R : D → Mem → Prop}
theorem wv_isx {cs : List Nat} {o : E} (w : wpO (ev c o r h) fun d h => ∃ j x, d = .exc j x ∧ c.t.sub j j = true ∧ Q (.bl (cs.any fun k => c.t.sub j k)) h) : wpO (ev c (.isx cs o) r h) Q := by
  simp only [ev, wpO_bind]
  refine wpO.mono w ?_
  rintro d h1 ⟨j, x, rfl, e, q⟩
  dsimp only
  rw [if_pos e]
  exact q
theorem wv_xw {k : Nat} {o : E} (w : wpO (ev c o r h) fun d h => ∃ j x, d = .exc j x ∧ c.t.sub j j = true ∧ c.t.sub k k = true ∧ c.t.sub j k = true ∧ Q x h) : wpO (ev c (.xw k o) r h) Q := by
  simp only [ev, wpO_bind]
  refine wpO.mono w ?_
  rintro d h1 ⟨j, x, rfl, e1, e2, e3, q⟩
  dsimp only
  rw [if_pos ⟨e1, e2, e3⟩]
  exact q
theorem wv_lrng {src : I} : wpO (ev c (.lrng src) r h) Q ↔ wpO (evI c src r h) fun s h => if s.items.length ≤ 2 ^ 24 then Q (.ref h.length) (h ++ [.lst s.items]) else False := by
  simp only [ev, wpO_bind, wpO_ite, wpO_stuck, new, wpO_ok]
theorem wF_tryK {b : Ss} {k i tg : Nat} {ret : Bool} (w : wpX (excs c b r h) N R fun x r' h' => ∃ j y, x = .exc j y ∧ c.t.sub j j = true ∧ c.t.sub k k = true ∧ c.t.sub j k = true ∧ inB (some i) r' = true ∧ wpF (.ok (if ret then .rt (.exc j y) else .nx ((r'.set i none).set tg (some (.exc j y)))) h') N R) : wpF (exc c (.tryK b k i ret tg) r h) N R := by
  simp only [exc]
  cases e : excs c b r h with
  | ok f h' =>
    rw [e] at w
    cases f with
    | nx r' => exact w
    | rt d => exact w
    | xc x r' =>
      obtain ⟨j, y, rfl, h1, h2, h3, h4, q⟩ := w
      unfold tryG
      dsimp only
      rw [if_pos ⟨h1, h2, h4⟩, if_pos h3]
      exact q
  | exc x h' => rw [e] at w; exact w.elim
  | stuck => rw [e] at w; exact w.elim
theorem wS_augS {p : P} {o i e : E} (w : wpO (ev c o r h) fun x h => wpO (ev c i r h) fun k h => ∃ n kvs v, x = .ref n ∧ h[n]? = some (.dct kvs) ∧ isKey k = true ∧ kget k kvs = some v ∧ wpO (ev c e r h) fun d h => ∃ z kvs2, aug p v d = some z ∧ h[n]? = some (.dct kvs2) ∧ kvs2.length < sizeLine ∧ N r (h.set n (.dct (kput k z kvs2)))) : wpF (exc c (.augS p o i e) r h) N R := by
  simp only [exc, wpF_bs]
  refine wpO.mono w fun x h1 w => wpO.mono w ?_
  rintro k h2 ⟨n, kvs, v, rfl, e1, e2, e3, w⟩
  dsimp only
  rw [e1]
  dsimp only
  rw [if_pos e2, e3]
  dsimp only
  rw [wpF_bs]
  refine wpO.mono w ?_
  rintro d h3 ⟨z, kvs2, e4, e5, e6, q⟩
  rw [e4]
  dsimp only
  rw [e5]
  dsimp only
  rw [if_pos e6]
  exact q
end
end RG

end

section
/-! the text of the law, as data -/
namespace RG.K
open PySem PySem.Spec L2 PyProof.Rows RG
open PySem L2 PyProof.Rows in
def tp (i : Nat) : Stmt := PySem.Challenge.pw_ringgates_k10_first_stands.main.body.getD i (.Pass ⟨0, 0, 0, 0⟩)
def d_is_ring : Ss := (.cons (.ret (.chain .le .le (.cst (.int 0)) (.var 0) (.glo 0))) .nil)
def f_is_ring : Fn := ⟨⟨("is_ring", none), "is_ring", "is_ring", defArgs (tp 13), defBody (tp 13), defScope (tp 13), [], []⟩, [("number" : Str)], [("number" : Str)], ⟨1, 1, d_is_ring⟩⟩
def d_is_sound_word : Ss := (.cons (.iff (.pr .eq (.cons (.pr .ix (.cons (.var 0) (.cons (.cst (.int 0)) .nil))) (.cons (.cst (.str [110, 117, 109])) .nil))) (.cons (.ret (.chain .le .lt (.cst (.int 0)) (.pr .ix (.cons (.var 0) (.cons (.cst (.int 1)) .nil))) (.var 2))) .nil) .nil) (.cons (.asg (.tup (.cons (.nm 3) (.cons (.nm 4) (.cons (.nm 5) (.cons (.nm 6) .nil))))) (.var 0)) (.cons (.ret (.and (.call 0 (.cons (.var 4) .nil)) (.and (.chain .le .lt (.cst (.int 0)) (.var 5) (.var 1)) (.pr .ge (.cons (.var 6) (.cons (.cst (.int 0)) .nil)))))) .nil)))
def f_is_sound_word : Fn := ⟨⟨("is_sound_word", none), "is_sound_word", "is_sound_word", defArgs (tp 14), defBody (tp 14), defScope (tp 14), [], []⟩, [("word" : Str), ("many" : Str), ("base" : Str)], [("word" : Str), ("many" : Str), ("base" : Str), ("kind" : Str), ("ring" : Str), ("segment" : Str), ("place" : Str)], ⟨3, 7, d_is_sound_word⟩⟩
def d_is_sound : Ss := (.cons (.asg (.star1 2 3) (.var 0)) (.cons (.asg (.nm 4) (.dct [.str [112], .str [115]] (.cons (.glo 1) (.cons (.var 1) .nil)))) (.cons (.foor (.tup (.cons (.nm 5) (.cons (.nm 6) .nil))) (.zip (.kix 0 (.var 2)) (.var 3)) (.cons (.iff (.and (.pr .inn (.cons (.var 5) (.cons (.var 4) .nil))) (.not (.chain .le .lt (.cst (.int 0)) (.var 6) (.pr .ix (.cons (.var 4) (.cons (.var 5) .nil)))))) (.cons (.ret (.cst (.bl false))) .nil) .nil) .nil)) (.cons (.ret (.cst (.bl true))) .nil))))
def f_is_sound : Fn := ⟨⟨("is_sound", none), "is_sound", "is_sound", defArgs (tp 18), defBody (tp 18), defScope (tp 18), [], []⟩, [("row" : Str), ("many" : Str)], [("row" : Str), ("many" : Str), ("word" : Str), ("numbers" : Str), ("bounds" : Str), ("part" : Str), ("number" : Str)], ⟨2, 7, d_is_sound⟩⟩
def d_is_framed : Ss := (.cons (.asg (.tup (.cons (.nm 1) (.cons (.nm 2) (.cons (.nm 3) (.cons (.nm 4) (.cons (.nm 5) .nil)))))) (.var 0)) (.cons (.asg (.tup (.cons (.nm 6) (.cons (.nm 7) (.cons (.nm 8) .nil)))) (.var 1)) (.cons (.iff (.or (.not (.call 0 (.cons (.var 6) .nil))) (.or (.not (.call 0 (.cons (.var 8) .nil))) (.not (.chain .le .le (.var 6) (.var 7) (.var 8))))) (.cons (.ret (.cst (.bl false))) .nil) .nil) (.cons (.ret (.and (.pr .inn (.cons (.var 2) (.cons (.glo 6) .nil))) (.chain .le .le (.cst (.int 0)) (.var 3) (.len (.var 5))))) .nil))))
def f_is_framed : Fn := ⟨⟨("is_framed", none), "is_framed", "is_framed", defArgs (tp 25), defBody (tp 25), defScope (tp 25), [], []⟩, [("segment" : Str)], [("segment" : Str), ("brackets" : Str), ("rights" : Str), ("gates" : Str), ("words" : Str), ("rows" : Str), ("first" : Str), ("second" : Str), ("third" : Str)], ⟨1, 9, d_is_framed⟩⟩
def d_is_filled : Ss := (.cons (.asg (.tup (.cons (.nm 3) (.cons (.nm 4) .nil))) (.pr .slLo (.cons (.var 0) (.cons (.cst (.int 3)) .nil)))) (.cons (.iff (.or (.pr .gt (.cons (.len (.var 3)) (.cons (.glo 4) .nil))) (.pr .gt (.cons (.len (.var 4)) (.cons (.glo 5) .nil)))) (.cons (.ret (.cst (.bl false))) .nil) .nil) (.cons (.ret (.and (.pr .all (.cons (.comp [5] true (.of (.var 3)) .yes (.call 1 (.cons (.var 5) (.cons (.var 1) (.cons (.var 2) .nil)))) [5]) .nil)) (.pr .all (.cons (.comp [6] true (.of (.var 4)) .yes (.call 2 (.cons (.var 6) (.cons (.var 1) .nil))) [6]) .nil)))) .nil)))
def f_is_filled : Fn := ⟨⟨("is_filled", none), "is_filled", "is_filled", defArgs (tp 26), defBody (tp 26), defScope (tp 26), [], []⟩, [("segment" : Str), ("many" : Str), ("base" : Str)], [("segment" : Str), ("many" : Str), ("base" : Str), ("words" : Str), ("rows" : Str), ("word" : Str), ("row" : Str)], ⟨3, 7, d_is_filled⟩⟩
def d_Machine__init : Ss := (.cons (.asg (.nm 3) (.len (.var 1))) (.cons (.iff (.or (.pr .lt (.cons (.var 2) (.cons (.cst (.int 2)) .nil))) (.not (.chain .le .le (.cst (.int 1)) (.var 3) (.glo 3)))) (.cons (.rse 101 (.cst .non)) .nil) .nil) (.cons (.foor (.tup (.cons (.nm 4) (.cons (.nm 5) .nil))) (.enum (.var 1)) (.cons (.iff (.or (.not (.call 3 (.cons (.var 5) .nil))) (.not (.call 4 (.cons (.var 5) (.cons (.var 3) (.cons (.var 2) .nil)))))) (.cons (.rse 101 (.var 4)) .nil) .nil) .nil)) (.cons (.asg (.fld (.var 0) 0) (.pr .toList (.cons (.var 1) .nil))) (.cons (.asg (.fld (.var 0) 1) (.var 2)) .nil)))))
def f_Machine__init : Fn := ⟨⟨("Machine", some ("__init__" : Str)), "__init__", "Machine.__init__", defArgs (inClass (tp 27) 0), defBody (inClass (tp 27) 0), defScope (inClass (tp 27) 0), [], [("base", .int (16))]⟩, [("self" : Str), ("segments" : Str), ("base" : Str)], [("self" : Str), ("segments" : Str), ("base" : Str), ("many" : Str), ("number" : Str), ("segment" : Str)], ⟨3, 6, d_Machine__init⟩⟩
def d_Machine_segment : Ss := (.cons (.iff (.not (.chain .le .lt (.cst (.int 0)) (.var 1) (.len (.fld (.var 0) 0)))) (.cons (.rse 102 (.var 1)) .nil) .nil) (.cons (.ret (.pr .ix (.cons (.fld (.var 0) 0) (.cons (.var 1) .nil)))) .nil))
def f_Machine_segment : Fn := ⟨⟨("Machine", some ("segment" : Str)), "segment", "Machine.segment", defArgs (inClass (tp 27) 1), defBody (inClass (tp 27) 1), defScope (inClass (tp 27) 1), [], []⟩, [("self" : Str), ("number" : Str)], [("self" : Str), ("number" : Str)], ⟨2, 2, d_Machine_segment⟩⟩
def d_Machine__len : Ss := (.cons (.ret (.len (.fld (.var 0) 0))) .nil)
def f_Machine__len : Fn := ⟨⟨("Machine", some ("__len__" : Str)), "__len__", "Machine.__len__", defArgs (inClass (tp 27) 2), defBody (inClass (tp 27) 2), defScope (inClass (tp 27) 2), [], []⟩, [("self" : Str)], [("self" : Str)], ⟨1, 1, d_Machine__len⟩⟩
def d_Machine__eq : Ss := (.cons (.ret (.pr .eq (.cons (.tup (.cons (.fld (.var 0) 1) (.cons (.fld (.var 0) 0) .nil))) (.cons (.tup (.cons (.fld (.var 1) 1) (.cons (.fld (.var 1) 0) .nil))) .nil)))) .nil)
def f_Machine__eq : Fn := ⟨⟨("Machine", some ("__eq__" : Str)), "__eq__", "Machine.__eq__", defArgs (inClass (tp 27) 3), defBody (inClass (tp 27) 3), defScope (inClass (tp 27) 3), [], []⟩, [("self" : Str), ("other" : Str)], [("self" : Str), ("other" : Str)], ⟨2, 2, d_Machine__eq⟩⟩
def d_may_read : Ss := (.cons (.ret (.and (.pr .inn (.cons (.cst (.str [114])) (.cons (.pr .ix (.cons (.var 0) (.cons (.cst (.int 1)) .nil))) .nil))) (.pr .le (.cons (.var 1) (.cons (.pr .ix (.cons (.pr .ix (.cons (.var 0) (.cons (.cst (.int 0)) .nil))) (.cons (.cst (.int 1)) .nil))) .nil))))) .nil)
def f_may_read : Fn := ⟨⟨("may_read", none), "may_read", "may_read", defArgs (tp 28), defBody (tp 28), defScope (tp 28), [], []⟩, [("segment" : Str), ("ring" : Str)], [("segment" : Str), ("ring" : Str)], ⟨2, 2, d_may_read⟩⟩
def d_may_write : Ss := (.cons (.ret (.and (.pr .inn (.cons (.cst (.str [119])) (.cons (.pr .ix (.cons (.var 0) (.cons (.cst (.int 1)) .nil))) .nil))) (.pr .le (.cons (.var 1) (.cons (.pr .ix (.cons (.pr .ix (.cons (.var 0) (.cons (.cst (.int 0)) .nil))) (.cons (.cst (.int 0)) .nil))) .nil))))) .nil)
def f_may_write : Fn := ⟨⟨("may_write", none), "may_write", "may_write", defArgs (tp 29), defBody (tp 29), defScope (tp 29), [], []⟩, [("segment" : Str), ("ring" : Str)], [("segment" : Str), ("ring" : Str)], ⟨2, 2, d_may_write⟩⟩
def d_may_run : Ss := (.cons (.ret (.and (.pr .inn (.cons (.cst (.str [120])) (.cons (.pr .ix (.cons (.var 0) (.cons (.cst (.int 1)) .nil))) .nil))) (.chain .le .le (.pr .ix (.cons (.pr .ix (.cons (.var 0) (.cons (.cst (.int 0)) .nil))) (.cons (.cst (.int 0)) .nil))) (.var 1) (.pr .ix (.cons (.pr .ix (.cons (.var 0) (.cons (.cst (.int 0)) .nil))) (.cons (.cst (.int 1)) .nil)))))) .nil)
def f_may_run : Fn := ⟨⟨("may_run", none), "may_run", "may_run", defArgs (tp 30), defBody (tp 30), defScope (tp 30), [], []⟩, [("segment" : Str), ("ring" : Str)], [("segment" : Str), ("ring" : Str)], ⟨2, 2, d_may_run⟩⟩
def d_may_call : Ss := (.cons (.ret (.and (.pr .inn (.cons (.cst (.str [120])) (.cons (.pr .ix (.cons (.var 0) (.cons (.cst (.int 1)) .nil))) .nil))) (.chain .lt .le (.pr .ix (.cons (.pr .ix (.cons (.var 0) (.cons (.cst (.int 0)) .nil))) (.cons (.cst (.int 1)) .nil))) (.var 1) (.pr .ix (.cons (.pr .ix (.cons (.var 0) (.cons (.cst (.int 0)) .nil))) (.cons (.cst (.int 2)) .nil)))))) .nil)
def f_may_call : Fn := ⟨⟨("may_call", none), "may_call", "may_call", defArgs (tp 31), defBody (tp 31), defScope (tp 31), [], []⟩, [("segment" : Str), ("ring" : Str)], [("segment" : Str), ("ring" : Str)], ⟨2, 2, d_may_call⟩⟩
def d_segments_of : Ss := (.cons (.ret (.comp [1] true (.rng1 (.len (.var 0))) .yes (.meth 1 (.var 0) (.cons (.var 1) .nil)) [1])) .nil)
def f_segments_of : Fn := ⟨⟨("segments_of", none), "segments_of", "segments_of", defArgs (tp 32), defBody (tp 32), defScope (tp 32), [], []⟩, [("machine" : Str)], [("machine" : Str), ("number" : Str)], ⟨1, 2, d_segments_of⟩⟩
def d_allowed : Ss := (.cons (.iff (.not (.call 0 (.cons (.var 1) .nil))) (.cons (.rse 105 (.var 1)) .nil) .nil) (.cons (.asg (.nm 2) (.lst .nil)) (.cons (.foor (.nm 3) (.of (.call 13 (.cons (.var 0) .nil))) (.cons (.ex (.lm .append (.var 2) (.cons (.tup (.cons (.call 9 (.cons (.var 3) (.cons (.var 1) .nil))) (.cons (.call 10 (.cons (.var 3) (.cons (.var 1) .nil))) (.cons (.call 11 (.cons (.var 3) (.cons (.var 1) .nil))) (.cons (.call 12 (.cons (.var 3) (.cons (.var 1) .nil))) .nil))))) .nil))) .nil)) (.cons (.ret (.var 2)) .nil))))
def f_allowed : Fn := ⟨⟨("allowed", none), "allowed", "allowed", defArgs (tp 33), defBody (tp 33), defScope (tp 33), [], []⟩, [("machine" : Str), ("ring" : Str)], [("machine" : Str), ("ring" : Str), ("found" : Str), ("one" : Str)], ⟨2, 4, d_allowed⟩⟩
def d_first : Ss := (.cons (.ex (.call 14 (.cons (.var 0) (.cons (.var 1) .nil)))) (.cons (.ret (.tup (.cons (.var 1) (.cons (.cst (.int 0)) (.cons (.glo 9) (.cons (.pr .toTuple (.cons (.comp [2] true (.rng1 (.len (.var 0))) .yes (.pr .ix (.cons (.meth 1 (.var 0) (.cons (.var 2) .nil)) (.cons (.cst (.int 3)) .nil))) [2]) .nil)) .nil)))))) .nil))
def f_first : Fn := ⟨⟨("first", none), "first", "first", defArgs (tp 36), defBody (tp 36), defScope (tp 36), [], []⟩, [("machine" : Str), ("ring" : Str)], [("machine" : Str), ("ring" : Str), ("number" : Str)], ⟨2, 3, d_first⟩⟩
def d_law_deck : Ss := (.cons (.asg (.nm 1) (.lst .nil)) (.cons (.asg (.nm 2) (.cst (.int 11))) (.cons (.foor (.nm 3) (.of (.var 0)) (.cons (.asg (.nm 2) (.pr .mod (.cons (.pr .add (.cons (.pr .mul (.cons (.var 2) (.cons (.cst (.int 1000003)) .nil))) (.cons (.var 3) .nil))) (.cons (.cst (.int 2305843009213693951)) .nil)))) (.cons (.iff (.pr .ge (.cons (.pr .abs (.cons (.var 3) .nil)) (.cons (.pr .pow (.cons (.cst (.int 10)) (.cons (.cst (.int 18)) .nil))) .nil))) (.cons (.ex (.lm .insert (.var 1) (.cons (.cst (.int 0)) (.cons (.pr .sub (.cons (.pr .abs (.cons (.var 3) .nil)) (.cons (.pr .pow (.cons (.cst (.int 10)) (.cons (.cst (.int 18)) .nil))) .nil))) .nil)))) .nil) .nil) .nil))) (.cons (.ret (.lst (.cons (.var 1) (.cons (.var 2) (.cons (.cst (.int 0)) .nil))))) .nil))))
def f_law_deck : Fn := ⟨⟨("_law_deck", none), "_law_deck", "_law_deck", defArgs (tp 38), defBody (tp 38), defScope (tp 38), [], []⟩, [("script" : Str)], [("script" : Str), ("great" : Str), ("fold" : Str), ("cell" : Str)], ⟨1, 4, d_law_deck⟩⟩
def d_law_take : Ss := (.cons (.whl (.and (.pr .ne (.cons (.pr .ix (.cons (.var 0) (.cons (.cst (.int 0)) .nil))) (.cons (.lst .nil) .nil))) (.pr .lt (.cons (.pr .ix (.cons (.pr .ix (.cons (.var 0) (.cons (.cst (.int 0)) .nil))) (.cons (.pr .neg (.cons (.cst (.int 1)) .nil)) .nil))) (.cons (.cst (.int 2)) .nil)))) (.cons (.ex (.lm .pop (.pr .ix (.cons (.var 0) (.cons (.cst (.int 0)) .nil))) .nil)) .nil)) (.cons (.iff (.pr .ne (.cons (.pr .ix (.cons (.var 0) (.cons (.cst (.int 0)) .nil))) (.cons (.lst .nil) .nil))) (.cons (.asg (.nm 2) (.pr .mod (.cons (.pr .ix (.cons (.pr .ix (.cons (.var 0) (.cons (.cst (.int 0)) .nil))) (.cons (.pr .neg (.cons (.cst (.int 1)) .nil)) .nil))) (.cons (.var 1) .nil)))) (.cons (.asg (.sub (.pr .ix (.cons (.var 0) (.cons (.cst (.int 0)) .nil))) (.pr .neg (.cons (.cst (.int 1)) .nil))) (.pr .fdiv (.cons (.pr .ix (.cons (.pr .ix (.cons (.var 0) (.cons (.cst (.int 0)) .nil))) (.cons (.pr .neg (.cons (.cst (.int 1)) .nil)) .nil))) (.cons (.var 1) .nil)))) (.cons (.ret (.var 2)) .nil))) .nil) (.cons (.asg (.sub (.var 0) (.cst (.int 2))) (.pr .add (.cons (.pr .ix (.cons (.var 0) (.cons (.cst (.int 2)) .nil))) (.cons (.cst (.int 1)) .nil)))) (.cons (.asg (.nm 3) (.pr .ix (.cons (.var 0) (.cons (.cst (.int 2)) .nil)))) (.cons (.asg (.nm 4) (.pr .add (.cons (.pr .mul (.cons (.pr .add (.cons (.pr .ix (.cons (.var 0) (.cons (.cst (.int 1)) .nil))) (.cons (.cst (.int 40503)) .nil))) (.cons (.pr .pow (.cons (.pr .add (.cons (.var 3) (.cons (.cst (.int 5)) .nil))) (.cons (.cst (.int 3)) .nil))) .nil))) (.cons (.pr .mul (.cons (.cst (.int 69621)) (.cons (.var 3) .nil))) .nil)))) (.cons (.ret (.pr .mod (.cons (.pr .fdiv (.cons (.pr .mod (.cons (.pr .pow (.cons (.pr .mod (.cons (.var 4) (.cons (.cst (.int 2305843009213693951)) .nil))) (.cons (.cst (.int 3)) .nil))) (.cons (.cst (.int 1000000007)) .nil))) (.cons (.cst (.int 64)) .nil))) (.cons (.var 1) .nil)))) .nil))))))
def f_law_take : Fn := ⟨⟨("_law_take", none), "_law_take", "_law_take", defArgs (tp 39), defBody (tp 39), defScope (tp 39), [], []⟩, [("deck" : Str), ("many" : Str)], [("deck" : Str), ("many" : Str), ("drawn" : Str), ("k" : Str), ("mixed" : Str)], ⟨2, 5, d_law_take⟩⟩
def d_law_number : Ss := (.cons (.asg (.nm 1) (.call 201 (.cons (.var 0) (.cons (.cst (.int 12)) .nil)))) (.cons (.iff (.pr .eq (.cons (.var 1) (.cons (.cst (.int 11)) .nil))) (.cons (.ret (.pr .mul (.cons (.pr .ix (.cons (.lst (.cons (.cst (.int 1)) (.cons (.pr .neg (.cons (.cst (.int 1)) .nil)) .nil))) (.cons (.call 201 (.cons (.var 0) (.cons (.cst (.int 2)) .nil))) .nil))) (.cons (.pr .add (.cons (.pr .pow (.cons (.cst (.int 10)) (.cons (.cst (.int 59)) .nil))) (.cons (.call 201 (.cons (.var 0) (.cons (.cst (.int 9)) .nil))) .nil))) .nil)))) .nil) .nil) (.cons (.ret (.pr .ix (.cons (.lst (.cons (.cst (.int 0)) (.cons (.cst (.int 0)) (.cons (.cst (.int 1)) (.cons (.cst (.int 1)) (.cons (.cst (.int 2)) (.cons (.cst (.int 3)) (.cons (.pr .neg (.cons (.cst (.int 1)) .nil)) (.cons (.cst (.int 5)) (.cons (.cst (.int 9)) (.cons (.cst (.int 0)) (.cons (.cst (.int 1)) .nil)))))))))))) (.cons (.var 1) .nil)))) .nil)))
def f_law_number : Fn := ⟨⟨("_law_number", none), "_law_number", "_law_number", defArgs (tp 40), defBody (tp 40), defScope (tp 40), [], []⟩, [("deck" : Str)], [("deck" : Str), ("pick" : Str)], ⟨1, 2, d_law_number⟩⟩
def d_law_word : Ss := (.cons (.iff (.pr .eq (.cons (.call 201 (.cons (.var 0) (.cons (.cst (.int 2)) .nil))) (.cons (.cst (.int 0)) .nil))) (.cons (.ret (.tup (.cons (.cst (.str [110, 117, 109])) (.cons (.call 201 (.cons (.var 0) (.cons (.pr .min (.cons (.var 2) (.cons (.pr .pow (.cons (.cst (.int 10)) (.cons (.cst (.int 9)) .nil))) .nil))) .nil))) .nil)))) .nil) .nil) (.cons (.ret (.tup (.cons (.cst (.str [112, 116, 114])) (.cons (.call 201 (.cons (.var 0) (.cons (.cst (.int 8)) .nil))) (.cons (.call 201 (.cons (.var 0) (.cons (.var 1) .nil))) (.cons (.call 201 (.cons (.var 0) (.cons (.cst (.int 5)) .nil))) .nil)))))) .nil))
def f_law_word : Fn := ⟨⟨("_law_word", none), "_law_word", "_law_word", defArgs (tp 41), defBody (tp 41), defScope (tp 41), [], []⟩, [("deck" : Str), ("many" : Str), ("scale" : Str)], [("deck" : Str), ("many" : Str), ("scale" : Str)], ⟨3, 3, d_law_word⟩⟩
def d_law_row : Ss := (.cons (.asg (.nm 2) (.call 201 (.cons (.var 0) (.cons (.cst (.int 4)) .nil)))) (.cons (.asg (.nm 3) (.call 201 (.cons (.var 0) (.cons (.cst (.int 4)) .nil)))) (.cons (.asg (.nm 4) (.call 201 (.cons (.var 0) (.cons (.cst (.int 16)) .nil)))) (.cons (.iff (.pr .lt (.cons (.var 4) (.cons (.cst (.int 2)) .nil))) (.cons (.ret (.pr .ix (.cons (.lst (.cons (.tup (.cons (.cst (.str [115, 101, 116])) (.cons (.call 19 (.cons (.var 0) .nil)) .nil))) (.cons (.tup (.cons (.cst (.str [97, 100, 100])) (.cons (.call 19 (.cons (.var 0) .nil)) .nil))) .nil))) (.cons (.var 4) .nil)))) .nil) .nil) (.cons (.iff (.pr .lt (.cons (.var 4) (.cons (.cst (.int 6)) .nil))) (.cons (.asg (.nm 5) (.pr .ix (.cons (.lst (.cons (.cst (.int 0)) (.cons (.cst (.int 0)) (.cons (.cst (.int 1)) (.cons (.call 19 (.cons (.var 0) .nil)) .nil))))) (.cons (.call 201 (.cons (.var 0) (.cons (.cst (.int 4)) .nil))) .nil)))) (.cons (.ret (.tup (.cons (.pr .ix (.cons (.lst (.cons (.cst (.str [108, 111, 97, 100])) (.cons (.cst (.str [115, 116, 111, 114, 101])) (.cons (.cst (.str [108, 111, 97, 100])) (.cons (.cst (.str [115, 116, 111, 114, 101])) .nil))))) (.cons (.pr .sub (.cons (.var 4) (.cons (.cst (.int 2)) .nil))) .nil))) (.cons (.var 2) (.cons (.var 5) .nil))))) .nil)) .nil) (.cons (.iff (.pr .lt (.cons (.var 4) (.cons (.cst (.int 9)) .nil))) (.cons (.asg (.nm 5) (.pr .ix (.cons (.lst (.cons (.cst (.int 0)) (.cons (.cst (.int 0)) (.cons (.cst (.int 1)) (.cons (.call 19 (.cons (.var 0) .nil)) .nil))))) (.cons (.call 201 (.cons (.var 0) (.cons (.cst (.int 4)) .nil))) .nil)))) (.cons (.ret (.tup (.cons (.pr .ix (.cons (.lst (.cons (.cst (.str [102, 101, 116, 99, 104])) (.cons (.cst (.str [107, 101, 101, 112])) (.cons (.cst (.str [109, 111, 118, 101])) .nil)))) (.cons (.pr .sub (.cons (.var 4) (.cons (.cst (.int 6)) .nil))) .nil))) (.cons (.var 3) (.cons (.var 2) (.cons (.var 5) .nil)))))) .nil)) .nil) (.cons (.iff (.pr .lt (.cons (.var 4) (.cons (.cst (.int 11)) .nil))) (.cons (.ret (.tup (.cons (.cst (.str [97, 105, 109])) (.cons (.var 3) (.cons (.call 201 (.cons (.var 0) (.cons (.var 1) .nil))) (.cons (.pr .ix (.cons (.lst (.cons (.cst (.int 0)) (.cons (.cst (.int 0)) (.cons (.cst (.int 1)) (.cons (.cst (.int 2)) (.cons (.call 19 (.cons (.var 0) .nil)) .nil)))))) (.cons (.call 201 (.cons (.var 0) (.cons (.cst (.int 5)) .nil))) .nil))) .nil)))))) .nil) .nil) (.cons (.iff (.pr .lt (.cons (.var 4) (.cons (.cst (.int 13)) .nil))) (.cons (.ret (.tup (.cons (.cst (.str [99, 97, 108, 108])) (.cons (.var 2) .nil)))) .nil) .nil) (.cons (.iff (.pr .lt (.cons (.var 4) (.cons (.cst (.int 15)) .nil))) (.cons (.ret (.tup (.cons (.pr .ix (.cons (.lst (.cons (.cst (.str [122, 101, 114, 111])) (.cons (.cst (.str [103, 111])) .nil))) (.cons (.pr .sub (.cons (.var 4) (.cons (.cst (.int 13)) .nil))) .nil))) (.cons (.pr .ix (.cons (.lst (.cons (.cst (.int 0)) (.cons (.cst (.int 1)) (.cons (.cst (.int 2)) (.cons (.cst (.int 3)) (.cons (.cst (.int 4)) (.cons (.call 19 (.cons (.var 0) .nil)) .nil))))))) (.cons (.call 201 (.cons (.var 0) (.cons (.cst (.int 6)) .nil))) .nil))) .nil)))) .nil) .nil) (.cons (.ret (.tup (.cons (.cst (.str [114, 101, 116, 117, 114, 110])) .nil))) .nil))))))))))
def f_law_row : Fn := ⟨⟨("_law_row", none), "_law_row", "_law_row", defArgs (tp 42), defBody (tp 42), defScope (tp 42), [], []⟩, [("deck" : Str), ("many" : Str)], [("deck" : Str), ("many" : Str), ("p" : Str), ("q" : Str), ("pick" : Str), ("far" : Str)], ⟨2, 6, d_law_row⟩⟩
def d_law_segment : Ss := (.cons (.asg (.nm 3) (.pr .ix (.cons (.lst (.cons (.cst (.int 0)) (.cons (.cst (.int 0)) (.cons (.cst (.int 1)) (.cons (.cst (.int 3)) (.cons (.cst (.int 4)) (.cons (.cst (.int 7)) (.cons (.call 201 (.cons (.var 0) (.cons (.cst (.int 8)) .nil))) .nil)))))))) (.cons (.call 201 (.cons (.var 0) (.cons (.cst (.int 7)) .nil))) .nil)))) (.cons (.asg (.nm 4) (.pr .min (.cons (.cst (.int 7)) (.cons (.pr .add (.cons (.var 3) (.cons (.pr .ix (.cons (.lst (.cons (.cst (.int 0)) (.cons (.cst (.int 0)) (.cons (.cst (.int 1)) (.cons (.cst (.int 3)) (.cons (.cst (.int 7)) .nil)))))) (.cons (.call 201 (.cons (.var 0) (.cons (.cst (.int 5)) .nil))) .nil))) .nil))) .nil)))) (.cons (.asg (.nm 5) (.pr .min (.cons (.cst (.int 7)) (.cons (.pr .add (.cons (.var 4) (.cons (.pr .ix (.cons (.lst (.cons (.cst (.int 0)) (.cons (.cst (.int 1)) (.cons (.cst (.int 4)) (.cons (.cst (.int 7)) .nil))))) (.cons (.call 201 (.cons (.var 0) (.cons (.cst (.int 4)) .nil))) .nil))) .nil))) .nil)))) (.cons (.asg (.nm 6) (.pr .ix (.cons (.lst (.cons (.cst (.str [114, 119, 120])) (.cons (.cst (.str [114, 119, 120])) (.cons (.cst (.str [114, 120])) (.cons (.cst (.str [114, 119])) (.cons (.cst (.str [120])) (.cons (.cst (.str [119, 120])) (.cons (.cst (.str [114])) (.cons (.cst (.str [119])) (.cons (.cst (.str [114, 119, 120])) (.cons (.cst (.str [114, 120])) (.cons (.cst (.str [])) .nil)))))))))))) (.cons (.call 201 (.cons (.var 0) (.cons (.cst (.int 11)) .nil))) .nil)))) (.cons (.asg (.nm 7) (.pr .toTuple (.cons (.comp [8] true (.rng1 (.call 201 (.cons (.var 0) (.cons (.cst (.int 4)) .nil)))) .yes (.call 21 (.cons (.var 0) (.cons (.var 1) (.cons (.var 2) .nil)))) [8]) .nil))) (.cons (.asg (.nm 9) (.comp [8] true (.rng1 (.call 201 (.cons (.var 0) (.cons (.cst (.int 6)) .nil)))) .yes (.call 20 (.cons (.var 0) (.cons (.var 1) .nil))) [8])) (.cons (.iff (.and (.pr .ne (.cons (.var 9) (.cons (.lst .nil) .nil))) (.pr .eq (.cons (.call 201 (.cons (.var 0) (.cons (.cst (.int 2)) .nil))) (.cons (.cst (.int 0)) .nil)))) (.cons (.ex (.lm .append (.var 9) (.cons (.tup (.cons (.cst (.str [114, 101, 116, 117, 114, 110])) .nil)) .nil))) .nil) .nil) (.cons (.asg (.nm 10) (.call 201 (.cons (.var 0) (.cons (.pr .add (.cons (.len (.var 9)) (.cons (.cst (.int 1)) .nil))) .nil)))) (.cons (.ret (.tup (.cons (.tup (.cons (.var 3) (.cons (.var 4) (.cons (.var 5) .nil)))) (.cons (.var 6) (.cons (.var 10) (.cons (.var 7) (.cons (.pr .toTuple (.cons (.var 9) .nil)) .nil))))))) .nil)))))))))
def f_law_segment : Fn := ⟨⟨("_law_segment", none), "_law_segment", "_law_segment", defArgs (tp 43), defBody (tp 43), defScope (tp 43), [], []⟩, [("deck" : Str), ("many" : Str), ("scale" : Str)], [("deck" : Str), ("many" : Str), ("scale" : Str), ("least" : Str), ("middle" : Str), ("last" : Str), ("rights" : Str), ("words" : Str), ("k" : Str), ("rows" : Str), ("gates" : Str)], ⟨3, 11, d_law_segment⟩⟩
def d_law_machine : Ss := (.cons (.asg (.nm 1) (.pr .add (.cons (.cst (.int 1)) (.cons (.call 201 (.cons (.var 0) (.cons (.pr .ix (.cons (.lst (.cons (.cst (.int 5)) (.cons (.cst (.int 8)) .nil))) (.cons (.pr .toInt (.cons (.pr .eq (.cons (.call 201 (.cons (.var 0) (.cons (.cst (.int 8)) .nil))) (.cons (.cst (.int 7)) .nil))) .nil)) .nil))) .nil))) .nil)))) (.cons (.asg (.nm 2) (.pr .ix (.cons (.lst (.cons (.cst (.int 2)) (.cons (.cst (.int 3)) (.cons (.cst (.int 5)) (.cons (.cst (.int 16)) (.cons (.pr .sub (.cons (.pr .pow (.cons (.cst (.int 10)) (.cons (.cst (.int 60)) .nil))) (.cons (.cst (.int 1)) .nil))) .nil)))))) (.cons (.call 201 (.cons (.var 0) (.cons (.cst (.int 5)) .nil))) .nil)))) (.cons (.ret (.tup (.cons (.comp [3] true (.rng1 (.var 1)) .yes (.call 22 (.cons (.var 0) (.cons (.var 1) (.cons (.var 2) .nil)))) [3]) (.cons (.var 2) .nil)))) .nil)))
def f_law_machine : Fn := ⟨⟨("_law_machine", none), "_law_machine", "_law_machine", defArgs (tp 44), defBody (tp 44), defScope (tp 44), [], []⟩, [("deck" : Str)], [("deck" : Str), ("many" : Str), ("scale" : Str), ("k" : Str)], ⟨1, 4, d_law_machine⟩⟩
def d_law_stand : Ss := (.cons (.asg (.nm 3) (.len (.var 1))) (.cons (.asg (.nm 4) (.call 201 (.cons (.var 0) (.cons (.cst (.int 8)) .nil)))) (.cons (.asg (.nm 5) (.lst .nil)) (.cons (.foor (.nm 6) (.rng1 (.cst (.int 4))) (.cons (.asg (.nm 7) (.tup (.cons (.pr .max (.cons (.var 4) (.cons (.call 201 (.cons (.var 0) (.cons (.cst (.int 8)) .nil))) .nil))) (.cons (.call 201 (.cons (.var 0) (.cons (.var 3) .nil))) (.cons (.pr .ix (.cons (.lst (.cons (.cst (.int 0)) (.cons (.cst (.int 0)) (.cons (.cst (.int 0)) (.cons (.cst (.int 1)) (.cons (.cst (.int 2)) (.cons (.cst (.int 5)) .nil))))))) (.cons (.call 201 (.cons (.var 0) (.cons (.cst (.int 6)) .nil))) .nil))) .nil))))) (.cons (.ex (.lm .append (.var 5) (.cons (.pr .ix (.cons (.lst (.cons (.var 7) (.cons (.var 7) (.cons (.cst .non) .nil)))) (.cons (.call 201 (.cons (.var 0) (.cons (.cst (.int 3)) .nil))) .nil))) .nil))) .nil))) (.cons (.asg (.nm 8) (.comp [9] true (.of (.var 1)) .yes (.pr .ix (.cons (.var 9) (.cons (.cst (.int 3)) .nil))) [9])) (.cons (.iff (.pr .eq (.cons (.call 201 (.cons (.var 0) (.cons (.cst (.int 2)) .nil))) (.cons (.cst (.int 0)) .nil))) (.cons (.asg (.nm 8) (.comp [11] true (.of (.var 8)) .yes (.pr .toTuple (.cons (.comp [10] true (.of (.var 11)) .yes (.call 21 (.cons (.var 0) (.cons (.var 3) (.cons (.var 2) .nil)))) [10]) .nil)) [11])) .nil) .nil) (.cons (.ret (.tup (.cons (.var 4) (.cons (.call 201 (.cons (.var 0) (.cons (.pr .min (.cons (.var 2) (.cons (.pr .pow (.cons (.cst (.int 10)) (.cons (.cst (.int 9)) .nil))) .nil))) .nil))) (.cons (.pr .toTuple (.cons (.var 5) .nil)) (.cons (.pr .toTuple (.cons (.var 8) .nil)) .nil)))))) .nil)))))))
def f_law_stand : Fn := ⟨⟨("_law_stand", none), "_law_stand", "_law_stand", defArgs (tp 45), defBody (tp 45), defScope (tp 45), [], []⟩, [("deck" : Str), ("segments" : Str), ("scale" : Str)], [("deck" : Str), ("segments" : Str), ("scale" : Str), ("many" : Str), ("home" : Str), ("pointers" : Str), ("k" : Str), ("one" : Str), ("memory" : Str), ("segment" : Str), ("word" : Str), ("words" : Str)], ⟨3, 12, d_law_stand⟩⟩
def d_law_same : Ss := (.cons (.iff (.pr .ne (.cons (.pr (.isI 3) (.cons (.var 0) .nil)) (.cons (.pr (.isI 3) (.cons (.var 1) .nil)) .nil))) (.cons (.ret (.cst (.bl false))) .nil) .nil) (.cons (.iff (.pr .ne (.cons (.pr (.isI 4) (.cons (.var 0) .nil)) (.cons (.pr (.isI 4) (.cons (.var 1) .nil)) .nil))) (.cons (.ret (.cst (.bl false))) .nil) .nil) (.cons (.iff (.pr (.isT [3, 4]) (.cons (.var 1) .nil)) (.cons (.iff (.pr .ne (.cons (.len (.var 0)) (.cons (.len (.var 1)) .nil))) (.cons (.ret (.cst (.bl false))) .nil) .nil) (.cons (.ret (.pr .all (.cons (.comp [2] true (.rng1 (.len (.var 1))) .yes (.call 204 (.cons (.pr .ix (.cons (.var 0) (.cons (.var 2) .nil))) (.cons (.pr .ix (.cons (.var 1) (.cons (.var 2) .nil))) .nil))) [2]) .nil))) .nil)) .nil) (.cons (.iff (.pr .isN (.cons (.var 1) .nil)) (.cons (.ret (.pr .isN (.cons (.var 0) .nil))) .nil) .nil) (.cons (.iff (.pr (.isT [0, 2]) (.cons (.var 1) .nil)) (.cons (.ret (.and (.pr .eq (.cons (.pr (.isI 0) (.cons (.var 0) .nil)) (.cons (.pr (.isI 0) (.cons (.var 1) .nil)) .nil))) (.pr .eq (.cons (.var 0) (.cons (.var 1) .nil))))) .nil) .nil) (.cons (.ret (.and (.pr (.isI 1) (.cons (.var 0) .nil)) (.and (.not (.pr (.isI 0) (.cons (.var 0) .nil))) (.pr .eq (.cons (.var 0) (.cons (.var 1) .nil)))))) .nil))))))
def f_law_same : Fn := ⟨⟨("_law_same", none), "_law_same", "_law_same", defArgs (tp 46), defBody (tp 46), defScope (tp 46), [], []⟩, [("found" : Str), ("due" : Str)], [("found" : Str), ("due" : Str), ("k" : Str)], ⟨2, 3, d_law_same⟩⟩
def d_law_refused : Ss := (.cons (.asg (.nm 2) (.cst .non)) (.cons (.tryK (.cons (.ex (.call 48 (.cons (.var 0) (.cons (.var 1) .nil)))) .nil) 100 3 false 2) (.cons (.iff (.isx [103, 101, 109, 102, 108, 104, 106, 107] (.var 2)) (.cons (.ret (.cst (.bl false))) .nil) .nil) (.cons (.ret (.and (.isx [105] (.var 2)) (.and (.isx [99] (.var 2)) (.call 204 (.cons (.xw 100 (.var 2)) (.cons (.var 1) .nil)))))) .nil))))
def f_law_refused : Fn := ⟨⟨("_law_refused", none), "_law_refused", "_law_refused", defArgs (tp 47), defBody (tp 47), defScope (tp 47), [], []⟩, [("scene" : Str), ("number" : Str)], [("scene" : Str), ("number" : Str), ("caught" : Str), ("e" : Str)], ⟨2, 4, d_law_refused⟩⟩
def d_law : Ss := (.cons (.asg (.nm 1) (.call 200 (.cons (.var 0) .nil))) (.cons (.asg (.nm 2) (.pr .add (.cons (.call 201 (.cons (.var 1) (.cons (.pr .pow (.cons (.cst (.int 10)) (.cons (.cst (.int 9)) .nil))) .nil))) (.cons (.pr .pow (.cons (.cst (.int 10)) (.cons (.cst (.int 59)) .nil))) .nil)))) (.cons (.asg (.tup (.cons (.nm 3) (.cons (.nm 4) .nil))) (.call 202 (.cons (.var 1) .nil))) (.cons (.asg (.nm 5) (.makeP 0 (.cons (.pr .toList (.cons (.var 3) .nil)) (.cons (.var 4) .nil)) [0, 1, 2] [])) (.cons (.foor (.nm 6) (.rng1 (.cst (.int 8))) (.cons (.asg (.nm 7) (.tup (.cons (.var 6) (.cons (.cst (.int 0)) (.cons (.tup (.cons (.cst .non) (.cons (.cst .non) (.cons (.cst .non) (.cons (.cst .non) .nil))))) (.cons (.pr .toTuple (.cons (.comp [8] true (.of (.var 3)) .yes (.pr .ix (.cons (.var 8) (.cons (.cst (.int 3)) .nil))) [8]) .nil)) .nil)))))) (.cons (.iff (.or (.not (.call 204 (.cons (.call 48 (.cons (.var 5) (.cons (.var 6) .nil))) (.cons (.var 7) .nil)))) (.not (.call 204 (.cons (.callP 48 (.cons (.var 6) (.cons (.var 5) .nil)) [1, 0] []) (.cons (.var 7) .nil))))) (.cons (.ret (.cst (.bl false))) .nil) .nil) .nil))) (.cons (.ret (.pr .all (.cons (.comp [9] true (.of (.lst (.cons (.pr .neg (.cons (.cst (.int 1)) .nil)) (.cons (.cst (.int 8)) (.cons (.var 2) (.cons (.pr .sub (.cons (.cst (.int 0)) (.cons (.var 2) .nil))) (.cons (.cst (.int 9)) .nil))))))) .yes (.call 300 (.cons (.var 5) (.cons (.var 9) .nil))) [9]) .nil))) .nil))))))
def f_law : Fn := ⟨⟨("law", none), "law", "law", defArgs (tp 48), defBody (tp 48), defScope (tp 48), [], []⟩, [("script" : Str)], [("script" : Str), ("deck" : Str), ("far" : Str), ("segments" : Str), ("scale" : Str), ("scene" : Str), ("one" : Str), ("due" : Str), ("segment" : Str), ("number" : Str)], ⟨1, 10, d_law⟩⟩
def d_RingError__init : Ss := (.cons .stuck .nil)
def f_RingError__init : Fn := ⟨⟨("RingError", some ("__init__" : Str)), "__init__", "RingError.__init__", defArgs (inClass (tp 1) 0), defBody (inClass (tp 1) 0), defScope (inClass (tp 1) 0), [], []⟩, [("self" : Str), ("what" : Str)], [("self" : Str), ("what" : Str)], ⟨2, 2, d_RingError__init⟩⟩
def txt : Txt where
  fns := [(0, f_is_ring), (1, f_is_sound_word), (2, f_is_sound), (3, f_is_framed), (4, f_is_filled), (5, f_Machine__init), (6, f_Machine_segment), (7, f_Machine__len), (8, f_Machine__eq), (9, f_may_read), (10, f_may_write), (11, f_may_run), (12, f_may_call), (13, f_segments_of), (14, f_allowed), (19, f_law_number), (20, f_law_row), (21, f_law_word), (22, f_law_segment), (48, f_first), (123, f_RingError__init), (200, f_law_deck), (201, f_law_take), (202, f_law_machine), (203, f_law_stand), (204, f_law_same), (300, f_law_refused), (301, f_law)]
  cls := [⟨"Machine", 5, [(1, 6), (0, 7), (2, 8)], [0, 1]⟩]
  flN := [("segments_kept" : Str), ("base" : Str), ("machine" : Str), ("home" : Str), ("number" : Str), ("ring" : Str), ("pointers" : Str), ("memory" : Str), ("seat" : Str), ("place" : Str), ("kept" : Str), ("left" : Str), ("steps" : Str), ("touches" : Str), ("menu" : Str), ("limit" : Str), ("line" : Str), ("came" : Str), ("known" : Str), ("gone" : Str), ("machines" : Str), ("machine_kept" : Str), ("stand_kept" : Str), ("past_kept" : Str)]
  mtN := [("__len__" : Str), ("segment" : Str), ("__eq__" : Str), ("pointer" : Str), ("reached" : Str), ("read" : Str), ("write" : Str), ("raised" : Str), ("entered" : Str), ("do" : Str), ("step" : Str), ("ended" : Str), ("next_one" : Str), ("row_to" : Str), ("way_to" : Str), ("are_alike" : Str), ("told" : Str), ("parting" : Str), ("found" : Str), ("begin" : Str), ("back" : Str), ("touch" : Str), ("see" : Str), ("show" : Str), ("alone" : Str), ("say" : Str)]
  mtA := [1, 2, 2, 2, 3, 2, 3, 2, 2, 2, 1, 2, 1, 2, 2, 2, 3, 1, 3, 3, 1, 2, 2, 1, 2, 2]
  frees := [("ValueError" : Str), ("abs" : Str), ("all" : Str), ("bool" : Str), ("enumerate" : Str), ("int" : Str), ("isinstance" : Str), ("len" : Str), ("list" : Str), ("max" : Str), ("min" : Str), ("range" : Str), ("str" : Str), ("tuple" : Str), ("zip" : Str)]
  cons := [(0, "MOST_RING", .int (7)), (1, "MANY_POINTERS", .int (4)), (2, "BASE", .int (16)), (3, "MOST_SEGMENTS", .int (8)), (4, "MOST_WORDS", .int (16)), (5, "MOST_ROWS", .int (24)), (6, "RIGHTS", (.tup [.str [], .str [114], .str [119], .str [120], .str [114, 119], .str [114, 120], .str [119, 120], .str [114, 119, 120]])), (9, "NOTHING", (.tup [.non, .non, .non, .non]))]
  dics := [("PARTS", [([115, 101, 116], .str [110]), ([97, 100, 100], .str [110]), ([108, 111, 97, 100], .str [112, 110]), ([115, 116, 111, 114, 101], .str [112, 110]), ([102, 101, 116, 99, 104], .str [112, 112, 110]), ([107, 101, 101, 112], .str [112, 112, 110]), ([97, 105, 109], .str [112, 115, 110]), ([109, 111, 118, 101], .str [112, 112, 110]), ([122, 101, 114, 111], .str [110]), ([103, 111], .str [110]), ([99, 97, 108, 108], .str [112]), ([114, 101, 116, 117, 114, 110], .str [])])]
  pls := fun i => decide (i ∈ [0, 1, 2, 3, 4, 6, 7, 8, 9, 10, 11, 12, 13, 14, 19, 20, 21, 22, 48, 123, 200, 201, 202, 203, 204, 300, 301])
  ff := fun f n ks pk dd => (decide (f = 48) && decide (n = 0) && decide (ks = [("ring" : Str), ("machine" : Str)]) && decide (pk = [1, 0]) && dd.isEmpty)
  fm := fun c n ks pk dd => (decide (c = 0) && decide (n = 1) && decide (ks = [("base" : Str)]) && decide (pk = [0, 1, 2]) && dd.isEmpty)
  exs := [⟨"RingError", [0, 10], 123, "what", true⟩, ⟨"NoMachine", [0, 1, 10], 123, "what", true⟩, ⟨"NoSegment", [0, 2, 10], 123, "what", true⟩, ⟨"NoDeed", [0, 3, 10], 123, "what", true⟩, ⟨"NoWish", [0, 4, 10], 123, "what", true⟩, ⟨"NoRing", [0, 5, 10], 123, "what", true⟩, ⟨"TooMany", [0, 6, 10], 123, "what", true⟩, ⟨"Unlike", [0, 7, 10], 123, "what", true⟩, ⟨"NoText", [0, 8, 10], 123, "what", true⟩, ⟨"NoRow", [0, 9, 10], 123, "what", true⟩, ⟨"RingError", [0, 10], 123, "what", true⟩]
def loose : List Str := [("is_ring" : Str), ("is_sound_word" : Str), ("is_sound" : Str), ("is_framed" : Str), ("is_filled" : Str), ("may_read" : Str), ("may_write" : Str), ("may_run" : Str), ("may_call" : Str), ("segments_of" : Str), ("allowed" : Str), ("first" : Str), ("_law_deck" : Str), ("_law_take" : Str), ("_law_number" : Str), ("_law_word" : Str), ("_law_row" : Str), ("_law_segment" : Str), ("_law_machine" : Str), ("_law_stand" : Str), ("_law_same" : Str), ("_law_refused" : Str), ("RingError" : Str), ("NoMachine" : Str), ("NoSegment" : Str), ("NoDeed" : Str), ("NoWish" : Str), ("NoRing" : Str), ("TooMany" : Str), ("Unlike" : Str), ("NoText" : Str), ("NoRow" : Str), ("Machine" : Str), ("MOST_RING" : Str), ("MANY_POINTERS" : Str), ("BASE" : Str), ("MOST_SEGMENTS" : Str), ("MOST_WORDS" : Str), ("MOST_ROWS" : Str), ("RIGHTS" : Str), ("NOTHING" : Str), ("PARTS" : Str)]
def lawAt : Nat := 48
end RG.K

end

section
namespace RG.K
open PySem PySem.Spec L2 PyProof.Rows RG
theorem c_cls : txt.clsC = true := by decide +kernel
theorem c_nam : txt.namC = true := by decide +kernel
theorem c_fns : (txt.fl.all (txt.fnC 40)) = true := by decide +kernel
theorem c_xs : txt.xsC = true := by decide +kernel
end RG.K

end

section
namespace RG.K
open PySem PySem.Spec L2 PyProof.Rows RG
abbrev R : PySem.W.OpenRow := PySem.W.OpenLaw.row PySem.Challenge.rw_ringgates_k10_first_stands
abbrev hk : PySem.W.Hook := He.hookX 6 txt.fa txt.fnl txt.ts [] txt.ex
def ob (s : PySem.W.SharedT) : He.AlX := He.obsX 6 txt.fa txt.fnl txt.ts [] txt.ex (HandSHeadRun.getT s)
theorem ob_eq (s : PySem.W.SharedT) : ob s = hk.obs s.abs := He.obsX_eq (HandSHeadRun.getT_eq s)
theorem hrunF (w : World) : HandSHeadRun.RunEq R (PySem.W.view R.prog [48]) hk ob 4000 loose (w.withFollow "special-get-raises" false) := by
  intro os
  kernel_rfl
theorem hrunT (w : World) : HandSHeadRun.RunEq R (PySem.W.view R.prog [48]) hk ob 4000 loose (w.withFollow "special-get-raises" true) := by
  intro os
  kernel_rfl
theorem hrun (w : World) : HandSHeadRun.RunEq R (PySem.W.view R.prog [48]) hk ob 4000 loose w := PySem.W.byRow2 "special-get-raises" hrunF hrunT w
end RG.K

end

section
namespace RG.K
open PySem PySem.Spec L2 PyProof.Rows RG
theorem c_bind (i : Nat) (f : Fn) (K : PySem.W.Frag) (fd : FuncData) (e : txt.fn? i = some f) (hp : txt.pls i = true) (F : FunD K f.d.name f.d.qual f.d.params f.d.body f.d.scope (f.d.dvs K) (f.d.kws K) (He.fAd K f.d.at_) fd) : Binds K fd f.ps [] := by
  have hm : (i, f) ∈ [(0, f_is_ring), (1, f_is_sound_word), (2, f_is_sound), (3, f_is_framed), (4, f_is_filled), (5, f_Machine__init), (6, f_Machine_segment), (7, f_Machine__len), (8, f_Machine__eq), (9, f_may_read), (10, f_may_write), (11, f_may_run), (12, f_may_call), (13, f_segments_of), (14, f_allowed), (19, f_law_number), (20, f_law_row), (21, f_law_word), (22, f_law_segment), (48, f_first), (123, f_RingError__init), (200, f_law_deck), (201, f_law_take), (202, f_law_machine), (203, f_law_stand), (204, f_law_same), (300, f_law_refused), (301, f_law)] := Txt.fn_mem e
  rcases List.mem_cons.mp hm with hm | hm
  · cases hm; exact FunD.bindsN F fun _ _ _ _ _ _ us hl => match us, hl with | [_], _ => rfl
  rcases List.mem_cons.mp hm with hm | hm
  · cases hm; exact FunD.bindsN F fun _ _ _ _ _ _ us hl => match us, hl with | [_, _, _], _ => rfl
  rcases List.mem_cons.mp hm with hm | hm
  · cases hm; exact FunD.bindsN F fun _ _ _ _ _ _ us hl => match us, hl with | [_, _], _ => rfl
  rcases List.mem_cons.mp hm with hm | hm
  · cases hm; exact FunD.bindsN F fun _ _ _ _ _ _ us hl => match us, hl with | [_], _ => rfl
  rcases List.mem_cons.mp hm with hm | hm
  · cases hm; exact FunD.bindsN F fun _ _ _ _ _ _ us hl => match us, hl with | [_, _, _], _ => rfl
  rcases List.mem_cons.mp hm with hm | hm
  · cases hm; cases hp
  rcases List.mem_cons.mp hm with hm | hm
  · cases hm; exact FunD.bindsN F fun _ _ _ _ _ _ us hl => match us, hl with | [_, _], _ => rfl
  rcases List.mem_cons.mp hm with hm | hm
  · cases hm; exact FunD.bindsN F fun _ _ _ _ _ _ us hl => match us, hl with | [_], _ => rfl
  rcases List.mem_cons.mp hm with hm | hm
  · cases hm; exact FunD.bindsN F fun _ _ _ _ _ _ us hl => match us, hl with | [_, _], _ => rfl
  rcases List.mem_cons.mp hm with hm | hm
  · cases hm; exact FunD.bindsN F fun _ _ _ _ _ _ us hl => match us, hl with | [_, _], _ => rfl
  rcases List.mem_cons.mp hm with hm | hm
  · cases hm; exact FunD.bindsN F fun _ _ _ _ _ _ us hl => match us, hl with | [_, _], _ => rfl
  rcases List.mem_cons.mp hm with hm | hm
  · cases hm; exact FunD.bindsN F fun _ _ _ _ _ _ us hl => match us, hl with | [_, _], _ => rfl
  rcases List.mem_cons.mp hm with hm | hm
  · cases hm; exact FunD.bindsN F fun _ _ _ _ _ _ us hl => match us, hl with | [_, _], _ => rfl
  rcases List.mem_cons.mp hm with hm | hm
  · cases hm; exact FunD.bindsN F fun _ _ _ _ _ _ us hl => match us, hl with | [_], _ => rfl
  rcases List.mem_cons.mp hm with hm | hm
  · cases hm; exact FunD.bindsN F fun _ _ _ _ _ _ us hl => match us, hl with | [_, _], _ => rfl
  rcases List.mem_cons.mp hm with hm | hm
  · cases hm; exact FunD.bindsN F fun _ _ _ _ _ _ us hl => match us, hl with | [_], _ => rfl
  rcases List.mem_cons.mp hm with hm | hm
  · cases hm; exact FunD.bindsN F fun _ _ _ _ _ _ us hl => match us, hl with | [_, _], _ => rfl
  rcases List.mem_cons.mp hm with hm | hm
  · cases hm; exact FunD.bindsN F fun _ _ _ _ _ _ us hl => match us, hl with | [_, _, _], _ => rfl
  rcases List.mem_cons.mp hm with hm | hm
  · cases hm; exact FunD.bindsN F fun _ _ _ _ _ _ us hl => match us, hl with | [_, _, _], _ => rfl
  rcases List.mem_cons.mp hm with hm | hm
  · cases hm; exact FunD.bindsN F fun _ _ _ _ _ _ us hl => match us, hl with | [_, _], _ => rfl
  rcases List.mem_cons.mp hm with hm | hm
  · cases hm; exact FunD.bindsN F fun _ _ _ _ _ _ us hl => match us, hl with | [_, _], _ => rfl
  rcases List.mem_cons.mp hm with hm | hm
  · cases hm; exact FunD.bindsN F fun _ _ _ _ _ _ us hl => match us, hl with | [_], _ => rfl
  rcases List.mem_cons.mp hm with hm | hm
  · cases hm; exact FunD.bindsN F fun _ _ _ _ _ _ us hl => match us, hl with | [_, _], _ => rfl
  rcases List.mem_cons.mp hm with hm | hm
  · cases hm; exact FunD.bindsN F fun _ _ _ _ _ _ us hl => match us, hl with | [_], _ => rfl
  rcases List.mem_cons.mp hm with hm | hm
  · cases hm; exact FunD.bindsN F fun _ _ _ _ _ _ us hl => match us, hl with | [_, _, _], _ => rfl
  rcases List.mem_cons.mp hm with hm | hm
  · cases hm; exact FunD.bindsN F fun _ _ _ _ _ _ us hl => match us, hl with | [_, _], _ => rfl
  rcases List.mem_cons.mp hm with hm | hm
  · cases hm; exact FunD.bindsN F fun _ _ _ _ _ _ us hl => match us, hl with | [_, _], _ => rfl
  rcases List.mem_cons.mp hm with hm | hm
  · cases hm; exact FunD.bindsN F fun _ _ _ _ _ _ us hl => match us, hl with | [_], _ => rfl
  cases hm
theorem c_ff (P : Program) (w : World) (K : PySem.W.Frag) (mg : Str → Option Value) (base : Heap) (Fd : Nat → FuncData) (hF : ∀ (i : Nat) (f : Fn), txt.fn? i = some f → FunD K f.d.name f.d.qual f.d.params f.d.body f.d.scope (f.d.dvs K) (f.d.kws K) (He.fAd K f.d.at_) (Fd i)) (f n : Nat) (ks : List Str) (pk : List Nat) (dd : List D) (h : txt.ff f n ks pk dd = true) : Form (txt.gx P w K mg base) (txt.fo Fd) f n ks pk dd := by
  have h : ((decide (f = 48) && decide (n = 0) && decide (ks = [("ring" : Str), ("machine" : Str)]) && decide (pk = [1, 0]) && dd.isEmpty)) = true := h
  skip
  skip
  · simp only [Bool.and_eq_true, decide_eq_true_eq] at h
    simp only [List.isEmpty_iff] at h
    obtain ⟨⟨⟨⟨rfl, rfl⟩, rfl⟩, rfl⟩, rfl⟩ := h
    have F := hF 48 f_first rfl
    refine ⟨[], [], .nil, fun H p => .nil, fun s us ws kin hu hw => ?_⟩
    match us, ws, hu, hw with
    | [], [v0, v1], _, _ =>
      refine ⟨[v1, v0], rfl, rfl, ?_⟩
      show BindsTo s (Fd 48) _ _
      obtain ⟨oc, od, dV, kV, doc, pm, an, cdv, ct, osl, e, lk, hcd, hD, hK⟩ := F.ex
      rw [e]
      rcases hD with ⟨_, rfl⟩ | ⟨z, _⟩
      · exact .of_eq rfl
      · exact absurd rfl z
theorem c_fm (P : Program) (w : World) (K : PySem.W.Frag) (mg : Str → Option Value) (base : Heap) (Fd : Nat → FuncData) (hF : ∀ (i : Nat) (f : Fn), txt.fn? i = some f → FunD K f.d.name f.d.qual f.d.params f.d.body f.d.scope (f.d.dvs K) (f.d.kws K) (He.fAd K f.d.at_) (Fd i)) (c f n : Nat) (ks : List Str) (pk : List Nat) (dd : List D) (h : txt.fm c n ks pk dd = true) (hi : txt.tab.init c = some f) : FormM (txt.gx P w K mg base) (txt.fo Fd) f n ks pk dd := by
  have h : ((decide (c = 0) && decide (n = 1) && decide (ks = [("base" : Str)]) && decide (pk = [0, 1, 2]) && dd.isEmpty)) = true := h
  skip
  skip
  · simp only [Bool.and_eq_true, decide_eq_true_eq] at h
    simp only [List.isEmpty_iff] at h
    obtain ⟨⟨⟨⟨rfl, rfl⟩, rfl⟩, rfl⟩, rfl⟩ := h
    cases hi
    have F := hF 5 f_Machine__init rfl
    refine ⟨[], [], .nil, fun H p => .nil, fun s b us ws kin hu hw => ?_⟩
    match us, ws, hu, hw with
    | [u0], [v0], _, _ =>
      refine ⟨[b, u0, v0], rfl, rfl, ?_⟩
      show BindsTo s (Fd 5) _ _
      obtain ⟨oc, od, dV, kV, doc, pm, an, cdv, ct, osl, e, lk, hcd, hD, hK⟩ := F.ex
      rw [e]
      rcases hD with ⟨_, rfl⟩ | ⟨z, _⟩
      · exact .of_eq rfl
      · exact absurd rfl z
theorem ok : TxtOk txt 40 where
  cls := c_cls
  nam := c_nam
  fns := fun f hf => List.all_eq_true.mp c_fns f hf
  xs := c_xs
  pl := fun i h => by
    have h : i ∈ [0, 1, 2, 3, 4, 6, 7, 8, 9, 10, 11, 12, 13, 14, 19, 20, 21, 22, 48, 123, 200, 201, 202, 203, 204, 300, 301] := of_decide_eq_true h
    simp only [List.mem_cons, List.not_mem_nil, or_false] at h
    rcases h with rfl | rfl | rfl | rfl | rfl | rfl | rfl | rfl | rfl | rfl | rfl | rfl | rfl | rfl | rfl | rfl | rfl | rfl | rfl | rfl | rfl | rfl | rfl | rfl | rfl | rfl | rfl <;> exact ⟨_, rfl⟩
  bind := c_bind
  ff := c_ff
  fm := c_fm
end RG.K
open PySem PySem.W PySem.Calls PyProof.Rows
theorem RG.K.holds_of (plain : ∀ ns : List Int, ns.length ≤ 63 → ∃ h', RG.run RG.K.txt.tab 30 301 [.scr ns] [] = .ok (.bl true) h') : PySem.Challenge.rw_ringgates_k10_first_stands.Holds := by
  w_on; o_law
  refine HandSHeadRun.head_any (r := OpenLaw.row PySem.Challenge.rw_ringgates_k10_first_stands) (q := view (OpenLaw.row PySem.Challenge.rw_ringgates_k10_first_stands).prog [48]) (H := RG.K.hk) (ob := RG.K.ob) (M := 4000) (loose := RG.K.loose) (d := HandSHeadRun.topDef (OpenLaw.row PySem.Challenge.rw_ringgates_k10_first_stands).prog 48) (kwd := []) RG.K.ob_eq
    (by kernel_rfl) (fun s => by kernel_rfl) RG.K.hrun (by kernel_rfl) (by kernel_rfl) (by kernel_rfl) (by rfl) (by first | assumption | decide +kernel) (by decide +kernel) ⟨rfl, rfl, rfl, rfl, rfl, by decide +kernel⟩ ?hw ?hc
  case hw => w_witness2
  case hc =>
    exact RG.law_walk RG.K.txt 40 63 30 301 RG.K.f_law RG.K.ok rfl (by decide) (by kernel_rfl) ⟨rfl, by decide, by decide⟩ rfl (by kernel_rfl) rfl rfl (fun _ _ _ _ _ _ us hl => match us, hl with | [_], _ => rfl) plain

end

section
namespace RG.K
open PySem L2 RG
section
variable (i j : Int) (h : Mem) (l : List D) (s : List Nat) (b : Bool)
@[simp] theorem P_add : evP .add [.int i, .int j] h = .ok (.int (i + j)) h := rfl
@[simp] theorem P_sub : evP .sub [.int i, .int j] h = .ok (.int (i - j)) h := rfl
@[simp] theorem P_lt : evP .lt [.int i, .int j] h = .ok (.bl (decide (i < j))) h := rfl
@[simp] theorem P_le : evP .le [.int i, .int j] h = .ok (.bl (decide (i ≤ j))) h := rfl
@[simp] theorem P_gt : evP .gt [.int i, .int j] h = .ok (.bl (decide (j < i))) h := rfl
@[simp] theorem P_ge : evP .ge [.int i, .int j] h = .ok (.bl (decide (j ≤ i))) h := rfl
end
abbrev T : Tab := txt.tab
theorem T0 : T.defs 0 = some ⟨1, 1, d_is_ring⟩ := rfl
theorem p_is_ring (n : Nat) (x : Int) (h : Mem) : run T (n + 2) 0 [.int x] h = .ok (.bl (decide (0 ≤ x) && decide (x ≤ 7))) h := by
  have g : (clAt T (run T (n + 1)) (run T n)).t.glo 0 = some (.int 7) := rfl
  unfold run
  rw [T0]
  by_cases h0 : 0 ≤ x <;> by_cases h7 : x ≤ 7 <;> simp [d_is_ring, excs, exc, ev, evs, h0, h7, g]
end RG.K

end

section
namespace RG.K
open PySem L2 RG
section
variable (i j : Int) (h : Mem) (l : List D) (s : List Nat) (b : Bool)
theorem P_ixT : evP .ix [.tup l, .int i] h = (match atI l i with | some d => .ok d h | none => .stuck) := rfl
theorem atI_nat {a : Type} (l : List a) (k : Nat) (hk : k < l.length) : atI l (k : Int) = some l[k] := by
  have h1 : ¬ ((k : Int) < 0) := by omega
  have h2 : (k : Int) < l.length := by omega
  simp [atI, ixN, hk]
@[simp] theorem P_ixT0 (x : D) : evP .ix [.tup (x :: l), .int 0] h = .ok x h := by rw [P_ixT]; rw [show (0 : Int) = ((0 : Nat) : Int) from rfl, atI_nat _ 0 (by simp)]; rfl
@[simp] theorem P_ixT1 (x y : D) : evP .ix [.tup (x :: y :: l), .int 1] h = .ok y h := by rw [P_ixT]; rw [show (1 : Int) = ((1 : Nat) : Int) from rfl, atI_nat _ 1 (by simp)]; rfl
@[simp] theorem P_ixT2 (x y z : D) : evP .ix [.tup (x :: y :: z :: l), .int 2] h = .ok z h := by rw [P_ixT]; rw [show (2 : Int) = ((2 : Nat) : Int) from rfl, atI_nat _ 2 (by simp)]; rfl
@[simp] theorem P_inS (c : Nat) : evP .inn [.str [c], .str s] h = .ok (.bl (decide (c ∈ s))) h := rfl
@[simp] theorem t_bl : tru (.bl b) h = .ok b h := rfl
end
def segD (a b c : Int) (rt : List Nat) (g : Int) (ws rs : List D) : D := .tup [.tup [.int a, .int b, .int c], .str rt, .int g, .tup ws, .tup rs]
end RG.K

end

section
namespace RG.K
open PySem L2 RG
section
variable (i j : Int) (h : Mem) (l m : List D) (s t : List Nat) (b c : Bool)
theorem P_eq (x y : D) {r : Bool} (e : eqO h x y = some r) : evP .eq [x, y] h = .ok (.bl r) h := by
  show (match eqO h x y with | some r => Out.ok (D.bl r) h | none => .stuck) = _
  rw [e]
theorem P_ne (x y : D) {r : Bool} (e : eqO h x y = some r) : evP .ne [x, y] h = .ok (.bl (!r)) h := by
  show (match eqO h x y with | some r => Out.ok (D.bl (!r)) h | none => .stuck) = _
  rw [e]
@[simp] theorem P_eqI : evP .eq [.int i, .int j] h = .ok (.bl (decide (i = j))) h := P_eq _ _ _ eqO_int
@[simp] theorem P_neI : evP .ne [.int i, .int j] h = .ok (.bl (!decide (i = j))) h := P_ne _ _ _ eqO_int
@[simp] theorem P_eqB : evP .eq [.bl b, .bl c] h = .ok (.bl (decide (b = c))) h := P_eq _ _ _ eqO_bl
@[simp] theorem P_neB : evP .ne [.bl b, .bl c] h = .ok (.bl (!decide (b = c))) h := P_ne _ _ _ eqO_bl
@[simp] theorem P_lenT : evP .len [.tup l] h = .ok (.int l.length) h := rfl
end
/-- words -/
abbrev sNum : List Nat := [110, 117, 109]
abbrev sPtr : List Nat := [112, 116, 114]
def WordOk (many base : Int) (d : D) : Prop := (∃ v, d = .tup [.str sNum, .int v] ∧ 0 ≤ v ∧ v < base) ∨ ∃ r s p, d = .tup [.str sPtr, .int r, .int s, .int p] ∧ 0 ≤ r ∧ r ≤ 7 ∧ 0 ≤ s ∧ s < many ∧ 0 ≤ p
variable (n : Nat) (h : Mem)
theorem T1 : T.defs 1 = some ⟨3, 7, d_is_sound_word⟩ := rfl
theorem p_word {many base : Int} {d : D} (w : WordOk many base d) : run T (n + 3) 1 [d, .int many, .int base] h = .ok (.bl true) h := by
  have g : ∀ x h, (clAt T (run T (n + 2)) (run T (n + 1))).cal 0 [.int x] h = .ok (.bl (decide (0 ≤ x) && decide (x ≤ 7))) h := fun x h => p_is_ring n x h
  unfold run
  rw [T1]
  rcases w with ⟨v, rfl, h1, h2⟩ | ⟨r, s, p, rfl, h1, h2, h3, h4, h5⟩
  · have e := P_eq h (.str sNum) (.str sNum) (eqO_str (by decide +kernel) (by decide +kernel))
    simp [d_is_sound_word, excs, exc, ev, evs, e, h1, h2]
  · have e := P_eq h (.str sPtr) (.str sNum) (eqO_str (by decide +kernel) (by decide +kernel))
    simp [d_is_sound_word, excs, exc, ev, evs, e, asg, asgs, asgS, g, h1, h2, h3, h4, h5]
end RG.K

end

section
namespace RG.K
open PySem L2 RG
def parts : List (D × D) := [([115, 101, 116], [110]), ([97, 100, 100], [110]), ([108, 111, 97, 100], [112, 110]), ([115, 116, 111, 114, 101], [112, 110]), ([102, 101, 116, 99, 104], [112, 112, 110]), ([107, 101, 101, 112], [112, 112, 110]), ([97, 105, 109], [112, 115, 110]), ([109, 111, 118, 101], [112, 112, 110]), ([122, 101, 114, 111], [110]), ([103, 111], [110]), ([99, 97, 108, 108], [112]), ([114, 101, 116, 117, 114, 110], [])].map fun kv => (D.str kv.1, D.str kv.2)
theorem T2 : T.defs 2 = some ⟨2, 7, d_is_sound⟩ := rfl
theorem Tk : T.kdc 0 = some parts := rfl
def RowOk (many : Int) (d : D) : Prop := ∃ w args ps, d = .tup (.str w :: args) ∧ kget (.str w) parts = some (.str ps) ∧
  ((ps = [110] ∧ ∃ n, args = [.int n]) ∨ (ps = [112, 110] ∧ ∃ p n, args = [.int p, .int n] ∧ 0 ≤ p ∧ p < 4) ∨ (ps = [112, 112, 110] ∧ ∃ q p n, args = [.int q, .int p, .int n] ∧ 0 ≤ q ∧ q < 4 ∧ 0 ≤ p ∧ p < 4) ∨
    (ps = [112, 115, 110] ∧ ∃ q s n, args = [.int q, .int s, .int n] ∧ 0 ≤ q ∧ q < 4 ∧ 0 ≤ s ∧ s < many) ∨ (ps = [112] ∧ ∃ p, args = [.int p] ∧ 0 ≤ p ∧ p < 4) ∨ (ps = [] ∧ args = []))
variable (n : Nat) (h : Mem)
theorem P_inD {h : Mem} {k : Nat} {kvs : List (D × D)} {s : Nat} (e : h[k]? = some (.dct kvs)) : evP .inn [.str [s], .ref k] h = .ok (.bl (kget (.str [s]) kvs).isSome) h := by
  have : evP .inn [.str [s], .ref k] h = (match h[k]? with | some (.dct kvs) => if isKey (.str [s]) then Out.ok (D.bl (kget (.str [s]) kvs).isSome) h else .stuck | _ => match inO h (.str [s]) (.ref k) with | some r => Out.ok (D.bl r) h | none => .stuck) := rfl
  rw [this, e]
  rfl
theorem P_ixD {h : Mem} {k : Nat} {kvs : List (D × D)} {s : List Nat} {v : D} (e : h[k]? = some (.dct kvs)) (e2 : kget (.str s) kvs = some v) : evP .ix [.ref k, .str s] h = .ok v h := by
  have : evP .ix [.ref k, .str s] h = ixRef k (.str s) h := rfl
  rw [this]
  unfold ixRef
  rw [e]
  dsimp only
  rw [e2]
  rfl
theorem rd_app {h : Mem} {l : List D} {x : List O} : rd (h ++ .lst l :: x) h.length = some l := by
  unfold rd; simp
theorem p_row {many : Int} {d : D} (w : RowOk many d) : ∃ ext, run T (n + 2) 2 [d, .int many] h = .ok (.bl true) (h ++ ext) := by
  obtain ⟨w, args, ps, rfl, hk, hh⟩ := w
  have k : (clAt T (run T (n + 1)) (run T n)).t.kdc 0 = some parts := rfl
  have g : (clAt T (run T (n + 1)) (run T n)).t.glo 1 = some (.int 4) := rfl
  have dm : dmk [.str [112], .str [115]] [.int 4, .int many] [] = [(.str [112], .int 4), (.str [115], .int many)] := by simp [dmk, kput, eqF]
  have st : (h ++ [O.lst args, O.dct []]).set (h.length + 1) (O.dct [(.str [112], .int 4), (.str [115], .int many)]) = h ++ [O.lst args, O.dct [(.str [112], .int 4), (.str [115], .int many)]] := by
    rw [List.set_append_right _ _ (by omega)]
    simp
  have hd : (h ++ [O.lst args, O.dct [(.str [112], .int 4), (.str [115], .int many)]])[h.length + 1]? = some (O.dct [(.str [112], .int 4), (.str [115], .int many)]) := by
    rw [List.getElem?_append_right (by omega)]
    simp
  have k1 : kget (.str [112]) [(.str [112], .int 4), (.str [115], .int many)] = some (D.int 4) := by simp [kget, eqF]
  have k2 : kget (.str [115]) [(.str [112], .int 4), (.str [115], .int many)] = some (D.int many) := by simp [kget, eqF]
  have k3 : kget (.str [110]) [(.str [112], .int 4), (.str [115], .int many)] = none := by simp [kget, eqF]
  have i1 := P_inD (s := 112) hd
  have i2 := P_inD (s := 115) hd
  have i3 := P_inD (s := 110) hd
  have x1 := P_ixD hd k1
  have x2 := P_ixD hd k2
  rw [k1] at i1
  rw [k2] at i2
  rw [k3] at i3
  refine ⟨[O.lst args, O.dct [(.str [112], .int 4), (.str [115], .int many)]], ?_⟩
  unfold run
  rw [T2]
  rcases hh with ⟨rfl, n, rfl⟩ | ⟨rfl, p, n, rfl, q1, q2⟩ | ⟨rfl, q, p, n, rfl, q1, q2, q3, q4⟩ | ⟨rfl, q, s, n, rfl, q1, q2, q3, q4⟩ | ⟨rfl, p, rfl, q1, q2⟩ | ⟨rfl, rfl⟩
  · simp [d_is_sound, excs, exc, ev, evs, evI, asg, asgs, asgS, k, g, hk, dm, st, srcS, srcOf, rd_app, chars, forL, Src.ok, i1, i2, i3, x1, x2]
  · simp [d_is_sound, excs, exc, ev, evs, evI, asg, asgs, asgS, k, g, hk, dm, st, srcS, srcOf, rd_app, chars, forL, Src.ok, i1, i2, i3, x1, x2, q1, q2]
  · simp [d_is_sound, excs, exc, ev, evs, evI, asg, asgs, asgS, k, g, hk, dm, st, srcS, srcOf, rd_app, chars, forL, Src.ok, i1, i2, i3, x1, x2, q1, q2, q3, q4]
  · simp [d_is_sound, excs, exc, ev, evs, evI, asg, asgs, asgS, k, g, hk, dm, st, srcS, srcOf, rd_app, chars, forL, Src.ok, i1, i2, i3, x1, x2, q1, q2, q3, q4]
  · simp [d_is_sound, excs, exc, ev, evs, evI, asg, asgs, asgS, k, g, hk, dm, st, srcS, srcOf, rd_app, chars, forL, Src.ok, i1, i2, i3, x1, x2, q1, q2]
  · simp [d_is_sound, excs, exc, ev, evs, evI, asg, asgs, asgS, k, g, hk, dm, st, srcS, srcOf, rd_app, chars, forL, Src.ok, i1, i2, i3, x1, x2]
end RG.K

end

section
namespace RG.K
open PySem L2 RG
def rights : List (List Nat) := [[], [114], [119], [120], [114, 119], [114, 120], [119, 120], [114, 119, 120]]
def SegOk (many base : Int) (d : D) : Prop := ∃ a b c rt g ws rs, d = segD a b c rt g ws rs ∧ (0 ≤ a ∧ a ≤ b ∧ b ≤ c ∧ c ≤ 7) ∧ rt ∈ rights ∧ (0 ≤ g ∧ g ≤ rs.length) ∧ ws.length ≤ 16 ∧ rs.length ≤ 24 ∧ (∀ w ∈ ws, WordOk many base w) ∧ ∀ r ∈ rs, RowOk many r
variable (n : Nat) (h : Mem)
theorem T3 : T.defs 3 = some ⟨1, 9, d_is_framed⟩ := rfl
theorem T4 : T.defs 4 = some ⟨3, 7, d_is_filled⟩ := rfl
theorem P_inR {rt : List Nat} (k : rt ∈ rights) : evP .inn [.str rt, .tup (rights.map .str)] h = .ok (.bl true) h := by
  unfold rights at k
  simp only [List.mem_cons, List.not_mem_nil, or_false] at k
  rcases k with rfl | rfl | rfl | rfl | rfl | rfl | rfl | rfl <;> rfl
theorem p_framed {many base : Int} {d : D} (w : SegOk many base d) : run T (n + 3) 3 [d] h = .ok (.bl true) h := by
  obtain ⟨a, b, c, rt, g, ws, rs, rfl, ⟨a1, a2, a3, a4⟩, hr, ⟨g1, g2⟩, _⟩ := w
  have gl : (clAt T (run T (n + 2)) (run T (n + 1))).t.glo 6 = some (.tup (rights.map .str)) := rfl
  have ri : ∀ x h, (clAt T (run T (n + 2)) (run T (n + 1))).cal 0 [.int x] h = .ok (.bl (decide (0 ≤ x) && decide (x ≤ 7))) h := fun x h => p_is_ring n x h
  have i := P_inR h hr
  have b1 : 0 ≤ c := by omega
  have b2 : a ≤ 7 := by omega
  unfold run
  rw [T3]
  simp [d_is_framed, segD, excs, exc, ev, evs, asg, asgs, asgS, gl, ri, i, a1, a2, a3, a4, b1, b2, g1, g2]
theorem P_sl3 (x y z u v : D) : evP .slLo [.tup [x, y, z, u, v], .int 3] h = .ok (.tup [u, v]) h := by
  show slc (.tup [x, y, z, u, v]) (some 3) none h = _
  simp [slc, cut, HT.sIx]
theorem fil_true : ∀ l : List D, (l.filter fun _ => true).map (fun _ => D.bl true) = (List.replicate l.length true).map D.bl
  | [] => rfl
  | x :: l => by
    have := fil_true l
    simp only [List.filter_cons, if_true, List.map_cons, List.length_cons, List.replicate_succ] at this ⊢
    rw [this]
theorem p_filled {many base : Int} {d : D} (w : SegOk many base d) : wpO (run T (n + 4) 4 [d, .int many, .int base] h) fun v h' => v = .bl true ∧ h <+: h' := by
  obtain ⟨a, b, c, rt, g, ws, rs, rfl, _, hr, _, w1, w2, w3, w4⟩ := w
  have g4 : (clAt T (run T (n + 3)) (run T (n + 2))).t.glo 4 = some (.int 16) := rfl
  have g5 : (clAt T (run T (n + 3)) (run T (n + 2))).t.glo 5 = some (.int 24) := rfl
  have q1 : ¬ (16 : Int) < ws.length := by omega
  have q2 : ¬ (24 : Int) < rs.length := by omega
  have sl := P_sl3
  refine wpO_run T4 rfl ?_
  simp only [d_is_filled, segD, wv_var, wv_cst, wv_glo, wv_pr, ws_nil, ws_cons, wv_and, wv_or, wv_not, wv_ite, wv_chain, wv_tup, wv_lst, wv_call, wv_callP, wv_comp, wv_fld, wv_lm, wv_meth, wv_lenI, wI_of, wC_yes, wC_test, wg_nm, wg_tupT, wgs_nil, wgs_cons, wS_asg, wS_ex, wS_ret, wS_iff, wS_for, wS_whl, wSs_nil, wSs_cons, w_bl, wpO_ok, wpO_bind, wpO_calm, List.map_cons, List.map_nil, List.cons_append, List.nil_append, List.getElem?_cons_zero, List.getElem?_cons_succ, List.set_cons_zero, List.set_cons_succ, List.length_cons, List.length_nil, List.replicate, Nat.reduceSub, Nat.reduceAdd, g4, g5, sl, P_lenT, P_gt, srcS, srcOf, q1, q2, decide_false, Bool.false_eq_true, if_false]
  have ok0 : ∀ h : Mem, Src.ok ⟨ws, []⟩ h := fun h g hg => by cases hg
  have ok1 : ∀ h : Mem, Src.ok ⟨rs, []⟩ h := fun h g hg => by cases hg
  have sz : (24 : Nat) ≤ sizeLine := by rw [sizeLine_eq]; omega
  refine wpO.mono (cmp_pre (fun _ => .bl true) (fun _ => true) ws (ok0 h) (by omega) fun x hx h1 p1 => ?_) fun d h1 ⟨e1, p1, q⟩ => ?_
  · have c1 := p_word n h1 (w3 x hx)
    simp only [cTarget, wipeE, wv_var, wv_cst, wv_glo, wv_pr, ws_nil, ws_cons, wv_and, wv_or, wv_not, wv_ite, wv_chain, wv_tup, wv_lst, wv_call, wv_callP, wv_comp, wv_fld, wv_lm, wv_meth, wv_lenI, wI_of, wC_yes, wC_test, wg_nm, wg_tupT, wgs_nil, wgs_cons, wS_asg, wS_ex, wS_ret, wS_iff, wS_for, wS_whl, wSs_nil, wSs_cons, w_bl, wpO_ok, wpO_bind, wpO_calm, List.map_cons, List.map_nil, List.cons_append, List.nil_append, List.getElem?_cons_zero, List.getElem?_cons_succ, List.set_cons_zero, List.set_cons_succ, List.length_cons, List.length_nil, List.replicate, Nat.reduceSub, Nat.reduceAdd, true_and]
    refine ⟨List.prefix_refl _, fun _ => ?_⟩
    show wpO (run T (n + 3) 1 [x, .int many, .int base] h1) _
    rw [c1]
    exact ⟨List.prefix_refl _, rfl⟩
  · subst e1
    have f : ∀ l : List D, (l.filter fun _ => true).map (fun _ => D.bl true) = (List.replicate l.length true).map D.bl := fun l => fil_true l
    rw [f] at q
    simp only [P_all (rd_at q), wv_var, wv_cst, wv_glo, wv_pr, ws_nil, ws_cons, wv_and, wv_or, wv_not, wv_ite, wv_chain, wv_tup, wv_lst, wv_call, wv_callP, wv_comp, wv_fld, wv_lm, wv_meth, wv_lenI, wI_of, wC_yes, wC_test, wg_nm, wg_tupT, wgs_nil, wgs_cons, wS_asg, wS_ex, wS_ret, wS_iff, wS_for, wS_whl, wSs_nil, wSs_cons, w_bl, wpO_ok, wpO_bind, wpO_calm, List.map_cons, List.map_nil, List.cons_append, List.nil_append, List.getElem?_cons_zero, List.getElem?_cons_succ, List.set_cons_zero, List.set_cons_succ, List.length_cons, List.length_nil, List.replicate, Nat.reduceSub, Nat.reduceAdd]
    have al : ∀ k, (List.replicate k true).all id = true := fun k => by simp
    rw [al, if_pos rfl]
    refine wpO.mono (cmp_pre (fun _ => .bl true) (fun _ => true) rs (ok1 h1) (by omega) fun x hx h2 p2 => ?_) fun d h2 ⟨e2, p2, q2⟩ => ?_
    · obtain ⟨ext, c1⟩ := p_row (n + 1) h2 (w4 x hx)
      simp only [cTarget, wipeE, wv_var, wv_cst, wv_glo, wv_pr, ws_nil, ws_cons, wv_and, wv_or, wv_not, wv_ite, wv_chain, wv_tup, wv_lst, wv_call, wv_callP, wv_comp, wv_fld, wv_lm, wv_meth, wv_lenI, wI_of, wC_yes, wC_test, wg_nm, wg_tupT, wgs_nil, wgs_cons, wS_asg, wS_ex, wS_ret, wS_iff, wS_for, wS_whl, wSs_nil, wSs_cons, w_bl, wpO_ok, wpO_bind, wpO_calm, List.map_cons, List.map_nil, List.cons_append, List.nil_append, List.getElem?_cons_zero, List.getElem?_cons_succ, List.set_cons_zero, List.set_cons_succ, List.length_cons, List.length_nil, List.replicate, Nat.reduceSub, Nat.reduceAdd, true_and]
      refine ⟨List.prefix_refl _, fun _ => ?_⟩
      show wpO (run T (n + 3) 2 [x, .int many] h2) _
      rw [c1]
      exact ⟨pre_app _ _, rfl⟩
    · subst e2
      rw [f] at q2
      rw [P_all (rd_at q2), al]
      exact ⟨rfl, p1.trans p2⟩
end RG.K

end

section
namespace RG.K
open PySem L2 RG
theorem enum_mem {l : List D} {x : D} (hx : x ∈ enumD l) : ∃ (i : Int) (d : D), x = .tup [.int i, d] ∧ d ∈ l := by
  unfold enumD at hx
  obtain ⟨i, hi, e⟩ := List.mem_iff_getElem.mp hx
  rw [List.getElem_zipWith] at e
  exact ⟨_, _, e.symm, List.getElem_mem _⟩
theorem wg_fld {c : Cl} {o : E} {f : Nat} {d : D} {r : Env} {h : Mem} {Q : Env → Mem → Prop} : wpO (asg c (.fld o f) d r h) Q ↔ wpO (ev c o r h) fun x h => match putFld c.t x f d h with | some h => Q r h | none => False := by
  simp only [asg, wpO_bind, wpO_calm]
  have e : ∀ (x : D) (h : Mem), wpO (match putFld c.t x f d h with | some h => .ok r h | none => .stuck) Q ↔ (match putFld c.t x f d h with | some h => Q r h | none => False) := fun x h => by split <;> exact Iff.rfl
  simp only [← e] <;> exact Iff.rfl
variable (n : Nat)
theorem T5 : T.defs 5 = some ⟨3, 6, d_Machine__init⟩ := rfl
theorem P_list {h : Mem} {s : Nat} {l : List D} (e : rd h s = some l) : evP .toList [.ref s] h = .ok (.ref h.length) (h ++ [.lst l]) := by
  have : evP .toList [.ref s] h = (match rd h s with | some l => new (.lst l) h | none => .stuck) := rfl
  rw [this, e]; rfl
theorem P_lenR {h : Mem} {s : Nat} {l : List D} (e : rd h s = some l) : evP .len [.ref s] h = .ok (.int l.length) h := by
  have : evP .len [.ref s] h = (match rd h s with | some l => .ok (.int l.length) h | none => .stuck) := rfl
  rw [this, e]
theorem rd_noins {h : Mem} {s : Nat} {l : List D} (e : rd h s = some l) : h[s]? = some (.lst l) := at_rd e
theorem put1 {h : Mem} {i k : Nat} {fs : List (Nat × D)} {f : Nat} {d : D} (e : h[i]? = some (.ins k fs)) (hf : Tab.fld T k f = true) (hl : fs.length < 1000) : putFld T (.ref i) f d h = some (h.set i (.ins k (fput f d fs))) := by
  unfold putFld
  dsimp only
  rw [e]
  dsimp only
  rw [if_pos ⟨hf, hl⟩]
/-- a machine -/
def MachAt (h : Mem) (i : Nat) (segs : List D) (base : Int) : Prop := ∃ k, h[i]? = some (.ins 0 [(0, .ref k), (1, .int base)]) ∧ rd h k = some segs
theorem MachAt.pre {h h' : Mem} {i : Nat} {segs : List D} {base : Int} (m : MachAt h i segs base) (p : h <+: h') : MachAt h' i segs base := let ⟨k, a, b⟩ := m; ⟨k, pre_at p a, pre_rd p b⟩
/-- the same, with its list behind it -/
def MachUp (h : Mem) (i : Nat) (segs : List D) (base : Int) : Prop := ∃ k, h[i]? = some (.ins 0 [(0, .ref k), (1, .int base)]) ∧ rd h k = some segs ∧ i < k
theorem MachUp.at_ {h : Mem} {i : Nat} {segs : List D} {base : Int} (m : MachUp h i segs base) : MachAt h i segs base := let ⟨k, a, b, _⟩ := m; ⟨k, a, b⟩
theorem MachUp.keep {h h' : Mem} {i : Nat} {segs : List D} {base : Int} (m : MachUp h i segs base) (kp : ∀ j o, i ≤ j → h[j]? = some o → h'[j]? = some o) : MachUp h' i segs base := let ⟨k, a, b, c⟩ := m; ⟨k, kp _ _ (Nat.le_refl _) a, rd_at (kp _ _ (Nat.le_of_lt c) (at_rd b)), c⟩
theorem MachUp.pre {h h' : Mem} {i : Nat} {segs : List D} {base : Int} (m : MachUp h i segs base) (p : h <+: h') : MachUp h' i segs base := m.keep fun j o _ e => pre_at p e
theorem p_initU {h0 : Mem} {s : Nat} {segs : List D} {base : Int} (hs : rd h0 s = some segs) (hl : 1 ≤ segs.length ∧ segs.length ≤ 8) (hb : 2 ≤ base) (ok : ∀ d ∈ segs, SegOk segs.length base d) :
    wpO (run T (n + 6) 5 [.ref h0.length, .ref s, .int base] (h0 ++ [.ins 0 []])) fun v h' => v = .non ∧ h0 <+: h' ∧ MachUp h' h0.length segs base := by
  have hs1 := pre_rd (pre_app h0 [.ins 0 []]) hs
  have g3 : (clAt T (run T (n + 5)) (run T (n + 4))).t.glo 3 = some (.int 8) := rfl
  have b1 : ¬ base < 2 := by omega
  have b2 : (1 : Int) ≤ segs.length := by omega
  have b3 : (segs.length : Int) ≤ 8 := by omega
  refine wpO_run T5 rfl ?_
  simp only [d_Machine__init, wv_var, wv_cst, wv_glo, wv_pr, ws_nil, ws_cons, wv_and, wv_or, wv_not, wv_ite, wv_chain, wv_tup, wv_lst, wv_call, wv_callP, wv_comp, wv_fld, wv_lm, wv_meth, wv_lenI, wI_of, wC_yes, wC_test, wg_nm, wg_tupT, wgs_nil, wgs_cons, wS_asg, wS_ex, wS_ret, wS_iff, wS_for, wS_whl, wSs_nil, wSs_cons, w_bl, wpO_ok, wpO_bind, wpO_calm, List.map_cons, List.map_nil, List.cons_append, List.nil_append, List.getElem?_cons_zero, List.getElem?_cons_succ, List.set_cons_zero, List.set_cons_succ, List.length_cons, List.length_nil, List.replicate, Nat.reduceSub, Nat.reduceAdd, P_lenR hs1, rd_noins hs1, g3, P_lt, P_le, b1, b2, b3, decide_false, decide_true, Bool.false_eq_true, Bool.not_true, if_false, if_true]
  refine wI_enum ?_
  try simp only [wv_var, wv_cst, wv_glo, wv_pr, ws_nil, ws_cons, wv_and, wv_or, wv_not, wv_ite, wv_chain, wv_tup, wv_lst, wv_call, wv_callP, wv_comp, wv_fld, wv_lm, wv_meth, wv_lenI, wI_of, wC_yes, wC_test, wg_nm, wg_tupT, wgs_nil, wgs_cons, wS_asg, wS_ex, wS_ret, wS_iff, wS_for, wS_whl, wSs_nil, wSs_cons, w_bl, wpO_ok, wpO_bind, wpO_calm, List.map_cons, List.map_nil, List.cons_append, List.nil_append, List.getElem?_cons_zero, List.getElem?_cons_succ, List.set_cons_zero, List.set_cons_succ, List.length_cons, List.length_nil, List.replicate, Nat.reduceSub, Nat.reduceAdd]
  refine ⟨s, segs, rfl, hs1, ?_⟩
  refine wpF_for (J := fun l r h => (h0 ++ [O.ins 0 []]) <+: h ∧ (∀ x ∈ l, ∃ (i : Int) (d : D), x = .tup [.int i, d] ∧ d ∈ segs) ∧ ∃ a b, r = [some (.ref h0.length), some (.ref s), some (.int base), some (.int segs.length), a, b]) ?_ ?_ ?_ _ _ _ ⟨List.prefix_refl _, fun x hx => enum_mem hx, _, _, rfl⟩
  · intro l r h ⟨p, _⟩ g hg
    rw [List.mem_singleton.mp hg]
    exact pre_rd p hs1
  · rintro x l r h ⟨p, hx, a, b, rfl⟩
    obtain ⟨i, d, rfl, hd⟩ := hx x List.mem_cons_self
    have f1 := p_framed (n + 2) h (ok d hd)
    try simp only [wv_var, wv_cst, wv_glo, wv_pr, ws_nil, ws_cons, wv_and, wv_or, wv_not, wv_ite, wv_chain, wv_tup, wv_lst, wv_call, wv_callP, wv_comp, wv_fld, wv_lm, wv_meth, wv_lenI, wI_of, wC_yes, wC_test, wg_nm, wg_tupT, wgs_nil, wgs_cons, wS_asg, wS_ex, wS_ret, wS_iff, wS_for, wS_whl, wSs_nil, wSs_cons, w_bl, wpO_ok, wpO_bind, wpO_calm, List.map_cons, List.map_nil, List.cons_append, List.nil_append, List.getElem?_cons_zero, List.getElem?_cons_succ, List.set_cons_zero, List.set_cons_succ, List.length_cons, List.length_nil, List.replicate, Nat.reduceSub, Nat.reduceAdd]
    show wpO (run T (n + 5) 3 [d] h) _
    rw [f1]
    try simp only [wv_var, wv_cst, wv_glo, wv_pr, ws_nil, ws_cons, wv_and, wv_or, wv_not, wv_ite, wv_chain, wv_tup, wv_lst, wv_call, wv_callP, wv_comp, wv_fld, wv_lm, wv_meth, wv_lenI, wI_of, wC_yes, wC_test, wg_nm, wg_tupT, wgs_nil, wgs_cons, wS_asg, wS_ex, wS_ret, wS_iff, wS_for, wS_whl, wSs_nil, wSs_cons, w_bl, wpO_ok, wpO_bind, wpO_calm, List.map_cons, List.map_nil, List.cons_append, List.nil_append, List.getElem?_cons_zero, List.getElem?_cons_succ, List.set_cons_zero, List.set_cons_succ, List.length_cons, List.length_nil, List.replicate, Nat.reduceSub, Nat.reduceAdd, Bool.not_true, Bool.false_eq_true, if_false]
    show wpO (run T (n + 5) 4 [d, .int segs.length, .int base] h) _
    refine wpO.mono (p_filled (n + 1) h (ok d hd)) fun v h1 ⟨e1, p1⟩ => ?_
    subst e1
    try simp only [wv_var, wv_cst, wv_glo, wv_pr, ws_nil, ws_cons, wv_and, wv_or, wv_not, wv_ite, wv_chain, wv_tup, wv_lst, wv_call, wv_callP, wv_comp, wv_fld, wv_lm, wv_meth, wv_lenI, wI_of, wC_yes, wC_test, wg_nm, wg_tupT, wgs_nil, wgs_cons, wS_asg, wS_ex, wS_ret, wS_iff, wS_for, wS_whl, wSs_nil, wSs_cons, w_bl, wpO_ok, wpO_bind, wpO_calm, List.map_cons, List.map_nil, List.cons_append, List.nil_append, List.getElem?_cons_zero, List.getElem?_cons_succ, List.set_cons_zero, List.set_cons_succ, List.length_cons, List.length_nil, List.replicate, Nat.reduceSub, Nat.reduceAdd, Bool.not_true, Bool.false_eq_true, if_false]
    exact ⟨p.trans p1, fun x hx' => hx x (List.mem_cons_of_mem _ hx'), _, _, rfl⟩
  · rintro r h ⟨p, _, a, b, rfl⟩
    have hs2 := pre_rd p hs1
    have i0 : h[h0.length]? = some (.ins 0 []) := pre_at p (by simp)
    have i1 : (h ++ [O.lst segs])[h0.length]? = some (.ins 0 []) := pre_at (pre_app _ _) i0
    have fa : Tab.fld T 0 0 = true := rfl
    have fb : Tab.fld T 0 1 = true := rfl
    have p1 := put1 (d := .ref h.length) i1 fa (by simp)
    have i2 : ((h ++ [O.lst segs]).set h0.length (.ins 0 (fput 0 (.ref h.length) [])))[h0.length]? = some (.ins 0 (fput 0 (.ref h.length) [])) := set_at i1
    have p2 := put1 (d := .int base) i2 fb (by simp [fput])
    have hlt : h0.length < h.length := by
      have := (List.getElem?_eq_some_iff.mp i0).1
      exact this
    have p0 : h0 <+: h ++ [O.lst segs] := (pre_app _ _).trans (p.trans (pre_app _ _))
    try simp only [wv_var, wv_cst, wv_glo, wv_pr, ws_nil, ws_cons, wv_and, wv_or, wv_not, wv_ite, wv_chain, wv_tup, wv_lst, wv_call, wv_callP, wv_comp, wv_fld, wv_lm, wv_meth, wv_lenI, wI_of, wC_yes, wC_test, wg_nm, wg_tupT, wgs_nil, wgs_cons, wS_asg, wS_ex, wS_ret, wS_iff, wS_for, wS_whl, wSs_nil, wSs_cons, w_bl, wpO_ok, wpO_bind, wpO_calm, List.map_cons, List.map_nil, List.cons_append, List.nil_append, List.getElem?_cons_zero, List.getElem?_cons_succ, List.set_cons_zero, List.set_cons_succ, List.length_cons, List.length_nil, List.replicate, Nat.reduceSub, Nat.reduceAdd, P_list hs2, wg_fld]
    show match putFld T (.ref h0.length) 0 (.ref h.length) (h ++ [O.lst segs]) with | some h => _ | none => False
    rw [p1]
    dsimp only
    show match putFld T (.ref h0.length) 1 (.int base) ((h ++ [O.lst segs]).set h0.length (.ins 0 (fput 0 (.ref h.length) []))) with | some h => _ | none => False
    rw [p2]
    dsimp only
    refine ⟨trivial, pre_set (pre_set p0 (Nat.le_refl _) _) (Nat.le_refl _) _, h.length, ?_, ?_, hlt⟩
    · rw [set_at i2]; rfl
    · refine rd_at ?_
      rw [set_ne (by omega), set_ne (by omega)]
      simp
theorem p_init {h0 : Mem} {s : Nat} {segs : List D} {base : Int} (hs : rd h0 s = some segs) (hl : 1 ≤ segs.length ∧ segs.length ≤ 8) (hb : 2 ≤ base) (ok : ∀ d ∈ segs, SegOk segs.length base d) :
    wpO (run T (n + 6) 5 [.ref h0.length, .ref s, .int base] (h0 ++ [.ins 0 []])) fun v h' => v = .non ∧ h0 <+: h' ∧ MachAt h' h0.length segs base :=
  wpO.mono (p_initU n hs hl hb ok) fun _ _ ⟨a, b, c⟩ => ⟨a, b, c.at_⟩
end RG.K

end

section
namespace RG.K
open PySem L2 RG
inductive All2 {a b : Type} (R : a → b → Prop) : List a → List b → Prop
  | nil : All2 R [] []
  | cons {x : a} {y : b} {l : List a} {m : List b} : R x y → All2 R l m → All2 R (x :: l) (y :: m)
theorem All2.imp {a b : Type} {R S : a → b → Prop} (k : ∀ x y, R x y → S x y) : ∀ {l : List a} {m : List b}, All2 R l m → All2 S l m
  | _, _, .nil => .nil
  | _, _, .cons r t => .cons (k _ _ r) (t.imp k)
theorem All2.snoc {a b : Type} {R : a → b → Prop} {x : a} {y : b} (r : R x y) : ∀ {l : List a} {m : List b}, All2 R l m → All2 R (l ++ [x]) (m ++ [y])
  | _, _, .nil => .cons r .nil
  | _, _, .cons q t => .cons q (t.snoc r)
theorem All2.length {a b : Type} {R : a → b → Prop} : ∀ {l : List a} {m : List b}, All2 R l m → l.length = m.length
  | _, _, .nil => rfl
  | _, _, .cons _ t => congrArg (· + 1) t.length
/-- a comprehension whose values are told by a relation -/
theorem cmp_rel {g : D → Env → Mem → Out Env} {c : Env → Mem → Out Bool} {f : Env → Mem → Out D} {s : Src} {h0 : Mem} {r0 : Env} (Pr : D → D → Mem → Prop) (items : List D) (hs : s.ok h0) (hz : items.length ≤ sizeLine)
    (st : ∀ x d h h', Pr x d h → (∀ i o, i ≠ h0.length → h[i]? = some o → h'[i]? = some o) → Pr x d h')
    (step : ∀ x ∈ items, ∀ h, h0 <+: h → h0.length < h.length → wpO (g x r0 h) fun r h1 => h1 = h ∧ wpO (c r h) fun k h2 => h2 = h ∧ k = true ∧ wpO (f r h2) fun d h3 => h2 <+: h3 ∧ Pr x d h3) :
    wpO (cmpL g c f s h0.length r0 items (h0 ++ [.lst []])) fun d h => d = .ref h0.length ∧ h0 <+: h ∧ ∃ ds, h[h0.length]? = some (.lst ds) ∧ All2 (fun x d => Pr x d h) items ds := by
  have key : ∀ (l done ds : List D) (h : Mem), done ++ l = items → h0 <+: h → h[h0.length]? = some (.lst ds) → All2 (fun x d => Pr x d h) done ds → wpO (cmpL g c f s h0.length r0 l h) fun d h => d = .ref h0.length ∧ h0 <+: h ∧ ∃ ds, h[h0.length]? = some (.lst ds) ∧ All2 (fun x d => Pr x d h) items ds := by
    intro l
    induction l with
    | nil =>
      intro done ds h e p q a
      unfold cmpL
      rw [if_pos (pre_ok p hs)]
      rw [List.append_nil] at e
      subst e
      exact ⟨rfl, p, ds, q, a⟩
    | cons x l ih =>
      intro done ds h e p q a
      unfold cmpL
      rw [if_pos (pre_ok p hs), wpO_bind]
      have hx : x ∈ items := by rw [← e]; simp
      refine wpO.mono (step x hx h p (List.getElem?_eq_some_iff.mp q).1) fun r h1 ⟨e1, w⟩ => ?_
      subst e1
      rw [wpO_bind]
      refine wpO.mono w fun k h2 ⟨e2, ek, w2⟩ => ?_
      subst e2 ek
      rw [if_pos rfl, wpO_bind]
      refine wpO.mono w2 fun d h3 ⟨p3, pd⟩ => ?_
      rw [pre_at p3 q]
      dsimp only
      have hl : ds.length < sizeLine := by
        rw [← a.length]
        have : done.length + (l.length + 1) = items.length := by rw [← e]; simp
        omega
      rw [if_pos hl]
      have keepS : ∀ (h' : Mem) i o, i ≠ h0.length → h3[i]? = some o → (h3.set h0.length (.lst (ds ++ [d])))[i]? = some o := fun h' i o ni q => by rw [set_ne (Ne.symm ni)]; exact q
      refine ih (done ++ [x]) (ds ++ [d]) _ (by rw [← e]; simp) (pre_set (p.trans p3) (Nat.le_refl _) _) (set_at (pre_at p3 q)) (All2.snoc ?_ (a.imp fun x d r => ?_))
      · exact st x d h3 _ pd (keepS h3)
      · exact st x d h2 _ r fun i o ni q => keepS h3 i o ni (pre_at p3 q)
  exact key items [] [] _ rfl (pre_app _ _) (by simp) .nil
def cellD (x : Int) : D → D
  | .tup [.tup [.int a, .int b, .int c], .str rt, _, _, _] => .tup [.bl (decide (114 ∈ rt) && decide (x ≤ b)), .bl (decide (119 ∈ rt) && decide (x ≤ a)), .bl (decide (120 ∈ rt) && (decide (a ≤ x) && decide (x ≤ b))), .bl (decide (120 ∈ rt) && (decide (b < x) && decide (x ≤ c)))]
  | _ => .non
variable (n : Nat)
theorem T6 : T.defs 6 = some ⟨2, 2, d_Machine_segment⟩ := rfl
theorem T7 : T.defs 7 = some ⟨1, 1, d_Machine__len⟩ := rfl
theorem P_ixR {h : Mem} {k : Nat} {l : List D} {j : Nat} (e : rd h k = some l) (hj : j < l.length) : evP .ix [.ref k, .int j] h = .ok l[j] h := by
  have : evP .ix [.ref k, .int j] h = ixRef k (.int j) h := rfl
  rw [this]
  unfold ixRef
  rw [at_rd e]
  dsimp only
  rw [atI_nat l j hj]
theorem p_segment {h : Mem} {i : Nat} {segs : List D} {base : Int} (m : MachAt h i segs base) {j : Nat} (hj : j < segs.length) : run T (n + 2) 6 [.ref i, .int j] h = .ok segs[j] h := by
  obtain ⟨k, e1, e2⟩ := m
  have e3 := at_rd e2
  have fa : Tab.fld (clAt T (run T (n + 1)) (run T n)).t 0 0 = true := rfl
  have b1 : (0 : Int) ≤ j := by omega
  have b2 : (j : Int) < segs.length := by omega
  have w : wpO (run T (n + 2) 6 [.ref i, .int j] h) fun v h' => v = segs[j] ∧ h' = h := by
    refine wpO_run T6 rfl ?_
    simp only [d_Machine_segment, wv_var, wv_cst, wv_glo, wv_pr, ws_nil, ws_cons, wv_and, wv_or, wv_not, wv_ite, wv_chain, wv_tup, wv_lst, wv_call, wv_callP, wv_comp, wv_fld, wv_lm, wv_meth, wv_lenI, wI_of, wC_yes, wC_test, wg_nm, wg_tupT, wgs_nil, wgs_cons, wS_asg, wS_ex, wS_ret, wS_iff, wS_for, wS_whl, wSs_nil, wSs_cons, w_bl, wpO_ok, wpO_bind, wpO_calm, List.map_cons, List.map_nil, List.cons_append, List.nil_append, List.getElem?_cons_zero, List.getElem?_cons_succ, List.set_cons_zero, List.set_cons_succ, List.length_cons, List.length_nil, List.replicate, Nat.reduceSub, Nat.reduceAdd, e1, e3, fa, fget, P_lenR e2, P_le, P_lt, b1, b2, P_ixR e2 hj, decide_true, if_true, Bool.not_true, Bool.false_eq_true, if_false]
    exact ⟨trivial, trivial⟩
  obtain ⟨v, h', e, rfl, rfl⟩ := wpO_out w
  exact e
theorem p_len {h : Mem} {i : Nat} {segs : List D} {base : Int} (m : MachAt h i segs base) : run T (n + 2) 7 [.ref i] h = .ok (.int segs.length) h := by
  obtain ⟨k, e1, e2⟩ := m
  have e3 := at_rd e2
  have fa : Tab.fld (clAt T (run T (n + 1)) (run T n)).t 0 0 = true := rfl
  have w : wpO (run T (n + 2) 7 [.ref i] h) fun v h' => v = .int segs.length ∧ h' = h := by
    refine wpO_run T7 rfl ?_
    simp only [d_Machine__len, wv_var, wv_cst, wv_glo, wv_pr, ws_nil, ws_cons, wv_and, wv_or, wv_not, wv_ite, wv_chain, wv_tup, wv_lst, wv_call, wv_callP, wv_comp, wv_fld, wv_lm, wv_meth, wv_lenI, wI_of, wC_yes, wC_test, wg_nm, wg_tupT, wgs_nil, wgs_cons, wS_asg, wS_ex, wS_ret, wS_iff, wS_for, wS_whl, wSs_nil, wSs_cons, w_bl, wpO_ok, wpO_bind, wpO_calm, List.map_cons, List.map_nil, List.cons_append, List.nil_append, List.getElem?_cons_zero, List.getElem?_cons_succ, List.set_cons_zero, List.set_cons_succ, List.length_cons, List.length_nil, List.replicate, Nat.reduceSub, Nat.reduceAdd, e1, e3, fa, fget, P_lenR e2, if_true]
    exact ⟨trivial, trivial⟩
  obtain ⟨v, h', e, rfl, rfl⟩ := wpO_out w
  exact e
end RG.K

end

section
namespace RG.K
open PySem L2 RG
variable (n : Nat)
def valS (segs : List D) : D → D
  | .int j => segs.getD j.toNat .non
  | _ => .non
theorem rng_val (segs : List D) : ((rngD 0 segs.length).filter fun _ => true).map (valS segs) = segs := by
  apply List.ext_getElem?
  intro i
  unfold rngD
  rw [List.filter_eq_self.mpr (by simp)]
  by_cases hi : i < segs.length
  · simp [valS, hi]
  · simp [hi]
theorem rng_mem {k : Nat} {x : D} (hx : x ∈ rngD 0 k) : ∃ j : Nat, x = .int j ∧ j < k := by
  unfold rngD at hx
  obtain ⟨j, hj, e⟩ := List.mem_map.mp hx
  exact ⟨j, by rw [← e]; simp, List.mem_range.mp hj⟩
theorem P_app {h : Mem} {k : Nat} {l : List D} {d : D} (e : rd h k = some l) (hl : l.length < sizeLine) : evP .append [.ref k, d] h = .ok .non (h.set k (.lst (l ++ [d]))) := by
  have : evP .append [.ref k, d] h = (match h[k]? with | some (.lst l) => if l.length < sizeLine then .ok .non (h.set k (.lst (l ++ [d]))) else .stuck | _ => .stuck) := rfl
  rw [this, at_rd e]
  dsimp only
  rw [if_pos hl]
end RG.K

end

section
/-! Wm: machines, stands and walks in plain Lean; no program. -/
namespace RG.M
open RG
inductive Wd where
  | num (i : Int) | ptr (r s p : Int)
  deriving DecidableEq, Inhabited
inductive Rw where
  | set (n : Int) | add (n : Int) | load (p n : Int) | store (p n : Int) | fetch (q p n : Int) | keep (q p n : Int) | aim (q s n : Int) | move (q p n : Int) | zero (n : Int) | go (n : Int) | call (p : Int) | ret
  deriving DecidableEq, Inhabited
abbrev wSet : List Nat := [115, 101, 116]
abbrev wAdd : List Nat := [97, 100, 100]
abbrev wLoad : List Nat := [108, 111, 97, 100]
abbrev wStore : List Nat := [115, 116, 111, 114, 101]
abbrev wFetch : List Nat := [102, 101, 116, 99, 104]
abbrev wKeep : List Nat := [107, 101, 101, 112]
abbrev wAim : List Nat := [97, 105, 109]
abbrev wMove : List Nat := [109, 111, 118, 101]
abbrev wZero : List Nat := [122, 101, 114, 111]
abbrev wGo : List Nat := [103, 111]
abbrev wCall : List Nat := [99, 97, 108, 108]
abbrev wRet : List Nat := [114, 101, 116, 117, 114, 110]
abbrev tNum : List Nat := [110, 117, 109]
abbrev tPtr : List Nat := [112, 116, 114]
@[simp] def Wd.d : Wd → D
  | .num i => .tup [.str tNum, .int i]
  | .ptr r s p => .tup [.str tPtr, .int r, .int s, .int p]
@[simp] def Rw.d : Rw → D
  | .set n => .tup [.str wSet, .int n]
  | .add n => .tup [.str wAdd, .int n]
  | .load p n => .tup [.str wLoad, .int p, .int n]
  | .store p n => .tup [.str wStore, .int p, .int n]
  | .fetch q p n => .tup [.str wFetch, .int q, .int p, .int n]
  | .keep q p n => .tup [.str wKeep, .int q, .int p, .int n]
  | .aim q s n => .tup [.str wAim, .int q, .int s, .int n]
  | .move q p n => .tup [.str wMove, .int q, .int p, .int n]
  | .zero n => .tup [.str wZero, .int n]
  | .go n => .tup [.str wGo, .int n]
  | .call p => .tup [.str wCall, .int p]
  | .ret => .tup [.str wRet]
structure Sg where
  a : Int
  b : Int
  c : Int
  rt : List Nat
  g : Int
  ws : List Wd
  rs : List Rw
  deriving DecidableEq, Inhabited
def Sg.d (s : Sg) : D := .tup [.tup [.int s.a, .int s.b, .int s.c], .str s.rt, .int s.g, .tup (s.ws.map Wd.d), .tup (s.rs.map Rw.d)]
abbrev Pt := Option (Int × Int × Int)
def ptD : Pt → D
  | none => .non
  | some (r, s, p) => .tup [.int r, .int s, .int p]
def wordsD (ws : List Wd) : D := .tup (ws.map Wd.d)
structure Sd where
  ring : Int
  num : Int
  ps : List Pt
  mem : List (List Wd)
  deriving DecidableEq, Inhabited
def Sd.d (s : Sd) : D := .tup [.int s.ring, .int s.num, .tup (s.ps.map ptD), .tup (s.mem.map wordsD)]
/-- why a deed ends ahead of its time -/
inductive Ft where
  | pointer | bounds | read | write | kind | run | entry | call | gate | deep | row | long | hand
  deriving DecidableEq, Inhabited
def Ft.s : Ft → List Nat
  | .pointer => [112, 111, 105, 110, 116, 101, 114]
  | .bounds => [98, 111, 117, 110, 100, 115]
  | .read => [114, 101, 97, 100]
  | .write => [119, 114, 105, 116, 101]
  | .kind => [107, 105, 110, 100]
  | .run => [114, 117, 110]
  | .entry => [101, 110, 116, 114, 121]
  | .call => [99, 97, 108, 108]
  | .gate => [103, 97, 116, 101]
  | .deep => [100, 101, 101, 112]
  | .row => [114, 111, 119]
  | .long => [108, 111, 110, 103]
  | .hand => [104, 97, 110, 100]
/-- a walk -/
structure Wk where
  ring : Int
  num : Int
  ps : List Pt
  mem : List (List Wd)
  seat : Option Int
  place : Int
  kept : List (Int × Option Int × Int)
  left : Int
  steps : List (Int × Int × Int × Int)
  tch : List (Int × Int × Int × Nat)
  deriving DecidableEq, Inhabited
/-- a machine -/
structure Mc where
  segs : List Sg
  base : Int
def mx (i j : Int) : Int := if j > i then j else i
def mn (i j : Int) : Int := if j < i then j else i
def Mc.sg (m : Mc) (k : Int) : Sg := m.segs.getD k.toNat default
def Wk.pt (s : Wk) (p : Int) : Pt := s.ps.getD p.toNat none
def Wk.ws (s : Wk) (k : Int) : List Wd := s.mem.getD k.toNat []
/-- what a pointer reaches -/
def reach (s : Wk) (p far : Int) : Except Ft (Int × Int × Int) := match s.pt p with
  | none => .error .pointer
  | some (r, k, pl) => if pl + far < 0 ∨ (s.ws k).length ≤ pl + far then .error .bounds else .ok (mx s.ring r, k, pl + far)
def mayR (m : Mc) (sp : Int × Int × Int) : Bool := decide (114 ∈ (m.sg sp.2.1).rt) && decide (sp.1 ≤ (m.sg sp.2.1).b)
def mayW (m : Mc) (sp : Int × Int × Int) : Bool := decide (119 ∈ (m.sg sp.2.1).rt) && decide (sp.1 ≤ (m.sg sp.2.1).a)
def Wk.tc (s : Wk) (sp : Int × Int × Int) (l : Nat) : Wk := { s with tch := s.tch ++ [(sp.1, sp.2.1, sp.2.2, l)] }
def Wk.wd (s : Wk) (sp : Int × Int × Int) : Wd := (s.ws sp.2.1).getD sp.2.2.toNat default
/-- a word read -/
def readW (m : Mc) (s : Wk) (p far : Int) : Wk × Except Ft ((Int × Int × Int) × Wd) := match reach s p far with
  | .error f => (s, .error f)
  | .ok sp => if mayR m sp then (s.tc sp 114, .ok (sp, s.wd sp)) else (s, .error .read)
def Wk.putW (s : Wk) (sp : Int × Int × Int) (w : Wd) : Wk := { s with mem := s.mem.set sp.2.1.toNat ((s.ws sp.2.1).set sp.2.2.toNat w) }
def writeW (m : Mc) (s : Wk) (p far : Int) (w : Wd) : Wk × Option Ft := match reach s p far with
  | .error f => (s, some f)
  | .ok sp => if mayW m sp then ((s.tc sp 119).putW sp w, none) else (s, some .write)
def Wk.setP (s : Wk) (q : Int) (x : Pt) : Wk := { s with ps := s.ps.set q.toNat x }
/-- no pointer keeps a lesser ring -/
def raiseP (ring : Int) : Pt → Pt
  | none => none
  | some (r, k, pl) => if r < ring then some (ring, k, pl) else some (r, k, pl)
def Wk.raised (s : Wk) (ring : Int) : Wk := { s with ring := ring, ps := s.ps.map (raiseP ring) }
/-- where a call leads -/
def enter (m : Mc) (s : Wk) (p : Int) : Except Ft (Int × Int × Int) := match s.pt p with
  | none => .error .pointer
  | some (r, k, pl) =>
    let g := m.sg k
    let ring := mx s.ring r
    if 120 ∉ g.rt then .error .run else if (g.rs.length : Int) ≤ pl then .error .entry else if g.c < ring then .error .call else if g.b < ring ∧ g.g ≤ pl then .error .gate else .ok (mn (mx ring g.a) g.b, k, pl)
/-- a row, or a deed of the hand -/
def doR (m : Mc) (s : Wk) : Rw → Wk × Option Ft
  | .set n => ({ s with num := n % m.base }, none)
  | .add n => ({ s with num := (s.num + n) % m.base }, none)
  | .load p n => match readW m s p n with
    | (s', .error f) => (s', some f)
    | (s', .ok (_, .num v)) => ({ s' with num := v }, none)
    | (s', .ok (_, .ptr _ _ _)) => (s', some .kind)
  | .store p n => writeW m s p n (.num s.num)
  | .fetch q p n => match readW m s p n with
    | (s', .error f) => (s', some f)
    | (s', .ok (_, .num _)) => (s', some .kind)
    | (s', .ok (sp, .ptr r k pl)) => (s'.setP q (some (mx (mx r sp.1) (m.sg sp.2.1).a, k, pl)), none)
  | .keep q p n => match s.pt q with
    | none => (s, some .pointer)
    | some (r, k, pl) => writeW m s p n (.ptr r k pl)
  | .aim q k n => if n < 0 then (s, some .bounds) else (s.setP q (some (s.ring, k, n)), none)
  | .move q p n => match s.pt p with
    | none => (s, some .pointer)
    | some (r, k, pl) => if pl + n < 0 then (s, some .bounds) else (s.setP q (some (r, k, pl + n)), none)
  | .zero n => if s.seat = none then (s, some .hand) else if s.num = 0 then ({ s with place := n }, none) else (s, none)
  | .go n => if s.seat = none then (s, some .hand) else ({ s with place := n }, none)
  | .call p => match enter m s p with
    | .error f => (s, some f)
    | .ok (ring, k, pl) => if 8 ≤ s.kept.length then (s, some .deep) else (({ s with kept := s.kept ++ [(s.ring, s.seat, s.place)], seat := some k, place := pl } : Wk).raised ring, none)
  | .ret => match s.kept.getLast? with
    | none => (s, some .hand)
    | some (ring, seat, place) => (({ s with kept := s.kept.dropLast, seat := seat, place := place } : Wk).raised ring, none)
/-- one row more -/
def stepR (m : Mc) (s : Wk) (k : Int) : Wk × Option Ft :=
  if ¬ (0 ≤ s.place ∧ s.place < ((m.sg k).rs.length : Int)) then (s, some .row) else if s.left < 1 then (s, some .long) else
    doR m { s with left := s.left - 1, steps := s.steps ++ [(s.ring, k, s.place, (s.kept.length : Int))], place := s.place + 1 } ((m.sg k).rs.getD s.place.toNat default)
/-- rows, until none is next; none: so many rows were too few -/
def loopR (m : Mc) : Nat → Wk → Option (Wk × Option Ft)
  | 0, _ => none
  | n + 1, s => match s.seat with
    | none => some (s, none)
    | some k => match stepR m s k with
      | (s', some f) => some (s', some f)
      | (s', none) => loopR m n s'
/-- a deed, whole -/
def endR (m : Mc) (s : Wk) (r : Rw) : Wk × Option Ft := match doR m s r with
  | (s', some f) => (s', some f)
  | (s', none) => (loopR m (s'.left.toNat + 1) s').getD (s', some .long)
def Sd.wk (s : Sd) (most : Int) : Wk := ⟨s.ring, s.num, s.ps, s.mem, none, 0, [], most, [], []⟩
def nothing : List Pt := [none, none, none, none]
/-- the stand behind -/
def leftR (home : Int) : Wk × Option Ft → Sd
  | (s, none) => ⟨home, s.num, s.ps, s.mem⟩
  | (s, some _) => ⟨home, 0, nothing, s.mem⟩
def toldR : Option Ft → D
  | none => .tup [.str [100, 111, 110, 101]]
  | some f => .tup [.str [102, 97, 117, 108, 116], .str f.s]
def doneR (m : Mc) (s : Sd) (r : Rw) (most : Int) : Sd × Option Ft := let e := endR m (s.wk most) r; (leftR s.ring e, e.2)

/-! ### what is sound -/
def Wd.Ok (many base : Int) : Wd → Prop
  | .num v => 0 ≤ v ∧ v < base
  | .ptr r s p => (0 ≤ r ∧ r ≤ 7) ∧ (0 ≤ s ∧ s < many) ∧ 0 ≤ p
def Rw.Ok (many : Int) : Rw → Prop
  | .set _ | .add _ | .zero _ | .go _ | .ret => True
  | .load p _ | .store p _ | .call p => 0 ≤ p ∧ p < 4
  | .fetch q p _ | .keep q p _ | .move q p _ => (0 ≤ q ∧ q < 4) ∧ (0 ≤ p ∧ p < 4)
  | .aim q s _ => (0 ≤ q ∧ q < 4) ∧ (0 ≤ s ∧ s < many)
def rightsL : List (List Nat) := [[], [114], [119], [120], [114, 119], [114, 120], [119, 120], [114, 119, 120]]
structure Sg.Ok (many base : Int) (s : Sg) : Prop where
  br : 0 ≤ s.a ∧ s.a ≤ s.b ∧ s.b ≤ s.c ∧ s.c ≤ 7
  rt : s.rt ∈ rightsL
  g : 0 ≤ s.g ∧ s.g ≤ s.rs.length
  wl : s.ws.length ≤ 16
  rl : s.rs.length ≤ 24
  ws : ∀ w ∈ s.ws, w.Ok many base
  rs : ∀ r ∈ s.rs, r.Ok many
structure Mc.Ok (m : Mc) : Prop where
  len : 1 ≤ m.segs.length ∧ m.segs.length ≤ 8
  base : 2 ≤ m.base
  sg : ∀ s ∈ m.segs, s.Ok m.segs.length m.base
def PtOk (many : Int) : Pt → Prop
  | none => True
  | some (r, s, p) => (0 ≤ r ∧ r ≤ 7) ∧ (0 ≤ s ∧ s < many) ∧ 0 ≤ p
/-- what a stand must be for deeds to go on -/
structure Sd.Ok (m : Mc) (s : Sd) : Prop where
  ring : 0 ≤ s.ring ∧ s.ring ≤ 7
  num : 0 ≤ s.num ∧ s.num < m.base
  pl : s.ps.length = 4
  ps : ∀ x ∈ s.ps, PtOk m.segs.length x
  ml : s.mem.length = m.segs.length
  wl : ∀ ws ∈ s.mem, ws.length ≤ 16 ∧ ∀ w ∈ ws, w.Ok m.segs.length m.base
structure Wk.Ok (m : Mc) (s : Wk) : Prop where
  ring : 0 ≤ s.ring ∧ s.ring ≤ 7
  num : 0 ≤ s.num ∧ s.num < m.base
  pl : s.ps.length = 4
  ps : ∀ x ∈ s.ps, PtOk m.segs.length x
  ml : s.mem.length = m.segs.length
  wl : ∀ ws ∈ s.mem, ws.length ≤ 16 ∧ ∀ w ∈ ws, w.Ok m.segs.length m.base
  seat : ∀ k, s.seat = some k → 0 ≤ k ∧ k < m.segs.length
  kept : ∀ x ∈ s.kept, (0 ≤ x.1 ∧ x.1 ≤ 7) ∧ ∀ k, x.2.1 = some k → 0 ≤ k ∧ k < m.segs.length
  kl : s.kept.length ≤ 8
theorem Mc.sg_ok {m : Mc} (mo : m.Ok) {k : Int} (hk : 0 ≤ k ∧ k < m.segs.length) : (m.sg k).Ok m.segs.length m.base := by
  have h3 : k.toNat < m.segs.length := by omega
  have : m.sg k = m.segs[k.toNat] := by unfold Mc.sg; simp [h3]
  rw [this]
  exact mo.sg _ (List.getElem_mem h3)
section
variable {m : Mc} {s : Wk}
theorem pt_ok (ok : s.Ok m) {p : Int} {x : Int × Int × Int} (e : s.pt p = some x) : PtOk m.segs.length (some x) := by
  unfold Wk.pt at e
  by_cases h3 : p.toNat < s.ps.length
  · have q : s.ps[p.toNat] = some x := by simpa [h3] using e
    rw [← q]
    exact ok.ps _ (List.getElem_mem h3)
  · simp [h3] at e
theorem ws_ok (ok : s.Ok m) (k : Int) : (s.ws k).length ≤ 16 ∧ ∀ w ∈ s.ws k, w.Ok m.segs.length m.base := by
  unfold Wk.ws
  by_cases h3 : k.toNat < s.mem.length
  · have : s.mem.getD k.toNat [] = s.mem[k.toNat] := by simp [h3]
    rw [this]
    exact ok.wl _ (List.getElem_mem h3)
  · have : s.mem.getD k.toNat [] = [] := by simp [h3]
    rw [this]
    exact ⟨by simp, fun w h => by cases h⟩
theorem reach_ok (ok : s.Ok m) {p far : Int} {sp : Int × Int × Int} (e : reach s p far = .ok sp) : (0 ≤ sp.1 ∧ sp.1 ≤ 7) ∧ (0 ≤ sp.2.1 ∧ sp.2.1 < m.segs.length) ∧ 0 ≤ sp.2.2 ∧ sp.2.2 < ((s.ws sp.2.1).length : Int) := by
  unfold reach at e
  cases q : s.pt p with
  | none => rw [q] at e; cases e
  | some y =>
    obtain ⟨r, k, pl⟩ := y
    rw [q] at e
    dsimp only at e
    have po := pt_ok ok q
    have hr := ok.ring
    split at e
    · cases e
    · cases e
      obtain ⟨p1, p2, p3⟩ := po
      refine ⟨?_, p2, ?_, ?_⟩
      · dsimp only; unfold mx; split <;> omega
      · dsimp only; omega
      · dsimp only; omega
theorem wd_ok (ok : s.Ok m) {sp : Int × Int × Int} (h1 : 0 ≤ sp.2.2 ∧ sp.2.2 < ((s.ws sp.2.1).length : Int)) : (s.wd sp).Ok m.segs.length m.base := by
  unfold Wk.wd
  have h3 : sp.2.2.toNat < (s.ws sp.2.1).length := by omega
  have : (s.ws sp.2.1).getD sp.2.2.toNat default = (s.ws sp.2.1)[sp.2.2.toNat] := by simp [h3]
  rw [this]
  exact (ws_ok ok sp.2.1).2 _ (List.getElem_mem h3)
theorem tc_ok (ok : s.Ok m) (sp : Int × Int × Int) (l : Nat) : (s.tc sp l).Ok m := ⟨ok.ring, ok.num, ok.pl, ok.ps, ok.ml, ok.wl, ok.seat, ok.kept, ok.kl⟩
theorem num_ok (ok : s.Ok m) {v : Int} (h : 0 ≤ v ∧ v < m.base) : ({ s with num := v } : Wk).Ok m := ⟨ok.ring, h, ok.pl, ok.ps, ok.ml, ok.wl, ok.seat, ok.kept, ok.kl⟩
theorem setP_ok (ok : s.Ok m) (q : Int) {x : Pt} (h : PtOk m.segs.length x) : (s.setP q x).Ok m := ⟨ok.ring, ok.num, by show (s.ps.set _ _).length = 4; rw [List.length_set]; exact ok.pl, fun y hy => by
  rcases List.mem_or_eq_of_mem_set hy with z | z
  · exact ok.ps y z
  · rw [z]; exact h, ok.ml, ok.wl, ok.seat, ok.kept, ok.kl⟩
theorem putW_ok (ok : s.Ok m) (sp : Int × Int × Int) {w : Wd} (h : w.Ok m.segs.length m.base) : (s.putW sp w).Ok m := ⟨ok.ring, ok.num, ok.pl, ok.ps, by show (s.mem.set _ _).length = _; rw [List.length_set]; exact ok.ml, fun ws hw => by
  rcases List.mem_or_eq_of_mem_set hw with z | z
  · exact ok.wl ws z
  · rw [z]
    refine ⟨by rw [List.length_set]; exact (ws_ok ok sp.2.1).1, fun y hy => ?_⟩
    rcases List.mem_or_eq_of_mem_set hy with z | z
    · exact (ws_ok ok sp.2.1).2 y z
    · rw [z]; exact h, ok.seat, ok.kept, ok.kl⟩
theorem raised_ok (ok : s.Ok m) {ring : Int} (h : 0 ≤ ring ∧ ring ≤ 7) : (s.raised ring).Ok m := ⟨h, ok.num, by show (s.ps.map _).length = 4; rw [List.length_map]; exact ok.pl, fun y hy => by
  obtain ⟨x, hx, rfl⟩ := List.mem_map.mp hy
  have := ok.ps x hx
  cases x with
  | none => exact this
  | some z =>
    obtain ⟨r, k, p⟩ := z
    unfold raiseP
    dsimp only
    split
    · exact ⟨h, this.2⟩
    · exact this, ok.ml, ok.wl, ok.seat, ok.kept, ok.kl⟩
theorem place_ok (ok : s.Ok m) (v : Int) : ({ s with place := v } : Wk).Ok m := ⟨ok.ring, ok.num, ok.pl, ok.ps, ok.ml, ok.wl, ok.seat, ok.kept, ok.kl⟩
theorem writeW_ok (ok : s.Ok m) {p far : Int} {w : Wd} (h : w.Ok m.segs.length m.base) : (writeW m s p far w).1.Ok m := by
  unfold writeW
  split
  · exact ok
  · rename_i sp e
    split
    · exact putW_ok (tc_ok ok _ _) _ h
    · exact ok
theorem readW_ok (ok : s.Ok m) {p far : Int} : (readW m s p far).1.Ok m ∧ ∀ x, (readW m s p far).2 = .ok x → (0 ≤ x.1.1 ∧ x.1.1 ≤ 7) ∧ (0 ≤ x.1.2.1 ∧ x.1.2.1 < m.segs.length) ∧ x.2.Ok m.segs.length m.base := by
  unfold readW
  split
  · exact ⟨ok, fun x h => by cases h⟩
  · rename_i sp e
    obtain ⟨r1, r2, r3⟩ := reach_ok ok e
    split
    · refine ⟨tc_ok ok _ _, fun x h => ?_⟩
      cases h
      exact ⟨r1, r2, wd_ok ok r3⟩
    · exact ⟨ok, fun x h => by cases h⟩
theorem enter_ok (mo : m.Ok) (ok : s.Ok m) {p : Int} {sp : Int × Int × Int} (e : enter m s p = .ok sp) : (0 ≤ sp.1 ∧ sp.1 ≤ 7) ∧ (0 ≤ sp.2.1 ∧ sp.2.1 < m.segs.length) ∧ 0 ≤ sp.2.2 := by
  unfold enter at e
  cases q : s.pt p with
  | none => rw [q] at e; cases e
  | some y =>
    obtain ⟨r, k, pl⟩ := y
    rw [q] at e
    obtain ⟨hr, hk, hp⟩ := pt_ok ok q
    have := (Mc.sg_ok mo hk).br
    have := ok.ring
    simp only at e
    split at e
    · cases e
    · split at e
      · cases e
      · split at e
        · cases e
        · split at e
          · cases e
          · cases e
            refine ⟨?_, hk, hp⟩
            dsimp only
            unfold mn mx
            split <;> split <;> (try split) <;> omega
theorem doR_ok (mo : m.Ok) (ok : s.Ok m) {r : Rw} (ro : r.Ok m.segs.length) : (doR m s r).1.Ok m := by
  have hb := mo.base
  cases r with
  | set x => exact num_ok ok ⟨Int.emod_nonneg _ (by omega), Int.emod_lt_of_pos _ (by omega)⟩
  | add x => exact num_ok ok ⟨Int.emod_nonneg _ (by omega), Int.emod_lt_of_pos _ (by omega)⟩
  | load p x =>
    obtain ⟨o1, o2⟩ := readW_ok (p := p) (far := x) ok
    simp only [doR]
    split
    · rename_i s' f e; rw [e] at o1; exact o1
    · rename_i s' sp v e
      rw [e] at o1 o2
      exact num_ok o1 (o2 _ rfl).2.2
    · rename_i s' sp a b c e; rw [e] at o1; exact o1
  | store p x => exact writeW_ok ok ok.num
  | fetch q p x =>
    obtain ⟨o1, o2⟩ := readW_ok (p := p) (far := x) ok
    simp only [doR]
    split
    · rename_i s' f e; rw [e] at o1; exact o1
    · rename_i s' sp v e; rw [e] at o1; exact o1
    · rename_i s' sp a b c e
      rw [e] at o1 o2
      obtain ⟨z1, z2, z3, z4, z5⟩ := o2 _ rfl
      have hbr := (Mc.sg_ok mo z2).br
      dsimp only at hbr
      refine setP_ok o1 _ ⟨?_, z4, z5⟩
      dsimp only at z1 ⊢
      unfold mx
      split <;> split <;> omega
  | keep q p x =>
    simp only [doR]
    split
    · exact ok
    · rename_i r k pl e
      exact writeW_ok ok (pt_ok ok e)
  | aim q k x =>
    simp only [doR]
    split
    · exact ok
    · exact setP_ok ok _ ⟨ok.ring, ro.2, by omega⟩
  | move q p x =>
    simp only [doR]
    split
    · exact ok
    · rename_i r k pl e
      have po := pt_ok ok e
      split
      · exact ok
      · exact setP_ok ok _ ⟨po.1, po.2.1, by omega⟩
  | zero x =>
    simp only [doR]
    split
    · exact ok
    · split
      · exact place_ok ok _
      · exact ok
  | go x =>
    simp only [doR]
    split
    · exact ok
    · exact place_ok ok _
  | call p =>
    simp only [doR]
    split
    · exact ok
    · rename_i ring k pl e
      obtain ⟨e1, e2, e3⟩ := enter_ok mo ok e
      split
      · exact ok
      · rename_i c
        refine raised_ok (s := { s with kept := s.kept ++ [(s.ring, s.seat, s.place)], seat := some k, place := pl }) ⟨ok.ring, ok.num, ok.pl, ok.ps, ok.ml, ok.wl, fun j hj => by cases hj; exact e2, fun y hy => ?_, by simp; omega⟩ e1
        rcases List.mem_append.mp hy with z | z
        · exact ok.kept y z
        · rw [List.mem_singleton.mp z]
          exact ⟨ok.ring, ok.seat⟩
  | ret =>
    simp only [doR]
    split
    · exact ok
    · rename_i ring seat place e
      have hm := List.mem_of_getLast? e
      have kk := ok.kept _ hm
      have kl := ok.kl
      exact raised_ok (s := { s with kept := s.kept.dropLast, seat := seat, place := place }) ⟨ok.ring, ok.num, ok.pl, ok.ps, ok.ml, ok.wl, kk.2, fun y hy => ok.kept y (List.dropLast_subset _ hy), by simp; omega⟩ kk.1
theorem writeW_cnt {p far : Int} {w : Wd} : (writeW m s p far w).1.steps = s.steps ∧ (writeW m s p far w).1.left = s.left ∧ (writeW m s p far w).1.tch.length ≤ s.tch.length + 1 := by
  unfold writeW
  split
  · exact ⟨rfl, rfl, Nat.le_succ _⟩
  · split
    · exact ⟨rfl, rfl, by show (s.tch ++ [_]).length ≤ _; simp⟩
    · exact ⟨rfl, rfl, Nat.le_succ _⟩
theorem readW_cnt {p far : Int} : (readW m s p far).1.steps = s.steps ∧ (readW m s p far).1.left = s.left ∧ (readW m s p far).1.tch.length ≤ s.tch.length + 1 := by
  unfold readW
  split
  · exact ⟨rfl, rfl, Nat.le_succ _⟩
  · split
    · exact ⟨rfl, rfl, by show (s.tch ++ [_]).length ≤ _; simp⟩
    · exact ⟨rfl, rfl, Nat.le_succ _⟩
/-- a row leaves the steps and adds a touch at most -/
theorem doR_cnt (r : Rw) : (doR m s r).1.steps = s.steps ∧ (doR m s r).1.left = s.left ∧ (doR m s r).1.tch.length ≤ s.tch.length + 1 := by
  cases r with
  | load p x =>
    have o := readW_cnt (m := m) (s := s) (p := p) (far := x)
    simp only [doR]
    split <;> (rename_i e; rw [e] at o; exact o)
  | store p x => exact writeW_cnt
  | fetch q p x =>
    have o := readW_cnt (m := m) (s := s) (p := p) (far := x)
    simp only [doR]
    split <;> (rename_i e; rw [e] at o; exact o)
  | keep q p x =>
    simp only [doR]
    split
    · exact ⟨rfl, rfl, Nat.le_succ _⟩
    · exact writeW_cnt
  | set x => exact ⟨rfl, rfl, Nat.le_succ _⟩
  | add x => exact ⟨rfl, rfl, Nat.le_succ _⟩
  | ret =>
    simp only [doR]
    split <;> exact ⟨rfl, rfl, Nat.le_succ _⟩
  | aim q k x =>
    simp only [doR]
    split <;> exact ⟨rfl, rfl, Nat.le_succ _⟩
  | go x =>
    simp only [doR]
    split <;> exact ⟨rfl, rfl, Nat.le_succ _⟩
  | zero x =>
    simp only [doR]
    split
    · exact ⟨rfl, rfl, Nat.le_succ _⟩
    · split <;> exact ⟨rfl, rfl, Nat.le_succ _⟩
  | move q p x =>
    simp only [doR]
    split
    · exact ⟨rfl, rfl, Nat.le_succ _⟩
    · split <;> exact ⟨rfl, rfl, Nat.le_succ _⟩
  | call p =>
    simp only [doR]
    split
    · exact ⟨rfl, rfl, Nat.le_succ _⟩
    · split <;> exact ⟨rfl, rfl, Nat.le_succ _⟩
end
end RG.M

end

section
/-! Wr6 without Walk. -/
namespace RG.K
open PySem L2 RG RG.M
section
variable {h0 h : Mem} {mi : Nat} {home : Int} {s : Wk} {m : Mc} (n : Nat)
def seatD : Option Int → D
  | none => .non
  | some k => .int k
def kD (x : Int × Option Int × Int) : D := .tup [.int x.1, seatD x.2.1, .int x.2.2]
def sD (x : Int × Int × Int × Int) : D := .tup [.int x.1, .int x.2.1, .int x.2.2.1, .int x.2.2.2]
def tD (x : Int × Int × Int × Nat) : D := .tup [.int x.1, .int x.2.1, .int x.2.2.1, .str [x.2.2.2]]
structure MR (h0 : Mem) (mi : Nat) (m : Mc) : Prop where
  at_ : MachAt h0 mi (m.segs.map Sg.d) m.base
theorem MR.seg {h0 h : Mem} {mi : Nat} {m : Mc} (r : MR h0 mi m) (p : h0 <+: h) (n : Nat) {k : Int} (h1 : 0 ≤ k) (h2 : k < m.segs.length) : run T (n + 2) 6 [.ref mi, .int k] h = .ok (m.sg k).d h := by
  have hk : k.toNat < (m.segs.map Sg.d).length := by rw [List.length_map]; omega
  have e := p_segment n (r.at_.pre p) hk
  have e1 : ((k.toNat : Nat) : Int) = k := by omega
  rw [e1] at e
  rw [e]
  unfold Mc.sg
  have h3 : k.toNat < m.segs.length := by omega
  simp [h3]
theorem MR.base {h0 h : Mem} {mi : Nat} {m : Mc} (r : MR h0 mi m) (p : h0 <+: h) : ∃ k, h[mi]? = some (.ins 0 [(0, .ref k), (1, .int m.base)]) := let ⟨k, a, _⟩ := r.at_.pre p; ⟨k, a⟩
theorem isN_pt (x : Pt) : evP .isN [ptD x] h = .ok (.bl x.isNone) h := by
  cases x with
  | none => rfl
  | some y => rfl
theorem wOr {a b : Bool} : (if a = true then Out.ok (D.bl true) h else Out.ok (D.bl b) h) = Out.ok (D.bl (a || b)) h := by cases a <;> rfl
theorem P_max (i j : Int) : evP .max [.int i, .int j] h = .ok (.int (mx i j)) h := rfl
theorem P_min (i j : Int) : evP .min [.int i, .int j] h = .ok (.int (mn i j)) h := rfl
theorem P_ixT3 (x y z u : D) (l : List D) : evP .ix [.tup (x :: y :: z :: u :: l), .int 3] h = .ok u h := by rw [P_ixT]; rw [show (3 : Int) = ((3 : Nat) : Int) from rfl, atI_nat _ 3 (by simp)]; rfl
theorem P_ninS (c : Nat) (t : List Nat) : evP .nin [.str [c], .str t] h = .ok (.bl (!decide (c ∈ t))) h := rfl
theorem P_isN (d : D) : evP .isN [d] h = .ok (.bl (match d with | .non => true | _ => false)) h := rfl
theorem sz0 : (0 ≤ sizeLine) = True := by simp
theorem sz1 : (1 ≤ sizeLine) = True := by rw [sizeLine_eq]; simp
theorem sz2 : (2 ≤ sizeLine) = True := by rw [sizeLine_eq]; simp
theorem sz3 : (3 ≤ sizeLine) = True := by rw [sizeLine_eq]; simp
theorem sz4 : (4 ≤ sizeLine) = True := by rw [sizeLine_eq]; simp
theorem sz5 : (5 ≤ sizeLine) = True := by rw [sizeLine_eq]; simp
theorem m1 : Tab.meth T 0 1 = some 6 := rfl
theorem P_sl2 (g : Sg) : evP .slHi [g.d, .int 2] h = .ok (.tup [.tup [.int g.a, .int g.b, .int g.c], .str g.rt]) h := by
  show slc g.d none (some 2) h = _
  simp [slc, cut, HT.sIx, Sg.d]
theorem P_addT (a b : List D) (hz : a.length + b.length ≤ 100) : evP .add [.tup a, .tup b] h = .ok (.tup (a ++ b)) h := by
  have : evP .add [.tup a, .tup b] h = (if a.length + b.length ≤ sizeLine then .ok (.tup (a ++ b)) h else .stuck) := rfl
  rw [this, if_pos (by rw [sizeLine_eq]; omega)]
theorem wg_sub {c : Cl} {o i : E} {d : D} {r : Env} {Q : Env → Mem → Prop} : wpO (asg c (.sub o i) d r h) Q ↔ wpO (ev c o r h) fun x h => wpO (ev c i r h) fun k h => match putIx x k d h with | some h => Q r h | none => False := by
  simp only [asg, wpO_bind, wpO_calm]
  have e : ∀ (x k : D) (h : Mem), wpO (match putIx x k d h with | some h => .ok r h | none => .stuck) Q ↔ (match putIx x k d h with | some h => Q r h | none => False) := fun x k h => by split <;> exact Iff.rfl
  simp only [← e] <;> exact Iff.rfl
theorem put_ix {i : Nat} {l : List D} {k : Int} (e : h[i]? = some (.lst l)) (h1 : 0 ≤ k) (h2 : k < l.length) (d : D) : putIx (.ref i) (.int k) d h = some (h.set i (.lst (l.set k.toNat d))) := by
  unfold putIx
  simp only [e]
  have : ixN l.length k = some k.toNat := by
    unfold ixN
    simp [h1, h2]
  rw [this]
theorem fgb {kk : Nat} {b : Int} : fget 1 [(0, D.ref kk), (1, D.int b)] = some (.int b) := rfl
theorem ffb : Tab.fld T 0 1 = true := rfl
theorem P_mod (i j : Int) (hj : 0 < j) : evP .mod [.int i, .int j] h = .ok (.int (i % j)) h := by
  have : evP .mod [.int i, .int j] h = (if 0 < j then .ok (.int (i % j)) h else .stuck) := rfl
  rw [this, if_pos hj]
theorem neS {a b : List Nat} (ha : SeqAt.shaped (.str ⟨a.toArray⟩) = true) (hb : SeqAt.shaped (.str ⟨b.toArray⟩) = true) : evP .ne [.str a, .str b] h = .ok (.bl (!decide (a = b))) h := P_ne _ _ _ (eqO_str ha hb)
theorem ne_nn : evP .ne [.str tNum, .str tNum] h = .ok (.bl false) h := neS (by decide +kernel) (by decide +kernel)
theorem ne_np : evP .ne [.str tPtr, .str tNum] h = .ok (.bl true) h := neS (by decide +kernel) (by decide +kernel)
theorem ne_pn : evP .ne [.str tNum, .str tPtr] h = .ok (.bl true) h := neS (by decide +kernel) (by decide +kernel)
theorem ne_pp : evP .ne [.str tPtr, .str tPtr] h = .ok (.bl false) h := neS (by decide +kernel) (by decide +kernel)
theorem P_max3 (i j k : Int) : evP .max [.int i, .int j, .int k] h = .ok (.int (mx (mx i j) k)) h := rfl
theorem P_slW (x y z u : D) : evP .slLo [.tup [x, y, z, u], .int 2] h = .ok (.tup [z, u]) h := by
  show slc (.tup [x, y, z, u]) (some 2) none h = _
  simp [slc, cut, HT.sIx]
theorem enum_cons {l : List D} {i : Nat} (hi : i < l.length) : (enumD l).drop i = .tup [.int i, l[i]] :: (enumD l).drop (i + 1) := by
  have hl : (enumD l).length = l.length := by unfold enumD; simp
  rw [List.drop_eq_getElem_cons (by rw [hl]; exact hi)]
  congr 1
  unfold enumD
  rw [List.getElem_zipWith]
  simp
theorem enum_nil {l : List D} {i : Nat} (hi : l.length ≤ i) : (enumD l).drop i = [] := by
  have hl : (enumD l).length = l.length := by unfold enumD; simp
  exact List.drop_eq_nil_of_le (by rw [hl]; exact hi)
theorem P_notN (x : Pt) : evP .notN [ptD x] h = .ok (.bl x.isSome) h := by cases x <;> rfl
theorem P_slP (x y z : D) : evP .slLo [.tup [x, y, z], .int 1] h = .ok (.tup [y, z]) h := by
  show slc (.tup [x, y, z]) (some 1) none h = _
  simp [slc, cut, HT.sIx]
theorem P_lenTw (l : List Rw) : evP .len [.tup (l.map Rw.d)] h = .ok (.int l.length) h := by rw [P_lenT, List.length_map]
theorem eqO_lst0 {i j : Nat} {l : List D} {ps : List PyData} (e1 : rd h i = some l) (q : PDs h l ps) (sh : SeqAt.shaped (.list ps) = true) (e2 : rd h j = some []) : eqO h (.ref i) (.ref j) = some (decide (l = [])) := by
  rw [eqO_val (.lst e1 q) (.lst e2 .nil) sh (by rfl)]
  cases q with
  | nil => rfl
  | cons _ _ => rfl
theorem PDs.append {l l' : List D} {ps ps' : List PyData} (a : PDs h l ps) (b : PDs h l' ps') : PDs h (l ++ l') (ps ++ ps') := by
  induction l generalizing ps with
  | nil => cases a; exact b
  | cons x l ih => cases a with | cons r t => exact .cons r (ih t)
theorem P_pop {i : Nat} {l : List D} {x : D} (e : h[i]? = some (.lst (l ++ [x]))) : evP .pop [.ref i] h = .ok x (h.set i (.lst l)) := by
  have : evP .pop [.ref i] h = (match h[i]? with | some (.lst l) => (match l.getLast? with | some x => .ok x (h.set i (.lst l.dropLast)) | none => .stuck) | _ => .stuck) := rfl
  rw [this, e]
  simp
def Rw.w : Rw → List Nat
  | .set _ => wSet | .add _ => wAdd | .load _ _ => wLoad | .store _ _ => wStore | .fetch _ _ _ => wFetch | .keep _ _ _ => wKeep | .aim _ _ _ => wAim | .move _ _ _ => wMove | .zero _ => wZero | .go _ => wGo | .call _ => wCall | .ret => wRet
theorem row_head (r : Rw) : evP .ix [r.d, .int 0] h = .ok (.str (Rw.w r)) h := by cases r <;> simp only [Rw.d, P_ixT0] <;> rfl
theorem P_ixSg4 (g : Sg) : evP .ix [g.d, .int 4] h = .ok (.tup (g.rs.map Rw.d)) h := by
  unfold Sg.d
  rw [P_ixT, show (4 : Int) = ((4 : Nat) : Int) from rfl, atI_nat _ 4 (by simp)]
  rfl
theorem row_at (l : List Rw) {k : Int} (h1 : 0 ≤ k) (h2 : k < l.length) : evP .ix [.tup (l.map Rw.d), .int k] h = .ok (l.getD k.toNat default).d h := by
  have hk : k.toNat < (l.map Rw.d).length := by rw [List.length_map]; omega
  rw [P_ixT]
  have e := atI_nat (l.map Rw.d) k.toNat hk
  have e1 : ((k.toNat : Nat) : Int) = k := by omega
  rw [e1] at e
  rw [e]
  have h3 : k.toNat < l.length := by omega
  simp [h3]
theorem sg_ok (mo : m.Ok) {k : Int} (hk : 0 ≤ k ∧ k < m.segs.length) : (m.sg k).Ok m.segs.length m.base := by
  have h3 : k.toNat < m.segs.length := by omega
  have : m.sg k = m.segs[k.toNat] := by unfold Mc.sg; simp [h3]
  rw [this]
  exact mo.sg _ (List.getElem_mem h3)
theorem P_listT (l : List D) : evP .toList [.tup l] h = .ok (.ref h.length) (h ++ [.lst l]) := rfl
theorem P_tupR {i : Nat} {l : List D} (e : rd h i = some l) : evP .toTuple [.ref i] h = .ok (.tup l) h := by
  have : evP .toTuple [.ref i] h = (match rd h i with | some l => .ok (.tup l) h | none => .stuck) := rfl
  rw [this, e]
theorem g9 : T.glo 9 = some (.tup [.non, .non, .non, .non]) := rfl
theorem wv_mkp {c : Cl} {k : Nat} {as : Es} {pk : List Nat} {dd : List D} {r : Env} {Q : D → Mem → Prop} : wpO (ev c (.makeP k as pk dd) r h) Q ↔ wpO (evs c as r h) fun ds h => match c.t.init k, pickO (.ref h.length :: (ds ++ dd)) pk with
    | some f, some zs => wpO (c.ini f zs (h ++ [.ins k []])) fun v h' => (match v with | .non => Q (.ref h.length) h' | _ => False)
    | _, _ => False := by
  simp only [ev, wpO_bind]
  have e : ∀ (ds : List D) (h : Mem), wpO (match c.t.init k, pickO (.ref h.length :: (ds ++ dd)) pk with
    | some f, some zs => (c.ini f zs (h ++ [.ins k []])).bind fun v h' => match v with
      | .non => .ok (.ref h.length) h'
      | _ => .stuck
    | _, _ => .stuck) Q ↔ (match c.t.init k, pickO (.ref h.length :: (ds ++ dd)) pk with
    | some f, some zs => wpO (c.ini f zs (h ++ [.ins k []])) fun v h' => (match v with | .non => Q (.ref h.length) h' | _ => False)
    | _, _ => False) := fun ds h => by
    split
    · rw [wpO_bind]
      have e2 : ∀ (v : D) (h' : Mem), wpO (match v with | .non => Out.ok (D.ref h.length) h' | _ => .stuck) Q ↔ (match v with | .non => Q (.ref h.length) h' | _ => False) := fun v h' => by cases v <;> exact Iff.rfl
      simp only [← e2]
    · exact Iff.rfl
  simp only [← e] <;> exact Iff.rfl
theorem row_ok {many : Int} {r : Rw} (ro : r.Ok many) : RowOk many r.d := by
  cases r with
  | set x => exact ⟨wSet, [.int x], [110], rfl, rfl, .inl ⟨rfl, x, rfl⟩⟩
  | add x => exact ⟨wAdd, [.int x], [110], rfl, rfl, .inl ⟨rfl, x, rfl⟩⟩
  | zero x => exact ⟨wZero, [.int x], [110], rfl, rfl, .inl ⟨rfl, x, rfl⟩⟩
  | go x => exact ⟨wGo, [.int x], [110], rfl, rfl, .inl ⟨rfl, x, rfl⟩⟩
  | load p x => exact ⟨wLoad, _, [112, 110], rfl, rfl, .inr (.inl ⟨rfl, p, x, rfl, ro.1, ro.2⟩)⟩
  | store p x => exact ⟨wStore, _, [112, 110], rfl, rfl, .inr (.inl ⟨rfl, p, x, rfl, ro.1, ro.2⟩)⟩
  | fetch q p x => exact ⟨wFetch, _, [112, 112, 110], rfl, rfl, .inr (.inr (.inl ⟨rfl, q, p, x, rfl, ro.1.1, ro.1.2, ro.2.1, ro.2.2⟩))⟩
  | keep q p x => exact ⟨wKeep, _, [112, 112, 110], rfl, rfl, .inr (.inr (.inl ⟨rfl, q, p, x, rfl, ro.1.1, ro.1.2, ro.2.1, ro.2.2⟩))⟩
  | move q p x => exact ⟨wMove, _, [112, 112, 110], rfl, rfl, .inr (.inr (.inl ⟨rfl, q, p, x, rfl, ro.1.1, ro.1.2, ro.2.1, ro.2.2⟩))⟩
  | aim q k x => exact ⟨wAim, _, [112, 115, 110], rfl, rfl, .inr (.inr (.inr (.inl ⟨rfl, q, k, x, rfl, ro.1.1, ro.1.2, ro.2.1, ro.2.2⟩)))⟩
  | call p => exact ⟨wCall, _, [112], rfl, rfl, .inr (.inr (.inr (.inr (.inl ⟨rfl, p, rfl, ro.1, ro.2⟩))))⟩
  | ret => exact ⟨wRet, [], [], rfl, rfl, .inr (.inr (.inr (.inr (.inr ⟨rfl, rfl⟩))))⟩
theorem MR.grow {h h' : Mem} (mr : MR h mi m) (p : h <+: h') : MR h' mi m := ⟨mr.at_.pre p⟩
end
end RG.K

end

section
/-! Dk1: the deck that laws draw from. -/
namespace RG.K
open PySem L2 RG RG.M
section
variable {h : Mem} {k t : Nat} {x y z u d : D} {l : List D} {i j : Int}
theorem P_ix0 (e : rd h k = some (x :: l)) : evP .ix [.ref k, .int 0] h = .ok x h := P_ixR (j := 0) e (by simp)
theorem P_ix1 (e : rd h k = some (x :: y :: l)) : evP .ix [.ref k, .int 1] h = .ok y h := P_ixR (j := 1) e (by simp)
theorem P_ix2 (e : rd h k = some (x :: y :: z :: l)) : evP .ix [.ref k, .int 2] h = .ok z h := P_ixR (j := 2) e (by simp)
theorem P_mul (m : MulOk i j) : evP .mul [.int i, .int j] h = .ok (.int (i * j)) h :=
  (if_pos m : (@ite (Out D) (MulOk i j) (Classical.propDecidable _) (Out.ok (D.int (i * j)) h) Out.stuck) = _)
theorem P_fdiv (m : CDivW i j) : evP .fdiv [.int i, .int j] h = .ok (.int (i / j)) h :=
  (if_pos m : (@ite (Out D) (CDivW i j) (Classical.propDecidable _) (Out.ok (D.int (i / j)) h) Out.stuck) = _)
theorem P_pow (m : CPow i j) : evP .pow [.int i, .int j] h = .ok (.int (i ^ j.toNat)) h :=
  (if_pos m : (@ite (Out D) (CPow i j) (Classical.propDecidable _) (Out.ok (D.int (i ^ j.toNat)) h) Out.stuck) = _)
theorem P_neg : evP .neg [.int i] h = .ok (.int (-i)) h := rfl
theorem P_abs : evP .abs [.int i] h = .ok (.int (if i < 0 then -i else i)) h := rfl
theorem P_toI (b : Bool) : evP .toInt [.bl b] h = .ok (.int (if b then 1 else 0)) h := rfl
theorem P_ixL (e : rd h k = some (l ++ [x])) : evP .ix [.ref k, .int (-1)] h = .ok x h := by
  have : evP .ix [.ref k, .int (-1)] h = (match h[k]? with
    | some (.dct kvs) => (match kget (.int (-1)) kvs with
      | some v => if isKey (.int (-1)) then .ok v h else .stuck
      | none => .stuck)
    | some (.lst l) => (match atI l (-1) with
      | some d => .ok d h
      | none => .stuck)
    | _ => .stuck) := rfl
  rw [this, at_rd e]
  dsimp only
  have : atI (l ++ [x]) (-1) = some x := by
    unfold atI ixN
    simp only [List.length_append, List.length_cons, List.length_nil]
    simp
    rw [if_pos (by omega), show (-1 + ((l.length : Int) + 1)).toNat = l.length by omega]
    simp
  rw [this]
theorem put_L (e : rd h k = some (l ++ [x])) : putIx (.ref k) (.int (-1)) d h = some (h.set k (.lst (l ++ [d]))) := by
  unfold putIx
  dsimp only
  rw [at_rd e]
  dsimp only
  have : ixN (l ++ [x]).length (-1) = some l.length := by
    unfold ixN
    simp
    constructor <;> omega
  rw [this]
  simp
theorem put_l {m : Nat} (e : rd h k = some l) (hm : m < l.length) : putIx (.ref k) (.int m) d h = some (h.set k (.lst (l.set m d))) := by
  have := put_ix (at_rd e) (show (0 : Int) ≤ (m : Int) by omega) (by omega) d
  simpa using this
/-- a thing of a list -/
theorem ix_mem (e : rd h k = some l) (h1 : 0 ≤ i) (h2 : i < l.length) : ∃ d ∈ l, evP .ix [.ref k, .int i] h = .ok d h := by
  have hk : i.toNat < l.length := by omega
  have e := P_ixR e hk
  have e1 : ((i.toNat : Nat) : Int) = i := by omega
  rw [e1] at e
  exact ⟨_, List.getElem_mem hk, e⟩
end
/-- all else stays -/
structure Fr (t g : Nat) (h h' : Mem) : Prop where
  len : h.length ≤ h'.length
  at_ : ∀ i o, i ≠ t → i ≠ g → h[i]? = some o → h'[i]? = some o
theorem Fr.refl {t g : Nat} (h : Mem) : Fr t g h h := ⟨Nat.le_refl _, fun _ _ _ _ e => e⟩
theorem Fr.trans {t g : Nat} {h h1 h2 : Mem} (a : Fr t g h h1) (b : Fr t g h1 h2) : Fr t g h h2 := ⟨Nat.le_trans a.len b.len, fun i o h1 h2 e => b.at_ i o h1 h2 (a.at_ i o h1 h2 e)⟩
theorem Fr.pre {t g : Nat} {h h' : Mem} (p : h <+: h') : Fr t g h h' := ⟨pre_len p, fun i o _ _ e => pre_at p e⟩
theorem Fr.set {t g : Nat} {h : Mem} {i : Nat} {o : O} (hi : i = t ∨ i = g) : Fr t g h (h.set i o) := ⟨by rw [List.length_set]; exact Nat.le_refl _, fun j o' n1 n2 e => by
  rw [set_ne (fun z => by subst z; rcases hi with z | z; exact n1 z; exact n2 z)]; exact e⟩
theorem Fr.rd {t g : Nat} {h h' : Mem} (f : Fr t g h h') {i : Nat} {l : List D} (n1 : i ≠ t) (n2 : i ≠ g) (e : RG.rd h i = some l) : RG.rd h' i = some l := rd_at (f.at_ i _ n1 n2 (at_rd e))
/-- the deck -/
structure DkX (t g : Nat) (fold turn : Int) (gs : List Int) (h : Mem) : Prop where
  a : rd h t = some [.ref g, .int fold, .int turn]
  b : rd h g = some (gs.map .int)
  ne : t ≠ g
structure Dk (t g : Nat) (b : Int) (h : Mem) : Prop where
  ex : ∃ fold turn gs, DkX t g fold turn gs h ∧ 0 ≤ fold ∧ fold < 2 ^ 61 ∧ 0 ≤ turn ∧ turn ≤ b
theorem DkX.pre {t g : Nat} {fold turn : Int} {gs : List Int} {h h' : Mem} (x : DkX t g fold turn gs h) (p : h <+: h') : DkX t g fold turn gs h' := ⟨pre_rd p x.a, pre_rd p x.b, x.ne⟩
theorem Dk.pre {t g : Nat} {b : Int} {h h' : Mem} (x : Dk t g b h) (p : h <+: h') : Dk t g b h' := let ⟨f, u, gs, y, r⟩ := x.ex; ⟨f, u, gs, y.pre p, r⟩
theorem Dk.le {t g : Nat} {b c : Int} {h : Mem} (x : Dk t g b h) (k : b ≤ c) : Dk t g c h := let ⟨f, u, gs, y, r1, r2, r3, r4⟩ := x.ex; ⟨f, u, gs, y, r1, r2, r3, by omega⟩
theorem Dk.lt {t g : Nat} {b : Int} {h : Mem} (x : Dk t g b h) : t < h.length ∧ g < h.length := by
  obtain ⟨f, u, gs, y, _⟩ := x.ex
  exact ⟨(List.getElem?_eq_some_iff.mp (at_rd y.a)).1, (List.getElem?_eq_some_iff.mp (at_rd y.b)).1⟩
theorem DkX.putT {t g : Nat} {fold turn fold' turn' : Int} {gs : List Int} {h : Mem} (x : DkX t g fold turn gs h) : DkX t g fold' turn' gs (h.set t (.lst [.ref g, .int fold', .int turn'])) :=
  ⟨rd_at (set_at (at_rd x.a)), rd_at (by rw [set_ne x.ne]; exact at_rd x.b), x.ne⟩
theorem DkX.putG {t g : Nat} {fold turn : Int} {gs gs' : List Int} {h : Mem} (x : DkX t g fold turn gs h) : DkX t g fold turn gs' (h.set g (.lst (gs'.map .int))) :=
  ⟨rd_at (by rw [set_ne (Ne.symm x.ne)]; exact at_rd x.a), rd_at (set_at (at_rd x.b)), x.ne⟩
theorem T201 : T.defs 201 = some ⟨2, 5, d_law_take⟩ := rfl
theorem log_lt {j : Int} (h1 : j.natAbs < 2 ^ 8999) (h0 : j ≠ 0) : j.natAbs.log2 < 9000 := by
  have := (Nat.log2_lt (n := j.natAbs) (k := 8999) (by omega)).mpr h1
  omega
variable (n : Nat)
theorem put_d2 {h : Mem} {k : Nat} {a b c z : D} (e : rd h k = some [a, b, c]) : putIx (.ref k) (.int 2) z h = some (h.set k (.lst [a, b, z])) := put_l (m := 2) e (by simp)
theorem p_take {t g : Nat} {b many : Int} {h : Mem} (dk : Dk t g b h) (hb : b < 2 ^ 40) (hm : 0 < many) (hm2 : many < 2 ^ 250) :
    wpO (run T (n + 2) 201 [.ref t, .int many] h) fun v h' => ∃ x : Int, v = .int x ∧ 0 ≤ x ∧ x < many ∧ Fr t g h h' ∧ Dk t g (b + 1) h' := by
  obtain ⟨fold, turn, gs, x, f1, f2, t1, t2⟩ := dk.ex
  have hm3 : many.natAbs < 2 ^ 8999 := Nat.lt_of_lt_of_le (show many.natAbs < 2 ^ 250 by omega) (Nat.pow_le_pow_right (by decide) (by decide))
  refine wpO_run T201 rfl ?_
  simp only [d_law_take, wv_var, wv_cst, wv_glo, wv_pr, ws_nil, ws_cons, wv_and, wv_or, wv_not, wv_ite, wv_chain, wv_tup, wv_lst, wv_call, wv_callP, wv_comp, wv_fld, wv_lm, wv_meth, wv_lenI, wI_of, wC_yes, wC_test, wg_nm, wg_tupT, wgs_nil, wgs_cons, wS_asg, wS_ex, wS_ret, wS_iff, wS_for, wS_whl, wSs_nil, wSs_cons, w_bl, wpO_ok, wpO_bind, wpO_calm, List.map_cons, List.map_nil, List.cons_append, List.nil_append, List.getElem?_cons_zero, List.getElem?_cons_succ, List.set_cons_zero, List.set_cons_succ, List.length_cons, List.length_nil, List.replicate, Nat.reduceSub, Nat.reduceAdd]
  refine wpF.mono (wpF_whl (N := fun r h1 => r = [some (.ref t), some (.int many), none, none, none] ∧ ∃ gs, DkX t g fold turn gs h1 ∧ Fr t g h h1) (R := fun _ _ => False)
    (fun m r h1 => r = [some (.ref t), some (.int many), none, none, none] ∧ ∃ gs, m = gs.length ∧ DkX t g fold turn gs h1 ∧ Fr t g h h1) ?_ gs.length _ h ⟨rfl, gs, rfl, x, Fr.refl h⟩) ?_ (fun _ _ z => z.elim)
  · rintro m r h1 ⟨rfl, gs, rfl, x, fr⟩
    have x1 : DkX t g fold turn gs (h1 ++ [O.lst []]) := x.pre (pre_app _ _)
    have ne := P_ne (h1 ++ [O.lst []]) (.ref g) (.ref h1.length) (eqO_nil x1.b (rd_at (by simp)))
    have fr1 : Fr t g h (h1 ++ [O.lst []]) := fr.trans (Fr.pre (pre_app _ _))
    try simp only [wv_var, wv_cst, wv_glo, wv_pr, ws_nil, ws_cons, wv_and, wv_or, wv_not, wv_ite, wv_chain, wv_tup, wv_lst, wv_call, wv_callP, wv_comp, wv_fld, wv_lm, wv_meth, wv_lenI, wI_of, wC_yes, wC_test, wg_nm, wg_tupT, wgs_nil, wgs_cons, wS_asg, wS_ex, wS_ret, wS_iff, wS_for, wS_whl, wSs_nil, wSs_cons, w_bl, wpO_ok, wpO_bind, wpO_calm, List.map_cons, List.map_nil, List.cons_append, List.nil_append, List.getElem?_cons_zero, List.getElem?_cons_succ, List.set_cons_zero, List.set_cons_succ, List.length_cons, List.length_nil, List.replicate, Nat.reduceSub, Nat.reduceAdd, P_ix0 x.a, sz0, if_true, ne]
    rcases List.eq_nil_or_concat gs with c | ⟨gs', y, c⟩
    · subst c
      simp only [decide_true, Bool.not_true, Bool.false_eq_true, if_false]
      exact ⟨trivial, [], x1, fr1⟩
    · rw [List.concat_eq_append] at c
      subst c
      have e : (!decide (gs' ++ [y] = [])) = true := by simp
      have gl := x1.b
      rw [List.map_append, List.map_cons, List.map_nil] at gl
      rw [e, if_pos rfl]
      try simp only [wv_var, wv_cst, wv_glo, wv_pr, ws_nil, ws_cons, wv_and, wv_or, wv_not, wv_ite, wv_chain, wv_tup, wv_lst, wv_call, wv_callP, wv_comp, wv_fld, wv_lm, wv_meth, wv_lenI, wI_of, wC_yes, wC_test, wg_nm, wg_tupT, wgs_nil, wgs_cons, wS_asg, wS_ex, wS_ret, wS_iff, wS_for, wS_whl, wSs_nil, wSs_cons, w_bl, wpO_ok, wpO_bind, wpO_calm, List.map_cons, List.map_nil, List.cons_append, List.nil_append, List.getElem?_cons_zero, List.getElem?_cons_succ, List.set_cons_zero, List.set_cons_succ, List.length_cons, List.length_nil, List.replicate, Nat.reduceSub, Nat.reduceAdd, P_ix0 x1.a, P_neg, P_ixL gl, P_lt]
      by_cases c1 : y < 2
      · simp only [c1, decide_true, if_true, wv_var, wv_cst, wv_glo, wv_pr, ws_nil, ws_cons, wv_and, wv_or, wv_not, wv_ite, wv_chain, wv_tup, wv_lst, wv_call, wv_callP, wv_comp, wv_fld, wv_lm, wv_meth, wv_lenI, wI_of, wC_yes, wC_test, wg_nm, wg_tupT, wgs_nil, wgs_cons, wS_asg, wS_ex, wS_ret, wS_iff, wS_for, wS_whl, wSs_nil, wSs_cons, w_bl, wpO_ok, wpO_bind, wpO_calm, List.map_cons, List.map_nil, List.cons_append, List.nil_append, List.getElem?_cons_zero, List.getElem?_cons_succ, List.set_cons_zero, List.set_cons_succ, List.length_cons, List.length_nil, List.replicate, Nat.reduceSub, Nat.reduceAdd, P_ix0 x1.a, gl, P_pop (at_rd gl)]
        refine ⟨gs'.length, by simp, trivial, gs', rfl, x1.putG, fr1.trans (Fr.set (.inr rfl))⟩
      · simp only [c1, decide_false, Bool.false_eq_true, if_false]
        exact ⟨trivial, gs' ++ [y], x1, fr1⟩
  · rintro r h1 ⟨rfl, gs, x, fr⟩
    have x1 : DkX t g fold turn gs (h1 ++ [O.lst []]) := x.pre (pre_app _ _)
    have ne := P_ne (h1 ++ [O.lst []]) (.ref g) (.ref h1.length) (eqO_nil x1.b (rd_at (by simp)))
    have fr1 : Fr t g h (h1 ++ [O.lst []]) := fr.trans (Fr.pre (pre_app _ _))
    try simp only [wv_var, wv_cst, wv_glo, wv_pr, ws_nil, ws_cons, wv_and, wv_or, wv_not, wv_ite, wv_chain, wv_tup, wv_lst, wv_call, wv_callP, wv_comp, wv_fld, wv_lm, wv_meth, wv_lenI, wI_of, wC_yes, wC_test, wg_nm, wg_tupT, wgs_nil, wgs_cons, wS_asg, wS_ex, wS_ret, wS_iff, wS_for, wS_whl, wSs_nil, wSs_cons, w_bl, wpO_ok, wpO_bind, wpO_calm, List.map_cons, List.map_nil, List.cons_append, List.nil_append, List.getElem?_cons_zero, List.getElem?_cons_succ, List.set_cons_zero, List.set_cons_succ, List.length_cons, List.length_nil, List.replicate, Nat.reduceSub, Nat.reduceAdd, P_ix0 x.a, sz0, if_true, ne]
    rcases List.eq_nil_or_concat gs with c | ⟨gs', y, c⟩
    · subst c
      simp only [decide_true, Bool.not_true, Bool.false_eq_true, if_false, wv_var, wv_cst, wv_glo, wv_pr, ws_nil, ws_cons, wv_and, wv_or, wv_not, wv_ite, wv_chain, wv_tup, wv_lst, wv_call, wv_callP, wv_comp, wv_fld, wv_lm, wv_meth, wv_lenI, wI_of, wC_yes, wC_test, wg_nm, wg_tupT, wgs_nil, wgs_cons, wS_asg, wS_ex, wS_ret, wS_iff, wS_for, wS_whl, wSs_nil, wSs_cons, w_bl, wpO_ok, wpO_bind, wpO_calm, List.map_cons, List.map_nil, List.cons_append, List.nil_append, List.getElem?_cons_zero, List.getElem?_cons_succ, List.set_cons_zero, List.set_cons_succ, List.length_cons, List.length_nil, List.replicate, Nat.reduceSub, Nat.reduceAdd, P_ix2 x1.a, P_add, wg_sub, put_d2 x1.a]
      have x2 : DkX t g fold (turn + 1) [] ((h1 ++ [O.lst []]).set t (.lst [.ref g, .int fold, .int (turn + 1)])) := x1.putT
      have cp : CPow (turn + 1 + 5) 3 := ⟨by omega, by omega, by omega⟩
      have m1 : MulOk (fold + 40503) ((turn + 1 + 5) ^ (3 : Int).toNat) := .inr (.inl ⟨by omega, by omega⟩)
      have m2 : MulOk 69621 (turn + 1) := .inr (.inl ⟨by omega, by omega⟩)
      try simp only [wv_var, wv_cst, wv_glo, wv_pr, ws_nil, ws_cons, wv_and, wv_or, wv_not, wv_ite, wv_chain, wv_tup, wv_lst, wv_call, wv_callP, wv_comp, wv_fld, wv_lm, wv_meth, wv_lenI, wI_of, wC_yes, wC_test, wg_nm, wg_tupT, wgs_nil, wgs_cons, wS_asg, wS_ex, wS_ret, wS_iff, wS_for, wS_whl, wSs_nil, wSs_cons, w_bl, wpO_ok, wpO_bind, wpO_calm, List.map_cons, List.map_nil, List.cons_append, List.nil_append, List.getElem?_cons_zero, List.getElem?_cons_succ, List.set_cons_zero, List.set_cons_succ, List.length_cons, List.length_nil, List.replicate, Nat.reduceSub, Nat.reduceAdd, P_ix1 x2.a, P_ix2 x2.a, P_add, P_pow cp, P_mul m1, P_mul m2, P_mod _ _ (show (0 : Int) < 2305843009213693951 by omega)]
      generalize hmx : ((fold + 40503) * (turn + 1 + 5) ^ (3 : Int).toNat + 69621 * (turn + 1)) % 2305843009213693951 = q
      have q0 : 0 ≤ q := by rw [← hmx]; exact Int.emod_nonneg _ (by decide)
      have q1 : q < 2305843009213693951 := by rw [← hmx]; exact Int.emod_lt_of_pos _ (by decide)
      have cp3 : CPow q 3 := ⟨by omega, by omega, by omega⟩
      have cd64 : CDivW (q ^ (3 : Int).toNat % 1000000007) 64 := ⟨by omega, by decide⟩
      simp only [P_pow cp3, P_mod _ _ (show (0 : Int) < 1000000007 by omega), P_fdiv cd64, P_mod _ _ hm, wv_var, wv_cst, wv_glo, wv_pr, ws_nil, ws_cons, wv_and, wv_or, wv_not, wv_ite, wv_chain, wv_tup, wv_lst, wv_call, wv_callP, wv_comp, wv_fld, wv_lm, wv_meth, wv_lenI, wI_of, wC_yes, wC_test, wg_nm, wg_tupT, wgs_nil, wgs_cons, wS_asg, wS_ex, wS_ret, wS_iff, wS_for, wS_whl, wSs_nil, wSs_cons, w_bl, wpO_ok, wpO_bind, wpO_calm, List.map_cons, List.map_nil, List.cons_append, List.nil_append, List.getElem?_cons_zero, List.getElem?_cons_succ, List.set_cons_zero, List.set_cons_succ, List.length_cons, List.length_nil, List.replicate, Nat.reduceSub, Nat.reduceAdd]
      exact ⟨_, rfl, Int.emod_nonneg _ (by omega), Int.emod_lt_of_pos _ hm, fr1.trans (Fr.set (.inl rfl)), ⟨fold, turn + 1, [], x2, f1, f2, by omega, by omega⟩⟩
    · rw [List.concat_eq_append] at c
      subst c
      have e : (!decide (gs' ++ [y] = [])) = true := by simp
      have gl := x1.b
      rw [List.map_append, List.map_cons, List.map_nil] at gl
      have cd : CDivW y many := ⟨hm, log_lt hm3 (by omega)⟩
      rw [e, if_pos rfl]
      try simp only [wv_var, wv_cst, wv_glo, wv_pr, ws_nil, ws_cons, wv_and, wv_or, wv_not, wv_ite, wv_chain, wv_tup, wv_lst, wv_call, wv_callP, wv_comp, wv_fld, wv_lm, wv_meth, wv_lenI, wI_of, wC_yes, wC_test, wg_nm, wg_tupT, wgs_nil, wgs_cons, wS_asg, wS_ex, wS_ret, wS_iff, wS_for, wS_whl, wSs_nil, wSs_cons, w_bl, wpO_ok, wpO_bind, wpO_calm, List.map_cons, List.map_nil, List.cons_append, List.nil_append, List.getElem?_cons_zero, List.getElem?_cons_succ, List.set_cons_zero, List.set_cons_succ, List.length_cons, List.length_nil, List.replicate, Nat.reduceSub, Nat.reduceAdd, P_ix0 x1.a, P_neg, P_ixL gl, P_mod _ _ hm, P_fdiv cd, wg_sub, put_L gl]
      have x2 : DkX t g fold turn (gs' ++ [y / many]) ((h1 ++ [O.lst []]).set g (.lst ((gs' ++ [y / many]).map .int))) := x1.putG
      rw [List.map_append, List.map_cons, List.map_nil] at x2
      exact ⟨_, rfl, Int.emod_nonneg _ (by omega), Int.emod_lt_of_pos _ hm, fr1.trans (Fr.set (.inr rfl)), ⟨fold, turn, _, x2, f1, f2, t1, by omega⟩⟩
/-- a thing out of a written list, by a draw -/
theorem pick {t g : Nat} {b k : Int} {ds : List D} {h : Mem} {Q : D → Mem → Prop} (dk : Dk t g b h) (hb : b < 2 ^ 40) (hk : (ds.length : Int) = k) (hz : ds ≠ []) (hz2 : ds.length ≤ 100)
    (q : ∀ d ∈ ds, ∀ h2, Fr t g h h2 → Dk t g (b + 1) h2 → Q d h2) : wpO (run T (n + 2) 201 [.ref t, .int k] (h ++ [.lst ds])) fun d h2 => wpO (evP .ix [.ref h.length, d] h2) Q := by
  have dk1 := dk.pre (pre_app h [O.lst ds])
  have hp : 0 < ds.length := List.length_pos_iff.mpr hz
  refine wpO.mono (p_take n dk1 hb (by omega) (by omega)) ?_
  rintro v h2 ⟨x, rfl, x0, x1, fr, dk2⟩
  have lt := dk.lt
  have e : rd h2 h.length = some ds := fr.rd (by omega) (by omega) (rd_at (by simp))
  obtain ⟨d, hd, e2⟩ := ix_mem e x0 (by omega)
  rw [e2]
  exact q d hd h2 ((Fr.pre (pre_app _ _)).trans fr) dk2
/-- a thing out of a written list -/
theorem pickAt {i : Int} {ds : List D} {h : Mem} {Q : D → Mem → Prop} (h1 : 0 ≤ i) (h2 : i < ds.length) (q : ∀ d ∈ ds, Q d (h ++ [.lst ds])) : wpO (evP .ix [.ref h.length, .int i] (h ++ [.lst ds])) Q := by
  obtain ⟨d, hd, e2⟩ := ix_mem (h := h ++ [O.lst ds]) (k := h.length) (rd_at (by simp)) h1 h2
  rw [e2]
  exact q d hd
theorem sz11 : (11 ≤ sizeLine) = True := by rw [sizeLine_eq]; simp
theorem sz6 : (6 ≤ sizeLine) = True := by rw [sizeLine_eq]; simp
theorem sz7 : (7 ≤ sizeLine) = True := by rw [sizeLine_eq]; simp
theorem sz8 : (8 ≤ sizeLine) = True := by rw [sizeLine_eq]; simp
end RG.K

end

section
/-! Dk2: what is drawn: numbers, words, rows. -/
namespace RG.K
open PySem L2 RG RG.M
variable (n : Nat)
theorem T19 : T.defs 19 = some ⟨1, 2, d_law_number⟩ := rfl
theorem T20 : T.defs 20 = some ⟨2, 6, d_law_row⟩ := rfl
theorem T21 : T.defs 21 = some ⟨3, 3, d_law_word⟩ := rfl
theorem cp59 : CPow 10 59 := ⟨by omega, by omega, by decide⟩
theorem cp9 : CPow 10 9 := ⟨by omega, by omega, by decide⟩
theorem cp60 : CPow 10 60 := ⟨by omega, by omega, by decide⟩
theorem q59 : (10 : Int) ^ (59 : Int).toNat = 100000000000000000000000000000000000000000000000000000000000 := by decide
theorem q60 : (10 : Int) ^ (60 : Int).toNat = 1000000000000000000000000000000000000000000000000000000000000 := by decide
theorem q9 : (10 : Int) ^ (9 : Int).toNat = 1000000000 := by decide
theorem p_number {t g : Nat} {b : Int} {h : Mem} (dk : Dk t g b h) (hb : b < 2 ^ 39) :
    wpO (run T (n + 3) 19 [.ref t] h) fun v h' => ∃ x : Int, v = .int x ∧ Fr t g h h' ∧ Dk t g (b + 3) h' := by
  refine wpO_run T19 rfl ?_
  simp only [d_law_number, wv_var, wv_cst, wv_glo, wv_pr, ws_nil, ws_cons, wv_and, wv_or, wv_not, wv_ite, wv_chain, wv_tup, wv_lst, wv_call, wv_callP, wv_comp, wv_fld, wv_lm, wv_meth, wv_lenI, wI_of, wC_yes, wC_test, wg_nm, wg_tupT, wgs_nil, wgs_cons, wS_asg, wS_ex, wS_ret, wS_iff, wS_for, wS_whl, wSs_nil, wSs_cons, w_bl, wpO_ok, wpO_bind, wpO_calm, List.map_cons, List.map_nil, List.cons_append, List.nil_append, List.getElem?_cons_zero, List.getElem?_cons_succ, List.set_cons_zero, List.set_cons_succ, List.length_cons, List.length_nil, List.replicate, Nat.reduceSub, Nat.reduceAdd, cl_cal]
  refine wpO.mono (p_take n dk (by omega) (by omega) (by omega)) ?_
  rintro v h1 ⟨x, rfl, x0, x1, fr1, dk1⟩
  by_cases c : x = 11
  · try simp only [wv_var, wv_cst, wv_glo, wv_pr, ws_nil, ws_cons, wv_and, wv_or, wv_not, wv_ite, wv_chain, wv_tup, wv_lst, wv_call, wv_callP, wv_comp, wv_fld, wv_lm, wv_meth, wv_lenI, wI_of, wC_yes, wC_test, wg_nm, wg_tupT, wgs_nil, wgs_cons, wS_asg, wS_ex, wS_ret, wS_iff, wS_for, wS_whl, wSs_nil, wSs_cons, w_bl, wpO_ok, wpO_bind, wpO_calm, List.map_cons, List.map_nil, List.cons_append, List.nil_append, List.getElem?_cons_zero, List.getElem?_cons_succ, List.set_cons_zero, List.set_cons_succ, List.length_cons, List.length_nil, List.replicate, Nat.reduceSub, Nat.reduceAdd, P_eqI, c, decide_true, if_true, cl_cal, P_neg, sz2]
    have dk1' := dk1.pre (pre_app h1 [O.lst [.int 1, .int (-1)]])
    refine wpO.mono (p_take n dk1' (by omega) (by omega) (by omega)) ?_
    rintro v h2 ⟨y, rfl, y0, y1, fr2, dk2⟩
    have lt := dk1.lt
    have e : rd h2 h1.length = some [.int 1, .int (-1)] := fr2.rd (by omega) (by omega) (rd_at (by simp))
    obtain ⟨d, hd, e2⟩ := ix_mem e y0 (by simpa using y1)
    try simp only [wv_var, wv_cst, wv_glo, wv_pr, ws_nil, ws_cons, wv_and, wv_or, wv_not, wv_ite, wv_chain, wv_tup, wv_lst, wv_call, wv_callP, wv_comp, wv_fld, wv_lm, wv_meth, wv_lenI, wI_of, wC_yes, wC_test, wg_nm, wg_tupT, wgs_nil, wgs_cons, wS_asg, wS_ex, wS_ret, wS_iff, wS_for, wS_whl, wSs_nil, wSs_cons, w_bl, wpO_ok, wpO_bind, wpO_calm, List.map_cons, List.map_nil, List.cons_append, List.nil_append, List.getElem?_cons_zero, List.getElem?_cons_succ, List.set_cons_zero, List.set_cons_succ, List.length_cons, List.length_nil, List.replicate, Nat.reduceSub, Nat.reduceAdd, e2, P_pow cp59, q59, cl_cal]
    refine wpO.mono (p_take n dk2 (by omega) (by omega) (by omega)) ?_
    rintro v h3 ⟨z, rfl, z0, z1, fr3, dk3⟩
    have fr := fr1.trans ((Fr.pre (pre_app _ _)).trans (fr2.trans fr3))
    have hd : d = .int 1 ∨ d = .int (-1) := by simpa using hd
    rcases hd with rfl | rfl
    · try simp only [wv_var, wv_cst, wv_glo, wv_pr, ws_nil, ws_cons, wv_and, wv_or, wv_not, wv_ite, wv_chain, wv_tup, wv_lst, wv_call, wv_callP, wv_comp, wv_fld, wv_lm, wv_meth, wv_lenI, wI_of, wC_yes, wC_test, wg_nm, wg_tupT, wgs_nil, wgs_cons, wS_asg, wS_ex, wS_ret, wS_iff, wS_for, wS_whl, wSs_nil, wSs_cons, w_bl, wpO_ok, wpO_bind, wpO_calm, List.map_cons, List.map_nil, List.cons_append, List.nil_append, List.getElem?_cons_zero, List.getElem?_cons_succ, List.set_cons_zero, List.set_cons_succ, List.length_cons, List.length_nil, List.replicate, Nat.reduceSub, Nat.reduceAdd, P_add, P_mul (show MulOk 1 (100000000000000000000000000000000000000000000000000000000000 + z) from .inr (.inl ⟨by omega, by omega⟩))]
      exact ⟨_, rfl, fr, dk3.le (by omega)⟩
    · try simp only [wv_var, wv_cst, wv_glo, wv_pr, ws_nil, ws_cons, wv_and, wv_or, wv_not, wv_ite, wv_chain, wv_tup, wv_lst, wv_call, wv_callP, wv_comp, wv_fld, wv_lm, wv_meth, wv_lenI, wI_of, wC_yes, wC_test, wg_nm, wg_tupT, wgs_nil, wgs_cons, wS_asg, wS_ex, wS_ret, wS_iff, wS_for, wS_whl, wSs_nil, wSs_cons, w_bl, wpO_ok, wpO_bind, wpO_calm, List.map_cons, List.map_nil, List.cons_append, List.nil_append, List.getElem?_cons_zero, List.getElem?_cons_succ, List.set_cons_zero, List.set_cons_succ, List.length_cons, List.length_nil, List.replicate, Nat.reduceSub, Nat.reduceAdd, P_add, P_mul (show MulOk (-1) (100000000000000000000000000000000000000000000000000000000000 + z) from .inr (.inl ⟨by omega, by omega⟩))]
      exact ⟨_, rfl, fr, dk3.le (by omega)⟩
  · have e : rd (h1 ++ [O.lst [.int 0, .int 0, .int 1, .int 1, .int 2, .int 3, .int (-1), .int 5, .int 9, .int 0, .int 1]]) h1.length = some [.int 0, .int 0, .int 1, .int 1, .int 2, .int 3, .int (-1), .int 5, .int 9, .int 0, .int 1] := rd_at (by simp)
    obtain ⟨d, hd, e2⟩ := ix_mem e x0 (by simp; omega)
    have hd' : ∃ y, d = .int y := by
      simp only [List.mem_cons, List.not_mem_nil, or_false] at hd
      rcases hd with rfl | rfl | rfl | rfl | rfl | rfl | rfl | rfl | rfl | rfl | rfl <;> exact ⟨_, rfl⟩
    obtain ⟨y, rfl⟩ := hd'
    have s11 : (11 ≤ sizeLine) = True := by rw [sizeLine_eq]; simp
    try simp only [wv_var, wv_cst, wv_glo, wv_pr, ws_nil, ws_cons, wv_and, wv_or, wv_not, wv_ite, wv_chain, wv_tup, wv_lst, wv_call, wv_callP, wv_comp, wv_fld, wv_lm, wv_meth, wv_lenI, wI_of, wC_yes, wC_test, wg_nm, wg_tupT, wgs_nil, wgs_cons, wS_asg, wS_ex, wS_ret, wS_iff, wS_for, wS_whl, wSs_nil, wSs_cons, w_bl, wpO_ok, wpO_bind, wpO_calm, List.map_cons, List.map_nil, List.cons_append, List.nil_append, List.getElem?_cons_zero, List.getElem?_cons_succ, List.set_cons_zero, List.set_cons_succ, List.length_cons, List.length_nil, List.replicate, Nat.reduceSub, Nat.reduceAdd, P_eqI, c, decide_false, Bool.false_eq_true, if_false, P_neg, s11, if_true, e2]
    exact ⟨_, rfl, fr1.trans (Fr.pre (pre_app _ _)), (dk1.pre (pre_app _ _)).le (by omega)⟩
theorem p_dword {t g : Nat} {b many scale : Int} {h : Mem} (dk : Dk t g b h) (hb : b < 2 ^ 39) (h1 : 0 < many ∧ many ≤ 8) (h2 : 2 ≤ scale ∧ scale < 2 ^ 240) :
    wpO (run T (n + 3) 21 [.ref t, .int many, .int scale] h) fun v h' => ∃ x : Wd, v = x.d ∧ x.Ok many scale ∧ Fr t g h h' ∧ Dk t g (b + 4) h' := by
  refine wpO_run T21 rfl ?_
  simp only [d_law_word, wv_var, wv_cst, wv_glo, wv_pr, ws_nil, ws_cons, wv_and, wv_or, wv_not, wv_ite, wv_chain, wv_tup, wv_lst, wv_call, wv_callP, wv_comp, wv_fld, wv_lm, wv_meth, wv_lenI, wI_of, wC_yes, wC_test, wg_nm, wg_tupT, wgs_nil, wgs_cons, wS_asg, wS_ex, wS_ret, wS_iff, wS_for, wS_whl, wSs_nil, wSs_cons, w_bl, wpO_ok, wpO_bind, wpO_calm, List.map_cons, List.map_nil, List.cons_append, List.nil_append, List.getElem?_cons_zero, List.getElem?_cons_succ, List.set_cons_zero, List.set_cons_succ, List.length_cons, List.length_nil, List.replicate, Nat.reduceSub, Nat.reduceAdd, cl_cal]
  refine wpO.mono (p_take n dk (by omega) (by omega) (by omega)) ?_
  rintro v h1' ⟨x, rfl, x0, x1, fr1, dk1⟩
  by_cases c : x = 0
  · try simp only [wv_var, wv_cst, wv_glo, wv_pr, ws_nil, ws_cons, wv_and, wv_or, wv_not, wv_ite, wv_chain, wv_tup, wv_lst, wv_call, wv_callP, wv_comp, wv_fld, wv_lm, wv_meth, wv_lenI, wI_of, wC_yes, wC_test, wg_nm, wg_tupT, wgs_nil, wgs_cons, wS_asg, wS_ex, wS_ret, wS_iff, wS_for, wS_whl, wSs_nil, wSs_cons, w_bl, wpO_ok, wpO_bind, wpO_calm, List.map_cons, List.map_nil, List.cons_append, List.nil_append, List.getElem?_cons_zero, List.getElem?_cons_succ, List.set_cons_zero, List.set_cons_succ, List.length_cons, List.length_nil, List.replicate, Nat.reduceSub, Nat.reduceAdd, P_eqI, c, decide_true, if_true, P_pow cp9, q9, P_min, cl_cal]
    have mp : 0 < mn scale 1000000000 ∧ mn scale 1000000000 ≤ scale := by unfold mn; split <;> omega
    refine wpO.mono (p_take n dk1 (by omega) mp.1 (by omega)) ?_
    rintro v h2' ⟨y, rfl, y0, y1, fr2, dk2⟩
    try simp only [wv_var, wv_cst, wv_glo, wv_pr, ws_nil, ws_cons, wv_and, wv_or, wv_not, wv_ite, wv_chain, wv_tup, wv_lst, wv_call, wv_callP, wv_comp, wv_fld, wv_lm, wv_meth, wv_lenI, wI_of, wC_yes, wC_test, wg_nm, wg_tupT, wgs_nil, wgs_cons, wS_asg, wS_ex, wS_ret, wS_iff, wS_for, wS_whl, wSs_nil, wSs_cons, w_bl, wpO_ok, wpO_bind, wpO_calm, List.map_cons, List.map_nil, List.cons_append, List.nil_append, List.getElem?_cons_zero, List.getElem?_cons_succ, List.set_cons_zero, List.set_cons_succ, List.length_cons, List.length_nil, List.replicate, Nat.reduceSub, Nat.reduceAdd, sz2, if_true]
    exact ⟨.num y, rfl, ⟨y0, by omega⟩, fr1.trans fr2, dk2.le (by omega)⟩
  · try simp only [wv_var, wv_cst, wv_glo, wv_pr, ws_nil, ws_cons, wv_and, wv_or, wv_not, wv_ite, wv_chain, wv_tup, wv_lst, wv_call, wv_callP, wv_comp, wv_fld, wv_lm, wv_meth, wv_lenI, wI_of, wC_yes, wC_test, wg_nm, wg_tupT, wgs_nil, wgs_cons, wS_asg, wS_ex, wS_ret, wS_iff, wS_for, wS_whl, wSs_nil, wSs_cons, w_bl, wpO_ok, wpO_bind, wpO_calm, List.map_cons, List.map_nil, List.cons_append, List.nil_append, List.getElem?_cons_zero, List.getElem?_cons_succ, List.set_cons_zero, List.set_cons_succ, List.length_cons, List.length_nil, List.replicate, Nat.reduceSub, Nat.reduceAdd, P_eqI, c, decide_false, Bool.false_eq_true, if_false, cl_cal]
    refine wpO.mono (p_take n dk1 (by omega) (by omega) (by omega)) ?_
    rintro v h2' ⟨y, rfl, y0, y1, fr2, dk2⟩
    try simp only [wv_var, wv_cst, wv_glo, wv_pr, ws_nil, ws_cons, wv_and, wv_or, wv_not, wv_ite, wv_chain, wv_tup, wv_lst, wv_call, wv_callP, wv_comp, wv_fld, wv_lm, wv_meth, wv_lenI, wI_of, wC_yes, wC_test, wg_nm, wg_tupT, wgs_nil, wgs_cons, wS_asg, wS_ex, wS_ret, wS_iff, wS_for, wS_whl, wSs_nil, wSs_cons, w_bl, wpO_ok, wpO_bind, wpO_calm, List.map_cons, List.map_nil, List.cons_append, List.nil_append, List.getElem?_cons_zero, List.getElem?_cons_succ, List.set_cons_zero, List.set_cons_succ, List.length_cons, List.length_nil, List.replicate, Nat.reduceSub, Nat.reduceAdd, cl_cal]
    refine wpO.mono (p_take n dk2 (by omega) (by omega) (by omega)) ?_
    rintro v h3' ⟨z, rfl, z0, z1, fr3, dk3⟩
    try simp only [wv_var, wv_cst, wv_glo, wv_pr, ws_nil, ws_cons, wv_and, wv_or, wv_not, wv_ite, wv_chain, wv_tup, wv_lst, wv_call, wv_callP, wv_comp, wv_fld, wv_lm, wv_meth, wv_lenI, wI_of, wC_yes, wC_test, wg_nm, wg_tupT, wgs_nil, wgs_cons, wS_asg, wS_ex, wS_ret, wS_iff, wS_for, wS_whl, wSs_nil, wSs_cons, w_bl, wpO_ok, wpO_bind, wpO_calm, List.map_cons, List.map_nil, List.cons_append, List.nil_append, List.getElem?_cons_zero, List.getElem?_cons_succ, List.set_cons_zero, List.set_cons_succ, List.length_cons, List.length_nil, List.replicate, Nat.reduceSub, Nat.reduceAdd, cl_cal]
    refine wpO.mono (p_take n dk3 (by omega) (by omega) (by omega)) ?_
    rintro v h4' ⟨u, rfl, u0, u1, fr4, dk4⟩
    try simp only [wv_var, wv_cst, wv_glo, wv_pr, ws_nil, ws_cons, wv_and, wv_or, wv_not, wv_ite, wv_chain, wv_tup, wv_lst, wv_call, wv_callP, wv_comp, wv_fld, wv_lm, wv_meth, wv_lenI, wI_of, wC_yes, wC_test, wg_nm, wg_tupT, wgs_nil, wgs_cons, wS_asg, wS_ex, wS_ret, wS_iff, wS_for, wS_whl, wSs_nil, wSs_cons, w_bl, wpO_ok, wpO_bind, wpO_calm, List.map_cons, List.map_nil, List.cons_append, List.nil_append, List.getElem?_cons_zero, List.getElem?_cons_succ, List.set_cons_zero, List.set_cons_succ, List.length_cons, List.length_nil, List.replicate, Nat.reduceSub, Nat.reduceAdd, sz4, if_true]
    exact ⟨.ptr y z u, rfl, ⟨⟨y0, by omega⟩, ⟨z0, z1⟩, u0⟩, fr1.trans (fr2.trans (fr3.trans fr4)), dk4.le (by omega)⟩
theorem p_drow {t g : Nat} {b many : Int} {h : Mem} (dk : Dk t g b h) (hb : b < 2 ^ 37) (hm : 0 < many ∧ many ≤ 8) :
    wpO (run T (n + 4) 20 [.ref t, .int many] h) fun v h' => ∃ x : Rw, v = x.d ∧ x.Ok many ∧ Fr t g h h' ∧ Dk t g (b + 12) h' := by
  refine wpO_run T20 rfl ?_
  simp only [d_law_row, wv_var, wv_cst, wv_glo, wv_pr, ws_nil, ws_cons, wv_and, wv_or, wv_not, wv_ite, wv_chain, wv_tup, wv_lst, wv_call, wv_callP, wv_comp, wv_fld, wv_lm, wv_meth, wv_lenI, wI_of, wC_yes, wC_test, wg_nm, wg_tupT, wgs_nil, wgs_cons, wS_asg, wS_ex, wS_ret, wS_iff, wS_for, wS_whl, wSs_nil, wSs_cons, w_bl, wpO_ok, wpO_bind, wpO_calm, List.map_cons, List.map_nil, List.cons_append, List.nil_append, List.getElem?_cons_zero, List.getElem?_cons_succ, List.set_cons_zero, List.set_cons_succ, List.length_cons, List.length_nil, List.replicate, Nat.reduceSub, Nat.reduceAdd, cl_cal]
  refine wpO.mono (p_take (n + 1) dk (by omega) (by omega) (by omega)) ?_
  rintro v h1 ⟨p, rfl, p0, p1, fr1, dk1⟩
  try simp only [wv_var, wv_cst, wv_glo, wv_pr, ws_nil, ws_cons, wv_and, wv_or, wv_not, wv_ite, wv_chain, wv_tup, wv_lst, wv_call, wv_callP, wv_comp, wv_fld, wv_lm, wv_meth, wv_lenI, wI_of, wC_yes, wC_test, wg_nm, wg_tupT, wgs_nil, wgs_cons, wS_asg, wS_ex, wS_ret, wS_iff, wS_for, wS_whl, wSs_nil, wSs_cons, w_bl, wpO_ok, wpO_bind, wpO_calm, List.map_cons, List.map_nil, List.cons_append, List.nil_append, List.getElem?_cons_zero, List.getElem?_cons_succ, List.set_cons_zero, List.set_cons_succ, List.length_cons, List.length_nil, List.replicate, Nat.reduceSub, Nat.reduceAdd, cl_cal]
  refine wpO.mono (p_take (n + 1) dk1 (by omega) (by omega) (by omega)) ?_
  rintro v h2 ⟨q, rfl, q0, q1, fr2, dk2⟩
  try simp only [wv_var, wv_cst, wv_glo, wv_pr, ws_nil, ws_cons, wv_and, wv_or, wv_not, wv_ite, wv_chain, wv_tup, wv_lst, wv_call, wv_callP, wv_comp, wv_fld, wv_lm, wv_meth, wv_lenI, wI_of, wC_yes, wC_test, wg_nm, wg_tupT, wgs_nil, wgs_cons, wS_asg, wS_ex, wS_ret, wS_iff, wS_for, wS_whl, wSs_nil, wSs_cons, w_bl, wpO_ok, wpO_bind, wpO_calm, List.map_cons, List.map_nil, List.cons_append, List.nil_append, List.getElem?_cons_zero, List.getElem?_cons_succ, List.set_cons_zero, List.set_cons_succ, List.length_cons, List.length_nil, List.replicate, Nat.reduceSub, Nat.reduceAdd, cl_cal]
  refine wpO.mono (p_take (n + 1) dk2 (by omega) (by omega) (by omega)) ?_
  rintro v h3 ⟨k, rfl, k0, k1, fr3, dk3⟩
  have fr : Fr t g h h3 := fr1.trans (fr2.trans fr3)
  try simp only [wv_var, wv_cst, wv_glo, wv_pr, ws_nil, ws_cons, wv_and, wv_or, wv_not, wv_ite, wv_chain, wv_tup, wv_lst, wv_call, wv_callP, wv_comp, wv_fld, wv_lm, wv_meth, wv_lenI, wI_of, wC_yes, wC_test, wg_nm, wg_tupT, wgs_nil, wgs_cons, wS_asg, wS_ex, wS_ret, wS_iff, wS_for, wS_whl, wSs_nil, wSs_cons, w_bl, wpO_ok, wpO_bind, wpO_calm, List.map_cons, List.map_nil, List.cons_append, List.nil_append, List.getElem?_cons_zero, List.getElem?_cons_succ, List.set_cons_zero, List.set_cons_succ, List.length_cons, List.length_nil, List.replicate, Nat.reduceSub, Nat.reduceAdd, P_lt, P_sub, sz1, sz2, sz3, sz4, sz5, sz6, if_true]
  by_cases c1 : k < 2
  · try simp only [wv_var, wv_cst, wv_glo, wv_pr, ws_nil, ws_cons, wv_and, wv_or, wv_not, wv_ite, wv_chain, wv_tup, wv_lst, wv_call, wv_callP, wv_comp, wv_fld, wv_lm, wv_meth, wv_lenI, wI_of, wC_yes, wC_test, wg_nm, wg_tupT, wgs_nil, wgs_cons, wS_asg, wS_ex, wS_ret, wS_iff, wS_for, wS_whl, wSs_nil, wSs_cons, w_bl, wpO_ok, wpO_bind, wpO_calm, List.map_cons, List.map_nil, List.cons_append, List.nil_append, List.getElem?_cons_zero, List.getElem?_cons_succ, List.set_cons_zero, List.set_cons_succ, List.length_cons, List.length_nil, List.replicate, Nat.reduceSub, Nat.reduceAdd, c1, decide_true, if_true, cl_cal]
    refine wpO.mono (p_number n dk3 (by omega)) ?_
    rintro v h4 ⟨x, rfl, fr4, dk4⟩
    try simp only [wv_var, wv_cst, wv_glo, wv_pr, ws_nil, ws_cons, wv_and, wv_or, wv_not, wv_ite, wv_chain, wv_tup, wv_lst, wv_call, wv_callP, wv_comp, wv_fld, wv_lm, wv_meth, wv_lenI, wI_of, wC_yes, wC_test, wg_nm, wg_tupT, wgs_nil, wgs_cons, wS_asg, wS_ex, wS_ret, wS_iff, wS_for, wS_whl, wSs_nil, wSs_cons, w_bl, wpO_ok, wpO_bind, wpO_calm, List.map_cons, List.map_nil, List.cons_append, List.nil_append, List.getElem?_cons_zero, List.getElem?_cons_succ, List.set_cons_zero, List.set_cons_succ, List.length_cons, List.length_nil, List.replicate, Nat.reduceSub, Nat.reduceAdd, sz2, if_true, cl_cal]
    refine wpO.mono (p_number n dk4 (by omega)) ?_
    rintro v h5 ⟨y, rfl, fr5, dk5⟩
    try simp only [wv_var, wv_cst, wv_glo, wv_pr, ws_nil, ws_cons, wv_and, wv_or, wv_not, wv_ite, wv_chain, wv_tup, wv_lst, wv_call, wv_callP, wv_comp, wv_fld, wv_lm, wv_meth, wv_lenI, wI_of, wC_yes, wC_test, wg_nm, wg_tupT, wgs_nil, wgs_cons, wS_asg, wS_ex, wS_ret, wS_iff, wS_for, wS_whl, wSs_nil, wSs_cons, w_bl, wpO_ok, wpO_bind, wpO_calm, List.map_cons, List.map_nil, List.cons_append, List.nil_append, List.getElem?_cons_zero, List.getElem?_cons_succ, List.set_cons_zero, List.set_cons_succ, List.length_cons, List.length_nil, List.replicate, Nat.reduceSub, Nat.reduceAdd, sz2, if_true]
    refine pickAt k0 (by simpa using c1) fun d hd => ?_
    have fr' := fr.trans (fr4.trans (fr5.trans (Fr.pre (pre_app h5 [O.lst [.tup [.str wSet, .int x], .tup [.str wAdd, .int y]]]))))
    have dk' := (dk5.pre (pre_app h5 [O.lst [.tup [.str wSet, .int x], .tup [.str wAdd, .int y]]])).le (show b + 1 + 1 + 1 + 3 + 3 ≤ b + 12 by omega)
    simp only [List.mem_cons, List.not_mem_nil, or_false] at hd
    rcases hd with rfl | rfl
    · exact ⟨.set x, rfl, trivial, fr', dk'⟩
    · exact ⟨.add y, rfl, trivial, fr', dk'⟩
  · try simp only [wv_var, wv_cst, wv_glo, wv_pr, ws_nil, ws_cons, wv_and, wv_or, wv_not, wv_ite, wv_chain, wv_tup, wv_lst, wv_call, wv_callP, wv_comp, wv_fld, wv_lm, wv_meth, wv_lenI, wI_of, wC_yes, wC_test, wg_nm, wg_tupT, wgs_nil, wgs_cons, wS_asg, wS_ex, wS_ret, wS_iff, wS_for, wS_whl, wSs_nil, wSs_cons, w_bl, wpO_ok, wpO_bind, wpO_calm, List.map_cons, List.map_nil, List.cons_append, List.nil_append, List.getElem?_cons_zero, List.getElem?_cons_succ, List.set_cons_zero, List.set_cons_succ, List.length_cons, List.length_nil, List.replicate, Nat.reduceSub, Nat.reduceAdd, c1, decide_false, Bool.false_eq_true, if_false]
    by_cases c2 : k < 6
    · simp only [c2, decide_true, if_true]
      refine wpO.mono (p_number n dk3 (by omega)) ?_
      rintro v h4 ⟨x, rfl, fr4, dk4⟩
      refine pick (n + 1) dk4 (by omega) rfl (by simp) (by simp) fun d hd h5 fr5 dk5 => ?_
      obtain ⟨y, rfl⟩ : ∃ y, d = .int y := by
        simp only [List.mem_cons, List.not_mem_nil, or_false] at hd
        rcases hd with rfl | rfl | rfl | rfl <;> exact ⟨_, rfl⟩
      refine pickAt (by omega) (by simp; omega) fun w hw => ?_
      have fr' := fr.trans (fr4.trans (fr5.trans (Fr.pre (pre_app h5 [O.lst [.str wLoad, .str wStore, .str wLoad, .str wStore]]))))
      have dk' := (dk5.pre (pre_app h5 [O.lst [.str wLoad, .str wStore, .str wLoad, .str wStore]])).le (show b + 1 + 1 + 1 + 3 + 1 ≤ b + 12 by omega)
      simp only [List.mem_cons, List.not_mem_nil, or_false] at hw
      rcases hw with rfl | rfl | rfl | rfl
      · exact ⟨.load p y, rfl, ⟨p0, p1⟩, fr', dk'⟩
      · exact ⟨.store p y, rfl, ⟨p0, p1⟩, fr', dk'⟩
      · exact ⟨.load p y, rfl, ⟨p0, p1⟩, fr', dk'⟩
      · exact ⟨.store p y, rfl, ⟨p0, p1⟩, fr', dk'⟩
    · simp only [c2, decide_false, Bool.false_eq_true, if_false]
      by_cases c3 : k < 9
      · simp only [c3, decide_true, if_true]
        refine wpO.mono (p_number n dk3 (by omega)) ?_
        rintro v h4 ⟨x, rfl, fr4, dk4⟩
        refine pick (n + 1) dk4 (by omega) rfl (by simp) (by simp) fun d hd h5 fr5 dk5 => ?_
        obtain ⟨y, rfl⟩ : ∃ y, d = .int y := by
          simp only [List.mem_cons, List.not_mem_nil, or_false] at hd
          rcases hd with rfl | rfl | rfl | rfl <;> exact ⟨_, rfl⟩
        refine pickAt (by omega) (by simp; omega) fun w hw => ?_
        have fr' := fr.trans (fr4.trans (fr5.trans (Fr.pre (pre_app h5 [O.lst [.str wFetch, .str wKeep, .str wMove]]))))
        have dk' := (dk5.pre (pre_app h5 [O.lst [.str wFetch, .str wKeep, .str wMove]])).le (show b + 1 + 1 + 1 + 3 + 1 ≤ b + 12 by omega)
        simp only [List.mem_cons, List.not_mem_nil, or_false] at hw
        rcases hw with rfl | rfl | rfl
        · exact ⟨.fetch q p y, rfl, ⟨⟨q0, q1⟩, p0, p1⟩, fr', dk'⟩
        · exact ⟨.keep q p y, rfl, ⟨⟨q0, q1⟩, p0, p1⟩, fr', dk'⟩
        · exact ⟨.move q p y, rfl, ⟨⟨q0, q1⟩, p0, p1⟩, fr', dk'⟩
      · simp only [c3, decide_false, Bool.false_eq_true, if_false]
        by_cases c4 : k < 11
        · simp only [c4, decide_true, if_true]
          refine wpO.mono (p_take (n + 1) dk3 (by omega) (by omega) (by omega)) ?_
          rintro v h4 ⟨z, rfl, z0, z1, fr4, dk4⟩
          refine wpO.mono (p_number n dk4 (by omega)) ?_
          rintro v h5 ⟨x, rfl, fr5, dk5⟩
          refine pick (n + 1) dk5 (by omega) rfl (by simp) (by simp) fun d hd h6 fr6 dk6 => ?_
          obtain ⟨y, rfl⟩ : ∃ y, d = .int y := by
            simp only [List.mem_cons, List.not_mem_nil, or_false] at hd
            rcases hd with rfl | rfl | rfl | rfl | rfl <;> exact ⟨_, rfl⟩
          exact ⟨.aim q z y, rfl, ⟨⟨q0, q1⟩, z0, z1⟩, fr.trans (fr4.trans (fr5.trans fr6)), dk6.le (by omega)⟩
        · simp only [c4, decide_false, Bool.false_eq_true, if_false]
          by_cases c5 : k < 13
          · simp only [c5, decide_true, if_true]
            exact ⟨.call p, rfl, ⟨p0, p1⟩, fr, dk3.le (by omega)⟩
          · simp only [c5, decide_false, Bool.false_eq_true, if_false]
            by_cases c6 : k < 15
            · simp only [c6, decide_true, if_true]
              refine pickAt (by omega) (by simp; omega) fun w hw => ?_
              have dk' := dk3.pre (pre_app h3 [O.lst [.str wZero, .str wGo]])
              refine wpO.mono (p_number n dk' (by omega)) ?_
              rintro v h5 ⟨x, rfl, fr5, dk5⟩
              refine pick (n + 1) dk5 (by omega) rfl (by simp) (by simp) fun d hd h6 fr6 dk6 => ?_
              obtain ⟨y, rfl⟩ : ∃ y, d = .int y := by
                simp only [List.mem_cons, List.not_mem_nil, or_false] at hd
                rcases hd with rfl | rfl | rfl | rfl | rfl | rfl <;> exact ⟨_, rfl⟩
              have fr' := fr.trans ((Fr.pre (pre_app h3 [O.lst [.str wZero, .str wGo]])).trans (fr5.trans fr6))
              simp only [List.mem_cons, List.not_mem_nil, or_false] at hw
              rcases hw with rfl | rfl
              · exact ⟨.zero y, rfl, trivial, fr', dk6.le (by omega)⟩
              · exact ⟨.go y, rfl, trivial, fr', dk6.le (by omega)⟩
            · simp only [c6, decide_false, Bool.false_eq_true, if_false]
              exact ⟨.ret, rfl, trivial, fr, dk3.le (by omega)⟩
end RG.K

end

section
/-! Dk3: segments, machines, stands that are drawn. -/
namespace RG.K
open PySem L2 RG RG.M
variable (n : Nat)
theorem Fr.setNew {t g : Nat} {h h' : Mem} {i : Nat} {o : O} (f : Fr t g h h') (hi : h.length ≤ i) : Fr t g h (h'.set i o) := ⟨by rw [List.length_set]; exact f.len, fun j o' n1 n2 e => by
  have := (List.getElem?_eq_some_iff.mp e).1
  rw [set_ne (by omega)]
  exact f.at_ j o' n1 n2 e⟩
/-- the deck stays when a new thing changes -/
theorem Dk.setNew {t g : Nat} {b : Int} {h : Mem} {i : Nat} {o : O} (x : Dk t g b h) (h1 : i ≠ t) (h2 : i ≠ g) : Dk t g b (h.set i o) := by
  obtain ⟨f, u, gs, y, r⟩ := x.ex
  exact ⟨f, u, gs, ⟨rd_at (by rw [set_ne h1]; exact at_rd y.a), rd_at (by rw [set_ne h2]; exact at_rd y.b), y.ne⟩, r⟩
/-- a list of things that are drawn one by one -/
theorem cmp_dk {α : Type} (enc : α → D) (P : α → Prop) (cost B : Int) (hc : 0 ≤ cost) {G : D → Env → Mem → Out Env} {C : Env → Mem → Out Bool} {f : Env → Mem → Out D} {s : Src} {r0 : Env} {items : List D} {t g : Nat} {b : Int} {h : Mem} (dk : Dk t g b h) (hB : b + cost * items.length ≤ B) (hz : items.length ≤ 1000)
    (hs : ∀ h1, Fr t g h h1 → s.ok h1)
    (step : ∀ x ∈ items, ∀ h1 b1, Dk t g b1 h1 → b1 + cost ≤ B → Fr t g h h1 → wpO (G x r0 h1) fun r h2 => h2 = h1 ∧ wpO (C r h1) fun k h3 => k = true ∧ h3 = h1 ∧ wpO (f r h1) fun d h4 => ∃ y, d = enc y ∧ P y ∧ Fr t g h1 h4 ∧ Dk t g (b1 + cost) h4) :
    wpO (cmpL G C f s h.length r0 items (h ++ [.lst []])) fun d h' => d = .ref h.length ∧ ∃ ys : List α, ys.length = items.length ∧ (∀ y ∈ ys, P y) ∧ rd h' h.length = some (ys.map enc) ∧ Fr t g h h' ∧ Dk t g (b + cost * items.length) h' := by
  have lt := dk.lt
  refine wpO_cmp (J := fun acc l h' => ∃ ys : List α, acc = ys.map enc ∧ ys.length + l.length = items.length ∧ (∀ x ∈ l, x ∈ items) ∧ (∀ y ∈ ys, P y) ∧ h'[h.length]? = some (.lst acc) ∧ Fr t g h h' ∧ Dk t g (b + cost * ys.length) h') ?_ ?_ ?_ _ [] _ ?_
  · rintro acc l h' ⟨ys, _, _, _, _, e, fr, _⟩
    exact ⟨hs h' fr, e⟩
  · rintro acc x l h' ⟨ys, ea, hl, hm, hP, e, fr, dk'⟩
    have hl : ys.length + (l.length + 1) = items.length := hl
    have key : cost * ys.length + cost ≤ cost * items.length := by
      have : (ys.length : Int) + 1 ≤ items.length := by omega
      have := Int.mul_le_mul_of_nonneg_left this hc
      rw [Int.mul_add, Int.mul_one] at this
      exact this
    refine wpO.mono (step x (hm x List.mem_cons_self) h' _ dk' (by omega) fr) ?_
    rintro r h2 ⟨rfl, w⟩
    refine wpO.mono w ?_
    rintro k h3 ⟨rfl, rfl, w⟩
    rw [if_pos rfl]
    refine wpO.mono w ?_
    rintro d h4 ⟨y, rfl, py, fr4, dk4⟩
    have e4 : h4[h.length]? = some (.lst acc) := fr4.at_ _ _ (by omega) (by omega) e
    refine ⟨e4, by rw [ea, List.length_map, sizeLine_eq]; omega, ys ++ [y], by rw [ea]; simp, by simp; omega, fun z hz' => hm z (List.mem_cons_of_mem _ hz'), ?_, set_at e4, (fr.trans fr4).setNew (Nat.le_refl _), ?_⟩
    · intro z hz'
      rcases List.mem_append.mp hz' with q | q
      · exact hP z q
      · rw [List.mem_singleton.mp q]; exact py
    · have : cost * ((ys ++ [y]).length : Int) = cost * ys.length + cost := by
        rw [List.length_append]
        simp [Int.mul_add]
      rw [this, ← Int.add_assoc]
      exact dk4.setNew (by omega) (by omega)
  · rintro acc h' ⟨ys, ea, hl, _, hP, e, fr, dk'⟩
    have hl : ys.length = items.length := by simpa using hl
    refine ⟨rfl, ys, hl, hP, by rw [rd_at e, ea], fr, ?_⟩
    rw [← hl]; exact dk'
  · refine ⟨[], rfl, by simp, fun x hx => hx, fun y hy => (by cases hy), by simp, Fr.pre (pre_app _ _), ?_⟩
    simp only [List.length_nil]
    rw [show b + cost * ((0 : Nat) : Int) = b by simp]
    exact dk.pre (pre_app _ _)
theorem T22 : T.defs 22 = some ⟨3, 11, d_law_segment⟩ := rfl
theorem T202 : T.defs 202 = some ⟨1, 4, d_law_machine⟩ := rfl
theorem T203 : T.defs 203 = some ⟨3, 12, d_law_stand⟩ := rfl
theorem rng_len (k : Nat) : (rngD 0 k).length = k := by unfold rngD; simp
theorem wI_rg {c : Cl} {r : Env} {h : Mem} {Q : Src → Mem → Prop} {a : E} : wpO (evI c (.rng1 a) r h) Q ↔ wpO (ev c a r h) fun d h => match d with | .int j => if -(2 ^ 62) ≤ j ∧ j < 2 ^ 62 then Q ⟨rngD 0 j.toNat, []⟩ h else False | _ => False := by
  simp only [evI, wpO_bind]
  have e : ∀ (d : D) (h : Mem), wpO (match d with | .int j => if -(2 ^ 62) ≤ j ∧ j < 2 ^ 62 then .ok ⟨rngD 0 j.toNat, []⟩ h else .stuck | _ => .stuck) Q ↔ (match d with | .int j => if -(2 ^ 62) ≤ j ∧ j < 2 ^ 62 then Q ⟨rngD 0 j.toNat, []⟩ h else False | _ => False) := fun d h => by
    cases d with
    | int j => dsimp only; split <;> exact Iff.rfl
    | _ => exact Iff.rfl
  simp only [← e] <;> exact Iff.rfl
def sP (l : List Nat) : PyData := .str ⟨l.toArray⟩
def rowP : Rw → PyData
  | .set n => .tuple [sP wSet, .int n]
  | .add n => .tuple [sP wAdd, .int n]
  | .load p n => .tuple [sP wLoad, .int p, .int n]
  | .store p n => .tuple [sP wStore, .int p, .int n]
  | .fetch q p n => .tuple [sP wFetch, .int q, .int p, .int n]
  | .keep q p n => .tuple [sP wKeep, .int q, .int p, .int n]
  | .aim q s n => .tuple [sP wAim, .int q, .int s, .int n]
  | .move q p n => .tuple [sP wMove, .int q, .int p, .int n]
  | .zero n => .tuple [sP wZero, .int n]
  | .go n => .tuple [sP wGo, .int n]
  | .call p => .tuple [sP wCall, .int p]
  | .ret => .tuple [sP wRet]
theorem row_pd {h : Mem} (r : Rw) : PD h r.d (rowP r) := by
  cases r with
  | ret => exact .tup (.cons (.str _) .nil)
  | load _ _ => exact .tup (.cons (.str _) (.cons (.int _) (.cons (.int _) .nil)))
  | store _ _ => exact .tup (.cons (.str _) (.cons (.int _) (.cons (.int _) .nil)))
  | fetch _ _ _ => exact .tup (.cons (.str _) (.cons (.int _) (.cons (.int _) (.cons (.int _) .nil))))
  | keep _ _ _ => exact .tup (.cons (.str _) (.cons (.int _) (.cons (.int _) (.cons (.int _) .nil))))
  | aim _ _ _ => exact .tup (.cons (.str _) (.cons (.int _) (.cons (.int _) (.cons (.int _) .nil))))
  | move _ _ _ => exact .tup (.cons (.str _) (.cons (.int _) (.cons (.int _) (.cons (.int _) .nil))))
  | _ => exact .tup (.cons (.str _) (.cons (.int _) .nil))
theorem lw : ∀ w ∈ [wSet, wAdd, wLoad, wStore, wFetch, wKeep, wAim, wMove, wZero, wGo, wCall, wRet], PyData.canLay0 (sP w) = true := by decide +kernel
theorem lay_t {w : List Nat} {l : List PyData} (h : PyData.canLay0 (sP w) = true) (h2 : PyData.canLayAll0 l = true) : PyData.canLay0 (.tuple (sP w :: l)) = true := by
  show (PyData.canLay0 (sP w) && PyData.canLayAll0 l) = true
  rw [h, h2]; rfl
theorem row_lay (r : Rw) : PyData.canLay0 (rowP r) = true := by cases r <;> exact lay_t (lw _ (by simp)) rfl
theorem row_dep (r : Rw) : PyData.depth (rowP r) ≤ 1 := by cases r <;> exact Nat.le_of_eq rfl
theorem eq_rows {h : Mem} {i j : Nat} {rs : List Rw} (e1 : rd h i = some (rs.map Rw.d)) (e2 : rd h j = some []) : eqO h (.ref i) (.ref j) = some (decide (rs = [])) := by
  rw [eqO_lst0 e1 (PDs.map row_pd rs) (shaped_list (m := 1) (by omega) row_lay row_dep rs) e2]
  cases rs <;> simp
theorem ints_of {ds : List D} {lo hi : Int} (h : ∀ d ∈ ds, ∃ x, d = .int x ∧ lo ≤ x ∧ x ≤ hi) {d : D} (hd : d ∈ ds) : ∃ x, d = .int x ∧ lo ≤ x ∧ x ≤ hi := h d hd
theorem p_dseg {t g : Nat} {b many scale : Int} {h : Mem} (dk : Dk t g b h) (hb : b < 2 ^ 36) (hm : 0 < many ∧ many ≤ 8) (hs : 2 ≤ scale ∧ scale < 2 ^ 240) :
    wpO (run T (n + 5) 22 [.ref t, .int many, .int scale] h) fun v h' => ∃ x : Sg, v = x.d ∧ x.Ok many scale ∧ Fr t g h h' ∧ Dk t g (b + 200) h' := by
  refine wpO_run T22 rfl ?_
  simp only [d_law_segment, wv_var, wv_cst, wv_glo, wv_pr, ws_nil, ws_cons, wv_and, wv_or, wv_not, wv_ite, wv_chain, wv_tup, wv_lst, wv_call, wv_callP, wv_comp, wv_fld, wv_lm, wv_meth, wv_lenI, wI_of, wC_yes, wC_test, wg_nm, wg_tupT, wgs_nil, wgs_cons, wS_asg, wS_ex, wS_ret, wS_iff, wS_for, wS_whl, wSs_nil, wSs_cons, w_bl, wpO_ok, wpO_bind, wpO_calm, List.map_cons, List.map_nil, List.cons_append, List.nil_append, List.getElem?_cons_zero, List.getElem?_cons_succ, List.set_cons_zero, List.set_cons_succ, List.length_cons, List.length_nil, List.replicate, Nat.reduceSub, Nat.reduceAdd, cl_cal, sz7, sz5, sz4, sz11, if_true, wI_rg]
  refine wpO.mono (p_take (n + 2) dk (by omega) (by omega) (by omega)) ?_
  rintro v h1 ⟨x1, rfl, x10, x11, fr1, dk1⟩
  refine pick (n + 2) dk1 (by omega) rfl (by simp) (by simp) fun d hd h2 fr2 dk2 => ?_
  obtain ⟨a, rfl, a0, a7⟩ : ∃ a, d = .int a ∧ 0 ≤ a ∧ a ≤ 7 := by
    simp only [List.mem_cons, List.not_mem_nil, or_false] at hd
    rcases hd with rfl | rfl | rfl | rfl | rfl | rfl | rfl <;> exact ⟨_, rfl, by omega, by omega⟩
  refine pick (n + 2) dk2 (by omega) rfl (by simp) (by simp) fun d hd h3 fr3 dk3 => ?_
  obtain ⟨y, rfl, y0⟩ : ∃ a, d = .int a ∧ 0 ≤ a := by
    simp only [List.mem_cons, List.not_mem_nil, or_false] at hd
    rcases hd with rfl | rfl | rfl | rfl | rfl <;> exact ⟨_, rfl, by omega⟩
  try simp only [wv_var, wv_cst, wv_glo, wv_pr, ws_nil, ws_cons, wv_and, wv_or, wv_not, wv_ite, wv_chain, wv_tup, wv_lst, wv_call, wv_callP, wv_comp, wv_fld, wv_lm, wv_meth, wv_lenI, wI_of, wC_yes, wC_test, wg_nm, wg_tupT, wgs_nil, wgs_cons, wS_asg, wS_ex, wS_ret, wS_iff, wS_for, wS_whl, wSs_nil, wSs_cons, w_bl, wpO_ok, wpO_bind, wpO_calm, List.map_cons, List.map_nil, List.cons_append, List.nil_append, List.getElem?_cons_zero, List.getElem?_cons_succ, List.set_cons_zero, List.set_cons_succ, List.length_cons, List.length_nil, List.replicate, Nat.reduceSub, Nat.reduceAdd, P_add, P_min]
  refine pick (n + 2) dk3 (by omega) rfl (by simp) (by simp) fun d hd h4 fr4 dk4 => ?_
  obtain ⟨z, rfl, z0⟩ : ∃ a, d = .int a ∧ 0 ≤ a := by
    simp only [List.mem_cons, List.not_mem_nil, or_false] at hd
    rcases hd with rfl | rfl | rfl | rfl <;> exact ⟨_, rfl, by omega⟩
  try simp only [wv_var, wv_cst, wv_glo, wv_pr, ws_nil, ws_cons, wv_and, wv_or, wv_not, wv_ite, wv_chain, wv_tup, wv_lst, wv_call, wv_callP, wv_comp, wv_fld, wv_lm, wv_meth, wv_lenI, wI_of, wC_yes, wC_test, wg_nm, wg_tupT, wgs_nil, wgs_cons, wS_asg, wS_ex, wS_ret, wS_iff, wS_for, wS_whl, wSs_nil, wSs_cons, w_bl, wpO_ok, wpO_bind, wpO_calm, List.map_cons, List.map_nil, List.cons_append, List.nil_append, List.getElem?_cons_zero, List.getElem?_cons_succ, List.set_cons_zero, List.set_cons_succ, List.length_cons, List.length_nil, List.replicate, Nat.reduceSub, Nat.reduceAdd, P_add, P_min]
  refine pick (n + 2) dk4 (by omega) rfl (by simp) (by simp) fun d hd h5 fr5 dk5 => ?_
  obtain ⟨rt, rfl, hrt⟩ : ∃ rt, d = .str rt ∧ rt ∈ rightsL := by
    simp only [List.mem_cons, List.not_mem_nil, or_false] at hd
    rcases hd with rfl | rfl | rfl | rfl | rfl | rfl | rfl | rfl | rfl | rfl | rfl <;> exact ⟨_, rfl, by decide⟩
  refine wpO.mono (p_take (n + 2) dk5 (by omega) (by omega) (by omega)) ?_
  rintro v h6 ⟨x6, rfl, x60, x61, fr6, dk6⟩
  dsimp only
  rw [if_pos (by omega)]
  refine wpO.mono (cmp_dk Wd.d (fun w => w.Ok many scale) 4 (b + 40) (by omega) (items := rngD 0 x6.toNat) dk6 (by rw [rng_len]; omega) (by rw [rng_len]; omega) (fun h1 _ g hg => by cases hg) fun x hx h1 b1 dkx hbx frx => ?_) ?_
  · simp only [cTarget, wipeE, wv_var, wv_cst, wv_glo, wv_pr, ws_nil, ws_cons, wv_and, wv_or, wv_not, wv_ite, wv_chain, wv_tup, wv_lst, wv_call, wv_callP, wv_comp, wv_fld, wv_lm, wv_meth, wv_lenI, wI_of, wC_yes, wC_test, wg_nm, wg_tupT, wgs_nil, wgs_cons, wS_asg, wS_ex, wS_ret, wS_iff, wS_for, wS_whl, wSs_nil, wSs_cons, w_bl, wpO_ok, wpO_bind, wpO_calm, List.map_cons, List.map_nil, List.cons_append, List.nil_append, List.getElem?_cons_zero, List.getElem?_cons_succ, List.set_cons_zero, List.set_cons_succ, List.length_cons, List.length_nil, List.replicate, Nat.reduceSub, Nat.reduceAdd, cl_cal, true_and]
    refine wpO.mono (p_dword (n + 1) dkx (by omega) hm hs) ?_
    rintro v h2 ⟨w, rfl, ow, fr, dk⟩
    exact ⟨w, rfl, ow, fr, dk⟩
  rintro d h7 ⟨rfl, ws, wl, wok, rw7, fr7, dk7⟩
  rw [rng_len] at wl dk7
  try simp only [wv_var, wv_cst, wv_glo, wv_pr, ws_nil, ws_cons, wv_and, wv_or, wv_not, wv_ite, wv_chain, wv_tup, wv_lst, wv_call, wv_callP, wv_comp, wv_fld, wv_lm, wv_meth, wv_lenI, wI_of, wC_yes, wC_test, wg_nm, wg_tupT, wgs_nil, wgs_cons, wS_asg, wS_ex, wS_ret, wS_iff, wS_for, wS_whl, wSs_nil, wSs_cons, w_bl, wpO_ok, wpO_bind, wpO_calm, List.map_cons, List.map_nil, List.cons_append, List.nil_append, List.getElem?_cons_zero, List.getElem?_cons_succ, List.set_cons_zero, List.set_cons_succ, List.length_cons, List.length_nil, List.replicate, Nat.reduceSub, Nat.reduceAdd, P_tupR rw7]
  refine wpO.mono (p_take (n + 2) dk7 (by omega) (by omega) (by omega)) ?_
  rintro v h8 ⟨x8, rfl, x80, x81, fr8, dk8⟩
  dsimp only
  rw [if_pos (by omega)]
  refine wpO.mono (cmp_dk Rw.d (fun w => w.Ok many) 12 (b + 150) (by omega) (items := rngD 0 x8.toNat) dk8 (by rw [rng_len]; omega) (by rw [rng_len]; omega) (fun h1 _ g hg => by cases hg) fun x hx h1 b1 dkx hbx frx => ?_) ?_
  · simp only [cTarget, wipeE, wv_var, wv_cst, wv_glo, wv_pr, ws_nil, ws_cons, wv_and, wv_or, wv_not, wv_ite, wv_chain, wv_tup, wv_lst, wv_call, wv_callP, wv_comp, wv_fld, wv_lm, wv_meth, wv_lenI, wI_of, wC_yes, wC_test, wg_nm, wg_tupT, wgs_nil, wgs_cons, wS_asg, wS_ex, wS_ret, wS_iff, wS_for, wS_whl, wSs_nil, wSs_cons, w_bl, wpO_ok, wpO_bind, wpO_calm, List.map_cons, List.map_nil, List.cons_append, List.nil_append, List.getElem?_cons_zero, List.getElem?_cons_succ, List.set_cons_zero, List.set_cons_succ, List.length_cons, List.length_nil, List.replicate, Nat.reduceSub, Nat.reduceAdd, cl_cal, true_and]
    refine wpO.mono (p_drow n dkx (by omega) hm) ?_
    rintro v h2 ⟨w, rfl, ow, fr, dk⟩
    exact ⟨w, rfl, ow, fr, dk⟩
  rintro d h9 ⟨rfl, rs, rl, rok, rw9, fr9, dk9⟩
  rw [rng_len] at rl dk9
  have fr := fr1.trans (fr2.trans (fr3.trans (fr4.trans (fr5.trans (fr6.trans (fr7.trans (fr8.trans fr9)))))))
  have rw9' := pre_rd (pre_app h9 [O.lst []]) rw9
  have lt9 := dk8.lt
  have fin : ∀ (rs' : List Rw) (h' : Mem), rd h' h8.length = some (rs'.map Rw.d) → rs'.length ≤ 6 → (∀ r ∈ rs', r.Ok many) → Fr t g h h' → Dk t g (b + 150) h' →
      wpO (run T (n + 3 + 1) 201 [.ref t, .int (rs'.length + 1)] h') fun d h_24 => if 3 ≤ sizeLine then wpO (evP .toTuple [.ref h8.length] h_24) fun d_23 h_25 => ∃ x : Sg, D.tup [.tup [.int a, .int (mn 7 (a + y)), .int (mn 7 (mn 7 (a + y) + z))], .str rt, d, .tup (ws.map Wd.d), d_23] = x.d ∧ x.Ok many scale ∧ Fr t g h h_25 ∧ Dk t g (b + 200) h_25 else False := by
    intro rs' h' e l6 ok' fr' dk'
    refine wpO.mono (p_take (n + 2) dk' (by omega) (by omega) (by omega)) ?_
    rintro v h2 ⟨gt, rfl, gt0, gt1, frg, dkg⟩
    have e2 : rd h2 h8.length = some (rs'.map Rw.d) := frg.rd (by omega) (by omega) e
    rw [if_pos (by rw [sizeLine_eq]; omega), P_tupR e2, wpO_ok]
    refine ⟨⟨a, mn 7 (a + y), mn 7 (mn 7 (a + y) + z), rt, gt, ws, rs'⟩, rfl, ⟨?_, hrt, ⟨gt0, by dsimp only; omega⟩, by dsimp only; omega, by dsimp only; omega, wok, ok'⟩, fr'.trans frg, dkg.le (by omega)⟩
    dsimp only
    unfold mn
    split <;> split <;> omega
  try simp only [wv_var, wv_cst, wv_glo, wv_pr, ws_nil, ws_cons, wv_and, wv_or, wv_not, wv_ite, wv_chain, wv_tup, wv_lst, wv_call, wv_callP, wv_comp, wv_fld, wv_lm, wv_meth, wv_lenI, wI_of, wC_yes, wC_test, wg_nm, wg_tupT, wgs_nil, wgs_cons, wS_asg, wS_ex, wS_ret, wS_iff, wS_for, wS_whl, wSs_nil, wSs_cons, w_bl, wpO_ok, wpO_bind, wpO_calm, List.map_cons, List.map_nil, List.cons_append, List.nil_append, List.getElem?_cons_zero, List.getElem?_cons_succ, List.set_cons_zero, List.set_cons_succ, List.length_cons, List.length_nil, List.replicate, Nat.reduceSub, Nat.reduceAdd, sz0, if_true, P_ne _ _ _ (eq_rows rw9' (rd_at (h := h9 ++ [O.lst []]) (i := h9.length) (l := []) (by simp)))]
  have dk9' := dk9.pre (pre_app h9 [O.lst []])
  have fr' := fr.trans (Fr.pre (pre_app h9 [O.lst []]))
  by_cases cr : rs = []
  · have f0 := fin rs _ rw9' (by omega) rok fr' (dk9'.le (by omega))
    simp only [cr, decide_true, Bool.not_true, Bool.false_eq_true, if_false, at_rd rw9', P_lenR rw9', P_add, List.length_map, wv_var, wv_cst, wv_glo, wv_pr, ws_nil, ws_cons, wv_and, wv_or, wv_not, wv_ite, wv_chain, wv_tup, wv_lst, wv_call, wv_callP, wv_comp, wv_fld, wv_lm, wv_meth, wv_lenI, wI_of, wC_yes, wC_test, wg_nm, wg_tupT, wgs_nil, wgs_cons, wS_asg, wS_ex, wS_ret, wS_iff, wS_for, wS_whl, wSs_nil, wSs_cons, w_bl, wpO_ok, wpO_bind, wpO_calm, List.map_cons, List.map_nil, List.cons_append, List.nil_append, List.getElem?_cons_zero, List.getElem?_cons_succ, List.set_cons_zero, List.set_cons_succ, List.length_cons, List.length_nil, List.replicate, Nat.reduceSub, Nat.reduceAdd]
    rw [cr] at f0
    exact f0
  · simp only [cr, decide_false, Bool.not_false, if_true]
    refine wpO.mono (p_take (n + 2) dk9' (by omega) (by omega) (by omega)) ?_
    rintro v h10 ⟨x10', rfl, _, _, fr10, dk10⟩
    have r10 : rd h10 h8.length = some (rs.map Rw.d) := fr10.rd (by omega) (by omega) rw9'
    have fr'' := fr'.trans fr10
    try simp only [wv_var, wv_cst, wv_glo, wv_pr, ws_nil, ws_cons, wv_and, wv_or, wv_not, wv_ite, wv_chain, wv_tup, wv_lst, wv_call, wv_callP, wv_comp, wv_fld, wv_lm, wv_meth, wv_lenI, wI_of, wC_yes, wC_test, wg_nm, wg_tupT, wgs_nil, wgs_cons, wS_asg, wS_ex, wS_ret, wS_iff, wS_for, wS_whl, wSs_nil, wSs_cons, w_bl, wpO_ok, wpO_bind, wpO_calm, List.map_cons, List.map_nil, List.cons_append, List.nil_append, List.getElem?_cons_zero, List.getElem?_cons_succ, List.set_cons_zero, List.set_cons_succ, List.length_cons, List.length_nil, List.replicate, Nat.reduceSub, Nat.reduceAdd, P_eqI]
    by_cases c0 : x10' = 0
    · have ap := P_app (d := Rw.ret.d) r10 (by rw [List.length_map, sizeLine_eq]; omega)
      rw [show rs.map Rw.d ++ [Rw.ret.d] = (rs ++ [Rw.ret]).map Rw.d from by simp] at ap
      have ap' : evP .append [.ref h8.length, .tup [.str [114, 101, 116, 117, 114, 110]]] h10 = _ := ap
      have r11 : rd (h10.set h8.length (.lst ((rs ++ [Rw.ret]).map Rw.d))) h8.length = some ((rs ++ [Rw.ret]).map Rw.d) := rd_at (set_at (at_rd r10))
      have h8h : h.length ≤ h8.length := (fr1.trans (fr2.trans (fr3.trans (fr4.trans (fr5.trans (fr6.trans (fr7.trans fr8))))))).len
      have f0 := fin (rs ++ [Rw.ret]) _ r11 (by simp; omega) (fun r hr => by
        rcases List.mem_append.mp hr with q | q
        · exact rok r q
        · rw [List.mem_singleton.mp q]; trivial) (fr''.setNew h8h) ((dk10.setNew (by omega) (by omega)).le (by omega))
      simp only [c0, decide_true, if_true, r10, sz1, ap', wv_var, wv_cst, wv_glo, wv_pr, ws_nil, ws_cons, wv_and, wv_or, wv_not, wv_ite, wv_chain, wv_tup, wv_lst, wv_call, wv_callP, wv_comp, wv_fld, wv_lm, wv_meth, wv_lenI, wI_of, wC_yes, wC_test, wg_nm, wg_tupT, wgs_nil, wgs_cons, wS_asg, wS_ex, wS_ret, wS_iff, wS_for, wS_whl, wSs_nil, wSs_cons, w_bl, wpO_ok, wpO_bind, wpO_calm, List.map_cons, List.map_nil, List.cons_append, List.nil_append, List.getElem?_cons_zero, List.getElem?_cons_succ, List.set_cons_zero, List.set_cons_succ, List.length_cons, List.length_nil, List.replicate, Nat.reduceSub, Nat.reduceAdd, at_rd r11, P_lenR r11, P_add, List.length_map]
      exact f0
    · have f0 := fin rs _ r10 (by omega) rok fr'' (dk10.le (by omega))
      simp only [c0, decide_false, Bool.false_eq_true, if_false, at_rd r10, P_lenR r10, P_add, List.length_map, wv_var, wv_cst, wv_glo, wv_pr, ws_nil, ws_cons, wv_and, wv_or, wv_not, wv_ite, wv_chain, wv_tup, wv_lst, wv_call, wv_callP, wv_comp, wv_fld, wv_lm, wv_meth, wv_lenI, wI_of, wC_yes, wC_test, wg_nm, wg_tupT, wgs_nil, wgs_cons, wS_asg, wS_ex, wS_ret, wS_iff, wS_for, wS_whl, wSs_nil, wSs_cons, w_bl, wpO_ok, wpO_bind, wpO_calm, List.map_cons, List.map_nil, List.cons_append, List.nil_append, List.getElem?_cons_zero, List.getElem?_cons_succ, List.set_cons_zero, List.set_cons_succ, List.length_cons, List.length_nil, List.replicate, Nat.reduceSub, Nat.reduceAdd]
      exact f0
end RG.K

end

section
/-! Dk4: machines and stands that are drawn; the deck's making. -/
namespace RG.K
open PySem L2 RG RG.M
variable (n : Nat)
theorem p_dmach {t g : Nat} {b : Int} {h : Mem} (dk : Dk t g b h) (hb : b < 2 ^ 35) :
    wpO (run T (n + 6) 202 [.ref t] h) fun v h' => ∃ (m : Mc) (k : Nat), v = .tup [.ref k, .int m.base] ∧ m.Ok ∧ m.base < 2 ^ 240 ∧ h.length ≤ k ∧ rd h' k = some (m.segs.map Sg.d) ∧ Fr t g h h' ∧ Dk t g (b + 2000) h' := by
  refine wpO_run T202 rfl ?_
  simp only [d_law_machine, wv_var, wv_cst, wv_glo, wv_pr, ws_nil, ws_cons, wv_and, wv_or, wv_not, wv_ite, wv_chain, wv_tup, wv_lst, wv_call, wv_callP, wv_comp, wv_fld, wv_lm, wv_meth, wv_lenI, wI_of, wC_yes, wC_test, wg_nm, wg_tupT, wgs_nil, wgs_cons, wS_asg, wS_ex, wS_ret, wS_iff, wS_for, wS_whl, wSs_nil, wSs_cons, w_bl, wpO_ok, wpO_bind, wpO_calm, List.map_cons, List.map_nil, List.cons_append, List.nil_append, List.getElem?_cons_zero, List.getElem?_cons_succ, List.set_cons_zero, List.set_cons_succ, List.length_cons, List.length_nil, List.replicate, Nat.reduceSub, Nat.reduceAdd, cl_cal, sz2, sz5, if_true, wI_rg]
  have dk0 := dk.pre (pre_app h [O.lst [.int 5, .int 8]])
  have lt := dk.lt
  refine wpO.mono (p_take (n + 3) dk0 (by omega) (by omega) (by omega)) ?_
  rintro v h1 ⟨x1, rfl, x10, x11, fr1, dk1⟩
  have r1 : rd h1 h.length = some [.int 5, .int 8] := fr1.rd (by omega) (by omega) (rd_at (by simp))
  obtain ⟨d, hd, e2⟩ := ix_mem (i := if decide (x1 = 7) then 1 else 0) r1 (by split <;> omega) (by simp; split <;> omega)
  try simp only [wv_var, wv_cst, wv_glo, wv_pr, ws_nil, ws_cons, wv_and, wv_or, wv_not, wv_ite, wv_chain, wv_tup, wv_lst, wv_call, wv_callP, wv_comp, wv_fld, wv_lm, wv_meth, wv_lenI, wI_of, wC_yes, wC_test, wg_nm, wg_tupT, wgs_nil, wgs_cons, wS_asg, wS_ex, wS_ret, wS_iff, wS_for, wS_whl, wSs_nil, wSs_cons, w_bl, wpO_ok, wpO_bind, wpO_calm, List.map_cons, List.map_nil, List.cons_append, List.nil_append, List.getElem?_cons_zero, List.getElem?_cons_succ, List.set_cons_zero, List.set_cons_succ, List.length_cons, List.length_nil, List.replicate, Nat.reduceSub, Nat.reduceAdd, P_eqI, P_toI, e2]
  obtain ⟨k, rfl, k0, k8⟩ : ∃ a, d = .int a ∧ 5 ≤ a ∧ a ≤ 8 := by
    simp only [List.mem_cons, List.not_mem_nil, or_false] at hd
    rcases hd with rfl | rfl <;> exact ⟨_, rfl, by omega, by omega⟩
  refine wpO.mono (p_take (n + 3) dk1 (by omega) (by omega) (by omega)) ?_
  rintro v h2 ⟨x2, rfl, x20, x21, fr2, dk2⟩
  try simp only [wv_var, wv_cst, wv_glo, wv_pr, ws_nil, ws_cons, wv_and, wv_or, wv_not, wv_ite, wv_chain, wv_tup, wv_lst, wv_call, wv_callP, wv_comp, wv_fld, wv_lm, wv_meth, wv_lenI, wI_of, wC_yes, wC_test, wg_nm, wg_tupT, wgs_nil, wgs_cons, wS_asg, wS_ex, wS_ret, wS_iff, wS_for, wS_whl, wSs_nil, wSs_cons, w_bl, wpO_ok, wpO_bind, wpO_calm, List.map_cons, List.map_nil, List.cons_append, List.nil_append, List.getElem?_cons_zero, List.getElem?_cons_succ, List.set_cons_zero, List.set_cons_succ, List.length_cons, List.length_nil, List.replicate, Nat.reduceSub, Nat.reduceAdd, P_add, P_pow cp60, q60, P_sub, sz5, if_true]
  refine pick (n + 3) dk2 (by omega) rfl (by simp) (by simp) fun d hd h3 fr3 dk3 => ?_
  obtain ⟨scale, rfl, s0, s1⟩ : ∃ a, d = .int a ∧ 2 ≤ a ∧ a < 2 ^ 240 := by
    simp only [List.mem_cons, List.not_mem_nil, or_false] at hd
    rcases hd with rfl | rfl | rfl | rfl | rfl <;> exact ⟨_, rfl, by omega, by omega⟩
  try simp only [wv_var, wv_cst, wv_glo, wv_pr, ws_nil, ws_cons, wv_and, wv_or, wv_not, wv_ite, wv_chain, wv_tup, wv_lst, wv_call, wv_callP, wv_comp, wv_fld, wv_lm, wv_meth, wv_lenI, wI_of, wC_yes, wC_test, wg_nm, wg_tupT, wgs_nil, wgs_cons, wS_asg, wS_ex, wS_ret, wS_iff, wS_for, wS_whl, wSs_nil, wSs_cons, w_bl, wpO_ok, wpO_bind, wpO_calm, List.map_cons, List.map_nil, List.cons_append, List.nil_append, List.getElem?_cons_zero, List.getElem?_cons_succ, List.set_cons_zero, List.set_cons_succ, List.length_cons, List.length_nil, List.replicate, Nat.reduceSub, Nat.reduceAdd]
  rw [if_pos (by omega)]
  have fr : Fr t g h h3 := (Fr.pre (pre_app _ _)).trans (fr1.trans (fr2.trans fr3))
  refine wpO.mono (cmp_dk Sg.d (fun w => w.Ok (1 + x2) scale) 200 (b + 1900) (by omega) (items := rngD 0 (1 + x2).toNat) dk3 (by rw [rng_len]; omega) (by rw [rng_len]; omega) (fun h1 _ g hg => by cases hg) fun x hx h1 b1 dkx hbx frx => ?_) ?_
  · simp only [cTarget, wipeE, wv_var, wv_cst, wv_glo, wv_pr, ws_nil, ws_cons, wv_and, wv_or, wv_not, wv_ite, wv_chain, wv_tup, wv_lst, wv_call, wv_callP, wv_comp, wv_fld, wv_lm, wv_meth, wv_lenI, wI_of, wC_yes, wC_test, wg_nm, wg_tupT, wgs_nil, wgs_cons, wS_asg, wS_ex, wS_ret, wS_iff, wS_for, wS_whl, wSs_nil, wSs_cons, w_bl, wpO_ok, wpO_bind, wpO_calm, List.map_cons, List.map_nil, List.cons_append, List.nil_append, List.getElem?_cons_zero, List.getElem?_cons_succ, List.set_cons_zero, List.set_cons_succ, List.length_cons, List.length_nil, List.replicate, Nat.reduceSub, Nat.reduceAdd, cl_cal, true_and]
    refine wpO.mono (p_dseg n dkx (by omega) (by omega) ⟨s0, s1⟩) ?_
    rintro v h2 ⟨w, rfl, ow, fr, dk⟩
    exact ⟨w, rfl, ow, fr, dk⟩
  rintro d h4 ⟨rfl, ws, wl, wok, rw4, fr4, dk4⟩
  rw [rng_len] at wl dk4
  have lm : (1 + x2) = (ws.length : Int) := by omega
  try simp only [wv_var, wv_cst, wv_glo, wv_pr, ws_nil, ws_cons, wv_and, wv_or, wv_not, wv_ite, wv_chain, wv_tup, wv_lst, wv_call, wv_callP, wv_comp, wv_fld, wv_lm, wv_meth, wv_lenI, wI_of, wC_yes, wC_test, wg_nm, wg_tupT, wgs_nil, wgs_cons, wS_asg, wS_ex, wS_ret, wS_iff, wS_for, wS_whl, wSs_nil, wSs_cons, w_bl, wpO_ok, wpO_bind, wpO_calm, List.map_cons, List.map_nil, List.cons_append, List.nil_append, List.getElem?_cons_zero, List.getElem?_cons_succ, List.set_cons_zero, List.set_cons_succ, List.length_cons, List.length_nil, List.replicate, Nat.reduceSub, Nat.reduceAdd, sz2, if_true]
  refine ⟨⟨ws, scale⟩, _, rfl, ⟨by dsimp only; omega, s0, fun s hs => by rw [← lm]; exact wok s hs⟩, s1, fr.len, rw4, fr.trans fr4, dk4.le (by omega)⟩
/-- a pointer that is drawn -/
theorem pt_any {many : Int} {x : Int × Int × Int} (h1 : 0 ≤ x.1 ∧ x.1 ≤ 7) (h2 : 0 ≤ x.2.1 ∧ x.2.1 < many) (h3 : 0 ≤ x.2.2) : PtOk many (some x) := ⟨h1, h2, h3⟩
theorem P_ixSg3 {h : Mem} (g : Sg) : evP .ix [g.d, .int 3] h = .ok (wordsD g.ws) h := by
  unfold Sg.d
  rw [P_ixT3]
  rfl
/-- a list by a draw for each item, each value told by its item -/
theorem cmp_dk2 {α : Type} (enc : α → D) (R : D → α → Prop) (cost B : Int) (hc : 0 ≤ cost) {G : D → Env → Mem → Out Env} {C : Env → Mem → Out Bool} {f : Env → Mem → Out D} {s : Src} {r0 : Env} {items : List D} {t g : Nat} {b : Int} {h : Mem} (dk : Dk t g b h) (hB : b + cost * items.length ≤ B) (hz : items.length ≤ 1000)
    (hs : ∀ h1, Fr t g h h1 → s.ok h1)
    (step : ∀ x ∈ items, ∀ h1 b1, Dk t g b1 h1 → b1 + cost ≤ B → Fr t g h h1 → wpO (G x r0 h1) fun r h2 => h2 = h1 ∧ wpO (C r h1) fun k h3 => k = true ∧ h3 = h1 ∧ wpO (f r h1) fun d h4 => ∃ y, d = enc y ∧ R x y ∧ Fr t g h1 h4 ∧ Dk t g (b1 + cost) h4) :
    wpO (cmpL G C f s h.length r0 items (h ++ [.lst []])) fun d h' => d = .ref h.length ∧ ∃ ys : List α, All2 R items ys ∧ rd h' h.length = some (ys.map enc) ∧ Fr t g h h' ∧ Dk t g (b + cost * items.length) h' := by
  have lt := dk.lt
  refine wpO_cmp (J := fun acc l h' => ∃ (ds : List D) (ys : List α), acc = ys.map enc ∧ ds ++ l = items ∧ All2 R ds ys ∧ h'[h.length]? = some (.lst acc) ∧ Fr t g h h' ∧ Dk t g (b + cost * ys.length) h') ?_ ?_ ?_ _ [] _ ?_
  · rintro acc l h' ⟨ds, ys, _, _, _, e, fr, _⟩
    exact ⟨hs h' fr, e⟩
  · rintro acc x l h' ⟨ds, ys, ea, hl, al, e, fr, dk'⟩
    have hll : ds.length + (l.length + 1) = items.length := by rw [← hl]; simp
    have le := al.length
    have key : cost * ys.length + cost ≤ cost * items.length := by
      have : (ys.length : Int) + 1 ≤ items.length := by omega
      have := Int.mul_le_mul_of_nonneg_left this hc
      rw [Int.mul_add, Int.mul_one] at this
      exact this
    refine wpO.mono (step x (by rw [← hl]; simp) h' _ dk' (by omega) fr) ?_
    rintro r h2 ⟨rfl, w⟩
    refine wpO.mono w ?_
    rintro k h3 ⟨rfl, rfl, w⟩
    rw [if_pos rfl]
    refine wpO.mono w ?_
    rintro d h4 ⟨y, rfl, py, fr4, dk4⟩
    have e4 : h4[h.length]? = some (.lst acc) := fr4.at_ _ _ (by omega) (by omega) e
    refine ⟨e4, by rw [ea, List.length_map, sizeLine_eq]; omega, ds ++ [x], ys ++ [y], by rw [ea]; simp, by rw [← hl]; simp, al.snoc py, set_at e4, (fr.trans fr4).setNew (Nat.le_refl _), ?_⟩
    have : cost * ((ys ++ [y]).length : Int) = cost * ys.length + cost := by
      rw [List.length_append]
      simp [Int.mul_add]
    rw [this, ← Int.add_assoc]
    exact dk4.setNew (by omega) (by omega)
  · rintro acc h' ⟨ds, ys, ea, hl, al, e, fr, dk'⟩
    rw [List.append_nil] at hl
    subst hl
    refine ⟨rfl, ys, al, by rw [rd_at e, ea], fr, ?_⟩
    rw [al.length]; exact dk'
  · refine ⟨[], [], rfl, rfl, .nil, by simp, Fr.pre (pre_app _ _), ?_⟩
    simp only [List.length_nil]
    rw [show b + cost * ((0 : Nat) : Int) = b by simp]
    exact dk.pre (pre_app _ _)
theorem All2.lens {ds : List (List Wd)} {ys : List (List Wd)} {S : List Wd → Prop} : All2 (fun d (y : List Wd) => S y ∧ ∀ ws, d = wordsD ws → y.length = ws.length) (ds.map wordsD) ys → (∀ y ∈ ys, S y) ∧ ys.map List.length = ds.map List.length := by
  induction ds generalizing ys with
  | nil => intro a; cases a; exact ⟨fun y hy => (by cases hy), rfl⟩
  | cons d ds ih =>
    intro a
    cases a with
    | cons r t =>
      obtain ⟨i1, i2⟩ := ih t
      refine ⟨fun y hy => ?_, ?_⟩
      · rcases List.mem_cons.mp hy with z | z
        · rw [z]; exact r.1
        · exact i1 y z
      · simp only [List.map_cons, i2, r.2 d rfl]
/-- words as many as the machine's -/
def Like (m : Mc) (s : Sd) : Prop := s.mem.map List.length = m.segs.map fun g => g.ws.length
/-- all pointers' rings are the hand's or greater -/
def PsHi (s : Sd) : Prop := ∀ r k p, some (r, k, p) ∈ s.ps → s.ring ≤ r
theorem p_dstand {t g i : Nat} {b : Int} {h : Mem} {m : Mc} (dk : Dk t g b h) (hb : b < 2 ^ 35) (mo : m.Ok) (hs : m.base < 2 ^ 240) (hi : rd h i = some (m.segs.map Sg.d)) (n1 : i ≠ t) (n2 : i ≠ g) :
    wpO (run T (n + 5) 203 [.ref t, .ref i, .int m.base] h) fun v h' => ∃ s : Sd, v = s.d ∧ s.Ok m ∧ (PsHi s ∧ Like m s) ∧ Fr t g h h' ∧ Dk t g (b + 1000) h' := by
  have ml := mo.len
  have mb := mo.base
  refine wpO_run T203 rfl ?_
  simp only [d_law_stand, wv_var, wv_cst, wv_glo, wv_pr, ws_nil, ws_cons, wv_and, wv_or, wv_not, wv_ite, wv_chain, wv_tup, wv_lst, wv_call, wv_callP, wv_comp, wv_fld, wv_lm, wv_meth, wv_lenI, wI_of, wC_yes, wC_test, wg_nm, wg_tupT, wgs_nil, wgs_cons, wS_asg, wS_ex, wS_ret, wS_iff, wS_for, wS_whl, wSs_nil, wSs_cons, w_bl, wpO_ok, wpO_bind, wpO_calm, List.map_cons, List.map_nil, List.cons_append, List.nil_append, List.getElem?_cons_zero, List.getElem?_cons_succ, List.set_cons_zero, List.set_cons_succ, List.length_cons, List.length_nil, List.replicate, Nat.reduceSub, Nat.reduceAdd, at_rd hi, P_lenR hi, List.length_map, cl_cal]
  refine wpO.mono (p_take (n + 2) dk (by omega) (by omega) (by omega)) ?_
  rintro v h1 ⟨home, rfl, m0, m1, fr1, dk1⟩
  try simp only [wv_var, wv_cst, wv_glo, wv_pr, ws_nil, ws_cons, wv_and, wv_or, wv_not, wv_ite, wv_chain, wv_tup, wv_lst, wv_call, wv_callP, wv_comp, wv_fld, wv_lm, wv_meth, wv_lenI, wI_of, wC_yes, wC_test, wg_nm, wg_tupT, wgs_nil, wgs_cons, wS_asg, wS_ex, wS_ret, wS_iff, wS_for, wS_whl, wSs_nil, wSs_cons, w_bl, wpO_ok, wpO_bind, wpO_calm, List.map_cons, List.map_nil, List.cons_append, List.nil_append, List.getElem?_cons_zero, List.getElem?_cons_succ, List.set_cons_zero, List.set_cons_succ, List.length_cons, List.length_nil, List.replicate, Nat.reduceSub, Nat.reduceAdd, sz0, if_true, wI_rg]
  rw [if_pos (by omega)]
  have dk1' := dk1.pre (pre_app h1 [O.lst []])
  have lt := dk1.lt
  refine wpF_for (J := fun l r h' => l.length ≤ 4 ∧ (∃ a c, r = [some (.ref t), some (.ref i), some (.int m.base), some (.int m.segs.length), some (.int home), some (.ref h1.length), a, c, none, none, none, none]) ∧ (∃ ps : List Pt, ps.length + l.length = 4 ∧ rd h' h1.length = some (ps.map ptD) ∧ (∀ x ∈ ps, PtOk m.segs.length x) ∧ ∀ r k p, some (r, k, p) ∈ ps → home ≤ r) ∧ Fr t g h h' ∧ Dk t g (b + 100 - 10 * l.length) h') ?_ ?_ ?_ _ _ _ ?_
  · intro l r h' _ g hg
    cases hg
  · rintro x l r h' ⟨hl, ⟨a, c, rfl⟩, ⟨ps, pl, rp, pok, phi⟩, fr, dk'⟩
    have hl : l.length + 1 ≤ 4 := hl
    have pl : ps.length + (l.length + 1) = 4 := pl
    have dk' : Dk t g (b + 100 - 10 * ((l.length + 1 : Nat) : Int)) h' := dk'
    try simp only [wv_var, wv_cst, wv_glo, wv_pr, ws_nil, ws_cons, wv_and, wv_or, wv_not, wv_ite, wv_chain, wv_tup, wv_lst, wv_call, wv_callP, wv_comp, wv_fld, wv_lm, wv_meth, wv_lenI, wI_of, wC_yes, wC_test, wg_nm, wg_tupT, wgs_nil, wgs_cons, wS_asg, wS_ex, wS_ret, wS_iff, wS_for, wS_whl, wSs_nil, wSs_cons, w_bl, wpO_ok, wpO_bind, wpO_calm, List.map_cons, List.map_nil, List.cons_append, List.nil_append, List.getElem?_cons_zero, List.getElem?_cons_succ, List.set_cons_zero, List.set_cons_succ, List.length_cons, List.length_nil, List.replicate, Nat.reduceSub, Nat.reduceAdd]
    refine wpO.mono (p_take (n + 2) dk' (by omega) (by omega) (by omega)) ?_
    rintro v h2 ⟨x2, rfl, x20, x21, fr2, dk2⟩
    try simp only [wv_var, wv_cst, wv_glo, wv_pr, ws_nil, ws_cons, wv_and, wv_or, wv_not, wv_ite, wv_chain, wv_tup, wv_lst, wv_call, wv_callP, wv_comp, wv_fld, wv_lm, wv_meth, wv_lenI, wI_of, wC_yes, wC_test, wg_nm, wg_tupT, wgs_nil, wgs_cons, wS_asg, wS_ex, wS_ret, wS_iff, wS_for, wS_whl, wSs_nil, wSs_cons, w_bl, wpO_ok, wpO_bind, wpO_calm, List.map_cons, List.map_nil, List.cons_append, List.nil_append, List.getElem?_cons_zero, List.getElem?_cons_succ, List.set_cons_zero, List.set_cons_succ, List.length_cons, List.length_nil, List.replicate, Nat.reduceSub, Nat.reduceAdd, P_max]
    refine wpO.mono (p_take (n + 2) dk2 (by omega) (by omega) (by omega)) ?_
    rintro v h3 ⟨x3, rfl, x30, x31, fr3, dk3⟩
    try simp only [wv_var, wv_cst, wv_glo, wv_pr, ws_nil, ws_cons, wv_and, wv_or, wv_not, wv_ite, wv_chain, wv_tup, wv_lst, wv_call, wv_callP, wv_comp, wv_fld, wv_lm, wv_meth, wv_lenI, wI_of, wC_yes, wC_test, wg_nm, wg_tupT, wgs_nil, wgs_cons, wS_asg, wS_ex, wS_ret, wS_iff, wS_for, wS_whl, wSs_nil, wSs_cons, w_bl, wpO_ok, wpO_bind, wpO_calm, List.map_cons, List.map_nil, List.cons_append, List.nil_append, List.getElem?_cons_zero, List.getElem?_cons_succ, List.set_cons_zero, List.set_cons_succ, List.length_cons, List.length_nil, List.replicate, Nat.reduceSub, Nat.reduceAdd, sz6, if_true]
    refine pick (n + 2) dk3 (by omega) rfl (by simp) (by simp) fun d hd h4 fr4 dk4 => ?_
    obtain ⟨pl4, rfl, p0⟩ : ∃ a, d = .int a ∧ 0 ≤ a := by
      simp only [List.mem_cons, List.not_mem_nil, or_false] at hd
      rcases hd with rfl | rfl | rfl | rfl | rfl | rfl <;> exact ⟨_, rfl, by omega⟩
    have rp4 : rd h4 h1.length = some (ps.map ptD) := (fr2.trans (fr3.trans fr4)).rd (by omega) (by omega) rp
    try simp only [wv_var, wv_cst, wv_glo, wv_pr, ws_nil, ws_cons, wv_and, wv_or, wv_not, wv_ite, wv_chain, wv_tup, wv_lst, wv_call, wv_callP, wv_comp, wv_fld, wv_lm, wv_meth, wv_lenI, wI_of, wC_yes, wC_test, wg_nm, wg_tupT, wgs_nil, wgs_cons, wS_asg, wS_ex, wS_ret, wS_iff, wS_for, wS_whl, wSs_nil, wSs_cons, w_bl, wpO_ok, wpO_bind, wpO_calm, List.map_cons, List.map_nil, List.cons_append, List.nil_append, List.getElem?_cons_zero, List.getElem?_cons_succ, List.set_cons_zero, List.set_cons_succ, List.length_cons, List.length_nil, List.replicate, Nat.reduceSub, Nat.reduceAdd, sz3, if_true, rp4]
    refine pick (n + 2) dk4 (by omega) rfl (by simp) (by simp) fun d hd h5 fr5 dk5 => ?_
    obtain ⟨y, rfl, yok, yhi⟩ : ∃ y : Pt, d = ptD y ∧ PtOk m.segs.length y ∧ ∀ r k p, y = some (r, k, p) → home ≤ r := by
      have hm : 0 ≤ mx home x2 ∧ mx home x2 ≤ 7 ∧ home ≤ mx home x2 := by unfold mx; split <;> omega
      simp only [List.mem_cons, List.not_mem_nil, or_false] at hd
      rcases hd with rfl | rfl | rfl
      · exact ⟨some (mx home x2, x3, pl4), rfl, ⟨⟨hm.1, hm.2.1⟩, ⟨x30, x31⟩, p0⟩, fun r k p z => by cases z; exact hm.2.2⟩
      · exact ⟨some (mx home x2, x3, pl4), rfl, ⟨⟨hm.1, hm.2.1⟩, ⟨x30, x31⟩, p0⟩, fun r k p z => by cases z; exact hm.2.2⟩
      · exact ⟨none, rfl, trivial, fun r k p z => by cases z⟩
    have rp5 : rd h5 h1.length = some (ps.map ptD) := fr5.rd (by omega) (by omega) rp4
    have ap := P_app (d := ptD y) rp5 (by rw [List.length_map, sizeLine_eq]; omega)
    rw [show ps.map ptD ++ [ptD y] = (ps ++ [y]).map ptD from by simp] at ap
    try simp only [wv_var, wv_cst, wv_glo, wv_pr, ws_nil, ws_cons, wv_and, wv_or, wv_not, wv_ite, wv_chain, wv_tup, wv_lst, wv_call, wv_callP, wv_comp, wv_fld, wv_lm, wv_meth, wv_lenI, wI_of, wC_yes, wC_test, wg_nm, wg_tupT, wgs_nil, wgs_cons, wS_asg, wS_ex, wS_ret, wS_iff, wS_for, wS_whl, wSs_nil, wSs_cons, w_bl, wpO_ok, wpO_bind, wpO_calm, List.map_cons, List.map_nil, List.cons_append, List.nil_append, List.getElem?_cons_zero, List.getElem?_cons_succ, List.set_cons_zero, List.set_cons_succ, List.length_cons, List.length_nil, List.replicate, Nat.reduceSub, Nat.reduceAdd, ap]
    refine ⟨by omega, ⟨_, _, rfl⟩, ⟨ps ++ [y], by simp; omega, rd_at (set_at (at_rd rp5)), ?_, ?_⟩, ?_, ?_⟩
    · intro x hx
      rcases List.mem_append.mp hx with q | q
      · exact pok x q
      · rw [List.mem_singleton.mp q]; exact yok
    · intro r k p hx
      rcases List.mem_append.mp hx with q | q
      · exact phi r k p q
      · exact yhi r k p (List.mem_singleton.mp q).symm
    · exact (fr.trans (fr2.trans (fr3.trans (fr4.trans fr5)))).setNew fr1.len
    · exact (dk5.setNew (by omega) (by omega)).le (by simp; omega)
  · rintro r h' ⟨_, ⟨a, c, rfl⟩, ⟨ps, pl, rp, pok, phi⟩, fr, dk'⟩
    have pl : ps.length = 4 := by simpa using pl
    have dk' : Dk t g (b + 100) h' := by simpa using dk'
    have ri : rd h' i = some (m.segs.map Sg.d) := fr.rd n1 n2 hi
    try simp only [wv_var, wv_cst, wv_glo, wv_pr, ws_nil, ws_cons, wv_and, wv_or, wv_not, wv_ite, wv_chain, wv_tup, wv_lst, wv_call, wv_callP, wv_comp, wv_fld, wv_lm, wv_meth, wv_lenI, wI_of, wC_yes, wC_test, wg_nm, wg_tupT, wgs_nil, wgs_cons, wS_asg, wS_ex, wS_ret, wS_iff, wS_for, wS_whl, wSs_nil, wSs_cons, w_bl, wpO_ok, wpO_bind, wpO_calm, List.map_cons, List.map_nil, List.cons_append, List.nil_append, List.getElem?_cons_zero, List.getElem?_cons_succ, List.set_cons_zero, List.set_cons_succ, List.length_cons, List.length_nil, List.replicate, Nat.reduceSub, Nat.reduceAdd, srcS, srcOf, ri]
    have hsk : Src.ok ⟨m.segs.map Sg.d, [(i, m.segs.map Sg.d)]⟩ h' := fun q hq => by rw [List.mem_singleton.mp hq]; exact ri
    refine wpO.mono (cmp_pre (fun d => match d with | .tup [_, _, _, w, _] => w | _ => .non) (fun _ => true) (m.segs.map Sg.d) hsk (by rw [List.length_map, sizeLine_eq]; omega) fun x hx hh p1 => ?_) fun d h2 ⟨e1, p2, q2⟩ => ?_
    · obtain ⟨sg, _, rfl⟩ := List.mem_map.mp hx
      simp only [cTarget, wipeE, wv_var, wv_cst, wv_glo, wv_pr, ws_nil, ws_cons, wv_and, wv_or, wv_not, wv_ite, wv_chain, wv_tup, wv_lst, wv_call, wv_callP, wv_comp, wv_fld, wv_lm, wv_meth, wv_lenI, wI_of, wC_yes, wC_test, wg_nm, wg_tupT, wgs_nil, wgs_cons, wS_asg, wS_ex, wS_ret, wS_iff, wS_for, wS_whl, wSs_nil, wSs_cons, w_bl, wpO_ok, wpO_bind, wpO_calm, List.map_cons, List.map_nil, List.cons_append, List.nil_append, List.getElem?_cons_zero, List.getElem?_cons_succ, List.set_cons_zero, List.set_cons_succ, List.length_cons, List.length_nil, List.replicate, Nat.reduceSub, Nat.reduceAdd, true_and]
      refine ⟨List.prefix_refl _, fun _ => ?_⟩
      simp only [P_ixSg3, wv_var, wv_cst, wv_glo, wv_pr, ws_nil, ws_cons, wv_and, wv_or, wv_not, wv_ite, wv_chain, wv_tup, wv_lst, wv_call, wv_callP, wv_comp, wv_fld, wv_lm, wv_meth, wv_lenI, wI_of, wC_yes, wC_test, wg_nm, wg_tupT, wgs_nil, wgs_cons, wS_asg, wS_ex, wS_ret, wS_iff, wS_for, wS_whl, wSs_nil, wSs_cons, w_bl, wpO_ok, wpO_bind, wpO_calm, List.map_cons, List.map_nil, List.cons_append, List.nil_append, List.getElem?_cons_zero, List.getElem?_cons_succ, List.set_cons_zero, List.set_cons_succ, List.length_cons, List.length_nil, List.replicate, Nat.reduceSub, Nat.reduceAdd]
      exact ⟨List.prefix_refl _, rfl⟩
    subst e1
    have em : (((m.segs.map Sg.d).filter fun _ => true).map fun d => match d with | .tup [_, _, _, w, _] => w | _ => D.non) = (m.segs.map (·.ws)).map wordsD := by
      rw [List.filter_eq_self.mpr (by simp), List.map_map, List.map_map]
      rfl
    rw [em] at q2
    have dk2 := dk'.pre p2
    have lt' := dk'.lt
    have fr2 := fr.trans (Fr.pre p2)
    have hh1 : h1.length < h'.length := (List.getElem?_eq_some_iff.mp (at_rd rp)).1
    refine wpO.mono (p_take (n + 2) dk2 (by omega) (by omega) (by omega)) ?_
    rintro v h3 ⟨x3, rfl, x30, x31, fr3, dk3⟩
    have r3 : rd h3 h'.length = some ((m.segs.map (·.ws)).map wordsD) := fr3.rd (by omega) (by omega) (rd_at q2)
    have rp3 : rd h3 h1.length = some (ps.map ptD) := fr3.rd (by omega) (by omega) (pre_rd p2 rp)
    have ok0 : ∀ ws ∈ m.segs.map (·.ws), ws.length ≤ 16 ∧ ∀ w ∈ ws, w.Ok m.segs.length m.base := fun ws hw => by
      obtain ⟨sg, hsg, rfl⟩ := List.mem_map.mp hw
      exact ⟨(mo.sg sg hsg).wl, (mo.sg sg hsg).ws⟩
    have mp : 0 < mn m.base 1000000000 ∧ mn m.base 1000000000 ≤ m.base := by unfold mn; split <;> omega
    have fin : ∀ (h4 : Mem) (k : Nat) (mem : List (List Wd)), k ≠ t → k ≠ g → rd h4 k = some (mem.map wordsD) → rd h4 h1.length = some (ps.map ptD) → mem.map List.length = (m.segs.map (·.ws)).map List.length → (∀ ws ∈ mem, ws.length ≤ 16 ∧ ∀ w ∈ ws, w.Ok m.segs.length m.base) → Fr t g h h4 → Dk t g (b + 900) h4 →
        wpO (run T (n + 3 + 1) 201 [.ref t, .int (mn m.base 1000000000)] h4) fun d_5 h_8 => wpO (evP .toTuple [.ref h1.length] h_8) fun d_6 h_9 => wpO (evP .toTuple [.ref k] h_9) fun d_7 h_10 => if 4 ≤ sizeLine then ∃ s : Sd, D.tup [.int home, d_5, d_6, d_7] = s.d ∧ s.Ok m ∧ (PsHi s ∧ Like m s) ∧ Fr t g h h_10 ∧ Dk t g (b + 1000) h_10 else False := by
      intro h4 k mem k1 k2 e4 ep4 ml4 ok4 fr4 dk4
      refine wpO.mono (p_take (n + 2) dk4 (by omega) mp.1 (by omega)) ?_
      rintro v h5 ⟨x5, rfl, x50, x51, fr5, dk5⟩
      have ml5 : mem.length = m.segs.length := by have := congrArg List.length ml4; simpa using this
      rw [P_tupR (fr5.rd (by omega) (by omega) ep4), wpO_ok, P_tupR (fr5.rd k1 k2 e4), wpO_ok, if_pos (by rw [sizeLine_eq]; omega)]
      exact ⟨⟨home, x5, ps, mem⟩, rfl, ⟨⟨m0, by dsimp only; omega⟩, ⟨x50, by dsimp only; omega⟩, pl, pok, ml5, ok4⟩, ⟨phi, by unfold Like; rw [ml4, List.map_map]; rfl⟩, fr4.trans fr5, dk5.le (by omega)⟩
    try simp only [wv_var, wv_cst, wv_glo, wv_pr, ws_nil, ws_cons, wv_and, wv_or, wv_not, wv_ite, wv_chain, wv_tup, wv_lst, wv_call, wv_callP, wv_comp, wv_fld, wv_lm, wv_meth, wv_lenI, wI_of, wC_yes, wC_test, wg_nm, wg_tupT, wgs_nil, wgs_cons, wS_asg, wS_ex, wS_ret, wS_iff, wS_for, wS_whl, wSs_nil, wSs_cons, w_bl, wpO_ok, wpO_bind, wpO_calm, List.map_cons, List.map_nil, List.cons_append, List.nil_append, List.getElem?_cons_zero, List.getElem?_cons_succ, List.set_cons_zero, List.set_cons_succ, List.length_cons, List.length_nil, List.replicate, Nat.reduceSub, Nat.reduceAdd, P_eqI, P_pow cp9, q9, P_min]
    by_cases c3 : x3 = 0
    · try simp only [wv_var, wv_cst, wv_glo, wv_pr, ws_nil, ws_cons, wv_and, wv_or, wv_not, wv_ite, wv_chain, wv_tup, wv_lst, wv_call, wv_callP, wv_comp, wv_fld, wv_lm, wv_meth, wv_lenI, wI_of, wC_yes, wC_test, wg_nm, wg_tupT, wgs_nil, wgs_cons, wS_asg, wS_ex, wS_ret, wS_iff, wS_for, wS_whl, wSs_nil, wSs_cons, w_bl, wpO_ok, wpO_bind, wpO_calm, List.map_cons, List.map_nil, List.cons_append, List.nil_append, List.getElem?_cons_zero, List.getElem?_cons_succ, List.set_cons_zero, List.set_cons_succ, List.length_cons, List.length_nil, List.replicate, Nat.reduceSub, Nat.reduceAdd, c3, decide_true, if_true, r3]
      have hsk3 : ∀ hx, Fr t g h3 hx → Src.ok ⟨(m.segs.map (·.ws)).map wordsD, [(h'.length, (m.segs.map (·.ws)).map wordsD)]⟩ hx := fun hx frx q hq => by rw [List.mem_singleton.mp hq]; exact frx.rd (by omega) (by omega) r3
      refine wpO.mono (cmp_dk2 wordsD (fun d (ws : List Wd) => (ws.length ≤ 16 ∧ ∀ w ∈ ws, w.Ok m.segs.length m.base) ∧ ∀ ws0, d = wordsD ws0 → ws.length = ws0.length) 64 (b + 800) (by omega) (items := (m.segs.map (·.ws)).map wordsD) dk3 (by simp; omega) (by simp; omega) hsk3 fun x hx hh bb dkx hbx frx => ?_) ?_
      · obtain ⟨ws, hws, rfl⟩ := List.mem_map.mp hx
        have ok1 := ok0 ws hws
        simp only [cTarget, wipeE, wv_var, wv_cst, wv_glo, wv_pr, ws_nil, ws_cons, wv_and, wv_or, wv_not, wv_ite, wv_chain, wv_tup, wv_lst, wv_call, wv_callP, wv_comp, wv_fld, wv_lm, wv_meth, wv_lenI, wI_of, wC_yes, wC_test, wg_nm, wg_tupT, wgs_nil, wgs_cons, wS_asg, wS_ex, wS_ret, wS_iff, wS_for, wS_whl, wSs_nil, wSs_cons, w_bl, wpO_ok, wpO_bind, wpO_calm, List.map_cons, List.map_nil, List.cons_append, List.nil_append, List.getElem?_cons_zero, List.getElem?_cons_succ, List.set_cons_zero, List.set_cons_succ, List.length_cons, List.length_nil, List.replicate, Nat.reduceSub, Nat.reduceAdd, cl_cal, true_and, wordsD, srcS, srcOf]
        refine wpO.mono (cmp_dk Wd.d (fun w => w.Ok m.segs.length m.base) 4 (bb + 64) (by omega) (items := ws.map Wd.d) dkx (by rw [List.length_map]; omega) (by rw [List.length_map]; omega) (fun _ _ q hq => by cases hq) fun y hy hh2 bb2 dky hby fry => ?_) ?_
        · simp only [cTarget, wipeE, wv_var, wv_cst, wv_glo, wv_pr, ws_nil, ws_cons, wv_and, wv_or, wv_not, wv_ite, wv_chain, wv_tup, wv_lst, wv_call, wv_callP, wv_comp, wv_fld, wv_lm, wv_meth, wv_lenI, wI_of, wC_yes, wC_test, wg_nm, wg_tupT, wgs_nil, wgs_cons, wS_asg, wS_ex, wS_ret, wS_iff, wS_for, wS_whl, wSs_nil, wSs_cons, w_bl, wpO_ok, wpO_bind, wpO_calm, List.map_cons, List.map_nil, List.cons_append, List.nil_append, List.getElem?_cons_zero, List.getElem?_cons_succ, List.set_cons_zero, List.set_cons_succ, List.length_cons, List.length_nil, List.replicate, Nat.reduceSub, Nat.reduceAdd, cl_cal, true_and]
          refine wpO.mono (p_dword (n + 1) dky (by omega) (by omega) ⟨mb, hs⟩) ?_
          rintro v h2 ⟨w, rfl, ow, fr, dk⟩
          exact ⟨w, rfl, ow, fr, dk⟩
        rintro d hh3 ⟨rfl, ws', wl', wok', rw', fr', dk'⟩
        rw [List.length_map] at wl' dk'
        try simp only [wv_var, wv_cst, wv_glo, wv_pr, ws_nil, ws_cons, wv_and, wv_or, wv_not, wv_ite, wv_chain, wv_tup, wv_lst, wv_call, wv_callP, wv_comp, wv_fld, wv_lm, wv_meth, wv_lenI, wI_of, wC_yes, wC_test, wg_nm, wg_tupT, wgs_nil, wgs_cons, wS_asg, wS_ex, wS_ret, wS_iff, wS_for, wS_whl, wSs_nil, wSs_cons, w_bl, wpO_ok, wpO_bind, wpO_calm, List.map_cons, List.map_nil, List.cons_append, List.nil_append, List.getElem?_cons_zero, List.getElem?_cons_succ, List.set_cons_zero, List.set_cons_succ, List.length_cons, List.length_nil, List.replicate, Nat.reduceSub, Nat.reduceAdd, P_tupR rw']
        exact ⟨ws', rfl, ⟨⟨by omega, wok'⟩, fun ws0 e => by
          have e : D.tup (ws.map Wd.d) = D.tup (ws0.map Wd.d) := e
          injection e with e
          have := congrArg List.length e
          simp only [List.length_map] at this
          omega⟩, fr', dk'.le (by omega)⟩
      rintro d h4 ⟨rfl, mem, al4, rm, fr4, dk4⟩
      obtain ⟨mok, ml4⟩ := al4.lens
      simp only [List.length_map] at dk4
      have lt3 := dk3.lt
      try simp only [wv_var, wv_cst, wv_glo, wv_pr, ws_nil, ws_cons, wv_and, wv_or, wv_not, wv_ite, wv_chain, wv_tup, wv_lst, wv_call, wv_callP, wv_comp, wv_fld, wv_lm, wv_meth, wv_lenI, wI_of, wC_yes, wC_test, wg_nm, wg_tupT, wgs_nil, wgs_cons, wS_asg, wS_ex, wS_ret, wS_iff, wS_for, wS_whl, wSs_nil, wSs_cons, w_bl, wpO_ok, wpO_bind, wpO_calm, List.map_cons, List.map_nil, List.cons_append, List.nil_append, List.getElem?_cons_zero, List.getElem?_cons_succ, List.set_cons_zero, List.set_cons_succ, List.length_cons, List.length_nil, List.replicate, Nat.reduceSub, Nat.reduceAdd, P_pow cp9, q9, P_min]
      exact fin h4 h3.length mem (by omega) (by omega) rm (fr4.rd (by omega) (by omega) rp3) ml4 mok (fr2.trans (fr3.trans fr4)) (dk4.le (by omega))
    · try simp only [wv_var, wv_cst, wv_glo, wv_pr, ws_nil, ws_cons, wv_and, wv_or, wv_not, wv_ite, wv_chain, wv_tup, wv_lst, wv_call, wv_callP, wv_comp, wv_fld, wv_lm, wv_meth, wv_lenI, wI_of, wC_yes, wC_test, wg_nm, wg_tupT, wgs_nil, wgs_cons, wS_asg, wS_ex, wS_ret, wS_iff, wS_for, wS_whl, wSs_nil, wSs_cons, w_bl, wpO_ok, wpO_bind, wpO_calm, List.map_cons, List.map_nil, List.cons_append, List.nil_append, List.getElem?_cons_zero, List.getElem?_cons_succ, List.set_cons_zero, List.set_cons_succ, List.length_cons, List.length_nil, List.replicate, Nat.reduceSub, Nat.reduceAdd, c3, decide_false, Bool.false_eq_true, if_false]
      exact fin h3 h'.length _ (by omega) (by omega) r3 rp3 rfl ok0 (fr2.trans fr3) (dk3.le (by omega))
  · refine ⟨by rw [rng_len]; decide, ⟨_, _, rfl⟩, ⟨[], by rw [rng_len]; rfl, rd_app, fun x hx => (by cases hx), fun r k p hx => (by cases hx)⟩, fr1.trans (Fr.pre (pre_app _ _)), ?_⟩
    rw [rng_len]
    exact dk1'.le (by simp; omega)
end RG.K

end

section
/-! Dk5: the deck's making; alike, kinds too. -/
namespace RG.K
open PySem L2 RG RG.M
variable (n : Nat)
theorem T200 : T.defs 200 = some ⟨1, 4, d_law_deck⟩ := rfl
theorem cp18 : CPow 10 18 := ⟨by omega, by omega, by decide⟩
theorem q18 : (10 : Int) ^ (18 : Int).toNat = 1000000000000000000 := by decide
theorem P_ins0 {h : Mem} {k : Nat} {l : List D} {d : D} (e : rd h k = some l) (hl : l.length < sizeLine) : evP .insert [.ref k, .int 0, d] h = .ok .non (h.set k (.lst (d :: l))) := by
  have : evP .insert [.ref k, .int 0, d] h = (match h[k]? with
    | some (.lst l) => if l.length < sizeLine ∧ (0 : Int) ≤ 0 ∧ (0 : Int) < 2 ^ 63 then .ok .non (h.set k (.lst (l.take (0 : Int).toNat ++ [d] ++ l.drop (0 : Int).toNat))) else .stuck
    | _ => .stuck) := rfl
  rw [this, at_rd e]
  dsimp only
  rw [if_pos ⟨hl, by omega, by omega⟩]
  rfl
theorem p_deck (ns : List Int) (hn : ns.length ≤ 63) : wpO (run T (n + 2) 200 [.scr ns] []) fun v h' => ∃ t g, v = .ref t ∧ Dk t g 0 h' := by
  refine wpO_run T200 rfl ?_
  simp only [d_law_deck, wv_var, wv_cst, wv_glo, wv_pr, ws_nil, ws_cons, wv_and, wv_or, wv_not, wv_ite, wv_chain, wv_tup, wv_lst, wv_call, wv_callP, wv_comp, wv_fld, wv_lm, wv_meth, wv_lenI, wI_of, wC_yes, wC_test, wg_nm, wg_tupT, wgs_nil, wgs_cons, wS_asg, wS_ex, wS_ret, wS_iff, wS_for, wS_whl, wSs_nil, wSs_cons, w_bl, wpO_ok, wpO_bind, wpO_calm, List.map_cons, List.map_nil, List.cons_append, List.nil_append, List.getElem?_cons_zero, List.getElem?_cons_succ, List.set_cons_zero, List.set_cons_succ, List.length_cons, List.length_nil, List.replicate, Nat.reduceSub, Nat.reduceAdd, sz0, if_true, srcS, srcOf]
  refine wpF_for (J := fun l r h => l.length ≤ 63 ∧ (∀ x ∈ l, ∃ y, x = .int y) ∧ ∃ fold a gs, r = [some (.scr ns), some (.ref 0), some (.int fold), a] ∧ 0 ≤ fold ∧ fold < 2 ^ 61 ∧ h = [.lst (gs.map .int)] ∧ gs.length + l.length ≤ 63) ?_ ?_ ?_ _ _ _ ⟨by simpa using hn, fun x hx => by obtain ⟨y, _, rfl⟩ := List.mem_map.mp hx; exact ⟨y, rfl⟩, 11, _, [], rfl, by omega, by omega, rfl, by simpa using hn⟩
  · intro l r h _ g hg
    cases hg
  · rintro x l r h ⟨hl, hx, fold, a, gs, rfl, f0, f1, rfl, hg⟩
    obtain ⟨y, rfl⟩ := hx x List.mem_cons_self
    have hl : l.length + 1 ≤ 63 := hl
    have hg : gs.length + (l.length + 1) ≤ 63 := hg
    have m1 : MulOk fold 1000003 := .inr (.inl ⟨by omega, by omega⟩)
    have e1 := Int.emod_nonneg (fold * 1000003 + y) (show (2305843009213693951 : Int) ≠ 0 by omega)
    have e2 := Int.emod_lt_of_pos (fold * 1000003 + y) (show (0 : Int) < 2305843009213693951 by omega)
    try simp only [wv_var, wv_cst, wv_glo, wv_pr, ws_nil, ws_cons, wv_and, wv_or, wv_not, wv_ite, wv_chain, wv_tup, wv_lst, wv_call, wv_callP, wv_comp, wv_fld, wv_lm, wv_meth, wv_lenI, wI_of, wC_yes, wC_test, wg_nm, wg_tupT, wgs_nil, wgs_cons, wS_asg, wS_ex, wS_ret, wS_iff, wS_for, wS_whl, wSs_nil, wSs_cons, w_bl, wpO_ok, wpO_bind, wpO_calm, List.map_cons, List.map_nil, List.cons_append, List.nil_append, List.getElem?_cons_zero, List.getElem?_cons_succ, List.set_cons_zero, List.set_cons_succ, List.length_cons, List.length_nil, List.replicate, Nat.reduceSub, Nat.reduceAdd, P_mul m1, P_add, P_mod _ _ (show (0 : Int) < 2305843009213693951 by omega), P_abs, P_pow cp18, q18, P_ge, P_sub]
    by_cases c : 1000000000000000000 ≤ (if y < 0 then -y else y)
    · simp only [c, decide_true, if_true]
      have r0 : rd [O.lst (gs.map .int)] 0 = some (gs.map .int) := rfl
      rw [r0]
      dsimp only
      rw [P_ins0 r0 (by rw [List.length_map, sizeLine_eq]; omega)]
      exact ⟨by omega, fun z hz => hx z (List.mem_cons_of_mem _ hz), _, _, ((if y < 0 then -y else y) - 1000000000000000000) :: gs, rfl, e1, by omega, rfl, by simp; omega⟩
    · simp only [c, decide_false, Bool.false_eq_true, if_false]
      exact ⟨by omega, fun z hz => hx z (List.mem_cons_of_mem _ hz), _, _, gs, rfl, e1, by omega, rfl, by omega⟩
  · rintro r h ⟨_, _, fold, a, gs, rfl, f0, f1, rfl, hg⟩
    try simp only [wv_var, wv_cst, wv_glo, wv_pr, ws_nil, ws_cons, wv_and, wv_or, wv_not, wv_ite, wv_chain, wv_tup, wv_lst, wv_call, wv_callP, wv_comp, wv_fld, wv_lm, wv_meth, wv_lenI, wI_of, wC_yes, wC_test, wg_nm, wg_tupT, wgs_nil, wgs_cons, wS_asg, wS_ex, wS_ret, wS_iff, wS_for, wS_whl, wSs_nil, wSs_cons, w_bl, wpO_ok, wpO_bind, wpO_calm, List.map_cons, List.map_nil, List.cons_append, List.nil_append, List.getElem?_cons_zero, List.getElem?_cons_succ, List.set_cons_zero, List.set_cons_succ, List.length_cons, List.length_nil, List.replicate, Nat.reduceSub, Nat.reduceAdd, sz3, if_true]
    exact ⟨1, 0, rfl, fold, 0, gs, ⟨rfl, rfl, by omega⟩, f0, f1, by omega, by omega⟩
/-- plain things -/
def Atom (d : D) : Prop := d = .non ∨ (∃ b, d = .bl b) ∨ (∃ i, d = .int i) ∨ ∃ s, d = .str s ∧ SeqAt.shaped (.str ⟨s.toArray⟩) = true
theorem ii_non0 {h : Mem} : evP (.isI 0) [.non] h = .ok (.bl false) h := rfl
theorem ii_non1 {h : Mem} : evP (.isI 1) [.non] h = .ok (.bl false) h := rfl
theorem ii_non3 {h : Mem} : evP (.isI 3) [.non] h = .ok (.bl false) h := rfl
theorem ii_non4 {h : Mem} : evP (.isI 4) [.non] h = .ok (.bl false) h := rfl
theorem it_non3 {h : Mem} : evP (.isT [3, 4]) [.non] h = .ok (.bl false) h := rfl
theorem it_non0 {h : Mem} : evP (.isT [0, 2]) [.non] h = .ok (.bl false) h := rfl
theorem ii_bl0 {h : Mem} {b : Bool} : evP (.isI 0) [(.bl b)] h = .ok (.bl true) h := rfl
theorem ii_bl1 {h : Mem} {b : Bool} : evP (.isI 1) [(.bl b)] h = .ok (.bl true) h := rfl
theorem ii_bl3 {h : Mem} {b : Bool} : evP (.isI 3) [(.bl b)] h = .ok (.bl false) h := rfl
theorem ii_bl4 {h : Mem} {b : Bool} : evP (.isI 4) [(.bl b)] h = .ok (.bl false) h := rfl
theorem it_bl3 {h : Mem} {b : Bool} : evP (.isT [3, 4]) [(.bl b)] h = .ok (.bl false) h := rfl
theorem it_bl0 {h : Mem} {b : Bool} : evP (.isT [0, 2]) [(.bl b)] h = .ok (.bl true) h := rfl
theorem ii_int0 {h : Mem} {i : Int} : evP (.isI 0) [(.int i)] h = .ok (.bl false) h := rfl
theorem ii_int1 {h : Mem} {i : Int} : evP (.isI 1) [(.int i)] h = .ok (.bl true) h := rfl
theorem ii_int3 {h : Mem} {i : Int} : evP (.isI 3) [(.int i)] h = .ok (.bl false) h := rfl
theorem ii_int4 {h : Mem} {i : Int} : evP (.isI 4) [(.int i)] h = .ok (.bl false) h := rfl
theorem it_int3 {h : Mem} {i : Int} : evP (.isT [3, 4]) [(.int i)] h = .ok (.bl false) h := rfl
theorem it_int0 {h : Mem} {i : Int} : evP (.isT [0, 2]) [(.int i)] h = .ok (.bl false) h := rfl
theorem ii_str0 {h : Mem} {s : List Nat} : evP (.isI 0) [(.str s)] h = .ok (.bl false) h := rfl
theorem ii_str1 {h : Mem} {s : List Nat} : evP (.isI 1) [(.str s)] h = .ok (.bl false) h := rfl
theorem ii_str3 {h : Mem} {s : List Nat} : evP (.isI 3) [(.str s)] h = .ok (.bl false) h := rfl
theorem ii_str4 {h : Mem} {s : List Nat} : evP (.isI 4) [(.str s)] h = .ok (.bl false) h := rfl
theorem it_str3 {h : Mem} {s : List Nat} : evP (.isT [3, 4]) [(.str s)] h = .ok (.bl false) h := rfl
theorem it_str0 {h : Mem} {s : List Nat} : evP (.isT [0, 2]) [(.str s)] h = .ok (.bl true) h := rfl
theorem ii_tup0 {h : Mem} {l : List D} : evP (.isI 0) [(.tup l)] h = .ok (.bl false) h := rfl
theorem ii_tup1 {h : Mem} {l : List D} : evP (.isI 1) [(.tup l)] h = .ok (.bl false) h := rfl
theorem ii_tup3 {h : Mem} {l : List D} : evP (.isI 3) [(.tup l)] h = .ok (.bl false) h := rfl
theorem ii_tup4 {h : Mem} {l : List D} : evP (.isI 4) [(.tup l)] h = .ok (.bl true) h := rfl
theorem it_tup3 {h : Mem} {l : List D} : evP (.isT [3, 4]) [(.tup l)] h = .ok (.bl true) h := rfl
theorem it_tup0 {h : Mem} {l : List D} : evP (.isT [0, 2]) [(.tup l)] h = .ok (.bl false) h := rfl
theorem ii_ref0 {h : Mem} {i : Nat} {l : List D} (e : h[i]? = some (.lst l)) : evP (.isI 0) [.ref i] h = .ok (.bl false) h := by
  have : evP (.isI 0) [.ref i] h = (match tyK (.ref i) h with | some t => .ok (.bl (isK 0 t)) h | none => .stuck) := rfl
  rw [this]
  simp only [tyK, e]
  rfl
theorem ii_ref1 {h : Mem} {i : Nat} {l : List D} (e : h[i]? = some (.lst l)) : evP (.isI 1) [.ref i] h = .ok (.bl false) h := by
  have : evP (.isI 1) [.ref i] h = (match tyK (.ref i) h with | some t => .ok (.bl (isK 1 t)) h | none => .stuck) := rfl
  rw [this]
  simp only [tyK, e]
  rfl
theorem ii_ref3 {h : Mem} {i : Nat} {l : List D} (e : h[i]? = some (.lst l)) : evP (.isI 3) [.ref i] h = .ok (.bl true) h := by
  have : evP (.isI 3) [.ref i] h = (match tyK (.ref i) h with | some t => .ok (.bl (isK 3 t)) h | none => .stuck) := rfl
  rw [this]
  simp only [tyK, e]
  rfl
theorem ii_ref4 {h : Mem} {i : Nat} {l : List D} (e : h[i]? = some (.lst l)) : evP (.isI 4) [.ref i] h = .ok (.bl false) h := by
  have : evP (.isI 4) [.ref i] h = (match tyK (.ref i) h with | some t => .ok (.bl (isK 4 t)) h | none => .stuck) := rfl
  rw [this]
  simp only [tyK, e]
  rfl
theorem it_ref3 {h : Mem} {i : Nat} {l : List D} (e : h[i]? = some (.lst l)) : evP (.isT [3, 4]) [.ref i] h = .ok (.bl true) h := by
  have : evP (.isT [3, 4]) [.ref i] h = (match tyK (.ref i) h with | some t => .ok (.bl ([3, 4].any fun k => isK k t)) h | none => .stuck) := rfl
  rw [this]
  simp only [tyK, e]
  rfl
/-- alike, kinds too -/
def Sm (h : Mem) : Nat → D → D → Prop
  | 0, a, b => a = b ∧ Atom a
  | k + 1, a, b => (a = b ∧ Atom a) ∨ (∃ l l', a = .tup l ∧ b = .tup l' ∧ l.length ≤ 1000 ∧ All2 (Sm h k) l l') ∨ ∃ i j l l', a = .ref i ∧ b = .ref j ∧ rd h i = some l ∧ rd h j = some l' ∧ l.length ≤ 1000 ∧ All2 (Sm h k) l l'
theorem Sm.pre {h h' : Mem} (p : h <+: h') : ∀ {k : Nat} {a b : D}, Sm h k a b → Sm h' k a b
  | 0, _, _, s => s
  | k + 1, _, _, .inl s => .inl s
  | k + 1, _, _, .inr (.inl ⟨l, l', e1, e2, hl, al⟩) => .inr (.inl ⟨l, l', e1, e2, hl, al.imp fun _ _ z => Sm.pre p z⟩)
  | k + 1, _, _, .inr (.inr ⟨i, j, l, l', e1, e2, r1, r2, hl, al⟩) => .inr (.inr ⟨i, j, l, l', e1, e2, pre_rd p r1, pre_rd p r2, hl, al.imp fun _ _ z => Sm.pre p z⟩)
theorem All2.get {a b : Type} {R : a → b → Prop} : ∀ {l : List a} {m : List b}, All2 R l m → ∀ (i : Nat) (h1 : i < l.length) (h2 : i < m.length), R l[i] m[i]
  | _, _, .nil, i, h1, _ => absurd h1 (Nat.not_lt_zero _)
  | _, _, .cons r t, 0, _, _ => r
  | _, _, .cons r t, i + 1, h1, h2 => t.get i (by simpa using h1) (by simpa using h2)
end RG.K

end

section
/-! Dk6: alike, kinds too: the law's own look. -/
namespace RG.K
open PySem L2 RG RG.M
variable (n : Nat)
theorem T204 : T.defs 204 = some ⟨2, 3, d_law_same⟩ := rfl
theorem same_atom {h : Mem} {a : D} (at_ : Atom a) : wpO (run T (n + 2) 204 [a, a] h) fun v h' => v = .bl true ∧ h' = h := by
  refine wpO_run T204 rfl ?_
  rcases at_ with rfl | ⟨b, rfl⟩ | ⟨i, rfl⟩ | ⟨s, rfl, hs⟩
  · simp only [d_law_same, wv_var, wv_cst, wv_glo, wv_pr, ws_nil, ws_cons, wv_and, wv_or, wv_not, wv_ite, wv_chain, wv_tup, wv_lst, wv_call, wv_callP, wv_comp, wv_fld, wv_lm, wv_meth, wv_lenI, wI_of, wC_yes, wC_test, wg_nm, wg_tupT, wgs_nil, wgs_cons, wS_asg, wS_ex, wS_ret, wS_iff, wS_for, wS_whl, wSs_nil, wSs_cons, w_bl, wpO_ok, wpO_bind, wpO_calm, List.map_cons, List.map_nil, List.cons_append, List.nil_append, List.getElem?_cons_zero, List.getElem?_cons_succ, List.set_cons_zero, List.set_cons_succ, List.length_cons, List.length_nil, List.replicate, Nat.reduceSub, Nat.reduceAdd, ii_non0, ii_non1, ii_non3, ii_non4, it_non3, it_non0, ii_bl0, ii_bl1, ii_bl3, ii_bl4, it_bl3, it_bl0, ii_int0, ii_int1, ii_int3, ii_int4, it_int3, it_int0, ii_str0, ii_str1, ii_str3, ii_str4, it_str3, it_str0, ii_tup0, ii_tup1, ii_tup3, ii_tup4, it_tup3, it_tup0, P_neB, P_eqB, if_true, if_false, decide_true, decide_false, Bool.not_true, Bool.not_false, Bool.false_eq_true, show evP .isN [D.non] h = .ok (.bl true) h from rfl, and_self]
  · simp only [d_law_same, wv_var, wv_cst, wv_glo, wv_pr, ws_nil, ws_cons, wv_and, wv_or, wv_not, wv_ite, wv_chain, wv_tup, wv_lst, wv_call, wv_callP, wv_comp, wv_fld, wv_lm, wv_meth, wv_lenI, wI_of, wC_yes, wC_test, wg_nm, wg_tupT, wgs_nil, wgs_cons, wS_asg, wS_ex, wS_ret, wS_iff, wS_for, wS_whl, wSs_nil, wSs_cons, w_bl, wpO_ok, wpO_bind, wpO_calm, List.map_cons, List.map_nil, List.cons_append, List.nil_append, List.getElem?_cons_zero, List.getElem?_cons_succ, List.set_cons_zero, List.set_cons_succ, List.length_cons, List.length_nil, List.replicate, Nat.reduceSub, Nat.reduceAdd, ii_non0, ii_non1, ii_non3, ii_non4, it_non3, it_non0, ii_bl0, ii_bl1, ii_bl3, ii_bl4, it_bl3, it_bl0, ii_int0, ii_int1, ii_int3, ii_int4, it_int3, it_int0, ii_str0, ii_str1, ii_str3, ii_str4, it_str3, it_str0, ii_tup0, ii_tup1, ii_tup3, ii_tup4, it_tup3, it_tup0, P_neB, P_eqB, if_true, if_false, decide_true, decide_false, Bool.not_true, Bool.not_false, Bool.false_eq_true, show evP .isN [D.bl b] h = .ok (.bl false) h from rfl, and_self]
  · simp only [d_law_same, wv_var, wv_cst, wv_glo, wv_pr, ws_nil, ws_cons, wv_and, wv_or, wv_not, wv_ite, wv_chain, wv_tup, wv_lst, wv_call, wv_callP, wv_comp, wv_fld, wv_lm, wv_meth, wv_lenI, wI_of, wC_yes, wC_test, wg_nm, wg_tupT, wgs_nil, wgs_cons, wS_asg, wS_ex, wS_ret, wS_iff, wS_for, wS_whl, wSs_nil, wSs_cons, w_bl, wpO_ok, wpO_bind, wpO_calm, List.map_cons, List.map_nil, List.cons_append, List.nil_append, List.getElem?_cons_zero, List.getElem?_cons_succ, List.set_cons_zero, List.set_cons_succ, List.length_cons, List.length_nil, List.replicate, Nat.reduceSub, Nat.reduceAdd, ii_non0, ii_non1, ii_non3, ii_non4, it_non3, it_non0, ii_bl0, ii_bl1, ii_bl3, ii_bl4, it_bl3, it_bl0, ii_int0, ii_int1, ii_int3, ii_int4, it_int3, it_int0, ii_str0, ii_str1, ii_str3, ii_str4, it_str3, it_str0, ii_tup0, ii_tup1, ii_tup3, ii_tup4, it_tup3, it_tup0, P_neB, P_eqB, P_eqI, if_true, if_false, decide_true, decide_false, Bool.not_true, Bool.not_false, Bool.false_eq_true, show evP .isN [D.int i] h = .ok (.bl false) h from rfl, and_self]
  · have e := P_eq h (.str s) (.str s) (eqO_str hs hs)
    simp only [d_law_same, wv_var, wv_cst, wv_glo, wv_pr, ws_nil, ws_cons, wv_and, wv_or, wv_not, wv_ite, wv_chain, wv_tup, wv_lst, wv_call, wv_callP, wv_comp, wv_fld, wv_lm, wv_meth, wv_lenI, wI_of, wC_yes, wC_test, wg_nm, wg_tupT, wgs_nil, wgs_cons, wS_asg, wS_ex, wS_ret, wS_iff, wS_for, wS_whl, wSs_nil, wSs_cons, w_bl, wpO_ok, wpO_bind, wpO_calm, List.map_cons, List.map_nil, List.cons_append, List.nil_append, List.getElem?_cons_zero, List.getElem?_cons_succ, List.set_cons_zero, List.set_cons_succ, List.length_cons, List.length_nil, List.replicate, Nat.reduceSub, Nat.reduceAdd, ii_non0, ii_non1, ii_non3, ii_non4, it_non3, it_non0, ii_bl0, ii_bl1, ii_bl3, ii_bl4, it_bl3, it_bl0, ii_int0, ii_int1, ii_int3, ii_int4, it_int3, it_int0, ii_str0, ii_str1, ii_str3, ii_str4, it_str3, it_str0, ii_tup0, ii_tup1, ii_tup3, ii_tup4, it_tup3, it_tup0, P_neB, P_eqB, if_true, if_false, decide_true, decide_false, Bool.not_true, Bool.not_false, Bool.false_eq_true, show evP .isN [D.str s] h = .ok (.bl false) h from rfl, e, and_self]
/-- item by item -/
theorem same_all {k : Nat} {l l' : List D} {h : Mem} {a b : D} {c : Cl} (hc : c.cal = run T (n + 2)) (r0 : Env) (hr : ∀ x, ((r0.set 2 (some x))[0]? = some (some a) ∧ (r0.set 2 (some x))[1]? = some (some b)) ∧ (r0.set 2 (some x))[2]? = some (some x)) (al : All2 (Sm h k) l l') (hl : l.length ≤ 1000)
    (ia : ∀ h', h <+: h' → ∀ j (hj : j < l.length), evP .ix [a, .int (j : Int)] h' = .ok l[j] h') (ib : ∀ h', h <+: h' → ∀ j (hj : j < l'.length), evP .ix [b, .int (j : Int)] h' = .ok l'[j] h')
    (rec_ : ∀ x y h', Sm h' k x y → wpO (run T (n + 2) 204 [x, y] h') fun v h2 => v = .bl true ∧ h' <+: h2) :
    wpO (cmpL (fun d r h => cTarget [2] true d r h) (fun r h => (evC c .yes r h).calm) (fun r h => (ev c (.call 204 (.cons (.pr .ix (.cons (.var 0) (.cons (.var 2) .nil))) (.cons (.pr .ix (.cons (.var 1) (.cons (.var 2) .nil))) .nil))) r h).calm) ⟨rngD 0 l'.length, []⟩ h.length r0 (rngD 0 l'.length) (h ++ [.lst []]))
      fun d h' => wpO (evP .all [d] h') fun v h2 => v = .bl true ∧ h <+: h2 := by
  have le := al.length
  refine wpO.mono (cmp_pre (fun _ => .bl true) (fun _ => true) (rngD 0 l'.length) (fun g hg => by cases hg) (by rw [rng_len, sizeLine_eq]; omega) fun x hx h1 p1 => ?_) fun d h1 ⟨e1, p1, q⟩ => ?_
  · obtain ⟨j, rfl, hj⟩ := rng_mem hx
    obtain ⟨⟨g0, g1⟩, g2⟩ := hr (.int j)
    simp only [cTarget, wv_var, wv_cst, wv_glo, wv_pr, ws_nil, ws_cons, wv_and, wv_or, wv_not, wv_ite, wv_chain, wv_tup, wv_lst, wv_call, wv_callP, wv_comp, wv_fld, wv_lm, wv_meth, wv_lenI, wI_of, wC_yes, wC_test, wg_nm, wg_tupT, wgs_nil, wgs_cons, wS_asg, wS_ex, wS_ret, wS_iff, wS_for, wS_whl, wSs_nil, wSs_cons, w_bl, wpO_ok, wpO_bind, wpO_calm, List.map_cons, List.map_nil, List.cons_append, List.nil_append, List.getElem?_cons_zero, List.getElem?_cons_succ, List.set_cons_zero, List.set_cons_succ, List.length_cons, List.length_nil, List.replicate, Nat.reduceSub, Nat.reduceAdd, hc, true_and]
    refine ⟨List.prefix_refl _, fun _ => ?_⟩
    try simp only [wv_var, wv_cst, wv_glo, wv_pr, ws_nil, ws_cons, wv_and, wv_or, wv_not, wv_ite, wv_chain, wv_tup, wv_lst, wv_call, wv_callP, wv_comp, wv_fld, wv_lm, wv_meth, wv_lenI, wI_of, wC_yes, wC_test, wg_nm, wg_tupT, wgs_nil, wgs_cons, wS_asg, wS_ex, wS_ret, wS_iff, wS_for, wS_whl, wSs_nil, wSs_cons, w_bl, wpO_ok, wpO_bind, wpO_calm, List.map_cons, List.map_nil, List.cons_append, List.nil_append, List.getElem?_cons_zero, List.getElem?_cons_succ, List.set_cons_zero, List.set_cons_succ, List.length_cons, List.length_nil, List.replicate, Nat.reduceSub, Nat.reduceAdd, g0, g1, g2, ia h1 p1 j (by omega), ib h1 p1 j hj]
    exact wpO.mono (rec_ _ _ h1 (Sm.pre p1 (al.get j (by omega) hj))) fun v h2 ⟨e, p⟩ => ⟨p, e⟩
  · subst e1
    rw [fil_true] at q
    rw [P_all (rd_at q)]
    exact ⟨by simp, p1⟩
theorem p_same : ∀ (k n : Nat) {a b : D} {h : Mem}, Sm h k a b → wpO (run T (n + k + 2) 204 [a, b] h) fun v h' => v = .bl true ∧ h <+: h'
  | 0, n, a, b, h, ⟨e, at_⟩ => by
    subst e
    exact wpO.mono (same_atom _ at_) fun v h' ⟨e1, e2⟩ => ⟨e1, by rw [e2]; exact List.prefix_refl _⟩
  | k + 1, n, a, b, h, .inl ⟨e, at_⟩ => by
    subst e
    exact wpO.mono (same_atom _ at_) fun v h' ⟨e1, e2⟩ => ⟨e1, by rw [e2]; exact List.prefix_refl _⟩
  | k + 1, n, a, b, h, .inr (.inl ⟨l, l', e1, e2, hl, al⟩) => by
    subst e1 e2
    have le := al.length
    refine wpO_run T204 rfl ?_
    simp only [d_law_same, wv_var, wv_cst, wv_glo, wv_pr, ws_nil, ws_cons, wv_and, wv_or, wv_not, wv_ite, wv_chain, wv_tup, wv_lst, wv_call, wv_callP, wv_comp, wv_fld, wv_lm, wv_meth, wv_lenI, wI_of, wC_yes, wC_test, wg_nm, wg_tupT, wgs_nil, wgs_cons, wS_asg, wS_ex, wS_ret, wS_iff, wS_for, wS_whl, wSs_nil, wSs_cons, w_bl, wpO_ok, wpO_bind, wpO_calm, List.map_cons, List.map_nil, List.cons_append, List.nil_append, List.getElem?_cons_zero, List.getElem?_cons_succ, List.set_cons_zero, List.set_cons_succ, List.length_cons, List.length_nil, List.replicate, Nat.reduceSub, Nat.reduceAdd, ii_non0, ii_non1, ii_non3, ii_non4, it_non3, it_non0, ii_bl0, ii_bl1, ii_bl3, ii_bl4, it_bl3, it_bl0, ii_int0, ii_int1, ii_int3, ii_int4, it_int3, it_int0, ii_str0, ii_str1, ii_str3, ii_str4, it_str3, it_str0, ii_tup0, ii_tup1, ii_tup3, ii_tup4, it_tup3, it_tup0, P_neB, P_lenT, P_neI, if_true, if_false, decide_true, Bool.not_true, Bool.false_eq_true, le, wI_rg]
    rw [if_pos (by omega)]
    exact same_all (n + k) rfl _ (fun x => ⟨⟨rfl, rfl⟩, rfl⟩) al hl (fun h' _ j hj => by rw [P_ixT, atI_nat _ j hj]) (fun h' _ j hj => by rw [P_ixT, atI_nat _ j hj]) fun x y h' s => p_same k n s
  | k + 1, n, a, b, h, .inr (.inr ⟨i, j, l, l', e1, e2, r1, r2, hl, al⟩) => by
    subst e1 e2
    have le := al.length
    refine wpO_run T204 rfl ?_
    simp only [d_law_same, wv_var, wv_cst, wv_glo, wv_pr, ws_nil, ws_cons, wv_and, wv_or, wv_not, wv_ite, wv_chain, wv_tup, wv_lst, wv_call, wv_callP, wv_comp, wv_fld, wv_lm, wv_meth, wv_lenI, wI_of, wC_yes, wC_test, wg_nm, wg_tupT, wgs_nil, wgs_cons, wS_asg, wS_ex, wS_ret, wS_iff, wS_for, wS_whl, wSs_nil, wSs_cons, w_bl, wpO_ok, wpO_bind, wpO_calm, List.map_cons, List.map_nil, List.cons_append, List.nil_append, List.getElem?_cons_zero, List.getElem?_cons_succ, List.set_cons_zero, List.set_cons_succ, List.length_cons, List.length_nil, List.replicate, Nat.reduceSub, Nat.reduceAdd, ii_ref3 (at_rd r1), ii_ref3 (at_rd r2), ii_ref4 (at_rd r1), ii_ref4 (at_rd r2), it_ref3 (at_rd r2), at_rd r1, at_rd r2, P_lenR r1, P_lenR r2, P_neB, P_neI, if_true, if_false, decide_true, Bool.not_true, Bool.false_eq_true, le, wI_rg]
    rw [if_pos (by omega)]
    exact same_all (n + k) rfl _ (fun x => ⟨⟨rfl, rfl⟩, rfl⟩) al hl (fun h' p j hj => P_ixR (pre_rd p r1) hj) (fun h' p j hj => P_ixR (pre_rd p r2) hj) fun x y h' s => p_same k n s
end RG.K

end

section
/-! La: segments by their list; words compared. -/
namespace RG.K
open PySem L2 RG RG.M
theorem in_tup {h : Mem} {l : List D} : evP .isN [(.tup l)] h = .ok (.bl false) h := rfl
theorem nn_tup {h : Mem} {l : List D} : evP .notN [(.tup l)] h = .ok (.bl true) h := rfl
theorem in_non {h : Mem} : evP .isN [.non] h = .ok (.bl true) h := rfl
theorem nn_non {h : Mem} : evP .notN [.non] h = .ok (.bl false) h := rfl
theorem in_str {h : Mem} {l : List Nat} : evP .isN [(.str l)] h = .ok (.bl false) h := rfl
theorem nn_str {h : Mem} {l : List Nat} : evP .notN [(.str l)] h = .ok (.bl true) h := rfl
theorem in_ref {h : Mem} {i : Nat} : evP .isN [(.ref i)] h = .ok (.bl false) h := rfl
theorem nn_ref {h : Mem} {i : Nat} : evP .notN [(.ref i)] h = .ok (.bl true) h := rfl
theorem in_int {h : Mem} {i : Int} : evP .isN [(.int i)] h = .ok (.bl false) h := rfl
theorem nn_int {h : Mem} {i : Int} : evP .notN [(.int i)] h = .ok (.bl true) h := rfl
section
variable {h0 h : Mem} {si : Nat} {m : Mc}
/-- the segments -/
structure SR (h0 : Mem) (si : Nat) (m : Mc) : Prop where
  at_ : rd h0 si = some (m.segs.map Sg.d)
theorem SR.ix {k : Int} (r : SR h0 si m) (p : h0 <+: h) (h1 : 0 ≤ k) (h2 : k < m.segs.length) : evP .ix [.ref si, .int k] h = .ok (m.sg k).d h := by
  have hk : k.toNat < (m.segs.map Sg.d).length := by rw [List.length_map]; omega
  have e := P_ixR (pre_rd p r.at_) hk
  have e1 : ((k.toNat : Nat) : Int) = k := by omega
  rw [e1] at e
  rw [e]
  have h3 : k.toNat < m.segs.length := by omega
  unfold Mc.sg
  simp [h3]
theorem eqS {a b : List Nat} (ha : SeqAt.shaped (.str ⟨a.toArray⟩) = true) (hb : SeqAt.shaped (.str ⟨b.toArray⟩) = true) : evP .eq [.str a, .str b] h = .ok (.bl (decide (a = b))) h := P_eq _ _ _ (eqO_str ha hb)
theorem w_shaped (r : Rw) : SeqAt.shaped (.str ⟨(Rw.w r).toArray⟩) = true := by cases r <;> (simp only [Rw.w]; decide +kernel)
theorem eqW (r : Rw) {b : List Nat} (hb : SeqAt.shaped (.str ⟨b.toArray⟩) = true) : evP .eq [.str (Rw.w r), .str b] h = .ok (.bl (decide (Rw.w r = b))) h := eqS (w_shaped r) hb
end
end RG.K

end

section
/-! Lm1: what the laws of decks share: scenes made; stands alike. -/
namespace RG.K
open PySem L2 RG RG.M
section
variable {h : Mem} {m : Mc} (n : Nat)
theorem wd_seg {many base : Int} {w : Wd} (o : w.Ok many base) : WordOk many base w.d := by
  cases w with
  | num v => exact .inl ⟨v, rfl, o.1, o.2⟩
  | ptr r s p => exact .inr ⟨r, s, p, rfl, o.1.1, o.1.2, o.2.1.1, o.2.1.2, o.2.2⟩
theorem sg_seg {many base : Int} {s : Sg} (o : s.Ok many base) : SegOk many base s.d := by
  refine ⟨s.a, s.b, s.c, s.rt, s.g, s.ws.map Wd.d, s.rs.map Rw.d, rfl, o.br, o.rt, ⟨o.g.1, by rw [List.length_map]; exact o.g.2⟩, by rw [List.length_map]; exact o.wl, by rw [List.length_map]; exact o.rl, fun w hw => ?_, fun r hr => ?_⟩
  · obtain ⟨x, hx, rfl⟩ := List.mem_map.mp hw; exact wd_seg (o.ws x hx)
  · obtain ⟨x, hx, rfl⟩ := List.mem_map.mp hr; exact row_ok (o.rs x hx)
theorem P_listR {i : Nat} {l : List D} (e : rd h i = some l) : evP .toList [.ref i] h = .ok (.ref h.length) (h ++ [.lst l]) := by
  have : evP .toList [.ref i] h = (match rd h i with | some l => new (.lst l) h | none => .stuck) := rfl
  rw [this, e]
  rfl
theorem Ti0 : Tab.init T 0 = some 5 := rfl
theorem Sm.at {k : Nat} {d : D} (a : Atom d) : Sm h k d d := by
  cases k with
  | zero => exact ⟨rfl, a⟩
  | succ k => exact .inl ⟨rfl, a⟩
theorem All2.self {R : D → D → Prop} : ∀ {l : List D}, (∀ x ∈ l, R x x) → All2 R l l
  | [], _ => .nil
  | x :: l, k => .cons (k x List.mem_cons_self) (All2.self fun y hy => k y (List.mem_cons_of_mem _ hy))
theorem Sm.tup {k : Nat} {l : List D} (hl : l.length ≤ 1000) (a : ∀ x ∈ l, Sm h k x x) : Sm h (k + 1) (.tup l) (.tup l) := .inr (.inl ⟨l, l, rfl, rfl, hl, All2.self a⟩)
theorem at_int (i : Int) : Atom (.int i) := .inr (.inr (.inl ⟨i, rfl⟩))
theorem at_non : Atom .non := .inl rfl
theorem at_str {s : List Nat} (e : SeqAt.shaped (.str ⟨s.toArray⟩) = true) : Atom (.str s) := .inr (.inr (.inr ⟨s, rfl, e⟩))
theorem at_ft (f : Ft) : Atom (.str f.s) := at_str (by cases f <;> decide +kernel)
theorem sm_wd {k : Nat} (w : Wd) : Sm h (k + 1) w.d w.d := by
  cases w with
  | num v =>
    refine Sm.tup (by simp) fun x hx => ?_
    simp only [List.mem_cons, List.not_mem_nil, or_false] at hx
    rcases hx with rfl | rfl
    · exact Sm.at (at_str (by decide +kernel))
    · exact Sm.at (at_int _)
  | ptr r s p =>
    refine Sm.tup (by simp) fun x hx => ?_
    simp only [List.mem_cons, List.not_mem_nil, or_false] at hx
    rcases hx with rfl | rfl | rfl | rfl
    · exact Sm.at (at_str (by decide +kernel))
    · exact Sm.at (at_int _)
    · exact Sm.at (at_int _)
    · exact Sm.at (at_int _)
theorem sm_pt {k : Nat} (p : Pt) : Sm h (k + 1) (ptD p) (ptD p) := by
  cases p with
  | none => exact Sm.at at_non
  | some x =>
    obtain ⟨r, s, p⟩ := x
    refine Sm.tup (by simp) fun x hx => ?_
    simp only [List.mem_cons, List.not_mem_nil, or_false] at hx
    rcases hx with rfl | rfl | rfl <;> exact Sm.at (at_int _)
theorem sm_sd {s : Sd} (ok : s.Ok m) (mo : m.Ok) : Sm h 4 s.d s.d := by
  have ml := ok.ml
  have pl := ok.pl
  have l8 := mo.len
  refine Sm.tup (by simp) fun x hx => ?_
  simp only [List.mem_cons, List.not_mem_nil, or_false] at hx
  rcases hx with rfl | rfl | rfl | rfl
  · exact Sm.at (at_int _)
  · exact Sm.at (at_int _)
  · refine Sm.tup (by rw [List.length_map]; omega) fun y hy => ?_
    obtain ⟨p, _, rfl⟩ := List.mem_map.mp hy
    exact sm_pt p
  · refine Sm.tup (by rw [List.length_map]; omega) fun y hy => ?_
    obtain ⟨ws, hws, rfl⟩ := List.mem_map.mp hy
    have wl := (ok.wl ws hws).1
    refine Sm.tup (by rw [List.length_map]; omega) fun z hz => ?_
    obtain ⟨w, _, rfl⟩ := List.mem_map.mp hz
    exact sm_wd w
theorem sm_told {k : Nat} (o : Option Ft) : Sm h (k + 1) (toldR o) (toldR o) := by
  cases o with
  | none =>
    refine Sm.tup (by simp) fun x hx => ?_
    rw [List.mem_singleton.mp hx]
    exact Sm.at (at_str (by decide +kernel))
  | some f =>
    refine Sm.tup (by simp) fun x hx => ?_
    simp only [List.mem_cons, List.not_mem_nil, or_false] at hx
    rcases hx with rfl | rfl
    · exact Sm.at (at_str (by decide +kernel))
    · exact Sm.at (at_ft f)
theorem sm_done {s : Sd} {o : Option Ft} (ok : s.Ok m) (mo : m.Ok) : Sm h 5 (.tup [s.d, toldR o]) (.tup [s.d, toldR o]) := by
  refine Sm.tup (by simp) fun x hx => ?_
  simp only [List.mem_cons, List.not_mem_nil, or_false] at hx
  rcases hx with rfl | rfl
  · exact sm_sd ok mo
  · exact sm_told _
/-- a machine that stands clear of the deck -/
structure MF (t g : Nat) (h : Mem) (mi : Nat) (m : Mc) : Prop where
  ex : ∃ k, h[mi]? = some (.ins 0 [(0, .ref k), (1, .int m.base)]) ∧ rd h k = some (m.segs.map Sg.d) ∧ mi ≠ t ∧ mi ≠ g ∧ k ≠ t ∧ k ≠ g
theorem MF.mr {t g mi : Nat} (f : MF t g h mi m) : MR h mi m := let ⟨k, a, b, _⟩ := f.ex; ⟨⟨k, a, b⟩⟩
theorem MF.fr {h' : Mem} {t g mi : Nat} (f : MF t g h mi m) (fr : Fr t g h h') : MF t g h' mi m := let ⟨k, a, b, c, d, e, i⟩ := f.ex; ⟨k, fr.at_ _ _ c d a, fr.rd e i b, c, d, e, i⟩
/-- a scene is made -/
theorem p_mach {s t g : Nat} (hs : rd h s = some (m.segs.map Sg.d)) (mo : m.Ok) (ht : t < h.length ∧ g < h.length) : wpO (run T (n + 6) 5 [.ref h.length, .ref s, .int m.base] (h ++ [.ins 0 []])) fun v h' => v = .non ∧ h <+: h' ∧ MF t g h' h.length m :=
  wpO.mono (p_initU n hs (by rw [List.length_map]; exact mo.len) mo.base (fun d hd => by
    obtain ⟨x, hx, rfl⟩ := List.mem_map.mp hd
    rw [List.length_map]
    exact sg_seg (mo.sg x hx))) fun v h' ⟨e, p, k, a, b, c⟩ => ⟨e, p, k, a, b, by omega, by omega, by omega, by omega⟩
theorem P_slT2 (x y : D) (l : List D) : evP .slHi [.tup (x :: y :: l), .int 2] h = .ok (.tup [x, y]) h := by
  show slc (.tup (x :: y :: l)) none (some 2) h = _
  simp [slc, cut, HT.sIx]
end
end RG.K

end

section
/-! Lm2: alike, kinds too, is equal; what is told, compared. -/
namespace RG.K
open PySem L2 RG RG.M
theorem atom_pd {h : Mem} {d : D} (a : Atom d) : ∃ p, PD h d p ∧ p.canLay0 = true ∧ p.depth ≤ 0 := by
  rcases a with rfl | ⟨b, rfl⟩ | ⟨i, rfl⟩ | ⟨s, rfl, hs⟩
  · exact ⟨_, .non, rfl, Nat.le_refl _⟩
  · exact ⟨_, .bl b, rfl, Nat.le_refl _⟩
  · exact ⟨_, .int i, rfl, Nat.le_refl _⟩
  · unfold SeqAt.shaped at hs
    rw [Bool.and_eq_true] at hs
    exact ⟨_, .str s, hs.1, Nat.le_refl _⟩
theorem Sm.pd {h : Mem} : ∀ {k : Nat} {a b : D}, Sm h k a b → ∃ p, PD h a p ∧ PD h b p ∧ p.canLay0 = true ∧ p.depth ≤ k := by
  intro k
  induction k with
  | zero =>
    rintro a b ⟨rfl, x⟩
    obtain ⟨p, h1, h2, h3⟩ := atom_pd (h := h) x
    exact ⟨p, h1, h1, h2, h3⟩
  | succ k ih =>
    have lst : ∀ {l m : List D}, All2 (Sm h k) l m → ∃ ps, PDs h l ps ∧ PDs h m ps ∧ PyData.canLayAll0 ps = true ∧ PyData.depthAll ps ≤ k := by
      intro l m x
      induction x with
      | nil => exact ⟨[], .nil, .nil, rfl, Nat.zero_le _⟩
      | cons r t iht =>
        obtain ⟨p, h1, h2, h3, h4⟩ := ih r
        obtain ⟨ps, g1, g2, g3, g4⟩ := iht
        refine ⟨p :: ps, .cons h1 g1, .cons h2 g2, ?_, ?_⟩
        · show (PyData.canLay0 p && PyData.canLayAll0 ps) = true
          rw [h3, g3]; rfl
        · show max p.depth (PyData.depthAll ps) ≤ k
          exact Nat.max_le.mpr ⟨h4, g4⟩
    intro a b x
    rcases x with ⟨rfl, x⟩ | ⟨l, m, rfl, rfl, hl, x⟩ | ⟨i, j, l, m, rfl, rfl, e1, e2, hl, x⟩
    · obtain ⟨p, h1, h2, h3⟩ := atom_pd (h := h) x
      exact ⟨p, h1, h1, h2, Nat.le_trans h3 (Nat.zero_le _)⟩
    · obtain ⟨ps, g1, g2, g3, g4⟩ := lst x
      exact ⟨.tuple ps, .tup g1, .tup g2, g3, Nat.succ_le_succ g4⟩
    · obtain ⟨ps, g1, g2, g3, g4⟩ := lst x
      exact ⟨.list ps, .lst e1 g1, .lst e2 g2, g3, Nat.succ_le_succ g4⟩
theorem eqO_sm {h : Mem} {k : Nat} {a b : D} (hk : k < 60) (x : Sm h k a b) : eqO h a b = some true := by
  obtain ⟨p, h1, h2, h3, h4⟩ := x.pd
  have sh : SeqAt.shaped p = true := by
    unfold SeqAt.shaped
    rw [h3]
    show (true && decide (p.depth ≤ 64)) = true
    simp; omega
  rw [eqO_val h1 h2 sh sh, eqv_refl p h3]
theorem told_long {h : Mem} (o : Option Ft) : eqO h (toldR o) (.tup [.str [102, 97, 117, 108, 116], .str [108, 111, 110, 103]]) = some (decide (o = some .long)) := by
  cases o with
  | none =>
    rw [show toldR none = .tup [.str [100, 111, 110, 101]] from rfl, eqO_val (.tup (.cons (.str _) .nil)) (.tup (.cons (.str _) (.cons (.str _) .nil))) (by decide +kernel) (by decide +kernel)]
    decide +kernel
  | some f =>
    rw [show toldR (some f) = .tup [.str [102, 97, 117, 108, 116], .str f.s] from rfl, eqO_val (.tup (.cons (.str _) (.cons (.str _) .nil))) (.tup (.cons (.str _) (.cons (.str _) .nil))) (by cases f <;> decide +kernel) (by decide +kernel)]
    cases f <;> decide +kernel
end RG.K

end

section
/-! Pe: things written as trees; == and in by the things themselves. -/
namespace RG.K
open PySem L2 RG RG.M
/-- f writes things as trees of depth k at most; == of trees is = of things -/
def Pe {α : Type} [DecidableEq α] (f : α → D) (k : Nat) : Prop := ∃ p : α → PyData, (∀ h x, PD h (f x) (p x)) ∧ (∀ x, (p x).canLay0 = true) ∧ (∀ x, (p x).depth ≤ k) ∧ ∀ x y, PyData.eqv (p x) (p y) = decide (x = y)
section
variable {α β γ δ : Type} [DecidableEq α] [DecidableEq β] [DecidableEq γ] [DecidableEq δ] {f : α → D} {g : β → D} {k j : Nat} {h : Mem}
def sPd (s : List Nat) : PyData := .str ⟨s.toArray⟩
theorem sPd_eqv (s t : List Nat) : PyData.eqv (sPd s) (sPd t) = decide (s = t) := by
  show ((⟨s.toArray⟩ : Str) == ⟨t.toArray⟩) = _
  by_cases c : s = t
  · subst c; simp
  · rw [decide_eq_false c]
    exact beq_eq_false_iff_ne.mpr fun z => c (by have := congrArg Str.cps z; simpa using this)
theorem Pe.le (e : Pe f k) (hk : k ≤ j) : Pe f j := let ⟨p, a, b, c, d⟩ := e; ⟨p, a, b, fun x => Nat.le_trans (c x) hk, d⟩
theorem Pe.int : Pe D.int 0 := ⟨.int, fun _ x => .int x, fun _ => rfl, fun _ => Nat.le_refl _, fun x y => by
  show (x == y) = _
  by_cases c : x = y
  · subst c; simp
  · rw [decide_eq_false c]; exact beq_eq_false_iff_ne.mpr c⟩
theorem Pe.bl : Pe D.bl 0 := ⟨.bool, fun _ x => .bl x, fun _ => rfl, fun _ => Nat.le_refl _, fun x y => by cases x <;> cases y <;> rfl⟩
theorem Pe.congr {f' : α → D} (e : Pe f k) (q : ∀ x, f' x = f x) : Pe f' k := by
  have : f' = f := funext q
  rw [this]; exact e
/-- by another name, one to one -/
theorem Pe.comap (e : Pe f k) (u : β → α) (inj : ∀ x y, u x = u y → x = y) : Pe (fun x => f (u x)) k := by
  obtain ⟨p, a, b, c, d⟩ := e
  refine ⟨fun x => p (u x), fun h x => a h (u x), fun x => b (u x), fun x => c (u x), fun x y => ?_⟩
  rw [d]
  by_cases q : x = y
  · subst q; simp
  · rw [decide_eq_false q, decide_eq_false fun z => q (inj _ _ z)]
theorem Pe.tup (e : Pe f k) : Pe (fun l : List α => .tup (l.map f)) (k + 1) := by
  obtain ⟨p, a, b, c, d⟩ := e
  refine ⟨fun l => .tuple (l.map p), fun h l => .tup (PDs.map (a h) l), fun l => lay_map b l, fun l => ?_, fun x y => eqvAll_map d x y⟩
  show PyData.depthAll (l.map p) + 1 ≤ k + 1
  have := dep_map c l
  omega
/-- a word ahead, ints behind -/
theorem Pe.word {w : α → List Nat} {n : α → List Int} (sh : ∀ x, (sPd (w x)).canLay0 = true) (inj : ∀ x y, w x = w y → n x = n y → x = y) : Pe (fun x => .tup (.str (w x) :: (n x).map .int)) 1 := by
  obtain ⟨p, a, b, c, d⟩ := Pe.int
  refine ⟨fun x => .tuple (sPd (w x) :: (n x).map p), fun h x => .tup (.cons (.str _) (PDs.map (a h) _)), fun x => ?_, fun x => ?_, fun x y => ?_⟩
  · show (PyData.canLay0 (sPd (w x)) && PyData.canLayAll0 ((n x).map p)) = true
    rw [sh, lay_map b]; rfl
  · show max (PyData.depth (sPd (w x))) (PyData.depthAll ((n x).map p)) + 1 ≤ 1
    have h1 : PyData.depth (sPd (w x)) = 0 := rfl
    have := dep_map c (n x)
    omega
  · show (PyData.eqv (sPd (w x)) (sPd (w y)) && PyData.eqvAll ((n x).map p) ((n y).map p)) = _
    rw [sPd_eqv, eqvAll_map d]
    by_cases q : x = y
    · subst q; simp
    · rw [decide_eq_false q]
      by_cases c1 : w x = w y
      · have c2 : n x ≠ n y := fun z => q (inj _ _ c1 z)
        simp [c1, c2]
      · simp [c1]
theorem Pe.pair (e : Pe f k) (e2 : Pe g k) : Pe (fun x : α × β => .tup [f x.1, g x.2]) (k + 1) := by
  obtain ⟨p, a, b, c, d⟩ := e
  obtain ⟨p2, a2, b2, c2, d2⟩ := e2
  refine ⟨fun x => .tuple [p x.1, p2 x.2], fun h x => .tup (.cons (a h _) (.cons (a2 h _) .nil)), fun x => ?_, fun x => ?_, fun x y => ?_⟩
  · show (PyData.canLay0 (p x.1) && (PyData.canLay0 (p2 x.2) && true)) = true
    rw [b, b2]; rfl
  · show max (PyData.depth (p x.1)) (max (PyData.depth (p2 x.2)) 0) + 1 ≤ k + 1
    have := c x.1
    have := c2 x.2
    omega
  · show (PyData.eqv (p x.1) (p y.1) && (PyData.eqv (p2 x.2) (p2 y.2) && true)) = _
    rw [d, d2]
    obtain ⟨x1, x2⟩ := x
    obtain ⟨y1, y2⟩ := y
    by_cases q1 : x1 = y1 <;> by_cases q2 : x2 = y2 <;> simp [q1, q2]
theorem Pe.trip {f3 : γ → D} (e : Pe f k) (e2 : Pe g k) (e3 : Pe f3 k) : Pe (fun x : α × β × γ => .tup [f x.1, g x.2.1, f3 x.2.2]) (k + 1) := by
  obtain ⟨p, a, b, c, d⟩ := e
  obtain ⟨p2, a2, b2, c2, d2⟩ := e2
  obtain ⟨p3, a3, b3, c3, d3⟩ := e3
  refine ⟨fun x => .tuple [p x.1, p2 x.2.1, p3 x.2.2], fun h x => .tup (.cons (a h _) (.cons (a2 h _) (.cons (a3 h _) .nil))), fun x => ?_, fun x => ?_, fun x y => ?_⟩
  · show (PyData.canLay0 (p x.1) && (PyData.canLay0 (p2 x.2.1) && (PyData.canLay0 (p3 x.2.2) && true))) = true
    rw [b, b2, b3]; rfl
  · show max (PyData.depth (p x.1)) (max (PyData.depth (p2 x.2.1)) (max (PyData.depth (p3 x.2.2)) 0)) + 1 ≤ k + 1
    have := c x.1
    have := c2 x.2.1
    have := c3 x.2.2
    omega
  · show (PyData.eqv (p x.1) (p y.1) && (PyData.eqv (p2 x.2.1) (p2 y.2.1) && (PyData.eqv (p3 x.2.2) (p3 y.2.2) && true))) = _
    rw [d, d2, d3]
    obtain ⟨x1, x2, x3⟩ := x
    obtain ⟨y1, y2, y3⟩ := y
    by_cases q1 : x1 = y1 <;> by_cases q2 : x2 = y2 <;> by_cases q3 : x3 = y3 <;> simp [q1, q2, q3]
theorem Pe.quad {f3 : γ → D} {f4 : δ → D} (e : Pe f k) (e2 : Pe g k) (e3 : Pe f3 k) (e4 : Pe f4 k) : Pe (fun x : α × β × γ × δ => .tup [f x.1, g x.2.1, f3 x.2.2.1, f4 x.2.2.2]) (k + 1) := by
  obtain ⟨p, a, b, c, d⟩ := e
  obtain ⟨p2, a2, b2, c2, d2⟩ := e2
  obtain ⟨p3, a3, b3, c3, d3⟩ := e3
  obtain ⟨p4, a4, b4, c4, d4⟩ := e4
  refine ⟨fun x => .tuple [p x.1, p2 x.2.1, p3 x.2.2.1, p4 x.2.2.2], fun h x => .tup (.cons (a h _) (.cons (a2 h _) (.cons (a3 h _) (.cons (a4 h _) .nil)))), fun x => ?_, fun x => ?_, fun x y => ?_⟩
  · show (PyData.canLay0 (p x.1) && (PyData.canLay0 (p2 x.2.1) && (PyData.canLay0 (p3 x.2.2.1) && (PyData.canLay0 (p4 x.2.2.2) && true)))) = true
    rw [b, b2, b3, b4]; rfl
  · show max (PyData.depth (p x.1)) (max (PyData.depth (p2 x.2.1)) (max (PyData.depth (p3 x.2.2.1)) (max (PyData.depth (p4 x.2.2.2)) 0))) + 1 ≤ k + 1
    have := c x.1
    have := c2 x.2.1
    have := c3 x.2.2.1
    have := c4 x.2.2.2
    omega
  · show (PyData.eqv (p x.1) (p y.1) && (PyData.eqv (p2 x.2.1) (p2 y.2.1) && (PyData.eqv (p3 x.2.2.1) (p3 y.2.2.1) && (PyData.eqv (p4 x.2.2.2) (p4 y.2.2.2) && true)))) = _
    rw [d, d2, d3, d4]
    obtain ⟨x1, x2, x3, x4⟩ := x
    obtain ⟨y1, y2, y3, y4⟩ := y
    by_cases q1 : x1 = y1 <;> by_cases q2 : x2 = y2 <;> by_cases q3 : x3 = y3 <;> by_cases q4 : x4 = y4 <;> simp [q1, q2, q3, q4]
/-- None, or a tuple -/
theorem Pe.opt {l : α → List D} (e : Pe (fun x => .tup (l x)) k) : Pe (fun x : Option α => match x with | none => D.non | some y => .tup (l y)) k := by
  obtain ⟨p, a, b, c, d⟩ := e
  have ft : ∀ x, ∃ q, p x = .tuple q := fun x => by
    have := a [] x
    cases hp : p x with
    | tuple q => exact ⟨q, rfl⟩
    | _ => rw [hp] at this; cases this
  refine ⟨fun x => match x with | none => .none | some y => p y, fun h x => ?_, fun x => ?_, fun x => ?_, fun x y => ?_⟩
  · cases x with
    | none => exact .non
    | some y => exact a h y
  · cases x with
    | none => rfl
    | some y => exact b y
  · cases x with
    | none => exact Nat.zero_le _
    | some y => exact c y
  · cases x with
    | none =>
      cases y with
      | none => rfl
      | some y =>
        obtain ⟨q, hq⟩ := ft y
        show PyData.eqv .none (p y) = _
        rw [hq]; rfl
    | some x =>
      cases y with
      | none =>
        obtain ⟨q, hq⟩ := ft x
        show PyData.eqv (p x) .none = _
        rw [hq]; rfl
      | some y =>
        show PyData.eqv (p x) (p y) = _
        rw [d]
        by_cases q : x = y
        · subst q; simp
        · rw [decide_eq_false q, decide_eq_false fun z => q (Option.some.inj z)]
/-- words that may stand in a text -/
theorem Pe.strs {w : α → List Nat} (sh : ∀ x, (sPd (w x)).canLay0 = true) (inj : ∀ x y, w x = w y → x = y) : Pe (fun x => .str (w x)) 0 := by
  refine ⟨fun x => sPd (w x), fun h x => .str _, sh, fun _ => Nat.le_refl _, fun x y => ?_⟩
  rw [sPd_eqv]
  by_cases q : x = y
  · subst q; simp
  · rw [decide_eq_false q, decide_eq_false fun z => q (inj _ _ z)]
theorem sh_of {p : PyData} {k : Nat} (h1 : p.canLay0 = true) (h2 : p.depth ≤ k) (hk : k ≤ 64) : SeqAt.shaped p = true := by
  unfold SeqAt.shaped
  rw [h1]
  have : p.depth ≤ 64 := Nat.le_trans h2 hk
  simp [this]
/-- == -/
theorem Pe.eqO (e : Pe f k) (hk : k ≤ 60) (x y : α) : eqO h (f x) (f y) = some (decide (x = y)) := by
  obtain ⟨p, a, b, c, d⟩ := e
  rw [eqO_val (a h x) (a h y) (sh_of (b x) (c x) (by omega)) (sh_of (b y) (c y) (by omega)), d]
/-- == of lists -/
theorem Pe.eqL (e : Pe f k) (hk : k ≤ 60) {i j : Nat} {l m : List α} (h1 : rd h i = some (l.map f)) (h2 : rd h j = some (m.map f)) : RG.eqO h (.ref i) (.ref j) = some (decide (l = m)) := by
  obtain ⟨p, a, b, c, d⟩ := e
  rw [eqO_val (.lst h1 (PDs.map (a h) l)) (.lst h2 (PDs.map (a h) m)) (shaped_list (m := k) (by omega) b c l) (shaped_list (m := k) (by omega) b c m)]
  show some (PyData.eqvAll _ _) = _
  rw [eqvAll_map d]
/-- == of a list and of none -/
theorem Pe.eqN (e : Pe f k) (hk : k ≤ 60) {i j : Nat} {l : List α} (h1 : rd h i = some (l.map f)) (h2 : rd h j = some []) : RG.eqO h (.ref i) (.ref j) = some (decide (l = [])) := e.eqL hk h1 (m := []) h2
/-- x in a list -/
theorem Pe.inO (e : Pe f k) (hk : k ≤ 60) {i : Nat} {l : List α} (x : α) (h1 : rd h i = some (l.map f)) : RG.inO h (f x) (.ref i) = some (decide (x ∈ l)) := by
  obtain ⟨p, a, b, c, d⟩ := e
  rw [inO_val (a h x) (.lst h1 (PDs.map (a h) l)) (sh_of (b x) (c x) (by omega)) (shaped_list (m := k) (by omega) b c l)]
  congr 1
  rw [List.any_map]
  apply Bool.eq_iff_iff.mpr
  simp only [List.any_eq_true, Function.comp_apply, d, decide_eq_true_eq]
  exact ⟨fun ⟨y, hy, e⟩ => e ▸ hy, fun hx => ⟨x, hx, rfl⟩⟩
theorem in_ref_eq {x : D} {i : Nat} {l : List D} (h1 : rd h i = some l) : evP .inn [x, .ref i] h = (match RG.inO h x (.ref i) with | some r => .ok (.bl r) h | none => .stuck) := by
  have e := at_rd h1
  have : evP .inn [x, .ref i] h = (match h[i]? with
    | some (.dct kvs) => if isKey x then .ok (.bl (kget x kvs).isSome) h else .stuck
    | _ => match RG.inO h x (.ref i) with
      | some r => .ok (.bl r) h
      | none => .stuck) := by
    cases x with
    | str s =>
      cases s with
      | nil => rfl
      | cons c s => cases s <;> rfl
    | _ => rfl
  rw [this, e]
theorem nin_ref_eq {x : D} {i : Nat} {l : List D} (h1 : rd h i = some l) : evP .nin [x, .ref i] h = (match RG.inO h x (.ref i) with | some r => .ok (.bl (!r)) h | none => .stuck) := by
  have e := at_rd h1
  have : evP .nin [x, .ref i] h = (match h[i]? with
    | some (.dct kvs) => if isKey x then .ok (.bl (!(kget x kvs).isSome)) h else .stuck
    | _ => match RG.inO h x (.ref i) with
      | some r => .ok (.bl (!r)) h
      | none => .stuck) := by
    cases x with
    | str s =>
      cases s with
      | nil => rfl
      | cons c s => cases s <;> rfl
    | _ => rfl
  rw [this, e]
theorem Pe.nin (e : Pe f k) (hk : k ≤ 60) {i : Nat} {l : List α} (x : α) (h1 : rd h i = some (l.map f)) : evP .nin [f x, .ref i] h = .ok (.bl (!decide (x ∈ l))) h := by
  rw [nin_ref_eq h1, e.inO hk x h1]
theorem Pe.inn (e : Pe f k) (hk : k ≤ 60) {i : Nat} {l : List α} (x : α) (h1 : rd h i = some (l.map f)) : evP .inn [f x, .ref i] h = .ok (.bl (decide (x ∈ l))) h := by
  rw [in_ref_eq h1, e.inO hk x h1]
end
/-! the program's things -/
def Wd.w : Wd → List Nat
  | .num _ => tNum
  | .ptr _ _ _ => tPtr
def Wd.n : Wd → List Int
  | .num i => [i]
  | .ptr r s p => [r, s, p]
theorem pe_wd : Pe Wd.d 1 := by
  refine Pe.congr (Pe.word (w := Wd.w) (n := Wd.n) (fun x => by cases x <;> (simp only [Wd.w]; decide +kernel)) fun x y h1 h2 => ?_) fun x => by cases x <;> rfl
  cases x <;> cases y <;> simp only [Wd.w, Wd.n] at h1 h2
  · simpa using h2
  · simp at h2
  · simp at h2
  · simpa using h2
def Rw.ww : Rw → List Nat
  | .set _ => wSet | .add _ => wAdd | .load _ _ => wLoad | .store _ _ => wStore | .fetch _ _ _ => wFetch | .keep _ _ _ => wKeep | .aim _ _ _ => wAim | .move _ _ _ => wMove | .zero _ => wZero | .go _ => wGo | .call _ => wCall | .ret => wRet
def Rw.nn : Rw → List Int
  | .set n | .add n | .zero n | .go n | .call n => [n]
  | .load p n | .store p n => [p, n]
  | .fetch q p n | .keep q p n | .aim q p n | .move q p n => [q, p, n]
  | .ret => []
def Rw.dec (w : List Nat) (n : List Int) : Option Rw := match n with
  | [a] => if w = wSet then some (.set a) else if w = wAdd then some (.add a) else if w = wZero then some (.zero a) else if w = wGo then some (.go a) else some (.call a)
  | [a, b] => if w = wLoad then some (.load a b) else some (.store a b)
  | [a, b, c] => if w = wFetch then some (.fetch a b c) else if w = wKeep then some (.keep a b c) else if w = wAim then some (.aim a b c) else some (.move a b c)
  | _ => some .ret
theorem Rw.dec_eq (r : Rw) : Rw.dec (Rw.ww r) (Rw.nn r) = some r := by cases r <;> rfl
theorem pe_rw : Pe Rw.d 1 := by
  refine Pe.congr (Pe.word (w := Rw.ww) (n := Rw.nn) (fun x => by cases x <;> (simp only [Rw.ww]; decide +kernel)) fun x y h1 h2 => ?_) fun x => by cases x <;> rfl
  have e1 := Rw.dec_eq x
  have e2 := Rw.dec_eq y
  rw [h1, h2, e2] at e1
  exact (Option.some.inj e1).symm
theorem pe_pt : Pe ptD 1 := by
  refine Pe.congr (Pe.opt (α := Int × Int × Int) (l := fun x => [.int x.1, .int x.2.1, .int x.2.2]) (Pe.trip Pe.int Pe.int Pe.int)) fun x => ?_
  cases x with
  | none => rfl
  | some y => rfl
theorem pe_words : Pe wordsD 2 := Pe.tup pe_wd
set_option synthInstance.maxHeartbeats 400000 in
set_option synthInstance.maxSize 4000 in
theorem pe_sd : Pe Sd.d 4 := by
  have e := Pe.quad (k := 3) (Pe.int.le (by omega)) (Pe.int.le (by omega)) ((Pe.tup pe_pt).le (by omega)) (Pe.tup pe_words)
  exact Pe.congr (e.comap (fun s : Sd => (s.ring, s.num, s.ps, s.mem)) fun x y z => by cases x; cases y; simpa using z) fun x => rfl
theorem pe_ft : Pe (fun f : Ft => D.str f.s) 0 := Pe.strs (fun x => by cases x <;> decide +kernel) fun x y z => by cases x <;> cases y <;> first | rfl | (simp [Ft.s] at z)
def oFt : Option Ft → List (List Nat)
  | none => [[100, 111, 110, 101]]
  | some f => [[102, 97, 117, 108, 116], f.s]
theorem pe_step : Pe (fun x : Int × Int × Int × Int => .tup [.int x.1, .int x.2.1, .int x.2.2.1, .int x.2.2.2]) 1 := Pe.quad Pe.int Pe.int Pe.int Pe.int
theorem pe_ii : Pe (fun x : Int × Int => .tup [.int x.1, .int x.2]) 1 := Pe.pair Pe.int Pe.int
theorem pe_told : Pe toldR 1 := by
  have d1 : ∀ f : Ft, PyData.eqv (.tuple [sPd [100, 111, 110, 101]]) (.tuple [sPd [102, 97, 117, 108, 116], sPd f.s]) = false := fun f => by cases f <;> decide +kernel
  have d2 : ∀ f : Ft, PyData.eqv (.tuple [sPd [102, 97, 117, 108, 116], sPd f.s]) (.tuple [sPd [100, 111, 110, 101]]) = false := fun f => by cases f <;> decide +kernel
  obtain ⟨p, a, b, c, d⟩ := pe_ft
  refine ⟨fun o => match o with | none => .tuple [sPd [100, 111, 110, 101]] | some f => .tuple [sPd [102, 97, 117, 108, 116], sPd f.s], fun h o => ?_, fun o => ?_, fun o => ?_, fun x y => ?_⟩
  · cases o with
    | none => exact .tup (.cons (.str _) .nil)
    | some f => exact .tup (.cons (.str _) (.cons (.str _) .nil))
  · cases o with
    | none => decide +kernel
    | some f => cases f <;> decide +kernel
  · cases o with
    | none => exact Nat.le_refl _
    | some f => exact Nat.le_refl _
  · cases x with
    | none =>
      cases y with
      | none => decide +kernel
      | some f => exact d1 f
    | some f =>
      cases y with
      | none => exact d2 f
      | some g =>
        show (PyData.eqv (sPd [102, 97, 117, 108, 116]) (sPd [102, 97, 117, 108, 116]) && (PyData.eqv (sPd f.s) (sPd g.s) && true)) = _
        rw [sPd_eqv, sPd_eqv]
        by_cases q : f = g
        · subst q; simp
        · have : f.s ≠ g.s := fun z => q (by cases f <;> cases g <;> first | rfl | (simp [Ft.s] at z))
          simp [q, this]
end RG.K

end

section
/-! Ut: small things. -/
namespace RG.K
open PySem L2 RG RG.M
section
variable {h : Mem} {m : Mc} (n : Nat)
theorem P_slHR {i : Nat} {l : List D} (e : rd h i = some l) (k : Nat) : evP .slHi [.ref i, .int (k : Int)] h = .ok (.ref h.length) (h ++ [.lst (l.take k)]) := by
  show slc (.ref i) none (some (k : Int)) h = _
  simp only [slc, e, cut, HT.sIx]
  have : ¬ ((k : Int) < 0) := by omega
  simp [this, new]
theorem sm_row {k : Nat} (r : Rw) : Sm h (k + 1) r.d r.d := by
  cases r <;> (refine Sm.tup (by simp) fun x hx => ?_) <;> simp only [List.mem_cons, List.not_mem_nil, or_false] at hx
  all_goals first
    | (rcases hx with rfl | rfl | rfl | rfl <;> first | exact Sm.at (at_int _) | exact Sm.at (at_str (by decide +kernel)))
    | (rcases hx with rfl | rfl | rfl <;> first | exact Sm.at (at_int _) | exact Sm.at (at_str (by decide +kernel)))
    | (rcases hx with rfl | rfl <;> first | exact Sm.at (at_int _) | exact Sm.at (at_str (by decide +kernel)))
    | (subst hx; exact Sm.at (at_str (by decide +kernel)))
theorem sm_lst {α : Type} {k i j : Nat} {f : α → D} {l : List α} (hl : l.length ≤ 1000) (e1 : rd h i = some (l.map f)) (e2 : rd h j = some (l.map f)) (q : ∀ x ∈ l, Sm h k (f x) (f x)) : Sm h (k + 1) (.ref i) (.ref j) :=
  .inr (.inr ⟨i, j, _, _, rfl, rfl, e1, e2, by rw [List.length_map]; exact hl, All2.self fun d hd => by
    obtain ⟨x, hx, rfl⟩ := List.mem_map.mp hd
    exact q x hx⟩)
def dropS : Nat → Ss → Ss
  | 0, s => s
  | n + 1, .cons _ s => dropS n s
  | _, .nil => .nil
def bodyF : Ss → Ss
  | .cons (.foor _ _ b) _ => b
  | _ => .nil
theorem eqE {i j : Nat} (e1 : rd h i = some []) (e2 : rd h j = some []) : evP .eq [.ref i, .ref j] h = .ok (.bl true) h := P_eq _ _ _ (eqO_sm (k := 1) (by omega) (.inr (.inr ⟨i, j, [], [], rfl, rfl, e1, e2, by simp, .nil⟩)))
theorem neE {i j : Nat} (e1 : rd h i = some []) (e2 : rd h j = some []) : evP .ne [.ref i, .ref j] h = .ok (.bl false) h := P_ne _ _ _ (eqO_sm (k := 1) (by omega) (.inr (.inr ⟨i, j, [], [], rfl, rfl, e1, e2, by simp, .nil⟩)))
theorem sd_ix0 (s : Sd) : evP .ix [s.d, .int 0] h = .ok (.int s.ring) h := P_ixT0 ..
theorem sd_ix1 (s : Sd) : evP .ix [s.d, .int 1] h = .ok (.int s.num) h := P_ixT1 ..
theorem sd_ix2 (s : Sd) : evP .ix [s.d, .int 2] h = .ok (.tup (s.ps.map ptD)) h := P_ixT2 ..
theorem sd_ix3 (s : Sd) : evP .ix [s.d, .int 3] h = .ok (.tup (s.mem.map wordsD)) h := P_ixT3 ..
theorem done_ring {sd : Sd} {r : Rw} {most : Int} : (doneR m sd r most).1.ring = sd.ring := by
  unfold doneR
  dsimp only
  cases e : endR m (sd.wk most) r with
  | mk s' o => cases o <;> rfl
theorem eq_of_pe {α : Type} [DecidableEq α] {f : α → D} {k : Nat} (e : Pe f k) (hk : k ≤ 60) (x y : α) : evP .eq [f x, f y] h = .ok (.bl (decide (x = y))) h := P_eq _ _ _ (e.eqO hk x y)
theorem ne_of_pe {α : Type} [DecidableEq α] {f : α → D} {k : Nat} (e : Pe f k) (hk : k ≤ 60) (x y : α) : evP .ne [f x, f y] h = .ok (.bl (!decide (x = y))) h := P_ne _ _ _ (e.eqO hk x y)
theorem eqN_pe {α : Type} [DecidableEq α] {f : α → D} {k : Nat} (e : Pe f k) (hk : k ≤ 60) {i j : Nat} {l : List α} (h1 : rd h i = some (l.map f)) (h2 : rd h j = some []) : evP .eq [.ref i, .ref j] h = .ok (.bl (decide (l = []))) h := P_eq _ _ _ (e.eqN hk h1 h2)
theorem neN_pe {α : Type} [DecidableEq α] {f : α → D} {k : Nat} (e : Pe f k) (hk : k ≤ 60) {i j : Nat} {l : List α} (h1 : rd h i = some (l.map f)) (h2 : rd h j = some []) : evP .ne [.ref i, .ref j] h = .ok (.bl (!decide (l = []))) h := P_ne _ _ _ (e.eqN hk h1 h2)
/-- a comprehension over things that only grows the memory -/
theorem cmp_t {α : Type} (enc : α → D) (val : α → D) (keep : α → Bool) (xs : List α) {g : D → Env → Mem → Out Env} {c : Env → Mem → Out Bool} {f : Env → Mem → Out D} {s : Src} {h0 : Mem} {r0 : Env} {items : List D} (hi : items = xs.map enc) (hs : s.ok h0) (hz : xs.length ≤ sizeLine)
    (step : ∀ x ∈ xs, ∀ h, h0 <+: h → wpO (g (enc x) r0 h) fun r h1 => h1 = h ∧ wpO (c r h) fun k h2 => h <+: h2 ∧ k = keep x ∧ (k = true → wpO (f r h2) fun d h3 => h2 <+: h3 ∧ d = val x)) :
    wpO (cmpL g c f s h0.length r0 items (h0 ++ [.lst []])) fun d h => d = .ref h0.length ∧ h0 <+: h ∧ rd h h0.length = some ((xs.filter keep).map val) := by
  subst hi
  have key : ∀ (l done : List α) (h : Mem), done ++ l = xs → h0 <+: h → h[h0.length]? = some (.lst ((done.filter keep).map val)) → wpO (cmpL g c f s h0.length r0 (l.map enc) h) fun d h => d = .ref h0.length ∧ h0 <+: h ∧ h[h0.length]? = some (.lst ((xs.filter keep).map val)) := by
    intro l
    induction l with
    | nil =>
      intro done h e p q
      rw [List.map_nil]
      unfold cmpL
      rw [if_pos (pre_ok p hs)]
      rw [List.append_nil] at e
      subst e
      exact ⟨rfl, p, q⟩
    | cons x l ih =>
      intro done h e p q
      rw [List.map_cons]
      unfold cmpL
      rw [if_pos (pre_ok p hs), wpO_bind]
      have hx : x ∈ xs := by rw [← e]; simp
      refine wpO.mono (step x hx h p) fun r h1 ⟨e1, w⟩ => ?_
      subst e1
      rw [wpO_bind]
      refine wpO.mono w fun k h2 ⟨p2, ek, w⟩ => ?_
      cases k with
      | true =>
        rw [if_pos rfl, wpO_bind]
        refine wpO.mono (w rfl) fun d h3 ⟨p3, ed⟩ => ?_
        subst ed
        rw [pre_at p3 (pre_at p2 q)]
        dsimp only
        have hl : ((done.filter keep).map val).length < sizeLine := by
          rw [List.length_map]
          have := List.length_filter_le keep done
          have : done.length + (l.length + 1) = xs.length := by rw [← e]; simp
          omega
        rw [if_pos hl]
        refine ih (done ++ [x]) _ (by rw [← e]; simp) (pre_set (p.trans (p2.trans p3)) (Nat.le_refl _) _) ?_
        rw [set_at (pre_at p3 (pre_at p2 q))]
        rw [List.filter_append, List.map_append]
        simp [← ek]
      | false =>
        rw [if_neg Bool.false_ne_true]
        refine ih (done ++ [x]) _ (by rw [← e]; simp) (p.trans p2) ?_
        rw [pre_at p2 q, List.filter_append, List.map_append]
        simp [← ek]
  refine wpO.mono (key xs [] _ rfl (pre_app _ _) (by simp)) fun d h ⟨a, b, c⟩ => ⟨a, b, rd_at c⟩
/-- a loop over things -/
theorem for_t {α : Type} (enc : α → D) (xs : List α) {g : D → Env → Mem → Out Env} {b : Env → Mem → Out Fl} {s : Src} {N : Env → Mem → Prop} {R : D → Mem → Prop} {items : List D} {r : Env} (J : List α → List α → Env → Mem → Prop) (hi : items = xs.map enc)
    (hs : ∀ x y r h, xs = x ++ y → J x y r h → s.ok h) (step : ∀ a x l r h, xs = a ++ x :: l → J a (x :: l) r h → wpO (g (enc x) r h) fun r h => wpF (b r h) (J (a ++ [x]) l) R) (fin : ∀ r h, J xs [] r h → N r h) (j : J [] xs r h) : wpF (forL g b s items r h) N R := by
  subst hi
  have key : ∀ (l a : List α) (r : Env) (h : Mem), xs = a ++ l → J a l r h → wpF (forL g b s (l.map enc) r h) N R := by
    intro l
    induction l with
    | nil =>
      intro a r h e j
      rw [List.map_nil]
      unfold forL
      rw [if_pos (hs _ _ _ _ e j)]
      rw [List.append_nil] at e
      subst e
      exact fin r h j
    | cons x l ih =>
      intro a r h e j
      rw [List.map_cons]
      unfold forL
      rw [if_pos (hs _ _ _ _ e j)]
      have w := step a x l r h e j
      cases q : g (enc x) r h with
      | ok r1 h1 =>
        rw [q] at w
        show wpF ((b r1 h1).seq fun r h => forL g b s (l.map enc) r h) N R
        rw [wpF_seq]
        exact wpF.mono w (fun r h j => ih (a ++ [x]) r h (by rw [e]; simp) j) fun _ _ z => z
      | exc x h1 => rw [q] at w; exact w.elim
      | stuck => rw [q] at w; exact w.elim
  exact key xs [] r h rfl j
theorem filt {α : Type} (l : List α) : l.filter (fun _ => true) = l := List.filter_eq_self.mpr fun _ _ => rfl
theorem filf {α : Type} (l : List α) : l.filter (fun _ => false) = [] := by simp
theorem wv_sl3c {c : Cl} {r : Env} {Q : D → Mem → Prop} {x : E} {i j : Int} : wpO (ev c (.sl3 x (.cst (.int i)) (.cst (.int j))) r h) Q ↔ wpO (ev c x r h) fun d h => wpO (slc d (some i) (some j) h) Q := by simp only [ev, wpO_bind, wpO_ok]
theorem wI_rg2 {c : Cl} {r : Env} {Q : Src → Mem → Prop} {a b : E} : wpO (evI c (.rng2 a b) r h) Q ↔ wpO (ev c a r h) fun d h => wpO (ev c b r h) fun e h => match d, e with
    | .int i, .int j => if -(2 ^ 62) ≤ i ∧ i < 2 ^ 62 ∧ -(2 ^ 62) ≤ j ∧ j < 2 ^ 62 then Q ⟨rngD i (j - i).toNat, []⟩ h else False
    | _, _ => False := by
  simp only [evI, wpO_bind]
  have e : ∀ (d e : D) (h : Mem), wpO (match d, e with
    | .int i, .int j => if -(2 ^ 62) ≤ i ∧ i < 2 ^ 62 ∧ -(2 ^ 62) ≤ j ∧ j < 2 ^ 62 then .ok ⟨rngD i (j - i).toNat, []⟩ h else .stuck
    | _, _ => .stuck) Q ↔ (match d, e with
    | .int i, .int j => if -(2 ^ 62) ≤ i ∧ i < 2 ^ 62 ∧ -(2 ^ 62) ≤ j ∧ j < 2 ^ 62 then Q ⟨rngD i (j - i).toNat, []⟩ h else False
    | _, _ => False) := fun d e h => by
    split
    · split <;> exact Iff.rfl
    · exact Iff.rfl
  simp only [← e] <;> exact Iff.rfl
theorem rng_eq (lo : Int) (k : Nat) : rngD lo k = (List.range k).map fun i : Nat => D.int (lo + (i : Int)) := rfl
theorem rng0_eq (k : Nat) : rngD 0 k = (List.range k).map fun i : Nat => D.int (i : Int) := by unfold rngD; simp
end
end RG.K

end

section
/-! K10: first stands. -/
namespace RG.K
open PySem L2 RG RG.M
section
variable {h : Mem} {m : Mc} {i : Nat} (n : Nat)
theorem T9 : T.defs 9 = some ⟨2, 2, d_may_read⟩ := rfl
theorem T10 : T.defs 10 = some ⟨2, 2, d_may_write⟩ := rfl
theorem T11 : T.defs 11 = some ⟨2, 2, d_may_run⟩ := rfl
theorem T12 : T.defs 12 = some ⟨2, 2, d_may_call⟩ := rfl
theorem T13 : T.defs 13 = some ⟨1, 2, d_segments_of⟩ := rfl
theorem T14 : T.defs 14 = some ⟨2, 4, d_allowed⟩ := rfl
theorem T48 : T.defs 48 = some ⟨2, 3, d_first⟩ := rfl
theorem T300 : T.defs 300 = some ⟨2, 4, d_law_refused⟩ := rfl
theorem T301 : T.defs 301 = some ⟨1, 10, d_law⟩ := rfl
theorem p_may_read (h : Mem) (s : Sg) (x : Int) : run T (n + 2) 9 [s.d, .int x] h = .ok (.bl (decide (114 ∈ s.rt) && decide (x ≤ s.b))) h := by
  unfold run
  rw [T9]
  by_cases h0 : 114 ∈ s.rt <;> simp [d_may_read, Sg.d, excs, exc, ev, evs, h0]
theorem p_may_write (h : Mem) (s : Sg) (x : Int) : run T (n + 2) 10 [s.d, .int x] h = .ok (.bl (decide (119 ∈ s.rt) && decide (x ≤ s.a))) h := by
  unfold run
  rw [T10]
  by_cases h0 : 119 ∈ s.rt <;> simp [d_may_write, Sg.d, excs, exc, ev, evs, h0]
theorem p_may_run (h : Mem) (s : Sg) (x : Int) : run T (n + 2) 11 [s.d, .int x] h = .ok (.bl (decide (120 ∈ s.rt) && (decide (s.a ≤ x) && decide (x ≤ s.b)))) h := by
  unfold run
  rw [T11]
  by_cases h0 : 120 ∈ s.rt <;> by_cases h1 : s.a ≤ x <;> simp [d_may_run, Sg.d, excs, exc, ev, evs, h0, h1]
theorem p_may_call (h : Mem) (s : Sg) (x : Int) : run T (n + 2) 12 [s.d, .int x] h = .ok (.bl (decide (120 ∈ s.rt) && (decide (s.b < x) && decide (x ≤ s.c)))) h := by
  unfold run
  rw [T12]
  by_cases h0 : 120 ∈ s.rt <;> by_cases h1 : s.b < x <;> simp [d_may_call, Sg.d, excs, exc, ev, evs, h0, h1]
theorem sg_map {β : Type} (f : Sg → β) : (List.range m.segs.length).map (fun j : Nat => f (m.sg j)) = m.segs.map f := by
  refine List.ext_getElem (by simp) fun j h1 h2 => ?_
  have hj : j < m.segs.length := by simpa using h1
  rw [List.getElem_map, List.getElem_map, List.getElem_range]
  unfold Mc.sg
  simp [hj]
theorem mt0 {c : Cl} (hc : c.t = T) : Tab.meth c.t 0 0 = some 7 := by rw [hc]; rfl
theorem p_segs (mr : MR h i m) (l8 : m.segs.length ≤ 8) : wpO (run T (n + 4) 13 [.ref i] h) fun v h' => v = .ref h.length ∧ h <+: h' ∧ rd h' h.length = some (m.segs.map Sg.d) := by
  have c1 := p_len n mr.at_
  rw [List.length_map] at c1
  obtain ⟨k, e1, e2⟩ := id mr.at_
  have mt : Tab.meth (clAt T (run T (n + 2 + 1)) (run T (n + 2))).t 0 0 = some 7 := rfl
  have ms : Tab.meth (clAt T (run T (n + 2 + 1)) (run T (n + 2))).t 0 1 = some 6 := rfl
  refine wpO_run T13 rfl ?_
  simp only [d_segments_of, wv_var, wv_cst, wv_glo, wv_pr, ws_nil, ws_cons, wv_and, wv_or, wv_not, wv_ite, wv_chain, wv_tup, wv_lst, wv_call, wv_callP, wv_comp, wv_fld, wv_lm, wv_meth, wv_lenI, wI_of, wC_yes, wC_test, wg_nm, wg_tupT, wgs_nil, wgs_cons, wS_asg, wS_ex, wS_ret, wS_iff, wS_for, wS_whl, wSs_nil, wSs_cons, w_bl, wpO_ok, wpO_bind, wpO_calm, List.map_cons, List.map_nil, List.cons_append, List.nil_append, List.getElem?_cons_zero, List.getElem?_cons_succ, List.set_cons_zero, List.set_cons_succ, List.length_cons, List.length_nil, List.replicate, Nat.reduceSub, Nat.reduceAdd, wI_rg]
  try simp only [wv_var, wv_cst, wv_glo, wv_pr, ws_nil, ws_cons, wv_and, wv_or, wv_not, wv_ite, wv_chain, wv_tup, wv_lst, wv_call, wv_callP, wv_comp, wv_fld, wv_lm, wv_meth, wv_lenI, wI_of, wC_yes, wC_test, wg_nm, wg_tupT, wgs_nil, wgs_cons, wS_asg, wS_ex, wS_ret, wS_iff, wS_for, wS_whl, wSs_nil, wSs_cons, w_bl, wpO_ok, wpO_bind, wpO_calm, List.map_cons, List.map_nil, List.cons_append, List.nil_append, List.getElem?_cons_zero, List.getElem?_cons_succ, List.set_cons_zero, List.set_cons_succ, List.length_cons, List.length_nil, List.replicate, Nat.reduceSub, Nat.reduceAdd, e1, mt]
  show wpO (run T (n + 2) 7 [.ref i] h) _
  rw [c1]
  have b0 : (0 : Int) ≤ m.segs.length ∧ (m.segs.length : Int) < 2 ^ 63 := by omega
  try simp only [wv_var, wv_cst, wv_glo, wv_pr, ws_nil, ws_cons, wv_and, wv_or, wv_not, wv_ite, wv_chain, wv_tup, wv_lst, wv_call, wv_callP, wv_comp, wv_fld, wv_lm, wv_meth, wv_lenI, wI_of, wC_yes, wC_test, wg_nm, wg_tupT, wgs_nil, wgs_cons, wS_asg, wS_ex, wS_ret, wS_iff, wS_for, wS_whl, wSs_nil, wSs_cons, w_bl, wpO_ok, wpO_bind, wpO_calm, List.map_cons, List.map_nil, List.cons_append, List.nil_append, List.getElem?_cons_zero, List.getElem?_cons_succ, List.set_cons_zero, List.set_cons_succ, List.length_cons, List.length_nil, List.replicate, Nat.reduceSub, Nat.reduceAdd]
  rw [if_pos b0]
  try dsimp only
  rw [if_pos (by omega)]
  refine wpO.mono (cmp_t (fun j : Nat => D.int (j : Int)) (fun j : Nat => (m.sg j).d) (fun _ => true) (List.range m.segs.length) (by rw [Int.toNat_natCast]; exact rng0_eq _) (fun g hg => by cases hg) (by rw [sizeLine_eq, List.length_range]; omega) fun j hj h1 p1 => ?_) ?_
  · have c2 := mr.seg p1 (n + 1) (k := (j : Int)) (by omega) (by have := List.mem_range.mp hj; omega)
    have e4 := pre_at p1 e1
    simp only [cTarget, wipeE, wv_var, wv_cst, wv_glo, wv_pr, ws_nil, ws_cons, wv_and, wv_or, wv_not, wv_ite, wv_chain, wv_tup, wv_lst, wv_call, wv_callP, wv_comp, wv_fld, wv_lm, wv_meth, wv_lenI, wI_of, wC_yes, wC_test, wg_nm, wg_tupT, wgs_nil, wgs_cons, wS_asg, wS_ex, wS_ret, wS_iff, wS_for, wS_whl, wSs_nil, wSs_cons, w_bl, wpO_ok, wpO_bind, wpO_calm, List.map_cons, List.map_nil, List.cons_append, List.nil_append, List.getElem?_cons_zero, List.getElem?_cons_succ, List.set_cons_zero, List.set_cons_succ, List.length_cons, List.length_nil, List.replicate, Nat.reduceSub, Nat.reduceAdd, true_and, e4, ms]
    refine ⟨List.prefix_refl _, fun _ => ?_⟩
    show wpO (run T (n + 3) 6 [.ref i, .int j] h1) _
    rw [c2]
    exact ⟨List.prefix_refl _, rfl⟩
  · rintro v h1 ⟨rfl, p1, q1⟩
    rw [filt, sg_map Sg.d] at q1
    exact ⟨rfl, p1, q1⟩
theorem p_allowed (mr : MR h i m) (l8 : m.segs.length ≤ 8) {x : Int} (hx : 0 ≤ x ∧ x ≤ 7) : wpO (run T (n + 6) 14 [.ref i, .int x] h) fun v h' => h <+: h' := by
  have sz : (8 : Nat) ≤ sizeLine := by rw [sizeLine_eq]; omega
  refine wpO_run T14 rfl ?_
  simp only [d_allowed, wv_var, wv_cst, wv_glo, wv_pr, ws_nil, ws_cons, wv_and, wv_or, wv_not, wv_ite, wv_chain, wv_tup, wv_lst, wv_call, wv_callP, wv_comp, wv_fld, wv_lm, wv_meth, wv_lenI, wI_of, wC_yes, wC_test, wg_nm, wg_tupT, wgs_nil, wgs_cons, wS_asg, wS_ex, wS_ret, wS_iff, wS_for, wS_whl, wSs_nil, wSs_cons, w_bl, wpO_ok, wpO_bind, wpO_calm, List.map_cons, List.map_nil, List.cons_append, List.nil_append, List.getElem?_cons_zero, List.getElem?_cons_succ, List.set_cons_zero, List.set_cons_succ, List.length_cons, List.length_nil, List.replicate, Nat.reduceSub, Nat.reduceAdd]
  show wpO (run T (n + 5) 0 [.int x] h) _
  rw [show n + 5 = (n + 3) + 2 from rfl, p_is_ring (n + 3) x h]
  try simp only [wv_var, wv_cst, wv_glo, wv_pr, ws_nil, ws_cons, wv_and, wv_or, wv_not, wv_ite, wv_chain, wv_tup, wv_lst, wv_call, wv_callP, wv_comp, wv_fld, wv_lm, wv_meth, wv_lenI, wI_of, wC_yes, wC_test, wg_nm, wg_tupT, wgs_nil, wgs_cons, wS_asg, wS_ex, wS_ret, wS_iff, wS_for, wS_whl, wSs_nil, wSs_cons, w_bl, wpO_ok, wpO_bind, wpO_calm, List.map_cons, List.map_nil, List.cons_append, List.nil_append, List.getElem?_cons_zero, List.getElem?_cons_succ, List.set_cons_zero, List.set_cons_succ, List.length_cons, List.length_nil, List.replicate, Nat.reduceSub, Nat.reduceAdd, hx.1, hx.2, decide_true, Bool.and_self, Bool.not_true, Bool.false_eq_true, if_false]
  rw [if_pos (Nat.zero_le _)]
  have m1 : MR (h ++ [O.lst []]) i m := mr.grow (pre_app h [O.lst []])
  show wpO (run T (n + 5) 13 [.ref i] (h ++ [O.lst []])) _
  refine wpO.mono (p_segs (n + 1) m1 l8) fun v h1 ⟨e1, p1, q1⟩ => ?_
  subst e1
  have f1 : rd h1 h.length = some [] := rd_at (pre_at p1 (by simp))
  simp only [srcS, srcOf, q1]
  refine for_t Sg.d m.segs (fun a b r h2 => h <+: h2 ∧ rd h2 (h ++ [O.lst []]).length = some (m.segs.map Sg.d) ∧ (∃ done : List D, done.length = a.length ∧ rd h2 h.length = some done) ∧ ∃ a3, r = [some (.ref i), some (.int x), some (.ref h.length), a3]) rfl ?_ ?_ ?_ ⟨(pre_app _ _).trans p1, q1, ⟨[], rfl, f1⟩, _, rfl⟩
  · intro _ _ r h2 _ ⟨_, e, _⟩ g hg
    rw [List.mem_singleton.mp hg]
    exact e
  · rintro a s b r h2 es ⟨p2, q2, ⟨done, ed, fd⟩, a3, rfl⟩
    try simp only [wv_var, wv_cst, wv_glo, wv_pr, ws_nil, ws_cons, wv_and, wv_or, wv_not, wv_ite, wv_chain, wv_tup, wv_lst, wv_call, wv_callP, wv_comp, wv_fld, wv_lm, wv_meth, wv_lenI, wI_of, wC_yes, wC_test, wg_nm, wg_tupT, wgs_nil, wgs_cons, wS_asg, wS_ex, wS_ret, wS_iff, wS_for, wS_whl, wSs_nil, wSs_cons, w_bl, wpO_ok, wpO_bind, wpO_calm, List.map_cons, List.map_nil, List.cons_append, List.nil_append, List.getElem?_cons_zero, List.getElem?_cons_succ, List.set_cons_zero, List.set_cons_succ, List.length_cons, List.length_nil, List.replicate, Nat.reduceSub, Nat.reduceAdd, fd]
    show wpO (run T (n + 5) 9 [s.d, .int x] h2) _
    rw [show n + 5 = (n + 3) + 2 from rfl, p_may_read]
    try simp only [wv_var, wv_cst, wv_glo, wv_pr, ws_nil, ws_cons, wv_and, wv_or, wv_not, wv_ite, wv_chain, wv_tup, wv_lst, wv_call, wv_callP, wv_comp, wv_fld, wv_lm, wv_meth, wv_lenI, wI_of, wC_yes, wC_test, wg_nm, wg_tupT, wgs_nil, wgs_cons, wS_asg, wS_ex, wS_ret, wS_iff, wS_for, wS_whl, wSs_nil, wSs_cons, w_bl, wpO_ok, wpO_bind, wpO_calm, List.map_cons, List.map_nil, List.cons_append, List.nil_append, List.getElem?_cons_zero, List.getElem?_cons_succ, List.set_cons_zero, List.set_cons_succ, List.length_cons, List.length_nil, List.replicate, Nat.reduceSub, Nat.reduceAdd]
    show wpO (run T (n + 5) 10 [s.d, .int x] h2) _
    rw [show n + 5 = (n + 3) + 2 from rfl, p_may_write]
    try simp only [wv_var, wv_cst, wv_glo, wv_pr, ws_nil, ws_cons, wv_and, wv_or, wv_not, wv_ite, wv_chain, wv_tup, wv_lst, wv_call, wv_callP, wv_comp, wv_fld, wv_lm, wv_meth, wv_lenI, wI_of, wC_yes, wC_test, wg_nm, wg_tupT, wgs_nil, wgs_cons, wS_asg, wS_ex, wS_ret, wS_iff, wS_for, wS_whl, wSs_nil, wSs_cons, w_bl, wpO_ok, wpO_bind, wpO_calm, List.map_cons, List.map_nil, List.cons_append, List.nil_append, List.getElem?_cons_zero, List.getElem?_cons_succ, List.set_cons_zero, List.set_cons_succ, List.length_cons, List.length_nil, List.replicate, Nat.reduceSub, Nat.reduceAdd]
    show wpO (run T (n + 5) 11 [s.d, .int x] h2) _
    rw [show n + 5 = (n + 3) + 2 from rfl, p_may_run]
    try simp only [wv_var, wv_cst, wv_glo, wv_pr, ws_nil, ws_cons, wv_and, wv_or, wv_not, wv_ite, wv_chain, wv_tup, wv_lst, wv_call, wv_callP, wv_comp, wv_fld, wv_lm, wv_meth, wv_lenI, wI_of, wC_yes, wC_test, wg_nm, wg_tupT, wgs_nil, wgs_cons, wS_asg, wS_ex, wS_ret, wS_iff, wS_for, wS_whl, wSs_nil, wSs_cons, w_bl, wpO_ok, wpO_bind, wpO_calm, List.map_cons, List.map_nil, List.cons_append, List.nil_append, List.getElem?_cons_zero, List.getElem?_cons_succ, List.set_cons_zero, List.set_cons_succ, List.length_cons, List.length_nil, List.replicate, Nat.reduceSub, Nat.reduceAdd]
    show wpO (run T (n + 5) 12 [s.d, .int x] h2) _
    rw [show n + 5 = (n + 3) + 2 from rfl, p_may_call]
    have hlen : done.length < 8 := by
      have := congrArg List.length es
      simp at this
      omega
    try simp only [wv_var, wv_cst, wv_glo, wv_pr, ws_nil, ws_cons, wv_and, wv_or, wv_not, wv_ite, wv_chain, wv_tup, wv_lst, wv_call, wv_callP, wv_comp, wv_fld, wv_lm, wv_meth, wv_lenI, wI_of, wC_yes, wC_test, wg_nm, wg_tupT, wgs_nil, wgs_cons, wS_asg, wS_ex, wS_ret, wS_iff, wS_for, wS_whl, wSs_nil, wSs_cons, w_bl, wpO_ok, wpO_bind, wpO_calm, List.map_cons, List.map_nil, List.cons_append, List.nil_append, List.getElem?_cons_zero, List.getElem?_cons_succ, List.set_cons_zero, List.set_cons_succ, List.length_cons, List.length_nil, List.replicate, Nat.reduceSub, Nat.reduceAdd]
    rw [if_pos (by omega)]
    rw [P_app fd (by omega)]
    refine ⟨pre_set p2 (Nat.le_refl _) _, ?_, ⟨_, ?_, rd_at (set_at (at_rd fd))⟩, _, rfl⟩
    · refine rd_at ?_
      rw [set_ne (by simp), at_rd q2]
    · rw [List.length_append, List.length_append, ed]
      rfl
  · rintro r h2 ⟨p2, _, _, a3, rfl⟩
    try simp only [wv_var, wv_cst, wv_glo, wv_pr, ws_nil, ws_cons, wv_and, wv_or, wv_not, wv_ite, wv_chain, wv_tup, wv_lst, wv_call, wv_callP, wv_comp, wv_fld, wv_lm, wv_meth, wv_lenI, wI_of, wC_yes, wC_test, wg_nm, wg_tupT, wgs_nil, wgs_cons, wS_asg, wS_ex, wS_ret, wS_iff, wS_for, wS_whl, wSs_nil, wSs_cons, w_bl, wpO_ok, wpO_bind, wpO_calm, List.map_cons, List.map_nil, List.cons_append, List.nil_append, List.getElem?_cons_zero, List.getElem?_cons_succ, List.set_cons_zero, List.set_cons_succ, List.length_cons, List.length_nil, List.replicate, Nat.reduceSub, Nat.reduceAdd]
    exact p2
def fsd (m : Mc) (x : Int) : Sd := ⟨x, 0, [none, none, none, none], m.segs.map fun s => s.ws⟩
theorem fsd_ok (mo : m.Ok) {x : Int} (hx : 0 ≤ x ∧ x ≤ 7) : (fsd m x).Ok m := by
  have b := mo.base
  refine ⟨hx, ⟨by show (0 : Int) ≤ 0; omega, by show (0 : Int) < m.base; omega⟩, rfl, ?_, by simp [fsd], ?_⟩
  · intro y hy
    simp only [fsd, List.mem_cons, List.not_mem_nil, or_false] at hy
    rcases hy with rfl | rfl | rfl | rfl <;> trivial
  · intro ws hw
    obtain ⟨s, hs, rfl⟩ := List.mem_map.mp hw
    exact ⟨(mo.sg s hs).wl, (mo.sg s hs).ws⟩
theorem p_first (mr : MR h i m) (l8 : m.segs.length ≤ 8) {x : Int} (hx : 0 ≤ x ∧ x ≤ 7) : wpO (run T (n + 7) 48 [.ref i, .int x] h) fun v h' => v = (fsd m x).d ∧ h <+: h' := by
  refine wpO_run T48 rfl ?_
  simp only [d_first, wv_var, wv_cst, wv_glo, wv_pr, ws_nil, ws_cons, wv_and, wv_or, wv_not, wv_ite, wv_chain, wv_tup, wv_lst, wv_call, wv_callP, wv_comp, wv_fld, wv_lm, wv_meth, wv_lenI, wI_of, wC_yes, wC_test, wg_nm, wg_tupT, wgs_nil, wgs_cons, wS_asg, wS_ex, wS_ret, wS_iff, wS_for, wS_whl, wSs_nil, wSs_cons, w_bl, wpO_ok, wpO_bind, wpO_calm, List.map_cons, List.map_nil, List.cons_append, List.nil_append, List.getElem?_cons_zero, List.getElem?_cons_succ, List.set_cons_zero, List.set_cons_succ, List.length_cons, List.length_nil, List.replicate, Nat.reduceSub, Nat.reduceAdd, cl_cal]
  refine wpO.mono (p_allowed n mr l8 hx) fun v h1 p1 => ?_
  have c1 := p_len (n + 3) (mr.grow p1).at_
  rw [List.length_map] at c1
  obtain ⟨k, e1, e2⟩ := id (mr.grow p1).at_
  have mt : Tab.meth T 0 0 = some 7 := rfl
  have ms : Tab.meth T 0 1 = some 6 := rfl
  have gg : (clAt T (run T (n + 5 + 1)) (run T (n + 5))).t.glo 9 = some (.tup [.non, .non, .non, .non]) := rfl
  try simp only [wv_var, wv_cst, wv_glo, wv_pr, ws_nil, ws_cons, wv_and, wv_or, wv_not, wv_ite, wv_chain, wv_tup, wv_lst, wv_call, wv_callP, wv_comp, wv_fld, wv_lm, wv_meth, wv_lenI, wI_of, wC_yes, wC_test, wg_nm, wg_tupT, wgs_nil, wgs_cons, wS_asg, wS_ex, wS_ret, wS_iff, wS_for, wS_whl, wSs_nil, wSs_cons, w_bl, wpO_ok, wpO_bind, wpO_calm, List.map_cons, List.map_nil, List.cons_append, List.nil_append, List.getElem?_cons_zero, List.getElem?_cons_succ, List.set_cons_zero, List.set_cons_succ, List.length_cons, List.length_nil, List.replicate, Nat.reduceSub, Nat.reduceAdd, wI_rg, gg, cl_t]
  try simp only [wv_var, wv_cst, wv_glo, wv_pr, ws_nil, ws_cons, wv_and, wv_or, wv_not, wv_ite, wv_chain, wv_tup, wv_lst, wv_call, wv_callP, wv_comp, wv_fld, wv_lm, wv_meth, wv_lenI, wI_of, wC_yes, wC_test, wg_nm, wg_tupT, wgs_nil, wgs_cons, wS_asg, wS_ex, wS_ret, wS_iff, wS_for, wS_whl, wSs_nil, wSs_cons, w_bl, wpO_ok, wpO_bind, wpO_calm, List.map_cons, List.map_nil, List.cons_append, List.nil_append, List.getElem?_cons_zero, List.getElem?_cons_succ, List.set_cons_zero, List.set_cons_succ, List.length_cons, List.length_nil, List.replicate, Nat.reduceSub, Nat.reduceAdd, e1, mt, cl_t]
  show wpO (run T (n + 5) 7 [.ref i] h1) _
  rw [c1]
  have b0 : (0 : Int) ≤ m.segs.length ∧ (m.segs.length : Int) < 2 ^ 63 := by omega
  try simp only [wv_var, wv_cst, wv_glo, wv_pr, ws_nil, ws_cons, wv_and, wv_or, wv_not, wv_ite, wv_chain, wv_tup, wv_lst, wv_call, wv_callP, wv_comp, wv_fld, wv_lm, wv_meth, wv_lenI, wI_of, wC_yes, wC_test, wg_nm, wg_tupT, wgs_nil, wgs_cons, wS_asg, wS_ex, wS_ret, wS_iff, wS_for, wS_whl, wSs_nil, wSs_cons, w_bl, wpO_ok, wpO_bind, wpO_calm, List.map_cons, List.map_nil, List.cons_append, List.nil_append, List.getElem?_cons_zero, List.getElem?_cons_succ, List.set_cons_zero, List.set_cons_succ, List.length_cons, List.length_nil, List.replicate, Nat.reduceSub, Nat.reduceAdd]
  rw [if_pos b0]
  try dsimp only
  rw [if_pos (by omega)]
  refine wpO.mono (cmp_t (fun j : Nat => D.int (j : Int)) (fun j : Nat => wordsD (m.sg j).ws) (fun _ => true) (List.range m.segs.length) (by rw [Int.toNat_natCast]; exact rng0_eq _) (fun g hg => by cases hg) (by rw [sizeLine_eq, List.length_range]; omega) fun j hj h2 p2 => ?_) ?_
  · have c2 := mr.seg (p1.trans p2) (n + 4) (k := (j : Int)) (by omega) (by have := List.mem_range.mp hj; omega)
    have e4 := pre_at p2 e1
    simp only [cTarget, wipeE, wv_var, wv_cst, wv_glo, wv_pr, ws_nil, ws_cons, wv_and, wv_or, wv_not, wv_ite, wv_chain, wv_tup, wv_lst, wv_call, wv_callP, wv_comp, wv_fld, wv_lm, wv_meth, wv_lenI, wI_of, wC_yes, wC_test, wg_nm, wg_tupT, wgs_nil, wgs_cons, wS_asg, wS_ex, wS_ret, wS_iff, wS_for, wS_whl, wSs_nil, wSs_cons, w_bl, wpO_ok, wpO_bind, wpO_calm, List.map_cons, List.map_nil, List.cons_append, List.nil_append, List.getElem?_cons_zero, List.getElem?_cons_succ, List.set_cons_zero, List.set_cons_succ, List.length_cons, List.length_nil, List.replicate, Nat.reduceSub, Nat.reduceAdd, true_and, e4, ms, cl_t]
    refine ⟨List.prefix_refl _, fun _ => ?_⟩
    show wpO (run T (n + 6) 6 [.ref i, .int j] h2) _
    rw [c2]
    try simp only [wv_var, wv_cst, wv_glo, wv_pr, ws_nil, ws_cons, wv_and, wv_or, wv_not, wv_ite, wv_chain, wv_tup, wv_lst, wv_call, wv_callP, wv_comp, wv_fld, wv_lm, wv_meth, wv_lenI, wI_of, wC_yes, wC_test, wg_nm, wg_tupT, wgs_nil, wgs_cons, wS_asg, wS_ex, wS_ret, wS_iff, wS_for, wS_whl, wSs_nil, wSs_cons, w_bl, wpO_ok, wpO_bind, wpO_calm, List.map_cons, List.map_nil, List.cons_append, List.nil_append, List.getElem?_cons_zero, List.getElem?_cons_succ, List.set_cons_zero, List.set_cons_succ, List.length_cons, List.length_nil, List.replicate, Nat.reduceSub, Nat.reduceAdd, Sg.d, P_ixT3]
    exact ⟨List.prefix_refl _, rfl⟩
  · rintro v h2 ⟨rfl, p2, q2⟩
    rw [filt, sg_map fun s => wordsD s.ws] at q2
    have tp := P_tupR q2
    try simp only [wv_var, wv_cst, wv_glo, wv_pr, ws_nil, ws_cons, wv_and, wv_or, wv_not, wv_ite, wv_chain, wv_tup, wv_lst, wv_call, wv_callP, wv_comp, wv_fld, wv_lm, wv_meth, wv_lenI, wI_of, wC_yes, wC_test, wg_nm, wg_tupT, wgs_nil, wgs_cons, wS_asg, wS_ex, wS_ret, wS_iff, wS_for, wS_whl, wSs_nil, wSs_cons, w_bl, wpO_ok, wpO_bind, wpO_calm, List.map_cons, List.map_nil, List.cons_append, List.nil_append, List.getElem?_cons_zero, List.getElem?_cons_succ, List.set_cons_zero, List.set_cons_succ, List.length_cons, List.length_nil, List.replicate, Nat.reduceSub, Nat.reduceAdd, tp, sz4, if_true]
    refine ⟨?_, p1.trans p2⟩
    simp only [fsd, Sd.d, List.map_map, List.map_cons, List.map_nil, ptD]
    first | rfl | trivial
theorem p_allowedX {x : Int} (hx : ¬ (0 ≤ x ∧ x ≤ 7)) : wpE (fun z h' => z = .exc 105 (.int x) ∧ h <+: h') (run T (n + 6) 14 [.ref i, .int x] h) fun _ _ => False := by
  have b : (decide (0 ≤ x) && decide (x ≤ 7)) = false := by
    rw [← Bool.not_eq_true, Bool.and_eq_true, decide_eq_true_eq, decide_eq_true_eq]
    exact hx
  refine wpE_run T14 rfl ?_
  simp only [d_allowed, xwv_var, xwv_cst, xwv_glo, xwv_pr, xws_nil, xws_cons, xwv_and, xwv_or, xwv_not, xwv_ite, xwv_chain, xwv_tup, xwv_lst, xwv_call, xwv_callP, xwv_comp, xwv_fld, xwv_lm, xwv_meth, xwv_lenI, xwI_of, xwC_yes, xwC_test, xv_kix, wg_nm, wg_tupT, wgs_nil, wgs_cons, wg_fld, xS_asg, xS_ex, xS_ret, xS_iff, xS_for, xS_whl, xS_rse, xS_pass, xSs_nil, xSs_cons, xw_bl, wpE_ok, wpE_exc, wpE_bind, wpE_calm, cl_cal, cl_ini, cl_t, wv_var, wv_cst, wv_glo, wv_pr, ws_nil, ws_cons, wv_and, wv_or, wv_not, wv_ite, wv_chain, wv_tup, wv_lst, wv_call, wv_callP, wv_comp, wv_fld, wv_lm, wv_meth, wv_lenI, wI_of, wC_yes, wC_test, wg_nm, wg_tupT, wgs_nil, wgs_cons, wS_asg, wS_ex, wS_ret, wS_iff, wS_for, wS_whl, wSs_nil, wSs_cons, w_bl, wpO_ok, wpO_bind, wpO_calm, List.map_cons, List.map_nil, List.cons_append, List.nil_append, List.getElem?_cons_zero, List.getElem?_cons_succ, List.set_cons_zero, List.set_cons_succ, List.length_cons, List.length_nil, List.replicate, Nat.reduceSub, Nat.reduceAdd, cl_cal]
  rw [show n + 5 = (n + 3) + 2 from rfl, p_is_ring (n + 3) x h, b]
  try simp only [xwv_var, xwv_cst, xwv_glo, xwv_pr, xws_nil, xws_cons, xwv_and, xwv_or, xwv_not, xwv_ite, xwv_chain, xwv_tup, xwv_lst, xwv_call, xwv_callP, xwv_comp, xwv_fld, xwv_lm, xwv_meth, xwv_lenI, xwI_of, xwC_yes, xwC_test, xv_kix, wg_nm, wg_tupT, wgs_nil, wgs_cons, wg_fld, xS_asg, xS_ex, xS_ret, xS_iff, xS_for, xS_whl, xS_rse, xS_pass, xSs_nil, xSs_cons, xw_bl, wpE_ok, wpE_exc, wpE_bind, wpE_calm, cl_cal, cl_ini, cl_t, wv_var, wv_cst, wv_glo, wv_pr, ws_nil, ws_cons, wv_and, wv_or, wv_not, wv_ite, wv_chain, wv_tup, wv_lst, wv_call, wv_callP, wv_comp, wv_fld, wv_lm, wv_meth, wv_lenI, wI_of, wC_yes, wC_test, wg_nm, wg_tupT, wgs_nil, wgs_cons, wS_asg, wS_ex, wS_ret, wS_iff, wS_for, wS_whl, wSs_nil, wSs_cons, w_bl, wpO_ok, wpO_bind, wpO_calm, List.map_cons, List.map_nil, List.cons_append, List.nil_append, List.getElem?_cons_zero, List.getElem?_cons_succ, List.set_cons_zero, List.set_cons_succ, List.length_cons, List.length_nil, List.replicate, Nat.reduceSub, Nat.reduceAdd, Bool.not_false, if_true]
  exact ⟨by first | trivial | rfl, List.prefix_refl _⟩
theorem p_firstX {x : Int} (hx : ¬ (0 ≤ x ∧ x ≤ 7)) : wpE (fun z h' => z = .exc 105 (.int x) ∧ h <+: h') (run T (n + 7) 48 [.ref i, .int x] h) fun _ _ => False := by
  refine wpE_run T48 rfl ?_
  simp only [d_first, xwv_var, xwv_cst, xwv_glo, xwv_pr, xws_nil, xws_cons, xwv_and, xwv_or, xwv_not, xwv_ite, xwv_chain, xwv_tup, xwv_lst, xwv_call, xwv_callP, xwv_comp, xwv_fld, xwv_lm, xwv_meth, xwv_lenI, xwI_of, xwC_yes, xwC_test, xv_kix, wg_nm, wg_tupT, wgs_nil, wgs_cons, wg_fld, xS_asg, xS_ex, xS_ret, xS_iff, xS_for, xS_whl, xS_rse, xS_pass, xSs_nil, xSs_cons, xw_bl, wpE_ok, wpE_exc, wpE_bind, wpE_calm, cl_cal, cl_ini, cl_t, wv_var, wv_cst, wv_glo, wv_pr, ws_nil, ws_cons, wv_and, wv_or, wv_not, wv_ite, wv_chain, wv_tup, wv_lst, wv_call, wv_callP, wv_comp, wv_fld, wv_lm, wv_meth, wv_lenI, wI_of, wC_yes, wC_test, wg_nm, wg_tupT, wgs_nil, wgs_cons, wS_asg, wS_ex, wS_ret, wS_iff, wS_for, wS_whl, wSs_nil, wSs_cons, w_bl, wpO_ok, wpO_bind, wpO_calm, List.map_cons, List.map_nil, List.cons_append, List.nil_append, List.getElem?_cons_zero, List.getElem?_cons_succ, List.set_cons_zero, List.set_cons_succ, List.length_cons, List.length_nil, List.replicate, Nat.reduceSub, Nat.reduceAdd, cl_cal]
  exact wpE.mono2 (p_allowedX n hx) (fun _ _ z => z.elim) fun z h' q => q
theorem s105 : Tab.sub T 105 105 = true := by decide +kernel
theorem s100 : Tab.sub T 100 100 = true := by decide +kernel
theorem s105100 : Tab.sub T 105 100 = true := by decide +kernel
theorem n105 : ([103, 101, 109, 102, 108, 104, 106, 107].any fun k => Tab.sub T 105 k) = false := by decide +kernel
theorem y105 : ([105].any fun k => Tab.sub T 105 k) = true := by decide +kernel
theorem v105 : ([99].any fun k => Tab.sub T 105 k) = true := by decide +kernel
theorem p_refused {x : Int} (hx : ¬ (0 ≤ x ∧ x ≤ 7)) : wpO (run T 29 300 [.ref i, .int x] h) fun v h' => v = .bl true ∧ h <+: h' := by
  refine wpO_run (n := 27) T300 rfl ?_
  simp only [d_law_refused, wv_var, wv_cst, wv_glo, wv_pr, ws_nil, ws_cons, wv_and, wv_or, wv_not, wv_ite, wv_chain, wv_tup, wv_lst, wv_call, wv_callP, wv_comp, wv_fld, wv_lm, wv_meth, wv_lenI, wI_of, wC_yes, wC_test, wg_nm, wg_tupT, wgs_nil, wgs_cons, wS_asg, wS_ex, wS_ret, wS_iff, wS_for, wS_whl, wSs_nil, wSs_cons, w_bl, wpO_ok, wpO_bind, wpO_calm, List.map_cons, List.map_nil, List.cons_append, List.nil_append, List.getElem?_cons_zero, List.getElem?_cons_succ, List.set_cons_zero, List.set_cons_succ, List.length_cons, List.length_nil, List.replicate, Nat.reduceSub, Nat.reduceAdd]
  refine wF_tryK ?_
  try simp only [xwv_var, xwv_cst, xwv_glo, xwv_pr, xws_nil, xws_cons, xwv_and, xwv_or, xwv_not, xwv_ite, xwv_chain, xwv_tup, xwv_lst, xwv_call, xwv_callP, xwv_comp, xwv_fld, xwv_lm, xwv_meth, xwv_lenI, xwI_of, xwC_yes, xwC_test, xv_kix, wg_nm, wg_tupT, wgs_nil, wgs_cons, wg_fld, xS_asg, xS_ex, xS_ret, xS_iff, xS_for, xS_whl, xS_rse, xS_pass, xSs_nil, xSs_cons, xw_bl, wpE_ok, wpE_exc, wpE_bind, wpE_calm, cl_cal, cl_ini, cl_t, wv_var, wv_cst, wv_glo, wv_pr, ws_nil, ws_cons, wv_and, wv_or, wv_not, wv_ite, wv_chain, wv_tup, wv_lst, wv_call, wv_callP, wv_comp, wv_fld, wv_lm, wv_meth, wv_lenI, wI_of, wC_yes, wC_test, wg_nm, wg_tupT, wgs_nil, wgs_cons, wS_asg, wS_ex, wS_ret, wS_iff, wS_for, wS_whl, wSs_nil, wSs_cons, w_bl, wpO_ok, wpO_bind, wpO_calm, List.map_cons, List.map_nil, List.cons_append, List.nil_append, List.getElem?_cons_zero, List.getElem?_cons_succ, List.set_cons_zero, List.set_cons_succ, List.length_cons, List.length_nil, List.replicate, Nat.reduceSub, Nat.reduceAdd, cl_cal]
  refine wpE.mono2 (p_firstX 21 hx) (fun _ _ z => z.elim) ?_
  rintro z h1 ⟨rfl, p1⟩
  refine ⟨105, _, rfl, s105, s100, s105100, rfl, ?_⟩
  show wpF (.ok (.nx [some (.ref i), some (.int x), some (.exc 105 (.int x)), none]) h1) _ _
  rw [wpF_nx]
  refine wv_isx ?_
  try simp only [wv_var, wv_cst, wv_glo, wv_pr, ws_nil, ws_cons, wv_and, wv_or, wv_not, wv_ite, wv_chain, wv_tup, wv_lst, wv_call, wv_callP, wv_comp, wv_fld, wv_lm, wv_meth, wv_lenI, wI_of, wC_yes, wC_test, wg_nm, wg_tupT, wgs_nil, wgs_cons, wS_asg, wS_ex, wS_ret, wS_iff, wS_for, wS_whl, wSs_nil, wSs_cons, w_bl, wpO_ok, wpO_bind, wpO_calm, List.map_cons, List.map_nil, List.cons_append, List.nil_append, List.getElem?_cons_zero, List.getElem?_cons_succ, List.set_cons_zero, List.set_cons_succ, List.length_cons, List.length_nil, List.replicate, Nat.reduceSub, Nat.reduceAdd]
  refine ⟨105, _, rfl, s105, ?_⟩
  rw [show (clAt T (run T 28) (run T 27)).t = T from rfl, n105]
  try simp only [wv_var, wv_cst, wv_glo, wv_pr, ws_nil, ws_cons, wv_and, wv_or, wv_not, wv_ite, wv_chain, wv_tup, wv_lst, wv_call, wv_callP, wv_comp, wv_fld, wv_lm, wv_meth, wv_lenI, wI_of, wC_yes, wC_test, wg_nm, wg_tupT, wgs_nil, wgs_cons, wS_asg, wS_ex, wS_ret, wS_iff, wS_for, wS_whl, wSs_nil, wSs_cons, w_bl, wpO_ok, wpO_bind, wpO_calm, List.map_cons, List.map_nil, List.cons_append, List.nil_append, List.getElem?_cons_zero, List.getElem?_cons_succ, List.set_cons_zero, List.set_cons_succ, List.length_cons, List.length_nil, List.replicate, Nat.reduceSub, Nat.reduceAdd, Bool.false_eq_true, if_false]
  refine wv_isx ?_
  try simp only [wv_var, wv_cst, wv_glo, wv_pr, ws_nil, ws_cons, wv_and, wv_or, wv_not, wv_ite, wv_chain, wv_tup, wv_lst, wv_call, wv_callP, wv_comp, wv_fld, wv_lm, wv_meth, wv_lenI, wI_of, wC_yes, wC_test, wg_nm, wg_tupT, wgs_nil, wgs_cons, wS_asg, wS_ex, wS_ret, wS_iff, wS_for, wS_whl, wSs_nil, wSs_cons, w_bl, wpO_ok, wpO_bind, wpO_calm, List.map_cons, List.map_nil, List.cons_append, List.nil_append, List.getElem?_cons_zero, List.getElem?_cons_succ, List.set_cons_zero, List.set_cons_succ, List.length_cons, List.length_nil, List.replicate, Nat.reduceSub, Nat.reduceAdd]
  refine ⟨105, _, rfl, s105, ?_⟩
  rw [show (clAt T (run T 28) (run T 27)).t = T from rfl, y105]
  try simp only [wv_var, wv_cst, wv_glo, wv_pr, ws_nil, ws_cons, wv_and, wv_or, wv_not, wv_ite, wv_chain, wv_tup, wv_lst, wv_call, wv_callP, wv_comp, wv_fld, wv_lm, wv_meth, wv_lenI, wI_of, wC_yes, wC_test, wg_nm, wg_tupT, wgs_nil, wgs_cons, wS_asg, wS_ex, wS_ret, wS_iff, wS_for, wS_whl, wSs_nil, wSs_cons, w_bl, wpO_ok, wpO_bind, wpO_calm, List.map_cons, List.map_nil, List.cons_append, List.nil_append, List.getElem?_cons_zero, List.getElem?_cons_succ, List.set_cons_zero, List.set_cons_succ, List.length_cons, List.length_nil, List.replicate, Nat.reduceSub, Nat.reduceAdd, if_true]
  refine wv_isx ?_
  try simp only [wv_var, wv_cst, wv_glo, wv_pr, ws_nil, ws_cons, wv_and, wv_or, wv_not, wv_ite, wv_chain, wv_tup, wv_lst, wv_call, wv_callP, wv_comp, wv_fld, wv_lm, wv_meth, wv_lenI, wI_of, wC_yes, wC_test, wg_nm, wg_tupT, wgs_nil, wgs_cons, wS_asg, wS_ex, wS_ret, wS_iff, wS_for, wS_whl, wSs_nil, wSs_cons, w_bl, wpO_ok, wpO_bind, wpO_calm, List.map_cons, List.map_nil, List.cons_append, List.nil_append, List.getElem?_cons_zero, List.getElem?_cons_succ, List.set_cons_zero, List.set_cons_succ, List.length_cons, List.length_nil, List.replicate, Nat.reduceSub, Nat.reduceAdd]
  refine ⟨105, _, rfl, s105, ?_⟩
  rw [show (clAt T (run T 28) (run T 27)).t = T from rfl, v105]
  try simp only [wv_var, wv_cst, wv_glo, wv_pr, ws_nil, ws_cons, wv_and, wv_or, wv_not, wv_ite, wv_chain, wv_tup, wv_lst, wv_call, wv_callP, wv_comp, wv_fld, wv_lm, wv_meth, wv_lenI, wI_of, wC_yes, wC_test, wg_nm, wg_tupT, wgs_nil, wgs_cons, wS_asg, wS_ex, wS_ret, wS_iff, wS_for, wS_whl, wSs_nil, wSs_cons, w_bl, wpO_ok, wpO_bind, wpO_calm, List.map_cons, List.map_nil, List.cons_append, List.nil_append, List.getElem?_cons_zero, List.getElem?_cons_succ, List.set_cons_zero, List.set_cons_succ, List.length_cons, List.length_nil, List.replicate, Nat.reduceSub, Nat.reduceAdd, if_true]
  refine wv_xw ?_
  try simp only [wv_var, wv_cst, wv_glo, wv_pr, ws_nil, ws_cons, wv_and, wv_or, wv_not, wv_ite, wv_chain, wv_tup, wv_lst, wv_call, wv_callP, wv_comp, wv_fld, wv_lm, wv_meth, wv_lenI, wI_of, wC_yes, wC_test, wg_nm, wg_tupT, wgs_nil, wgs_cons, wS_asg, wS_ex, wS_ret, wS_iff, wS_for, wS_whl, wSs_nil, wSs_cons, w_bl, wpO_ok, wpO_bind, wpO_calm, List.map_cons, List.map_nil, List.cons_append, List.nil_append, List.getElem?_cons_zero, List.getElem?_cons_succ, List.set_cons_zero, List.set_cons_succ, List.length_cons, List.length_nil, List.replicate, Nat.reduceSub, Nat.reduceAdd]
  refine ⟨105, _, rfl, s105, s100, s105100, ?_⟩
  try simp only [wv_var, wv_cst, wv_glo, wv_pr, ws_nil, ws_cons, wv_and, wv_or, wv_not, wv_ite, wv_chain, wv_tup, wv_lst, wv_call, wv_callP, wv_comp, wv_fld, wv_lm, wv_meth, wv_lenI, wI_of, wC_yes, wC_test, wg_nm, wg_tupT, wgs_nil, wgs_cons, wS_asg, wS_ex, wS_ret, wS_iff, wS_for, wS_whl, wSs_nil, wSs_cons, w_bl, wpO_ok, wpO_bind, wpO_calm, List.map_cons, List.map_nil, List.cons_append, List.nil_append, List.getElem?_cons_zero, List.getElem?_cons_succ, List.set_cons_zero, List.set_cons_succ, List.length_cons, List.length_nil, List.replicate, Nat.reduceSub, Nat.reduceAdd, cl_cal]
  exact wpO.mono (p_same 0 26 (Sm.at (at_int x))) fun v h' ⟨e, p⟩ => ⟨e, p1.trans p⟩
end
theorem cp9' : CPow 10 9 := ⟨by omega, by omega, by decide⟩
theorem cp59' : CPow 10 59 := ⟨by omega, by omega, by decide⟩
def body : Ss := bodyF (dropS 4 d_law)
theorem p_body {h : Mem} {m : Mc} {t k mi : Nat} {far x : Int} {ns : List Int} {a7 a8 a9 : Option D} (mo : m.Ok) (mr : MR h mi m) (rk : rd h k = some (m.segs.map Sg.d)) (hx : 0 ≤ x ∧ x ≤ 7) :
    wpF (excs (clAt T (run T 29) (run T 28)) body [some (.scr ns), some (.ref t), some (.int far), some (.ref k), some (.int m.base), some (.ref mi), some (.int x), a7, a8, a9] h)
      (fun r' h' => (∃ a7' a8', r' = [some (.scr ns), some (.ref t), some (.int far), some (.ref k), some (.int m.base), some (.ref mi), some (.int x), a7', a8', a9]) ∧ h <+: h') (fun _ _ => False) := by
  have l8 := mo.len
  simp only [body, d_law, dropS, bodyF, wv_var, wv_cst, wv_glo, wv_pr, ws_nil, ws_cons, wv_and, wv_or, wv_not, wv_ite, wv_chain, wv_tup, wv_lst, wv_call, wv_callP, wv_comp, wv_fld, wv_lm, wv_meth, wv_lenI, wI_of, wC_yes, wC_test, wg_nm, wg_tupT, wgs_nil, wgs_cons, wS_asg, wS_ex, wS_ret, wS_iff, wS_for, wS_whl, wSs_nil, wSs_cons, w_bl, wpO_ok, wpO_bind, wpO_calm, List.map_cons, List.map_nil, List.cons_append, List.nil_append, List.getElem?_cons_zero, List.getElem?_cons_succ, List.set_cons_zero, List.set_cons_succ, List.length_cons, List.length_nil, List.replicate, Nat.reduceSub, Nat.reduceAdd, srcS, srcOf, rk, sz4, if_true]
  refine wpO.mono (cmp_t Sg.d (fun s => wordsD s.ws) (fun _ => true) m.segs rfl (fun g hg => by rw [List.mem_singleton.mp hg]; exact rk) (by rw [sizeLine_eq]; omega) fun s hs h2 p2 => ?_) ?_
  · simp only [cTarget, wipeE, Sg.d, wv_var, wv_cst, wv_glo, wv_pr, ws_nil, ws_cons, wv_and, wv_or, wv_not, wv_ite, wv_chain, wv_tup, wv_lst, wv_call, wv_callP, wv_comp, wv_fld, wv_lm, wv_meth, wv_lenI, wI_of, wC_yes, wC_test, wg_nm, wg_tupT, wgs_nil, wgs_cons, wS_asg, wS_ex, wS_ret, wS_iff, wS_for, wS_whl, wSs_nil, wSs_cons, w_bl, wpO_ok, wpO_bind, wpO_calm, List.map_cons, List.map_nil, List.cons_append, List.nil_append, List.getElem?_cons_zero, List.getElem?_cons_succ, List.set_cons_zero, List.set_cons_succ, List.length_cons, List.length_nil, List.replicate, Nat.reduceSub, Nat.reduceAdd, P_ixT3, true_and]
    first | exact ⟨List.prefix_refl _, fun _ => ⟨List.prefix_refl _, rfl⟩⟩ | exact ⟨List.prefix_refl _, fun z => (Bool.false_ne_true z).elim⟩ | exact ⟨List.prefix_refl _, fun z => False.elim z⟩ | exact ⟨List.prefix_refl _, fun _ => ⟨List.prefix_refl _, trivial⟩⟩ | exact ⟨List.prefix_refl _, trivial⟩ | exact ⟨List.prefix_refl _, trivial, fun _ => ⟨List.prefix_refl _, trivial⟩⟩ | exact ⟨List.prefix_refl _, trivial, fun _ => ⟨List.prefix_refl _, rfl⟩⟩ | exact ⟨List.prefix_refl _, trivial, fun z => z.elim⟩ | simp
  rintro v h1 ⟨rfl, p1, q1⟩
  rw [filt] at q1
  have tp := P_tupR q1
  have ed : D.tup [.int x, .int 0, .tup [.non, .non, .non, .non], .tup (m.segs.map fun s => wordsD s.ws)] = (fsd m x).d := by
    simp only [fsd, Sd.d, List.map_map, List.map_cons, List.map_nil, ptD]
    first | rfl | trivial
  try simp only [wv_var, wv_cst, wv_glo, wv_pr, ws_nil, ws_cons, wv_and, wv_or, wv_not, wv_ite, wv_chain, wv_tup, wv_lst, wv_call, wv_callP, wv_comp, wv_fld, wv_lm, wv_meth, wv_lenI, wI_of, wC_yes, wC_test, wg_nm, wg_tupT, wgs_nil, wgs_cons, wS_asg, wS_ex, wS_ret, wS_iff, wS_for, wS_whl, wSs_nil, wSs_cons, w_bl, wpO_ok, wpO_bind, wpO_calm, List.map_cons, List.map_nil, List.cons_append, List.nil_append, List.getElem?_cons_zero, List.getElem?_cons_succ, List.set_cons_zero, List.set_cons_succ, List.length_cons, List.length_nil, List.replicate, Nat.reduceSub, Nat.reduceAdd, tp, sz4, if_true, ed, cl_cal]
  refine wpO.mono (p_first 22 (mr.grow p1) l8.2 hx) ?_
  rintro v h2 ⟨rfl, p2⟩
  try simp only [wv_var, wv_cst, wv_glo, wv_pr, ws_nil, ws_cons, wv_and, wv_or, wv_not, wv_ite, wv_chain, wv_tup, wv_lst, wv_call, wv_callP, wv_comp, wv_fld, wv_lm, wv_meth, wv_lenI, wI_of, wC_yes, wC_test, wg_nm, wg_tupT, wgs_nil, wgs_cons, wS_asg, wS_ex, wS_ret, wS_iff, wS_for, wS_whl, wSs_nil, wSs_cons, w_bl, wpO_ok, wpO_bind, wpO_calm, List.map_cons, List.map_nil, List.cons_append, List.nil_append, List.getElem?_cons_zero, List.getElem?_cons_succ, List.set_cons_zero, List.set_cons_succ, List.length_cons, List.length_nil, List.replicate, Nat.reduceSub, Nat.reduceAdd, cl_cal]
  refine wpO.mono (p_same 4 23 (sm_sd (fsd_ok mo hx) mo)) ?_
  rintro v h3 ⟨rfl, p3⟩
  have P3 := p1.trans (p2.trans p3)
  try simp only [wv_var, wv_cst, wv_glo, wv_pr, ws_nil, ws_cons, wv_and, wv_or, wv_not, wv_ite, wv_chain, wv_tup, wv_lst, wv_call, wv_callP, wv_comp, wv_fld, wv_lm, wv_meth, wv_lenI, wI_of, wC_yes, wC_test, wg_nm, wg_tupT, wgs_nil, wgs_cons, wS_asg, wS_ex, wS_ret, wS_iff, wS_for, wS_whl, wSs_nil, wSs_cons, w_bl, wpO_ok, wpO_bind, wpO_calm, List.map_cons, List.map_nil, List.cons_append, List.nil_append, List.getElem?_cons_zero, List.getElem?_cons_succ, List.set_cons_zero, List.set_cons_succ, List.length_cons, List.length_nil, List.replicate, Nat.reduceSub, Nat.reduceAdd, Bool.not_true, Bool.false_eq_true, if_false, cl_cal, pickO]
  refine wpO.mono (p_first 22 (mr.grow P3) l8.2 hx) ?_
  rintro v h4 ⟨rfl, p4⟩
  try simp only [wv_var, wv_cst, wv_glo, wv_pr, ws_nil, ws_cons, wv_and, wv_or, wv_not, wv_ite, wv_chain, wv_tup, wv_lst, wv_call, wv_callP, wv_comp, wv_fld, wv_lm, wv_meth, wv_lenI, wI_of, wC_yes, wC_test, wg_nm, wg_tupT, wgs_nil, wgs_cons, wS_asg, wS_ex, wS_ret, wS_iff, wS_for, wS_whl, wSs_nil, wSs_cons, w_bl, wpO_ok, wpO_bind, wpO_calm, List.map_cons, List.map_nil, List.cons_append, List.nil_append, List.getElem?_cons_zero, List.getElem?_cons_succ, List.set_cons_zero, List.set_cons_succ, List.length_cons, List.length_nil, List.replicate, Nat.reduceSub, Nat.reduceAdd, cl_cal]
  refine wpO.mono (p_same 4 23 (sm_sd (fsd_ok mo hx) mo)) ?_
  rintro v h5 ⟨rfl, p5⟩
  try simp only [wv_var, wv_cst, wv_glo, wv_pr, ws_nil, ws_cons, wv_and, wv_or, wv_not, wv_ite, wv_chain, wv_tup, wv_lst, wv_call, wv_callP, wv_comp, wv_fld, wv_lm, wv_meth, wv_lenI, wI_of, wC_yes, wC_test, wg_nm, wg_tupT, wgs_nil, wgs_cons, wS_asg, wS_ex, wS_ret, wS_iff, wS_for, wS_whl, wSs_nil, wSs_cons, w_bl, wpO_ok, wpO_bind, wpO_calm, List.map_cons, List.map_nil, List.cons_append, List.nil_append, List.getElem?_cons_zero, List.getElem?_cons_succ, List.set_cons_zero, List.set_cons_succ, List.length_cons, List.length_nil, List.replicate, Nat.reduceSub, Nat.reduceAdd, Bool.not_true, Bool.false_eq_true, if_false]
  exact ⟨⟨_, _, rfl⟩, P3.trans (p4.trans p5)⟩
theorem p_law (ns : List Int) (hn : ns.length ≤ 63) : ∃ h', run T 30 301 [.scr ns] [] = .ok (.bl true) h' := by
  have w : wpO (run T 30 301 [.scr ns] []) fun v h' => v = .bl true := by
    refine wpO_run (n := 28) T301 rfl ?_
    have e0 : d_law = .cons _ (.cons _ (.cons _ (.cons _ (.cons (.foor (.nm 6) (.rng1 (.cst (.int 8))) body) (dropS 5 d_law))))) := rfl
    show wpF (excs _ d_law _ _) _ _
    rw [e0]
    generalize hT : dropS 5 d_law = T5'
    try simp only [wv_var, wv_cst, wv_glo, wv_pr, ws_nil, ws_cons, wv_and, wv_or, wv_not, wv_ite, wv_chain, wv_tup, wv_lst, wv_call, wv_callP, wv_comp, wv_fld, wv_lm, wv_meth, wv_lenI, wI_of, wC_yes, wC_test, wg_nm, wg_tupT, wgs_nil, wgs_cons, wS_asg, wS_ex, wS_ret, wS_iff, wS_for, wS_whl, wSs_nil, wSs_cons, w_bl, wpO_ok, wpO_bind, wpO_calm, List.map_cons, List.map_nil, List.cons_append, List.nil_append, List.getElem?_cons_zero, List.getElem?_cons_succ, List.set_cons_zero, List.set_cons_succ, List.length_cons, List.length_nil, List.replicate, Nat.reduceSub, Nat.reduceAdd, cl_cal]
    refine wpO.mono (p_deck 27 ns hn) ?_
    rintro v h1 ⟨t, g, rfl, dk1⟩
    try simp only [wv_var, wv_cst, wv_glo, wv_pr, ws_nil, ws_cons, wv_and, wv_or, wv_not, wv_ite, wv_chain, wv_tup, wv_lst, wv_call, wv_callP, wv_comp, wv_fld, wv_lm, wv_meth, wv_lenI, wI_of, wC_yes, wC_test, wg_nm, wg_tupT, wgs_nil, wgs_cons, wS_asg, wS_ex, wS_ret, wS_iff, wS_for, wS_whl, wSs_nil, wSs_cons, w_bl, wpO_ok, wpO_bind, wpO_calm, List.map_cons, List.map_nil, List.cons_append, List.nil_append, List.getElem?_cons_zero, List.getElem?_cons_succ, List.set_cons_zero, List.set_cons_succ, List.length_cons, List.length_nil, List.replicate, Nat.reduceSub, Nat.reduceAdd, P_pow cp9, q9, cl_cal]
    refine wpO.mono (p_take 27 dk1 (by omega) (by omega) (by omega)) ?_
    rintro v h2 ⟨x2, rfl, x20, x21, fr2, dk2⟩
    try simp only [wv_var, wv_cst, wv_glo, wv_pr, ws_nil, ws_cons, wv_and, wv_or, wv_not, wv_ite, wv_chain, wv_tup, wv_lst, wv_call, wv_callP, wv_comp, wv_fld, wv_lm, wv_meth, wv_lenI, wI_of, wC_yes, wC_test, wg_nm, wg_tupT, wgs_nil, wgs_cons, wS_asg, wS_ex, wS_ret, wS_iff, wS_for, wS_whl, wSs_nil, wSs_cons, w_bl, wpO_ok, wpO_bind, wpO_calm, List.map_cons, List.map_nil, List.cons_append, List.nil_append, List.getElem?_cons_zero, List.getElem?_cons_succ, List.set_cons_zero, List.set_cons_succ, List.length_cons, List.length_nil, List.replicate, Nat.reduceSub, Nat.reduceAdd, P_pow cp59, q59, P_add, cl_cal]
    obtain ⟨far, hfar⟩ : ∃ far : Int, far = x2 + 100000000000000000000000000000000000000000000000000000000000 := ⟨_, rfl⟩
    rw [← hfar]
    have lt1 := dk1.lt
    refine wpO.mono (p_dmach 23 dk2 (by omega)) ?_
    rintro v h3 ⟨m, k, rfl, mo, mb, hk, rk, fr3, dk3⟩
    have lt2 := dk2.lt
    have lt3 := dk3.lt
    have h4e : evP .toList [.ref k] h3 = .ok (.ref h3.length) (h3 ++ [.lst (m.segs.map Sg.d)]) := P_listR rk
    try simp only [wv_var, wv_cst, wv_glo, wv_pr, ws_nil, ws_cons, wv_and, wv_or, wv_not, wv_ite, wv_chain, wv_tup, wv_lst, wv_call, wv_callP, wv_comp, wv_fld, wv_lm, wv_meth, wv_lenI, wI_of, wC_yes, wC_test, wg_nm, wg_tupT, wgs_nil, wgs_cons, wS_asg, wS_ex, wS_ret, wS_iff, wS_for, wS_whl, wSs_nil, wSs_cons, w_bl, wpO_ok, wpO_bind, wpO_calm, List.map_cons, List.map_nil, List.cons_append, List.nil_append, List.getElem?_cons_zero, List.getElem?_cons_succ, List.set_cons_zero, List.set_cons_succ, List.length_cons, List.length_nil, List.replicate, Nat.reduceSub, Nat.reduceAdd, wg_tupT, wv_mkp, cl_t, Ti0, cl_ini, h4e, pickO]
    have dk4 := dk3.pre (pre_app h3 [O.lst (m.segs.map Sg.d)])
    have rk4 := pre_rd (pre_app h3 [O.lst (m.segs.map Sg.d)]) rk
    refine wpO.mono (p_mach 22 (t := t) (g := g) (h := h3 ++ [O.lst (m.segs.map Sg.d)]) rd_app mo dk4.lt) ?_
    rintro v h5 ⟨rfl, p5, mf5⟩
    have rk5 := pre_rd p5 rk4
    generalize (h3 ++ [O.lst (m.segs.map Sg.d)]).length = mi at mf5
    have mr5 := mf5.mr
    dsimp only
    try simp only [wv_var, wv_cst, wv_glo, wv_pr, ws_nil, ws_cons, wv_and, wv_or, wv_not, wv_ite, wv_chain, wv_tup, wv_lst, wv_call, wv_callP, wv_comp, wv_fld, wv_lm, wv_meth, wv_lenI, wI_of, wC_yes, wC_test, wg_nm, wg_tupT, wgs_nil, wgs_cons, wS_asg, wS_ex, wS_ret, wS_iff, wS_for, wS_whl, wSs_nil, wSs_cons, w_bl, wpO_ok, wpO_bind, wpO_calm, List.map_cons, List.map_nil, List.cons_append, List.nil_append, List.getElem?_cons_zero, List.getElem?_cons_succ, List.set_cons_zero, List.set_cons_succ, List.length_cons, List.length_nil, List.replicate, Nat.reduceSub, Nat.reduceAdd, wI_rg]
    rw [if_pos (by omega)]
    refine for_t (fun i : Nat => D.int (i : Int)) (List.range 8) (fun l l2 r h' => ∃ (a6 a7 a8 : Option D), r = [some (.scr ns), some (.ref t), some (.int far), some (.ref k), some (.int m.base), some (.ref mi), a6, a7, a8, none] ∧ h5 <+: h') (rng0_eq _) ?_ ?_ ?_ ⟨_, _, _, rfl, List.prefix_refl _⟩
    · intro _ _ _ _ _ _ g hg
      cases hg
    · rintro l i l2 r h6 el ⟨a6, a7, a8, rfl, p6⟩
      have hi : i < 8 := List.mem_range.mp (by rw [el]; simp)
      try simp only [wv_var, wv_cst, wv_glo, wv_pr, ws_nil, ws_cons, wv_and, wv_or, wv_not, wv_ite, wv_chain, wv_tup, wv_lst, wv_call, wv_callP, wv_comp, wv_fld, wv_lm, wv_meth, wv_lenI, wI_of, wC_yes, wC_test, wg_nm, wg_tupT, wgs_nil, wgs_cons, wS_asg, wS_ex, wS_ret, wS_iff, wS_for, wS_whl, wSs_nil, wSs_cons, w_bl, wpO_ok, wpO_bind, wpO_calm, List.map_cons, List.map_nil, List.cons_append, List.nil_append, List.getElem?_cons_zero, List.getElem?_cons_succ, List.set_cons_zero, List.set_cons_succ, List.length_cons, List.length_nil, List.replicate, Nat.reduceSub, Nat.reduceAdd]
      refine wpF.mono (p_body mo (mr5.grow p6) (pre_rd p6 rk5) (by omega)) ?_ fun _ _ z => z.elim
      rintro r h7 ⟨⟨b7, b8, rfl⟩, p7⟩
      exact ⟨_, _, _, rfl, p6.trans p7⟩
    · rintro r h6 ⟨a6, a7, a8, rfl, p6⟩
      subst hT
      have r6 : rd (h6 ++ [O.lst ([-1, 8, far, 0 - far, 9].map D.int)]) h6.length = some ([-1, 8, far, 0 - far, 9].map D.int) := rd_app
      simp only [List.map_cons, List.map_nil] at r6
      simp only [d_law, dropS, wv_var, wv_cst, wv_glo, wv_pr, ws_nil, ws_cons, wv_and, wv_or, wv_not, wv_ite, wv_chain, wv_tup, wv_lst, wv_call, wv_callP, wv_comp, wv_fld, wv_lm, wv_meth, wv_lenI, wI_of, wC_yes, wC_test, wg_nm, wg_tupT, wgs_nil, wgs_cons, wS_asg, wS_ex, wS_ret, wS_iff, wS_for, wS_whl, wSs_nil, wSs_cons, w_bl, wpO_ok, wpO_bind, wpO_calm, List.map_cons, List.map_nil, List.cons_append, List.nil_append, List.getElem?_cons_zero, List.getElem?_cons_succ, List.set_cons_zero, List.set_cons_succ, List.length_cons, List.length_nil, List.replicate, Nat.reduceSub, Nat.reduceAdd, P_neg, P_sub, sz5, if_true, srcS, srcOf, r6]
      refine wpO.mono (cmp_t D.int (fun _ => D.bl true) (fun _ => true) [-1, 8, far, 0 - far, 9] rfl (fun g hg => by rw [List.mem_singleton.mp hg]; exact r6) (by rw [sizeLine_eq]; simp) fun x hx h7 p7 => ?_) ?_
      · have hn : ¬ (0 ≤ x ∧ x ≤ 7) := by
          simp only [List.mem_cons, List.not_mem_nil, or_false] at hx
          rcases hx with rfl | rfl | rfl | rfl | rfl <;> omega
        simp only [cTarget, wipeE, wv_var, wv_cst, wv_glo, wv_pr, ws_nil, ws_cons, wv_and, wv_or, wv_not, wv_ite, wv_chain, wv_tup, wv_lst, wv_call, wv_callP, wv_comp, wv_fld, wv_lm, wv_meth, wv_lenI, wI_of, wC_yes, wC_test, wg_nm, wg_tupT, wgs_nil, wgs_cons, wS_asg, wS_ex, wS_ret, wS_iff, wS_for, wS_whl, wSs_nil, wSs_cons, w_bl, wpO_ok, wpO_bind, wpO_calm, List.map_cons, List.map_nil, List.cons_append, List.nil_append, List.getElem?_cons_zero, List.getElem?_cons_succ, List.set_cons_zero, List.set_cons_succ, List.length_cons, List.length_nil, List.replicate, Nat.reduceSub, Nat.reduceAdd, true_and, cl_cal]
        refine ⟨List.prefix_refl _, fun _ => ?_⟩
        exact wpO.mono (p_refused hn) fun v h' ⟨e, p⟩ => ⟨p, e⟩
      rintro v h7 ⟨rfl, p7, q7⟩
      rw [filt] at q7
      have q8 : rd h7 (h6 ++ [O.lst [D.int (-1), D.int 8, D.int far, D.int (0 - far), D.int 9]]).length = some ([true, true, true, true, true].map D.bl) := q7
      try simp only [wv_var, wv_cst, wv_glo, wv_pr, ws_nil, ws_cons, wv_and, wv_or, wv_not, wv_ite, wv_chain, wv_tup, wv_lst, wv_call, wv_callP, wv_comp, wv_fld, wv_lm, wv_meth, wv_lenI, wI_of, wC_yes, wC_test, wg_nm, wg_tupT, wgs_nil, wgs_cons, wS_asg, wS_ex, wS_ret, wS_iff, wS_for, wS_whl, wSs_nil, wSs_cons, w_bl, wpO_ok, wpO_bind, wpO_calm, List.map_cons, List.map_nil, List.cons_append, List.nil_append, List.getElem?_cons_zero, List.getElem?_cons_succ, List.set_cons_zero, List.set_cons_succ, List.length_cons, List.length_nil, List.replicate, Nat.reduceSub, Nat.reduceAdd, P_all q8]
      try rfl
  obtain ⟨v, h', e, rfl⟩ := wpO_out w
  exact ⟨h', e⟩
end RG.K

end
theorem PySem.Challenge.cw_ringgates_k10_first_stands_holds : PySem.Challenge.rw_ringgates_k10_first_stands.Holds := by
  exact RG.K.holds_of RG.K.p_law
