import PyProof.Rows.All
import PyProof.EqLayable
import PyProof.ReprReads
import Wide.All
import OpenK.AllK
import Wide.FinOn
import HandS.ForMost
import HandS.IsInst
import HandS.Conv
import HandS.TupAny
import HandS.TupMul
import HandS.Zip
import HandS.Deep
import HandS.Dict
import KE.KTupSum
import PyProof.StrLawsRepr
import HandS.Words
import HandS.Exc
import HandS.WordsExc
import HandS.Rev
import KE.GoesEnum
import HandS.Defaults
import HandS.Ends
import HandS.HeadEnd
import HandS.HeadHook1
import HandS.HeadHook2
import HandS.Head0
import HandS.Head1
import HandS.Head2
import KE.KStateDown
import PySem.Challenge.RW_earlystop_k12_whole_rows_come_to_one
set_option Elab.async false
set_option linter.all false
set_option maxRecDepth 100000
set_option maxHeartbeats 200000
/-! # Sx: a small core language over trees of data, and its meaning -/
namespace Sx
open PySem

/-- data: trees; a cell is a thing that several may change -/
inductive D where
  | non | bl (b : Bool) | int (i : Int) | str (x : Str) | tup (xs : List D) | lst (xs : List D)
  | dic (kvs : List (D × D)) | cell (n : Nat) | exc (c : Str) (fs : List (Str × D))
instance : Inhabited D := ⟨.non⟩

mutual
def D.py : D → PyData
  | .non => .none | .bl b => .bool b | .int i => .int i | .str x => .str x
  | .tup xs => .tuple (pys xs) | .lst xs => .list (pys xs) | .dic kvs => .dict (pyk kvs)
  | .cell _ => .none | .exc _ _ => .none
def pys : List D → List PyData
  | [] => []
  | x :: xs => x.py :: pys xs
def pyk : List (D × D) → List (PyData × PyData)
  | [] => []
  | (k, v) :: r => (k.py, v.py) :: pyk r
end
theorem pys_map : ∀ xs : List D, pys xs = xs.map D.py
  | [] => rfl
  | x :: xs => by simp [pys, pys_map xs]

mutual
/-- what == may be asked of: no dict, no cell, texts in order, not deeper than n -/
def D.eqk : Nat → D → Bool
  | _, .non => true | _, .bl _ => true | _, .int _ => true | _, .str x => PyData.strOk x
  | n + 1, .tup xs => eqks n xs
  | n + 1, .lst xs => eqks n xs
  | _, _ => false
def eqks : Nat → List D → Bool
  | _, [] => true
  | n, x :: xs => x.eqk n && eqks n xs
end
theorem eqks_all (n : Nat) : ∀ xs : List D, eqks n xs = xs.all (D.eqk n)
  | [] => by simp [eqks]
  | x :: xs => by simp [eqks, eqks_all n xs]

mutual
/-- what repr may be asked of -/
def D.shk : D → Bool
  | .non => true | .bl _ => true | .int i => decide (i.natAbs.log2 < 1920) | .str _ => true
  | .tup xs => shks xs | .lst xs => shks xs
  | _ => false
def shks : List D → Bool
  | [] => true
  | x :: xs => x.shk && shks xs
end
theorem shks_all : ∀ xs : List D, shks xs = xs.all D.shk
  | [] => by simp [shks]
  | x :: xs => by simp [shks, shks_all xs]
mutual
def D.nodes : D → Nat
  | .str x => 1 + x.length
  | .tup xs => 1 + nodess xs | .lst xs => 1 + nodess xs
  | _ => 1
def nodess : List D → Nat
  | [] => 0
  | x :: xs => x.nodes + nodess xs
end

/-- a value: frozen data, or a list (a dict) that nobody else holds -/
abbrev Hd := List (Nat × List D)
/-- wk: only what is walked, with the cells that must stay as they are -/
inductive RV where
  | fr (d : D) | own (xs : List D) | ownd (kvs : List (D × D)) | wk (xs : List D) (h : Hd)
instance : Inhabited RV := ⟨.fr .non⟩
def RV.d : RV → D
  | .fr d => d | .own xs => .lst xs | .ownd kvs => .dic kvs | .wk xs _ => .lst xs

inductive Cell where
  | lst (xs : List D) | dic (kvs : List (D × D)) | obj (c : Str) (fs : List (Str × D))
abbrev Mu := List Cell
inductive R (α : Type) where
  | ok (a : α) (μ : Mu) | exc (x : D) (μ : Mu) | bad
abbrev M (α : Type) := Mu → R α
def bnd {α β : Type} (m : M α) (f : α → M β) : M β := fun μ => match m μ with
  | .ok a μ' => f a μ'
  | .exc x μ' => .exc x μ'
  | .bad => .bad
def ret {α : Type} (a : α) : M α := fun μ => .ok a μ
def bad {α : Type} : M α := fun _ => .bad
theorem bnd_ok {α β : Type} {m : M α} {f : α → M β} {μ μ' : Mu} {a : α} (h : m μ = .ok a μ') : bnd m f μ = f a μ' := by simp [bnd, h]

abbrev Env := List (Option RV)

inductive Op2 where | add | sub | mul | fdiv | mod | pow
inductive Cmp where | eq | ne | lt | le | gt | ge | isn | notn | isin | notin
inductive Blt where | len | abs | list | tuple | repr | str | int | sum | all | any
inductive Ty where | int | bool | str | tuple | list | dict
  deriving DecidableEq
inductive Mth where | append | extend | pop | insert | reverse | clear

inductive Tg where
  | nm (i : Nat) | nil | cons (a b : Tg)
mutual
inductive Tm where
  | var (i : Nat) | cst (d : D) | glo (x : Str) (d : D)
  | tup (es : Tms) | lst (es : Tms) | cel (es : Tms) | dic0 | newc (e : Tm)
  | op (o : Op2) (a b : Tm) | cmp (o : Cmp) (a b : Tm) | chn (o p : Cmp) (a b c : Tm)
  | not (a : Tm) | neg (a : Tm) | con (es : Tms) | dis (es : Tms) | ife (c a b : Tm)
  | idx (a i : Tm) | slc (a lo hi : Tm) | mis
  | call (f : Nat) (es : Tms) | blt (b : Blt) (e : Tm) | isi (a : Tm) (ts : List Ty)
  | rng1 (a : Tm) | rng2 (a b : Tm) | zip (a b : Tm) | enum (a : Tm) | revd (a : Tm)
  | comp (e : Tm) (tg : Tg) (it : Tm) (cs : Tms) (ws : List Nat)
inductive Tms where
  | nil | cons (e : Tm) (es : Tms)
end
mutual
inductive Stm where
  | asg (fz : List Nat) (tg : Tg) (e : Tm) | par (fz : List Nat) (i j : Nat) (a b : Tm)
  | exp (fz : List Nat) (e : Tm) | ret (fz : List Nat) (e : Tm)
  | ite (fz : List Nat) (c : Tm) (a b : Blk) | whl (fz : List Nat) (c : Tm) (b : Blk) | loop (fz : List Nat) (tg : Tg) (it : Tm) (b : Blk)
  | setv (fz : List Nat) (x : Nat) (i e : Tm) | setc (fz : List Nat) (o i e : Tm)
  | mutv (fz : List Nat) (m : Mth) (x : Nat) (es : Tms)
  | pas | rai
inductive Blk where
  | nil | cons (s : Stm) (b : Blk)
end

/-! ## data by itself -/
def asInt : D → M Int
  | .int i => ret i
  | _ => bad
def asBool : D → M Bool
  | .bl b => ret b
  | _ => bad
/-- a list's or tuple's things, cells looked up -/
def D.seq (μ : Mu) : D → Option (List D)
  | .tup xs => some xs
  | .lst xs => some xs
  | .cell n => match μ[n]? with
    | some (.lst xs) => some xs
    | _ => none
  | _ => none
/-- a list's things -/
def D.lis (μ : Mu) : D → Option (List D)
  | .lst xs => some xs
  | .cell n => match μ[n]? with
    | some (.lst xs) => some xs
    | _ => none
  | _ => none
def mulOk (i j : Int) : Bool := decide (i.natAbs.log2 + j.natAbs.log2 < 100000000)
def divOk (j : Int) : Bool := decide (j ≠ 0) && decide (j.natAbs.log2 < 9000)
def sizeOk (n : Nat) : Bool := decide (n ≤ 16777216)
def guard' {α : Type} (b : Bool) (m : M α) : M α := if b = true then m else bad
def rep {α : Type} (xs : List α) (n : Int) : List α := (List.replicate n.toNat xs).flatten
def op2 : Op2 → D → D → M RV
  | .add, .int i, .int j => ret (.fr (.int (i + j)))
  | .add, .str x, .str y => guard' (sizeOk (x.length + y.length)) (ret (.fr (.str (x ++ y))))
  | .add, .tup xs, .tup ys => guard' (sizeOk (xs.length + ys.length)) (ret (.fr (.tup (xs ++ ys))))
  | .add, a, b => fun μ => match a.lis μ, b.lis μ with
    | some xs, some ys => guard' (sizeOk (xs.length + ys.length)) (ret (.own (xs ++ ys))) μ
    | _, _ => .bad
  | .sub, .int i, .int j => ret (.fr (.int (i - j)))
  | .mul, .int i, .int j => guard' (mulOk i j) (ret (.fr (.int (i * j))))
  | .mul, .tup xs, .int n => guard' (decide (2 ≤ n ∧ n ≤ 1000) && (!xs.isEmpty && decide (xs.length ≤ 1000))) (ret (.fr (.tup (rep xs n))))
  | .mul, a, .int n => fun μ => match a.lis μ with
    | some xs => guard' (decide (-100000 ≤ n ∧ n ≤ 100000) && sizeOk (xs.length * n.toNat)) (ret (.own (rep xs n))) μ
    | _ => .bad
  | .fdiv, .int i, .int j => guard' (divOk j) (ret (.fr (.int (i.fdiv j))))
  | .mod, .int i, .int j => guard' (decide (j ≠ 0)) (ret (.fr (.int (i.fmod j))))
  | .pow, .int i, .int j => guard' (decide (0 ≤ j ∧ j ≤ 1000 ∧ i.natAbs < 18446744073709551616)) (ret (.fr (.int (i ^ j.toNat))))
  | _, _, _ => bad
/-- a list's content put in the cell's place -/
def D.see (μ : Mu) : D → D
  | .cell n => match μ[n]? with
    | some (.lst xs) => .lst xs
    | some (.dic kvs) => .dic kvs
    | _ => .cell n
  | d => d
/-- whether a thing is in a list, a tuple, a text -/
def inD (μ : Mu) (x y : D) : Option Bool := match y.see μ with
  | .str j => match x with
    | .str i => some (!(Builtin.Str.occurrences j i 0 j.length 1).isEmpty)
    | _ => none
  | .tup ds => if ((x.see μ).eqk 60 && eqks 59 ds) = true then some (ds.any fun z => PyData.eqv z.py (x.see μ).py) else none
  | .lst ds => if ((x.see μ).eqk 60 && eqks 59 ds) = true then some (ds.any fun z => PyData.eqv z.py (x.see μ).py) else none
  | _ => none
def cmp2 : Cmp → D → D → M Bool
  | .eq, .str x, .str y => ret (decide (x = y))
  | .ne, .str x, .str y => ret (!decide (x = y))
  | .eq, a, b => fun μ => guard' ((a.see μ).eqk 60 && (b.see μ).eqk 60) (ret (PyData.eqv (a.see μ).py (b.see μ).py)) μ
  | .ne, a, b => fun μ => guard' ((a.see μ).eqk 60 && (b.see μ).eqk 60) (ret (!PyData.eqv (a.see μ).py (b.see μ).py)) μ
  | .lt, .int i, .int j => ret (decide (i < j))
  | .le, .int i, .int j => ret (decide (i ≤ j))
  | .gt, .int i, .int j => ret (decide (j < i))
  | .ge, .int i, .int j => ret (decide (j ≤ i))
  | .isin, a, b => fun μ => (inD μ a b).elim .bad fun k => .ok k μ
  | .notin, a, b => fun μ => (inD μ a b).elim .bad fun k => .ok (!k) μ
  | .isn, a, .non => ret (match a with | .non => true | _ => false)
  | .notn, a, .non => ret (match a with | .non => false | _ => true)
  | _, _, _ => bad
def isTy : D → Ty → Bool
  | .int _, .int => true
  | .bl _, .int => true
  | .bl _, .bool => true
  | .str _, .str => true
  | .tup _, .tuple => true
  | .lst _, .list => true
  | .dic _, .dict => true
  | _, _ => false
def isin (ts : List Ty) (x : D) : M RV := fun μ => match x.see μ with
  | .cell _ => .bad
  | .exc _ _ => .bad
  | y => .ok (.fr (.bl (ts.any (isTy y)))) μ
def ixN (n : Nat) (i : Int) : Option Nat := if 0 ≤ i then (if i < n then some i.toNat else none) else if -(n : Int) ≤ i then some (i + n).toNat else none
def atI {α : Type} (xs : List α) (i : Int) : Option α := (ixN xs.length i).bind fun j => xs[j]?
def getIt (a i : D) : M RV := fun μ => match a.seq μ, i with
  | some xs, .int k => match atI xs k with
    | some x => .ok (.fr x) μ
    | none => .bad
  | _, _ => .bad
def sIx (n d : Nat) : Option Int → Nat
  | none => d
  | some i => if i < 0 then (i + n).toNat else min i.toNat n
def cutL {α : Type} (xs : List α) (lo hi : Option Int) : List α := (xs.drop (sIx xs.length 0 lo)).take (sIx xs.length xs.length hi - sIx xs.length 0 lo)
def cut (a : D) (lo hi : Option Int) : M RV := fun μ => match a with
  | .tup xs => .ok (.fr (.tup (cutL xs lo hi))) μ
  | a => match a.lis μ with
    | some xs => .ok (.own (cutL xs lo hi)) μ
    | none => .bad
def intsFrom (lo : Int) (n : Nat) : List D := (List.range n).map fun (k : Nat) => D.int (lo + (k : Int))
def bools : List D → Option (List Bool)
  | [] => some []
  | .bl b :: r => (bools r).map (b :: ·)
  | _ => none
def intsOf : List D → Option (List Int)
  | [] => some []
  | .int b :: r => (intsOf r).map (b :: ·)
  | _ => none
def blt1 : Blt → D → M RV
  | .len, a => fun μ => match a.see μ with
    | .tup xs => .ok (.fr (.int xs.length)) μ
    | .lst xs => .ok (.fr (.int xs.length)) μ
    | .str x => if sizeOk x.length = true then .ok (.fr (.int x.length)) μ else .bad
    | _ => .bad
  | .abs, .int i => ret (.fr (.int (if i < 0 then -i else i)))
  | .list, a => fun μ => match a.seq μ with
    | some xs => .ok (.own xs) μ
    | none => .bad
  | .tuple, .tup xs => ret (.fr (.tup xs))
  | .tuple, a => fun μ => match a.seq μ with
    | some xs => .ok (.fr (.tup xs)) μ
    | none => .bad
  | .int, .int i => ret (.fr (.int i))
  | .int, .bl b => ret (.fr (.int (if b then 1 else 0)))
  | .str, .int i => guard' (decide (i.natAbs.log2 < 1920)) (ret (.fr (.str (toString i))))
  | .repr, a => fun μ => guard' ((a.see μ).eqk 60 && ((a.see μ).shk && decide ((a.see μ).nodes ≤ 8000))) (ret (.fr (.str (a.see μ).py.shown))) μ
  | .sum, a => fun μ => match (a.seq μ).bind intsOf with
    | some ns => .ok (.fr (.int ns.sum)) μ
    | none => .bad
  | .all, a => fun μ => match (a.lis μ).bind bools with
    | some bs => .ok (.fr (.bl (bs.all id))) μ
    | none => .bad
  | .any, a => fun μ => match (a.lis μ).bind bools with
    | some bs => .ok (.fr (.bl (bs.any id))) μ
    | none => .bad
  | _, _ => bad

/-! ## names -/
def frz : List Nat → Env → Env
  | [], ρ => ρ
  | i :: is, ρ => frz is (match ρ[i]? with
    | some (some r) => ρ.set i (some (.fr r.d))
    | _ => ρ)
def wipe : List Nat → Env → Env
  | [], ρ => ρ
  | i :: is, ρ => (wipe is ρ).set i none
/-- names that were not there ahead of a turn are forgotten behind it -/
def mask : Env → Env → Env
  | none :: ρ, _ :: σ => none :: mask ρ σ
  | some _ :: ρ, x :: σ => x :: mask ρ σ
  | _, σ => σ
mutual
def bindT : Tg → D → Env → Option Env
  | .nm i, d, ρ => if i < ρ.length then some (ρ.set i (some (.fr d))) else none
  | .cons a b, .tup xs, ρ => bindTs (.cons a b) xs ρ
  | _, _, _ => none
def bindTs : Tg → List D → Env → Option Env
  | .nil, [], ρ => some ρ
  | .cons a b, x :: xs, ρ => (bindT a x ρ).bind (bindTs b xs)
  | _, _, _ => none
end

/-! ## the meaning -/
/-- a thing that is only looked at: a name's own list may be lent -/
def opv (t : Tm) (m : M RV) (ρ : Env) : M D := match t with
  | .var i => match ρ[i]? with
    | some (some r) => ret r.d
    | _ => bad
  | _ => bnd m fun r => ret r.d
def optI (t : Tm) (m : M RV) : M (Option Int) := match t with
  | .mis => ret none
  | _ => bnd m fun r => bnd (asInt r.d) fun i => ret (some i)
/-- a name's own list is handed on -/
def rvOf (t : Tm) (m : M RV) (ρ : Env) : M RV := match t with
  | .var i => match ρ[i]? with
    | some (some r) => ret r
    | _ => bad
  | _ => m
/-- what is walked stays -/
def Held (h : Hd) (μ : Mu) : Prop := ∀ p ∈ h, ∃ xs, μ[p.1]? = some (.lst xs) ∧ xs = p.2
/-- the things that are walked, with the cells that hold them -/
def itemsD (μ : Mu) : D → Option (List D × Hd)
  | .tup xs => some (xs, [])
  | .lst xs => some (xs, [])
  | .cell n => match μ[n]? with
    | some (.lst xs) => some (xs, [(n, xs)])
    | _ => none
  | _ => none
def itemsOf (r : RV) : M (List D × Hd) := match r with
  | .wk xs h => ret (xs, h)
  | r => fun μ => match itemsD μ r.d with
    | some p => .ok p μ
    | none => .bad
def isT : D → Bool
  | .tup _ => true
  | _ => false
def zipD (x y : D) : M RV := fun μ => match itemsD μ x, itemsD μ y with
  | some p, some q => if isT x = isT y ∧ sizeOk p.1.length = true then .ok (.wk (List.zipWith (fun a b => D.tup [a, b]) p.1 q.1) (p.2 ++ q.2)) μ else .bad
  | _, _ => .bad
def enumL (xs : List D) : List D := xs.zipIdx.map fun p => .tup [.int (p.2 : Nat), p.1]
def enumD (x : D) : M RV := fun μ => match itemsD μ x with
  | some p => if sizeOk p.1.length = true then .ok (.wk (enumL p.1) p.2) μ else .bad
  | none => .bad
def revD (x : D) : M RV := fun μ => match itemsD μ x with
  | some p => if sizeOk p.1.length = true then .ok (.wk p.1.reverse p.2) μ else .bad
  | none => .bad
def compR {α : Type} (f : α → M (Option D)) : List α → M (List D)
  | [] => ret []
  | x :: xs => bnd (f x) fun y => bnd (compR f xs) fun ys => ret (match y with
    | some y => y :: ys
    | none => ys)
/-- a list of one's own becomes a cell -/
def newC (r : RV) : M RV := match r with
  | .own xs => fun μ => .ok (.fr (.cell μ.length)) (μ ++ [.lst xs])
  | _ => bad
open Classical in
noncomputable def compH {α : Type} (h : Hd) (f : α → M (Option D)) : List α → M (List D)
  | [] => fun μ => if Held h μ then .ok [] μ else .bad
  | x :: xs => fun μ => if Held h μ then bnd (f x) (fun y => bnd (compH h f xs) fun ys => ret (match y with
    | some y => y :: ys
    | none => ys)) μ else .bad
mutual
noncomputable def ev (C : Nat → List D → M RV) : Tm → Env → M RV
  | .var i, ρ => match ρ[i]? with
    | some (some (.fr d)) => ret (.fr d)
    | _ => bad
  | .cst d, _ => ret (.fr d)
  | .glo _ d, _ => ret (.fr d)
  | .tup es, ρ => bnd (evs C es ρ) fun ds => guard' (sizeOk ds.length) (ret (.fr (.tup ds)))
  | .lst es, ρ => bnd (evs C es ρ) fun ds => guard' (sizeOk ds.length) (ret (.own ds))
  | .cel es, ρ => bnd (evs C es ρ) fun ds => guard' (sizeOk ds.length) fun μ => .ok (.fr (.cell μ.length)) (μ ++ [.lst ds])
  | .dic0, _ => ret (.fr (.dic []))
  | .newc e, ρ => bnd (ev C e ρ) newC
  | .op o a b, ρ => bnd (opv a (ev C a ρ) ρ) fun x => bnd (opv b (ev C b ρ) ρ) fun y => op2 o x y
  | .cmp o a b, ρ => bnd (opv a (ev C a ρ) ρ) fun x => bnd (opv b (ev C b ρ) ρ) fun y => bnd (cmp2 o x y) fun k => ret (.fr (.bl k))
  | .chn o p a b c, ρ => bnd (opv a (ev C a ρ) ρ) fun x => bnd (opv b (ev C b ρ) ρ) fun y => bnd (cmp2 o x y) fun k =>
      if k = true then bnd (opv c (ev C c ρ) ρ) fun z => bnd (cmp2 p y z) fun k => ret (.fr (.bl k)) else ret (.fr (.bl false))
  | .not a, ρ => bnd (ev C a ρ) fun r => bnd (asBool r.d) fun k => ret (.fr (.bl (!k)))
  | .neg a, ρ => bnd (ev C a ρ) fun r => bnd (asInt r.d) fun i => ret (.fr (.int (-i)))
  | .con es, ρ => bnd (evA C es ρ) fun k => ret (.fr (.bl k))
  | .dis es, ρ => bnd (evO C es ρ) fun k => ret (.fr (.bl k))
  | .ife c a b, ρ => bnd (ev C c ρ) fun r => bnd (asBool r.d) fun k => if k = true then ev C a ρ else ev C b ρ
  | .idx a i, ρ => bnd (opv a (ev C a ρ) ρ) fun x => bnd (opv i (ev C i ρ) ρ) fun y => getIt x y
  | .slc a lo hi, ρ => bnd (opv a (ev C a ρ) ρ) fun x => bnd (optI lo (ev C lo ρ)) fun l => bnd (optI hi (ev C hi ρ)) fun h => cut x l h
  | .mis, _ => bad
  | .call f es, ρ => bnd (evs C es ρ) fun ds => C f ds
  | .blt b a, ρ => bnd (opv a (ev C a ρ) ρ) fun x => blt1 b x
  | .isi a ts, ρ => bnd (opv a (ev C a ρ) ρ) fun x => isin ts x
  | .rng1 a, ρ => bnd (ev C a ρ) fun r => bnd (asInt r.d) fun n => guard' (decide (n.natAbs ≤ 16777216)) (ret (.fr (.lst (intsFrom 0 n.toNat))))
  | .rng2 a b, ρ => bnd (ev C a ρ) fun r => bnd (asInt r.d) fun lo => bnd (ev C b ρ) fun r' => bnd (asInt r'.d) fun hi =>
      guard' (decide (lo.natAbs ≤ 16777216 ∧ hi.natAbs ≤ 16777216) && sizeOk (hi - lo).toNat) (ret (.fr (.lst (intsFrom lo (hi - lo).toNat))))
  | .zip a b, ρ => bnd (bnd (ev C a ρ) fun r => ret r.d) fun x => bnd (bnd (ev C b ρ) fun r => ret r.d) fun y => zipD x y
  | .enum a, ρ => bnd (bnd (ev C a ρ) fun r => ret r.d) enumD
  | .revd a, ρ => bnd (bnd (ev C a ρ) fun r => ret r.d) revD
  | .comp e tg it cs ws, ρ => bnd (bnd (ev C it ρ) itemsOf) fun p => bnd (compH p.2 (fun x => match bindT tg x (wipe ws ρ) with
      | none => bad
      | some ρ' => bnd (evA C cs ρ') fun k => if k = true then bnd (bnd (ev C e ρ') fun r => ret r.d) fun d => ret (some d) else ret none) p.1) fun ys => ret (.own ys)
/-- each frozen, from the left -/
noncomputable def evs (C : Nat → List D → M RV) : Tms → Env → M (List D)
  | .nil, _ => ret []
  | .cons e es, ρ => bnd (ev C e ρ) fun r => bnd (evs C es ρ) fun ds => ret (r.d :: ds)
noncomputable def evA (C : Nat → List D → M RV) : Tms → Env → M Bool
  | .nil, _ => ret true
  | .cons e es, ρ => bnd (ev C e ρ) fun r => bnd (asBool r.d) fun k => if k = true then evA C es ρ else ret false
noncomputable def evO (C : Nat → List D → M RV) : Tms → Env → M Bool
  | .nil, _ => ret false
  | .cons e es, ρ => bnd (ev C e ρ) fun r => bnd (asBool r.d) fun k => if k = true then ret true else evO C es ρ
end

/-! ## statements -/
inductive RS where
  | nx (ρ : Env) (μ : Mu) | rt (r : RV) (μ : Mu) | ex (x : D) (ρ : Env) (μ : Mu) | bad
def lift {α : Type} (m : M α) (ρ : Env) (μ : Mu) (f : α → Mu → RS) : RS := match m μ with
  | .ok a μ' => f a μ'
  | _ => .bad
theorem lift_ok {α : Type} {m : M α} {ρ : Env} {μ μ' : Mu} {f : α → Mu → RS} {a : α} (h : m μ = .ok a μ') : lift m ρ μ f = f a μ' := by simp [lift, h]
inductive Turn where
  | go (ρ : Env) (μ : Mu) | out (r : RS)
inductive Wh (t : Env → Mu → Turn) : Nat → Env → Mu → RS → Prop
  | out {ρ μ r} : t ρ μ = .out r → Wh t 0 ρ μ r
  | go {n ρ μ ρ' μ' r} : t ρ μ = .go ρ' μ' → Wh t n ρ' μ' r → Wh t (n + 1) ρ μ r
theorem Wh.det {t : Env → Mu → Turn} : ∀ {n m ρ μ r r'}, Wh t n ρ μ r → Wh t m ρ μ r' → r = r'
  | _, _, _, _, _, _, .out h, .out h' => by rw [h] at h'; cases h'; rfl
  | _, _, _, _, _, _, .out h, .go h' _ => by rw [h] at h'; cases h'
  | _, _, _, _, _, _, .go h _, .out h' => by rw [h] at h'; cases h'
  | _, _, _, _, _, _, .go h w, .go h' w' => by rw [h] at h'; cases h'; exact Wh.det w w'
open Classical in
noncomputable def whileR (t : Env → Mu → Turn) (ρ : Env) (μ : Mu) : RS := if h : ∃ n r, Wh t n ρ μ r then h.choose_spec.choose else .bad
theorem whileR_wh {t : Env → Mu → Turn} {n : Nat} {ρ : Env} {μ : Mu} {r : RS} (h : Wh t n ρ μ r) : whileR t ρ μ = r := by
  have e : ∃ n r, Wh t n ρ μ r := ⟨n, r, h⟩
  unfold whileR
  rw [dif_pos e]
  exact Wh.det e.choose_spec.choose_spec h
theorem whileR_bad {t : Env → Mu → Turn} {ρ : Env} {μ : Mu} (h : whileR t ρ μ ≠ .bad) : ∃ n, Wh t n ρ μ (whileR t ρ μ) := by
  by_cases e : ∃ n r, Wh t n ρ μ r
  · obtain ⟨n, r, w⟩ := e
    exact ⟨n, by rw [whileR_wh w]; exact w⟩
  · exact absurd (by unfold whileR; rw [dif_neg e]) h
theorem whileR_eq {t : Env → Mu → Turn} {ρ : Env} {μ : Mu} : whileR t ρ μ = match t ρ μ with
    | .out r => r
    | .go ρ' μ' => whileR t ρ' μ' := by
  cases e : t ρ μ with
  | out r => exact whileR_wh (.out e)
  | go ρ' μ' =>
    show whileR t ρ μ = whileR t ρ' μ'
    by_cases h : ∃ n r, Wh t n ρ' μ' r
    · obtain ⟨n, r, w⟩ := h
      rw [whileR_wh w]
      exact whileR_wh (.go e w)
    · have h2 : ¬ ∃ n r, Wh t n ρ μ r := by
        rintro ⟨n, r, w⟩
        cases w with
        | out z => rw [e] at z; cases z
        | go z w => rw [e] at z; cases z; exact h ⟨_, _, w⟩
      unfold whileR
      rw [dif_neg h, dif_neg h2]
def forR (f : D → Env → Mu → RS) : List D → Env → Mu → RS
  | [], ρ, μ => .nx ρ μ
  | x :: xs, ρ, μ => match f x ρ μ with
    | .nx ρ' μ' => forR f xs (mask ρ ρ') μ'
    | r => r
open Classical in
noncomputable def forH (h : Hd) (f : D → Env → Mu → RS) : List D → Env → Mu → RS
  | [], ρ, μ => if Held h μ then .nx ρ μ else .bad
  | x :: xs, ρ, μ => if Held h μ then (match f x ρ μ with
    | .nx ρ' μ' => forH h f xs (mask ρ ρ') μ'
    | r => r) else .bad
/-- one turn of a while -/
def turnW (mc : Env → M RV) (mb : Env → Mu → RS) (ρ : Env) (μ : Mu) : Turn := match (bnd (mc ρ) fun r => asBool r.d) μ with
  | .ok false μ' => .out (.nx ρ μ')
  | .ok true μ' => match mb ρ μ' with
    | .nx ρ' μ'' => .go (mask ρ ρ') μ''
    | r => .out r
  | _ => .out .bad
/-- one turn of a for -/
def turnF (tg : Tg) (mb : Env → Mu → RS) (x : D) (ρ : Env) (μ : Mu) : RS := match bindT tg x ρ with
  | none => .bad
  | some ρ' => mb ρ' μ
/-- a list's own methods that give nothing -/
def mutL (μ : Mu) : Mth → List D → List D → Option (List D)
  | .append, xs, [d] => if sizeOk (xs.length + 1) = true then some (xs ++ [d]) else none
  | .extend, xs, [d] => match d.lis μ with
    | some ys => if sizeOk (xs.length + ys.length) = true then some (xs ++ ys) else none
    | none => none
  | .insert, xs, [.int i, d] => if (sizeOk (xs.length + 1) && decide (0 ≤ i ∧ i < 9223372036854775808)) = true then some (xs.take i.toNat ++ [d] ++ xs.drop i.toNat) else none
  | _, _, _ => none
theorem Held_nil (μ : Mu) : Held [] μ := fun _ h => absurd h List.not_mem_nil
theorem forH_nil (f : D → Env → Mu → RS) : ∀ (xs : List D) (ρ : Env) (μ : Mu), forH [] f xs ρ μ = forR f xs ρ μ
  | [], ρ, μ => by simp only [forH, forR, if_pos (Held_nil μ)]
  | x :: xs, ρ, μ => by
    simp only [forH, forR, if_pos (Held_nil μ)]
    cases f x ρ μ <;> simp only [forH_nil f xs]
theorem compH_nil {α : Type} (f : α → M (Option D)) : ∀ (xs : List α), compH [] f xs = compR f xs
  | [] => by funext μ; simp only [compH, compR, if_pos (Held_nil μ), ret]
  | x :: xs => by funext μ; simp only [compH, compR, if_pos (Held_nil μ), compH_nil f xs]
def setN (μ : Mu) (n : Nat) (c : Cell) : Mu := μ.set n c
mutual
noncomputable def exS (C : Nat → List D → M RV) : Stm → Env → Mu → RS
  | .asg fz tg e, ρ, μ => lift (ev C e (frz fz ρ)) (frz fz ρ) μ fun r μ' => match tg with
    | .nm i => if i < ρ.length then .nx ((frz fz ρ).set i (some r)) μ' else .bad
    | tg => match bindT tg r.d (frz fz ρ) with
      | some ρ' => .nx ρ' μ'
      | none => .bad
  | .par fz i j a b, ρ, μ => lift (ev C a (frz fz ρ)) (frz fz ρ) μ fun r μ' => lift (ev C b (frz fz ρ)) (frz fz ρ) μ' fun r' μ'' =>
      if i < ρ.length ∧ j < ρ.length then .nx (((frz fz ρ).set i (some (.fr r.d))).set j (some (.fr r'.d))) μ'' else .bad
  | .exp fz e, ρ, μ => lift (ev C e (frz fz ρ)) (frz fz ρ) μ fun _ μ' => .nx (frz fz ρ) μ'
  | .ret fz e, ρ, μ => lift (rvOf e (ev C e (frz fz ρ)) (frz fz ρ)) (frz fz ρ) μ fun r μ' => .rt r μ'
  | .ite fz c a b, ρ, μ => lift (bnd (ev C c (frz fz ρ)) fun r => asBool r.d) (frz fz ρ) μ fun k μ' => if k = true then exB C a (frz fz ρ) μ' else exB C b (frz fz ρ) μ'
  | .whl fz c b, ρ, μ => whileR (turnW (ev C c) (exB C b)) (frz fz ρ) μ
  | .loop fz tg it b, ρ, μ => lift (bnd (ev C it (frz fz ρ)) itemsOf) (frz fz ρ) μ fun p μ' => forH p.2 (turnF tg (exB C b)) p.1 (frz fz ρ) μ'
  | .setv fz x i e, ρ, μ => lift (bnd (ev C e (frz fz ρ)) fun r => ret r.d) (frz fz ρ) μ fun d μ' => lift (bnd (opv i (ev C i (frz fz ρ)) (frz fz ρ)) asInt) (frz fz ρ) μ' fun k μ'' =>
      match (frz fz ρ)[x]? with
      | some (some (.own xs)) => match ixN xs.length k with
        | some j => .nx ((frz fz ρ).set x (some (.own (xs.set j d)))) μ''
        | none => .bad
      | _ => .bad
  | .setc fz o i e, ρ, μ => lift (bnd (ev C e (frz fz ρ)) fun r => ret r.d) (frz fz ρ) μ fun d μ' => lift (opv o (ev C o (frz fz ρ)) (frz fz ρ)) (frz fz ρ) μ' fun c μ1 =>
      lift (bnd (opv i (ev C i (frz fz ρ)) (frz fz ρ)) asInt) (frz fz ρ) μ1 fun k μ'' => match c with
      | .cell n => match μ''[n]? with
        | some (.lst xs) => match ixN xs.length k with
          | some j => .nx (frz fz ρ) (setN μ'' n (.lst (xs.set j d)))
          | none => .bad
        | _ => .bad
      | _ => .bad
  | .mutv fz m x es, ρ, μ => lift (evs C es (frz fz ρ)) (frz fz ρ) μ fun ds μ' => match (frz fz ρ)[x]? with
      | some (some (.own xs)) => match mutL μ' m xs ds with
        | some ys => .nx ((frz fz ρ).set x (some (.own ys))) μ'
        | none => .bad
      | _ => .bad
  | .pas, ρ, μ => .nx ρ μ
  | .rai, _, _ => .bad
noncomputable def exB (C : Nat → List D → M RV) : Blk → Env → Mu → RS
  | .nil, ρ, μ => .nx ρ μ
  | .cons s b, ρ, μ => match exS C s ρ μ with
    | .nx ρ' μ' => exB C b ρ' μ'
    | r => r
end
structure Fn where
  np : Nat
  ns : Nat
  body : Blk
def startE (c : Fn) (ds : List D) : Env := ds.map (fun d => some (.fr d)) ++ List.replicate (c.ns - ds.length) none
/-- the defs, calls k deep at most -/
noncomputable def callD (T : Nat → Option Fn) : Nat → Nat → List D → M RV
  | 0, _, _ => bad
  | k + 1, f, ds => match T f with
    | none => bad
    | some c => fun μ => if ds.length = c.np then (match exB (callD T k) c.body (startE c ds) μ with
      | .nx _ μ' => .ok (.fr .non) μ'
      | .rt r μ' => .ok r μ'
      | .ex x _ μ' => .exc x μ'
      | .bad => .bad) else .bad
end Sx
set_option maxHeartbeats 1000000
/-! # Sx: how data lie in the machine's heap -/
namespace Sx
open PySem L2
/-- what an address is to the core language: frozen data, a list nobody else holds, a cell -/
inductive Tag where
  | frz | own | cel (n : Nat)
abbrev Gh := Addr → Option Tag
def put (G : Gh) (a : Addr) (t : Tag) : Gh := fun b => if b = a then some t else G b
theorem put_same {G : Gh} {a : Addr} {t : Tag} : put G a t a = some t := if_pos rfl
theorem put_ne {G : Gh} {a b : Addr} {t : Tag} (h : b ≠ a) : put G a t b = G b := if_neg h
/-- a tuple that the module's own text has written -/
def KT (K : PySem.W.Frag) (a : Addr) (xs : List V) : Prop :=
  ∃ (o : Obj) (its : Array Value) (n : Nat), K.lookup a = some o ∧ o.cls = .type "tuple" ∧ o.data = .seq its n ∧ its.size ≤ sizeLine ∧ Vals xs its.toList
def FzL (G : Gh) (H : Hp) (a : Addr) (xs : List V) : Prop := G a = some .frz ∧ Rd H a (.lst xs)
def FzT (K : PySem.W.Frag) (G : Gh) (H : Hp) (a : Addr) (xs : List V) : Prop := (G a = some .frz ∧ Rd H a (.tup xs)) ∨ KT K a xs
mutual
inductive Rep (K : PySem.W.Frag) (G : Gh) (H : Hp) : V → D → Prop where
  | non : Rep K G H .non .non
  | bl (b : Bool) : Rep K G H (.bl b) (.bl b)
  | int (i : Int) : Rep K G H (.int i) (.int i)
  | str (x : Str) : Rep K G H (.str x) (.str x)
  | tup {a : Addr} {xs : List V} {ds : List D} : FzT K G H a xs → Reps K G H xs ds → Rep K G H (.ref a) (.tup ds)
  | lst {a : Addr} {xs : List V} {ds : List D} : FzL G H a xs → Reps K G H xs ds → Rep K G H (.ref a) (.lst ds)
  | dic0 {a : Addr} : G a = some .frz → H a = some (.dK []) → Rep K G H (.ref a) (.dic [])
  | cell {a : Addr} {n : Nat} : G a = some (.cel n) → Rep K G H (.ref a) (.cell n)
inductive Reps (K : PySem.W.Frag) (G : Gh) (H : Hp) : List V → List D → Prop where
  | nil : Reps K G H [] []
  | cons {v : V} {vs : List V} {d : D} {ds : List D} : Rep K G H v d → Reps K G H vs ds → Reps K G H (v :: vs) (d :: ds)
end
section
variable {K : PySem.W.Frag} {G G' : Gh} {H H' : Hp}
mutual
theorem Rep.mono (hf : ∀ a, G a = some .frz → G' a = some .frz ∧ H' a = H a) (hc : ∀ a n, G a = some (.cel n) → G' a = some (.cel n)) : ∀ {v : V} {d : D}, Rep K G H v d → Rep K G' H' v d
  | _, _, .non => .non
  | _, _, .bl b => .bl b
  | _, _, .int i => .int i
  | _, _, .str x => .str x
  | _, _, .tup h r => .tup (h.imp (fun z => ⟨(hf _ z.1).1, by unfold Rd; rw [(hf _ z.1).2]; exact z.2⟩) id) (Reps.mono hf hc r)
  | _, _, .lst h r => .lst ⟨(hf _ h.1).1, by unfold Rd; rw [(hf _ h.1).2]; exact h.2⟩ (Reps.mono hf hc r)
  | _, _, .dic0 h e => .dic0 (hf _ h).1 (by rw [(hf _ h).2]; exact e)
  | _, _, .cell h => .cell (hc _ _ h)
theorem Reps.mono (hf : ∀ a, G a = some .frz → G' a = some .frz ∧ H' a = H a) (hc : ∀ a n, G a = some (.cel n) → G' a = some (.cel n)) : ∀ {vs : List V} {ds : List D}, Reps K G H vs ds → Reps K G' H' vs ds
  | _, _, .nil => .nil
  | _, _, .cons h r => .cons (Rep.mono hf hc h) (Reps.mono hf hc r)
end
theorem Reps.len : ∀ {vs : List V} {ds : List D}, Reps K G H vs ds → vs.length = ds.length
  | _, _, .nil => rfl
  | _, _, .cons _ r => by simp [Reps.len r]
theorem Reps.app : ∀ {vs ws : List V} {ds es : List D}, Reps K G H vs ds → Reps K G H ws es → Reps K G H (vs ++ ws) (ds ++ es)
  | _, _, _, _, .nil, r => r
  | _, _, _, _, .cons h r, q => .cons h (Reps.app r q)
theorem Reps.get : ∀ {vs : List V} {ds : List D} {i : Nat} {d : D}, Reps K G H vs ds → ds[i]? = some d → ∃ v, vs[i]? = some v ∧ Rep K G H v d
  | _, _, _, _, .nil, e => by simp at e
  | _, _, 0, _, .cons h r, e => by simp at e; subst e; exact ⟨_, rfl, h⟩
  | _, _, i + 1, _, .cons h r, e => by
    obtain ⟨v, q, z⟩ := Reps.get (i := i) r (by simpa using e)
    exact ⟨v, by simpa using q, z⟩
theorem Reps.getV : ∀ {vs : List V} {ds : List D} {i : Nat} {v : V}, Reps K G H vs ds → vs[i]? = some v → ∃ d, ds[i]? = some d ∧ Rep K G H v d
  | _, _, _, _, .nil, e => by simp at e
  | _, _, 0, _, .cons h r, e => by simp at e; subst e; exact ⟨_, rfl, h⟩
  | _, _, i + 1, _, .cons h r, e => by
    obtain ⟨v, q, z⟩ := Reps.getV (i := i) r (by simpa using e)
    exact ⟨v, by simpa using q, z⟩
theorem Reps.take : ∀ (n : Nat) {vs : List V} {ds : List D}, Reps K G H vs ds → Reps K G H (vs.take n) (ds.take n)
  | 0, _, _, _ => by simpa using .nil
  | n + 1, _, _, .nil => by simpa using .nil
  | n + 1, _, _, .cons h r => by simpa using Reps.cons h (Reps.take n r)
theorem Reps.drop : ∀ (n : Nat) {vs : List V} {ds : List D}, Reps K G H vs ds → Reps K G H (vs.drop n) (ds.drop n)
  | 0, _, _, r => by simpa using r
  | n + 1, _, _, .nil => by simpa using .nil
  | n + 1, _, _, .cons h r => by simpa using Reps.drop n r
theorem Reps.set {v : V} {d : D} (h : Rep K G H v d) : ∀ (i : Nat) {vs : List V} {ds : List D}, Reps K G H vs ds → Reps K G H (vs.set i v) (ds.set i d)
  | _, _, _, .nil => .nil
  | 0, _, _, .cons _ r => .cons h r
  | i + 1, _, _, .cons q r => .cons q (Reps.set h i r)
theorem Reps.rep {vs : List V} {ds : List D} (r : Reps K G H vs ds) : ∀ n : Nat, Reps K G H (List.replicate n vs).flatten (List.replicate n ds).flatten
  | 0 => .nil
  | n + 1 => by
    simp only [List.replicate_succ, List.flatten_cons]
    exact r.app (Reps.rep r n)
theorem Reps.ints : ∀ {vs : List V} {ds : List D} {ns : List Int}, Reps K G H vs ds → intsOf ds = some ns → vs = ns.map V.int
  | _, _, _, .nil, e => by simp [intsOf] at e; subst e; rfl
  | _, _, _, .cons (d := d) h r, e => by
    cases h <;> simp [intsOf] at e
    obtain ⟨ms, e1, rfl⟩ := e
    simp [Reps.ints r e1]
theorem Reps.bools : ∀ {vs : List V} {ds : List D} {bs : List Bool}, Reps K G H vs ds → Sx.bools ds = some bs → vs = bs.map V.bl
  | _, _, _, .nil, e => by simp [Sx.bools] at e; subst e; rfl
  | _, _, _, .cons (d := d) h r, e => by
    cases h <;> simp [Sx.bools] at e
    obtain ⟨ms, e1, rfl⟩ := e
    simp [Reps.bools r e1]
theorem Reps.intsFrom (K : PySem.W.Frag) (G : Gh) (H : Hp) (lo : Int) (n : Nat) : Reps K G H ((List.range n).map fun (k : Nat) => V.int (lo + (k : Int))) (Sx.intsFrom lo n) := by
  unfold Sx.intsFrom
  generalize List.range n = l
  induction l with
  | nil => exact .nil
  | cons k l ih => exact .cons (.int _) ih
end
/-- what stays from one state to a later one -/
def Step (G : Gh) (H : Hp) (G' : Gh) (H' : Hp) : Prop := ∀ a t, G a = some t → G' a = some t ∧ ((∀ n, t ≠ .cel n) → H' a = H a)
section
variable {K : PySem.W.Frag} {G G' G'' : Gh} {H H' H'' : Hp} {μ μ' : Mu}
theorem Step.refl : Step G H G H := fun _ _ e => ⟨e, fun _ => rfl⟩
theorem Step.trans (a : Step G H G' H') (b : Step G' H' G'' H'') : Step G H G'' H'' := fun x t e =>
  ⟨(b x t (a x t e).1).1, fun h => ((b x t (a x t e).1).2 h).trans ((a x t e).2 h)⟩
theorem Step.rep {v : V} {d : D} (s : Step G H G' H') (r : Rep K G H v d) : Rep K G' H' v d :=
  r.mono (fun a e => ⟨(s a _ e).1, (s a _ e).2 fun n z => by cases z⟩) fun a n e => (s a _ e).1
theorem Step.reps {v : List V} {d : List D} (s : Step G H G' H') (r : Reps K G H v d) : Reps K G' H' v d :=
  r.mono (fun a e => ⟨(s a _ e).1, (s a _ e).2 fun n z => by cases z⟩) fun a n e => (s a _ e).1
theorem Step.nn {a : Addr} (s : Step G H G' H') (e : G' a = none) : G a = none := by
  cases q : G a with
  | none => rfl
  | some t => rw [(s a t q).1] at e; cases e
/-- a cell's content -/
inductive CelRep (K : PySem.W.Frag) (G : Gh) (H : Hp) (a : Addr) : Cell → Prop where
  | lst {vs : List V} {ds : List D} : H a = some (.lst vs) → Reps K G H vs ds → CelRep K G H a (.lst ds)
structure StOk (K : PySem.W.Frag) (G : Gh) (H : Hp) (μ : Mu) : Prop where
  there : ∀ a t, G a = some t → H a ≠ none
  cel : ∀ (n : Nat) c, μ[n]? = some c → ∃ a, G a = some (.cel n) ∧ CelRep K G H a c
  one : ∀ a b n, G a = some (.cel n) → G b = some (.cel n) → a = b
  lt : ∀ a n, G a = some (.cel n) → n < μ.length
theorem StOk.fresh {a : Addr} (s : StOk K G H μ) (h : H a = none) : G a = none := by
  cases q : G a with
  | none => rfl
  | some t => exact absurd h (s.there a t q)
/-- a new thing, whatever it is to be -/
theorem Step.new {a : Addr} {t : Tag} {o : HO} (h : G a = none) : Step G H (put G a t) (upd H a o) := fun b u e => by
  have hb : b ≠ a := fun z => by subst z; rw [h] at e; cases e
  exact ⟨by rw [put_ne hb]; exact e, fun _ => upd_ne hb⟩
theorem StOk.new {a : Addr} {t : Tag} {o : HO} (s : StOk K G H μ) (h : H a = none) (ht : ∀ n, t ≠ .cel n) : StOk K (put G a t) (upd H a o) μ := by
  have hn := s.fresh h
  have st : Step G H (put G a t) (upd H a o) := Step.new hn
  have key : ∀ b n, put G a t b = some (.cel n) → G b = some (.cel n) := fun b n e => by
    by_cases hb : b = a
    · subst hb; rw [put_same] at e; exact absurd (Option.some.inj e) (ht n)
    · rw [put_ne hb] at e; exact e
  refine ⟨fun b u e => ?_, fun n c e => ?_, fun b c n e1 e2 => s.one b c n (key b n e1) (key c n e2), fun b n e => s.lt b n (key b n e)⟩
  · by_cases hb : b = a
    · subst hb; rw [upd_same]; exact fun z => by cases z
    · rw [put_ne hb] at e; rw [upd_ne hb]; exact s.there b u e
  · obtain ⟨b, e1, r⟩ := s.cel n c e
    have hb : b ≠ a := fun z => by subst z; rw [hn] at e1; cases e1
    refine ⟨b, (st b _ e1).1, ?_⟩
    cases r with
    | lst e2 r => exact .lst (by rw [upd_ne hb]; exact e2) (st.reps r)
/-- a tag that becomes frozen: what was a list of one's own -/
theorem StOk.retag {a : Addr} (s : StOk K G H μ) (h : G a = some .own) : StOk K (put G a .frz) H μ := by
  have mf : ∀ b, G b = some .frz → put G a .frz b = some .frz ∧ H b = H b := fun b e => by
    by_cases hb : b = a
    · subst hb; exact ⟨put_same, rfl⟩
    · exact ⟨by rw [put_ne hb]; exact e, rfl⟩
  have mc : ∀ b n, G b = some (.cel n) → put G a .frz b = some (.cel n) := fun b n e => by
    have hb : b ≠ a := fun z => by subst z; rw [h] at e; cases e
    rw [put_ne hb]; exact e
  have back : ∀ b n, put G a .frz b = some (.cel n) → G b = some (.cel n) := fun b n e => by
    by_cases hb : b = a
    · subst hb; rw [put_same] at e; cases e
    · rw [put_ne hb] at e; exact e
  refine ⟨fun b u e => ?_, fun n c e => ?_, fun b c n e1 e2 => s.one b c n (back b n e1) (back c n e2), fun b n e => s.lt b n (back b n e)⟩
  · by_cases hb : b = a
    · subst hb; exact s.there b _ h
    · rw [put_ne hb] at e; exact s.there b u e
  · obtain ⟨b, e1, r⟩ := s.cel n c e
    refine ⟨b, mc b n e1, ?_⟩
    cases r with
    | lst e2 r => exact .lst e2 (r.mono mf mc)
theorem rep_retag {a : Addr} {v : V} {d : D} (h : G a = some .own) (r : Rep K G H v d) : Rep K (put G a .frz) H v d :=
  r.mono (fun b e => by
    by_cases hb : b = a
    · subst hb; exact ⟨put_same, rfl⟩
    · exact ⟨by rw [put_ne hb]; exact e, rfl⟩) fun b n e => by
    have hb : b ≠ a := fun z => by subst z; rw [h] at e; cases e
    rw [put_ne hb]; exact e
theorem reps_retag {a : Addr} {v : List V} {d : List D} (h : G a = some .own) (r : Reps K G H v d) : Reps K (put G a .frz) H v d :=
  r.mono (fun b e => by
    by_cases hb : b = a
    · subst hb; exact ⟨put_same, rfl⟩
    · exact ⟨by rw [put_ne hb]; exact e, rfl⟩) fun b n e => by
    have hb : b ≠ a := fun z => by subst z; rw [h] at e; cases e
    rw [put_ne hb]; exact e
/-- what an expression has given: frozen data, or a list that is new (G: as it stood ahead) -/
inductive RvNew (K : PySem.W.Frag) (G G' : Gh) (H' : Hp) : V → RV → Prop where
  | fr {v : V} {d : D} : Rep K G' H' v d → RvNew K G G' H' v (.fr d)
  | own {a : Addr} {vs : List V} {ds : List D} : G a = none → G' a = some .own → H' a = some (.lst vs) → Reps K G' H' vs ds → RvNew K G G' H' (.ref a) (.own ds)
theorem RvNew.later {v : V} {r : RV} (h : RvNew K G G' H' v r) (s : Step G' H' G'' H'') : RvNew K G G'' H'' v r := by
  cases h with
  | fr r => exact .fr (s.rep r)
  | own e1 e2 e3 r => exact .own e1 (s _ _ e2).1 (by rw [(s _ _ e2).2 fun n z => by cases z]; exact e3) (s.reps r)
theorem RvNew.since {v : V} {r : RV} (s : Step G H G' H') (h : RvNew K G' G'' H'' v r) : RvNew K G G'' H'' v r := by
  cases h with
  | fr r => exact .fr r
  | own e1 e2 e3 r => exact .own (s.nn e1) e2 e3 r
/-- freezing -/
theorem RvNew.frz {v : V} {r : RV} (s : Step G H G' H') (o : StOk K G' H' μ) (h : RvNew K G G' H' v r) : ∃ G'', Step G H G'' H' ∧ StOk K G'' H' μ ∧ Rep K G'' H' v r.d := by
  cases h with
  | fr r => exact ⟨G', s, o, r⟩
  | @own a vs ds e1 e2 e3 r =>
    refine ⟨put G' a .frz, fun b t e => ?_, o.retag e2, .lst ⟨put_same, .inl e3⟩ (reps_retag e2 r)⟩
    have hb : b ≠ a := fun z => by subst z; rw [e1] at e; cases e
    rw [put_ne hb]
    exact s b t e
/-! ## what names hold -/
inductive Slot (K : PySem.W.Frag) (G : Gh) (H : Hp) : V → RV → Prop where
  | fr {v : V} {d : D} : Rep K G H v d → Slot K G H v (.fr d)
  | own {a : Addr} {vs : List V} {ds : List D} : G a = some .own → H a = some (.lst vs) → Reps K G H vs ds → Slot K G H (.ref a) (.own ds)
theorem Slot.step {v : V} {r : RV} (h : Slot K G H v r) (s : Step G H G' H') : Slot K G' H' v r := by
  cases h with
  | fr r => exact .fr (s.rep r)
  | own e2 e3 r => exact .own (s _ _ e2).1 (by rw [(s _ _ e2).2 fun n z => by cases z]; exact e3) (s.reps r)
def EnvRep (K : PySem.W.Frag) (G : Gh) (H : Hp) (ρ : Env) (σ : L2.St) : Prop :=
  σ.length = ρ.length ∧ ∀ (i : Nat) r, ρ[i]? = some (some r) → ∃ v, σ[i]? = some (some v) ∧ Slot K G H v r
theorem EnvRep.step {ρ : Env} {σ : L2.St} (h : EnvRep K G H ρ σ) (s : Step G H G' H') : EnvRep K G' H' ρ σ :=
  ⟨h.1, fun i r e => let ⟨v, q, z⟩ := h.2 i r e; ⟨v, q, z.step s⟩⟩
/-- what an expression may look at -/
structure Vw (K : PySem.W.Frag) (G : Gh) (H : Hp) (ρ : Env) (σ : L2.St) (μ : Mu) : Prop where
  st : StOk K G H μ
  env : EnvRep K G H ρ σ
/-- a value that is only looked at -/
inductive RepB (K : PySem.W.Frag) (G : Gh) (H : Hp) : V → D → Prop where
  | fr {v : V} {d : D} : Rep K G H v d → RepB K G H v d
  | own {a : Addr} {vs : List V} {ds : List D} : G a = some .own → H a = some (.lst vs) → Reps K G H vs ds → RepB K G H (.ref a) (.lst ds)
theorem RepB.step {v : V} {d : D} (h : RepB K G H v d) (s : Step G H G' H') : RepB K G' H' v d := by
  cases h with
  | fr r => exact .fr (s.rep r)
  | own e2 e3 r => exact .own (s _ _ e2).1 (by rw [(s _ _ e2).2 fun n z => by cases z]; exact e3) (s.reps r)
theorem RvNew.b {v : V} {r : RV} (h : RvNew K G G' H' v r) : RepB K G' H' v r.d := by
  cases h with
  | fr r => exact .fr r
  | own e1 e2 e3 r => exact .own e2 e3 r
theorem Slot.b {v : V} {r : RV} (h : Slot K G H v r) : RepB K G H v r.d := by
  cases h with
  | fr r => exact .fr r
  | own e2 e3 r => exact .own e2 e3 r
/-- a list, a tuple, by its things -/
theorem RepB.lis {v : V} {d : D} {ds : List D} (o : StOk K G H μ) (h : RepB K G H v d) (e : d.lis μ = some ds) : ∃ a vs, v = .ref a ∧ Rd H a (.lst vs) ∧ Reps K G H vs ds := by
  cases h with
  | own e2 e3 r => simp [D.lis] at e; subst e; exact ⟨_, _, rfl, .inl e3, r⟩
  | fr r =>
    cases r with
    | lst f r => simp [D.lis] at e; subst e; exact ⟨_, _, rfl, f.2, r⟩
    | @cell a n g =>
      simp only [D.lis] at e
      cases q : μ[n]? with
      | none => rw [q] at e; cases e
      | some c =>
        obtain ⟨b, g2, cr⟩ := o.cel n c q
        have := o.one _ _ _ g g2
        subst this
        rw [q] at e
        cases cr with
        | lst e3 r => simp at e; subst e; exact ⟨_, _, rfl, .inl e3, r⟩
    | _ => simp [D.lis] at e
theorem RepB.seq {v : V} {d : D} {ds : List D} (o : StOk K G H μ) (h : RepB K G H v d) (e : d.seq μ = some ds) : ∃ a vs, v = .ref a ∧ (Rd H a (.lst vs) ∨ SqT K H a vs) ∧ Reps K G H vs ds := by
  by_cases hl : d.lis μ = some ds
  · obtain ⟨a, vs, e1, e2, r⟩ := h.lis o hl
    exact ⟨a, vs, e1, .inl e2, r⟩
  · cases h with
    | own e2 e3 r => exact absurd (by simpa [D.seq, D.lis] using e) hl
    | fr r =>
      cases r with
      | tup f r => simp [D.seq] at e; subst e; exact ⟨_, _, rfl, .inr (f.imp And.right id), r⟩
      | lst f r => exact absurd (by simpa [D.seq, D.lis] using e) hl
      | cell g => exact absurd (by simpa [D.seq, D.lis] using e) hl
      | _ => simp [D.seq] at e
theorem Rep.tupI {v : V} {ds : List D} (h : Rep K G H v (.tup ds)) : ∃ a vs, v = .ref a ∧ FzT K G H a vs ∧ Reps K G H vs ds := by
  cases h with
  | tup f r => exact ⟨_, _, rfl, f, r⟩
theorem RepB.tupI {v : V} {ds : List D} (h : RepB K G H v (.tup ds)) : ∃ a vs, v = .ref a ∧ FzT K G H a vs ∧ Reps K G H vs ds := by
  cases h with
  | fr r => exact r.tupI
theorem RepB.intI {v : V} {i : Int} (h : RepB K G H v (.int i)) : v = .int i := by
  cases h with
  | fr r => cases r; rfl
theorem RepB.blI {v : V} {i : Bool} (h : RepB K G H v (.bl i)) : v = .bl i := by
  cases h with
  | fr r => cases r; rfl
theorem RepB.strI {v : V} {i : Str} (h : RepB K G H v (.str i)) : v = .str i := by
  cases h with
  | fr r => cases r; rfl
end
end Sx
set_option maxHeartbeats 1000000
/-! # Sx: each operation on data against the machine's rule -/
namespace Sx
open PySem L2 PyProof.Rows
section
variable {K : PySem.W.Frag} {G G' : Gh} {H H' : Hp} {μ μ' : Mu}
theorem SqL.rd {a : Addr} {xs : List V} (h : Rd H a (.lst xs)) : SqL K H a xs := .inl h
/-- a new tuple, frozen -/
theorem new_tup {p : Addr} {vs : List V} {ds : List D} (o : StOk K G H μ) (r : Reps K G H vs ds) (hp : H p = none) {Q : VK}
    (k : ∀ v G' H', Step G H G' H' → StOk K G' H' μ → RvNew K G G' H' v (.fr (.tup ds)) → Q v H') : Q (.ref p) (upd H p (.tup vs)) :=
  k _ (put G p .frz) _ (Step.new (o.fresh hp)) (o.new hp fun n z => by cases z) (.fr (.tup (.inl ⟨put_same, .inl upd_same⟩) ((Step.new (o.fresh hp)).reps r)))
theorem new_lst {p : Addr} {vs : List V} {ds : List D} (o : StOk K G H μ) (r : Reps K G H vs ds) (hp : H p = none) {Q : VK}
    (k : ∀ v G' H', Step G H G' H' → StOk K G' H' μ → RvNew K G G' H' v (.own ds) → Q v H') : Q (.ref p) (upd H p (.lst vs)) :=
  k _ (put G p .own) _ (Step.new (o.fresh hp)) (o.new hp fun n z => by cases z) (.own (o.fresh hp) put_same upd_same ((Step.new (o.fresh hp)).reps r))
end
/-- what an operation on two things promises -/
def rOp (K : PySem.W.Frag) (F : D → D → M RV) : R2 := fun x y H Q => ∃ G μ d e r μ', StOk K G H μ ∧ RepB K G H x d ∧ RepB K G H y e ∧ F d e μ = .ok r μ' ∧
  ∀ v G' H', Step G H G' H' → StOk K G' H' μ' → RvNew K G G' H' v r → Q v H'
theorem guard_ok {α : Type} {b : Bool} {m : M α} {μ μ' : Mu} {a : α} (h : guard' b m μ = .ok a μ') : b = true ∧ m μ = .ok a μ' := by
  unfold guard' at h
  by_cases c : b = true
  · rw [if_pos c] at h; exact ⟨c, h⟩
  · rw [if_neg c] at h; cases h
theorem ret_ok {α : Type} {μ μ' : Mu} {a b : α} (h : ret a μ = .ok b μ') : a = b ∧ μ = μ' := by
  cases h; exact ⟨rfl, rfl⟩
theorem bnd_inv {α β : Type} {m : M α} {f : α → M β} {μ μ' : Mu} {b : β} (h : bnd m f μ = .ok b μ') : ∃ a μ1, m μ = .ok a μ1 ∧ f a μ1 = .ok b μ' := by
  unfold bnd at h
  split at h
  · exact ⟨_, _, by assumption, h⟩
  · cases h
  · cases h
theorem size_le {n : Nat} (h : sizeOk n = true) : n ≤ sizeLine := by
  have := of_decide_eq_true h
  unfold sizeLine
  omega
section
variable {X : Cx} {pins : List (Addr × Obj)} {s : Shared} {σ : L2.St} {H : Hp}
theorem rd_list (I : Inv X pins σ H s) {l : Addr} {xs : List V} (h : Rd H l (.lst xs)) : xs.length ≤ sizeLine ∧ ∃ (its : List Value) (n : Nat), Vals xs its ∧ xs.length = its.length ∧ s.heap.get? l = some { cls := .type "list", data := .seq its.toArray n } := by
  obtain ⟨z, its, n, r, e⟩ := h.ok I.hok
  exact ⟨z, its, n, r, r.length, e⟩
/-- two lists put together, whoever holds them -/
theorem op_lcat : OpR X (binaryOp .Add) (fun x y H Q => ∃ l b xs zs, x = .ref l ∧ y = .ref b ∧ Rd H l (.lst xs) ∧ Rd H b (.lst zs) ∧ xs.length + zs.length ≤ sizeLine ∧ ∀ p, H p = none → Q (.ref p) (upd H p (.lst (xs ++ zs)))) := by
  intro pins s σ H x y v u Q I rx ry h
  obtain ⟨l, b, xs, zs, rfl, rfl, hl, hb, hz, k⟩ := h
  cases rx; cases ry
  obtain ⟨_, i1, n1, r1, l1, e1⟩ := rd_list I hl
  obtain ⟨_, i2, n2, r2, l2, e2⟩ := rd_list I hb
  have hs : i1.toArray.size + i2.toArray.size ≤ sizeLine := by simp only [List.size_toArray]; omega
  refine PySem.P.add_list e1 e2 ?_ hs
  rw [show i1.toArray ++ i2.toArray = (i1 ++ i2).toArray by simp]
  exact ⟨.ref _, _, I.lnew (t' := s.toks) (r1.append r2) (by simp only [List.length_append]; omega), rfl, k _ I.fresh⟩
/-- a list so many times, whoever holds it -/
theorem op_lrep : OpR X (binaryOp .Mult) (fun x y H Q => ∃ l k xs, x = .ref l ∧ y = .int k ∧ Rd H l (.lst xs) ∧ -(2 ^ 63) ≤ k ∧ k < 2 ^ 63 ∧ xs.length * k.toNat ≤ sizeLine ∧
    ∀ p, H p = none → Q (.ref p) (upd H p (.lst (List.replicate k.toNat xs).flatten))) := by
  intro pins s σ H x y v u Q I rx ry h
  obtain ⟨l, k, xs, rfl, rfl, hl, k1, k2, hz, q⟩ := h
  cases rx
  obtain ⟨t, rfl⟩ := ry
  obtain ⟨_, its, n, r, le, e⟩ := rd_list I hl
  have small : its.toArray.size * k.toNat ≤ sizeLine := by simp only [List.size_toArray]; rw [← le]; exact hz
  have c1 : ¬ (!Builtin.List.listFitsIndex k) = true := by rw [fitsIndex_both k1 k2]; decide
  have c2 : ¬ its.toArray.size * k.toNat > (2 ^ 63 - 1) / 8 := by
    have : (sizeLine : Nat) ≤ (2 ^ 63 - 1) / 8 := by decide
    omega
  have c3 : ¬ Builtin.List.listTooLong (its.toArray.size * k.toNat) = true := by rw [notLongL small]; decide
  have f0 : ∀ m : Nat, List.foldl (fun p q => p ++ q) #[] (List.replicate m its.toArray) = (List.replicate m its).flatten.toArray := fun m => by
    simpa using foldl_rep its m []
  have new : List.foldl (fun p q => p ++ q) #[] (List.replicate (if its.toArray.isEmpty = true then 0 else k.toNat) its.toArray) = (List.replicate k.toNat its).flatten.toArray := by
    rw [f0]
    cases its with
    | nil => simp
    | cons a r' => rw [if_neg (by simp)]
  refine wpAny_binaryOp_repeat_ref (T := "list") (U := "int") (by decide) ⟨_, e, rfl⟩ (fun s' => typeIs_int s' k t) noFill_list_mul F.fills_int_mul F.slot_int_rmul repeat_list F.slot_int_index.lookup
    (call_meets F.slot_int_rmul (typeIs_int s k t) F.entry_int_rmul (F.args_int_rmul_2 _ _) (int___rmul___int_list k t l its.toArray n) ⟨e, rfl, ⟨_, e, rfl⟩, ?_⟩)
  refine call_meets F.slot_list_mul ⟨_, e, rfl⟩ F.entry_list_mul (F.args_list_mul_2 _ _) (AutoListH.list___mul___list_int_3 l its.toArray n k t c1 c2 c3) ⟨e, ?_⟩
  rw [new]
  exact ⟨.ref _, _, I.lnew (t' := s.toks) (r.rep k.toNat) (by rw [PyProof.Rows.lm_len_rep_flat, Nat.mul_comm]; exact hz), rfl, q _ I.fresh⟩
theorem OpR.either {f : Value → Value → Sem Value} {r r' : R2} (h : OpR X f r) (h' : OpR X f r') : OpR X f (fun x y H Q => r x y H Q ∨ r' x y H Q) := by
  intro pins s σ H x y v u Q I rx ry q
  rcases q with q | q
  · exact h pins s σ H x y v u Q I rx ry q
  · exact h' pins s σ H x y v u Q I rx ry q
/-- a // b: the divisor below 2 ^ 9000 -/
theorem op_fdivS : OpR X (binaryOp .FloorDiv) (rI (fun _ j => j ≠ 0 ∧ j.natAbs.log2 < 9000) fun i j => .int (i.fdiv j)) := opI fun _ _ _ _ _ _ _ hc q => floordiv_int hc.1 q (.inl (PyProof.noPylong_of_log2 hc.2))
theorem op_mulS : OpR X (binaryOp .Mult) (rI (fun i j => i.natAbs.log2 + j.natAbs.log2 < 100000000) fun i j => .int (i * j)) := opI fun i j _ _ _ _ _ hc q => mul_int q (by
  have b : ∀ x : Int, Builtin.Int.intBits x ≤ x.natAbs.log2 + 1 := fun x => by
    unfold Builtin.Int.intBits
    split <;> omega
  have h1 := b i
  have h2 := b j
  unfold IntMulOk
  intro z
  have z2 := (Bool.and_eq_true_iff.mp z).2
  unfold Builtin.Int.intTooBig at z2
  have z3 := of_decide_eq_true z2
  rw [show bitsLine = 134217728 by decide] at z3
  omega)
/-- the operators' own names -/
def Op2.py : Op2 → Operator
  | .add => .Add | .sub => .Sub | .mul => .Mult | .fdiv => .FloorDiv | .mod => .Mod | .pow => .Pow
theorem lis_of_rep {K : PySem.W.Frag} {G : Gh} {μ : Mu} {v : V} {d : D} {ds : List D} (o : StOk K G H μ) (h : RepB K G H v d) (e : d.lis μ = some ds) : ∃ a vs, v = .ref a ∧ Rd H a (.lst vs) ∧ Reps K G H vs ds := h.lis o e
theorem op_sx (o : Op2) : OpR X (binaryOp o.py) (rOp X.K (op2 o)) := by
  intro pins s σ H x y v u Q I rx ry h
  obtain ⟨G, μ, d, e, r, μ', so, bx, b2, h, k⟩ := h
  unfold op2 at h
  split at h
  · obtain ⟨rfl, rfl⟩ := ret_ok h
    cases bx.intI; cases b2.intI
    exact op_add pins s σ H _ _ v u Q I rx ry ⟨_, _, rfl, rfl, k _ G H .refl so (.fr (.int _))⟩
  · obtain ⟨c, h⟩ := guard_ok h
    obtain ⟨rfl, rfl⟩ := ret_ok h
    cases bx.strI; cases b2.strI
    exact op_add_str pins s σ H _ _ v u Q I rx ry ⟨_, _, rfl, rfl, size_le c, k _ G H .refl so (.fr (.str _))⟩
  · obtain ⟨c, h⟩ := guard_ok h
    obtain ⟨rfl, rfl⟩ := ret_ok h
    obtain ⟨a, vs, rfl, fa, ra⟩ := bx.tupI
    obtain ⟨b, ws, rfl, fb, rb⟩ := b2.tupI
    refine op_catA pins s σ H _ _ v u Q I rx ry ⟨a, b, vs, ws, rfl, rfl, fa.imp And.right id, fb.imp And.right id, by rw [ra.len, rb.len]; exact size_le c, fun z => ?_, fun _ z => ?_, fun _ _ p hp => new_tup so (ra.app rb) hp k⟩
    · subst z
      cases ra
      exact k _ G H .refl so (.fr (.tup fb rb))
    · subst z
      cases rb
      rw [List.append_nil] at k
      exact k _ G H .refl so (.fr (.tup fa ra))
  · dsimp only at h
    split at h
    · rename_i e1 e2
      obtain ⟨c, h⟩ := guard_ok h
      obtain ⟨rfl, rfl⟩ := ret_ok h
      obtain ⟨a, vs, rfl, fa, ra⟩ := bx.lis so e1
      obtain ⟨b, ws, rfl, fb, rb⟩ := b2.lis so e2
      exact op_lcat pins s σ H _ _ v u Q I rx ry ⟨a, b, vs, ws, rfl, rfl, fa, fb, by rw [ra.len, rb.len]; exact size_le c, fun p hp => new_lst so (ra.app rb) hp k⟩
    · cases h
  · obtain ⟨rfl, rfl⟩ := ret_ok h
    cases bx.intI; cases b2.intI
    exact op_sub pins s σ H _ _ v u Q I rx ry ⟨_, _, rfl, rfl, k _ G H .refl so (.fr (.int _))⟩
  · obtain ⟨c, h⟩ := guard_ok h
    obtain ⟨rfl, rfl⟩ := ret_ok h
    cases bx.intI; cases b2.intI
    exact op_mulS pins s σ H _ _ v u Q I rx ry ⟨_, _, rfl, rfl, of_decide_eq_true c, k _ G H .refl so (.fr (.int _))⟩
  · rename_i xs n
    obtain ⟨c, h⟩ := guard_ok h
    obtain ⟨rfl, rfl⟩ := ret_ok h
    cases b2.intI
    obtain ⟨a, vs, rfl, fa, ra⟩ := bx.tupI
    simp only [Bool.and_eq_true, decide_eq_true_eq, Bool.not_eq_true', List.isEmpty_eq_false_iff] at c
    obtain ⟨⟨c1, c2⟩, c3, c4⟩ := c
    exact op_repT pins s σ H _ _ v u Q I rx ry ⟨a, n, vs, rfl, rfl, fa.imp And.right id, fun z => c3 (List.length_eq_zero_iff.mp (by rw [← ra.len, z]; rfl)), c1, c2, by rw [ra.len]; exact c4, fun p hp => new_tup so (ra.rep _) hp k⟩
  · dsimp only at h
    split at h
    · rename_i e1
      obtain ⟨c, h⟩ := guard_ok h
      obtain ⟨rfl, rfl⟩ := ret_ok h
      cases b2.intI
      obtain ⟨a, vs, rfl, fa, ra⟩ := bx.lis so e1
      rw [Bool.and_eq_true] at c
      have c1 := of_decide_eq_true c.1
      exact op_lrep pins s σ H _ _ v u Q I rx ry ⟨a, _, vs, rfl, rfl, fa, by omega, by omega, by rw [ra.len]; exact size_le c.2, fun p hp => new_lst so (ra.rep _) hp k⟩
    · cases h
  · obtain ⟨c, h⟩ := guard_ok h
    obtain ⟨rfl, rfl⟩ := ret_ok h
    cases bx.intI; cases b2.intI
    unfold divOk at c
    rw [Bool.and_eq_true] at c
    exact op_fdivS pins s σ H _ _ v u Q I rx ry ⟨_, _, rfl, rfl, ⟨of_decide_eq_true c.1, of_decide_eq_true c.2⟩, k _ G H .refl so (.fr (.int _))⟩
  · obtain ⟨c, h⟩ := guard_ok h
    obtain ⟨rfl, rfl⟩ := ret_ok h
    cases bx.intI; cases b2.intI
    exact op_modN pins s σ H _ _ v u Q I rx ry ⟨_, _, rfl, rfl, of_decide_eq_true c, k _ G H .refl so (.fr (.int _))⟩
  · obtain ⟨c, h⟩ := guard_ok h
    obtain ⟨rfl, rfl⟩ := ret_ok h
    cases bx.intI; cases b2.intI
    have c1 := of_decide_eq_true c
    exact op_pow pins s σ H _ _ v u Q I rx ry ⟨_, _, rfl, rfl, ⟨c1.1, by omega, by have := c1.2.2; omega⟩, k _ G H .refl so (.fr (.int _))⟩
  · cases h

/-! ## comparisons -/
def Cmp.py : Cmp → CmpOp
  | .eq => .Eq | .ne => .NotEq | .lt => .Lt | .le => .LtE | .gt => .Gt | .ge => .GtE | .isn => .Is | .notn => .IsNot | .isin => .In | .notin => .NotIn
def rCmp (K : PySem.W.Frag) (F : D → D → M Bool) : R2 := fun x y H Q => ∃ G μ d e r, StOk K G H μ ∧ RepB K G H x d ∧ RepB K G H y e ∧ F d e μ = .ok r μ ∧ Q (.bl r) H
mutual
theorem eqk_shape : ∀ (n : Nat) (d : D), d.eqk n = true → d.py.canLay0 = true ∧ d.py.depth ≤ n
  | n, .non, _ => by simp [D.py, PyData.canLay0, PyData.depth]
  | n, .bl _, _ => by simp [D.py, PyData.canLay0, PyData.depth]
  | n, .int _, _ => by simp [D.py, PyData.canLay0, PyData.depth]
  | n, .str x, h => by simp [D.eqk] at h; simp [D.py, PyData.canLay0, PyData.depth, h]
  | 0, .tup xs, h => by simp [D.eqk] at h
  | 0, .lst xs, h => by simp [D.eqk] at h
  | n + 1, .tup xs, h => by
    simp only [D.eqk] at h
    have q := eqks_shape n xs h
    simp only [D.py, PyData.canLay0, PyData.depth]
    exact ⟨q.1, by omega⟩
  | n + 1, .lst xs, h => by
    simp only [D.eqk] at h
    have q := eqks_shape n xs h
    simp only [D.py, PyData.canLay0, PyData.depth]
    exact ⟨q.1, by omega⟩
  | 0, .dic _, h => by simp [D.eqk] at h
  | 0, .cell _, h => by simp [D.eqk] at h
  | 0, .exc _ _, h => by simp [D.eqk] at h
  | n + 1, .dic _, h => by simp [D.eqk] at h
  | n + 1, .cell _, h => by simp [D.eqk] at h
  | n + 1, .exc _ _, h => by simp [D.eqk] at h
theorem eqks_shape : ∀ (n : Nat) (ds : List D), eqks n ds = true → PyData.canLayAll0 (pys ds) = true ∧ PyData.depthAll (pys ds) ≤ n
  | n, [], _ => by simp [pys, PyData.canLayAll0, PyData.depthAll]
  | n, d :: ds, h => by
    simp only [eqks, Bool.and_eq_true] at h
    have a := eqk_shape n d h.1
    have b := eqks_shape n ds h.2
    simp only [pys, PyData.canLayAll0, PyData.depthAll, Bool.and_eq_true]
    exact ⟨⟨a.1, b.1⟩, by omega⟩
end
theorem shaped_of {d : D} (h : d.eqk 60 = true) : SeqAt.shaped d.py = true := by
  have q := eqk_shape 60 d h
  unfold SeqAt.shaped
  rw [q.1, decide_eq_true (by omega : d.py.depth ≤ 64)]
  rfl
mutual
theorem Rep.dp {K : PySem.W.Frag} {G : Gh} {H : Hp} : ∀ {n : Nat} {v : V} {d : D}, Rep K G H v d → d.eqk n = true → Dp K H v d.py
  | _, _, _, .non, _ => .non
  | _, _, _, .bl b, _ => .bl b
  | _, _, _, .int i, _ => .int i
  | _, _, _, .str x, _ => .str x
  | 0, _, _, .tup f r, h => by simp [D.eqk] at h
  | 0, _, _, .lst f r, h => by simp [D.eqk] at h
  | n + 1, _, _, .tup f r, h => .tup (f.imp And.right id) (Reps.dp (n := n) r (by simpa only [D.eqk] using h))
  | n + 1, _, _, .lst f r, h => .lst (.inl f.2) (Reps.dp (n := n) r (by simpa only [D.eqk] using h))
  | 0, _, _, .dic0 _ _, h => by simp [D.eqk] at h
  | 0, _, _, .cell _, h => by simp [D.eqk] at h
  | n + 1, _, _, .dic0 _ _, h => by simp [D.eqk] at h
  | n + 1, _, _, .cell _, h => by simp [D.eqk] at h
theorem Reps.dp {K : PySem.W.Frag} {G : Gh} {H : Hp} : ∀ {n : Nat} {vs : List V} {ds : List D}, Reps K G H vs ds → eqks n ds = true → DpAll K H vs (pys ds)
  | _, _, _, .nil, _ => .nil
  | n, _, _, .cons r q, h => by
    simp only [eqks, Bool.and_eq_true] at h
    exact .cons (Rep.dp (n := n) r h.1) (Reps.dp (n := n) q h.2)
end
/-- a thing that is looked at, cells seen through -/
theorem RepB.see {K : PySem.W.Frag} {G : Gh} {H : Hp} {μ : Mu} {v : V} {d : D} (o : StOk K G H μ) (h : RepB K G H v d) : (∃ n, d = .cell n) ∧ (∃ a vs ds, v = .ref a ∧ d.see μ = .lst ds ∧ H a = some (.lst vs) ∧ Reps K G H vs ds) ∨ ((∀ n, d ≠ .cell n) ∧ d.see μ = d) ∨ (∃ n, d.see μ = .cell n) := by
  cases d with
  | cell n =>
    cases h with
    | fr r =>
      cases r with
      | cell g =>
        cases q : μ[n]? with
        | none => exact .inr (.inr ⟨n, by simp [D.see, q]⟩)
        | some c =>
          obtain ⟨b, g2, cr⟩ := o.cel n c q
          have := o.one _ _ _ g g2
          subst this
          cases cr with
          | lst e3 r => exact .inl ⟨⟨n, rfl⟩, _, _, _, rfl, by simp [D.see, q], e3, r⟩
  | _ => exact .inr (.inl ⟨nofun, rfl⟩)
theorem RepB.dp {K : PySem.W.Frag} {G : Gh} {H : Hp} {μ : Mu} {v : V} {d : D} (o : StOk K G H μ) (h : RepB K G H v d) (e : (d.see μ).eqk 60 = true) : Dp K H v (d.see μ).py := by
  rcases h.see o with ⟨_, a, vs, ds, rfl, e1, e2, r⟩ | ⟨h1, e1⟩ | ⟨n, e1⟩
  · rw [e1] at e ⊢
    exact .lst (.inl (.inl e2)) (Reps.dp (n := 59) r (by simpa only [D.eqk] using e))
  · rw [e1] at e ⊢
    cases h with
    | fr r => exact r.dp e
    | own _ e2 r => exact .lst (.inl (.inl e2)) (Reps.dp (n := 59) r (by simpa only [D.eqk] using e))
  · rw [e1] at e
    simp [D.eqk] at e
theorem in_sx (hu : X.A.units + 65 < cLine) {pins : List (Addr × Obj)} {s : Shared} {σ : L2.St} {H : Hp} {x y : V} {v u : Value} {Q : VK} (I : Inv X pins σ H s) (rx : RelV x v) (ry : RelV y u) {G : Gh} {μ : Mu} {d e : D} {r : Bool} (so : StOk X.K G H μ) (bx : RepB X.K G H x d) (b2 : RepB X.K G H y e)
    (h : inD μ d e = some r) : (Q (.bl r) H → wpAny (model X.prog X.w) X.A (compareOp .In v u) (EP X pins σ Q) X.xe s) ∧ (Q (.bl (!r)) H → wpAny (model X.prog X.w) X.A (compareOp .NotIn v u) (EP X pins σ Q) X.xe s) := by
  unfold inD at h
  split at h
  · rename_i j e1
    cases d <;> try (cases h; done)
    rename_i i
    cases h
    have he : e = .str j := by
      rcases b2.see so with ⟨_, a, vs, ds', rfl, q1, q2, r'⟩ | ⟨h1, q1⟩ | ⟨n, q1⟩
      · rw [q1] at e1; cases e1
      · rw [q1] at e1; exact e1
      · rw [q1] at e1; cases e1
    subst he
    cases bx.strI; cases b2.strI
    exact ⟨fun k => op_in_str pins s σ H _ _ v u Q I rx ry ⟨_, _, rfl, rfl, k⟩, fun k => op_notIn_str pins s σ H _ _ v u Q I rx ry ⟨_, _, rfl, rfl, k⟩⟩
  · rename_i ds e1
    split at h
    · rename_i c
      cases h
      rw [Bool.and_eq_true] at c
      have dx := bx.dp so c.1
      have sx := shaped_of c.1
      have c2 : (e.see μ).eqk 60 = true := by rw [e1]; simpa only [D.eqk] using c.2
      have dy := b2.dp so c2
      have sy := shaped_of c2
      rw [e1] at dy sy
      obtain ⟨as, r1⟩ := Dp.reads I _ x v dx rx
      obtain ⟨bs, r2⟩ := Dp.reads I _ y u dy ry
      have hp : (ds.any fun z => PyData.eqv z.py (d.see μ).py) = (pys ds).any fun z => PyData.eqv z (d.see μ).py := by
        rw [pys_map, List.any_map]; rfl
      simp only [D.py] at r2 sy
      rw [hp]
      exact ⟨fun k => SeqAt.in_tuple_reads r2 r1 (SeqAt.canLay_of_shaped sy) (SeqAt.canLay_of_shaped sx) (room_in_shaped sx hu) ⟨.bl _, H, I, rfl, k⟩, fun k => SeqAt.notIn_tuple_reads r2 r1 (SeqAt.canLay_of_shaped sy) (SeqAt.canLay_of_shaped sx) (room_in_shaped sx hu) ⟨.bl _, H, I, rfl, k⟩⟩
    · cases h
  · rename_i ds e1
    split at h
    · rename_i c
      cases h
      rw [Bool.and_eq_true] at c
      have dx := bx.dp so c.1
      have sx := shaped_of c.1
      have c2 : (e.see μ).eqk 60 = true := by rw [e1]; simpa only [D.eqk] using c.2
      have dy := b2.dp so c2
      have sy := shaped_of c2
      rw [e1] at dy sy
      obtain ⟨as, r1⟩ := Dp.reads I _ x v dx rx
      obtain ⟨bs, r2⟩ := Dp.reads I _ y u dy ry
      have hp : (ds.any fun z => PyData.eqv z.py (d.see μ).py) = (pys ds).any fun z => PyData.eqv z (d.see μ).py := by
        rw [pys_map, List.any_map]; rfl
      simp only [D.py] at r2 sy
      rw [hp]
      exact ⟨fun k => SeqAt.in_list_reads r2 r1 (SeqAt.canLay_of_shaped sy) (SeqAt.canLay_of_shaped sx) (room_in_shaped sx hu) ⟨.bl _, H, I, rfl, k⟩, fun k => SeqAt.notIn_list_reads r2 r1 (SeqAt.canLay_of_shaped sy) (SeqAt.canLay_of_shaped sx) (room_in_shaped sx hu) ⟨.bl _, H, I, rfl, k⟩⟩
    · cases h
  · cases h
theorem cmp_sx (hu : X.A.units + 65 < cLine) (o : Cmp) : OpR X (compareOp o.py) (rCmp X.K (cmp2 o)) := by
  intro pins s σ H x y v u Q I rx ry h
  obtain ⟨G, μ, d, e, r, so, bx, b2, h, k⟩ := h
  unfold cmp2 at h
  split at h
  · rename_i x y
    obtain ⟨rfl, _⟩ := ret_ok h
    cases bx.strI; cases b2.strI
    refine op_eq pins s σ H _ _ v u Q I rx ry ⟨rfl, ?_⟩
    rw [show decide (V.str x = V.str y) = decide (x = y) by rw [Bool.eq_iff_iff]; simp]
    exact k
  · rename_i x y
    obtain ⟨rfl, _⟩ := ret_ok h
    cases bx.strI; cases b2.strI
    refine op_ne pins s σ H _ _ v u Q I rx ry ⟨rfl, ?_⟩
    rw [show decide (V.str x = V.str y) = decide (x = y) by rw [Bool.eq_iff_iff]; simp]
    exact k
  · obtain ⟨c, h⟩ := guard_ok h
    obtain ⟨rfl, _⟩ := ret_ok h
    rw [Bool.and_eq_true] at c
    exact op_eqD (by omega) pins s σ H _ _ v u Q I rx ry ⟨_, _, bx.dp so c.1, b2.dp so c.2, shaped_of c.1, shaped_of c.2, k⟩
  · obtain ⟨c, h⟩ := guard_ok h
    obtain ⟨rfl, _⟩ := ret_ok h
    rw [Bool.and_eq_true] at c
    exact op_neD (by omega) pins s σ H _ _ v u Q I rx ry ⟨_, _, bx.dp so c.1, b2.dp so c.2, shaped_of c.1, shaped_of c.2, k⟩
  · obtain ⟨rfl, _⟩ := ret_ok h
    cases bx.intI; cases b2.intI
    exact op_lt pins s σ H _ _ v u Q I rx ry ⟨_, _, rfl, rfl, k⟩
  · obtain ⟨rfl, _⟩ := ret_ok h
    cases bx.intI; cases b2.intI
    exact op_le pins s σ H _ _ v u Q I rx ry ⟨_, _, rfl, rfl, k⟩
  · obtain ⟨rfl, _⟩ := ret_ok h
    cases bx.intI; cases b2.intI
    exact op_gt pins s σ H _ _ v u Q I rx ry ⟨_, _, rfl, rfl, k⟩
  · obtain ⟨rfl, _⟩ := ret_ok h
    cases bx.intI; cases b2.intI
    exact op_ge pins s σ H _ _ v u Q I rx ry ⟨_, _, rfl, rfl, k⟩
  · cases q : inD μ d e with
    | none => rw [q] at h; cases h
    | some k' => rw [q] at h; cases h; exact (in_sx hu I rx ry so bx b2 q).1 k
  · cases q : inD μ d e with
    | none => rw [q] at h; cases h
    | some k' => rw [q] at h; cases h; exact (in_sx hu I rx ry so bx b2 q).2 k
  · obtain ⟨rfl, _⟩ := ret_ok h
    have hy : y = .non := by
      cases b2 with
      | fr r => cases r; rfl
    refine op_isN pins s σ H _ _ v u Q I rx ry ⟨hy, ?_⟩
    cases bx with
    | fr r => cases r <;> exact k
    | own _ _ _ => exact k
  · obtain ⟨rfl, _⟩ := ret_ok h
    have hy : y = .non := by
      cases b2 with
      | fr r => cases r; rfl
    refine op_notN pins s σ H _ _ v u Q I rx ry ⟨hy, ?_⟩
    cases bx with
    | fr r => cases r <;> exact k
    | own _ _ _ => exact k
  · cases h
end
end Sx
set_option maxHeartbeats 1000000
/-! # Sx: calls of built-ins, subscripts, slices -/
namespace Sx
open PySem L2 PyProof.Rows
/-! ## how long a shown thing is -/
theorem textFrom_up : ∀ (ts : List Str) (k : Nat) (acc : Str), (textFrom k acc ts).length ≤ acc.length + piled ts
  | [], k, acc => by show acc.length ≤ acc.length + piled []; omega
  | t :: r, k, acc => by
    have h := textFrom_up r (k + 1) (acc ++ (if k > 0 then ", " else "" : String) ++ t)
    have e : (acc ++ (if k > 0 then ", " else "" : String) ++ t).length ≤ acc.length + 2 + t.length := by
      rw [strLen_append, strLen_append]
      by_cases hk : k > 0
      · rw [if_pos hk]; show acc.length + 2 + t.length ≤ _; omega
      · rw [if_neg hk]; show acc.length + 0 + t.length ≤ _; omega
    rw [piled_cons]
    show (textFrom (k + 1) _ r).length ≤ _
    omega
theorem listText_up (ts : List Str) : (listText ts).length ≤ piled ts + 2 := by
  have h := textFrom_up ts 0 "["
  have e1 : ((("[" : String) : Str)).length = 1 := rfl
  have e2 : ((("]" : String) : Str)).length = 1 := rfl
  unfold listText
  rw [strLen_append]
  omega
theorem tupleText_up (ts : List Str) : (tupleText ts).length ≤ piled ts + 3 := by
  unfold tupleText
  rw [strLen_append, strLen_append]
  have e1 : ((("(" : String) : Str)).length = 1 := rfl
  have e2 : ((((if ts.length == 1 then ",)" else ")") : String) : Str)).length ≤ 2 := by
    split
    · exact Nat.le_refl 2
    · exact Nat.le_succ 1
  cases ts with
  | nil =>
    have : (Str.join ", " []).length = 0 := rfl
    omega
  | cons t r =>
    have := join_length_add (t :: r) (by simp)
    omega
theorem int_shown {i : Int} (h : i.natAbs.log2 < 1920) : (Str.ofString (toString i)).length ≤ 1921 := int_text_len_1921 h
mutual
theorem shown_up : ∀ (n : Nat) (d : D), d.eqk n = true → d.shk = true → d.py.shown.length + 2 ≤ 2000 * d.nodes
  | _, .non, _, _ => by show (4 : Nat) + 2 ≤ 2000 * 1; decide
  | _, .bl b, _, _ => by cases b <;> (simp only [D.nodes]; first | (show (4 : Nat) + 2 ≤ 2000 * 1; decide) | (show (5 : Nat) + 2 ≤ 2000 * 1; decide))
  | _, .int i, _, h => by
    simp only [D.shk, decide_eq_true_eq] at h
    have := int_shown h
    simp only [D.nodes]
    show (Str.ofString (toString i)).length + 2 ≤ _
    omega
  | _, .str x, e, _ => by
    simp only [D.eqk] at e
    have := StrLaws.reprText_len x (fun c hc => by
      unfold PyData.strOk at e
      have q : ∀ c ∈ x.cps.toList, c < 1114112 := by
        intro c hc
        have := Array.all_eq_true_iff_forall_mem.mp e c (by simpa using hc)
        simpa using this
      have := q c hc
      exact Nat.lt_of_lt_of_le this (by decide))
    simp only [D.nodes]
    show (reprText x).length + 2 ≤ _
    omega
  | n + 1, .tup xs, e, h => by
    simp only [D.eqk] at e
    simp only [D.shk] at h
    have := showns_up n xs e h
    have t := tupleText_up (PyData.shownAll (pys xs))
    simp only [D.nodes, D.py, PyData.shown]
    omega
  | n + 1, .lst xs, e, h => by
    simp only [D.eqk] at e
    simp only [D.shk] at h
    have := showns_up n xs e h
    have t := listText_up (PyData.shownAll (pys xs))
    simp only [D.nodes, D.py, PyData.shown]
    omega
  | 0, .tup xs, e, _ => by simp [D.eqk] at e
  | 0, .lst xs, e, _ => by simp [D.eqk] at e
  | _, .dic _, _, h => by simp [D.shk] at h
  | _, .cell _, _, h => by simp [D.shk] at h
  | _, .exc _ _, _, h => by simp [D.shk] at h
theorem showns_up : ∀ (n : Nat) (ds : List D), eqks n ds = true → shks ds = true → piled (PyData.shownAll (pys ds)) ≤ 2000 * nodess ds
  | _, [], _, _ => by simp [pys, PyData.shownAll, piled_nil]
  | n, d :: ds, e, h => by
    simp only [eqks, shks, Bool.and_eq_true] at e h
    have a := shown_up n d e.1 h.1
    have b := showns_up n ds e.2 h.2
    have p : 1 ≤ d.nodes := by cases d <;> simp [D.nodes] <;> omega
    simp only [pys, PyData.shownAll, piled_cons, nodess]
    omega
end

mutual
theorem shk_show : ∀ (d : D), d.shk = true → d.py.showable = true
  | .non, _ => by simp [D.py, PyData.showable]
  | .bl _, _ => by simp [D.py, PyData.showable]
  | .int i, h => by simpa [D.py, PyData.showable, D.shk] using h
  | .str _, _ => by simp [D.py, PyData.showable]
  | .tup xs, h => by
    simp only [D.shk] at h
    simpa only [D.py, PyData.showable] using shks_show xs h
  | .lst xs, h => by
    simp only [D.shk] at h
    simpa only [D.py, PyData.showable] using shks_show xs h
  | .dic _, h => by simp [D.shk] at h
  | .cell _, h => by simp [D.shk] at h
  | .exc _ _, h => by simp [D.shk] at h
theorem shks_show : ∀ (ds : List D), shks ds = true → PyData.showableAll (pys ds) = true
  | [], _ => by simp [pys, PyData.showableAll]
  | d :: ds, h => by
    simp only [shks, Bool.and_eq_true] at h
    simp [pys, PyData.showableAll, shk_show d h.1, shks_show ds h.2]
end
/-! ## built-ins of one thing -/
def rB (K : PySem.W.Frag) (F : D → M RV) : List V → Hp → VK → Prop := fun xs H Q => ∃ x G μ d r μ', xs = [x] ∧ StOk K G H μ ∧ RepB K G H x d ∧ F d μ = .ok r μ' ∧
  ∀ v G' H', Step G H G' H' → StOk K G' H' μ' → RvNew K G G' H' v r → Q v H'
/-- where a body runs: room, no repr under way -/
structure Go (k : Nat) (A : Around) : Prop where
  room : Room k A
  gd : A.guards = some []
section
variable {X : Cx}
theorem vals1' {x : V} {us : List Value} (r : Vals [x] us) : ∃ u, us = [u] ∧ RelV x u := by
  cases r with
  | cons a b => cases b; exact ⟨_, rfl, a⟩
theorem len_sx : CallR X (.builtin "len") (rB X.K (blt1 .len)) := by
  intro pins s σ H xs us Q I rx h
  obtain ⟨x, G, μ, d, r, μ', rfl, so, b, h, k⟩ := h
  have fin : ∀ n : Nat, .ok (.fr (.int (n : Int))) μ = R.ok r μ' → Q (.int n) H := fun n e => by
    cases e
    exact k _ G H .refl so (.fr (.int _))
  simp only [blt1] at h
  split at h
  · rename_i ds e
    rcases b.see so with ⟨_, a, vs, ds', rfl, e1, e2, r'⟩ | ⟨h1, e1⟩ | ⟨n, e1⟩
    · rw [e1] at e; cases e
    · rw [e1] at e; subst e
      obtain ⟨a, vs, rfl, f, r'⟩ := b.tupI
      exact call_len pins s σ H _ us Q I rx ⟨_, ds.length, rfl, .inr ⟨vs, f.imp And.right id, r'.len.symm⟩, fin _ h⟩
    · rw [e1] at e; cases e
  · rename_i ds e
    have hl : ∃ a vs, x = .ref a ∧ Rd H a (.lst vs) ∧ Reps X.K G H vs ds := by
      rcases b.see so with ⟨_, a, vs, ds', rfl, e1, e2, r'⟩ | ⟨h1, e1⟩ | ⟨n, e1⟩
      · rw [e1] at e; cases e; exact ⟨a, vs, rfl, .inl e2, r'⟩
      · rw [e1] at e; subst e; exact b.lis so rfl
      · rw [e1] at e; cases e
    obtain ⟨a, vs, rfl, f, r'⟩ := hl
    exact call_len pins s σ H _ us Q I rx ⟨_, ds.length, rfl, .inl ⟨vs, .inl f, r'.len.symm⟩, fin _ h⟩
  · rename_i y e
    have hs : d = .str y := by
      rcases b.see so with ⟨_, a, vs, ds', rfl, e1, e2, r'⟩ | ⟨h1, e1⟩ | ⟨n, e1⟩
      · rw [e1] at e; cases e
      · rw [e1] at e; exact e
      · rw [e1] at e; cases e
    subst hs
    cases b.strI
    split at h
    · rename_i c
      exact call_len pins s σ H _ us Q I rx ⟨_, y.length, rfl, ⟨size_le c, rfl⟩, fin _ h⟩
    · cases h
  · cases h
theorem abs_sx : CallR X (.builtin "abs") (rB X.K (blt1 .abs)) := by
  intro pins s σ H xs us Q I rx h
  obtain ⟨x, G, μ, d, r, μ', rfl, so, b, h, k⟩ := h
  cases d with
  | int i =>
    simp only [blt1] at h
    obtain ⟨rfl, rfl⟩ := ret_ok h
    cases b.intI
    exact call_abs pins s σ H _ us Q I rx ⟨_, rfl, k _ G H .refl so (.fr (.int _))⟩
  | _ => simp only [blt1] at h; cases h
theorem list_sx : CallR X (.type "list") (rB X.K (blt1 .list)) := by
  intro pins s σ H xs us Q I rx h
  obtain ⟨x, G, μ, d, r, μ', rfl, so, b, h, k⟩ := h
  simp only [blt1] at h
  split at h
  · rename_i ds e
    cases h
    obtain ⟨a, vs, rfl, f, r'⟩ := b.seq so e
    exact call_list_of pins s σ H _ us Q I rx ⟨a, vs, rfl, f.imp .inl id, fun l hl => new_lst so r' hl k⟩
  · cases h
theorem tuple_sx : CallR X (.type "tuple") (rB X.K (blt1 .tuple)) := by
  intro pins s σ H xs us Q I rx h
  obtain ⟨x, G, μ, d, r, μ', rfl, so, b, h, k⟩ := h
  by_cases ht : ∃ ds, d = .tup ds
  · obtain ⟨ds, rfl⟩ := ht
    simp only [blt1] at h
    obtain ⟨rfl, rfl⟩ := ret_ok h
    obtain ⟨a, vs, rfl, f, r'⟩ := b.tupI
    exact call_tuple_of pins s σ H _ us Q I rx ⟨a, vs, rfl, .inr ⟨f.imp And.right id, k _ G H .refl so (.fr (.tup f r'))⟩⟩
  · have h' : (match d.seq μ with | some xs => R.ok (RV.fr (.tup xs)) μ | none => .bad) = .ok r μ' := by
      cases d <;> first | exact h | exact absurd ⟨_, rfl⟩ ht
    split at h'
    · rename_i ds e
      cases h'
      have e' : d.lis μ = some ds := by
        cases d <;> first | exact e | exact absurd ⟨_, rfl⟩ ht
      obtain ⟨a, vs, rfl, f, r'⟩ := b.lis so e'
      exact call_tuple_of pins s σ H _ us Q I rx ⟨a, vs, rfl, .inl ⟨.inl f, fun l hl => new_tup so r' hl k⟩⟩
    · cases h'
theorem int_sx : CallR X (.type "int") (rB X.K (blt1 .int)) := by
  intro pins s σ H xs us Q I rx h
  obtain ⟨x, G, μ, d, r, μ', rfl, so, b, h, k⟩ := h
  cases d with
  | int i =>
    simp only [blt1] at h
    obtain ⟨rfl, rfl⟩ := ret_ok h
    cases b.intI
    exact call_int1 pins s σ H _ us Q I rx (.inl ⟨_, rfl, k _ G H .refl so (.fr (.int _))⟩)
  | bl i =>
    simp only [blt1] at h
    obtain ⟨rfl, rfl⟩ := ret_ok h
    cases b.blI
    exact call_int1 pins s σ H _ us Q I rx (.inr ⟨_, rfl, k _ G H .refl so (.fr (.int _))⟩)
  | _ => simp only [blt1] at h; cases h
theorem str_sx : CallR X (.type "str") (rB X.K (blt1 .str)) := by
  intro pins s σ H xs us Q I rx h
  obtain ⟨x, G, μ, d, r, μ', rfl, so, b, h, k⟩ := h
  cases d with
  | int i =>
    simp only [blt1] at h
    obtain ⟨c, h⟩ := guard_ok h
    obtain ⟨rfl, rfl⟩ := ret_ok h
    cases b.intI
    exact call_str_int pins s σ H _ us Q I rx ⟨_, rfl, of_decide_eq_true c, k _ G H .refl so (.fr (.str _))⟩
  | _ => simp only [blt1] at h; cases h
theorem all_sx (hc : X.calm = true) : CallR X (.builtin "all") (rB X.K (blt1 .all)) := by
  intro pins s σ H xs us Q I rx h
  obtain ⟨x, G, μ, d, r, μ', rfl, so, b, h, k⟩ := h
  simp only [blt1] at h
  split at h
  · rename_i bs e
    cases h
    obtain ⟨ds, e1, e2⟩ := Option.bind_eq_some_iff.mp e
    obtain ⟨a, vs, rfl, f, r'⟩ := b.lis so e1
    have hv := r'.bools e2
    subst hv
    exact cr_all hc pins s σ H _ us Q I rx ⟨a, bs, rfl, .inl f, k _ G H .refl so (.fr (.bl _))⟩
  · cases h
theorem any_sx (hc : X.calm = true) : CallR X (.builtin "any") (rB X.K (blt1 .any)) := by
  intro pins s σ H xs us Q I rx h
  obtain ⟨x, G, μ, d, r, μ', rfl, so, b, h, k⟩ := h
  simp only [blt1] at h
  split at h
  · rename_i bs e
    cases h
    obtain ⟨ds, e1, e2⟩ := Option.bind_eq_some_iff.mp e
    obtain ⟨a, vs, rfl, f, r'⟩ := b.lis so e1
    have hv := r'.bools e2
    subst hv
    exact cr_any hc pins s σ H _ us Q I rx ⟨a, bs, rfl, .inl f, k _ G H .refl so (.fr (.bl _))⟩
  · cases h
theorem sum_sx (hc : X.calm = true) : CallR X (.builtin "sum") (rB X.K (blt1 .sum)) := by
  intro pins s σ H xs us Q I rx h
  obtain ⟨x, G, μ, d, r, μ', rfl, so, b, h, k⟩ := h
  simp only [blt1] at h
  split at h
  · rename_i ns e
    cases h
    obtain ⟨ds, e1, e2⟩ := Option.bind_eq_some_iff.mp e
    obtain ⟨a, vs, rfl, f, r'⟩ := b.seq so e1
    have hv := r'.ints e2
    subst hv
    rcases f with f | f
    · exact cr_sum hc pins s σ H _ us Q I rx ⟨a, ns, rfl, .inl f, k _ G H .refl so (.fr (.int _))⟩
    · obtain ⟨u, rfl, ru⟩ := vals1' rx
      cases ru
      obtain ⟨its, rv, p, hz⟩ := I.tuple f
      obtain ⟨o, q1, q2, n, q3⟩ := id p
      obtain ⟨zs, hx⟩ := rv.ints.allInts.items
      have hn : numsOf its.toArray.toList = ns := by rw [show its.toArray.toList = its from rfl, rv.ints.numsOf]
      have pl : s.heap.IsTuple a its.toArray := ⟨o, q1, q2, n, q3⟩
      rw [hx] at pl hn
      rw [nums_intItems] at hn
      refine PySem.W.ktm_sumG (I.ok.hd hc) pl fun h' tk t' hk => ?_
      rw [preSum_eq, List.take_of_length_le (by simp), hn]
      exact ⟨.int _, H, I.kept hk, ⟨_, rfl⟩, k _ G H .refl so (.fr (.int _))⟩
  · cases h
theorem repr_sx {j : Nat} (hg : Go j X.A) : CallR X (.builtin "repr") (rB X.K (blt1 .repr)) := by
  intro pins s σ H xs us Q I rx h
  obtain ⟨x, G, μ, d, r, μ', rfl, so, b, h, k⟩ := h
  simp only [blt1] at h
  obtain ⟨c, h⟩ := guard_ok h
  obtain ⟨rfl, rfl⟩ := ret_ok h
  simp only [Bool.and_eq_true, decide_eq_true_eq] at c
  obtain ⟨c1, c2, c3⟩ := c
  have dp := b.dp so c1
  have sh := eqk_shape 60 _ c1
  have up := shown_up 60 _ c1 c2
  have hz : (d.see μ).py.shown.length ≤ sizeLine := by
    unfold sizeLine
    omega
  have fin := k _ G H .refl so (.fr (.str (d.see μ).py.shown))
  obtain ⟨u, rfl, ru⟩ := vals1' rx
  generalize d.see μ = e at *
  cases e with
  | non => cases dp; cases ru; exact PySem.P.repr_of_none ⟨.str _, H, I.tok _, ⟨_, rfl⟩, fin⟩
  | bl bb => cases dp; cases ru; exact PySem.P.repr_of_bool ⟨.str _, H, I.tok _, ⟨_, rfl⟩, fin⟩
  | int i =>
    cases dp
    obtain ⟨t, rfl⟩ := ru
    simp only [D.shk, decide_eq_true_eq] at c2
    exact PySem.P.repr_of_int c2 ⟨.str _, H, I.tok _, ⟨_, rfl⟩, fin⟩
  | str y =>
    cases dp
    obtain ⟨t, rfl⟩ := ru
    exact PySem.P.repr_of_str ⟨.str _, H, I.tok _, ⟨_, rfl⟩, fin⟩ hz
  | tup ds =>
    obtain ⟨as, rd⟩ := Dp.reads I _ _ _ dp ru
    have hs := shk_show _ c2
    simp only [D.py] at *
    cases dp
    cases ru
    refine repr_of_reads' (h₀ := s.heap) rd hs (PyData.noDict_hsm (PyData.hasDict_of_canLay _ sh.1)) hg.gd (by have := hg.room.un; omega) (fun _ _ q => q) (fun h' u tk hk => ?_) hz
    exact ⟨.str _, H, I.kept hk, ⟨_, rfl⟩, fin⟩
  | lst ds =>
    obtain ⟨as, rd⟩ := Dp.reads I _ _ _ dp ru
    have hs := shk_show _ c2
    simp only [D.py] at *
    cases dp
    cases ru
    refine repr_of_reads' (h₀ := s.heap) rd hs (PyData.noDict_hsm (PyData.hasDict_of_canLay _ sh.1)) hg.gd (by have := hg.room.un; omega) (fun _ _ q => q) (fun h' u tk hk => ?_) hz
    exact ⟨.str _, H, I.kept hk, ⟨_, rfl⟩, fin⟩
  | dic _ => simp [D.shk] at c2
  | cell _ => simp [D.shk] at c2
  | exc _ _ => simp [D.shk] at c2

/-! ## subscripts and slices -/
theorem ix_sx : IxR X (rOp X.K getIt) := by
  intro value slice pins s σ H x y v u Q I rx ry h hs
  obtain ⟨G, μ, d, e, r, μ', so, bx, b2, h, k⟩ := h
  unfold getIt at h
  split at h
  · rename_i xs i e1
    split at h
    · rename_i z e2
      cases h
      cases b2.intI
      obtain ⟨a, vs, rfl, f, r'⟩ := bx.seq so e1
      have hat : ∃ w, L2.atI vs i = some w ∧ Rep X.K G H w z := by
        unfold Sx.atI at e2
        obtain ⟨j, e3, e4⟩ := Option.bind_eq_some_iff.mp e2
        obtain ⟨w, e5, e6⟩ := r'.get e4
        refine ⟨w, ?_, e6⟩
        unfold L2.atI
        rw [r'.len]
        have : L2.ixN xs.length i = some j := e3
        rw [this]
        exact e5
      obtain ⟨w, e5, e6⟩ := hat
      have fin := k _ G H .refl so (.fr e6)
      rcases f with f | f
      · exact ix_list value slice pins s σ H _ _ v u Q I rx ry ⟨a, vs, _, w, rfl, rfl, .inl f, e5, fin⟩ hs
      · exact ix_tup value slice pins s σ H _ _ v u Q I rx ry ⟨a, vs, _, w, rfl, rfl, f, e5, fin⟩ hs
    · cases h
  · cases h
theorem cut_map {K : PySem.W.Frag} {G : Gh} {H : Hp} {vs : List V} {ds : List D} (r : Reps K G H vs ds) (lo hi : Option Int) : Reps K G H (cutV vs lo hi) (cutL ds lo hi) := by
  unfold cutV cutL
  have e : ∀ n, HT.sIx vs.length n lo = sIx ds.length n lo := fun n => by rw [r.len]; cases lo <;> rfl
  have e' : HT.sIx vs.length vs.length hi = sIx ds.length ds.length hi := by rw [r.len]; cases hi <;> rfl
  rw [e 0, e']
  exact (r.drop _).take _
def rSl (K : PySem.W.Frag) : V → Option Int → Option Int → Hp → VK → Prop := fun x lo hi H Q => ∃ G μ d r μ', StOk K G H μ ∧ RepB K G H x d ∧ cut d lo hi μ = .ok r μ' ∧
  ∀ v G' H', Step G H G' H' → StOk K G' H' μ' → RvNew K G G' H' v r → Q v H'
theorem sl_sx : SlR X (rSl X.K) := by
  intro pins s σ H x v vl vu lo hi sl Q I rx hs pl pu h
  obtain ⟨G, μ, d, r, μ', so, b, h, k⟩ := h
  by_cases ht : ∃ ds, d = .tup ds
  · obtain ⟨ds, rfl⟩ := ht
    have h' : R.ok (RV.fr (.tup (cutL ds lo hi))) μ = .ok r μ' := h
    cases h'
    obtain ⟨a, vs, rfl, f, r'⟩ := b.tupI
    refine sl_tupA pins s σ H _ v vl vu lo hi sl Q I rx hs pl pu ⟨a, vs, rfl, f.imp And.right id, fun z => ?_, fun z p hp => new_tup so (cut_map r' lo hi) hp k⟩
    have e : cutL ds lo hi = ds := by
      have e1 : sIx ds.length 0 lo = 0 := by rw [← r'.len]; cases lo <;> exact z.1
      have e2 : sIx ds.length ds.length hi = ds.length := by rw [← r'.len]; cases hi <;> exact z.2
      unfold cutL
      rw [e1, e2]
      simp
    rw [e] at k
    exact k _ G H .refl so (.fr (.tup f r'))
  · have h' : (match d.lis μ with | some xs => R.ok (RV.own (cutL xs lo hi)) μ | none => .bad) = .ok r μ' := by
      cases d <;> first | exact h | exact absurd ⟨_, rfl⟩ ht
    split at h'
    · rename_i ds e
      cases h'
      obtain ⟨a, vs, rfl, f, r'⟩ := b.lis so e
      exact sl_list pins s σ H _ v vl vu lo hi sl Q I rx hs pl pu ⟨a, vs, rfl, .inl f, fun p hp => new_lst so (cut_map r' lo hi) hp k⟩
    · cases h'
/-! ## isinstance -/
def Ty.nm : Ty → String
  | .int => "int" | .bool => "bool" | .str => "str" | .tuple => "tuple" | .list => "list" | .dict => "dict"
/-- the class of a thing -/
def tyN : D → Option String
  | .non => some "NoneType" | .bl _ => some "bool" | .int _ => some "int" | .str _ => some "str" | .tup _ => some "tuple" | .lst _ => some "list" | .dic _ => some "dict"
  | _ => none
theorem tyx {K : PySem.W.Frag} {G : Gh} {H : Hp} {μ : Mu} {x : V} {d : D} {n : String} (so : StOk K G H μ) (b : RepB K G H x d) (h : tyN (d.see μ) = some n) : TyX K H x (.type n) := by
  have hl : ∀ {a : Addr} {vs : List V}, Rd H a (.lst vs) → TyX K H (.ref a) (.type "list") := fun {a vs} f => by
    rcases f with f | ⟨o, f⟩
    · exact .base (.lst f)
    · exact .base (.frz f)
  rcases b.see so with ⟨_, a, vs, ds', rfl, e1, e2, r'⟩ | ⟨h1, e1⟩ | ⟨n, e1⟩
  · rw [e1] at h; cases h; exact hl (.inl e2)
  · rw [e1] at h
    cases b with
    | own _ e _ => cases h; exact hl (.inl e)
    | fr r =>
      cases r with
      | non => cases h; exact .base .non
      | bl _ => cases h; exact .base (.bl _)
      | int _ => cases h; exact .base (.int _)
      | str _ => cases h; exact .base (.str _)
      | tup f _ =>
        cases h
        rcases f with ⟨_, f⟩ | ⟨o, its, n, k1, k2, _⟩
        · rcases f with f | ⟨o, f⟩
          · exact .base (.tup f)
          · exact .fTuple f
        · exact .kTuple k1 k2
      | lst f _ => cases h; exact hl f.2
      | dic0 g e => cases h; exact .base (.dK e)
      | cell _ => cases h
  · rw [e1] at h; cases h
theorem kit_isTy {K : PySem.W.Frag} {d : D} {n : String} (h : tyN d = some n) (t : Ty) : PySem.W.kitOne K (.type n) (.type t.nm) = some (isTy d t) := by
  cases d <;> cases h <;> cases t <;> first | exact kit_ty (r := true) (by decide +kernel) | exact kit_ty (r := false) (by decide +kernel)
theorem kitAny_isTy {K : PySem.W.Frag} {d : D} {n : String} (h : tyN d = some n) : ∀ ts : List Ty, PySem.W.kitAny K (.type n) (ts.map fun t => .type t.nm) = some (ts.any (isTy d))
  | [] => rfl
  | t :: ts => by
    refine kitAny_cons (kit_isTy h t) (fun e => ?_) fun e => ?_
    · rw [List.any_cons, e]; exact kitAny_isTy h ts
    · rw [List.any_cons, e]; rfl
end
end Sx
set_option maxHeartbeats 2000000
/-! # Sx: what an expression of the program does, by the meaning of its core term -/
namespace Sx
open PySem L2 PyProof.Rows
/-! ## readings by meanings -/
def tE (K : PySem.W.Frag) (m : Env → M RV) : TE := fun σ H Q => ∃ G ρ μ r μ', Vw K G H ρ σ μ ∧ m ρ μ = .ok r μ' ∧
  ∀ v G' H', Step G H G' H' → StOk K G' H' μ' → RvNew K G G' H' v r → Q v H'
def tF (K : PySem.W.Frag) (m : Env → M D) : TE := fun σ H Q => ∃ G ρ μ r μ', Vw K G H ρ σ μ ∧ m ρ μ = .ok r μ' ∧
  ∀ v G' H', Step G H G' H' → StOk K G' H' μ' → Rep K G' H' v r → Q v H'
def tL (K : PySem.W.Frag) (m : Env → M D) : TE := fun σ H Q => ∃ G ρ μ r μ', Vw K G H ρ σ μ ∧ m ρ μ = .ok r μ' ∧
  ∀ v G' H', Step G H G' H' → StOk K G' H' μ' → RepB K G' H' v r → Q v H'
def tFs (K : PySem.W.Frag) (m : Env → M (List D)) : TA := fun σ H Q => ∃ G ρ μ r μ', Vw K G H ρ σ μ ∧ m ρ μ = .ok r μ' ∧
  ∀ v G' H', Step G H G' H' → StOk K G' H' μ' → Reps K G' H' v r → Q v H'
def tT (K : PySem.W.Frag) (m : Env → M Bool) : TT := fun σ H Q => ∃ G ρ μ r μ', Vw K G H ρ σ μ ∧ m ρ μ = .ok r μ' ∧
  ∀ G' H', Step G H G' H' → StOk K G' H' μ' → Q r H'
section
variable {X : Cx} {e : Expr}
theorem PEimp {t t' : TE} (h : PE X e t) (i : ∀ σ H Q, t' σ H Q → t σ H Q) : PE X e t' := ⟨fun pins s σ H Q I q => h.run pins s σ H Q I (i σ H Q q)⟩
theorem PTimp {t t' : TT} (h : PT X e t) (i : ∀ σ H Q, t' σ H Q → t σ H Q) : PT X e t' := ⟨fun pins s σ H Q I q => h.run pins s σ H Q I (i σ H Q q)⟩
theorem PAimp {es : List Expr} {t t' : TA} (h : PA X es t) (i : ∀ σ H Q, t' σ H Q → t σ H Q) : PA X es t' := ⟨fun pos pins s σ H Q I q => h.run pos pins s σ H Q I (i σ H Q q)⟩
abbrev PD (X : Cx) (e : Expr) (m : Env → M RV) : Prop := PE X e (tE X.K m)
theorem bad_ne {α : Type} {μ μ' : Mu} {a : α} (h : (bad : M α) μ = .ok a μ') : False := by cases h
/-- frozen -/
theorem pd_frz {m : Env → M RV} (h : PD X e m) : PE X e (tF X.K fun ρ => bnd (m ρ) fun r => ret r.d) := PEimp h fun σ H Q q => by
  obtain ⟨G, ρ, μ, d, μ', vw, eq, k⟩ := q
  obtain ⟨r, μ1, e1, e2⟩ := bnd_inv eq
  obtain ⟨rfl, rfl⟩ := ret_ok e2
  refine ⟨G, ρ, μ, r, μ1, vw, e1, fun v G' H' s so rv => ?_⟩
  obtain ⟨G2, s2, so2, rp⟩ := rv.frz s so
  exact k v G2 H' s2 so2 rp
/-- lent -/
theorem pd_len {m : Env → M RV} (h : PD X e m) : PE X e (tL X.K fun ρ => bnd (m ρ) fun r => ret r.d) := PEimp h fun σ H Q q => by
  obtain ⟨G, ρ, μ, d, μ', vw, eq, k⟩ := q
  obtain ⟨r, μ1, e1, e2⟩ := bnd_inv eq
  obtain ⟨rfl, rfl⟩ := ret_ok e2
  exact ⟨G, ρ, μ, r, μ1, vw, e1, fun v G' H' s so rv => k v G' H' s so rv.b⟩
theorem env_get {K : PySem.W.Frag} {G : Gh} {H : Hp} {ρ : Env} {σ : L2.St} {i : Nat} {r : RV} (h : EnvRep K G H ρ σ) (e : ρ[i]? = some (some r)) : ∃ v, σ[i]? = some (some v) ∧ Slot K G H v r := h.2 i r e
theorem opv_var {i : Nat} {m : M RV} {ρ : Env} {μ μ' : Mu} {d : D} (h : opv (.var i) m ρ μ = .ok d μ') : ∃ r, ρ[i]? = some (some r) ∧ d = r.d ∧ μ' = μ := by
  cases q : ρ[i]? with
  | none => simp [opv, q, bad] at h
  | some o =>
    cases o with
    | none => simp [opv, q, bad] at h
    | some r => simp [opv, q, ret] at h; exact ⟨r, rfl, h.1.symm, h.2.symm⟩
theorem rvOf_var {i : Nat} {m : M RV} {ρ : Env} {μ μ' : Mu} {d : RV} (h : rvOf (.var i) m ρ μ = .ok d μ') : ρ[i]? = some (some d) ∧ μ' = μ := by
  cases q : ρ[i]? with
  | none => simp [rvOf, q, bad] at h
  | some o =>
    cases o with
    | none => simp [rvOf, q, bad] at h
    | some r => simp [rvOf, q, ret] at h; exact ⟨by rw [h.1], h.2.symm⟩
theorem ev_var {C : Nat → List D → M RV} {i : Nat} {ρ : Env} {μ μ' : Mu} {r : RV} (h : ev C (.var i) ρ μ = .ok r μ') : ∃ d, ρ[i]? = some (some (.fr d)) ∧ r = .fr d ∧ μ' = μ := by
  cases q : ρ[i]? with
  | none => simp [ev, q, bad] at h
  | some o =>
    cases o with
    | none => simp [ev, q, bad] at h
    | some r' =>
      cases r' with
      | fr d => simp [ev, q, ret] at h; exact ⟨d, rfl, h.1.symm, h.2.symm⟩
      | own _ => simp [ev, q, bad] at h
      | ownd _ => simp [ev, q, bad] at h
      | wk _ _ => simp [ev, q, bad] at h
/-- a name, lent -/
theorem pd_name {i : Nat} {x : Str} {pos : Pos} (hN : X.N[i]? = some x) (hv : Vis X.env.scope x) (h1 : (x == ("__debug__" : Str)) = false) (h2 : (x == ("__classdict__" : Str)) = false) {m : Env → M RV} :
    PE X (.Name x pos) (tL X.K fun ρ => opv (.var i) (m ρ) ρ) := PEimp (pe_var (i := i) hN hv h1 h2) fun σ H Q q => by
  obtain ⟨G, ρ, μ, d, μ', vw, eq, k⟩ := q
  obtain ⟨r, e1, rfl, rfl⟩ := opv_var eq
  obtain ⟨v, e2, sl⟩ := env_get vw.env e1
  exact ⟨v, e2, k v G H .refl vw.st sl.b⟩
theorem pd_var {C : Nat → List D → M RV} {i : Nat} {x : Str} {pos : Pos} (hN : X.N[i]? = some x) (hv : Vis X.env.scope x) (h1 : (x == ("__debug__" : Str)) = false) (h2 : (x == ("__classdict__" : Str)) = false) :
    PD X (.Name x pos) (ev C (.var i)) := PEimp (pe_var (i := i) hN hv h1 h2) fun σ H Q q => by
  obtain ⟨G, ρ, μ, d, μ', vw, eq, k⟩ := q
  obtain ⟨r, e1, rfl, rfl⟩ := ev_var eq
  obtain ⟨v, e2, sl⟩ := env_get vw.env e1
  cases sl with
  | fr r => exact ⟨v, e2, k v G H .refl vw.st (.fr r)⟩
theorem pd_rv {i : Nat} {x : Str} {pos : Pos} (hN : X.N[i]? = some x) (hv : Vis X.env.scope x) (h1 : (x == ("__debug__" : Str)) = false) (h2 : (x == ("__classdict__" : Str)) = false) {m : Env → M RV} :
    PE X (.Name x pos) (fun σ H Q => ∃ G ρ μ r μ', Vw X.K G H ρ σ μ ∧ rvOf (.var i) (m ρ) ρ μ = .ok r μ' ∧ ∀ v, μ' = μ → Slot X.K G H v r → Q v H) := PEimp (pe_var (i := i) hN hv h1 h2) fun σ H Q q => by
  obtain ⟨G, ρ, μ, d, μ', vw, eq, k⟩ := q
  obtain ⟨e1, rfl⟩ := rvOf_var eq
  obtain ⟨v, e2, sl⟩ := env_get vw.env e1
  exact ⟨v, e2, k v rfl sl⟩
theorem pd_const {t : TE} {v : V} {d : D} (h : PE X e (tC v)) (r : ∀ G H, Rep X.K G H v d) : PD X e (fun _ => ret (.fr d)) := PEimp h fun σ H Q q => by
  obtain ⟨G, ρ, μ, d', μ', vw, eq, k⟩ := q
  obtain ⟨rfl, rfl⟩ := ret_ok eq
  exact k v G H .refl vw.st (.fr (r G H))
theorem pd_tup {es : List Expr} {x1 : Nat} {pos : Pos} {m : Env → M (List D)} (h : PA X es (tFs X.K m)) : PD X (.Tuple es x1 pos) (fun ρ => bnd (m ρ) fun ds => guard' (sizeOk ds.length) (ret (.fr (.tup ds)))) := PEimp (pe_tup h) fun σ H Q q => by
  obtain ⟨G, ρ, μ, d, μ', vw, eq, k⟩ := q
  obtain ⟨ds, μ1, e1, e2⟩ := bnd_inv eq
  obtain ⟨c, e2⟩ := guard_ok e2
  obtain ⟨rfl, rfl⟩ := ret_ok e2
  refine ⟨G, ρ, μ, ds, μ1, vw, e1, fun v G' H' s so rv => ⟨by rw [rv.len]; exact size_le c, fun p hp => ?_⟩⟩
  exact new_tup so rv hp fun v2 G2 H2 s2 so2 r2 => k v2 G2 H2 (s.trans s2) so2 (r2.since s)
theorem pd_lst {es : List Expr} {pos : Pos} {m : Env → M (List D)} (h : PA X es (tFs X.K m)) : PD X (.List es pos) (fun ρ => bnd (m ρ) fun ds => guard' (sizeOk ds.length) (ret (.own ds))) := PEimp (pe_lst h) fun σ H Q q => by
  obtain ⟨G, ρ, μ, d, μ', vw, eq, k⟩ := q
  obtain ⟨ds, μ1, e1, e2⟩ := bnd_inv eq
  obtain ⟨c, e2⟩ := guard_ok e2
  obtain ⟨rfl, rfl⟩ := ret_ok e2
  refine ⟨G, ρ, μ, ds, μ1, vw, e1, fun v G' H' s so rv => ⟨by rw [rv.len]; exact size_le c, fun p hp => ?_⟩⟩
  exact new_lst so rv hp fun v2 G2 H2 s2 so2 r2 => k v2 G2 H2 (s.trans s2) so2 (r2.since s)
/-- a new cell -/
theorem new_cel {K : PySem.W.Frag} {G : Gh} {H : Hp} {μ : Mu} {p : Addr} {vs : List V} {ds : List D} (o : StOk K G H μ) (r : Reps K G H vs ds) (hp : H p = none) {Q : VK}
    (k : ∀ v G' H', Step G H G' H' → StOk K G' H' (μ ++ [.lst ds]) → RvNew K G G' H' v (.fr (.cell μ.length)) → Q v H') : Q (.ref p) (upd H p (.lst vs)) := by
  have hn := o.fresh hp
  have st : Step G H (put G p (.cel μ.length)) (upd H p (.lst vs)) := Step.new hn
  have key : ∀ b n, put G p (.cel μ.length) b = some (.cel n) → (b = p ∧ n = μ.length) ∨ G b = some (.cel n) := fun b n e => by
    by_cases hb : b = p
    · subst hb; rw [put_same] at e; cases e; exact .inl ⟨rfl, rfl⟩
    · rw [put_ne hb] at e; exact .inr e
  refine k _ _ _ st ⟨fun b u e => ?_, fun n c e => ?_, fun a b n e1 e2 => ?_, fun a n e => ?_⟩ (.fr (.cell put_same))
  · by_cases hb : b = p
    · subst hb; rw [upd_same]; exact fun z => by cases z
    · rw [put_ne hb] at e; rw [upd_ne hb]; exact o.there b u e
  · by_cases hl : n < μ.length
    · rw [List.getElem?_append_left hl] at e
      obtain ⟨b, e1, r1⟩ := o.cel n c e
      have hb : b ≠ p := fun z => by subst z; rw [hn] at e1; cases e1
      refine ⟨b, (st b _ e1).1, ?_⟩
      cases r1 with
      | lst e2 r1 => exact .lst (by rw [upd_ne hb]; exact e2) (st.reps r1)
    · have hn : n = μ.length := by
        have := (List.getElem?_eq_some_iff.mp e).1
        simp at this
        omega
      subst hn
      simp at e
      subst e
      exact ⟨p, put_same, .lst upd_same (st.reps r)⟩
  · rcases key a n e1 with ⟨za, zn⟩ | f1
    · rcases key b n e2 with ⟨zb, _⟩ | f2
      · exact za.trans zb.symm
      · exact absurd (o.lt _ _ f2) (by rw [zn]; exact Nat.lt_irrefl _)
    · rcases key b n e2 with ⟨zb, zn⟩ | f2
      · exact absurd (o.lt _ _ f1) (by rw [zn]; exact Nat.lt_irrefl _)
      · exact o.one a b n f1 f2
  · rw [List.length_append]
    rcases key a n e with ⟨_, rfl⟩ | e
    · exact Nat.lt_succ_self _
    · exact Nat.lt_succ_of_lt (o.lt a n e)
theorem cel_of {K : PySem.W.Frag} {G G1 : Gh} {H H1 : Hp} {μ : Mu} {v : V} {xs : List D} (s : Step G H G1 H1) (o : StOk K G1 H1 μ) (n : RvNew K G G1 H1 v (.own xs)) :
    ∃ G2, Step G H G2 H1 ∧ StOk K G2 H1 (μ ++ [.lst xs]) ∧ RvNew K G G2 H1 v (.fr (.cell μ.length)) := by
  cases n with
  | @own p vs _ hg hn h r =>
    have mf : ∀ b, G1 b = some .frz → put G1 p (.cel μ.length) b = some .frz ∧ H1 b = H1 b := fun b e => by
      have hb : b ≠ p := fun z => by subst z; rw [hn] at e; cases e
      exact ⟨by rw [put_ne hb]; exact e, rfl⟩
    have mc : ∀ b n, G1 b = some (.cel n) → put G1 p (.cel μ.length) b = some (.cel n) := fun b n e => by
      have hb : b ≠ p := fun z => by subst z; rw [hn] at e; cases e
      rw [put_ne hb]; exact e
    have key : ∀ b n, put G1 p (.cel μ.length) b = some (.cel n) → (b = p ∧ n = μ.length) ∨ G1 b = some (.cel n) := fun b n e => by
      by_cases hb : b = p
      · subst hb; rw [put_same] at e; cases e; exact .inl ⟨rfl, rfl⟩
      · rw [put_ne hb] at e; exact .inr e
    refine ⟨put G1 p (.cel μ.length), fun b t e => ?_, ⟨fun b u e => ?_, fun n c e => ?_, fun a b n e1 e2 => ?_, fun a n e => ?_⟩, .fr (.cell put_same)⟩
    · have hb : b ≠ p := fun z => by subst z; rw [hg] at e; cases e
      rw [put_ne hb]
      exact s b t e
    · by_cases hb : b = p
      · subst hb; rw [h]; exact fun z => by cases z
      · rw [put_ne hb] at e; exact o.there b u e
    · by_cases hl : n < μ.length
      · rw [List.getElem?_append_left hl] at e
        obtain ⟨b, e1, r1⟩ := o.cel n c e
        refine ⟨b, mc b n e1, ?_⟩
        cases r1 with
        | lst e2 r1 => exact .lst e2 (r1.mono mf mc)
      · have hn : n = μ.length := by
          have := (List.getElem?_eq_some_iff.mp e).1
          simp at this
          omega
        subst hn
        simp at e
        subst e
        exact ⟨p, put_same, .lst h (r.mono mf mc)⟩
    · rcases key a n e1 with ⟨za, zn⟩ | f1
      · rcases key b n e2 with ⟨zb, _⟩ | f2
        · exact za.trans zb.symm
        · exact absurd (o.lt _ _ f2) (by rw [zn]; exact Nat.lt_irrefl _)
      · rcases key b n e2 with ⟨zb, zn⟩ | f2
        · exact absurd (o.lt _ _ f1) (by rw [zn]; exact Nat.lt_irrefl _)
        · exact o.one a b n f1 f2
    · rw [List.length_append]
      rcases key a n e with ⟨_, rfl⟩ | e
      · exact Nat.lt_succ_self _
      · exact Nat.lt_succ_of_lt (o.lt a n e)
theorem newc_tE {K : PySem.W.Frag} {m : Env → M RV} {σ : L2.St} {H : Hp} {Q : VK} (q : tE K (fun ρ => bnd (m ρ) newC) σ H Q) : tE K m σ H Q := by
  obtain ⟨G, ρ, μ, d, μ', vw, eq, k⟩ := q
  obtain ⟨r, μ1, e1, e2⟩ := bnd_inv eq
  cases r with
  | own xs =>
    cases e2
    refine ⟨G, ρ, μ, .own xs, μ1, vw, e1, fun v G1 H1 s1 so1 r1 => ?_⟩
    obtain ⟨G2, s2, so2, r2⟩ := cel_of s1 so1 r1
    exact k v G2 H1 s2 so2 r2
  | _ => cases e2
theorem pd_newc {e : Expr} {m : Env → M RV} (h : PD X e m) : PD X e fun ρ => bnd (m ρ) newC := PEimp h fun σ H Q q => newc_tE q
theorem pd_cel {es : List Expr} {pos : Pos} {m : Env → M (List D)} (h : PA X es (tFs X.K m)) : PD X (.List es pos) (fun ρ => bnd (m ρ) fun ds => guard' (sizeOk ds.length) fun μ => .ok (.fr (.cell μ.length)) (μ ++ [.lst ds])) := PEimp (pe_lst h) fun σ H Q q => by
  obtain ⟨G, ρ, μ, d, μ', vw, eq, k⟩ := q
  obtain ⟨ds, μ1, e1, e2⟩ := bnd_inv eq
  obtain ⟨c, e2⟩ := guard_ok e2
  cases e2
  refine ⟨G, ρ, μ, ds, μ1, vw, e1, fun v G' H' s so rv => ⟨by rw [rv.len]; exact size_le c, fun p hp => ?_⟩⟩
  exact new_cel so rv hp fun v2 G2 H2 s2 so2 r2 => k v2 G2 H2 (s.trans s2) so2 (r2.since s)
theorem pds_nil : PA X [] (tFs X.K fun _ => ret []) := PAimp pa_nil fun σ H Q q => by
  obtain ⟨G, ρ, μ, d, μ', vw, eq, k⟩ := q
  obtain ⟨rfl, rfl⟩ := ret_ok eq
  exact k [] G H .refl vw.st .nil
theorem star_cons {e : Expr} {es : List Expr} {env : PySem.Env} (h : PySem.W.isStarred e = false) : starEach (e :: es) env = (false, eval e env) :: starEach es env := by
  cases e <;> first | rfl | cases h
theorem pds_cons {es : List Expr} {m : Env → M D} {ms : Env → M (List D)} (hs : PySem.W.isStarred e = false) (h : PE X e (tF X.K m)) (r : PA X es (tFs X.K ms)) :
    PA X (e :: es) (tFs X.K fun ρ => bnd (m ρ) fun d => bnd (ms ρ) fun ds => ret (d :: ds)) := PAimp (pa_cons h r (star_cons hs)) fun σ H Q q => by
  obtain ⟨G, ρ, μ, d, μ', vw, eq, k⟩ := q
  obtain ⟨x, μ1, e1, e0⟩ := bnd_inv eq
  obtain ⟨xs, μ2, e2, e3⟩ := bnd_inv e0
  obtain ⟨rfl, rfl⟩ := ret_ok e3
  refine ⟨G, ρ, μ, x, μ1, vw, e1, fun v G1 H1 s1 so1 r1 => ⟨G1, ρ, μ1, xs, μ2, ⟨so1, vw.env.step s1⟩, e2, fun vs G2 H2 s2 so2 r2 => ?_⟩⟩
  exact k _ G2 H2 (s1.trans s2) so2 (.cons (s2.rep r1) r2)
/-- two, lent, then an operation -/
theorem two_sx {K : PySem.W.Frag} {ma mb : Env → M D} {F : D → D → M RV} {σ : L2.St} {H : Hp} {Q : VK} (q : tE K (fun ρ => bnd (ma ρ) fun x => bnd (mb ρ) fun y => F x y) σ H Q) : tOp (rOp K F) (tL K ma) (tL K mb) σ H Q := by
  obtain ⟨G, ρ, μ, d, μ', vw, eq, k⟩ := q
  obtain ⟨x, μ1, e1, e2⟩ := bnd_inv eq
  obtain ⟨y, μ2, e2, e3⟩ := bnd_inv e2
  refine ⟨G, ρ, μ, x, μ1, vw, e1, fun v G1 H1 s1 so1 r1 => ⟨G1, ρ, μ1, y, μ2, ⟨so1, vw.env.step s1⟩, e2, fun w G2 H2 s2 so2 r2 => ?_⟩⟩
  exact ⟨G2, μ2, x, y, d, μ', so2, r1.step s2, r2, e3, fun v3 G3 H3 s3 so3 r3 => k v3 G3 H3 (s1.trans (s2.trans s3)) so3 (r3.since (s1.trans s2))⟩
theorem pd_op {a b : Expr} {pos : Pos} {ma mb : Env → M D} (o : Op2) (ha : PE X a (tL X.K ma)) (hb : PE X b (tL X.K mb)) : PD X (.BinOp a o.py b pos) (fun ρ => bnd (ma ρ) fun x => bnd (mb ρ) fun y => op2 o x y) :=
  PEimp (pe_op (op_sx o) ha hb) fun σ H Q q => two_sx q
theorem cmp2_same {o : Cmp} {x y : D} {μ μ' : Mu} {r : Bool} (h : cmp2 o x y μ = .ok r μ') : μ' = μ := by
  unfold cmp2 at h
  split at h <;> first
    | (obtain ⟨_, h⟩ := guard_ok h; exact (ret_ok h).2.symm)
    | exact (ret_ok h).2.symm
    | (generalize inD μ x y = o at h; cases o <;> first | (cases h; done) | (cases h; rfl))
    | exact (bad_ne h).elim
theorem pd_cmp {a b : Expr} {pos : Pos} {ma mb : Env → M D} (o : Cmp) (hu : X.A.units + 65 < cLine) (hm : behindInMarks o.py b = false) (ha : PE X a (tL X.K ma)) (hb : PE X b (tL X.K mb)) :
    PE X (.Compare a [o.py] [b] pos) (tE X.K fun ρ => bnd (ma ρ) fun x => bnd (mb ρ) fun y => bnd (cmp2 o x y) fun k => ret (.fr (.bl k))) ∧
    PT X (.Compare a [o.py] [b] pos) (tT X.K fun ρ => bnd (ma ρ) fun x => bnd (mb ρ) fun y => cmp2 o x y) := by
  refine ⟨PEimp (pe_cmpR (cmp_sx hu o) ha hb hm) fun σ H Q q => ?_, PTimp (pt_cmpR (cmp_sx hu o) ha hb hm) fun σ H Q q => ?_⟩
  · obtain ⟨G, ρ, μ, d, μ', vw, eq, k⟩ := q
    obtain ⟨x, μ1, e1, e2⟩ := bnd_inv eq
    obtain ⟨y, μ2, e2, e3⟩ := bnd_inv e2
    obtain ⟨b, μ3, e5, e4⟩ := bnd_inv e3
    obtain ⟨rfl, rfl⟩ := ret_ok e4
    obtain rfl := cmp2_same e5
    refine ⟨G, ρ, μ, x, μ1, vw, e1, fun v G1 H1 s1 so1 r1 => ⟨G1, ρ, μ1, y, _, ⟨so1, vw.env.step s1⟩, e2, fun w G2 H2 s2 so2 r2 => ?_⟩⟩
    exact ⟨G2, _, x, y, b, so2, r1.step s2, r2, e5, k _ G2 H2 (s1.trans s2) so2 (.fr (.bl b))⟩
  · obtain ⟨G, ρ, μ, d, μ', vw, eq, k⟩ := q
    obtain ⟨x, μ1, e1, e2⟩ := bnd_inv eq
    obtain ⟨y, μ2, e2, e3⟩ := bnd_inv e2
    obtain rfl := cmp2_same e3
    refine ⟨G, ρ, μ, x, μ1, vw, e1, fun v G1 H1 s1 so1 r1 => ⟨G1, ρ, μ1, y, _, ⟨so1, vw.env.step s1⟩, e2, fun w G2 H2 s2 so2 r2 => ?_⟩⟩
    exact ⟨G2, _, x, y, d, so2, r1.step s2, r2, e3, d, rfl, k G2 H2 (s1.trans s2) so2⟩
/-- a value that is a truth, as a test -/
def asB (m : Env → M RV) : Env → M Bool := fun ρ => bnd (m ρ) fun r => asBool r.d
theorem asBool_inv {d : D} {μ μ' : Mu} {k : Bool} (h : asBool d μ = .ok k μ') : d = .bl k ∧ μ = μ' := by
  cases d <;> first | (cases h; done) | (obtain ⟨rfl, rfl⟩ := ret_ok h; exact ⟨rfl, rfl⟩)
theorem asInt_inv {d : D} {μ μ' : Mu} {k : Int} (h : asInt d μ = .ok k μ') : d = .int k ∧ μ = μ' := by
  cases d <;> first | (cases h; done) | (obtain ⟨rfl, rfl⟩ := ret_ok h; exact ⟨rfl, rfl⟩)
theorem rv_bl {K : PySem.W.Frag} {G G' : Gh} {H' : Hp} {v : V} {r : RV} {k : Bool} (h : RvNew K G G' H' v r) (e : r.d = .bl k) : v = .bl k := by
  cases h with
  | fr r => simp only [RV.d] at e; subst e; cases r; rfl
  | own _ _ _ _ => cases e
theorem rv_int {K : PySem.W.Frag} {G G' : Gh} {H' : Hp} {v : V} {r : RV} {k : Int} (h : RvNew K G G' H' v r) (e : r.d = .int k) : v = .int k := by
  cases h with
  | fr r => simp only [RV.d] at e; subst e; cases r; rfl
  | own _ _ _ _ => cases e
theorem pt_of {m : Env → M RV} (h : PD X e m) (he : ∀ whole, isTrue e X.env whole = (do let v ← whole; standAt e.pos; holding [v] (truthy v))) : PT X e (tT X.K (asB m)) := PTimp (pt_val h he) fun σ H Q q => by
  obtain ⟨G, ρ, μ, d, μ', vw, eq, k⟩ := q
  obtain ⟨r, μ1, e1, e2⟩ := bnd_inv eq
  obtain ⟨e3, rfl⟩ := asBool_inv e2
  exact ⟨G, ρ, μ, r, μ1, vw, e1, fun v G1 H1 s1 so1 r1 => ⟨d, rv_bl r1 e3, k G1 H1 s1 so1⟩⟩
end
end Sx
set_option maxHeartbeats 2000000
/-! # Sx: tests, chains, subscripts, calls -/
namespace Sx
open PySem L2 PyProof.Rows
def tBv (K : PySem.W.Frag) (m : Env → M Bool) : TE := tE K fun ρ => bnd (m ρ) fun k => ret (.fr (.bl k))
def cA (m : Env → M RV) (ms : Env → M Bool) : Env → M Bool := fun ρ => bnd (m ρ) fun r => bnd (asBool r.d) fun k => if k = true then ms ρ else ret false
def cO (m : Env → M RV) (ms : Env → M Bool) : Env → M Bool := fun ρ => bnd (m ρ) fun r => bnd (asBool r.d) fun k => if k = true then ret true else ms ρ
section
variable {X : Cx} {a b c : Expr} {pos : Pos}
theorem tBv_inv {K : PySem.W.Frag} {m : Env → M Bool} {σ : L2.St} {H : Hp} {Q : VK} (q : tBv K m σ H Q) : ∃ G ρ μ k μ', Vw K G H ρ σ μ ∧ m ρ μ = .ok k μ' ∧ ∀ G' H', Step G H G' H' → StOk K G' H' μ' → Q (.bl k) H' := by
  obtain ⟨G, ρ, μ, d, μ', vw, eq, k⟩ := q
  obtain ⟨b, μ1, e1, e2⟩ := bnd_inv eq
  obtain ⟨rfl, rfl⟩ := ret_ok e2
  exact ⟨G, ρ, μ, b, μ1, vw, e1, fun G' H' s so => k _ G' H' s so (.fr (.bl b))⟩
theorem tBv_mk {K : PySem.W.Frag} {m : Env → M Bool} {σ : L2.St} {H : Hp} {Q : VK} {G : Gh} {ρ : Env} {μ μ' : Mu} {k : Bool} (vw : Vw K G H ρ σ μ) (e : m ρ μ = .ok k μ')
    (h : ∀ v G' H', Step G H G' H' → StOk K G' H' μ' → RvNew K G G' H' v (.fr (.bl k)) → Q v H') : tBv K m σ H Q := ⟨G, ρ, μ, .fr (.bl k), μ', vw, by simp [bnd, e, ret], h⟩
/-- of a truth's own reading -/
theorem cA_inv {m : Env → M RV} {ms : Env → M Bool} {ρ : Env} {μ μ' : Mu} {k : Bool} (h : cA m ms ρ μ = .ok k μ') : ∃ r μ1 j, m ρ μ = .ok r μ1 ∧ r.d = .bl j ∧ (if j = true then ms ρ μ1 = .ok k μ' else k = false ∧ μ' = μ1) := by
  obtain ⟨r, μ1, e1, e2⟩ := bnd_inv h
  obtain ⟨j, μ2, e3, e4⟩ := bnd_inv e2
  obtain ⟨e5, rfl⟩ := asBool_inv e3
  refine ⟨r, μ1, j, e1, e5, ?_⟩
  cases j with
  | true => exact e4
  | false => obtain ⟨rfl, rfl⟩ := ret_ok e4; exact ⟨rfl, rfl⟩
theorem cO_inv {m : Env → M RV} {ms : Env → M Bool} {ρ : Env} {μ μ' : Mu} {k : Bool} (h : cO m ms ρ μ = .ok k μ') : ∃ r μ1 j, m ρ μ = .ok r μ1 ∧ r.d = .bl j ∧ (if j = true then k = true ∧ μ' = μ1 else ms ρ μ1 = .ok k μ') := by
  obtain ⟨r, μ1, e1, e2⟩ := bnd_inv h
  obtain ⟨j, μ2, e3, e4⟩ := bnd_inv e2
  obtain ⟨e5, rfl⟩ := asBool_inv e3
  refine ⟨r, μ1, j, e1, e5, ?_⟩
  cases j with
  | true => obtain ⟨rfl, rfl⟩ := ret_ok e4; exact ⟨rfl, rfl⟩
  | false => exact e4
theorem one_A (m : Env → M RV) (ρ : Env) (μ μ' : Mu) (k : Bool) : cA m (fun _ => ret true) ρ μ = .ok k μ' → asB m ρ μ = .ok k μ' := fun h => by
  obtain ⟨r, μ1, j, e1, e2, e3⟩ := cA_inv h
  cases j with
  | true => obtain ⟨rfl, rfl⟩ := ret_ok e3; simp [asB, bnd, e1, e2, asBool, ret]
  | false => obtain ⟨rfl, rfl⟩ := e3; simp [asB, bnd, e1, e2, asBool, ret]
theorem one_O (m : Env → M RV) (ρ : Env) (μ μ' : Mu) (k : Bool) : cO m (fun _ => ret false) ρ μ = .ok k μ' → asB m ρ μ = .ok k μ' := fun h => by
  obtain ⟨r, μ1, j, e1, e2, e3⟩ := cO_inv h
  cases j with
  | true => obtain ⟨rfl, rfl⟩ := e3; simp [asB, bnd, e1, e2, asBool, ret]
  | false => obtain ⟨rfl, rfl⟩ := ret_ok e3; simp [asB, bnd, e1, e2, asBool, ret]
theorem asB_inv {m : Env → M RV} {ρ : Env} {μ μ' : Mu} {k : Bool} (h : asB m ρ μ = .ok k μ') : ∃ r, m ρ μ = .ok r μ' ∧ r.d = .bl k := by
  obtain ⟨r, μ1, e1, e2⟩ := bnd_inv h
  obtain ⟨e3, rfl⟩ := asBool_inv e2
  exact ⟨r, e1, e3⟩
theorem tE_asB {K : PySem.W.Frag} {m : Env → M RV} {σ : L2.St} {H : Hp} {Q : VK} (q : tBv K (asB m) σ H Q) : tE K m σ H Q := by
  obtain ⟨G, ρ, μ, k, μ', vw, eq, h⟩ := tBv_inv q
  obtain ⟨r, e1, e2⟩ := asB_inv eq
  exact ⟨G, ρ, μ, r, μ', vw, e1, fun v G' H' s so rv => by rw [rv_bl rv e2]; exact h G' H' s so⟩
theorem pd_and1 {m : Env → M RV} (h : PD X a m) : PE X (.BoolOp .And [a] pos) (tBv X.K (cA m fun _ => ret true)) := PEimp (pe_one h) fun σ H Q q => by
  obtain ⟨G, ρ, μ, k, μ', vw, eq, h⟩ := tBv_inv q
  obtain ⟨r, e1, e2⟩ := asB_inv (one_A m ρ μ μ' k eq)
  exact ⟨G, ρ, μ, r, μ', vw, e1, fun v G' H' s so rv => by rw [rv_bl rv e2]; exact h G' H' s so⟩
theorem pd_or1 {m : Env → M RV} (h : PD X a m) : PE X (.BoolOp .Or [a] pos) (tBv X.K (cO m fun _ => ret false)) := PEimp (pe_one h) fun σ H Q q => by
  obtain ⟨G, ρ, μ, k, μ', vw, eq, h⟩ := tBv_inv q
  obtain ⟨r, e1, e2⟩ := asB_inv (one_O m ρ μ μ' k eq)
  exact ⟨G, ρ, μ, r, μ', vw, e1, fun v G' H' s so rv => by rw [rv_bl rv e2]; exact h G' H' s so⟩
theorem pd_and2 {rest : List Expr} {m : Env → M RV} {ms : Env → M Bool} (h : PD X a m) (h2 : PE X (.BoolOp .And (b :: rest) pos) (tBv X.K ms)) : PE X (.BoolOp .And (a :: b :: rest) pos) (tBv X.K (cA m ms)) := PEimp (pe_and h h2) fun σ H Q q => by
  obtain ⟨G, ρ, μ, k, μ', vw, eq, h⟩ := tBv_inv q
  obtain ⟨r, μ1, j, e1, e2, e3⟩ := cA_inv eq
  refine ⟨G, ρ, μ, r, μ1, vw, e1, fun v G1 H1 s1 so1 r1 => ⟨j, rv_bl r1 e2, ?_⟩⟩
  cases j with
  | true =>
    rw [if_pos rfl]
    exact tBv_mk ⟨so1, vw.env.step s1⟩ e3 fun v2 G2 H2 s2 so2 r2 => by rw [rv_bl r2 rfl]; exact h G2 H2 (s1.trans s2) so2
  | false =>
    rw [if_neg Bool.false_ne_true]
    obtain ⟨rfl, rfl⟩ := e3
    exact h G1 H1 s1 so1
theorem pd_or2 {rest : List Expr} {m : Env → M RV} {ms : Env → M Bool} (h : PD X a m) (h2 : PE X (.BoolOp .Or (b :: rest) pos) (tBv X.K ms)) : PE X (.BoolOp .Or (a :: b :: rest) pos) (tBv X.K (cO m ms)) := PEimp (pe_or h h2) fun σ H Q q => by
  obtain ⟨G, ρ, μ, k, μ', vw, eq, h⟩ := tBv_inv q
  obtain ⟨r, μ1, j, e1, e2, e3⟩ := cO_inv eq
  refine ⟨G, ρ, μ, r, μ1, vw, e1, fun v G1 H1 s1 so1 r1 => ⟨j, rv_bl r1 e2, ?_⟩⟩
  cases j with
  | false =>
    rw [if_neg Bool.false_ne_true]
    exact tBv_mk ⟨so1, vw.env.step s1⟩ e3 fun v2 G2 H2 s2 so2 r2 => by rw [rv_bl r2 rfl]; exact h G2 H2 (s1.trans s2) so2
  | true =>
    rw [if_pos rfl]
    obtain ⟨rfl, rfl⟩ := e3
    exact h G1 H1 s1 so1
abbrev PWt (X : Cx) (e : Expr) (m : Env → M Bool) : Prop := PW X e (tT X.K m)
theorem PWimp {e : Expr} {t t' : TT} (h : PW X e t) (i : ∀ σ H Q, t' σ H Q → t σ H Q) : PW X e t' := ⟨fun w pins s σ H Q I q => h.run w pins s σ H Q I (i σ H Q q)⟩
theorem pt_and1 {m : Env → M RV} (h : PT X a (tT X.K (asB m))) : PW X (.BoolOp .And [a] pos) (tT X.K (cA m fun _ => ret true)) := PWimp (pw_and1 h) fun σ H Q q => by
  obtain ⟨G, ρ, μ, k, μ', vw, eq, h⟩ := q
  exact ⟨G, ρ, μ, k, μ', vw, one_A m ρ μ μ' k eq, h⟩
theorem pt_or1 {m : Env → M RV} (h : PT X a (tT X.K (asB m))) : PW X (.BoolOp .Or [a] pos) (tT X.K (cO m fun _ => ret false)) := PWimp (pw_or1 h) fun σ H Q q => by
  obtain ⟨G, ρ, μ, k, μ', vw, eq, h⟩ := q
  exact ⟨G, ρ, μ, k, μ', vw, one_O m ρ μ μ' k eq, h⟩
theorem pt_and2 {rest : List Expr} {m : Env → M RV} {ms : Env → M Bool} (h : PT X a (tT X.K (asB m))) (h2 : PW X (.BoolOp .And (b :: rest) pos) (tT X.K ms)) : PW X (.BoolOp .And (a :: b :: rest) pos) (tT X.K (cA m ms)) := PWimp (pw_and h h2) fun σ H Q q => by
  obtain ⟨G, ρ, μ, k, μ', vw, eq, h⟩ := q
  obtain ⟨r, μ1, j, e1, e2, e3⟩ := cA_inv eq
  refine ⟨G, ρ, μ, j, μ1, vw, by simp [asB, bnd, e1, e2, asBool, ret], fun G1 H1 s1 so1 => ?_⟩
  cases j with
  | true =>
    rw [if_pos rfl]
    exact ⟨G1, ρ, μ1, k, μ', ⟨so1, vw.env.step s1⟩, e3, fun G2 H2 s2 so2 => h G2 H2 (s1.trans s2) so2⟩
  | false =>
    rw [if_neg Bool.false_ne_true]
    obtain ⟨rfl, rfl⟩ := e3
    exact h G1 H1 s1 so1
theorem pt_or2 {rest : List Expr} {m : Env → M RV} {ms : Env → M Bool} (h : PT X a (tT X.K (asB m))) (h2 : PW X (.BoolOp .Or (b :: rest) pos) (tT X.K ms)) : PW X (.BoolOp .Or (a :: b :: rest) pos) (tT X.K (cO m ms)) := PWimp (pw_or h h2) fun σ H Q q => by
  obtain ⟨G, ρ, μ, k, μ', vw, eq, h⟩ := q
  obtain ⟨r, μ1, j, e1, e2, e3⟩ := cO_inv eq
  refine ⟨G, ρ, μ, j, μ1, vw, by simp [asB, bnd, e1, e2, asBool, ret], fun G1 H1 s1 so1 => ?_⟩
  cases j with
  | false =>
    rw [if_neg Bool.false_ne_true]
    exact ⟨G1, ρ, μ1, k, μ', ⟨so1, vw.env.step s1⟩, e3, fun G2 H2 s2 so2 => h G2 H2 (s1.trans s2) so2⟩
  | true =>
    rw [if_pos rfl]
    obtain ⟨rfl, rfl⟩ := e3
    exact h G1 H1 s1 so1
theorem pd_not {m : Env → M RV} (h : PD X a m) : PD X (.UnaryOp .Not a pos) (fun ρ => bnd (m ρ) fun r => bnd (asBool r.d) fun k => ret (.fr (.bl (!k)))) := PEimp (pe_not h) fun σ H Q q => by
  obtain ⟨G, ρ, μ, d, μ', vw, eq, k⟩ := q
  obtain ⟨r, μ1, e1, e2⟩ := bnd_inv eq
  obtain ⟨j, μ2, e3, e4⟩ := bnd_inv e2
  obtain ⟨e5, rfl⟩ := asBool_inv e3
  obtain ⟨rfl, rfl⟩ := ret_ok e4
  exact ⟨G, ρ, μ, r, μ1, vw, e1, fun v G1 H1 s1 so1 r1 => ⟨j, rv_bl r1 e5, k _ G1 H1 s1 so1 (.fr (.bl _))⟩⟩
theorem ptd_not {m : Env → M RV} (h : PT X a (tT X.K (asB m))) : PT X (.UnaryOp .Not a pos) (tT X.K (asB fun ρ => bnd (m ρ) fun r => bnd (asBool r.d) fun k => ret (.fr (.bl (!k))))) := PTimp (pt_not h) fun σ H Q q => by
  obtain ⟨G, ρ, μ, d, μ', vw, eq, k⟩ := q
  obtain ⟨r, e1, e2⟩ := asB_inv eq
  obtain ⟨r', μ1, e3, e4⟩ := bnd_inv e1
  obtain ⟨j, μ2, e5, e6⟩ := bnd_inv e4
  obtain ⟨e7, rfl⟩ := asBool_inv e5
  obtain ⟨rfl, rfl⟩ := ret_ok e6
  simp only [RV.d, D.bl.injEq] at e2
  subst e2
  exact ⟨G, ρ, μ, j, μ1, vw, by simp [asB, bnd, e3, e7, asBool, ret], fun G1 H1 s1 so1 => k G1 H1 s1 so1⟩
theorem pd_neg {m : Env → M RV} (h : PD X a m) : PD X (.UnaryOp .USub a pos) (fun ρ => bnd (m ρ) fun r => bnd (asInt r.d) fun k => ret (.fr (.int (-k)))) := PEimp (pe_un un_neg h) fun σ H Q q => by
  obtain ⟨G, ρ, μ, d, μ', vw, eq, k⟩ := q
  obtain ⟨r, μ1, e1, e2⟩ := bnd_inv eq
  obtain ⟨j, μ2, e3, e4⟩ := bnd_inv e2
  obtain ⟨e5, rfl⟩ := asInt_inv e3
  obtain ⟨rfl, rfl⟩ := ret_ok e4
  exact ⟨G, ρ, μ, r, μ1, vw, e1, fun v G1 H1 s1 so1 r1 => ⟨j, rv_int r1 e5, k _ G1 H1 s1 so1 (.fr (.int _))⟩⟩
theorem pd_ife {mc ma mb : Env → M RV} (hc : PT X c (tT X.K (asB mc))) (ha : PD X a ma) (hb : PD X b mb) : PD X (.IfExp c a b pos) (fun ρ => bnd (mc ρ) fun r => bnd (asBool r.d) fun k => if k = true then ma ρ else mb ρ) := PEimp (pe_ifExp hc ha hb) fun σ H Q q => by
  obtain ⟨G, ρ, μ, d, μ', vw, eq, k⟩ := q
  obtain ⟨r, μ1, e1, e2⟩ := bnd_inv eq
  obtain ⟨j, μ2, e3, e4⟩ := bnd_inv e2
  obtain ⟨e5, rfl⟩ := asBool_inv e3
  refine ⟨G, ρ, μ, j, μ1, vw, by simp [asB, bnd, e1, e5, asBool, ret], fun G1 H1 s1 so1 => ?_⟩
  cases j with
  | true => rw [if_pos rfl]; exact ⟨G1, ρ, μ1, d, μ', ⟨so1, vw.env.step s1⟩, e4, fun v G2 H2 s2 so2 r2 => k v G2 H2 (s1.trans s2) so2 (r2.since s1)⟩
  | false => rw [if_neg Bool.false_ne_true]; exact ⟨G1, ρ, μ1, d, μ', ⟨so1, vw.env.step s1⟩, e4, fun v G2 H2 s2 so2 r2 => k v G2 H2 (s1.trans s2) so2 (r2.since s1)⟩
theorem pd_chn {ma mb mc : Env → M D} (o p : Cmp) (hu : X.A.units + 65 < cLine) (hm : lastMarks [o.py, p.py] [b, c] = false) (ha : PE X a (tL X.K ma)) (hb : PE X b (tL X.K mb)) (hc : PE X c (tL X.K mc)) {m : Env → M RV}
    (em : m = fun ρ => bnd (ma ρ) fun x => bnd (mb ρ) fun y => bnd (cmp2 o x y) fun k => if k = true then bnd (mc ρ) fun z => bnd (cmp2 p y z) fun k => ret (.fr (.bl k)) else ret (.fr (.bl false))) :
    PD X (.Compare a [o.py, p.py] [b, c] pos) m ∧ PT X (.Compare a [o.py, p.py] [b, c] pos) (tT X.K (asB m)) := by
  have key : ∀ {σ : L2.St} {H : Hp} {Q : VK}, (∃ G ρ μ r μ', Vw X.K G H ρ σ μ ∧ m ρ μ = .ok r μ' ∧ ∀ k G' H', r = .fr (.bl k) → Step G H G' H' → StOk X.K G' H' μ' → Q (.bl k) H') →
      tChain (rCmp X.K (cmp2 o)) (rCmp X.K (cmp2 p)) (tL X.K ma) (tL X.K mb) (tL X.K mc) σ H Q := by
    rintro σ H Q ⟨G, ρ, μ, r, μ', vw, eq, k⟩
    rw [em] at eq
    obtain ⟨x, μ1, e1, f1⟩ := bnd_inv eq
    obtain ⟨y, μ2, e2, f2⟩ := bnd_inv f1
    obtain ⟨j, μ3, e3, f3⟩ := bnd_inv f2
    obtain rfl := cmp2_same e3
    refine ⟨G, ρ, μ, x, μ1, vw, e1, fun v G1 H1 s1 so1 r1 => ⟨G1, ρ, μ1, y, _, ⟨so1, vw.env.step s1⟩, e2, fun w G2 H2 s2 so2 r2 => ?_⟩⟩
    refine ⟨G2, _, x, y, j, so2, r1.step s2, r2, e3, j, rfl, ?_⟩
    cases j with
    | false =>
      rw [if_neg Bool.false_ne_true] at f3 ⊢
      obtain ⟨rfl, rfl⟩ := ret_ok f3
      exact k false G2 H2 rfl (s1.trans s2) so2
    | true =>
      rw [if_pos rfl] at f3 ⊢
      obtain ⟨z, μ4, e4, f4⟩ := bnd_inv f3
      obtain ⟨j2, μ5, e5, f5⟩ := bnd_inv f4
      obtain rfl := cmp2_same e5
      obtain ⟨rfl, rfl⟩ := ret_ok f5
      refine ⟨G2, ρ, _, z, _, ⟨so2, vw.env.step (s1.trans s2)⟩, e4, fun v3 G3 H3 s3 so3 r3 => ?_⟩
      exact ⟨G3, _, y, z, j2, so3, r2.step s3, r3, e5, k j2 G3 H3 rfl (s1.trans (s2.trans s3)) so3⟩
  refine ⟨PEimp (pe_chain (cmp_sx hu o) (cmp_sx hu p) ha hb hc hm) fun σ H Q q => ?_, PTimp (pt_chain (cmp_sx hu o) (cmp_sx hu p) ha hb hc hm) fun σ H Q q => ?_⟩
  · obtain ⟨G, ρ, μ, r, μ', vw, eq, k⟩ := q
    exact key ⟨G, ρ, μ, r, μ', vw, eq, fun j G' H' e s so => k _ G' H' s so (by rw [e]; exact .fr (.bl j))⟩
  · obtain ⟨G, ρ, μ, r, μ', vw, eq, k⟩ := q
    obtain ⟨rv, e1, e2⟩ := asB_inv eq
    exact key ⟨G, ρ, μ, rv, μ', vw, e1, fun j G' H' e s so => by
      subst e
      simp only [RV.d, D.bl.injEq] at e2
      subst e2
      exact ⟨j, rfl, k G' H' s so⟩⟩
theorem pd_idx {ma mb : Env → M D} (hs : PlainIx b) (ha : PE X a (tL X.K ma)) (hb : PE X b (tL X.K mb)) : PD X (.Subscript a b pos) (fun ρ => bnd (ma ρ) fun x => bnd (mb ρ) fun y => getIt x y) :=
  PEimp (pe_ix ix_sx ha hb hs) fun σ H Q q => two_sx q
def tO (K : PySem.W.Frag) (m : Env → M (Option Int)) : TO := fun σ H Q => ∃ G ρ μ r μ', Vw K G H ρ σ μ ∧ m ρ μ = .ok r μ' ∧ ∀ G' H', Step G H G' H' → StOk K G' H' μ' → Q r H'
theorem po_no {m : Env → M RV} : PO X none (tO X.K fun ρ => optI .mis (m ρ)) := by
  refine ⟨fun pins s σ H Q I q => po_none.run pins s σ H Q I ?_⟩
  obtain ⟨G, ρ, μ, d, μ', vw, eq, k⟩ := q
  obtain ⟨rfl, rfl⟩ := ret_ok eq
  exact k G H .refl vw.st
theorem po_so {m : Env → M RV} {t : Tm} (ht : ∀ m : M RV, optI t m = bnd m fun r => bnd (asInt r.d) fun i => ret (some i)) (h : PD X a m) : PO X (some a) (tO X.K fun ρ => optI t (m ρ)) := by
  refine ⟨fun pins s σ H Q I q => (po_some h).run pins s σ H Q I ?_⟩
  obtain ⟨G, ρ, μ, d, μ', vw, eq, k⟩ := q
  dsimp only at eq
  rw [ht] at eq
  obtain ⟨r, μ1, e1, e2⟩ := bnd_inv eq
  obtain ⟨j, μ2, e3, e4⟩ := bnd_inv e2
  obtain ⟨e5, rfl⟩ := asInt_inv e3
  obtain ⟨rfl, rfl⟩ := ret_ok e4
  exact ⟨G, ρ, μ, r, μ1, vw, e1, fun v G1 H1 s1 so1 r1 => ⟨j, rv_int r1 e5, k G1 H1 s1 so1⟩⟩
theorem pd_slc {lo hi : Option Expr} {p2 : Pos} {ma : Env → M D} {ml mh : Env → M (Option Int)} (ha : PE X a (tL X.K ma)) (hl : PO X lo (tO X.K ml)) (hh : PO X hi (tO X.K mh)) :
    PD X (.Subscript a (.Slice lo hi none p2) pos) (fun ρ => bnd (ma ρ) fun x => bnd (ml ρ) fun l => bnd (mh ρ) fun h => cut x l h) := PEimp (pe_slice sl_sx ha hl hh) fun σ H Q q => by
  obtain ⟨G, ρ, μ, d, μ', vw, eq, k⟩ := q
  obtain ⟨x, μ1, e1, f1⟩ := bnd_inv eq
  obtain ⟨l, μ2, e2, f2⟩ := bnd_inv f1
  obtain ⟨h, μ3, e3, f3⟩ := bnd_inv f2
  refine ⟨G, ρ, μ, x, μ1, vw, e1, fun v G1 H1 s1 so1 r1 => ⟨G1, ρ, μ1, l, μ2, ⟨so1, vw.env.step s1⟩, e2, fun G2 H2 s2 so2 => ⟨G2, ρ, μ2, h, μ3, ⟨so2, vw.env.step (s1.trans s2)⟩, e3, fun G3 H3 s3 so3 => ?_⟩⟩⟩
  exact ⟨G3, μ3, x, d, μ', so3, r1.step (s2.trans s3), f3, fun v4 G4 H4 s4 so4 r4 => k v4 G4 H4 (s1.trans (s2.trans (s3.trans s4))) so4 (r4.since (s1.trans (s2.trans s3)))⟩
/-- one thing, lent, to a built-in -/
theorem one_sx {K : PySem.W.Frag} {ma : Env → M D} {F : D → M RV} {σ : L2.St} {H : Hp} {Q : VK} (q : tE K (fun ρ => bnd (ma ρ) F) σ H Q) : tCB (rB K F) (tCons (tL K ma) tNil) σ H Q := by
  obtain ⟨G, ρ, μ, d, μ', vw, eq, k⟩ := q
  obtain ⟨x, μ1, e1, f1⟩ := bnd_inv eq
  exact ⟨G, ρ, μ, x, μ1, vw, e1, fun v G1 H1 s1 so1 r1 => ⟨v, G1, μ1, x, d, μ', rfl, so1, r1, f1, fun v2 G2 H2 s2 so2 r2 => k v2 G2 H2 (s1.trans s2) so2 (r2.since s1)⟩⟩
theorem star_one {e : Expr} {env : PySem.Env} {pos : Pos} : (backTo pos (starEach [] env)).any (·.1) = false := rfl
theorem pd_blF {x : Str} {id : String} {p : Pos} {ma : Env → M D} {F : D → M RV} (hc : CallR X (.builtin id) (rB X.K F)) (hg : Gl X x) (hm : X.mg x = none) (hv : bootBuiltins x = some (.builtin id)) (hn : x ≠ "__name__") (hd : (x == ("__debug__" : Str)) = false)
    (hs : PySem.W.isStarred a = false) (ha : PE X a (tL X.K ma)) : PD X (.Call (.Name x p) [a] [] pos) (fun ρ => bnd (ma ρ) F) :=
  PEimp (pe_callB hc hg hm hv (pa_cons ha pa_nil (star_cons hs)) hn hd (star_cons hs) rfl) fun σ H Q q => one_sx q
theorem pd_blT {x : Str} {T : String} {p : Pos} {ma : Env → M D} {F : D → M RV} (hc : CallR X (.type T) (rB X.K F)) (hg : Gl X x) (hm : X.mg x = none) (hv : bootBuiltins x = some (.type T)) (hn : x ≠ "__name__") (hd : (x == ("__debug__" : Str)) = false)
    (hs : PySem.W.isStarred a = false) (ha : PE X a (tL X.K ma)) : PD X (.Call (.Name x p) [a] [] pos) (fun ρ => bnd (ma ρ) F) :=
  PEimp (pe_callTy hc hg hm hv (pa_cons ha pa_nil (star_cons hs)) hn hd (star_cons hs) rfl) fun σ H Q q => one_sx q
end
end Sx
set_option maxHeartbeats 2000000
/-! # Sx: defs and their calls; isinstance; comprehensions -/
namespace Sx
open PySem L2 PyProof.Rows
theorem Go.mono {j k : Nat} {A : Around} (g : Go k A) (h : j ≤ k) : Go j A := ⟨g.room.mono h, g.gd⟩
theorem Go.deeper {k : Nat} {A : Around} (g : Go (k + 1) A) (env : PySem.Env) : Go k (A.deeper env) := ⟨g.room.deeper env, g.gd⟩
/-- what a def promises, called where Go k holds -/
structure FnG (P : Program) (w : World) (K : PySem.W.Frag) (mg : Str → Option Value) (base : Heap) (CX : CXT) (k : Nat) (f : Addr) (fd : FuncData) (n : Nat) (ps : List Str) (sp : Sp) : Prop where
  np : ps.length = n
  go : ∀ (A : Around) (outer : List PySem.Env) (s : Shared) (H : Hp) (args : Args) (us : List Value) (vs : List V) (Q : VK) (E : XK), Go k A → Env0 P w K mg base A outer s H → BindsTo s fd args (ps.zip us) → Vals vs us → vs.length = n → sp vs H Q E →
    codeAny (model P w) A (.call (.ref f) args) (CR CX outer P w H s Q E) s
section
variable {X : Cx} {CX : CXT} {k n : Nat} {f : Addr} {fd : FuncData} {ps : List Str} {sp : Sp} {E : XK} {x : Str} {p pos : Pos}
theorem run_sx {pins : List (Addr × Obj)} {σ : L2.St} {H : Hp} {s : Shared} {Q : VK} {us : List Value} {vs : List V} (F : FnG X.prog X.w X.K X.mg X.base CX k f fd n ps sp) (hr : Go k X.A) (hb : Binds X.K fd ps []) (hx : Passes CX X E)
    (I : Inv X pins σ H s) (r : Vals vs us) (hn : vs.length = n) (h : sp vs H Q E) : wpAny (model X.prog X.w) X.A (call (.ref f) us) (EP X pins σ Q) X.xe s := by
  have hl : (us ++ []).length = ps.length := by rw [List.append_nil, ← r.length, hn, F.np]
  have hb' := hb s us I.kIn hl
  rw [List.append_nil] at hb'
  refine wpAny_call (codeAny_mono (F.go X.A X.stack s H ⟨us, []⟩ us vs Q E hr I.env0 hb' r hn h) fun res s' hq => ?_)
  match res, hq with
  | .error e, hq => exact hx pins σ H s e s' I hq
  | .ok (.ret u), hq => exact I.after hq
  | .ok .next, hq => exact hq.elim
  | .ok .brk, hq => exact hq.elim
  | .ok .cont, hq => exact hq.elim
def tSp (sp : Sp) (n : Nat) (E : XK) (t : TA) : TE := fun σ H Q => t σ H fun vs H1 => vs.length = n ∧ sp vs H1 Q E
theorem pe_fn {e : Expr} {es : List Expr} {t : TA} (F : FnG X.prog X.w X.K X.mg X.base CX k f fd n ps sp) (hr : Go k X.A) (hg : Gl X x) (hm : X.mg x = some (.ref f)) (hk : PySem.W.keepIn X.K (.ref f) = true) (hb : Binds X.K fd ps []) (hx : Passes CX X E)
    (ha : PA X (e :: es) t) (hd : (x == ("__debug__" : Str)) = false) (hs : PySem.W.isStarred e = false) (hpl : (backTo pos (starEach es X.env)).any (·.1) = false) :
    PE X (.Call (.Name x p) (e :: es) [] pos) (tSp sp n E t) := by
  refine ⟨fun pins s σ H Q I h => wpAny_Call_Name_kw (ld_glob I hg hm ?_ hd)⟩
  refine PySem.W.callWith_K (h₀ := X.base) I.ok.mod.kin hk ?_ (star_cons hs) hpl
  exact thn (ha.run pos pins s σ H _ I h) fun us s1 ⟨vs, H1, I1, r, hn, q⟩ => ⟨I1.kIn, run_sx F hr hb hx I1 r hn q⟩
theorem pe_fn0 (F : FnG X.prog X.w X.K X.mg X.base CX k f fd n ps sp) (hr : Go k X.A) (hg : Gl X x) (hm : X.mg x = some (.ref f)) (hk : PySem.W.keepIn X.K (.ref f) = true) (hb : Binds X.K fd ps []) (hx : Passes CX X E)
    (hd : (x == ("__debug__" : Str)) = false) : PE X (.Call (.Name x p) [] [] pos) (tSp sp n E tNil) :=
  ⟨fun pins s σ H Q I h => wpAny_Call_Name_kw (ld_glob I hg hm (PySem.W.callWith_K0 I.kIn hk (run_sx (us := []) F hr hb hx I .nil h.1 h.2)) hd)⟩
theorem noStar_any {env : PySem.Env} {pos : Pos} : ∀ {es : List Expr}, es.all (fun e => !PySem.W.isStarred e) = true → (backTo pos (starEach es env)).any (·.1) = false
  | [], _ => rfl
  | e :: es, h => by
    simp only [List.all_cons, Bool.and_eq_true, Bool.not_eq_true'] at h
    rw [star_cons h.1]
    show (false || (backTo pos (starEach es env)).any (·.1)) = false
    rw [noStar_any h.2]
    rfl
/-- an exception that is let out: its class, its own dict -/
def XRep (K : PySem.W.Frag) (mg : Str → Option Value) (G : Gh) (H : Hp) (c : Value) (d : Option Addr) : D → Prop
  | .exc nm fs => ∃ C, c = .ref C ∧ mg nm = some (.ref C) ∧ ((d = none ∧ fs = []) ∨ ∃ (dx : Addr) (gs : List (Str × V)), d = some dx ∧ G dx = some .frz ∧ H dx = some (.xd gs) ∧ gs.map (·.1) = fs.map (·.1) ∧ Reps K G H (gs.map (·.2)) (fs.map (·.2)))
  | _ => False
def ResOk (K : PySem.W.Frag) (mg : Str → Option Value) (G : Gh) (H : Hp) (Q : VK) (E : XK) : R RV → Prop
  | .ok r μ' => ∀ v G' H', Step G H G' H' → StOk K G' H' μ' → RvNew K G G' H' v r → Q v H'
  | .exc x μ' => ∀ c d G' H', Step G H G' H' → StOk K G' H' μ' → XRep K mg G' H' c d x → E c d H'
  | .bad => False
/-- a def by its meaning -/
def spD (K : PySem.W.Frag) (mg : Str → Option Value) (F : List D → M RV) : Sp := fun vs H Q E => ∃ G μ ds, StOk K G H μ ∧ Reps K G H vs ds ∧ ResOk K mg G H Q E (F ds μ)
theorem pd_call {F : List D → M RV} {e : Expr} {es : List Expr} {m : Env → M (List D)} (W : FnG X.prog X.w X.K X.mg X.base CX k f fd n ps (spD X.K X.mg F)) (hn : ∀ ds μ r μ', F ds μ = .ok r μ' → ds.length = n) (hr : Go k X.A) (hg : Gl X x) (hm : X.mg x = some (.ref f))
    (hk : PySem.W.keepIn X.K (.ref f) = true) (hb : Binds X.K fd ps []) (hx : Passes CX X E) (ha : PA X (e :: es) (tFs X.K m)) (hd : (x == ("__debug__" : Str)) = false) (hs : PySem.W.isStarred e = false) (hpl : es.all (fun e => !PySem.W.isStarred e) = true) :
    PD X (.Call (.Name x p) (e :: es) [] pos) (fun ρ => bnd (m ρ) F) := PEimp (pe_fn W hr hg hm hk hb hx ha hd hs (noStar_any hpl)) fun σ H Q q => by
  obtain ⟨G, ρ, μ, d, μ', vw, eq, k⟩ := q
  obtain ⟨ds, μ1, e1, f1⟩ := bnd_inv eq
  refine ⟨G, ρ, μ, ds, μ1, vw, e1, fun vs G1 H1 s1 so1 r1 => ⟨by rw [r1.len]; exact hn _ _ _ _ f1, G1, μ1, ds, so1, r1, by rw [f1]; exact fun v G2 H2 s2 so2 r2 => k v G2 H2 (s1.trans s2) so2 (r2.since s1)⟩⟩
theorem pd_call0 {F : List D → M RV} (W : FnG X.prog X.w X.K X.mg X.base CX k f fd n ps (spD X.K X.mg F)) (hn : ∀ ds μ r μ', F ds μ = .ok r μ' → ds.length = n) (hr : Go k X.A) (hg : Gl X x) (hm : X.mg x = some (.ref f))
    (hk : PySem.W.keepIn X.K (.ref f) = true) (hb : Binds X.K fd ps []) (hx : Passes CX X E) (hd : (x == ("__debug__" : Str)) = false) :
    PD X (.Call (.Name x p) [] [] pos) (fun ρ => bnd (ret []) F) := PEimp (pe_fn0 (E := E) W hr hg hm hk hb hx hd) fun σ H Q q => by
  obtain ⟨G, ρ, μ, d, μ', vw, eq, k⟩ := q
  obtain ⟨ds, μ1, e1, f1⟩ := bnd_inv eq
  obtain ⟨rfl, rfl⟩ := ret_ok e1
  exact ⟨hn _ _ _ _ f1, G, μ, [], vw.st, .nil, by rw [f1]; exact k⟩
/-! ## isinstance -/
def tyNames (ts : List Ty) : List Str := ts.map fun t => (Str.ofString t.nm)
theorem isin_inv {ts : List Ty} {x : D} {μ μ' : Mu} {r : RV} (h : isin ts x μ = .ok r μ') : ∃ n, tyN (x.see μ) = some n ∧ r = .fr (.bl (ts.any (isTy (x.see μ)))) ∧ μ' = μ := by
  unfold isin at h
  generalize x.see μ = y at *
  cases y <;> first
    | (cases h; done)
    | (cases h; exact ⟨_, rfl, rfl, rfl⟩)
theorem boot_ty (t : Ty) : bootBuiltins (Str.ofString t.nm) = some (.type t.nm) := by cases t <;> decide +kernel
theorem ty_ne (t : Ty) : Str.ofString t.nm ≠ ("__name__" : Str) ∧ (Str.ofString t.nm == ("__debug__" : Str)) = false := by cases t <;> exact ⟨by decide +kernel, by decide +kernel⟩
theorem pe_ty {t : Ty} {p : Pos} (hg : Gl X (Str.ofString t.nm)) (hm : X.mg (Str.ofString t.nm) = none) : PE X (.Name (Str.ofString t.nm) p) (tC (.ty t.nm)) :=
  pe_bltn hg hm (boot_ty t) rfl (ty_ne t).1 (ty_ne t).2
theorem boot_isi : bootBuiltins "isinstance" = some (.builtin "isinstance") := by decide +kernel
theorem pd_isi1 {a : Expr} {t : Ty} {p p2 : Pos} {ma : Env → M D} (hs : PySem.W.isStarred a = false) (ha : PE X a (tL X.K ma)) (hg : Gl X "isinstance") (hm : X.mg "isinstance" = none) (ht : Gl X (Str.ofString t.nm)) (hmt : X.mg (Str.ofString t.nm) = none) :
    PD X (.Call (.Name "isinstance" p) [a, .Name (Str.ofString t.nm) p2] [] pos) (fun ρ => bnd (ma ρ) (isin [t])) :=
  PEimp (pe_callB call_isi hg hm boot_isi (pa_cons ha (pa_cons (pe_ty ht hmt) pa_nil rfl) (star_cons hs)) (by decide +kernel) (by decide +kernel) (star_cons hs) rfl) fun σ H Q q => by
    obtain ⟨G, ρ, μ, d, μ', vw, eq, k⟩ := q
    obtain ⟨y, μ1, e1, f1⟩ := bnd_inv eq
    obtain ⟨nm, e2, rfl, rfl⟩ := isin_inv f1
    refine ⟨G, ρ, μ, y, _, vw, e1, fun v G1 H1 s1 so1 r1 => ⟨v, .ty t.nm, _, _, _, rfl, .ty _, tyx so1 r1 e2, kit_isTy e2 t, ?_⟩⟩
    have z : ([t].any (isTy (y.see μ'))) = isTy (y.see μ') t := by simp
    rw [z] at k
    exact k _ G1 H1 s1 so1 (.fr (.bl _))
theorem pa_tys : ∀ {ts : List Ty} {es : List Expr}, (∀ t ∈ ts, Gl X (Str.ofString t.nm) ∧ X.mg (Str.ofString t.nm) = none) → (∃ ps : List Pos, ps.length = ts.length ∧ es = List.zipWith (fun (t : Ty) p => Expr.Name (Str.ofString t.nm) p) ts ps) →
    PA X es (fun _ H Q => Q (ts.map fun t => V.ty t.nm) H)
  | [], _, _, ⟨ps, hl, he⟩ => by subst he; exact PAimp pa_nil fun _ _ _ q => q
  | t :: ts, _, h, ⟨[], hl, he⟩ => by simp at hl
  | t :: ts, _, h, ⟨p :: ps, hl, he⟩ => by
    subst he
    refine PAimp (pa_cons (pe_ty (h t List.mem_cons_self).1 (h t List.mem_cons_self).2) (pa_tys (ts := ts) (fun u hu => h u (List.mem_cons_of_mem _ hu)) ⟨ps, by simpa using hl, rfl⟩) rfl) fun _ _ _ q => q
theorem clsVs : ∀ ts : List Ty, Paired ClsV (ts.map fun t => V.ty t.nm) (ts.map fun t => Value.type t.nm)
  | [] => .nil
  | t :: ts => .cons (.ty _) (clsVs ts)
theorem pd_isiT {a : Expr} {ts : List Ty} {es : List Expr} {x1 : Nat} {p p2 : Pos} {ma : Env → M D} (hs : PySem.W.isStarred a = false) (ha : PE X a (tL X.K ma)) (hg : Gl X "isinstance") (hm : X.mg "isinstance" = none) (hl : ts.length ≤ 100)
    (ht : ∀ t ∈ ts, Gl X (Str.ofString t.nm) ∧ X.mg (Str.ofString t.nm) = none) (he : ∃ ps : List Pos, ps.length = ts.length ∧ es = List.zipWith (fun (t : Ty) p => Expr.Name (Str.ofString t.nm) p) ts ps) :
    PD X (.Call (.Name "isinstance" p) [a, .Tuple es x1 p2] [] pos) (fun ρ => bnd (ma ρ) (isin ts)) :=
  PEimp (pe_callB call_isiT hg hm boot_isi (pa_cons ha (pa_cons (pe_tup (pa_tys ht he)) pa_nil rfl) (star_cons hs)) (by decide +kernel) (by decide +kernel) (star_cons hs) rfl) fun σ H Q q => by
    obtain ⟨G, ρ, μ, d, μ', vw, eq, k⟩ := q
    obtain ⟨y, μ1, e1, f1⟩ := bnd_inv eq
    obtain ⟨nm, e2, rfl, rfl⟩ := isin_inv f1
    refine ⟨G, ρ, μ, y, _, vw, e1, fun v G1 H1 s1 so1 r1 => ⟨by rw [List.length_map]; exact Nat.le_trans hl (by decide), fun tp htp => ?_⟩⟩
    have sn : Step G1 H1 (put G1 tp .frz) (upd H1 tp (.tup (ts.map fun t => V.ty t.nm))) := Step.new (so1.fresh htp)
    have so2 := so1.new (o := .tup (ts.map fun t => V.ty t.nm)) (t := .frz) htp fun n z => by cases z
    refine ⟨v, tp, _, _, _, _, rfl, upd_same, ?_, tyx so2 (r1.step sn) e2, kitAny_isTy e2 ts, k _ _ _ (s1.trans sn) so2 (.fr (.bl _))⟩
    exact clsVs ts
end
end Sx
set_option maxHeartbeats 2000000
/-! # Sx: targets, what is walked, comprehensions -/
namespace Sx
open PySem L2 PyProof.Rows
/-- where a block's names are said -/
structure Sco where
  sc : Scope
  fn : Str → Bool
def Tg.slots : Tg → List Nat
  | .nm i => [i]
  | .nil => []
  | .cons a b => a.slots ++ b.slots
def SameBut (is : List Nat) (σ σ' : L2.St) : Prop := σ'.length = σ.length ∧ ∀ i : Nat, i ∉ is → σ'[i]? = σ[i]?
def nmB (N : List Str) (i : Nat) (x : Str) : Bool := N[i]? == some x
def locB (S : Sco) (x : Str) : Bool := S.sc.names.lookup x == some .local || (S.sc.names.lookup x == some .cell && S.fn x)
mutual
def mtG (N : List Str) (S : Sco) : Tg → Expr → Bool
  | .nm i, .Name x _ => nmB N i x && locB S x
  | .cons a b, .Tuple (e :: es) _ _ => mtG N S a e && mtGs N S b es
  | _, _ => false
def mtGs (N : List Str) (S : Sco) : Tg → List Expr → Bool
  | .nil, [] => true
  | .cons a b, e :: es => mtG N S a e && mtGs N S b es
  | _, _ => false
end
section
variable {K : PySem.W.Frag} {G G' : Gh} {H H' : Hp} {μ μ' : Mu}
theorem EnvRep.set {ρ : Env} {σ : L2.St} {i : Nat} {v : V} {r : RV} (h : EnvRep K G H ρ σ) (s : Slot K G H v r) : EnvRep K G H (ρ.set i (some r)) (σ.set i (some v)) := by
  refine ⟨by rw [List.length_set, List.length_set]; exact h.1, fun j r' e => ?_⟩
  by_cases hj : i = j
  · subst hj
    by_cases hl : i < ρ.length
    · rw [List.getElem?_set_self hl] at e
      cases e
      exact ⟨v, by rw [List.getElem?_set_self (by rw [h.1]; exact hl)], s⟩
    · rw [List.getElem?_eq_none (by rw [List.length_set]; omega)] at e
      cases e
  · rw [List.getElem?_set_ne hj] at e
    obtain ⟨v', e1, s1⟩ := h.2 j r' e
    exact ⟨v', by rw [List.getElem?_set_ne hj]; exact e1, s1⟩
theorem EnvRep.forget {ρ : Env} {σ : L2.St} {i : Nat} {o : Option V} (h : EnvRep K G H ρ σ) : EnvRep K G H (ρ.set i none) (σ.set i o) := by
  refine ⟨by rw [List.length_set, List.length_set]; exact h.1, fun j r' e => ?_⟩
  by_cases hj : i = j
  · subst hj
    by_cases hl : i < ρ.length
    · rw [List.getElem?_set_self hl] at e; cases e
    · rw [List.getElem?_eq_none (by rw [List.length_set]; omega)] at e; cases e
  · rw [List.getElem?_set_ne hj] at e
    obtain ⟨v', e1, s1⟩ := h.2 j r' e
    exact ⟨v', by rw [List.getElem?_set_ne hj]; exact e1, s1⟩
theorem EnvRep.wipe {ρ : Env} {σ : L2.St} (h : EnvRep K G H ρ σ) : ∀ ws : List Nat, EnvRep K G H (Sx.wipe ws ρ) (L2.wipe σ ws)
  | [] => h
  | w :: ws => (EnvRep.wipe h ws).forget
theorem EnvRep.weak {ρ ρ' : Env} {σ : L2.St} (h : EnvRep K G H ρ σ) (hl : ρ'.length = ρ.length) (w : ∀ (i : Nat) r, ρ'[i]? = some (some r) → ρ[i]? = some (some r)) : EnvRep K G H ρ' σ :=
  ⟨h.1.trans hl.symm, fun i r e => h.2 i r (w i r e)⟩
end
/-- what a store to targets promises -/
def gT (K : PySem.W.Frag) (tg : Tg) : TG := fun v σ H Q => ∃ G ρ d ρ', EnvRep K G H ρ σ ∧ Rep K G H v d ∧ bindT tg d ρ = some ρ' ∧ ∀ σ', EnvRep K G H ρ' σ' → SameBut tg.slots σ σ' → Q σ' H
def gTs (K : PySem.W.Frag) (tg : Tg) : TGs := fun vs σ H Q => ∃ G ρ ds ρ', EnvRep K G H ρ σ ∧ Reps K G H vs ds ∧ bindTs tg ds ρ = some ρ' ∧ ∀ σ', EnvRep K G H ρ' σ' → SameBut tg.slots σ σ' → Q σ' H
theorem SameBut.trans {is js : List Nat} {a b c : L2.St} (h : SameBut is a b) (h' : SameBut js b c) : SameBut (is ++ js) a c :=
  ⟨h'.1.trans h.1, fun i hi => by
    rw [List.mem_append, not_or] at hi
    exact (h'.2 i hi.2).trans (h.2 i hi.1)⟩
section
variable {X : Cx} {N : List Str} {S : Sco}
theorem PGimp {e : Expr} {t t' : TG} (h : PG X e t) (i : ∀ v σ H Q, t' v σ H Q → t v σ H Q) : PG X e t' := ⟨fun pins s σ H v u Q I r q => h.run pins s σ H v u Q I r (i _ _ _ _ q)⟩
theorem PGsimp {e : List Expr} {t t' : TGs} (h : PGs X e t) (i : ∀ v σ H Q, t' v σ H Q → t v σ H Q) : PGs X e t' := ⟨fun pins s σ H v u Q I r q => h.run pins s σ H v u Q I r (i _ _ _ _ q)⟩
theorem assign_cons {tg : Tg} {e : Expr} {es : List Expr} {env : PySem.Env} (h : mtG N S tg e = true) : assignEach (e :: es) env = (false, assign e env) :: assignEach es env := by
  cases tg <;> cases e <;> first | rfl | (simp [mtG] at h)
theorem assign_len : ∀ {tg : Tg} {es : List Expr} {env : PySem.Env}, mtGs N S tg es = true → (assignEach es env).length = es.length ∧ (assignEach es env).findIdx? (·.1) = none
  | .nil, [], _, _ => ⟨rfl, rfl⟩
  | .nil, _ :: _, _, h => by simp [mtGs] at h
  | .nm _, _, _, h => by simp [mtGs] at h
  | .cons _ _, [], _, h => by simp [mtGs] at h
  | .cons a b, e :: es, env, h => by
    simp only [mtGs, Bool.and_eq_true] at h
    rw [assign_cons h.1]
    obtain ⟨h1, h2⟩ := assign_len (env := env) h.2
    refine ⟨by simp [h1], ?_⟩
    rw [List.findIdx?_cons]
    simp [h2]
theorem bindTs_len : ∀ {tg : Tg} {ds : List D} {es : List Expr} {ρ ρ' : Env}, bindTs tg ds ρ = some ρ' → mtGs N S tg es = true → ds.length = es.length
  | .nil, [], [], _, _, _, _ => rfl
  | .nil, _ :: _, _, _, _, h, _ => by simp [bindTs] at h
  | .nil, [], _ :: _, _, _, _, h => by simp [mtGs] at h
  | .nm _, _, _, _, _, h, _ => by simp [bindTs] at h
  | .cons _ _, [], _, _, _, h, _ => by simp [bindTs] at h
  | .cons _ _, _ :: _, [], _, _, _, h => by simp [mtGs] at h
  | .cons a b, d :: ds, e :: es, ρ, ρ', h, h2 => by
    simp only [mtGs, Bool.and_eq_true] at h2
    simp only [bindTs] at h
    obtain ⟨ρ1, _, h4⟩ := Option.bind_eq_some_iff.mp h
    simp [bindTs_len h4 h2.2]
mutual
theorem pg_sx (hN : X.N = N) (nd : N.Nodup) (hc : X.calm = true) (hsc : X.env.scope = S.sc) (hfn : ∀ x, S.fn x = true → X.fn x = true) : ∀ {tg : Tg} {e : Expr}, mtG N S tg e = true → PG X e (gT X.K tg)
  | .nm i, e, h => by
    cases e with
    | Name x p =>
      simp only [mtG, Bool.and_eq_true, nmB, locB, Bool.or_eq_true, beq_iff_eq] at h
      have hi : X.N[i]? = some x := by rw [hN]; exact h.1
      have hx : L2.Loc X.env.scope x := by
        unfold L2.Loc
        rw [hsc]
        exact h.2.imp id And.left
      have hf : X.fn x = true ∨ X.env.scope.names.lookup x = some .local := by
        rw [hsc]
        rcases h.2 with q | q
        · exact .inr q
        · exact .inl (hfn x q.2)
      refine PGimp (pg_name (by rw [hN]; exact nd) hi hx hf) fun v σ H Q q => ?_
      obtain ⟨G, ρ, d, ρ', er, rp, hb, k⟩ := q
      simp only [bindT] at hb
      split at hb
      · cases hb
        refine k _ (er.set (.fr rp)) ⟨by simp, fun j hj => ?_⟩
        rw [List.getElem?_set_ne]
        simpa [Tg.slots, eq_comm] using hj
      · cases hb
    | _ => simp [mtG] at h
  | .nil, e, h => by cases e <;> simp [mtG] at h
  | .cons a b, e, h => by
    cases e with
    | Tuple es kk p =>
      cases es with
      | nil => simp [mtG] at h
      | cons e es =>
        have h' : mtGs N S (.cons a b) (e :: es) = true := by simpa only [mtG, mtGs] using h
        have q := assign_len (env := X.env) h'
        simp only [mtGs, Bool.and_eq_true] at h'
        refine PGimp (pg_tup hc (pgs_sx hN nd hc hsc hfn (tg := .cons a b) (by simp only [mtGs, Bool.and_eq_true]; exact h')) q.1 q.2) fun v σ H Q q => ?_
        obtain ⟨G, ρ, d, ρ', er, rp, hb, k⟩ := q
        cases d with
        | tup ds =>
          simp only [bindT] at hb
          obtain ⟨ad, vs, rfl, f, r⟩ := rp.tupI
          exact ⟨ad, vs, rfl, f.imp And.right id, by rw [r.len]; exact bindTs_len hb (by simp only [mtGs, Bool.and_eq_true]; exact h'), G, ρ, ds, ρ', er, r, hb, k⟩
        | _ => simp [bindT] at hb
    | _ => simp [mtG] at h
theorem pgs_sx (hN : X.N = N) (nd : N.Nodup) (hc : X.calm = true) (hsc : X.env.scope = S.sc) (hfn : ∀ x, S.fn x = true → X.fn x = true) : ∀ {tg : Tg} {es : List Expr}, mtGs N S tg es = true → PGs X es (gTs X.K tg)
  | .nil, [], _ => PGsimp pgs_nil fun v σ H Q q => by
    obtain ⟨G, ρ, d, ρ', er, rp, hb, k⟩ := q
    cases d with
    | nil =>
      cases rp
      cases hb
      exact ⟨rfl, k σ er ⟨rfl, fun _ _ => rfl⟩⟩
    | cons _ _ => simp [bindTs] at hb
  | .nil, _ :: _, h => by simp [mtGs] at h
  | .nm _, _, h => by simp [mtGs] at h
  | .cons _ _, [], h => by simp [mtGs] at h
  | .cons a b, e :: es, h => by
    simp only [mtGs, Bool.and_eq_true] at h
    refine PGsimp (pgs_cons (pg_sx hN nd hc hsc hfn h.1) (pgs_sx hN nd hc hsc hfn h.2) (by rw [assign_cons h.1]; rfl)) fun v σ H Q q => ?_
    obtain ⟨G, ρ, d, ρ', er, rp, hb, k⟩ := q
    cases d with
    | nil => simp [bindTs] at hb
    | cons d ds =>
      simp only [bindTs] at hb
      obtain ⟨ρ1, h1, h2⟩ := Option.bind_eq_some_iff.mp hb
      cases rp with
      | cons r rs =>
        refine ⟨_, _, rfl, G, ρ, d, ρ1, er, r, h1, fun σ1 er1 sb1 => ⟨G, ρ1, ds, ρ', er1, rs, h2, fun σ2 er2 sb2 => k σ2 er2 ?_⟩⟩
        exact sb1.trans sb2
end
end

/-! ## what is walked -/
/-- what a body of statements leaves as it is: frozen things, cells' places -/
def Kp (G : Gh) (H : Hp) (G' : Gh) (H' : Hp) : Prop := (∀ a, G a = some .frz → G' a = some .frz ∧ H' a = H a) ∧ ∀ a n, G a = some (.cel n) → G' a = some (.cel n)
theorem Kp.refl {G : Gh} {H : Hp} : Kp G H G H := ⟨fun _ e => ⟨e, rfl⟩, fun _ _ e => e⟩
theorem Kp.trans {G G' G'' : Gh} {H H' H'' : Hp} (a : Kp G H G' H') (b : Kp G' H' G'' H'') : Kp G H G'' H'' :=
  ⟨fun x e => ⟨(b.1 x (a.1 x e).1).1, (b.1 x (a.1 x e).1).2.trans (a.1 x e).2⟩, fun x n e => b.2 x n (a.2 x n e)⟩
theorem Step.kp {G G' : Gh} {H H' : Hp} (s : Step G H G' H') : Kp G H G' H' := ⟨fun a e => ⟨(s a _ e).1, (s a _ e).2 fun n z => by cases z⟩, fun a n e => (s a _ e).1⟩
theorem Kp.reps {K : PySem.W.Frag} {G G' : Gh} {H H' : Hp} {vs : List V} {ds : List D} (s : Kp G H G' H') (r : Reps K G H vs ds) : Reps K G' H' vs ds := r.mono s.1 s.2
theorem Kp.rep {K : PySem.W.Frag} {G G' : Gh} {H H' : Hp} {vs : V} {ds : D} (s : Kp G H G' H') (r : Rep K G H vs ds) : Rep K G' H' vs ds := r.mono s.1 s.2
structure Walks (K : PySem.W.Frag) (G : Gh) (H : Hp) (hd : Hd) (J : It) (ds : List D) : Prop where
  len : ds.length ≤ sizeLine
  go : ∀ (i : Nat) G1 H1 μ1, Kp G H G1 H1 → StOk K G1 H1 μ1 → Held hd μ1 → i < ds.length → J.go i H1
  yld : ∀ (i : Nat) G1 H1 μ1 x H2 d, Kp G H G1 H1 → StOk K G1 H1 μ1 → Held hd μ1 → J.yld i H1 x H2 → ds[i]? = some d → ∃ G2, Step G1 H1 G2 H2 ∧ StOk K G2 H2 μ1 ∧ Rep K G2 H2 x d
  stop : ∀ G1 H1 μ1, Kp G H G1 H1 → StOk K G1 H1 μ1 → Held hd μ1 → J.stop ds.length H1
/-- where things that are walked lie -/
def Src (K : PySem.W.Frag) (G : Gh) (H : Hp) (hd : Hd) (sq : Hp → List V → Prop) (ds : List D) : Prop := ∀ G1 H1 μ1, Kp G H G1 H1 → StOk K G1 H1 μ1 → Held hd μ1 → ∃ vs, sq H1 vs ∧ Reps K G1 H1 vs ds
theorem Held.left {a b : Hd} {μ : Mu} (h : Held (a ++ b) μ) : Held a μ := fun p m => h p (List.mem_append_left _ m)
theorem Held.right {a b : Hd} {μ : Mu} (h : Held (a ++ b) μ) : Held b μ := fun p m => h p (List.mem_append_right _ m)
theorem Src.kp {K : PySem.W.Frag} {G G' : Gh} {H H' : Hp} {hd : Hd} {sq : Hp → List V → Prop} {ds : List D} (s : Src K G H hd sq ds) (k : Kp G H G' H') : Src K G' H' hd sq ds := fun G1 H1 μ1 k1 so h => s G1 H1 μ1 (k.trans k1) so h
theorem walks_of {K : PySem.W.Frag} {G : Gh} {H : Hp} {hd : Hd} {ds : List D} {sq : Hp → List V → Prop} {J : It} (hl : ds.length ≤ sizeLine) (hJ : J = ⟨fun i H => ∃ xs x, sq H xs ∧ xs[i]? = some x, fun i H x H' => H' = H ∧ ∀ xs, sq H xs → xs[i]? = some x, fun i H => ∃ xs, sq H xs ∧ xs.length ≤ i⟩)
    (st : Src K G H hd sq ds) : Walks K G H hd J ds := by
  subst hJ
  refine ⟨hl, fun i G1 H1 μ1 s so h hi => ?_, fun i G1 H1 μ1 x H2 d s so h y e => ?_, fun G1 H1 μ1 s so h => ?_⟩
  · obtain ⟨vs, q, r⟩ := st G1 H1 μ1 s so h
    obtain ⟨v, e, _⟩ := r.get (List.getElem?_eq_getElem hi)
    exact ⟨vs, v, q, e⟩
  · obtain ⟨rfl, y⟩ := y
    obtain ⟨vs, q, r⟩ := st G1 _ μ1 s so h
    obtain ⟨v, e1, rp⟩ := r.get e
    have := (y vs q).symm.trans e1
    cases this
    exact ⟨G1, .refl, so, rp⟩
  · obtain ⟨vs, q, r⟩ := st G1 H1 μ1 s so h
    exact ⟨vs, q, by rw [r.len]; exact Nat.le_refl _⟩
/-- a list, a tuple, a cell, as what is walked -/
theorem src_of {K : PySem.W.Frag} {G : Gh} {H : Hp} {μ : Mu} {v : V} {d : D} {p : List D × Hd} (so : StOk K G H μ) (r : Rep K G H v d) (e : itemsD μ d = some p) : Held p.2 μ ∧ ∃ a, v = .ref a ∧ ((isT d = true ∧ Src K G H p.2 (fun H vs => SqT K H a vs) p.1) ∨ (isT d = false ∧ Src K G H p.2 (fun H vs => SqL K H a vs) p.1)) := by
  cases d with
  | tup xs =>
    simp only [itemsD, Option.some.injEq] at e
    subst e
    obtain ⟨a, vs, rfl, f, r⟩ := r.tupI
    refine ⟨Held_nil μ, a, rfl, .inl ⟨rfl, fun G1 H1 μ1 k so1 _ => ⟨vs, ?_, k.reps r⟩⟩⟩
    rcases f with f | f
    · refine .inl ?_
      unfold Rd
      rw [(k.1 _ f.1).2]
      exact f.2
    · exact .inr f
  | lst xs =>
    simp only [itemsD, Option.some.injEq] at e
    subst e
    cases r with
    | lst f r =>
      refine ⟨Held_nil μ, _, rfl, .inr ⟨rfl, fun G1 H1 μ1 k so1 _ => ⟨_, .inl ?_, k.reps r⟩⟩⟩
      unfold Rd
      rw [(k.1 _ f.1).2]
      exact f.2
  | cell n =>
    simp only [itemsD] at e
    split at e
    · rename_i xs q
      cases e
      refine ⟨fun p hp => ?_, ?_⟩
      · rw [List.mem_singleton.mp hp]; exact ⟨xs, q, rfl⟩
      · cases r with
        | @cell a _ g =>
          refine ⟨a, rfl, .inr ⟨rfl, fun G1 H1 μ1 k so1 h => ?_⟩⟩
          obtain ⟨zs, q1, rfl⟩ := h (n, xs) (List.mem_singleton.mpr rfl)
          obtain ⟨b, g1, c⟩ := so1.cel n _ q1
          have := so1.one a b n (k.2 _ _ g) g1
          subst this
          cases c with
          | lst e2 r2 => exact ⟨_, .inl (.inl e2), r2⟩
    · cases e
  | _ => simp [itemsD] at e
def tI (K : PySem.W.Frag) (m : Env → M (List D × Hd)) : TI := fun σ H R => ∃ G ρ μ p μ', Vw K G H ρ σ μ ∧ m ρ μ = .ok p μ' ∧ ∀ G' H' J, Step G H G' H' → StOk K G' H' μ' → Held p.2 μ' → Walks K G' H' p.2 J p.1 → R J H'
section
variable {X : Cx} {e tg : Expr}
theorem pi_sx {m : Env → M RV} (h : PD X e m) : PI X tg e (tI X.K fun ρ => bnd (m ρ) itemsOf) := by
  refine ⟨fun pins s σ H R I q => ?_⟩
  obtain ⟨G, ρ, μ, p, μ', vw, eq, k⟩ := q
  obtain ⟨r, μ1, e1, e2⟩ := bnd_inv eq
  have run := h.run pins s σ H (fun v H' => ∃ a G', v = .ref a ∧ Step G H G' H' ∧ StOk X.K G' H' μ' ∧ Held p.2 μ' ∧ (Src X.K G' H' p.2 (fun H vs => SqT X.K H a vs) p.1 ∨ Src X.K G' H' p.2 (fun H vs => SqL X.K H a vs) p.1)) I
    ⟨G, ρ, μ, r, μ1, vw, e1, fun v G0 H' s0 so0 rv => by
      obtain ⟨G', s, so, rp⟩ := rv.frz s0 so0
      have nw : (match itemsD μ1 r.d with | some p => Sx.R.ok p μ1 | none => Sx.R.bad) = Sx.R.ok p μ' := by
        cases r with
        | wk _ _ => cases rv
        | _ => exact e2
      split at nw
      · rename_i p' e3
        cases nw
        obtain ⟨hh, a, rfl, q⟩ := src_of so rp e3
        exact ⟨a, G', rfl, s, so, hh, q.imp And.right And.right⟩
      · cases nw⟩
  refine thn run fun v s1 ⟨x, H1, I1, r1, a, G1, ex, st, so, hh, f⟩ => ?_
  subst ex
  cases r1
  have newIt : ∀ b ∈ [s1.heap.objs.size], FpOk X pins H1 b := fun b hb => by
    obtain rfl := List.mem_singleton.mp hb
    exact I1.fpOk (Nat.le_refl _) (I1.hok.fresh (Nat.le_refl _))
  rcases f with f | f
  · obtain ⟨vs, q, rs⟩ := f G1 H1 μ' .refl so hh
    obtain ⟨its, rv, p, hz⟩ := I1.tuple q
    refine wpAny_pyIter_tuple (show s1.heap.IsTuple a its.toArray from p) ⟨s1.heap.objs.size, [s1.heap.objs.size], _, _, H1, rfl, I1.kept (t' := s1.toks) fun b o e => Heap.get?_push_of_some _ e, turn_tuple a _, ⟨_, Heap.get?_push_size _ rfl, rfl, rfl⟩, newIt, ?_⟩
    exact k G1 H1 _ st so hh (walks_of (sq := fun H xs => SqT X.K H a xs) (by rw [← rs.len]; exact hz) rfl f)
  · obtain ⟨vs, q, rs⟩ := f G1 H1 μ' .refl so hh
    obtain ⟨its, rv, p, hz⟩ := I1.list q
    refine wpAny_pyIter_list p.isList ⟨s1.heap.objs.size, [s1.heap.objs.size], _, _, H1, rfl, I1.kept (t' := s1.toks) fun b o e => Heap.get?_push_of_some _ e, turn_list a _, ⟨_, Heap.get?_push_size _ rfl, rfl, rfl⟩, newIt, ?_⟩
    exact k G1 H1 _ st so hh (walks_of (sq := fun H xs => SqL X.K H a xs) (by rw [← rs.len]; exact hz) rfl f)
theorem PIimp {t t' : TI} (h : PI X tg e t) (i : ∀ σ H Q, t' σ H Q → t σ H Q) : PI X tg e t' := ⟨fun pins s σ H Q I q => h.run pins s σ H Q I (i σ H Q q)⟩
theorem walks_range {K : PySem.W.Frag} {G : Gh} {H : Hp} {lo : Int} {n : Nat} (hn : n ≤ sizeLine) : Walks K G H [] (Itr lo n) (intsFrom lo n) := by
  have hl : (intsFrom lo n).length = n := by simp [intsFrom]
  refine ⟨by rw [hl]; exact hn, fun i G1 H1 μ1 s so h hi => by rw [hl] at hi; exact hi, fun i G1 H1 μ1 x H2 d s so h y e => ?_, fun G1 H1 μ1 s so h => by rw [hl]; exact Nat.le_refl n⟩
  obtain ⟨rfl, rfl⟩ := y
  refine ⟨G1, .refl, so, ?_⟩
  unfold intsFrom at e
  rw [List.getElem?_map] at e
  obtain ⟨j, e1, rfl⟩ := Option.map_eq_some_iff.mp e
  have hj : j = i := by
    obtain ⟨hh, e2⟩ := List.getElem?_eq_some_iff.mp e1
    simpa using e2.symm
  subst hj
  exact .int _
theorem pi_rng1 {a : Expr} {p pos : Pos} {m : Env → M RV} (hg : Gl X "range") (hm : X.mg "range" = none) (hs : PySem.W.isStarred a = false) (ha : PD X a m) :
    PI X tg (.Call (.Name "range" p) [a] [] pos) (tI X.K fun ρ => bnd (bnd (m ρ) fun r => bnd (asInt r.d) fun n => guard' (decide (n.natAbs ≤ 16777216)) (ret (.fr (.lst (intsFrom 0 n.toNat))))) itemsOf) :=
  PIimp (pi_range1 hg hm (pa_cons ha pa_nil (star_cons hs)) (star_cons hs)) fun σ H R q => by
    obtain ⟨G, ρ, μ, ds, μ', vw, eq, k⟩ := q
    obtain ⟨r, μ1, e1, e2⟩ := bnd_inv eq
    obtain ⟨r2, μ2, e3, e4⟩ := bnd_inv e1
    obtain ⟨n, μ3, e5, e6⟩ := bnd_inv e4
    obtain ⟨e7, rfl⟩ := asInt_inv e5
    obtain ⟨c, e6⟩ := guard_ok e6
    obtain ⟨rfl, rfl⟩ := ret_ok e6
    obtain ⟨rfl, rfl⟩ : _ ∧ _ := by simpa [itemsOf, itemsD, RV.d] using e2
    have c' := of_decide_eq_true c
    refine ⟨G, ρ, μ, r2, _, vw, e3, fun v G1 H1 s1 so1 r1 => ⟨n, by rw [rv_int r1 e7], by omega, by omega, k G1 H1 _ s1 so1 (Held_nil _) (walks_range (by unfold sizeLine; omega))⟩⟩
theorem pi_rng2 {a b : Expr} {p pos : Pos} {ma mb : Env → M RV} (hg : Gl X "range") (hm : X.mg "range" = none) (hs : PySem.W.isStarred a = false) (hs2 : PySem.W.isStarred b = false) (ha : PD X a ma) (hb : PD X b mb) :
    PI X tg (.Call (.Name "range" p) [a, b] [] pos) (tI X.K fun ρ => bnd (bnd (ma ρ) fun r => bnd (asInt r.d) fun lo => bnd (mb ρ) fun r' => bnd (asInt r'.d) fun hi =>
      guard' (decide (lo.natAbs ≤ 16777216 ∧ hi.natAbs ≤ 16777216) && sizeOk (hi - lo).toNat) (ret (.fr (.lst (intsFrom lo (hi - lo).toNat))))) itemsOf) :=
  PIimp (pi_range2 hg hm (pa_cons ha (pa_cons hb pa_nil (star_cons hs2)) (star_cons hs)) (by rw [star_cons hs, star_cons hs2]; rfl) (star_cons hs2)) fun σ H R q => by
    obtain ⟨G, ρ, μ, ds, μ', vw, eq, k⟩ := q
    obtain ⟨r, μ1, e1, e2⟩ := bnd_inv eq
    obtain ⟨r2, μ2, e3, e4⟩ := bnd_inv e1
    obtain ⟨lo, μ3, e5, e6⟩ := bnd_inv e4
    obtain ⟨e7, rfl⟩ := asInt_inv e5
    obtain ⟨r4, μ4, e8, e9⟩ := bnd_inv e6
    obtain ⟨hi, μ5, e10, e11⟩ := bnd_inv e9
    obtain ⟨e12, rfl⟩ := asInt_inv e10
    obtain ⟨c, e11⟩ := guard_ok e11
    obtain ⟨rfl, rfl⟩ := ret_ok e11
    obtain ⟨rfl, rfl⟩ : _ ∧ _ := by simpa [itemsOf, itemsD, RV.d] using e2
    rw [Bool.and_eq_true] at c
    have c' := of_decide_eq_true c.1
    refine ⟨G, ρ, μ, r2, _, vw, e3, fun v G1 H1 s1 so1 r1 => ⟨G1, ρ, _, r4, _, ⟨so1, vw.env.step s1⟩, e8, fun v2 G2 H2 s2 so2 r3 => ⟨lo, hi, by rw [rv_int r1 e7, rv_int r3 e12], ⟨by omega, by omega, by omega, by omega⟩, k G2 H2 _ (s1.trans s2) so2 (Held_nil _) (walks_range (size_le c.2))⟩⟩⟩
/-! ## comprehensions -/
theorem StOk.wr {K : PySem.W.Frag} {G : Gh} {H : Hp} {μ : Mu} {a : Addr} {o : HO} (s : StOk K G H μ) (h : G a = some .own) : StOk K G (upd H a o) μ := by
  have ne : ∀ b t, G b = some t → t ≠ .own → b ≠ a := fun b t e ht z => by subst z; rw [h] at e; exact ht (Option.some.inj e).symm
  refine ⟨fun b u e => ?_, fun n c e => ?_, s.one, s.lt⟩
  · by_cases hb : b = a
    · subst hb; rw [upd_same]; exact fun z => by cases z
    · rw [upd_ne hb]; exact s.there b u e
  · obtain ⟨b, e1, r⟩ := s.cel n c e
    have hb := ne b _ e1 fun z => by cases z
    refine ⟨b, e1, ?_⟩
    cases r with
    | lst e2 r => exact .lst (by rw [upd_ne hb]; exact e2) (r.mono (fun c e => ⟨e, upd_ne (ne c _ e fun z => by cases z)⟩) fun c m e => e)
theorem reps_wr {K : PySem.W.Frag} {G : Gh} {H : Hp} {a : Addr} {o : HO} {vs : List V} {ds : List D} (h : G a = some .own) (r : Reps K G H vs ds) : Reps K G (upd H a o) vs ds :=
  r.mono (fun c e => ⟨e, upd_ne fun z => by subst z; rw [h] at e; cases e⟩) fun c m e => e
theorem wipe_same {σ σ' : L2.St} {is ws : List Nat} (h : SameBut is (L2.wipe σ ws) σ') (hs : ∀ i ∈ is, i ∈ ws) : L2.wipe σ' ws = L2.wipe σ ws := by
  have len : ∀ (τ : L2.St) ws, (L2.wipe τ ws).length = τ.length := L2.wipe_length
  have at_ : ∀ (τ : L2.St) (ws : List Nat) (i : Nat), (L2.wipe τ ws)[i]? = if i < τ.length ∧ i ∈ ws then some none else τ[i]? := by
    intro τ ws
    induction ws with
    | nil => intro i; simp [L2.wipe]
    | cons w ws ih =>
      intro i
      show ((L2.wipe τ ws).set w none)[i]? = _
      by_cases hi : w = i
      · subst hi
        by_cases hl : w < τ.length
        · rw [List.getElem?_set_self (by rw [len]; exact hl), if_pos ⟨hl, List.mem_cons_self⟩]
        · rw [List.getElem?_eq_none (by rw [List.length_set, len]; omega), if_neg (by omega), List.getElem?_eq_none (by omega)]
      · rw [List.getElem?_set_ne hi, ih]
        simp [Ne.symm hi]
  have hl : σ'.length = σ.length := h.1.trans (len σ ws)
  refine List.ext_getElem? fun i => ?_
  rw [at_, at_, hl]
  by_cases c : i < σ.length ∧ i ∈ ws
  · rw [if_pos c, if_pos c]
  · rw [if_neg c, if_neg c]
    by_cases hw : i ∈ ws
    · rw [List.getElem?_eq_none (by have : ¬ i < σ.length := fun z => c ⟨z, hw⟩; omega), List.getElem?_eq_none (by have : ¬ i < σ.length := fun z => c ⟨z, hw⟩; omega)]
    · have := h.2 i fun z => hw (hs i z)
      rw [this, at_, if_neg fun z => hw z.2]
theorem PTsimp {ifs : List Expr} {t t' : TT} (h : PTs X ifs t) (i : ∀ σ H Q, t' σ H Q → t σ H Q) : PTs X ifs t' := ⟨fun pins s σ H Q I q => h.run pins s σ H Q I (i σ H Q q)⟩
/-- one turn of a comprehension -/
def turnC (tg : Tg) (ws : List Nat) (mc : Env → M Bool) (me : Env → M D) (ρ : Env) (x : D) : M (Option D) := match bindT tg x (Sx.wipe ws ρ) with
  | none => bad
  | some ρ' => bnd (mc ρ') fun k => if k = true then bnd (me ρ') fun d => ret (some d) else ret none
theorem compH_held {α : Type} {h : Hd} {f : α → M (Option D)} {xs : List α} {μ μ' : Mu} {ys : List D} (e : compH h f xs μ = .ok ys μ') : Held h μ := by
  cases xs <;> (simp only [compH] at e; split at e <;> first | assumption | cases e)
theorem compH_step {α : Type} {h : Hd} {f : α → M (Option D)} {x : α} {xs : List α} {μ μ' : Mu} {ys : List D} (e : compH h f (x :: xs) μ = .ok ys μ') : bnd (f x) (fun y => bnd (compH h f xs) fun ys => ret (match y with | some y => y :: ys | none => ys)) μ = .ok ys μ' := by
  simp only [compH] at e
  split at e
  · exact e
  · cases e
theorem compH_end {α : Type} {h : Hd} {f : α → M (Option D)} {μ μ' : Mu} {ys : List D} (e : compH h f [] μ = .ok ys μ') : ys = [] ∧ μ' = μ := by
  simp only [compH] at e
  split at e
  · cases e; exact ⟨rfl, rfl⟩
  · cases e
theorem comp_imp {own : List (Str × Nat)} {tg : Tg} {mi : Env → M (List D × Hd)} {mc : Env → M Bool} {me : Env → M D} (sub : ∀ i ∈ tg.slots, i ∈ own.map (·.2)) {σ : L2.St} {H : Hp} {Q : VK}
    (q : tE X.K (fun ρ => bnd (mi ρ) fun p => bnd (compH p.2 (turnC tg (own.map (·.2)) mc me ρ) p.1) fun ys => ret (.own ys)) σ H Q) : tLc (tI X.K mi) (gT X.K tg) (tT X.K mc) (tF X.K me) (own.map (·.2)) σ H Q := by
    obtain ⟨G, ρ, μ, r, μ', vw, eq, k⟩ := q
    obtain ⟨⟨xs, hd⟩, μ1, e1, e2⟩ := bnd_inv eq
    obtain ⟨ys, μ2, e3, e4⟩ := bnd_inv e2
    obtain ⟨rfl, rfl⟩ := ret_ok e4
    refine ⟨G, ρ, μ, (xs, hd), μ1, vw, e1, fun G1 H1 J s1 so1 hh1 w1 D hD => ?_⟩
    dsimp only at e3 w1
    have er1 := vw.env.step s1
    have fD := so1.fresh hD
    refine ⟨fun i m H => m = xs.length - i ∧ i ≤ xs.length ∧ ∃ G' μ' vs ys' zs, Step G1 H1 G' H ∧ StOk X.K G' H μ' ∧ G' D = some .own ∧ H D = some (.lst vs) ∧ Reps X.K G' H vs ys' ∧ ys'.length ≤ i ∧ compH hd (turnC tg (own.map (·.2)) mc me ρ) (xs.drop i) μ' = .ok zs μ2 ∧ ys = ys' ++ zs,
      ⟨xs.length, rfl, Nat.zero_le _, put G1 D .own, μ1, [], [], ys, Step.new fD, so1.new hD (fun n z => by cases z), put_same, upd_same, .nil, Nat.le_refl _, e3, rfl⟩, ?_⟩
    rintro i m H2 ⟨rfl, hil, G2, μi, vs, ys', zs, s2, so2, gD, eD, rs, hl, ec, rfl⟩
    have hh2 := compH_held ec
    by_cases hlt : i < xs.length
    · refine .inr ⟨w1.go i G2 H2 μi s2.kp so2 hh2 hlt, fun H' => ∃ G' μ' vs ys'' zs', Step G1 H1 G' H' ∧ StOk X.K G' H' μ' ∧ G' D = some .own ∧ H' D = some (.lst vs) ∧ Reps X.K G' H' vs ys'' ∧ ys''.length ≤ i + 1 ∧ compH hd (turnC tg (own.map (·.2)) mc me ρ) (xs.drop (i + 1)) μ' = .ok zs' μ2 ∧ ys' ++ zs = ys'' ++ zs',
        fun H' h => ⟨xs.length - (i + 1), by omega, rfl, by omega, h⟩, fun x H3 y => ?_⟩
      have hx : xs[i]? = some xs[i] := List.getElem?_eq_getElem hlt
      obtain ⟨G3, s3, so3, rx⟩ := w1.yld i G2 H2 μi x H3 _ s2.kp so2 hh2 y hx
      rw [List.drop_eq_getElem_cons hlt] at ec
      replace ec := compH_step ec
      obtain ⟨o, μ3, f1, f2⟩ := bnd_inv (show bnd (turnC tg (own.map (·.2)) mc me ρ xs[i]) (fun y => bnd (compH hd (turnC tg (own.map (·.2)) mc me ρ) (xs.drop (i + 1))) fun ys => ret (match y with | some y => y :: ys | none => ys)) μi = .ok zs μ2 from ec)
      obtain ⟨zs', μ4, f3, f4⟩ := bnd_inv f2
      obtain ⟨rfl, rfl⟩ := ret_ok f4
      unfold turnC at f1
      cases hb : bindT tg xs[i] (Sx.wipe (own.map (·.2)) ρ) with
      | none => rw [hb] at f1; cases f1
      | some ρ' =>
        rw [hb] at f1
        obtain ⟨b, μ5, f5, f6⟩ := bnd_inv f1
        refine ⟨G3, _, _, ρ', ((er1.step (s2.trans s3)).wipe _), rx, hb, fun σ' er' sb => ⟨wipe_same sb sub, G3, ρ', μi, b, μ5, ⟨so3, er'⟩, f5, fun G4 H4 s4 so4 => ?_⟩⟩
        have sD : Step G2 H2 G4 H4 := s3.trans s4
        cases b with
        | false =>
          dsimp only
          rw [if_neg Bool.false_ne_true] at f6 ⊢
          obtain ⟨rfl, rfl⟩ := ret_ok f6
          exact ⟨G4, _, vs, ys', zs', s2.trans sD, so4, (sD _ _ gD).1, by rw [(sD _ _ gD).2 fun n z => by cases z]; exact eD, sD.reps rs, by omega, f3, rfl⟩
        | true =>
          dsimp only
          rw [if_pos rfl] at f6 ⊢
          obtain ⟨d, μ6, f7, f8⟩ := bnd_inv f6
          obtain ⟨rfl, rfl⟩ := ret_ok f8
          refine ⟨G4, ρ', _, d, _, ⟨so4, er'.step s4⟩, f7, fun v G5 H5 s5 so5 r5 => ?_⟩
          have sD5 := sD.trans s5
          have gD5 := (sD5 _ _ gD).1
          refine ⟨vs, by rw [(sD5 _ _ gD).2 fun n z => by cases z]; exact eD, by have := rs.len; have := w1.len; omega, ?_⟩
          have rn : Reps X.K G5 (upd H5 D (.lst (vs ++ [v]))) (vs ++ [v]) (ys' ++ [d]) := reps_wr gD5 ((sD5.reps rs).app (.cons r5 .nil))
          refine ⟨G5, _, vs ++ [v], ys' ++ [d], zs', fun a t e => ?_, so5.wr gD5, gD5, upd_same, rn, by simp; omega, f3, by simp⟩
          have hne : a ≠ D := fun z => by subst z; rw [fD] at e; cases e
          exact ⟨((s2.trans sD5) a t e).1, fun h => by rw [upd_ne hne]; exact ((s2.trans sD5) a t e).2 h⟩
    · have hi' : i = xs.length := by omega
      subst hi'
      rw [List.drop_length] at ec
      obtain ⟨rfl, rfl⟩ := compH_end ec
      rw [List.append_nil] at k
      exact .inl ⟨w1.stop G2 H2 _ s2.kp so2 hh2, k _ G2 H2 (s1.trans s2) so2 (.own (s1.nn fD) gD eD rs)⟩
theorem pd_comp {elt tgE iter : Expr} {ifs : List Expr} {scope : Scope} {own : List (Str × Nat)} {pos : Pos} {tg : Tg} {mi : Env → M (List D × Hd)} {mc : Env → M Bool} {me : Env → M D}
    (hc : X.calm = true) (hN : X.N.Nodup) (hi : PI X tgE iter (tI X.K mi)) (ok : BlkOk X.N X.env.scope scope own) (sub : ∀ i ∈ tg.slots, i ∈ own.map (·.2))
    (hg : ∀ (s : Shared) (H : Hp) (C : Addr) (cl : List (Str × Addr)) (fp : List Addr), PG (X.blk s H scope (compEnvC scope cl C X.env) fp) tgE (gT X.K tg))
    (ht : ∀ (s : Shared) (H : Hp) (C : Addr) (cl : List (Str × Addr)) (fp : List Addr), PTs (X.blk s H scope (compEnvC scope cl C X.env) fp) ifs (tT X.K mc))
    (he : ∀ (s : Shared) (H : Hp) (C : Addr) (cl : List (Str × Addr)) (fp : List Addr), PE (X.blk s H scope (compEnvC scope cl C X.env) fp) elt (tF X.K me)) (hs : ∀ x, foldedSetIterable iter X.env x = pure x) :
    PD X (.ListComp elt [⟨tgE, iter, ifs, 0⟩] scope pos) (fun ρ => bnd (mi ρ) fun p => bnd (compH p.2 (turnC tg (own.map (·.2)) mc me ρ) p.1) fun ys => ret (.own ys)) :=
  PEimp (pe_lc hc hN hi ok hg ht he hs) fun σ H Q q => comp_imp sub q
end
end Sx
set_option maxHeartbeats 2000000
/-! # Sx: zip, enumerate, reversed as what is walked -/
namespace Sx
open PySem L2 PyProof.Rows
section
variable {K : PySem.W.Frag} {G : Gh} {H : Hp} {μ : Mu}
/-- a pair that a walk has made -/
theorem pair_new {K : PySem.W.Frag} {G : Gh} {H : Hp} {μ : Mu} {T : Addr} {x y : V} {dx dy : D} (so : StOk K G H μ) (hT : H T = none) (rx : Rep K G H x dx) (ry : Rep K G H y dy) :
    ∃ G2, Step G H G2 (upd H T (.tup [x, y])) ∧ StOk K G2 (upd H T (.tup [x, y])) μ ∧ Rep K G2 (upd H T (.tup [x, y])) (.ref T) (.tup [dx, dy]) := by
  have st : Step G H (put G T .frz) (upd H T (.tup [x, y])) := Step.new (so.fresh hT)
  exact ⟨_, st, so.new hT (fun n z => by cases z), .tup (.inl ⟨put_same, .inl upd_same⟩) (.cons (st.rep rx) (.cons (st.rep ry) .nil))⟩
theorem zipWith_at {xs ys : List D} {i : Nat} {d : D} (e : (List.zipWith (fun a b => D.tup [a, b]) xs ys)[i]? = some d) : ∃ a b, xs[i]? = some a ∧ ys[i]? = some b ∧ d = .tup [a, b] := by
  rw [List.getElem?_zipWith] at e
  split at e
  · rename_i a b h1 h2
    exact ⟨a, b, h1, h2, (Option.some.inj e).symm⟩
  · cases e
theorem walks_zip {hd hd' : Hd} {xs ys : List D} {sq sq' : Hp → List V → Prop} {J : It} (hl : xs.length ≤ sizeLine)
    (hJ : J = ⟨fun i H => ∃ (xs ys : List V) (x y : V), sq H xs ∧ sq' H ys ∧ xs[i]? = some x ∧ ys[i]? = some y,
      fun i H v H' => ∃ T x y, v = .ref T ∧ H T = none ∧ H' = upd H T (.tup [x, y]) ∧ (∀ xs, sq H xs → xs[i]? = some x) ∧ ∀ ys, sq' H ys → ys[i]? = some y,
      fun i H => ∃ xs ys : List V, sq H xs ∧ sq' H ys ∧ (xs.length ≤ i ∨ ys.length ≤ i)⟩)
    (s1 : Src K G H hd sq xs) (s2 : Src K G H hd' sq' ys) : Walks K G H (hd ++ hd') J (List.zipWith (fun a b => D.tup [a, b]) xs ys) := by
  subst hJ
  refine ⟨by rw [List.length_zipWith]; omega, fun i G1 H1 μ1 k so h hi => ?_, fun i G1 H1 μ1 x H2 d k so h y e => ?_, fun G1 H1 μ1 k so h => ?_⟩
  · rw [List.length_zipWith] at hi
    obtain ⟨vs, q, r⟩ := s1 G1 H1 μ1 k so h.left
    obtain ⟨ws, q', r'⟩ := s2 G1 H1 μ1 k so h.right
    obtain ⟨v, e, _⟩ := r.get (List.getElem?_eq_getElem (by omega : i < xs.length))
    obtain ⟨w, e', _⟩ := r'.get (List.getElem?_eq_getElem (by omega : i < ys.length))
    exact ⟨vs, ws, v, w, q, q', e, e'⟩
  · obtain ⟨T, x1, y1, rfl, hT, rfl, ha, hb⟩ := y
    obtain ⟨a, b, ea, eb, rfl⟩ := zipWith_at e
    obtain ⟨vs, q, r⟩ := s1 G1 H1 μ1 k so h.left
    obtain ⟨ws, q', r'⟩ := s2 G1 H1 μ1 k so h.right
    obtain ⟨v, e1, rv⟩ := r.get ea
    obtain ⟨w, e2, rw'⟩ := r'.get eb
    cases (ha vs q).symm.trans e1
    cases (hb ws q').symm.trans e2
    exact pair_new so hT rv rw'
  · obtain ⟨vs, q, r⟩ := s1 G1 H1 μ1 k so h.left
    obtain ⟨ws, q', r'⟩ := s2 G1 H1 μ1 k so h.right
    refine ⟨vs, ws, q, q', ?_⟩
    rw [List.length_zipWith, r.len, r'.len]
    omega
theorem walks_enum {hd : Hd} {xs : List D} {sq : Hp → List V → Prop} {J : It} (hl : xs.length ≤ sizeLine)
    (hJ : J = ⟨fun i H => ∃ (xs : List V) (x : V), sq H xs ∧ xs[i]? = some x, fun i H v H' => ∃ T x, v = .ref T ∧ H T = none ∧ H' = upd H T (.tup [.int (i : Nat), x]) ∧ ∀ xs, sq H xs → xs[i]? = some x, fun i H => ∃ xs : List V, sq H xs ∧ xs.length ≤ i⟩)
    (s1 : Src K G H hd sq xs) : Walks K G H hd J (enumL xs) := by
  subst hJ
  have hL : (enumL xs).length = xs.length := by simp [enumL]
  refine ⟨by rw [hL]; exact hl, fun i G1 H1 μ1 k so h hi => ?_, fun i G1 H1 μ1 x H2 d k so h y e => ?_, fun G1 H1 μ1 k so h => ?_⟩
  · rw [hL] at hi
    obtain ⟨vs, q, r⟩ := s1 G1 H1 μ1 k so h
    obtain ⟨v, e, _⟩ := r.get (List.getElem?_eq_getElem hi)
    exact ⟨vs, v, q, e⟩
  · obtain ⟨T, x1, rfl, hT, rfl, ha⟩ := y
    obtain ⟨vs, q, r⟩ := s1 G1 H1 μ1 k so h
    unfold enumL at e
    rw [List.getElem?_map, List.getElem?_zipIdx] at e
    cases q2 : xs[i]? with
    | none => rw [q2] at e; simp at e
    | some z =>
      rw [q2] at e
      simp only [Nat.zero_add, Option.map_some, Option.some.injEq] at e
      subst e
      obtain ⟨v, e1, rv⟩ := r.get q2
      cases (ha vs q).symm.trans e1
      exact pair_new so hT (.int _) rv
  · obtain ⟨vs, q, r⟩ := s1 G1 H1 μ1 k so h
    exact ⟨vs, q, by rw [hL, r.len]; exact Nat.le_refl _⟩
theorem walks_rev {hd : Hd} {xs : List D} {n : Nat} {sq : Hp → List V → Prop} {J : It} (hl : xs.length ≤ sizeLine) (hn : xs.length = n)
    (hJ : J = ⟨fun i H => i < n ∧ ∃ (xs : List V) (x : V), sq H xs ∧ xs[n - 1 - i]? = some x, fun i H x H' => H' = H ∧ ∀ xs, sq H xs → xs[n - 1 - i]? = some x, fun i _ => n ≤ i⟩)
    (s1 : Src K G H hd sq xs) : Walks K G H hd J xs.reverse := by
  subst hJ hn
  refine ⟨by rw [List.length_reverse]; exact hl, fun i G1 H1 μ1 k so h hi => ?_, fun i G1 H1 μ1 x H2 d k so h y e => ?_, fun G1 H1 μ1 k so h => by rw [List.length_reverse]; exact Nat.le_refl _⟩
  · rw [List.length_reverse] at hi
    obtain ⟨vs, q, r⟩ := s1 G1 H1 μ1 k so h
    obtain ⟨v, e, _⟩ := r.get (List.getElem?_eq_getElem (by omega : xs.length - 1 - i < xs.length))
    exact ⟨hi, vs, v, q, e⟩
  · obtain ⟨rfl, ha⟩ := y
    obtain ⟨vs, q, r⟩ := s1 G1 _ μ1 k so h
    have hi : i < xs.length := by
      have := (List.getElem?_eq_some_iff.mp e).1
      rwa [List.length_reverse] at this
    rw [List.getElem?_reverse hi] at e
    obtain ⟨v, e1, rv⟩ := r.get e
    cases (ha vs q).symm.trans e1
    exact ⟨G1, .refl, so, rv⟩
end
/-! ### enumerate of a tuple -/
def IteT (K : PySem.W.Frag) (a : Addr) : It :=
  ⟨fun i H => ∃ (xs : List V) (x : V), SqT K H a xs ∧ xs[i]? = some x, fun i H v H' => ∃ T x, v = .ref T ∧ H T = none ∧ H' = upd H T (.tup [.int (i : Nat), x]) ∧ ∀ xs, SqT K H a xs → xs[i]? = some x, fun i H => ∃ xs : List V, SqT K H a xs ∧ xs.length ≤ i⟩
set_option maxHeartbeats 1000000 in
theorem meets_enum1B {v : Value} {o : Obj} {H : Heap → Prop} (B : Begins v o H) :
    Meets (Builtin.«enumerate.__new__» ⟨[.type "enumerate", v], []⟩) (fun _ R s => H s.heap ∧
      R (.ok (.ret (.ref (s.heap.push o).objs.size))) { s with heap := (s.heap.push o).push { cls := .type "enumerate", data := .fields #[.none, .bool false, .ref s.heap.objs.size, rawInt 0, .none, .none] } }) :=
  .of_wp fun prog w A R s h => by
    obtain ⟨hp, g, d, tk, os⟩ := s; obtain ⟨h1, h⟩ := h
    have hsub := sub_enumerate
    have q1 : ∀ {A' : Around} {E : Value → Shared → Prop} {Q : Value → Shared → Prop}, Q (.ref hp.objs.size) ⟨hp.push o, g, d, tk, os⟩ → wpAny (model prog w) A' (pyIter v) Q E ⟨hp, g, d, tk, os⟩ :=
      fun q => B.iter prog w _ _ ⟨hp, g, d, tk, os⟩ _ h1 q
    wp_walk
    refine wpAny_stack_any fun st => wpAny_pure ?_
    split
    · rename_i c _ _ _ _ _
      cases (c == Value.type "enumerate")
      · wp_walk using q1
        exact ⟨_, rfl, h⟩
      · wp_walk using q1
        exact ⟨_, rfl, h⟩
    · wp_walk using q1
      exact ⟨_, rfl, h⟩
theorem call_enumT {prog : Program} {w : World} {A : Around} {E : Value → Shared → Prop} {s : Shared} {a : Addr} {items : Array Value} {Q : Value → Shared → Prop} (hL : s.heap.IsTuple a items)
    (h : ∀ h', IsEnum h' (s.heap.objs.size + 1) s.heap.objs.size 0 .none → h'.IsTupleIter s.heap.objs.size a 0 → h'.objs.size = s.heap.objs.size + 2 →
      (∀ b o, s.heap.get? b = some o → h'.get? b = some o) → Q (.ref (s.heap.objs.size + 1)) { s with heap := h' }) :
    wpAny (model prog w) A (call (.type "enumerate") [.ref a]) Q E s := by
  refine callType_new F.called_enumerate (by decide) (F.typeCall_enumerate_1 _) (F.newCall_enumerate_1 _) (fun obj => F.args_object_init_2 obj _) F.entry_enumerate_new (meets_enum1B (begins_tuple a items)) ⟨hL, ?_⟩
  have hz : (s.heap.push { cls := .type "tuple_iterator", data := .fields #[.ref a, .int 0 0] }).objs.size = s.heap.objs.size + 1 := Heap.size_push ..
  show _ ∧ _
  rw [hz]
  have he : IsEnum ((s.heap.push { cls := .type "tuple_iterator", data := .fields #[.ref a, .int 0 0] }).push { cls := .type "enumerate", data := .fields #[.none, .bool false, .ref s.heap.objs.size, rawInt 0, .none, .none] }) (s.heap.objs.size + 1) s.heap.objs.size 0 .none := by
    have := Heap.get?_push_size (s.heap.push { cls := .type "tuple_iterator", data := .fields #[.ref a, .int 0 0] }) (o := { cls := .type "enumerate", data := .fields #[.none, .bool false, .ref s.heap.objs.size, rawInt 0, .none, .none] }) rfl
    rw [hz] at this; exact this
  refine ⟨⟨_, he, rfl⟩, h _ he ⟨_, Heap.get?_push_of_some _ (Heap.get?_push_size _ rfl), rfl, rfl⟩ (by rw [Heap.size_push, hz]) fun b o x => Heap.get?_push_of_some _ (Heap.get?_push_of_some _ x)⟩
theorem turn_enumT {P : Program} {w : World} {K : PySem.W.Frag} {elts : List Expr} {kk : Nat} {tpos : Pos} (a e it : Addr) (n1 : e ≠ it) (n2 : e ≠ a) (n3 : a ≠ it) :
    L2.Turn P w K (.Tuple elts kk tpos) (IteT K a) [e, it] e (fun i h => (∃ old, IsEnum h e it ((i : Nat) : Int) old) ∧ h.IsTupleIter it a i) where
  mem := by simp
  obj := fun i h st b hb => by
    obtain ⟨⟨old, he⟩, ⟨o, ho, hc, hd⟩⟩ := st
    have e' : b = e ∨ b = it := by simpa using hb
    rcases e' with z | z
    · rw [z]; exact ⟨_, he, fun v q => nomatch q⟩
    · rw [z]; exact ⟨o, ho, fun v q => by rw [hd] at q; cases q⟩
  keep := fun i h h' st k => let ⟨⟨old, he⟩, hi⟩ := st; ⟨⟨old, k e (by simp) _ he⟩, hi.at fun o q => k it (by simp) o q⟩
  item := by
    intro X hP hw hK hc i pins s σ H E I hf st hg
    subst hP hw hK
    obtain ⟨⟨old, he⟩, hit⟩ := st
    obtain ⟨xs, x, hq, hx⟩ := hg
    obtain ⟨its, rv, p, hz⟩ := I.tuple hq
    obtain ⟨u, hu, ru⟩ := rv.get hx
    have hel : e < s.heap.objs.size := Heap.lt_size he
    have hil : it < s.heap.objs.size := by obtain ⟨_, q, _⟩ := hit; exact Heap.lt_size q
    have hut : its.toArray[i]? = some u := by simpa using hu
    have hlt : i < its.toArray.size := (Array.getElem?_eq_some_iff.mp hut).1
    refine wpAny_pyNext_enum_itemD (Draws.tuple (A := X.A.in1) (I.ok.hd hc) it a n3 its.toArray) he ⟨hit, p⟩ hlt n1 (by simp [n1, n2]) fun u' h' tk hPx ho hst' hT hsz hk => ?_
    have := hut.symm.trans hPx
    cases this
    refine ⟨_, rfl, wpAny_letOwnedTupleGo_enum (s := { s with heap := h', toks := tk + 1 }) ho fun h'' he' sb => ?_⟩
    have hT2 : h''.get? s.heap.objs.size = some { cls := .type "tuple", data := .seq #[.int i tk, u] } := (sb.2 _ (Nat.ne_of_gt hel)).trans hT
    have new : ObjOk X.prog X.w (upd H s.heap.objs.size (.tup [.int (i : Nat), x])) h'' s.heap.objs.size (.tup [.int (i : Nat), x]) :=
      ⟨by show 2 ≤ sizeLine; decide, [.int i tk, u], .cons ⟨_, rfl⟩ (.cons ru .nil), ⟨_, hT2, rfl, _, rfl⟩⟩
    have I1 : Inv X pins σ (upd H s.heap.objs.size (.tup [.int (i : Nat), x])) { s with heap := h'', toks := tk + 1 } :=
      I.turnedNew (ch := [e, it]) (fun b ob hb q => (sb.2 b (fun z => hb (by simp [z]))).trans (hk b ob (fun z => hb (by simp [z])) (fun z => hb (by simp [z])) q)) hf (Nat.le_refl _) new
    refine ⟨.ref s.heap.objs.size, _, I1, rfl, ⟨_, x, rfl, I.hok.fresh (Nat.le_refl _), rfl, fun ys hy => by rw [I.tuple_inj hy hq]; exact hx⟩, ⟨⟨u, ?_⟩, hst'.1.at fun o q => (sb.2 it (Ne.symm n1)).trans q⟩, fun b hb => ?_⟩
    · have e1 : ((i + 1 : Nat) : Int) = (i : Int) + 1 := by omega
      rw [e1]; exact he'
    · have hb' : b < s.heap.objs.size := by
        have e' : b = e ∨ b = it := by simpa using hb
        rcases e' with z | z
        · rw [z]; exact hel
        · rw [z]; exact hil
      rw [upd_ne (Nat.ne_of_lt hb')]
      exact (hf b hb).1
  done := by
    intro X hP hw hK hc i pins s σ H E I hf st hg
    subst hP hw hK
    obtain ⟨⟨old, he⟩, hit⟩ := st
    obtain ⟨xs, hq, hx⟩ := hg
    obtain ⟨its, rv, p, hz⟩ := I.tuple hq
    obtain ⟨f0, f1, f2, f3, f4, f5⟩ := hf it (by simp)
    have hl := rv.length
    have D : Draws X.prog X.w X.A.in1 it [it, a] i (fun _ _ => True) (fun j h => h.IsTupleIter it a j ∧ h.IsTuple a its.toArray ∧ i ≤ j) :=
      { live := fun _ _ st => let ⟨o, ho, _⟩ := st.1; ⟨o, ho⟩
        frame := fun _ _ _ st hk => ⟨st.1.at fun o e => hk it (by simp) o e, st.2.1.at fun o e => hk a (by simp) o e, st.2.2⟩
        item := fun j s Q E hi st hQ => by have := st.2.2; omega
        done := fun s Q E st hE => wpAny_nextOf_tuple_end (I.ok.hd hc) st.1 st.2.1 (by simp; omega) hE }
    exact wpAny_pyNext_enum_endD D he ⟨hit, p, Nat.le_refl _⟩ fun h' eb => ⟨rfl, I.turned (t' := s.toks) (fun b o hb q => eb b o hb q) f0 f1 f3 f4 f5⟩
  self := fun A i s Q E st h => let ⟨⟨_, he⟩, _⟩ := st; wpAny_pyIter_enum he h
def iEnumA (K : PySem.W.Frag) (te : TE) : TI := fun σ H R => te σ H fun v H1 => ∃ (a : Addr) (xs : List V), v = .ref a ∧ ((SqL K H1 a xs ∧ R (Ite K a) H1) ∨ (SqT K H1 a xs ∧ R (IteT K a) H1))
theorem pi_enumA {X : Cx} {e : Expr} {te : TE} {p pos tpos : Pos} {elts : List Expr} {kk : Nat} (hg : Gl X "enumerate") (hm : X.mg "enumerate" = none) (he : PE X e te) (hs : starEach [e] X.env = (false, eval e X.env) :: starEach [] X.env := by rfl) :
    PI X (.Tuple elts kk tpos) (.Call (.Name "enumerate" p) [e] [] pos) (iEnumA X.K te) := by
  refine ⟨fun pins s σ H R I h => ?_⟩
  refine Call_ (ld_blt I hg hm boot_enumerate (PyProof.Rows.callWith_type1 (args_cons (thn (he.run pins s σ H _ I h) fun u s1 ⟨v, H1, I1, r1, q1⟩ => args_nil ?_) hs) hs rfl))
  obtain ⟨a, xs, ev, q⟩ := q1
  subst ev
  obtain rfl : u = Value.ref a := r1
  have fp : ∀ b ∈ [s1.heap.objs.size + 1, s1.heap.objs.size], FpOk X pins H1 b := fun b hb => by
    have e' : b = s1.heap.objs.size + 1 ∨ b = s1.heap.objs.size := by simpa using hb
    have hle : s1.heap.objs.size ≤ b := by
      rcases e' with z | z
      · rw [z]; exact Nat.le_add_right _ _
      · rw [z]; exact Nat.le_refl _
    exact I1.fpOk hle (I1.hok.fresh hle)
  rcases q with ⟨hq, q⟩ | ⟨hq, q⟩
  · obtain ⟨its, rv, p', hz⟩ := I1.list hq
    refine call_enumerate_list p'.isList fun h' he hit hsz hk => wpAny_pyIter_enum he ?_
    have I2 : Inv X pins σ H1 { s1 with heap := h' } := I1.kept (t' := s1.toks) hk
    exact ⟨s1.heap.objs.size + 1, [s1.heap.objs.size + 1, s1.heap.objs.size], _, _, H1, rfl, I2, turn_enum a (s1.heap.objs.size + 1) s1.heap.objs.size, ⟨⟨.none, he⟩, hit, Nat.succ_ne_self _⟩, fp, q⟩
  · obtain ⟨its, rv, p', hz⟩ := I1.tuple hq
    obtain ⟨o1, ho1, _⟩ := id p'
    have hlt := Heap.lt_size ho1
    refine call_enumT (show s1.heap.IsTuple a its.toArray from p') fun h' he hit hsz hk => wpAny_pyIter_enum he ?_
    have I2 : Inv X pins σ H1 { s1 with heap := h' } := I1.kept (t' := s1.toks) hk
    exact ⟨s1.heap.objs.size + 1, [s1.heap.objs.size + 1, s1.heap.objs.size], _, _, H1, rfl, I2, turn_enumT a (s1.heap.objs.size + 1) s1.heap.objs.size (Nat.succ_ne_self _) (Nat.ne_of_gt (Nat.lt_succ_of_lt hlt)) (Nat.ne_of_lt hlt), ⟨⟨.none, he⟩, hit⟩, fp, q⟩
section
variable {X : Cx}
theorem zipD_inv {x y : D} {μ μ' : Mu} {r : RV} {p : List D × Hd} {μ'' : Mu} (e : zipD x y μ = .ok r μ') (e2 : itemsOf r μ' = .ok p μ'') : ∃ p1 p2, itemsD μ x = some p1 ∧ itemsD μ y = some p2 ∧ isT x = isT y ∧ p1.1.length ≤ sizeLine ∧ p = (List.zipWith (fun a b => D.tup [a, b]) p1.1 p2.1, p1.2 ++ p2.2) ∧ μ' = μ ∧ μ'' = μ := by
  unfold zipD at e
  split at e
  · rename_i p1 p2 h1 h2
    split at e
    · rename_i h3
      cases e
      cases e2
      exact ⟨p1, p2, h1, h2, h3.1, size_le h3.2, rfl, rfl, rfl⟩
    · cases e
  · cases e
theorem enumD_inv {x : D} {μ μ' : Mu} {r : RV} {p : List D × Hd} {μ'' : Mu} (e : enumD x μ = .ok r μ') (e2 : itemsOf r μ' = .ok p μ'') : ∃ p1, itemsD μ x = some p1 ∧ p1.1.length ≤ sizeLine ∧ p = (enumL p1.1, p1.2) ∧ μ' = μ ∧ μ'' = μ := by
  unfold enumD at e
  split at e
  · rename_i p1 h1
    split at e
    · rename_i h3
      cases e
      cases e2
      exact ⟨p1, h1, size_le h3, rfl, rfl, rfl⟩
    · cases e
  · cases e
theorem revD_inv {x : D} {μ μ' : Mu} {r : RV} {p : List D × Hd} {μ'' : Mu} (e : revD x μ = .ok r μ') (e2 : itemsOf r μ' = .ok p μ'') : ∃ p1, itemsD μ x = some p1 ∧ p1.1.length ≤ sizeLine ∧ p = (p1.1.reverse, p1.2) ∧ μ' = μ ∧ μ'' = μ := by
  unfold revD at e
  split at e
  · rename_i p1 h1
    split at e
    · rename_i h3
      cases e
      cases e2
      exact ⟨p1, h1, size_le h3, rfl, rfl, rfl⟩
    · cases e
  · cases e
theorem pi_zip_sx {a b : Expr} {elts : List Expr} {kk : Nat} {tpos p pos : Pos} {ma mb : Env → M D} (hg : Gl X "zip") (hm : X.mg "zip" = none) (hs : PySem.W.isStarred a = false) (hs2 : PySem.W.isStarred b = false) (ha : PE X a (tF X.K ma)) (hb : PE X b (tF X.K mb)) :
    PI X (.Tuple elts kk tpos) (.Call (.Name "zip" p) [a, b] [] pos) (tI X.K fun ρ => bnd (bnd (ma ρ) fun x => bnd (mb ρ) fun y => zipD x y) itemsOf) :=
  PIimp (RZ.pi_zipA hg hm (pds_cons hs ha (pds_cons hs2 hb pds_nil)) (star_cons hs) (by rw [star_cons hs2]; rfl)) fun σ H R q => by
    obtain ⟨G, ρ, μ, q, μ', vw, eq, k⟩ := q
    obtain ⟨r, μ1, e1, e2⟩ := bnd_inv eq
    obtain ⟨x, μ2, e3, e4⟩ := bnd_inv e1
    obtain ⟨y, μ3, e5, e6⟩ := bnd_inv e4
    obtain ⟨p1, p2, h1, h2, h3, h4, rfl, rfl, rfl⟩ := zipD_inv e6 e2
    refine ⟨G, ρ, μ, [x, y], _, vw, by show bnd _ _ μ = _; rw [bnd_ok e3]; show bnd (bnd _ _) _ _ = _; rw [bnd_ok (show bnd (mb ρ) (fun d => bnd (ret []) fun ds => ret (d :: ds)) μ2 = .ok [y] _ from by rw [bnd_ok e5]; rfl)]; rfl, fun vs G1 H1 s1 so1 rs => ?_⟩
    cases rs with
    | cons r1 rs => cases rs with
      | cons r2 rs => cases rs with
        | nil =>
          obtain ⟨hh1, a, rfl, q1⟩ := src_of so1 r1 h1
          obtain ⟨hh2, b, rfl, q2⟩ := src_of so1 r2 h2
          have hh : Held (p1.2 ++ p2.2) _ := fun z hz => (List.mem_append.mp hz).elim (hh1 z) (hh2 z)
          rcases q1 with ⟨t1, q1⟩ | ⟨t1, q1⟩
          · rcases q2 with ⟨t2, q2⟩ | ⟨t2, q2⟩
            · obtain ⟨vs, g1, rr1⟩ := q1 G1 H1 _ .refl so1 hh1
              obtain ⟨ws, g2, rr2⟩ := q2 G1 H1 _ .refl so1 hh2
              exact ⟨a, b, vs, ws, rfl, .inr ⟨g1, g2, k G1 H1 _ s1 so1 hh (walks_zip (sq := fun H vs => SqT X.K H a vs) (sq' := fun H vs => SqT X.K H b vs) h4 rfl q1 q2)⟩⟩
            · rw [t1, t2] at h3; cases h3
          · rcases q2 with ⟨t2, q2⟩ | ⟨t2, q2⟩
            · rw [t1, t2] at h3; cases h3
            · obtain ⟨vs, g1, rr1⟩ := q1 G1 H1 _ .refl so1 hh1
              obtain ⟨ws, g2, rr2⟩ := q2 G1 H1 _ .refl so1 hh2
              exact ⟨a, b, vs, ws, rfl, .inl ⟨g1, g2, k G1 H1 _ s1 so1 hh (walks_zip (sq := fun H vs => SqL X.K H a vs) (sq' := fun H vs => SqL X.K H b vs) h4 rfl q1 q2)⟩⟩
theorem pi_rev_sx {a tg : Expr} {p pos : Pos} {ma : Env → M D} (hg : Gl X "reversed") (hm : X.mg "reversed" = none) (hs : PySem.W.isStarred a = false) (ha : PE X a (tF X.K ma)) :
    PI X tg (.Call (.Name "reversed" p) [a] [] pos) (tI X.K fun ρ => bnd (bnd (ma ρ) revD) itemsOf) :=
  PIimp (RT.pi_revA hg hm ha (star_cons hs)) fun σ H R q => by
    obtain ⟨G, ρ, μ, q, μ', vw, eq, k⟩ := q
    obtain ⟨r, μ1, e1, e2⟩ := bnd_inv eq
    obtain ⟨x, μ2, e3, e4⟩ := bnd_inv e1
    obtain ⟨p1, h1, h4, rfl, rfl, rfl⟩ := revD_inv e4 e2
    refine ⟨G, ρ, μ, x, _, vw, e3, fun v G1 H1 s1 so1 r1 => ?_⟩
    obtain ⟨hh1, a, rfl, q1⟩ := src_of so1 r1 h1
    rcases q1 with ⟨t1, q1⟩ | ⟨t1, q1⟩
    · obtain ⟨vs, g1, rr1⟩ := q1 G1 H1 _ .refl so1 hh1
      exact ⟨a, vs, rfl, .inr ⟨g1, k G1 H1 _ s1 so1 hh1 (walks_rev (sq := fun H vs => SqT X.K H a vs) h4 rr1.len.symm rfl q1)⟩⟩
    · obtain ⟨vs, g1, rr1⟩ := q1 G1 H1 _ .refl so1 hh1
      exact ⟨a, vs, rfl, .inl ⟨g1, k G1 H1 _ s1 so1 hh1 (walks_rev (sq := fun H vs => SqL X.K H a vs) h4 rr1.len.symm rfl q1)⟩⟩
theorem pi_enum_sx {a : Expr} {elts : List Expr} {kk : Nat} {tpos p pos : Pos} {ma : Env → M D} (hg : Gl X "enumerate") (hm : X.mg "enumerate" = none) (hs : PySem.W.isStarred a = false) (ha : PE X a (tF X.K ma)) :
    PI X (.Tuple elts kk tpos) (.Call (.Name "enumerate" p) [a] [] pos) (tI X.K fun ρ => bnd (bnd (ma ρ) enumD) itemsOf) :=
  PIimp (pi_enumA hg hm ha (star_cons hs)) fun σ H R q => by
    obtain ⟨G, ρ, μ, q, μ', vw, eq, k⟩ := q
    obtain ⟨r, μ1, e1, e2⟩ := bnd_inv eq
    obtain ⟨x, μ2, e3, e4⟩ := bnd_inv e1
    obtain ⟨p1, h1, h4, rfl, rfl, rfl⟩ := enumD_inv e4 e2
    refine ⟨G, ρ, μ, x, _, vw, e3, fun v G1 H1 s1 so1 r1 => ?_⟩
    obtain ⟨hh1, a, rfl, q1⟩ := src_of so1 r1 h1
    rcases q1 with ⟨t1, q1⟩ | ⟨t1, q1⟩
    · obtain ⟨vs, g1, rr1⟩ := q1 G1 H1 _ .refl so1 hh1
      exact ⟨a, vs, rfl, .inr ⟨g1, k G1 H1 _ s1 so1 hh1 (walks_enum (sq := fun H vs => SqT X.K H a vs) h4 rfl q1)⟩⟩
    · obtain ⟨vs, g1, rr1⟩ := q1 G1 H1 _ .refl so1 hh1
      exact ⟨a, vs, rfl, .inl ⟨g1, k G1 H1 _ s1 so1 hh1 (walks_enum (sq := fun H vs => SqL X.K H a vs) h4 rfl q1)⟩⟩
end
end Sx
set_option maxHeartbeats 2000000
/-! # Sx: a core term against the program's own text -/
namespace Sx
open PySem L2 PyProof.Rows
mutual
def D.same : D → D → Bool
  | .non, .non => true | .bl a, .bl b => a == b | .int a, .int b => a == b | .str a, .str b => decide (a = b)
  | .tup a, .tup b => sames a b | .lst a, .lst b => sames a b
  | _, _ => false
def sames : List D → List D → Bool
  | [], [] => true
  | a :: as, b :: bs => a.same b && sames as bs
  | _, _ => false
end
mutual
theorem same_eq : ∀ (a b : D), a.same b = true → a = b
  | .non, b, h => by cases b <;> simp_all [D.same]
  | .bl x, b, h => by cases b <;> simp_all [D.same]
  | .int x, b, h => by cases b <;> simp_all [D.same]
  | .str x, b, h => by cases b <;> simp_all [D.same]
  | .tup x, b, h => by
    cases b with
    | tup y => rw [sames_eq x y (by simpa only [D.same] using h)]
    | _ => simp [D.same] at h
  | .lst x, b, h => by
    cases b with
    | lst y => rw [sames_eq x y (by simpa only [D.same] using h)]
    | _ => simp [D.same] at h
  | .dic _, b, h => by cases b <;> simp [D.same] at h
  | .cell _, b, h => by cases b <;> simp [D.same] at h
  | .exc _ _, b, h => by cases b <;> simp [D.same] at h
theorem sames_eq : ∀ (a b : List D), sames a b = true → a = b
  | [], [], _ => rfl
  | [], _ :: _, h => by simp [sames] at h
  | _ :: _, [], h => by simp [sames] at h
  | a :: as, b :: bs, h => by
    simp only [sames, Bool.and_eq_true] at h
    rw [same_eq a b h.1, sames_eq as bs h.2]
end
structure Cfg where
  gl : List (Str × D)
  fn : Nat → Str → Bool
  bl : List Str
def visB (S : Sco) (x : Str) : Bool := match S.sc.names.lookup x with
  | some .local => true | some .cell => true | some .free => true | _ => false
def gloB (S : Sco) (x : Str) : Bool := S.sc.names.lookup x == some .globalImplicit
def okN (x : Str) : Bool := !(x == ("__debug__" : Str)) && !(x == ("__classdict__" : Str))
def Blt.nm : Blt → Str
  | .len => "len" | .abs => "abs" | .list => "list" | .tuple => "tuple" | .repr => "repr" | .str => "str" | .int => "int" | .sum => "sum" | .all => "all" | .any => "any"
def cstB : D → Const → Bool
  | .non, .none => true | .bl a, .bool b => a == b | .int a, .int b => a == b | .str a, .str b => decide (a = b)
  | _, _ => false
def notSlice : Expr → Bool
  | .Slice .. => false
  | _ => true
def notSet : Expr → Bool
  | .Set .. => false
  | _ => true
def isMis : Tm → Bool
  | .mis => true
  | _ => false
def bltB (cf : Cfg) (S : Sco) (x : Str) : Bool := gloB S x && cf.bl.contains x
def tyB (cf : Cfg) (S : Sco) (t : Ty) : Expr → Bool
  | .Name x _ => decide (x = Str.ofString t.nm) && bltB cf S x
  | _ => false
def tysB (cf : Cfg) (S : Sco) : List Ty → List Expr → Bool
  | [], [] => true
  | t :: ts, e :: es => tyB cf S t e && tysB cf S ts es
  | _, _ => false
def ownOf (N : List Str) (ws : List Nat) : List (Str × Nat) := ws.map fun i => ((N[i]?).getD "", i)
def blkS (S : Sco) (scope : Scope) : Sco := ⟨relS scope S.sc, fun x => scope.names.lookup x == some .cell⟩
/-- what a test may be -/
def tstB : Expr → Bool
  | .IfExp .. => false
  | .NamedExpr .. => false
  | _ => true
def callB (cf : Cfg) (S : Sco) (f : Nat) (x : Str) : Bool := cf.fn f x && gloB S x && okN x
/-- what gives a new list -/
def newB : Expr → Bool
  | .List .. => true | .ListComp .. => true | .Call .. => true | .BinOp .. => true | .Subscript .. => true
  | _ => false
/-- zip and enumerate want a row of names -/
def tgOk : Tm → Expr → Bool
  | .zip _ _, .Tuple _ _ _ => true
  | .zip _ _, _ => false
  | .enum _, .Tuple _ _ _ => true
  | .enum _, _ => false
  | _, _ => true
mutual
/-- w: as what is walked -/
def mt (cf : Cfg) (N : List Str) : Tm → Bool → Sco → Expr → Bool
  | .var i, _, S, .Name x _ => nmB N i x && visB S x && okN x
  | .cst d, _, _, .Constant k _ _ => cstB d k
  | .glo x d, _, S, .Name y _ => decide (x = y) && gloB S y && okN y && cf.gl.any fun p => decide (p.1 = x) && p.2.same d
  | .tup es, _, S, .Tuple xs _ _ => mts cf N es S xs
  | .lst es, _, S, .List xs _ => mts cf N es S xs
  | .cel es, _, S, .List xs _ => mts cf N es S xs
  | .dic0, _, _, .Dict [] [] _ => true
  | .newc t, _, S, e => newB e && mt cf N t false S e
  | .op o a b, _, S, .BinOp x p y _ => decide (p = o.py) && mt cf N a false S x && mt cf N b false S y
  | .cmp o a b, _, S, .Compare x [p] [y] _ => decide (p = o.py) && !behindInMarks o.py y && mt cf N a false S x && mt cf N b false S y
  | .chn o q a b c, _, S, .Compare x [p, r] [y, z] _ => decide (p = o.py) && decide (r = q.py) && !lastMarks [o.py, q.py] [y, z] && mt cf N a false S x && mt cf N b false S y && mt cf N c false S z
  | .not a, _, S, .UnaryOp .Not x _ => tstB x && mt cf N a false S x
  | .neg a, _, S, .UnaryOp .USub x _ => mt cf N a false S x
  | .con es, _, S, .BoolOp .And xs _ => mts cf N es S xs && !xs.isEmpty && xs.all tstB
  | .dis es, _, S, .BoolOp .Or xs _ => mts cf N es S xs && !xs.isEmpty && xs.all tstB
  | .ife c a b, _, S, .IfExp x y z _ => mt cf N c false S x && tstB x && mt cf N a false S y && mt cf N b false S z
  | .slc a lo hi, _, S, .Subscript x (.Slice l h none _) _ => mt cf N a false S x && (match l with | none => isMis lo | some l => !isMis lo && mt cf N lo false S l) && (match h with | none => isMis hi | some h => !isMis hi && mt cf N hi false S h)
  | .idx a i, _, S, .Subscript x y _ => notSlice y && mt cf N a false S x && mt cf N i false S y
  | .call f es, _, S, .Call (.Name x _) xs [] _ => callB cf S f x && mts cf N es S xs
  | .blt b a, _, S, .Call (.Name x _) [y] [] _ => decide (x = b.nm) && bltB cf S x && !PySem.W.isStarred y && mt cf N a false S y
  | .isi a ts, _, S, .Call (.Name x _) [y, t] [] _ => decide (x = "isinstance") && bltB cf S x && !PySem.W.isStarred y && mt cf N a false S y && (match t with
      | .Tuple es _ _ => tysB cf S ts es && decide (ts.length ≤ 100)
      | t => tysB cf S ts [t])
  | .comp e tg it cs ws, _, S, .ListComp elt [⟨tgE, iter, ifs, a⟩] scope _ => decide (a = 0) && notSet iter && blkC N S.sc scope (ownOf N ws) && tg.slots.all ws.contains && mtG N (blkS S scope) tg tgE && mt cf N it true S iter &&
      mts cf N cs (blkS S scope) ifs && decide (ifs.length ≤ 1) && ifs.all tstB && mt cf N e false (blkS S scope) elt && tgOk it tgE
  | .zip a b, true, S, .Call (.Name x _) [y, z] [] _ => decide (x = "zip") && bltB cf S x && !PySem.W.isStarred y && !PySem.W.isStarred z && mt cf N a false S y && mt cf N b false S z
  | .enum a, true, S, .Call (.Name x _) [y] [] _ => decide (x = "enumerate") && bltB cf S x && !PySem.W.isStarred y && mt cf N a false S y
  | .revd a, true, S, .Call (.Name x _) [y] [] _ => decide (x = "reversed") && bltB cf S x && !PySem.W.isStarred y && mt cf N a false S y
  | .rng1 a, true, S, .Call (.Name x _) [y] [] _ => decide (x = "range") && bltB cf S x && !PySem.W.isStarred y && mt cf N a false S y
  | .rng2 a b, true, S, .Call (.Name x _) [y, z] [] _ => decide (x = "range") && bltB cf S x && !PySem.W.isStarred y && !PySem.W.isStarred z && mt cf N a false S y && mt cf N b false S z
  | _, _, _, _ => false
def mts (cf : Cfg) (N : List Str) : Tms → Sco → List Expr → Bool
  | .nil, _, [] => true
  | .cons a es, S, x :: xs => !PySem.W.isStarred x && mt cf N a false S x && mts cf N es S xs
  | _, _, _ => false
end
/-! ## the theorem -/
def CallOk (X : Cx) (F : List D → M RV) (x : Str) : Prop := ∃ (k : Nat) (f : Addr) (fd : FuncData) (n : Nat) (ps : List Str), FnG X.prog X.w X.K X.mg X.base (L2.CX X.prog X.w) k f fd n ps (spD X.K X.mg F) ∧ (∀ ds μ r μ', F ds μ = .ok r μ' → ds.length = n) ∧ Go k X.A ∧
  X.mg x = some (.ref f) ∧ PySem.W.keepIn X.K (.ref f) = true ∧ Binds X.K fd ps []
/-- the context of a core term -/
structure Fit (cf : Cfg) (C : Nat → List D → M RV) (N : List Str) (S : Sco) (X : Cx) : Prop where
  nN : X.N = N
  nd : N.Nodup
  calm : X.calm = true
  sc : X.env.scope = S.sc
  fn : ∀ x, S.fn x = true → X.fn x = true
  gl : ∀ p ∈ cf.gl, ∃ v u, X.mg p.1 = some u ∧ RelV v u ∧ ∀ G H, Rep X.K G H v p.2
  bl : ∀ x ∈ cf.bl, X.mg x = none
  go : ∃ k, Go k X.A
  call : ∀ f x, cf.fn f x = true → CallOk X (C f) x
theorem Fit.blk {cf : Cfg} {C : Nat → List D → M RV} {N : List Str} {S : Sco} {X : Cx} (F : Fit cf C N S X) {scope : Scope} (s : Shared) (H : Hp) (L : Addr) (cl : List (Str × Addr)) (fp : List Addr) :
    Fit cf C N (blkS S scope) (X.blk s H scope (compEnvC scope cl L X.env) fp) where
  nN := F.nN
  nd := F.nd
  calm := F.calm
  sc := by
    show relS scope X.env.scope = relS scope S.sc
    rw [F.sc]
  fn := fun x h => h
  gl := F.gl
  bl := F.bl
  go := F.go
  call := F.call
section
variable {cf : Cfg} {C : Nat → List D → M RV} {N : List Str} {S : Sco} {X : Cx}
theorem Fit.units (F : Fit cf C N S X) : X.A.units + 65 < cLine := by
  obtain ⟨_, g⟩ := F.go
  have := g.room.un
  omega
theorem Fit.glob (F : Fit cf C N S X) {x : Str} (h : gloB S x = true) : Gl X x := by
  have q : S.sc.names.lookup x = some .globalImplicit := by simpa [gloB] using h
  rw [← F.sc] at q
  exact q
theorem Fit.blt (F : Fit cf C N S X) {x : Str} (h : bltB cf S x = true) : Gl X x ∧ X.mg x = none := by
  unfold bltB at h
  rw [Bool.and_eq_true] at h
  exact ⟨F.glob h.1, F.bl x (by simpa using h.2)⟩
theorem Fit.vis (F : Fit cf C N S X) {x : Str} (h : visB S x = true) : Vis X.env.scope x := by
  unfold Vis
  rw [F.sc]
  unfold visB at h
  split at h
  · exact .inl (by assumption)
  · exact .inr (.inl (by assumption))
  · exact .inr (.inr (by assumption))
  · cases h
theorem okN_ne {x : Str} (h : okN x = true) : (x == ("__debug__" : Str)) = false ∧ (x == ("__classdict__" : Str)) = false := by
  unfold okN at h
  simpa using h
theorem nm_eq {i : Nat} {x : Str} (F : Fit cf C N S X) (h : nmB N i x = true) : X.N[i]? = some x := by
  rw [F.nN]
  simpa [nmB] using h
theorem blt_ne (b : Blt) : b.nm ≠ ("__name__" : Str) ∧ (b.nm == ("__debug__" : Str)) = false := by cases b <;> exact ⟨by decide +kernel, by decide +kernel⟩
theorem plainIx {b : Expr} (h : notSlice b = true) : PlainIx b := fun o i => by
  cases b <;> first | rfl | cases h
theorem foldedNo {e : Expr} {env : PySem.Env} (h : notSet e = true) (x : Value) : foldedSetIterable e env x = pure x := by
  cases e <;> first | rfl | cases h
theorem opv_not {t : Tm} {m : M RV} {ρ : Env} (h : ∀ i, t ≠ .var i) : opv t m ρ = bnd m fun r => ret r.d := by
  cases t <;> first | rfl | exact absurd rfl (h _)
theorem optI_not {t : Tm} (h : isMis t = false) (m : M RV) : optI t m = bnd m fun r => bnd (asInt r.d) fun i => ret (some i) := by
  cases t <;> first | rfl | cases h
theorem isMis_eq {t : Tm} (h : isMis t = true) : t = .mis := by
  cases t <;> first | rfl | cases h
/-- lent, of any term -/
theorem len_sx' {t : Tm} {w : Bool} {S : Sco} {e : Expr} (F : Fit cf C N S X) (hm : mt cf N t w S e = true) (h : PD X e (ev C t)) : PE X e (tL X.K fun ρ => opv t (ev C t ρ) ρ) := by
  by_cases hv : ∃ i, t = .var i
  · obtain ⟨i, rfl⟩ := hv
    cases e <;> simp [mt] at hm
    exact pd_name (nm_eq F hm.1.1) (F.vis hm.1.2) (okN_ne hm.2).1 (okN_ne hm.2).2
  · have e1 : (fun ρ => opv t (ev C t ρ) ρ) = fun ρ => bnd (ev C t ρ) fun r => ret r.d := funext fun ρ => opv_not fun i q => hv ⟨i, q⟩
    rw [e1]
    exact pd_len h
theorem tysB_ok (F : Fit cf C N S X) : ∀ {ts : List Ty} {es : List Expr}, tysB cf S ts es = true → (∀ t ∈ ts, Gl X (Str.ofString t.nm) ∧ X.mg (Str.ofString t.nm) = none) ∧ ∃ ps : List Pos, ps.length = ts.length ∧ es = List.zipWith (fun (t : Ty) p => Expr.Name (Str.ofString t.nm) p) ts ps
  | [], [], _ => ⟨nofun, [], rfl, rfl⟩
  | [], _ :: _, h => by simp [tysB] at h
  | _ :: _, [], h => by simp [tysB] at h
  | t :: ts, e :: es, h => by
    simp only [tysB, Bool.and_eq_true] at h
    obtain ⟨h1, ps, h2, h3⟩ := tysB_ok F h.2
    cases e with
    | Name x p =>
      have q := h.1
      simp only [tyB, Bool.and_eq_true, decide_eq_true_eq] at q
      obtain ⟨rfl, q2⟩ := q
      refine ⟨fun u hu => ?_, p :: ps, by simp [h2], by simp [h3]⟩
      rcases List.mem_cons.mp hu with rfl | hu
      · exact F.blt q2
      · exact h1 u hu
    | _ => have q := h.1; simp [tyB] at q
theorem plain_test {e : Expr} {m : Env → M RV} (h : PD X e m) (he : ∀ whole, isTrue e X.env whole = (do let v ← whole; standAt e.pos; holding [v] (truthy v)) := by intro _; rfl) : PD X e m ∧ (tstB e = true → PT X e (tT X.K (asB m))) := ⟨h, fun _ => pt_of h he⟩
end
end Sx
set_option maxHeartbeats 4000000
/-! # Sx: the theorem of expressions -/
namespace Sx
open PySem L2 PyProof.Rows
section
variable {cf : Cfg} {C : Nat → List D → M RV} {N : List Str}
/-- what is shown of a term and an expression -/
def Good (C : Nat → List D → M RV) (t : Tm) (w : Bool) (e : Expr) (X : Cx) : Prop :=
  (w = false → PD X e (ev C t) ∧ (tstB e = true → PT X e (tT X.K (asB (ev C t))))) ∧ (w = true → ∀ tg, tgOk t tg = true → PI X tg e (tI X.K fun ρ => bnd (ev C t ρ) itemsOf))
theorem good_of {t : Tm} {w : Bool} {e : Expr} {X : Cx} (h : PD X e (ev C t)) (h2 : tstB e = true → PT X e (tT X.K (asB (ev C t)))) : Good C t w e X := ⟨fun _ => ⟨h, h2⟩, fun _ tg _ => pi_sx h⟩
theorem Good.pd {t : Tm} {e : Expr} {X : Cx} (g : Good C t false e X) : PD X e (ev C t) := (g.1 rfl).1
theorem good_pl {t : Tm} {w : Bool} {e : Expr} {X : Cx} (h : PD X e (ev C t)) (he : ∀ whole, isTrue e X.env whole = (do let v ← whole; standAt e.pos; holding [v] (truthy v)) := by intro _; rfl) : Good C t w e X := good_of h fun _ => pt_of h he
theorem asB_bl {m : Env → M Bool} {ρ : Env} {μ μ' : Mu} {k : Bool} (h : asB (fun ρ => bnd (m ρ) fun k => ret (.fr (.bl k))) ρ μ = .ok k μ') : m ρ μ = .ok k μ' := by
  obtain ⟨r, e1, e2⟩ := asB_inv h
  obtain ⟨j, μ1, e3, e4⟩ := bnd_inv e1
  obtain ⟨rfl, rfl⟩ := ret_ok e4
  simp only [RV.d, D.bl.injEq] at e2
  subst e2
  exact e3
theorem tT_bl {K : PySem.W.Frag} {m : Env → M Bool} {σ : L2.St} {H : Hp} {Q : Bool → Hp → Prop} (q : tT K (asB (fun ρ => bnd (m ρ) fun k => ret (.fr (.bl k)))) σ H Q) : tT K m σ H Q := by
  obtain ⟨G, ρ, μ, r, μ', vw, eq, k⟩ := q
  exact ⟨G, ρ, μ, r, μ', vw, asB_bl eq, k⟩
theorem pd_nm {X : Cx} {S : Sco} {i : Nat} {w : Bool} {x : Str} {p : Pos} (F : Fit cf C N S X) (hm : (nmB N i x && visB S x && okN x) = true) : Good C (.var i) w (.Name x p) X := by
  simp only [Bool.and_eq_true] at hm
  exact good_pl (pd_var (nm_eq F hm.1.1) (F.vis hm.1.2) (okN_ne hm.2).1 (okN_ne hm.2).2)
theorem evA_one {C : Nat → List D → M RV} {a : Tm} : evA C (.cons a .nil) = cA (ev C a) fun _ => ret true := by
  funext ρ; simp only [evA, cA]
theorem evO_one {C : Nat → List D → M RV} {a : Tm} : evO C (.cons a .nil) = cO (ev C a) fun _ => ret false := by
  funext ρ; simp only [evO, cO]
theorem evA_cons {C : Nat → List D → M RV} {a : Tm} {es : Tms} : evA C (.cons a es) = cA (ev C a) (evA C es) := by
  funext ρ; simp only [evA, cA]
theorem evO_cons {C : Nat → List D → M RV} {a : Tm} {es : Tms} : evO C (.cons a es) = cO (ev C a) (evO C es) := by
  funext ρ; simp only [evO, cO]
/-- what is shown of a list of terms -/
structure Goods (C : Nat → List D → M RV) (ts : Tms) (es : List Expr) (X : Cx) : Prop where
  pa : PA X es (tFs X.K (evs C ts))
  star : es.all (fun e => !PySem.W.isStarred e) = true
  con : es ≠ [] → ∀ pos, PE X (.BoolOp .And es pos) (tBv X.K (evA C ts)) ∧ (es.all tstB = true → PW X (.BoolOp .And es pos) (tT X.K (evA C ts)))
  dis : es ≠ [] → ∀ pos, PE X (.BoolOp .Or es pos) (tBv X.K (evO C ts)) ∧ (es.all tstB = true → PW X (.BoolOp .Or es pos) (tT X.K (evO C ts)))
  pts : es.length ≤ 1 → es.all tstB = true → PTs X es (tT X.K (evA C ts))
theorem goods_nil {X : Cx} : Goods C .nil [] X := by
  refine ⟨?_, rfl, fun h => absurd rfl h, fun h => absurd rfl h, fun _ _ => PTsimp pts_nil fun σ H Q q => ?_⟩
  · have e : evs C .nil = fun _ => ret [] := by funext ρ; simp only [evs]
    rw [e]; exact pds_nil
  · obtain ⟨G, ρ, μ, r, μ', vw, eq, k⟩ := q
    simp only [evA] at eq
    obtain ⟨rfl, rfl⟩ := ret_ok eq
    exact k G H .refl vw.st
theorem goods_cons {X : Cx} {a : Tm} {ts : Tms} {e : Expr} {es : List Expr} (hs : PySem.W.isStarred e = false) (g : Good C a false e X) (gs : Goods C ts es X) (hl : ts = .nil ↔ es = []) : Goods C (.cons a ts) (e :: es) X := by
  obtain ⟨pd, pt⟩ := g.1 rfl
  refine ⟨?_, by simp [hs, gs.star], fun _ pos => ?_, fun _ pos => ?_, fun h1 h2 => ?_⟩
  · have q := pds_cons hs (pd_frz pd) gs.pa
    have e : evs C (.cons a ts) = fun ρ => bnd (bnd (ev C a ρ) fun r => ret r.d) fun d => bnd (evs C ts ρ) fun ds => ret (d :: ds) := by
      funext ρ μ
      simp only [evs, bnd, ret]
      split <;> simp_all
    rw [e]
    exact q
  · cases es with
    | nil =>
      have := hl.mpr rfl
      subst this
      rw [evA_one]
      refine ⟨pd_and1 pd, fun h => pt_and1 (pt ?_)⟩
      simpa using h
    | cons b es =>
      rw [evA_cons]
      obtain ⟨q1, q2⟩ := gs.con (by simp) pos
      refine ⟨pd_and2 pd q1, fun h => ?_⟩
      rw [List.all_cons, Bool.and_eq_true] at h
      exact pt_and2 (pt h.1) (q2 h.2)
  · cases es with
    | nil =>
      have := hl.mpr rfl
      subst this
      rw [evO_one]
      refine ⟨pd_or1 pd, fun h => pt_or1 (pt ?_)⟩
      simpa using h
    | cons b es =>
      rw [evO_cons]
      obtain ⟨q1, q2⟩ := gs.dis (by simp) pos
      refine ⟨pd_or2 pd q1, fun h => ?_⟩
      rw [List.all_cons, Bool.and_eq_true] at h
      exact pt_or2 (pt h.1) (q2 h.2)
  · have he : es = [] := by
      cases es with
      | nil => rfl
      | cons _ _ => simp at h1
    subst he
    have := hl.mpr rfl
    subst this
    rw [evA_one]
    refine PTsimp (pts_one (pt (by simpa using h2))) fun σ H Q q => ?_
    obtain ⟨G, ρ, μ, r, μ', vw, eq, k⟩ := q
    exact ⟨G, ρ, μ, r, μ', vw, one_A _ _ _ _ _ eq, k⟩
theorem pd_blt {X : Cx} {S : Sco} {b : Blt} {x : Str} {p : Pos} {y : Expr} {pos : Pos} {ma : Env → M D} (F : Fit cf C N S X) (hx : x = b.nm) (hb : bltB cf S x = true) (hs : PySem.W.isStarred y = false) (ha : PE X y (tL X.K ma)) :
    PD X (.Call (.Name x p) [y] [] pos) (fun ρ => bnd (ma ρ) (blt1 b)) := by
  subst hx
  obtain ⟨g1, g2⟩ := F.blt hb
  have nn := blt_ne b
  obtain ⟨k, go⟩ := F.go
  cases b with
  | len => exact pd_blF len_sx g1 g2 boot_len nn.1 nn.2 hs ha
  | abs => exact pd_blF abs_sx g1 g2 (by decide +kernel) nn.1 nn.2 hs ha
  | list => exact pd_blT list_sx g1 g2 (by decide +kernel) nn.1 nn.2 hs ha
  | tuple => exact pd_blT tuple_sx g1 g2 (by decide +kernel) nn.1 nn.2 hs ha
  | repr => exact pd_blF (repr_sx go) g1 g2 (by decide +kernel) nn.1 nn.2 hs ha
  | str => exact pd_blT str_sx g1 g2 (by decide +kernel) nn.1 nn.2 hs ha
  | int => exact pd_blT int_sx g1 g2 (by decide +kernel) nn.1 nn.2 hs ha
  | sum => exact pd_blF (sum_sx F.calm) g1 g2 (by decide +kernel) nn.1 nn.2 hs ha
  | all => exact pd_blF (all_sx F.calm) g1 g2 (by decide +kernel) nn.1 nn.2 hs ha
  | any => exact pd_blF (any_sx F.calm) g1 g2 (by decide +kernel) nn.1 nn.2 hs ha
theorem mts_nil_iff {ts : Tms} {es : List Expr} {S : Sco} (h : mts cf N ts S es = true) : ts = .nil ↔ es = [] := by
  cases ts <;> cases es <;> simp_all [mts]
theorem pd_slc' {X : Cx} {a lo hi : Tm} {x : Expr} {l h : Option Expr} {p p2 : Pos} (ha : PE X x (tL X.K fun ρ => opv a (ev C a ρ) ρ))
    (hl : match l with | none => isMis lo = true | some l => isMis lo = false ∧ PD X l (ev C lo)) (hh : match h with | none => isMis hi = true | some h => isMis hi = false ∧ PD X h (ev C hi)) :
    PD X (.Subscript x (.Slice l h none p2) p) (ev C (.slc a lo hi)) := by
  have e : ev C (.slc a lo hi) = fun ρ => bnd (opv a (ev C a ρ) ρ) fun x => bnd (optI lo (ev C lo ρ)) fun l => bnd (optI hi (ev C hi ρ)) fun h => cut x l h := by funext ρ; simp only [ev]
  rw [e]
  refine pd_slc ha ?_ ?_
  · cases l with
    | none => rw [isMis_eq hl]; exact po_no
    | some l => exact po_so (optI_not hl.1) hl.2
  · cases h with
    | none => rw [isMis_eq hh]; exact po_no
    | some h => exact po_so (optI_not hh.1) hh.2
/-! ### the shapes that a core term asks -/
section
variable {w : Bool} {S : Sco} {e : Expr}
theorem cmp_inv {o : Cmp} {a b : Tm} (h : mt cf N (.cmp o a b) w S e = true) : ∃ x p y pos, e = .Compare x [p] [y] pos := by
  cases e <;> try (simp [mt] at h; done)
  rename_i x ps ys pos
  rcases ps with _ | ⟨p, _ | _⟩ <;> rcases ys with _ | ⟨y, _ | _⟩ <;> first | exact ⟨_, _, _, _, rfl⟩ | (simp [mt] at h; done)
theorem chn_inv {o q : Cmp} {a b c : Tm} (h : mt cf N (.chn o q a b c) w S e = true) : ∃ x p r y z pos, e = .Compare x [p, r] [y, z] pos := by
  cases e <;> try (simp [mt] at h; done)
  rename_i x ps ys pos
  rcases ps with _ | ⟨p, _ | ⟨r, _ | _⟩⟩ <;> rcases ys with _ | ⟨y, _ | ⟨z, _ | _⟩⟩ <;> first | exact ⟨_, _, _, _, _, _, rfl⟩ | (simp [mt] at h; done)
theorem not_inv {a : Tm} (h : mt cf N (.not a) w S e = true) : ∃ x pos, e = .UnaryOp .Not x pos := by
  cases e <;> try (simp [mt] at h; done)
  rename_i o x pos
  cases o <;> first | exact ⟨_, _, rfl⟩ | (simp [mt] at h; done)
theorem neg_inv {a : Tm} (h : mt cf N (.neg a) w S e = true) : ∃ x pos, e = .UnaryOp .USub x pos := by
  cases e <;> try (simp [mt] at h; done)
  rename_i o x pos
  cases o <;> first | exact ⟨_, _, rfl⟩ | (simp [mt] at h; done)
theorem con_inv {a : Tms} (h : mt cf N (.con a) w S e = true) : ∃ x pos, e = .BoolOp .And x pos := by
  cases e <;> try (simp [mt] at h; done)
  rename_i o x pos
  cases o <;> first | exact ⟨_, _, rfl⟩ | (simp [mt] at h; done)
theorem dis_inv {a : Tms} (h : mt cf N (.dis a) w S e = true) : ∃ x pos, e = .BoolOp .Or x pos := by
  cases e <;> try (simp [mt] at h; done)
  rename_i o x pos
  cases o <;> first | exact ⟨_, _, rfl⟩ | (simp [mt] at h; done)
theorem slc_inv {a lo hi : Tm} (h : mt cf N (.slc a lo hi) w S e = true) : ∃ x l hh p2 p, e = .Subscript x (.Slice l hh none p2) p := by
  cases e <;> try (simp [mt] at h; done)
  rename_i x y pos
  cases y <;> try (simp [mt] at h; done)
  rename_i l hh st p
  cases st <;> first | exact ⟨_, _, _, _, _, rfl⟩ | (simp [mt] at h; done)
theorem call_inv {f : Nat} {es : Tms} (h : mt cf N (.call f es) w S e = true) : ∃ x p xs pos, e = .Call (.Name x p) xs [] pos := by
  cases e <;> try (simp [mt] at h; done)
  rename_i fn xs ks pos
  cases fn <;> try (simp [mt] at h; done)
  cases ks <;> first | exact ⟨_, _, _, _, rfl⟩ | (simp [mt] at h; done)
theorem blt_inv {b : Blt} {a : Tm} (h : mt cf N (.blt b a) w S e = true) : ∃ x p y pos, e = .Call (.Name x p) [y] [] pos := by
  cases e <;> try (simp [mt] at h; done)
  rename_i fn xs ks pos
  cases fn <;> try (simp [mt] at h; done)
  rcases xs with _ | ⟨y, _ | _⟩ <;> cases ks <;> first | exact ⟨_, _, _, _, rfl⟩ | (simp [mt] at h; done)
theorem isi_inv {ts : List Ty} {a : Tm} (h : mt cf N (.isi a ts) w S e = true) : ∃ x p y t pos, e = .Call (.Name x p) [y, t] [] pos := by
  cases e <;> try (simp [mt] at h; done)
  rename_i fn xs ks pos
  cases fn <;> try (simp [mt] at h; done)
  rcases xs with _ | ⟨y, _ | ⟨t, _ | _⟩⟩ <;> cases ks <;> first | exact ⟨_, _, _, _, _, rfl⟩ | (simp [mt] at h; done)
theorem dic0_inv (h : mt cf N .dic0 w S e = true) : ∃ pos, e = .Dict [] [] pos := by
  cases e <;> try (simp [mt] at h; done)
  rename_i ks vs pos
  cases ks <;> cases vs <;> first | exact ⟨_, rfl⟩ | (simp [mt] at h; done)
theorem comp_inv {el it : Tm} {tg : Tg} {cs : Tms} {ws : List Nat} (h : mt cf N (.comp el tg it cs ws) w S e = true) : ∃ elt tgE iter ifs a scope pos, e = .ListComp elt [⟨tgE, iter, ifs, a⟩] scope pos := by
  cases e <;> try (simp [mt] at h; done)
  rename_i elt gs scope pos
  rcases gs with _ | ⟨⟨t, i, fs, a⟩, _ | _⟩ <;> first | exact ⟨_, _, _, _, _, _, _, rfl⟩ | (simp [mt] at h; done)
theorem rng1_inv {a : Tm} (h : mt cf N (.rng1 a) w S e = true) : w = true ∧ ∃ x p y pos, e = .Call (.Name x p) [y] [] pos := by
  cases w <;> cases e <;> try (simp [mt] at h; done)
  rename_i fn xs ks pos
  cases fn <;> try (simp [mt] at h; done)
  rcases xs with _ | ⟨y, _ | _⟩ <;> cases ks <;> first | exact ⟨rfl, _, _, _, _, rfl⟩ | (simp [mt] at h; done)
theorem zip_inv {a b : Tm} (h : mt cf N (.zip a b) w S e = true) : w = true ∧ ∃ x p y z pos, e = .Call (.Name x p) [y, z] [] pos := by
  cases w <;> cases e <;> try (simp [mt] at h; done)
  rename_i fn xs ks pos
  cases fn <;> try (simp [mt] at h; done)
  rcases xs with _ | ⟨y, _ | ⟨z, _ | _⟩⟩ <;> cases ks <;> first | exact ⟨rfl, _, _, _, _, _, rfl⟩ | (simp [mt] at h; done)
theorem enum_inv {a : Tm} (h : mt cf N (.enum a) w S e = true) : w = true ∧ ∃ x p y pos, e = .Call (.Name x p) [y] [] pos := by
  cases w <;> cases e <;> try (simp [mt] at h; done)
  rename_i fn xs ks pos
  cases fn <;> try (simp [mt] at h; done)
  rcases xs with _ | ⟨y, _ | _⟩ <;> cases ks <;> first | exact ⟨rfl, _, _, _, _, rfl⟩ | (simp [mt] at h; done)
theorem revd_inv {a : Tm} (h : mt cf N (.revd a) w S e = true) : w = true ∧ ∃ x p y pos, e = .Call (.Name x p) [y] [] pos := by
  cases w <;> cases e <;> try (simp [mt] at h; done)
  rename_i fn xs ks pos
  cases fn <;> try (simp [mt] at h; done)
  rcases xs with _ | ⟨y, _ | _⟩ <;> cases ks <;> first | exact ⟨rfl, _, _, _, _, rfl⟩ | (simp [mt] at h; done)
theorem rng2_inv {a b : Tm} (h : mt cf N (.rng2 a b) w S e = true) : w = true ∧ ∃ x p y z pos, e = .Call (.Name x p) [y, z] [] pos := by
  cases w <;> cases e <;> try (simp [mt] at h; done)
  rename_i fn xs ks pos
  cases fn <;> try (simp [mt] at h; done)
  rcases xs with _ | ⟨y, _ | ⟨z, _ | _⟩⟩ <;> cases ks <;> first | exact ⟨rfl, _, _, _, _, _, rfl⟩ | (simp [mt] at h; done)
end
mutual
theorem mt_sx : ∀ (t : Tm) (w : Bool) (S : Sco) (e : Expr) (X : Cx), Fit cf C N S X → mt cf N t w S e = true → Good C t w e X
  | .var i, w, S, e, X, F, h => by
    cases e <;> simp only [mt, Bool.false_eq_true] at h
    exact pd_nm F h
  | .cst d, w, S, e, X, F, h => by
    cases e <;> simp only [mt, Bool.false_eq_true] at h
    have e1 : ev C (.cst d) = fun _ => ret (.fr d) := by funext ρ; simp only [ev]
    have fin : ∀ {v : V} {ee : Expr}, PE X ee (tC v) → (∀ G H, Rep X.K G H v d) → PD X ee (ev C (.cst d)) := fun {v ee} q1 q2 => by
      rw [e1]
      exact pd_const (t := tC v) q1 q2
    unfold cstB at h
    split at h
    · exact good_pl (fin pe_non fun _ _ => .non)
    · rw [beq_iff_eq] at h
      subst h
      exact good_pl (fin pe_bl fun _ _ => .bl _)
    · rw [beq_iff_eq] at h
      subst h
      exact good_pl (fin pe_int fun _ _ => .int _)
    · rw [decide_eq_true_eq] at h
      subst h
      exact good_pl (fin pe_str fun _ _ => .str _)
    · cases h
  | .glo x d, w, S, e, X, F, h => by
    cases e <;> simp only [mt, Bool.false_eq_true] at h
    simp only [Bool.and_eq_true, decide_eq_true_eq] at h
    obtain ⟨⟨⟨rfl, h2⟩, h3⟩, h4⟩ := h
    have e1 : ev C (.glo x d) = fun _ => ret (.fr d) := by funext ρ; simp only [ev]
    obtain ⟨p, hp, q⟩ := List.any_eq_true.mp h4
    simp only [Bool.and_eq_true, decide_eq_true_eq] at q
    obtain ⟨q1, q2⟩ := q
    have := same_eq _ _ q2
    obtain ⟨v, u, m1, m2, m3⟩ := F.gl p hp
    subst this q1
    exact good_pl (by rw [e1]; exact pd_const (t := tC v) (pe_glob (F.glob h2) m1 m2 (okN_ne h3).1) m3)
  | .tup es, w, S, e, X, F, h => by
    cases e <;> simp only [mt, Bool.false_eq_true] at h
    have g := mts_sx es S _ X F h
    have e1 : ev C (.tup es) = fun ρ => bnd (evs C es ρ) fun ds => guard' (sizeOk ds.length) (ret (.fr (.tup ds))) := by funext ρ; simp only [ev]
    exact good_pl (by rw [e1]; exact pd_tup g.pa)
  | .lst es, w, S, e, X, F, h => by
    cases e <;> simp only [mt, Bool.false_eq_true] at h
    have g := mts_sx es S _ X F h
    have e1 : ev C (.lst es) = fun ρ => bnd (evs C es ρ) fun ds => guard' (sizeOk ds.length) (ret (.own ds)) := by funext ρ; simp only [ev]
    exact good_pl (by rw [e1]; exact pd_lst g.pa)
  | .cel es, w, S, e, X, F, h => by
    cases e <;> simp only [mt, Bool.false_eq_true] at h
    have g := mts_sx es S _ X F h
    have e1 : ev C (.cel es) = fun ρ => bnd (evs C es ρ) fun ds => guard' (sizeOk ds.length) fun μ => .ok (.fr (.cell μ.length)) (μ ++ [.lst ds]) := by funext ρ; simp only [ev]
    exact good_pl (by rw [e1]; exact pd_cel g.pa)
  | .newc t, w, S, e, X, F, h => by
    simp only [mt, Bool.and_eq_true] at h
    have e1 : ev C (.newc t) = fun ρ => bnd (ev C t ρ) newC := by funext ρ; simp only [ev]
    have q : PD X e (ev C (.newc t)) := by rw [e1]; exact pd_newc (mt_sx t false S _ X F h.2).pd
    have h1 := h.1
    cases e <;> first | exact good_pl q | (simp [newB] at h1; done)
  | .dic0, w, S, e, X, F, h => by
    obtain ⟨pos, rfl⟩ := dic0_inv h
    have e1 : ev C .dic0 = fun _ => ret (.fr (.dic [])) := by funext ρ; simp only [ev]
    have q : PD X (.Dict [] [] pos) fun _ => ret (.fr (.dic [])) := PEimp pe_dnewK fun σ H Q q => by
      obtain ⟨G, ρ, μ, r, μ', vw, eq, k⟩ := q
      obtain ⟨rfl, rfl⟩ := ret_ok eq
      exact fun p hp => k _ (put G p .frz) _ (Step.new (vw.st.fresh hp)) (vw.st.new hp fun n z => by cases z) (.fr (.dic0 put_same upd_same))
    exact good_pl (by rw [e1]; exact q)
  | .op o a b, w, S, e, X, F, h => by
    cases e <;> simp only [mt, Bool.false_eq_true] at h
    simp only [Bool.and_eq_true, decide_eq_true_eq] at h
    obtain ⟨⟨rfl, h2⟩, h3⟩ := h
    have e1 : ev C (.op o a b) = fun ρ => bnd (opv a (ev C a ρ) ρ) fun x => bnd (opv b (ev C b ρ) ρ) fun y => op2 o x y := by funext ρ; simp only [ev]
    exact good_pl (by rw [e1]; exact pd_op o (len_sx' F h2 (mt_sx a false S _ X F h2).pd) (len_sx' F h3 (mt_sx b false S _ X F h3).pd))
  | .cmp o a b, w, S, e, X, F, h => by
    obtain ⟨x, p, y, pos, rfl⟩ := cmp_inv h
    simp only [mt, Bool.and_eq_true, decide_eq_true_eq, Bool.not_eq_true'] at h
    obtain ⟨⟨⟨rfl, h1⟩, h2⟩, h3⟩ := h
    have e1 : ev C (.cmp o a b) = fun ρ => bnd (opv a (ev C a ρ) ρ) fun x => bnd (opv b (ev C b ρ) ρ) fun y => bnd (cmp2 o x y) fun k => ret (.fr (.bl k)) := by funext ρ; simp only [ev]
    have q := pd_cmp (pos := pos) o F.units h1 (len_sx' F h2 (mt_sx a false S _ X F h2).pd) (len_sx' F h3 (mt_sx b false S _ X F h3).pd)
    refine good_of (by rw [e1]; exact q.1) fun _ => PTimp q.2 fun σ H Q z => tT_bl ?_
    rw [e1] at z
    have e2 : (fun ρ => bnd (bnd (opv a (ev C a ρ) ρ) fun x => bnd (opv b (ev C b ρ) ρ) fun y => cmp2 o x y) fun k => ret (RV.fr (.bl k))) = fun ρ => bnd (opv a (ev C a ρ) ρ) fun x => bnd (opv b (ev C b ρ) ρ) fun y => bnd (cmp2 o x y) fun k => ret (.fr (.bl k)) := by
      funext ρ μ
      simp only [bnd]
      repeat' split
      all_goals simp_all
    rw [e2]
    exact z
  | .chn o q a b c, w, S, e, X, F, h => by
    obtain ⟨x, p, r, y, z, pos, rfl⟩ := chn_inv h
    simp only [mt, Bool.and_eq_true, decide_eq_true_eq, Bool.not_eq_true'] at h
    obtain ⟨⟨⟨⟨⟨rfl, rfl⟩, h0⟩, h1⟩, h2⟩, h3⟩ := h
    have g := pd_chn (pos := pos) o q F.units h0 (len_sx' F h1 (mt_sx a false S _ X F h1).pd) (len_sx' F h2 (mt_sx b false S _ X F h2).pd) (len_sx' F h3 (mt_sx c false S _ X F h3).pd) (m := ev C (.chn o q a b c)) (by funext ρ; simp only [ev])
    exact good_of g.1 fun _ => g.2
  | .not a, w, S, e, X, F, h => by
    obtain ⟨x, pos, rfl⟩ := not_inv h
    simp only [mt, Bool.and_eq_true] at h
    have g := (mt_sx a false S _ X F h.2).1 rfl
    have e1 : ev C (.not a) = fun ρ => bnd (ev C a ρ) fun r => bnd (asBool r.d) fun k => ret (.fr (.bl (!k))) := by funext ρ; simp only [ev]
    exact good_of (by rw [e1]; exact pd_not g.1) fun _ => by rw [e1]; exact ptd_not (g.2 h.1)
  | .neg a, w, S, e, X, F, h => by
    obtain ⟨x, pos, rfl⟩ := neg_inv h
    simp only [mt] at h
    have g := (mt_sx a false S _ X F h).pd
    have e1 : ev C (.neg a) = fun ρ => bnd (ev C a ρ) fun r => bnd (asInt r.d) fun k => ret (.fr (.int (-k))) := by funext ρ; simp only [ev]
    exact good_pl (by rw [e1]; exact pd_neg g)
  | .con es, w, S, e, X, F, h => by
    obtain ⟨xs, pos, rfl⟩ := con_inv h
    simp only [mt, Bool.and_eq_true, Bool.not_eq_true', List.isEmpty_eq_false_iff] at h
    have g := (mts_sx es S _ X F h.1.1).con h.1.2 pos
    have e1 : ev C (.con es) = fun ρ => bnd (evA C es ρ) fun k => ret (.fr (.bl k)) := by funext ρ; simp only [ev]
    exact good_of (by rw [e1]; exact g.1) fun _ => PTimp (g.2 h.2).pt fun σ H Q z => tT_bl (by rw [e1] at z; exact z)
  | .dis es, w, S, e, X, F, h => by
    obtain ⟨xs, pos, rfl⟩ := dis_inv h
    simp only [mt, Bool.and_eq_true, Bool.not_eq_true', List.isEmpty_eq_false_iff] at h
    have g := (mts_sx es S _ X F h.1.1).dis h.1.2 pos
    have e1 : ev C (.dis es) = fun ρ => bnd (evO C es ρ) fun k => ret (.fr (.bl k)) := by funext ρ; simp only [ev]
    exact good_of (by rw [e1]; exact g.1) fun _ => PTimp (g.2 h.2).pt fun σ H Q z => tT_bl (by rw [e1] at z; exact z)
  | .ife c a b, w, S, e, X, F, h => by
    cases e <;> simp only [mt, Bool.false_eq_true] at h
    simp only [Bool.and_eq_true] at h
    have gc := ((mt_sx c false S _ X F h.1.1.1).1 rfl).2 h.1.1.2
    have e1 : ev C (.ife c a b) = fun ρ => bnd (ev C c ρ) fun r => bnd (asBool r.d) fun k => if k = true then ev C a ρ else ev C b ρ := by funext ρ; simp only [ev]
    exact good_of (by rw [e1]; exact pd_ife gc (mt_sx a false S _ X F h.1.2).pd (mt_sx b false S _ X F h.2).pd) fun z => by cases z
  | .slc a lo hi, w, S, e, X, F, h => by
    obtain ⟨x, l, hh, p2, p, rfl⟩ := slc_inv h
    simp only [mt, Bool.and_eq_true] at h
    refine good_pl (pd_slc' (len_sx' F h.1.1 (mt_sx a false S _ X F h.1.1).pd) ?_ ?_)
    · cases l with
      | none => exact h.1.2
      | some l =>
        have q := h.1.2
        simp only [Bool.and_eq_true, Bool.not_eq_true'] at q
        exact ⟨q.1, (mt_sx lo false S _ X F q.2).pd⟩
    · cases hh with
      | none => exact h.2
      | some l =>
        have q := h.2
        simp only [Bool.and_eq_true, Bool.not_eq_true'] at q
        exact ⟨q.1, (mt_sx hi false S _ X F q.2).pd⟩
  | .idx a i, w, S, e, X, F, h => by
    cases e <;> simp only [mt, Bool.false_eq_true] at h
    simp only [Bool.and_eq_true] at h
    have e1 : ev C (.idx a i) = fun ρ => bnd (opv a (ev C a ρ) ρ) fun x => bnd (opv i (ev C i ρ) ρ) fun y => getIt x y := by funext ρ; simp only [ev]
    exact good_pl (by rw [e1]; exact pd_idx (plainIx h.1.1) (len_sx' F h.1.2 (mt_sx a false S _ X F h.1.2).pd) (len_sx' F h.2 (mt_sx i false S _ X F h.2).pd))
  | .call f es, w, S, e, X, F, h => by
    obtain ⟨x, p, xs, pos, rfl⟩ := call_inv h
    simp only [mt, Bool.and_eq_true, callB] at h
    obtain ⟨⟨⟨h1, h2⟩, h3⟩, h4⟩ := h
    have g := mts_sx es S _ X F h4
    obtain ⟨k, a, fd, n, ps, W, hn, go, hm, hk, hb⟩ := F.call f x h1
    have e1 : ev C (.call f es) = fun ρ => bnd (evs C es ρ) (C f) := by funext ρ; simp only [ev]
    cases xs with
    | nil =>
      have := (mts_nil_iff h4).mpr rfl
      subst this
      have e2 : evs C .nil = fun _ => ret [] := by funext ρ; simp only [evs]
      exact good_pl (by rw [e1, e2]; exact pd_call0 (E := E0) W hn go (F.glob h2) hm hk hb passL (okN_ne h3).1)
    | cons y ys =>
      have st := g.star
      rw [List.all_cons, Bool.and_eq_true, Bool.not_eq_true'] at st
      exact good_pl (by rw [e1]; exact pd_call (E := E0) W hn go (F.glob h2) hm hk hb passL g.pa (okN_ne h3).1 st.1 st.2)
  | .blt b a, w, S, e, X, F, h => by
    obtain ⟨x, p, y, pos, rfl⟩ := blt_inv h
    simp only [mt, Bool.and_eq_true, decide_eq_true_eq, Bool.not_eq_true'] at h
    obtain ⟨⟨⟨h1, h2⟩, h3⟩, h4⟩ := h
    have e1 : ev C (.blt b a) = fun ρ => bnd (opv a (ev C a ρ) ρ) (blt1 b) := by funext ρ; simp only [ev]
    exact good_pl (by rw [e1]; exact pd_blt F h1 h2 h3 (len_sx' F h4 (mt_sx a false S _ X F h4).pd))
  | .isi a ts, w, S, e, X, F, h => by
    obtain ⟨x, p, y, t, pos, rfl⟩ := isi_inv h
    simp only [mt, Bool.and_eq_true, decide_eq_true_eq, Bool.not_eq_true'] at h
    obtain ⟨⟨⟨⟨rfl, h2⟩, h3⟩, h4⟩, h5⟩ := h
    have e1 : ev C (.isi a ts) = fun ρ => bnd (opv a (ev C a ρ) ρ) (isin ts) := by funext ρ; simp only [ev]
    have la := len_sx' F h4 (mt_sx a false S _ X F h4).pd
    obtain ⟨g1, g2⟩ := F.blt h2
    split at h5
    · simp only [Bool.and_eq_true, decide_eq_true_eq] at h5
      obtain ⟨q1, q2⟩ := tysB_ok F h5.1
      exact good_pl (by rw [e1]; exact pd_isiT h3 la g1 g2 h5.2 q1 q2)
    · cases ts with
      | nil => simp [tysB] at h5
      | cons u us =>
        cases us with
        | cons _ _ => simp [tysB] at h5
        | nil =>
          obtain ⟨q1, ps, q2, q3⟩ := tysB_ok F h5
          have qq := q1 u List.mem_cons_self
          obtain ⟨pp, rfl⟩ : ∃ pp, ps = [pp] := by
            match ps, q2 with
            | [pp], _ => exact ⟨pp, rfl⟩
          simp only [List.zipWith_cons_cons, List.zipWith_nil_left, List.cons.injEq, and_true] at q3
          subst q3
          exact good_pl (by rw [e1]; exact pd_isi1 h3 la g1 g2 qq.1 qq.2)
  | .comp e tg it cs ws, w, S, ee, X, F, h => by
    obtain ⟨elt, tgE, iter, ifs, a, scope, pos, rfl⟩ := comp_inv h
    simp only [mt, Bool.and_eq_true, decide_eq_true_eq] at h
    obtain ⟨⟨⟨⟨⟨⟨⟨⟨⟨⟨rfl, h1⟩, h2⟩, h3⟩, h4⟩, h5⟩, h6⟩, h7⟩, h8⟩, h9⟩, h10⟩ := h
    have ow : (ownOf N ws).map (·.2) = ws := by simp [ownOf, Function.comp_def]
    have hN : X.N.Nodup := by rw [F.nN]; exact F.nd
    have gi := (mt_sx it true S _ X F h5).2 rfl tgE h10
    have q := pd_comp (pos := pos) (own := ownOf N ws) (tg := tg) (mc := evA C cs) (me := fun ρ => bnd (ev C e ρ) fun r => ret r.d) F.calm hN gi (by rw [F.nN, F.sc]; exact blkOk_by h2) (by
        rw [ow]
        intro i hi
        have := List.all_eq_true.mp h3 i hi
        simpa using this)
      (fun s H L cl fp => pg_sx (S := blkS S scope) (F.blk s H L cl fp).nN F.nd F.calm (F.blk s H L cl fp).sc (F.blk s H L cl fp).fn h4)
      (fun s H L cl fp => (mts_sx cs _ _ _ (F.blk s H L cl fp) h6).pts h7 h8)
      (fun s H L cl fp => pd_frz (mt_sx e false _ _ _ (F.blk s H L cl fp) h9).pd) (foldedNo h1)
    have e1 : ev C (.comp e tg it cs ws) = fun ρ => bnd (bnd (ev C it ρ) itemsOf) fun p => bnd (compH p.2 (turnC tg ((ownOf N ws).map (·.2)) (evA C cs) (fun ρ => bnd (ev C e ρ) fun r => ret r.d) ρ) p.1) fun ys => ret (.own ys) := by
      rw [ow]
      funext ρ
      simp only [ev]
      rfl
    exact good_pl (by rw [e1]; exact q)
  | .rng1 a, w, S, e, X, F, h => by
    obtain ⟨rfl, x, p, y, pos, rfl⟩ := rng1_inv h
    simp only [mt, Bool.and_eq_true, decide_eq_true_eq, Bool.not_eq_true'] at h
    obtain ⟨⟨⟨rfl, h2⟩, h3⟩, h4⟩ := h
    obtain ⟨g1, g2⟩ := F.blt h2
    refine ⟨nofun, fun _ tg _ => ?_⟩
    have e1 : ev C (.rng1 a) = fun ρ => bnd (ev C a ρ) fun r => bnd (asInt r.d) fun n => guard' (decide (n.natAbs ≤ 16777216)) (ret (.fr (.lst (intsFrom 0 n.toNat)))) := by funext ρ; simp only [ev]
    rw [e1]
    exact pi_rng1 g1 g2 h3 (mt_sx a false S _ X F h4).pd
  | .rng2 a b, w, S, e, X, F, h => by
    obtain ⟨rfl, x, p, y, z, pos, rfl⟩ := rng2_inv h
    simp only [mt, Bool.and_eq_true, decide_eq_true_eq, Bool.not_eq_true'] at h
    obtain ⟨⟨⟨⟨⟨rfl, h2⟩, h3⟩, h4⟩, h5⟩, h6⟩ := h
    obtain ⟨g1, g2⟩ := F.blt h2
    refine ⟨nofun, fun _ tg _ => ?_⟩
    have e1 : ev C (.rng2 a b) = fun ρ => bnd (ev C a ρ) fun r => bnd (asInt r.d) fun lo => bnd (ev C b ρ) fun r' => bnd (asInt r'.d) fun hi =>
      guard' (decide (lo.natAbs ≤ 16777216 ∧ hi.natAbs ≤ 16777216) && sizeOk (hi - lo).toNat) (ret (.fr (.lst (intsFrom lo (hi - lo).toNat)))) := by funext ρ; simp only [ev]
    rw [e1]
    exact pi_rng2 g1 g2 h3 h4 (mt_sx a false S _ X F h5).pd (mt_sx b false S _ X F h6).pd
  | .zip a b, w, S, e, X, F, h => by
    obtain ⟨rfl, x, p, y, z, pos, rfl⟩ := zip_inv h
    simp only [mt, Bool.and_eq_true, decide_eq_true_eq, Bool.not_eq_true'] at h
    obtain ⟨⟨⟨⟨⟨rfl, h2⟩, h3⟩, h4⟩, h5⟩, h6⟩ := h
    obtain ⟨g1, g2⟩ := F.blt h2
    refine ⟨nofun, fun _ tg ht => ?_⟩
    have e1 : ev C (.zip a b) = fun ρ => bnd (bnd (ev C a ρ) fun r => ret r.d) fun x => bnd (bnd (ev C b ρ) fun r => ret r.d) fun y => zipD x y := by funext ρ; simp only [ev]
    rw [e1]
    cases tg <;> first | (simp [tgOk] at ht; done) | exact pi_zip_sx g1 g2 h3 h4 (pd_frz (mt_sx a false S _ X F h5).pd) (pd_frz (mt_sx b false S _ X F h6).pd)
  | .enum a, w, S, e, X, F, h => by
    obtain ⟨rfl, x, p, y, pos, rfl⟩ := enum_inv h
    simp only [mt, Bool.and_eq_true, decide_eq_true_eq, Bool.not_eq_true'] at h
    obtain ⟨⟨⟨rfl, h2⟩, h3⟩, h4⟩ := h
    obtain ⟨g1, g2⟩ := F.blt h2
    refine ⟨nofun, fun _ tg ht => ?_⟩
    have e1 : ev C (.enum a) = fun ρ => bnd (bnd (ev C a ρ) fun r => ret r.d) enumD := by funext ρ; simp only [ev]
    rw [e1]
    cases tg <;> first | (simp [tgOk] at ht; done) | exact pi_enum_sx g1 g2 h3 (pd_frz (mt_sx a false S _ X F h4).pd)
  | .revd a, w, S, e, X, F, h => by
    obtain ⟨rfl, x, p, y, pos, rfl⟩ := revd_inv h
    simp only [mt, Bool.and_eq_true, decide_eq_true_eq, Bool.not_eq_true'] at h
    obtain ⟨⟨⟨rfl, h2⟩, h3⟩, h4⟩ := h
    obtain ⟨g1, g2⟩ := F.blt h2
    refine ⟨nofun, fun _ tg ht => ?_⟩
    have e1 : ev C (.revd a) = fun ρ => bnd (bnd (ev C a ρ) fun r => ret r.d) revD := by funext ρ; simp only [ev]
    rw [e1]
    exact pi_rev_sx g1 g2 h3 (pd_frz (mt_sx a false S _ X F h4).pd)
  | .mis, w, S, e, X, F, h => by cases e <;> simp [mt] at h
theorem mts_sx : ∀ (ts : Tms) (S : Sco) (es : List Expr) (X : Cx), Fit cf C N S X → mts cf N ts S es = true → Goods C ts es X
  | .nil, S, [], X, F, _ => goods_nil
  | .nil, S, _ :: _, X, F, h => by simp [mts] at h
  | .cons _ _, S, [], X, F, h => by simp [mts] at h
  | .cons a ts, S, e :: es, X, F, h => by
    simp only [mts, Bool.and_eq_true, Bool.not_eq_true'] at h
    exact goods_cons h.1.1 (mt_sx a false S e X F h.1.2) (mts_sx ts S es X F h.2) (mts_nil_iff h.2)
end
end
end Sx
set_option maxHeartbeats 4000000
/-! # Sx: statements -/
namespace Sx
open PySem L2 PyProof.Rows
/-- the state between statements; Gb, Hb: as the def was entered -/
structure Rel (K : PySem.W.Frag) (Gb : Gh) (Hb : Hp) (G : Gh) (H : Hp) (ρ : Env) (σ : L2.St) (μ : Mu) : Prop where
  base : Step Gb Hb G H
  vw : Vw K G H ρ σ μ
  mine : ∀ (i : Nat) xs a, ρ[i]? = some (some (.own xs)) → σ[i]? = some (some (.ref a)) → Gb a = none
  apart : ∀ (i j : Nat) xs ys a, ρ[i]? = some (some (.own xs)) → ρ[j]? = some (some (.own ys)) → σ[i]? = some (some (.ref a)) → σ[j]? = some (some (.ref a)) → i = j
section
variable {K : PySem.W.Frag} {Gb G G' : Gh} {Hb H H' : Hp} {ρ ρ' : Env} {σ σ' : L2.St} {μ μ' : Mu}
theorem Rel.step (r : Rel K Gb Hb G H ρ σ μ) (s : Step G H G' H') (so : StOk K G' H' μ') : Rel K Gb Hb G' H' ρ σ μ' :=
  ⟨r.base.trans s, ⟨so, r.vw.env.step s⟩, r.mine, r.apart⟩
theorem Rel.weak (r : Rel K Gb Hb G H ρ σ μ) (hl : ρ'.length = ρ.length) (w : ∀ (i : Nat) r, ρ'[i]? = some (some r) → ρ[i]? = some (some r)) : Rel K Gb Hb G H ρ' σ μ :=
  ⟨r.base, ⟨r.vw.st, r.vw.env.weak hl w⟩, fun i xs a e1 e2 => r.mine i xs a (w i _ e1) e2, fun i j xs ys a e1 e2 e3 e4 => r.apart i j xs ys a (w i _ e1) (w j _ e2) e3 e4⟩
/-- a name's own list at its address -/
theorem Rel.own {i : Nat} {xs : List D} (r : Rel K Gb Hb G H ρ σ μ) (e : ρ[i]? = some (some (.own xs))) : ∃ a vs, σ[i]? = some (some (.ref a)) ∧ G a = some .own ∧ H a = some (.lst vs) ∧ Reps K G H vs xs ∧ Gb a = none := by
  obtain ⟨v, e1, s⟩ := r.vw.env.2 i _ e
  cases s with
  | own g h rs => exact ⟨_, _, e1, g, h, rs, r.mine i xs _ e e1⟩
/-- one name frozen -/
theorem Rel.frz1 {i : Nat} {v : RV} (r : Rel K Gb Hb G H ρ σ μ) (e : ρ[i]? = some (some v)) : ∃ G', Rel K Gb Hb G' H (ρ.set i (some (.fr v.d))) σ μ ∧ Kp G H G' H := by
  obtain ⟨x, e1, s⟩ := r.vw.env.2 i _ e
  have hi : i < ρ.length := (List.getElem?_eq_some_iff.mp e).1
  have nown : ∀ (j : Nat) xs, (ρ.set i (some (RV.fr v.d)))[j]? = some (some (.own xs)) → j ≠ i ∧ ρ[j]? = some (some (.own xs)) := fun j xs q => by
    by_cases hj : i = j
    · subst hj
      rw [List.getElem?_set_self hi] at q; cases q
    · rw [List.getElem?_set_ne hj] at q; exact ⟨fun z => hj z.symm, q⟩
  cases s with
  | fr rp =>
    refine ⟨G, ⟨r.base, ⟨r.vw.st, ⟨by rw [List.length_set]; exact r.vw.env.1, fun j u q => ?_⟩⟩, fun j xs a q1 q2 => r.mine j xs a (nown j xs q1).2 q2, fun j k xs ys a q1 q2 q3 q4 => r.apart j k xs ys a (nown j xs q1).2 (nown k ys q2).2 q3 q4⟩, .refl⟩
    by_cases hj : i = j
    · subst hj
      rw [List.getElem?_set_self hi] at q; cases q
      exact ⟨x, e1, .fr rp⟩
    · rw [List.getElem?_set_ne hj] at q; exact r.vw.env.2 j u q
  | @own a vs ds g h rs =>
    have hb := r.mine i ds a e e1
    refine ⟨put G a .frz, ⟨fun b t q => ?_, ⟨r.vw.st.retag g, ⟨by rw [List.length_set]; exact r.vw.env.1, fun j u q => ?_⟩⟩, fun j xs b q1 q2 => r.mine j xs b (nown j xs q1).2 q2, fun j k xs ys b q1 q2 q3 q4 => r.apart j k xs ys b (nown j xs q1).2 (nown k ys q2).2 q3 q4⟩,
      fun b q => ?_, fun b n q => ?_⟩
    · have hne : b ≠ a := fun z => by subst z; rw [hb] at q; cases q
      exact ⟨by rw [put_ne hne]; exact (r.base b t q).1, (r.base b t q).2⟩
    · by_cases hj : i = j
      · subst hj
        rw [List.getElem?_set_self hi] at q; cases q
        exact ⟨.ref a, e1, .fr (.lst ⟨put_same, .inl h⟩ (reps_retag g rs))⟩
      · rw [List.getElem?_set_ne hj] at q
        obtain ⟨y, q1, s⟩ := r.vw.env.2 j u q
        refine ⟨y, q1, ?_⟩
        cases s with
        | fr rp => exact .fr (rep_retag g rp)
        | @own b ws es g2 h2 rs2 =>
          have hne : b ≠ a := fun z => by
            subst z
            exact hj (r.apart i j ds es b e q e1 q1)
          exact .own (by rw [put_ne hne]; exact g2) h2 (reps_retag g rs2)
    · by_cases hb : b = a
      · subst hb; exact ⟨put_same, rfl⟩
      · exact ⟨by rw [put_ne hb]; exact q, rfl⟩
    · have hne : b ≠ a := fun z => by subst z; rw [g] at q; cases q
      rw [put_ne hne]; exact q
theorem Rel.frz : ∀ {is : List Nat} {G : Gh} {ρ : Env}, Rel K Gb Hb G H ρ σ μ → ∃ G', Rel K Gb Hb G' H (Sx.frz is ρ) σ μ ∧ Kp G H G' H
  | [], G, ρ, r => ⟨G, r, .refl⟩
  | i :: is, G, ρ, r => by
    unfold Sx.frz
    cases e : ρ[i]? with
    | none => exact Rel.frz (is := is) r
    | some o =>
      cases o with
      | none => exact Rel.frz (is := is) r
      | some v =>
        obtain ⟨G1, r1, k1⟩ := r.frz1 e
        obtain ⟨G2, r2, k2⟩ := Rel.frz (is := is) r1
        exact ⟨G2, r2, k1.trans k2⟩
theorem frz_len : ∀ (is : List Nat) (ρ : Env), (Sx.frz is ρ).length = ρ.length
  | [], _ => rfl
  | i :: is, ρ => by
    unfold Sx.frz
    rw [frz_len is]
    split
    · simp
    · rfl
/-- a name takes what an expression has given -/
theorem Rel.set {i : Nat} {v : V} {rv : RV} (r : Rel K Gb Hb G H ρ σ μ) (s : Step G H G' H') (so : StOk K G' H' μ') (n : RvNew K G G' H' v rv) : Rel K Gb Hb G' H' (ρ.set i (some rv)) (σ.set i (some v)) μ' := by
  have hl := r.vw.env.1
  have sl : Slot K G' H' v rv := by
    cases n with
    | fr rp => exact .fr rp
    | own _ g h rs => exact .own g h rs
  have back : ∀ (j : Nat) xs a, (ρ.set i (some rv))[j]? = some (some (.own xs)) → (σ.set i (some v))[j]? = some (some (V.ref a)) → (j = i ∧ G a = none) ∨ (j ≠ i ∧ ρ[j]? = some (some (.own xs)) ∧ σ[j]? = some (some (.ref a))) := fun j xs a q1 q2 => by
    by_cases hj : i = j
    · subst hj
      by_cases hi : i < ρ.length
      · rw [List.getElem?_set_self hi] at q1
        rw [List.getElem?_set_self (by rw [hl]; exact hi)] at q2
        cases q1; cases q2
        cases n with
        | own g0 _ _ _ => exact .inl ⟨rfl, g0⟩
      · rw [List.getElem?_eq_none (by rw [List.length_set]; omega)] at q1; cases q1
    · rw [List.getElem?_set_ne hj] at q1 q2
      exact .inr ⟨fun z => hj z.symm, q1, q2⟩
  have mineG : ∀ (j : Nat) xs a, ρ[j]? = some (some (.own xs)) → σ[j]? = some (some (V.ref a)) → G a = some .own := fun j xs a q1 q2 => by
    obtain ⟨b, vs, q3, g, _⟩ := r.own q1
    rw [q2] at q3; cases q3; exact g
  refine ⟨r.base.trans s, ⟨so, (r.vw.env.step s).set sl⟩, fun j xs a q1 q2 => ?_, fun j k xs ys a q1 q2 q3 q4 => ?_⟩
  · rcases back j xs a q1 q2 with ⟨_, g⟩ | ⟨_, q3, q4⟩
    · cases q : Gb a with
      | none => rfl
      | some t => rw [(r.base a t q).1] at g; cases g
    · exact r.mine j xs a q3 q4
  · rcases back j xs a q1 q3 with ⟨z1, g1⟩ | ⟨z1, p1, p2⟩
    · rcases back k ys a q2 q4 with ⟨z2, g2⟩ | ⟨z2, p3, p4⟩
      · exact z1.trans z2.symm
      · rw [mineG k ys a p3 p4] at g1; cases g1
    · rcases back k ys a q2 q4 with ⟨z2, g2⟩ | ⟨z2, p3, p4⟩
      · rw [mineG j xs a p1 p2] at g2; cases g2
      · exact r.apart j k xs ys a p1 p3 p2 p4
def Own1 (tg : Tg) (ρ ρ' : Env) : Prop := ρ'.length = ρ.length ∧ ∀ (j : Nat) xs, ρ'[j]? = some (some (.own xs)) → ρ[j]? = some (some (.own xs)) ∧ j ∉ tg.slots
theorem bind_get : ∀ (tg : Tg), (∀ (d : D) (ρ ρ' : Env), bindT tg d ρ = some ρ' → Own1 tg ρ ρ') ∧ (∀ (ds : List D) (ρ ρ' : Env), bindTs tg ds ρ = some ρ' → Own1 tg ρ ρ')
  | .nm i => by
    refine ⟨fun d ρ ρ' h => ?_, fun ds ρ ρ' h => ?_⟩
    · simp only [bindT] at h
      split at h
      · rename_i hi
        cases h
        refine ⟨by simp, fun j xs q => ?_⟩
        by_cases hj : i = j
        · subst hj; rw [List.getElem?_set_self hi] at q; cases q
        · rw [List.getElem?_set_ne hj] at q
          exact ⟨q, by simpa [Tg.slots] using fun z => hj z.symm⟩
      · cases h
    · cases ds <;> simp [bindTs] at h
  | .nil => by
    refine ⟨fun d ρ ρ' h => ?_, fun ds ρ ρ' h => ?_⟩
    · cases d <;> simp [bindT] at h
    · cases ds with
      | nil => simp [bindTs] at h; subst h; exact ⟨rfl, fun j xs q => ⟨q, by simp [Tg.slots]⟩⟩
      | cons _ _ => simp [bindTs] at h
  | .cons a b => by
    have ha := bind_get a
    have hb := bind_get b
    have two : ∀ (ds : List D) (ρ ρ' : Env), bindTs (.cons a b) ds ρ = some ρ' → Own1 (.cons a b) ρ ρ' := fun ds ρ ρ' h => by
      cases ds with
      | nil => simp [bindTs] at h
      | cons d ds =>
        simp only [bindTs] at h
        obtain ⟨ρ1, h1, h2⟩ := Option.bind_eq_some_iff.mp h
        obtain ⟨l1, k1⟩ := ha.1 d ρ ρ1 h1
        obtain ⟨l2, k2⟩ := hb.2 ds ρ1 ρ' h2
        refine ⟨l2.trans l1, fun j xs q => ?_⟩
        obtain ⟨q1, n1⟩ := k2 j xs q
        obtain ⟨q2, n2⟩ := k1 j xs q1
        exact ⟨q2, by simp [Tg.slots, n1, n2]⟩
    refine ⟨fun d ρ ρ' h => ?_, two⟩
    cases d with
    | tup xs => simp only [bindT] at h; exact two xs ρ ρ' h
    | _ => simp [bindT] at h
theorem Rel.bind {tg : Tg} {d : D} {v : V} (r : Rel K Gb Hb G H ρ σ μ) (h : bindT tg d ρ = some ρ') (e : EnvRep K G H ρ' σ') (sb : SameBut tg.slots σ σ') : Rel K Gb Hb G H ρ' σ' μ := by
  obtain ⟨hl, k⟩ := (bind_get tg).1 d ρ ρ' h
  refine ⟨r.base, ⟨r.vw.st, e⟩, fun i xs a q1 q2 => ?_, fun i j xs ys a q1 q2 q3 q4 => ?_⟩
  · obtain ⟨q3, n⟩ := k i xs q1
    exact r.mine i xs a q3 ((sb.2 i n).symm.trans q2)
  · obtain ⟨p1, n1⟩ := k i xs q1
    obtain ⟨p2, n2⟩ := k j ys q2
    exact r.apart i j xs ys a p1 p2 ((sb.2 i n1).symm.trans q3) ((sb.2 j n2).symm.trans q4)
/-- a name's own list is written -/
theorem Rel.write {i : Nat} {xs ys : List D} {a : Addr} {ws : List V} (r : Rel K Gb Hb G H ρ σ μ) (e : ρ[i]? = some (some (.own xs))) (ea : σ[i]? = some (some (.ref a))) (rs : Reps K G H ws ys) : Rel K Gb Hb G (upd H a (.lst ws)) (ρ.set i (some (.own ys))) σ μ ∧ Kp G H G (upd H a (.lst ws)) := by
  obtain ⟨b, vs, e1, g, h, rs0, hb⟩ := r.own e
  rw [ea] at e1; cases e1
  have hi : i < ρ.length := (List.getElem?_eq_some_iff.mp e).1
  have back : ∀ (j : Nat) zs, (ρ.set i (some (RV.own ys)))[j]? = some (some (.own zs)) → ∃ zs', ρ[j]? = some (some (.own zs')) := fun j zs q => by
    by_cases hj : i = j
    · subst hj; exact ⟨xs, e⟩
    · rw [List.getElem?_set_ne hj] at q; exact ⟨zs, q⟩
  refine ⟨⟨fun b t q => ?_, ⟨r.vw.st.wr g, ⟨by rw [List.length_set]; exact r.vw.env.1, fun j u q => ?_⟩⟩, fun j zs b q1 q2 => ?_, fun j k zs zs' b q1 q2 q3 q4 => ?_⟩, fun b q => ⟨q, upd_ne fun z => by subst z; rw [g] at q; cases q⟩, fun b n q => q⟩
  · have hne : b ≠ a := fun z => by subst z; rw [hb] at q; cases q
    exact ⟨(r.base b t q).1, fun z => by rw [upd_ne hne]; exact (r.base b t q).2 z⟩
  · by_cases hj : i = j
    · subst hj
      rw [List.getElem?_set_self hi] at q; cases q
      exact ⟨.ref a, ea, .own g upd_same (reps_wr g rs)⟩
    · rw [List.getElem?_set_ne hj] at q
      obtain ⟨y, q1, s⟩ := r.vw.env.2 j u q
      refine ⟨y, q1, ?_⟩
      cases s with
      | fr rp =>
        exact .fr (rp.mono (fun c z => ⟨z, upd_ne fun zz => by subst zz; rw [g] at z; cases z⟩) fun c m z => z)
      | @own b us es g2 h2 rs2 =>
        have hne : b ≠ a := fun z => by subst z; exact hj (r.apart i j xs es b e q ea q1)
        exact .own g2 (by rw [upd_ne hne]; exact h2) (reps_wr g rs2)
  · obtain ⟨zs', q3⟩ := back j zs q1
    exact r.mine j zs' b q3 q2
  · obtain ⟨z1, p1⟩ := back j zs q1
    obtain ⟨z2, p2⟩ := back k zs' q2
    exact r.apart j k z1 z2 b p1 p2 q3 q4
/-- a cell is written -/
theorem Rel.cell {n : Nat} {xs ys : List D} {ws : List V} {a : Addr} (r : Rel K Gb Hb G H ρ σ μ) (g : G a = some (.cel n)) (hn : μ[n]? = some (.lst xs)) (rs : Reps K G H ws ys) : Rel K Gb Hb G (upd H a (.lst ws)) ρ σ (setN μ n (.lst ys)) ∧ Kp G H G (upd H a (.lst ws)) := by
  have ne : ∀ b t, G b = some t → t ≠ .cel n → b ≠ a := fun b t e ht z => by subst z; rw [g] at e; exact ht (Option.some.inj e).symm
  have kp : Kp G H G (upd H a (.lst ws)) := ⟨fun b q => ⟨q, upd_ne (ne b _ q fun z => by cases z)⟩, fun b n q => q⟩
  refine ⟨⟨fun b t q => ⟨(r.base b t q).1, fun z => by rw [upd_ne (ne b t (r.base b t q).1 (z n))]; exact (r.base b t q).2 z⟩, ⟨⟨fun b t q => ?_, fun m c q => ?_, r.vw.st.one, fun b m q => by unfold setN; rw [List.length_set]; exact r.vw.st.lt b m q⟩, ⟨r.vw.env.1, fun j u q => ?_⟩⟩, r.mine, r.apart⟩, kp⟩
  · by_cases hb : b = a
    · subst hb; rw [upd_same]; exact fun z => by cases z
    · rw [upd_ne hb]; exact r.vw.st.there b t q
  · unfold setN at q
    by_cases hm : n = m
    · subst hm
      rw [List.getElem?_set_self (List.getElem?_eq_some_iff.mp hn).1] at q
      cases q
      exact ⟨a, g, .lst upd_same (kp.reps rs)⟩
    · rw [List.getElem?_set_ne hm] at q
      obtain ⟨b, g2, cr⟩ := r.vw.st.cel m c q
      have hb : b ≠ a := ne b _ g2 fun z => by cases z; exact hm rfl
      refine ⟨b, g2, ?_⟩
      cases cr with
      | lst e2 r2 => exact .lst (by rw [upd_ne hb]; exact e2) (kp.reps r2)
  · obtain ⟨v, e1, s⟩ := r.vw.env.2 j u q
    refine ⟨v, e1, ?_⟩
    cases s with
    | fr rp => exact .fr (kp.rep rp)
    | own g2 h2 rs2 => exact .own g2 (by rw [upd_ne (ne _ _ g2 fun z => by cases z)]; exact h2) (kp.reps rs2)
end
theorem mask_len : ∀ (ρ σ : Env), (mask ρ σ).length = σ.length
  | [], σ => by cases σ <;> rfl
  | none :: ρ, [] => rfl
  | some _ :: ρ, [] => rfl
  | none :: ρ, x :: σ => by simp [mask, mask_len ρ σ]
  | some _ :: ρ, x :: σ => by simp [mask, mask_len ρ σ]
theorem mask_get : ∀ (ρ σ : Env) (i : Nat) (r : RV), (mask ρ σ)[i]? = some (some r) → σ[i]? = some (some r)
  | [], σ, i, r, h => by cases σ <;> simpa [mask] using h
  | none :: ρ, [], i, r, h => by simp [mask] at h
  | some _ :: ρ, [], i, r, h => by simp [mask] at h
  | none :: ρ, x :: σ, 0, r, h => by simp [mask] at h
  | none :: ρ, x :: σ, i + 1, r, h => by
    simp only [mask, List.getElem?_cons_succ] at h ⊢
    exact mask_get ρ σ i r h
  | some _ :: ρ, x :: σ, 0, r, h => by simpa [mask] using h
  | some _ :: ρ, x :: σ, i + 1, r, h => by
    simp only [mask, List.getElem?_cons_succ] at h ⊢
    exact mask_get ρ σ i r h
/-- what is wanted behind a statement, by what it means -/
def EndOk (X : Cx) (W : WX) (Gb : Gh) (Hb : Hp) (G : Gh) (H : Hp) (D : Ends) : RS → Prop
  | .nx ρ' μ' => ∀ σ' G' H', Rel X.K Gb Hb G' H' ρ' σ' μ' → Kp G H G' H' → D.nx σ' H'
  | .rt r μ' => ∀ v G' H', Step Gb Hb G' H' → StOk X.K G' H' μ' → RvNew X.K Gb G' H' v r → D.rt v H'
  | .ex x ρ' μ' => ∀ c d σ' G' H', XRep X.K X.mg G' H' c d x → Rel X.K Gb Hb G' H' ρ' σ' μ' → Kp G H G' H' → W c d σ' H'
  | .bad => False
def tS (X : Cx) (W : WX) (m : Env → Mu → RS) : TS := fun D σ H => ∃ Gb Hb G ρ μ, Rel X.K Gb Hb G H ρ σ μ ∧ EndOk X W Gb Hb G H D (m ρ μ)
theorem EndOk.from {X : Cx} {W : WX} {Gb : Gh} {Hb : Hp} {G G1 : Gh} {H H1 : Hp} {D : Ends} {r : RS} (k : Kp G H G1 H1) (e : EndOk X W Gb Hb G H D r) : EndOk X W Gb Hb G1 H1 D r := by
  cases r with
  | nx ρ' μ' => exact fun σ' G' H' r k' => e σ' G' H' r (k.trans k')
  | rt r μ' => exact e
  | ex _ _ _ => exact fun c d σ' G' H' x r k' => e c d σ' G' H' x r (k.trans k')
  | bad => exact e
theorem lift_inv {α : Type} {X : Cx} {W : WX} {Gb : Gh} {Hb : Hp} {G : Gh} {H : Hp} {D : Ends} {m : M α} {ρ : Env} {μ : Mu} {f : α → Mu → RS} (h : EndOk X W Gb Hb G H D (lift m ρ μ f)) : ∃ a μ', m μ = .ok a μ' ∧ EndOk X W Gb Hb G H D (f a μ') := by
  unfold lift at h
  split at h
  · exact ⟨_, _, by assumption, h⟩
  · exact h.elim
section
variable {X : Cx} {W : WX} {st : Stmt}
theorem PSimp {t t' : TS} (h : PS X st t) (i : ∀ D σ H, t' D σ H → t D σ H) : PS X st t' := ⟨fun pins s σ H D I q => h.run pins s σ H D I (i _ _ _ q)⟩
theorem PSsimp {ss : List Stmt} {t t' : TS} (h : PSs X ss t) (i : ∀ D σ H, t' D σ H → t D σ H) : PSs X ss t' := ⟨fun pins s σ H D I q => h.run pins s σ H D I (i _ _ _ q)⟩
/-- each statement begins by freezing -/
theorem tS_frz {m : Env → Mu → RS} {fz : List Nat} {D : Ends} {σ : L2.St} {H : Hp} (q : tS X W (fun ρ μ => m (frz fz ρ) μ) D σ H) : tS X W m D σ H := by
  obtain ⟨Gb, Hb, G, ρ, μ, r, e⟩ := q
  obtain ⟨G1, r1, k1⟩ := r.frz (is := fz)
  exact ⟨Gb, Hb, G1, _, μ, r1, e.from k1⟩
theorem asg_name {te : TE} {i : Nat} {m : Env → M RV} (h : PS X st (tAsg (tE X.K m) (gName i))) : PS X st (tS X W fun ρ μ => lift (m ρ) ρ μ fun r μ' => if i < ρ.length then .nx (ρ.set i (some r)) μ' else .bad) := PSimp h fun D σ H q => by
  obtain ⟨Gb, Hb, G, ρ, μ, r, e⟩ := q
  obtain ⟨rv, μ', e1, e2⟩ := lift_inv e
  split at e2
  · refine ⟨G, ρ, μ, rv, μ', r.vw, e1, fun v G' H' s so n => e2 _ G' H' (r.set s so n) s.kp⟩
  · exact e2.elim
theorem asg_tg {tg : Tg} {m : Env → M RV} (h : PS X st (tAsg (tF X.K fun ρ => bnd (m ρ) fun r => ret r.d) (gT X.K tg))) : PS X st (tS X W fun ρ μ => lift (m ρ) ρ μ fun r μ' => match bindT tg r.d ρ with | some ρ' => .nx ρ' μ' | none => .bad) := PSimp h fun D σ H q => by
  obtain ⟨Gb, Hb, G, ρ, μ, r, e⟩ := q
  obtain ⟨rv, μ', e1, e2⟩ := lift_inv e
  cases hb : bindT tg rv.d ρ with
  | none => rw [hb] at e2; exact e2.elim
  | some ρ' =>
    rw [hb] at e2
    refine ⟨G, ρ, μ, rv.d, μ', r.vw, by simp [bnd, e1, ret], fun v G' H' s so n => ⟨G', ρ, rv.d, ρ', r.vw.env.step s, n, hb, fun σ' er sb => ?_⟩⟩
    exact e2 σ' G' H' ((r.step s so).bind (v := v) hb er sb) s.kp
theorem exp_sx {e : Expr} {pos : Pos} {m : Env → M RV} (h : PD X e m) (hs : swapsWith e none pos.line X.env = pure false) : PS X (.Expr e pos) (tS X W fun ρ μ => lift (m ρ) ρ μ fun _ μ' => .nx ρ μ') := PSimp (ps_expr h hs) fun D σ H q => by
  obtain ⟨Gb, Hb, G, ρ, μ, r, e⟩ := q
  obtain ⟨rv, μ', e1, e2⟩ := lift_inv e
  exact ⟨G, ρ, μ, rv, μ', r.vw, e1, fun v G' H' s so n => e2 σ G' H' (r.step s so) s.kp⟩
theorem ret_sx {e : Expr} {pos : Pos} {m : Env → M RV} (h : PD X e m) : PS X (.Return (some e) pos) (tS X W fun ρ μ => lift (m ρ) ρ μ fun r μ' => .rt r μ') := PSimp (ps_ret h) fun D σ H q => by
  obtain ⟨Gb, Hb, G, ρ, μ, r, e⟩ := q
  obtain ⟨rv, μ', e1, e2⟩ := lift_inv e
  exact ⟨G, ρ, μ, rv, μ', r.vw, e1, fun v G' H' s so n => e2 v G' H' (r.base.trans s) so (n.since r.base)⟩
theorem ret_name {i : Nat} {x : Str} {p pos : Pos} (hN : X.N[i]? = some x) (hv : Vis X.env.scope x) (h1 : (x == ("__debug__" : Str)) = false) (h2 : (x == ("__classdict__" : Str)) = false) {m : Env → M RV} :
    PS X (.Return (some (.Name x p)) pos) (tS X W fun ρ μ => lift (rvOf (.var i) (m ρ) ρ) ρ μ fun r μ' => .rt r μ') := PSimp (ps_ret (pe_var (i := i) hN hv h1 h2)) fun D σ H q => by
  obtain ⟨Gb, Hb, G, ρ, μ, r, e⟩ := q
  obtain ⟨rv, μ', e1, e2⟩ := lift_inv e
  obtain ⟨e3, rfl⟩ := rvOf_var e1
  obtain ⟨v, e4, s⟩ := r.vw.env.2 i rv e3
  refine ⟨v, e4, e2 v G H r.base r.vw.st ?_⟩
  cases s with
  | fr rp => exact .fr rp
  | own g h rs => exact .own (r.mine i _ _ e3 e4) g h rs
theorem par_sx {i j : Nat} {x y : Str} {a b : Expr} {px py pt pos : Pos} {kt k2 : Nat} {pt2 : Pos} {ma mb : Env → M RV} (hc : X.calm = true) (hN : X.N.Nodup) (hi : X.N[i]? = some x) (hj : X.N[j]? = some y) (hij : i ≠ j)
    (hx : X.env.scope.names.lookup x = some .local) (hy : X.env.scope.names.lookup y = some .local) (sa : PySem.W.isStarred a = false) (sb : PySem.W.isStarred b = false) (ha : PD X a ma) (hb : PD X b mb)
    (hw : swappedStores [.Tuple [.Name x px, .Name y py] kt pt] (.Tuple [a, b] k2 pt2) X.env = pure (some [x, y])) :
    PS X (.Assign [.Tuple [.Name x px, .Name y py] kt pt] (.Tuple [a, b] k2 pt2) pos) (tS X W fun ρ μ => lift (ma ρ) ρ μ fun r μ' => lift (mb ρ) ρ μ' fun r' μ'' =>
      if i < ρ.length ∧ j < ρ.length then .nx ((ρ.set i (some (.fr r.d))).set j (some (.fr r'.d))) μ'' else .bad) :=
  PSimp (ps_par hc hN hi hj hij hx hy (pds_cons sa (pd_frz ha) (pds_cons sb (pd_frz hb) pds_nil)) hw) fun D σ H q => by
    obtain ⟨Gb, Hb, G, ρ, μ, r, e⟩ := q
    obtain ⟨rv, μ', e1, e2⟩ := lift_inv e
    obtain ⟨rv2, μ2, e3, e4⟩ := lift_inv e2
    split at e4
    · refine ⟨G, ρ, μ, [rv.d, rv2.d], μ2, r.vw, by simp [bnd, e1, e3, ret], fun vs G' H' s so rs => ?_⟩
      cases rs with
      | cons r1 rs =>
        cases rs with
        | cons r2 rs =>
          cases rs
          refine ⟨_, _, rfl, e4 _ G' H' ?_ s.kp⟩
          exact (r.set s so (.fr r1)).set .refl so (.fr r2)
    · exact e4.elim
theorem ite_sx {c : Expr} {a b : List Stmt} {pos : Pos} {mc : Env → M RV} {ma mb : Env → Mu → RS} (hc : PT X c (tT X.K (asB mc))) (ha : PSs X a (tS X W ma)) (hb : PSs X b (tS X W mb)) :
    PS X (.If c a b pos) (tS X W fun ρ μ => lift (bnd (mc ρ) fun r => asBool r.d) ρ μ fun k μ' => if k = true then ma ρ μ' else mb ρ μ') := PSimp (ps_if hc ha hb) fun D σ H q => by
  obtain ⟨Gb, Hb, G, ρ, μ, r, e⟩ := q
  obtain ⟨k, μ', e1, e2⟩ := lift_inv e
  refine ⟨G, ρ, μ, k, μ', r.vw, e1, fun G' H' s so => ?_⟩
  cases k with
  | true => rw [if_pos rfl] at e2 ⊢; exact ⟨Gb, Hb, G', ρ, μ', r.step s so, e2.from s.kp⟩
  | false => rw [if_neg Bool.false_ne_true] at e2 ⊢; exact ⟨Gb, Hb, G', ρ, μ', r.step s so, e2.from s.kp⟩
theorem pas_sx {pos : Pos} : PS X (.Pass pos) (tS X W fun ρ μ => .nx ρ μ) := PSimp ps_pass fun D σ H q => by
  obtain ⟨Gb, Hb, G, ρ, μ, r, e⟩ := q
  exact e σ G H r .refl
theorem nil_sx : PSs X [] (tS X W fun ρ μ => .nx ρ μ) := PSsimp pss_nil fun D σ H q => by
  obtain ⟨Gb, Hb, G, ρ, μ, r, e⟩ := q
  exact e σ G H r .refl
theorem cons_sx {ss : List Stmt} {m m' : Env → Mu → RS} (h : PS X st (tS X W m)) (h' : PSs X ss (tS X W m')) : PSs X (st :: ss) (tS X W fun ρ μ => match m ρ μ with | .nx ρ' μ' => m' ρ' μ' | r => r) := PSsimp (pss_cons h h') fun D σ H q => by
  obtain ⟨Gb, Hb, G, ρ, μ, r, e⟩ := q
  refine ⟨Gb, Hb, G, ρ, μ, r, ?_⟩
  dsimp only at e
  cases q : m ρ μ with
  | nx ρ' μ' =>
    rw [q] at e
    exact fun σ' G' H' r' k' => ⟨Gb, Hb, G', ρ', μ', r', e.from k'⟩
  | rt rv μ' => rw [q] at e; exact e
  | ex _ _ _ => rw [q] at e; exact e
  | bad => rw [q] at e; exact e.elim
theorem never_sx : PS X st (tS X W fun _ _ => .bad) := PSimp (t := tNever) ps_never fun D σ H q => by
  obtain ⟨Gb, Hb, G, ρ, μ, r, e⟩ := q
  exact e
theorem whl_sx {c : Expr} {body : List Stmt} {pos : Pos} {mc : Env → M RV} {mb : Env → Mu → RS} (hp : PassesOwn (model X.prog X.w) X.A X.env X.xe) (hc : PT X c (tT X.K (asB mc))) (hb : PSs X body (tS X W mb)) :
    PS X (.While c body [] pos) (tS X W fun ρ μ => whileR (turnW mc mb) ρ μ) := PSimp (ps_while hp hc hb) fun D σ H q => by
  obtain ⟨Gb, Hb, G0, ρ, μ, r0, e⟩ := q
  dsimp only at e
  generalize hres : whileR (turnW mc mb) ρ μ = res at e
  have nb : res ≠ .bad := fun z => by rw [z] at e; exact e
  obtain ⟨n, wh⟩ := whileR_bad (by rw [hres]; exact nb)
  rw [hres] at wh
  refine ⟨fun n σ' H' => ∃ G ρ μ, Rel X.K Gb Hb G H' ρ σ' μ ∧ Kp G0 H G H' ∧ Wh (turnW mc mb) n ρ μ res, ⟨n, G0, ρ, μ, r0, .refl, wh⟩, ?_⟩
  rintro m σ1 H1 ⟨G, ρ, μ, r, kp, wh⟩
  have stp : ∃ k μ1, asB mc ρ μ = .ok k μ1 ∧ (match k with
      | false => m = 0 ∧ res = .nx ρ μ1
      | true => (∃ ρ' μ2 m', mb ρ μ1 = .nx ρ' μ2 ∧ m = m' + 1 ∧ Wh (turnW mc mb) m' (mask ρ ρ') μ2 res) ∨ (res = mb ρ μ1 ∧ ∀ ρ' μ2, mb ρ μ1 ≠ .nx ρ' μ2)) := by
    cases wh with
    | out h =>
      unfold turnW at h
      split at h
      · cases h; exact ⟨false, _, by assumption, rfl, rfl⟩
      · refine ⟨true, _, by assumption, .inr ?_⟩
        split at h
        · cases h
        · rename_i hh; cases h; exact ⟨rfl, fun ρ' μ2 z => hh ρ' μ2 z⟩
      · cases h; exact e.elim
    | go h w =>
      unfold turnW at h
      split at h
      · cases h
      · refine ⟨true, _, by assumption, .inl ?_⟩
        split at h
        · cases h; exact ⟨_, _, _, by assumption, rfl, w⟩
        · cases h
      · cases h
  obtain ⟨k, μ1, e1, e2⟩ := stp
  refine ⟨G, ρ, μ, k, μ1, r.vw, e1, fun G2 H2 s so => ?_⟩
  cases k with
  | false =>
    rw [if_neg Bool.false_ne_true]
    obtain ⟨_, rfl⟩ := e2
    exact e σ1 G2 H2 (r.step s so) (kp.trans s.kp)
  | true =>
    rw [if_pos rfl]
    refine ⟨fun σ' H' => ∃ m', m' < m ∧ ∃ G ρ μ, Rel X.K Gb Hb G H' ρ σ' μ ∧ Kp G0 H G H' ∧ Wh (turnW mc mb) m' ρ μ res, fun σ' H' z => z, Gb, Hb, G2, ρ, μ1, r.step s so, ?_⟩
    rcases e2 with ⟨ρ', μ2, m', e3, rfl, w⟩ | ⟨e3, e4⟩
    · rw [e3]
      exact fun σ' G' H' r' k' => ⟨m', Nat.lt_succ_self _, G', _, μ2, r'.weak (mask_len _ _) (mask_get _ _), kp.trans (s.kp.trans k'), w⟩
    · rw [← e3]
      cases res with
      | nx ρ' μ' => exact absurd e3.symm (e4 ρ' μ')
      | rt rv μ' => exact e
      | ex _ _ _ => exact fun c d σ3 G3 H3 x3 r3 k3 => e c d σ3 G3 H3 x3 r3 (kp.trans (s.kp.trans k3))
      | bad => exact e.elim
theorem forH_held {X : Cx} {W : WX} {Gb : Gh} {Hb : Hp} {G : Gh} {H : Hp} {D' : Ends} {hd : Hd} {f : D → Env → Mu → RS} {xs : List D} {ρ : Env} {μ : Mu} (h : EndOk X W Gb Hb G H D' (forH hd f xs ρ μ)) : Held hd μ := by
  cases xs <;> (simp only [forH] at h; split at h <;> first | assumption | exact h.elim)
theorem forH_step {X : Cx} {W : WX} {Gb : Gh} {Hb : Hp} {G : Gh} {H : Hp} {D' : Ends} {hd : Hd} {f : D → Env → Mu → RS} {x : D} {xs : List D} {ρ : Env} {μ : Mu} (h : EndOk X W Gb Hb G H D' (forH hd f (x :: xs) ρ μ)) : EndOk X W Gb Hb G H D' (match f x ρ μ with | .nx ρ' μ' => forH hd f xs (mask ρ ρ') μ' | r => r) := by
  simp only [forH] at h
  split at h
  · exact h
  · exact h.elim
theorem forH_end {X : Cx} {W : WX} {Gb : Gh} {Hb : Hp} {G : Gh} {H : Hp} {D' : Ends} {hd : Hd} {f : D → Env → Mu → RS} {ρ : Env} {μ : Mu} (h : EndOk X W Gb Hb G H D' (forH hd f [] ρ μ)) : EndOk X W Gb Hb G H D' (.nx ρ μ) := by
  simp only [forH] at h
  split at h
  · exact h
  · exact h.elim
theorem loop_sx {tgE it : Expr} {body : List Stmt} {pos : Pos} {tg : Tg} {mi : Env → M (List D × Hd)} {mb : Env → Mu → RS} (hp : PassesOwn (model X.prog X.w) X.A X.env X.xe) (hc : X.calm = true) (hi : PI X tgE it (tI X.K mi)) (hg : PG X tgE (gT X.K tg)) (hb : PSs X body (tS X W mb))
    (hs : ∀ x, foldedSetIterable it X.env x = pure x) :
    PS X (.For tgE it body [] pos) (tS X W fun ρ μ => lift (mi ρ) ρ μ fun p μ' => forH p.2 (turnF tg mb) p.1 ρ μ') := PSimp (ps_for hp hc hi hg hb hs) fun D σ H q => by
  obtain ⟨Gb, Hb, G0, ρ0, μ0, r0, e⟩ := q
  obtain ⟨⟨xs, hd⟩, μ1, e1, e2⟩ := lift_inv e
  refine ⟨G0, ρ0, μ0, (xs, hd), μ1, r0.vw, e1, fun G1 H1 J s1 so1 hh1 w1 => ?_⟩
  dsimp only at e2 w1
  refine ⟨fun i m σ H => m = xs.length - i ∧ i ≤ xs.length ∧ ∃ G ρ μ, Rel X.K Gb Hb G H ρ σ μ ∧ Kp G1 H1 G H ∧ EndOk X W Gb Hb G H D (forH hd (turnF tg mb) (xs.drop i) ρ μ),
    ⟨xs.length, rfl, Nat.zero_le _, G1, ρ0, μ1, r0.step s1 so1, .refl, e2.from s1.kp⟩, ?_⟩
  rintro i m σ H ⟨rfl, hil, G, ρ, μ, r, kp, en⟩
  have hh := forH_held en
  by_cases hlt : i < xs.length
  · rw [List.drop_eq_getElem_cons hlt] at en
    replace en := forH_step en
    refine .inr ⟨w1.go i G H μ kp r.vw.st hh hlt, fun σ' H' => ∃ G' ρ' μ', Rel X.K Gb Hb G' H' ρ' σ' μ' ∧ Kp G1 H1 G' H' ∧ EndOk X W Gb Hb G' H' D (forH hd (turnF tg mb) (xs.drop (i + 1)) ρ' μ'),
      fun σ' H' h => ⟨xs.length - (i + 1), by omega, rfl, by omega, h⟩, fun x H2 y => ?_⟩
    obtain ⟨G2, s2, so2, rx⟩ := w1.yld i G H μ x H2 _ kp r.vw.st hh y (List.getElem?_eq_getElem hlt)
    have r2 := r.step s2 so2
    unfold turnF at en
    cases hbd : bindT tg xs[i] ρ with
    | none => simp only [hbd] at en; exact en.elim
    | some ρ' =>
      simp only [hbd] at en
      refine ⟨G2, ρ, _, ρ', r2.vw.env, rx, hbd, fun σ' er sb => ⟨Gb, Hb, G2, ρ', μ, r2.bind (v := x) hbd er sb, ?_⟩⟩
      cases q : mb ρ' μ with
      | nx ρ3 μ3 =>
        simp only [q] at en
        exact fun σ3 G3 H3 r3 k3 => ⟨G3, _, μ3, r3.weak (mask_len _ _) (mask_get _ _), kp.trans (s2.kp.trans k3), en.from (s2.kp.trans k3)⟩
      | rt rv μ3 => simp only [q] at en; exact en
      | ex _ _ _ => simp only [q] at en; exact fun c d σ3 G3 H3 x3 r3 k3 => en c d σ3 G3 H3 x3 r3 (s2.kp.trans k3)
      | bad => simp only [q] at en; exact en.elim
  · have hi' : i = xs.length := by omega
    subst hi'
    rw [List.drop_length] at en
    replace en := forH_end en
    exact .inl ⟨w1.stop G H μ kp r.vw.st hh, en σ G H r .refl⟩
theorem assign_sub {o i : Expr} {pos : Pos} {env : PySem.Env} (h : notSlice i = true) (v : Value) : assign (.Subscript o i pos) env v = (do
      let ov ← holding [v] (eval o env)
      let iv ← holding [v, ov] (eval i env)
      standAt pos
      holding [v, ov, iv] (setItem ov iv v)
      release [v, ov, iv] []) := by
  cases i <;> first | rfl | cases h
theorem setv_sx {x : Nat} {nm : Str} {ix e : Expr} {p p2 pos : Pos} {me : Env → M D} {mi : Env → M D} (hN : X.N[x]? = some nm) (hv : Vis X.env.scope nm) (h1 : (nm == ("__debug__" : Str)) = false) (h2 : (nm == ("__classdict__" : Str)) = false)
    (hs : notSlice ix = true) (he : PE X e (tF X.K me)) (hi : PE X ix (tL X.K mi)) :
    PS X (.Assign [.Subscript (.Name nm p) ix p2] e pos) (tS X W fun ρ μ => lift (me ρ) ρ μ fun d μ' => lift (bnd (mi ρ) asInt) ρ μ' fun k μ'' =>
      match ρ[x]? with
      | some (some (.own xs)) => match ixN xs.length k with
        | some j => .nx (ρ.set x (some (.own (xs.set j d)))) μ''
        | none => .bad
      | _ => .bad) :=
  PSimp (ps_asg he (pg_sub (pe_var (i := x) hN hv h1 h2) hi set_list (assign_sub hs)) (by cases e <;> rfl) (by cases e <;> rfl)) fun D σ H q => by
    obtain ⟨Gb, Hb, G, ρ, μ, r, e⟩ := q
    obtain ⟨d, μ1, e1, e2⟩ := lift_inv e
    obtain ⟨k, μ2, e3, e4⟩ := lift_inv e2
    obtain ⟨dk, μ3, e5, e6⟩ := bnd_inv e3
    obtain ⟨rfl, rfl⟩ := asInt_inv e6
    cases q : ρ[x]? with
    | none => rw [q] at e4; exact e4.elim
    | some o =>
      cases o with
      | none => rw [q] at e4; exact e4.elim
      | some rv =>
        cases rv with
        | fr _ => rw [q] at e4; exact e4.elim
        | ownd _ => rw [q] at e4; exact e4.elim
        | wk _ _ => rw [q] at e4; exact e4.elim
        | own xs =>
          rw [q] at e4
          dsimp only at e4
          cases qj : ixN xs.length k with
          | none => rw [qj] at e4; exact e4.elim
          | some j =>
            rw [qj] at e4
            refine ⟨G, ρ, μ, d, μ1, r.vw, e1, fun v G1 H1 s1 so1 r1 => ?_⟩
            obtain ⟨a, vs, f1, f2, f3, f4, f5⟩ := r.own q
            refine ⟨_, f1, G1, ρ, μ1, _, _, ⟨so1, r.vw.env.step s1⟩, e5, fun w G2 H2 s2 so2 r2 => ?_⟩
            have st := s1.trans s2
            have g2 := (st _ _ f2).1
            have h2 : H2 a = some (.lst vs) := by rw [(st _ _ f2).2 fun n z => by cases z]; exact f3
            have rs2 := st.reps f4
            refine ⟨a, vs, k, j, rfl, r2.intI, h2, ?_, ?_⟩
            · rw [rs2.len]; exact qj
            · have rel2 : Rel X.K Gb Hb G2 H2 ρ σ _ := r.step st so2
              obtain ⟨rel3, kp3⟩ := rel2.write q f1 (rs2.set (s2.rep r1) j)
              exact e4 σ G2 _ rel3 (st.kp.trans kp3)
theorem cell_at {K : PySem.W.Frag} {G : Gh} {H : Hp} {μ : Mu} {v : V} {n : Nat} {xs : List D} (so : StOk K G H μ) (b : RepB K G H v (.cell n)) (e : μ[n]? = some (.lst xs)) : ∃ a vs, v = .ref a ∧ G a = some (.cel n) ∧ H a = some (.lst vs) ∧ Reps K G H vs xs := by
  cases b with
  | fr r =>
    cases r with
    | cell g =>
      obtain ⟨b, g2, cr⟩ := so.cel n _ e
      have := so.one _ _ _ g g2
      subst this
      cases cr with
      | lst e3 r => exact ⟨_, _, rfl, g, e3, r⟩
theorem setc_sx {ox ix e : Expr} {p2 pos : Pos} {me : Env → M D} {mo mi : Env → M D} (hs : notSlice ix = true) (he : PE X e (tF X.K me)) (ho : PE X ox (tL X.K mo)) (hi : PE X ix (tL X.K mi)) :
    PS X (.Assign [.Subscript ox ix p2] e pos) (tS X W fun ρ μ => lift (me ρ) ρ μ fun d μ' => lift (mo ρ) ρ μ' fun c μ1 => lift (bnd (mi ρ) asInt) ρ μ1 fun k μ'' => match c with
      | .cell n => match μ''[n]? with
        | some (.lst xs) => match ixN xs.length k with
          | some j => .nx ρ (setN μ'' n (.lst (xs.set j d)))
          | none => .bad
        | _ => .bad
      | _ => .bad) :=
  PSimp (ps_asg he (pg_sub ho hi set_list (assign_sub hs)) (by cases e <;> rfl) (by cases e <;> rfl)) fun D σ H q => by
    obtain ⟨Gb, Hb, G, ρ, μ, r, e⟩ := q
    obtain ⟨d, μ1, e1, e2⟩ := lift_inv e
    obtain ⟨c, μ2, e3, e4⟩ := lift_inv e2
    obtain ⟨k, μ3, e5, e6⟩ := lift_inv e4
    obtain ⟨dk, μ4, e7, e8⟩ := bnd_inv e5
    obtain ⟨rfl, rfl⟩ := asInt_inv e8
    cases c with
    | cell n =>
      dsimp only at e6
      cases q : μ4[n]? with
      | none => rw [q] at e6; exact e6.elim
      | some cc =>
        cases cc with
        | dic _ => rw [q] at e6; exact e6.elim
        | obj _ _ => rw [q] at e6; exact e6.elim
        | lst xs =>
          rw [q] at e6
          dsimp only at e6
          cases qj : ixN xs.length k with
          | none => rw [qj] at e6; exact e6.elim
          | some j =>
            rw [qj] at e6
            refine ⟨G, ρ, μ, d, μ1, r.vw, e1, fun v G1 H1 s1 so1 r1 => ⟨G1, ρ, μ1, _, μ2, ⟨so1, r.vw.env.step s1⟩, e3, fun w G2 H2 s2 so2 r2 => ⟨G2, ρ, μ2, _, _, ⟨so2, r.vw.env.step (s1.trans s2)⟩, e7, fun u G3 H3 s3 so3 r3 => ?_⟩⟩⟩
            obtain ⟨a, vs, rfl, g, h3, rs⟩ := cell_at so3 (r2.step s3) q
            have st := s1.trans (s2.trans s3)
            refine ⟨a, vs, k, j, rfl, r3.intI, h3, ?_, ?_⟩
            · rw [rs.len]; exact qj
            · obtain ⟨rel3, kp3⟩ := (r.step st so3).cell g q (rs.set ((s2.trans s3).rep r1) j)
              exact e6 σ G3 _ rel3 (st.kp.trans kp3)
    | _ => exact e6.elim
/-- x.append(e), x.extend(e), whoever holds what is put behind -/
theorem mt_ext : MtR X "list.extend" (fun x vs H Q => ∃ l b xs zs, x = .ref l ∧ vs = [.ref b] ∧ H l = some (.lst xs) ∧ Rd H b (.lst zs) ∧ xs.length + zs.length ≤ sizeLine ∧ Q .non (upd H l (.lst (xs ++ zs)))) := by
  intro pins s σ H x vs v us Q I rx rv h
  obtain ⟨l, b, xs, zs, rfl, rfl, hl, hb, hz, q⟩ := h
  cases rx
  obtain ⟨u, rfl, ru⟩ := rv.one
  cases ru
  obtain ⟨_, i1, n1, r1, l1, e1⟩ := I.lstM hl
  obtain ⟨_, i2, n2, r2, l2, e2⟩ := rd_list I hb
  have small : i1.toArray.size + i2.toArray.size ≤ sizeLine := by simp only [List.size_toArray]; omega
  have c1 : ¬ (!i1.toArray.isEmpty && Builtin.List.listTooLong (i1.toArray.size + i2.toArray.size)) = true := by rw [notLongL small, Bool.and_false]; decide
  refine call_meets F.slot_list_extend ⟨_, e1, rfl⟩ F.entry_list_extend (F.args_list_extend_2 _ _) (AutoSeq1.list_extend_list_list_0 l i1.toArray n1 b i2.toArray n2 c1 ?_ ?_) ⟨e1, e2, ?_⟩
  · simp only [List.size_toArray]; omega
  · omega
  · exact ⟨.non, _, I.lset (its' := i1 ++ i2) hl e1 (by simp) (r1.append r2) (by simp only [List.length_append]; omega), rfl, q⟩
def Mth.nm : Mth → Str
  | .append => "append" | .extend => "extend" | .pop => "pop" | .insert => "insert" | .reverse => "reverse" | .clear => "clear"
/-- a method of a list of one's own that gives nothing -/
def MOk (K : PySem.W.Frag) (m : Mth) (r : V → List V → Hp → VK → Prop) : Prop := ∀ {G : Gh} {H : Hp} {μ : Mu} {a : Addr} {vs ws : List V} {xs ds ys : List D} {Q : VK}, mutL μ m xs ds = some ys → StOk K G H μ → H a = some (.lst vs) → Reps K G H vs xs → Reps K G H ws ds →
  (∀ vs', Reps K G H vs' ys → Q .non (upd H a (.lst vs'))) → r (.ref a) ws H Q
theorem mok_append {K : PySem.W.Frag} : MOk K .append rAppend := by
  intro G H μ a vs ws xs ds ys Q h so ha rs rw' k
  match ds, rw', h with
  | [d], .cons r1 .nil, h =>
    simp only [mutL] at h
    split at h
    · rename_i c
      cases h
      have := size_le c
      exact ⟨a, vs, _, rfl, rfl, ha, by rw [rs.len]; omega, k _ (rs.app (.cons r1 .nil))⟩
    · cases h
  | [], _, h => simp [mutL] at h
  | _ :: _ :: _, _, h => simp [mutL] at h
theorem mok_extend {K : PySem.W.Frag} : MOk K .extend (fun x vs H Q => ∃ l b xs zs, x = .ref l ∧ vs = [.ref b] ∧ H l = some (.lst xs) ∧ Rd H b (.lst zs) ∧ xs.length + zs.length ≤ sizeLine ∧ Q .non (upd H l (.lst (xs ++ zs)))) := by
  intro G H μ a vs ws xs ds ys Q h so ha rs rw' k
  match ds, rw', h with
  | [d], .cons r1 .nil, h =>
    simp only [mutL] at h
    split at h
    · rename_i zs e1
      split at h
      · rename_i c
        cases h
        have := size_le c
        obtain ⟨b, us, rfl, rd, r2⟩ := (RepB.fr r1).lis so e1
        exact ⟨a, b, vs, us, rfl, rfl, ha, rd, by rw [rs.len, r2.len]; omega, k _ (rs.app r2)⟩
      · cases h
    · cases h
  | [], _, h => simp [mutL] at h
  | _ :: _ :: _, _, h => simp [mutL] at h
def mutS (m : Mth) (x : Nat) (me : Env → M (List D)) : Env → Mu → RS := fun ρ μ => lift (me ρ) ρ μ fun ds μ' => match ρ[x]? with
  | some (some (.own xs)) => match mutL μ' m xs ds with
    | some ys => .nx (ρ.set x (some (.own ys))) μ'
    | none => .bad
  | _ => .bad
theorem mutS_inv {m : Mth} {x : Nat} {me : Env → M (List D)} {D : Ends} {σ : L2.St} {H : Hp} (q : tS X W (mutS m x me) D σ H) : ∃ Gb Hb G ρ μ xs ds μ' a vs ys, Rel X.K Gb Hb G H ρ σ μ ∧ me ρ μ = .ok ds μ' ∧ ρ[x]? = some (some (.own xs)) ∧ σ[x]? = some (some (.ref a)) ∧ G a = some .own ∧ H a = some (.lst vs) ∧ Reps X.K G H vs xs ∧
    mutL μ' m xs ds = some ys ∧ EndOk X W Gb Hb G H D (.nx (ρ.set x (some (.own ys))) μ') := by
  obtain ⟨Gb, Hb, G, ρ, μ, r, e⟩ := q
  obtain ⟨ds, μ1, e1, e2⟩ := lift_inv e
  cases q : ρ[x]? with
  | none => rw [q] at e2; exact e2.elim
  | some o =>
    cases o with
    | none => rw [q] at e2; exact e2.elim
    | some rv =>
      cases rv with
      | fr _ => rw [q] at e2; exact e2.elim
      | ownd _ => rw [q] at e2; exact e2.elim
      | wk _ _ => rw [q] at e2; exact e2.elim
      | own xs =>
        rw [q] at e2
        dsimp only at e2
        cases qm : mutL μ1 m xs ds with
        | none => rw [qm] at e2; exact e2.elim
        | some ys =>
          rw [qm] at e2
          obtain ⟨a, vs, f1, f2, f3, f4, f5⟩ := r.own q
          exact ⟨Gb, Hb, G, ρ, μ, xs, ds, μ1, a, vs, ys, r, e1, q, f1, f2, f3, f4, qm, e2⟩
theorem mutv_gen {id : String} {m : Mth} {mn : Str} {r : V → List V → Hp → VK → Prop} (slot : PySem.Slot "list" mn id) (hty : typeOf (.builtin id) = pure (.type "method_descriptor")) (hm : MtR X id r) (ok : MOk X.K m r) {x : Nat} {nm : Str} {e : Expr} {es : List Expr} {p ap cp pos : Pos} {me : Env → M (List D)}
    (hN : X.N[x]? = some nm) (hv : Vis X.env.scope nm) (h1 : (nm == ("__debug__" : Str)) = false) (h2 : (nm == ("__classdict__" : Str)) = false) (se : PySem.W.isStarred e = false)
    (few : ((backTo cp (starEach (e :: es) X.env)).all (fun x => !x.1) && (backToKw cp (keywordEach [] X.env)).all (fun x => x.1.isSome) && decide ((e :: es).length + ([] : List Keyword).length + (if ([] : List Keyword).isEmpty then 0 else 1) < 30)) = true)
    (pl : (backTo cp (starEach es X.env)).any (·.1) = false) (hl : (ap.endLine == cp.line) = true) (he : PA X (e :: es) (tFs X.K me)) :
    PS X (.Expr (.Call (.Attribute (.Name nm p) mn ap) (e :: es) [] cp) pos) (tS X W (mutS m x me)) := by
  refine PSimp (ps_expr (pe_bm PySem.F.plainAttrs_list slot hty hm (pe_var (i := x) hN hv h1 h2) he rfl few hl (star_cons se) pl)) fun D σ H q => ?_
  obtain ⟨Gb, Hb, G, ρ, μ, xs, ds, μ1, a, vs, ys, rel, e1, q, f1, f2, f3, f4, qm, e2⟩ := mutS_inv q
  refine ⟨_, f1, .inl ⟨rfl, vs, .inl (.inl f3)⟩, G, ρ, μ, ds, μ1, rel.vw, e1, fun ws G1 H1 s1 so1 r1 => ?_⟩
  have h1 : H1 a = some (.lst vs) := by rw [(s1 _ _ f2).2 fun n z => by cases z]; exact f3
  refine ok qm so1 h1 (s1.reps f4) r1 fun vs' rs' => ?_
  obtain ⟨rel2, kp⟩ := (rel.step s1 so1).write q f1 rs'
  exact e2 σ G1 _ rel2 (s1.kp.trans kp)
theorem mutv_gen0 {id : String} {m : Mth} {mn : Str} {r : V → List V → Hp → VK → Prop} (slot : PySem.Slot "list" mn id) (hty : typeOf (.builtin id) = pure (.type "method_descriptor")) (hm : MtR X id r) (ok : MOk X.K m r) {x : Nat} {nm : Str} {p ap cp pos : Pos}
    (hN : X.N[x]? = some nm) (hv : Vis X.env.scope nm) (h1 : (nm == ("__debug__" : Str)) = false) (h2 : (nm == ("__classdict__" : Str)) = false) (hl : (ap.endLine == cp.line) = true) :
    PS X (.Expr (.Call (.Attribute (.Name nm p) mn ap) [] [] cp) pos) (tS X W (mutS m x fun _ => ret [])) := by
  refine PSimp (ps_expr (pe_bm0 PySem.F.plainAttrs_list slot hty hm (pe_var (i := x) hN hv h1 h2) rfl hl)) fun D σ H q => ?_
  obtain ⟨Gb, Hb, G, ρ, μ, xs, ds, μ1, a, vs, ys, rel, e1, q, f1, f2, f3, f4, qm, e2⟩ := mutS_inv q
  obtain ⟨rfl, rfl⟩ := ret_ok e1
  refine ⟨_, f1, .inl ⟨rfl, vs, .inl (.inl f3)⟩, ?_⟩
  refine ok qm rel.vw.st f3 f4 .nil fun vs' rs' => ?_
  obtain ⟨rel2, kp⟩ := rel.write q f1 rs'
  exact e2 σ G _ rel2 kp
theorem mutv_sx {m : Mth} (hm : m = .append ∨ m = .extend) {x : Nat} {nm : Str} {e : Expr} {p ap cp pos : Pos} {me : Env → M (List D)} (hN : X.N[x]? = some nm) (hv : Vis X.env.scope nm) (h1 : (nm == ("__debug__" : Str)) = false) (h2 : (nm == ("__classdict__" : Str)) = false)
    (se : PySem.W.isStarred e = false) (hl : (ap.endLine == cp.line) = true) (he : PA X [e] (tFs X.K me)) :
    PS X (.Expr (.Call (.Attribute (.Name nm p) m.nm ap) [e] [] cp) pos) (tS X W (mutS m x me)) := by
  have few : ((backTo cp (starEach [e] X.env)).all (fun x => !x.1) && (backToKw cp (keywordEach [] X.env)).all (fun x => x.1.isSome) && decide (([e] : List Expr).length + ([] : List Keyword).length + (if ([] : List Keyword).isEmpty then 0 else 1) < 30)) = true := by
    rw [star_cons se]
    rfl
  rcases hm with rfl | rfl
  · exact mutv_gen PySem.F.slot_list_append PySem.F.type_list_append mt_append mok_append hN hv h1 h2 se few rfl hl he
  · exact mutv_gen PySem.F.slot_list_extend PySem.F.type_list_extend mt_ext mok_extend hN hv h1 h2 se few rfl hl he
end
end Sx
set_option maxHeartbeats 4000000
/-! # Sx: the theorem of statements -/
namespace Sx
open PySem L2 PyProof.Rows
def isCompE : Expr → Bool
  | .ListComp .. => true | .SetComp .. => true | .DictComp .. => true | _ => false
def locS (S : Sco) (x : Str) : Bool := S.sc.names.lookup x == some .local
def ownHas (scope : Scope) (y : Str) : Bool := scope.names.any fun (n, k) => n == y && (k == .local || k == .cell)
def swB (S : Sco) (y : Str) (py : Pos) : Expr → Bool
  | .ListComp _ _ scope pos => locS S y && (py.line == pos.line) && !(ownHas scope y)
  | _ => false
def isStar : Expr → Bool
  | .Starred .. => true
  | _ => false
def swName (S : Sco) (line : Nat) : Expr → Option Str
  | .Name id pos => if S.sc.names.lookup id == some .local && pos.line == line then some id else none
  | _ => none
def swN (S : Sco) (ts vs : List Expr) : Option (Option (List Str)) :=
  if (!(ts.length == 2 || ts.length == 3) || vs.length != ts.length) = true then some none
  else if vs.any isStar = true then some none
  else if ((ts.filterMap (swName S ((ts.head?.map (·.pos.line)).getD 0))).length != ts.length || (ts.filterMap (swName S ((ts.head?.map (·.pos.line)).getD 0))).eraseDups.length != (ts.filterMap (swName S ((ts.head?.map (·.pos.line)).getD 0))).length) = true then some none
  else if vs.all (foldedForSure 8) = true then some none
  else if vs.all (constantsAlone 8) = true then none
  else some (some (ts.filterMap (swName S ((ts.head?.map (·.pos.line)).getD 0))))
def swNone (S : Sco) (ts : List Expr) : Expr → Bool
  | .Tuple vs _ _ => swN S ts vs == some none
  | _ => true
section
variable {S : Sco} {env : PySem.Env}
theorem blockF (hk : env.scope.kind = .function) : env.blockKind = .function := by unfold Env.blockKind; rw [hk]; rfl
def swName0 (env : PySem.Env) (line : Nat) : Expr → Option Str
  | .Name id pos => if (env.kindOf id == some .local && pos.line == line) = true then some id else none
  | _ => none
def swM (env : PySem.Env) (ts vs : List Expr) : Sem (Option (List Str)) :=
  if (!(ts.length == 2 || ts.length == 3) || vs.length != ts.length || env.blockKind != .function) = true then pure none
  else if vs.any isStar = true then pure none
  else if ((ts.filterMap (swName0 env ((ts.head?.map (·.pos.line)).getD 0))).length != ts.length || (ts.filterMap (swName0 env ((ts.head?.map (·.pos.line)).getD 0))).eraseDups.length != (ts.filterMap (swName0 env ((ts.head?.map (·.pos.line)).getD 0))).length) = true then pure none
  else if vs.all (foldedForSure 8) = true then pure none
  else if vs.all (constantsAlone 8) = true then (unsupported "assign.tuple-of-constant-expressions:order-of-the-stores" : Sem Unit) >>= fun _ => pure (some (ts.filterMap (swName0 env ((ts.head?.map (·.pos.line)).getD 0))))
  else pure (some (ts.filterMap (swName0 env ((ts.head?.map (·.pos.line)).getD 0))))
theorem swM_eq {ts vs : List Expr} {k k2 : Nat} {p p2 : Pos} : swappedStores [.Tuple ts k p] (.Tuple vs k2 p2) env = swM env ts vs := by
  have e1 : (fun x : Expr => isStar x) = isStar := rfl
  unfold swappedStores swM
  dsimp only
  split
  · rfl
  · show (if (vs.any isStar) = true then _ else _) = _
    split
    · rfl
    · rename_i h1 h2
      show (if (((ts.filterMap (swName0 env ((ts.head?.map (·.pos.line)).getD 0))).length != ts.length || (ts.filterMap (swName0 env ((ts.head?.map (·.pos.line)).getD 0))).eraseDups.length != (ts.filterMap (swName0 env ((ts.head?.map (·.pos.line)).getD 0))).length)) = true then _ else _) = _
      split
      · rfl
      · split
        · rfl
        · split
          · rfl
          · rfl
theorem swN_eq (hs : env.scope = S.sc) (hk : env.scope.kind = .function) {ts vs : List Expr} {k k2 : Nat} {p p2 : Pos} {r : Option (List Str)} (h : swN S ts vs = some r) :
    swappedStores [.Tuple ts k p] (.Tuple vs k2 p2) env = pure r := by
  have e1 : swName0 env ((ts.head?.map (·.pos.line)).getD 0) = swName S ((ts.head?.map (·.pos.line)).getD 0) := by
    funext x
    cases x <;> first | rfl | skip
    rename_i id pos
    show (if (env.scope.names.lookup id == some .local && pos.line == (ts.head?.map (·.pos.line)).getD 0) = true then some id else none) = swName S _ (.Name id pos)
    rw [hs]
    rfl
  rw [swM_eq]
  unfold swM
  rw [e1, blockF hk]
  unfold swN at h
  have z2 : (ScopeKind.function != ScopeKind.function) = false := rfl
  rw [z2, Bool.or_false]
  by_cases c1 : (!(ts.length == 2 || ts.length == 3) || vs.length != ts.length) = true
  · rw [if_pos c1] at h ⊢
    cases h
    rfl
  · rw [if_neg c1] at h ⊢
    by_cases c2 : vs.any isStar = true
    · rw [if_pos c2] at h ⊢
      cases h
      rfl
    · rw [if_neg c2] at h ⊢
      generalize ts.filterMap (swName S ((ts.head?.map (·.pos.line)).getD 0)) = names at *
      by_cases c3 : (names.length != ts.length || names.eraseDups.length != names.length) = true
      · rw [if_pos c3] at h ⊢
        cases h
        rfl
      · rw [if_neg c3] at h ⊢
        by_cases c4 : vs.all (foldedForSure 8) = true
        · rw [if_pos c4] at h ⊢
          cases h
          rfl
        · rw [if_neg c4] at h ⊢
          by_cases c5 : vs.all (constantsAlone 8) = true
          · rw [if_pos c5] at h; cases h
          · rw [if_neg c5] at h ⊢
            cases h
            rfl
theorem swNone_eq (hs : env.scope = S.sc) (hk : env.scope.kind = .function) {ts : List Expr} {v : Expr} {k : Nat} {p : Pos} (h : swNone S ts v = true) : swappedStores [.Tuple ts k p] v env = pure none := by
  cases v with
  | Tuple vs k2 p2 => exact swN_eq hs hk (by simpa [swNone] using h)
  | _ => rfl
theorem swF_eq (hs : env.scope = S.sc) (hk : env.scope.kind = .function) {y : Str} {py : Pos} {l : Nat} {v : Expr} (hc : isCompE v = true → ∃ a b c d, v = .ListComp a b c d) : swapsWith v (some (.Name y py)) l env = pure (swB S y py v) := by
  by_cases h : isCompE v = true
  · obtain ⟨a, b, sc, d, rfl⟩ := hc h
    unfold swapsWith
    simp only [blockF hk]
    unfold swB locS ownHas
    rw [← hs]
    rfl
  · cases v <;> first | rfl | exact absurd rfl h
theorem swT_eq {v : Expr} {ts : List Expr} {k : Nat} {p : Pos} {l : Nat} : swapsWithSole [.Tuple ts k p] v l env = pure false := by
  cases v <;> rfl
end
/-! a statement's parts -/
def vAsg1 : (s : Stmt) → Option { q : (Str × Pos) × Expr × Pos // s = .Assign [.Name q.1.1 q.1.2] q.2.1 q.2.2 }
  | .Assign [.Name y py] v pos => some ⟨((y, py), v, pos), rfl⟩
  | _ => none
def vAsg2 : (s : Stmt) → Option { q : (List Expr × Nat × Pos) × Expr × Pos // s = .Assign [.Tuple q.1.1 q.1.2.1 q.1.2.2] q.2.1 q.2.2 }
  | .Assign [.Tuple ts k p] v pos => some ⟨((ts, k, p), v, pos), rfl⟩
  | _ => none
def vPar : (s : Stmt) → Option { q : ((Str × Pos) × (Str × Pos) × Nat × Pos) × (Expr × Expr × Nat × Pos) × Pos // s = .Assign [.Tuple [.Name q.1.1.1 q.1.1.2, .Name q.1.2.1.1 q.1.2.1.2] q.1.2.2.1 q.1.2.2.2] (.Tuple [q.2.1.1, q.2.1.2.1] q.2.1.2.2.1 q.2.1.2.2.2) q.2.2 }
  | .Assign [.Tuple [.Name x px, .Name y py] kt pt] (.Tuple [u, v] k2 pt2) pos => some ⟨(((x, px), (y, py), kt, pt), (u, v, k2, pt2), pos), rfl⟩
  | _ => none
def vExp : (s : Stmt) → Option { q : Expr × Pos // s = .Expr q.1 q.2 }
  | .Expr v pos => some ⟨(v, pos), rfl⟩
  | _ => none
def vRet : (s : Stmt) → Option { q : Option Expr × Pos // s = .Return q.1 q.2 }
  | .Return v pos => some ⟨(v, pos), rfl⟩
  | _ => none
def vIf : (s : Stmt) → Option { q : Expr × List Stmt × List Stmt × Pos // s = .If q.1 q.2.1 q.2.2.1 q.2.2.2 }
  | .If t p r pos => some ⟨(t, p, r, pos), rfl⟩
  | _ => none
def vWhl : (s : Stmt) → Option { q : Expr × List Stmt × Pos // s = .While q.1 q.2.1 [] q.2.2 }
  | .While t p [] pos => some ⟨(t, p, pos), rfl⟩
  | _ => none
def vFor : (s : Stmt) → Option { q : Expr × Expr × List Stmt × Pos // s = .For q.1 q.2.1 q.2.2.1 [] q.2.2.2 }
  | .For t i p [] pos => some ⟨(t, i, p, pos), rfl⟩
  | _ => none
def vSub : (s : Stmt) → Option { q : (Expr × Expr × Pos) × Expr × Pos // s = .Assign [.Subscript q.1.1 q.1.2.1 q.1.2.2] q.2.1 q.2.2 }
  | .Assign [.Subscript o ix p2] v pos => some ⟨((o, ix, p2), v, pos), rfl⟩
  | _ => none
def vNm : (e : Expr) → Option { q : Str × Pos // e = .Name q.1 q.2 }
  | .Name x p => some ⟨(x, p), rfl⟩
  | _ => none
/-- x.m(es) -/
def vMut : (s : Stmt) → Option { q : (Str × Pos) × (Str × Pos) × List Expr × Pos × Pos // s = .Expr (.Call (.Attribute (.Name q.1.1 q.1.2) q.2.1.1 q.2.1.2) q.2.2.1 [] q.2.2.2.1) q.2.2.2.2 }
  | .Expr (.Call (.Attribute (.Name nm p) mm ap) es [] cp) pos => some ⟨((nm, p), (mm, ap), es, cp, pos), rfl⟩
  | _ => none
def vPas : (s : Stmt) → Option { q : Pos // s = .Pass q }
  | .Pass pos => some ⟨pos, rfl⟩
  | _ => none
def oneE : (es : List Expr) → Option { e : Expr // es = [e] }
  | [e] => some ⟨e, rfl⟩
  | _ => none
def oneT : (es : Tms) → Option { e : Tm // es = .cons e .nil }
  | .cons e .nil => some ⟨e, rfl⟩
  | _ => none
def isNonT : (t : Tm) → Option (PLift (t = .cst .non))
  | .cst .non => some ⟨rfl⟩
  | _ => none
def mOk1 : (m : Mth) → Option (PLift (m = .append ∨ m = .extend))
  | .append => some ⟨.inl rfl⟩
  | .extend => some ⟨.inr rfl⟩
  | _ => none
def tgNm : (t : Tg) → Option { i : Nat // t = .nm i }
  | .nm i => some ⟨i, rfl⟩
  | _ => none
def tgCons : (t : Tg) → Option { q : Tg × Tg // t = .cons q.1 q.2 }
  | .cons a b => some ⟨(a, b), rfl⟩
  | _ => none
mutual
def mtS (cf : Cfg) (N : List Str) (S : Sco) : Stm → Stmt → Bool
  | .asg _ tg e, s => (match tgNm tg, vAsg1 s with
    | some i, some q => mt cf N e false S q.1.2.1 && nmB N i.1 q.1.1.1 && locB S q.1.1.1
    | _, _ => false) || (match tgCons tg, vAsg2 s with
    | some t, some q => mt cf N e false S q.1.2.1 && mtG N S (.cons t.1.1 t.1.2) (.Tuple q.1.1.1 q.1.1.2.1 q.1.1.2.2) && swNone S q.1.1.1 q.1.2.1
    | _, _ => false)
  | .par _ i j a b, s => (match vPar s with
    | some q => nmB N i q.1.1.1.1 && nmB N j q.1.1.2.1.1 && !(i == j) && locS S q.1.1.1.1 && locS S q.1.1.2.1.1 && !PySem.W.isStarred q.1.2.1.1 && !PySem.W.isStarred q.1.2.1.2.1 && mt cf N a false S q.1.2.1.1 && mt cf N b false S q.1.2.1.2.1 &&
      (swN S [.Name q.1.1.1.1 q.1.1.1.2, .Name q.1.1.2.1.1 q.1.1.2.1.2] [q.1.2.1.1, q.1.2.1.2.1] == some (some [q.1.1.1.1, q.1.1.2.1.1]))
    | none => false)
  | .exp _ e, s => (match vExp s with
    | some q => !isCompE q.1.1 && mt cf N e false S q.1.1
    | none => false)
  | .ret _ e, s => (match vRet s with
    | some q => (match q.1.1 with
      | some v => mt cf N e false S v
      | none => (isNonT e).isSome)
    | none => false)
  | .ite _ c a b, s => (match vIf s with
    | some q => mt cf N c false S q.1.1 && tstB q.1.1 && mtB cf N S a q.1.2.1 && mtB cf N S b q.1.2.2.1
    | none => false)
  | .whl _ c b, s => (match vWhl s with
    | some q => mt cf N c false S q.1.1 && tstB q.1.1 && mtB cf N S b q.1.2.1
    | none => false)
  | .loop _ tg it b, s => (match vFor s with
    | some q => tgOk it q.1.1 && mtG N S tg q.1.1 && mt cf N it true S q.1.2.1 && notSet q.1.2.1 && mtB cf N S b q.1.2.2.1
    | none => false)
  | .setv _ x i e, s => (match vSub s with
    | some q => (match vNm q.1.1.1 with
      | some n => nmB N x n.1.1 && visB S n.1.1 && okN n.1.1 && notSlice q.1.1.2.1 && mt cf N e false S q.1.2.1 && mt cf N i false S q.1.1.2.1
      | none => false)
    | none => false)
  | .setc _ o i e, s => (match vSub s with
    | some q => notSlice q.1.1.2.1 && mt cf N e false S q.1.2.1 && mt cf N o false S q.1.1.1 && mt cf N i false S q.1.1.2.1
    | none => false)
  | .mutv _ m x es, s => (match vMut s, mOk1 m, oneT es with
    | some q, some _, some e => (match oneE q.1.2.2.1 with
      | some v => decide (q.1.2.1.1 = m.nm) && nmB N x q.1.1.1 && visB S q.1.1.1 && okN q.1.1.1 && !PySem.W.isStarred v.1 && (q.1.2.1.2.endLine == q.1.2.2.2.1.line) && mt cf N e.1 false S v.1
      | none => false)
    | _, _, _ => false)
  | .pas, s => (vPas s).isSome
  | .rai, _ => true
def mtB (cf : Cfg) (N : List Str) (S : Sco) : Blk → List Stmt → Bool
  | .nil, ss => ss.isEmpty
  | .cons s b, ss => (match ss with
    | t :: ts => mtS cf N S s t && mtB cf N S b ts
    | [] => false)
end
structure FitS (cf : Cfg) (C : Nat → List D → M RV) (N : List Str) (S : Sco) (X : Cx) : Prop extends Fit cf C N S X where
  kind : X.env.scope.kind = .function
  own : PassesOwn (model X.prog X.w) X.A X.env X.xe
  fnall : S.fn = fun _ => true
theorem comp_only {cf : Cfg} {N : List Str} {t : Tm} {w : Bool} {S : Sco} {e : Expr} (h : mt cf N t w S e = true) (hc : isCompE e = true) : ∃ a b c d, e = .ListComp a b c d := by
  cases e with
  | ListComp a b c d => exact ⟨a, b, c, d, rfl⟩
  | SetComp _ _ _ _ => cases t <;> cases w <;> simp [mt, newB] at h
  | DictComp _ _ _ _ _ => cases t <;> cases w <;> simp [mt, newB] at h
  | _ => cases hc
section
variable {cf : Cfg} {C : Nat → List D → M RV} {N : List Str} {S : Sco} {X : Cx} {W : WX}
/-- an assignment of a comprehension to a name -/
theorem setLc_sx0 (F : FitS cf C N S X) {i : Nat} {y : Str} {py spos : Pos} {t : Tm} {v : Expr} (hnc : ∀ u, t ≠ .newc u) (h : mt cf N t false S v = true) (hi : X.N[i]? = some y) (hsw : swB S y py v = true) :
    PS X (.Assign [.Name y py] v spos) (tAsg (tE X.K (ev C t)) (gName i)) := by
  have hcv : isCompE v = true := by
    cases v <;> first | rfl | (simp [swB] at hsw)
  obtain ⟨elt, gs, scope, pos, rfl⟩ := comp_only h hcv
  cases t <;> try (first | (exact absurd rfl (hnc _)) | (simp [mt] at h; done))
  rename_i el tg it cs ws
  obtain ⟨elt', tgE, iter, ifs, a, scope', pos', e0⟩ := comp_inv h
  cases e0
  simp only [mt, Bool.and_eq_true, decide_eq_true_eq] at h
  obtain ⟨⟨⟨⟨⟨⟨⟨⟨⟨⟨rfl, h1⟩, h2⟩, h3⟩, h4⟩, h5⟩, h6⟩, h7⟩, h8⟩, h9⟩, h10⟩ := h
  have ow : (ownOf N ws).map (·.2) = ws := by simp [ownOf, Function.comp_def]
  have hN : X.N.Nodup := by rw [F.nN]; exact F.nd
  have sub : ∀ i ∈ tg.slots, i ∈ (ownOf N ws).map (·.2) := by
    rw [ow]
    intro i hi
    have := List.all_eq_true.mp h3 i hi
    simpa using this
  have gi := (mt_sx it true S _ X F.toFit h5).2 rfl tgE h10
  have hl : X.env.scope.names.lookup y = some .local := by
    rw [F.sc]
    simp only [swB, Bool.and_eq_true, locS, beq_iff_eq] at hsw
    exact hsw.1.1
  have q := ps_setLc (spos := spos) (py := py) (own := ownOf N ws) (g := gT X.K tg) (tt := tT X.K (evA C cs)) (te := tF X.K fun ρ => bnd (ev C el ρ) fun r => ret r.d) F.calm hN hi hl (by rw [swF_eq F.sc F.kind (fun _ => ⟨_, _, _, _, rfl⟩), hsw]) gi (by rw [F.nN, F.sc]; exact blkOk_by h2)
      (fun s H L cl fp => pg_sx (S := blkS S scope) (F.toFit.blk s H L cl fp).nN F.nd F.calm (F.toFit.blk s H L cl fp).sc (F.toFit.blk s H L cl fp).fn h4)
      (fun s H L cl fp => (mts_sx cs _ _ _ (F.toFit.blk s H L cl fp) h6).pts h7 h8)
      (fun s H L cl fp => pd_frz (mt_sx el false _ _ _ (F.toFit.blk s H L cl fp) h9).pd) (foldedNo h1)
  refine PSimp q fun D σ H z => comp_imp (me := fun ρ => bnd (ev C el ρ) fun r => ret r.d) sub ?_
  have e1 : ev C (.comp el tg it cs ws) = fun ρ => bnd (bnd (ev C it ρ) itemsOf) fun p => bnd (compH p.2 (turnC tg ((ownOf N ws).map (·.2)) (evA C cs) (fun ρ => bnd (ev C el ρ) fun r => ret r.d) ρ) p.1) fun ys => ret (.own ys) := by
    rw [ow]
    funext ρ
    simp only [ev]
    rfl
  rw [e1] at z
  exact z
theorem setLc_sx (F : FitS cf C N S X) {i : Nat} {y : Str} {py spos : Pos} {v : Expr} : ∀ {t : Tm}, mt cf N t false S v = true → X.N[i]? = some y → swB S y py v = true → PS X (.Assign [.Name y py] v spos) (tAsg (tE X.K (ev C t)) (gName i))
  | .newc t, h, hi, hsw => by
    simp only [mt, Bool.and_eq_true] at h
    have e1 : ev C (.newc t) = fun ρ => bnd (ev C t ρ) newC := by funext ρ; simp only [ev]
    refine PSimp (setLc_sx F h.2 hi hsw) fun D σ H z => ?_
    rw [e1] at z
    exact newc_tE z
  | .var _, h, hi, hsw | .cst _, h, hi, hsw | .glo _ _, h, hi, hsw | .tup _, h, hi, hsw | .lst _, h, hi, hsw | .cel _, h, hi, hsw | .dic0, h, hi, hsw | .op _ _ _, h, hi, hsw | .cmp _ _ _, h, hi, hsw | .chn _ _ _ _ _, h, hi, hsw
  | .not _, h, hi, hsw | .neg _, h, hi, hsw | .con _, h, hi, hsw | .dis _, h, hi, hsw | .ife _ _ _, h, hi, hsw | .idx _ _, h, hi, hsw | .slc _ _ _, h, hi, hsw | .mis, h, hi, hsw | .call _ _, h, hi, hsw | .blt _ _, h, hi, hsw | .isi _ _, h, hi, hsw
  | .rng1 _, h, hi, hsw | .rng2 _ _, h, hi, hsw | .zip _ _, h, hi, hsw | .enum _, h, hi, hsw | .revd _, h, hi, hsw | .comp _ _ _ _ _, h, hi, hsw => setLc_sx0 F (fun u => by nofun) h hi hsw
theorem frz_lt {fz : List Nat} {ρ : Env} {i : Nat} : (i < ρ.length) = (i < (frz fz ρ).length) := by rw [frz_len]
theorem rvOf_not {t : Tm} {m : M RV} {ρ : Env} (h : ∀ i, t ≠ .var i) : rvOf t m ρ = m := by
  cases t <;> first | rfl | exact absurd rfl (h _)
theorem lenS (F : FitS cf C N S X) {t : Tm} {e : Expr} (hm : mt cf N t false S e = true) : PE X e (tL X.K fun ρ => opv t (ev C t ρ) ρ) := len_sx' F.toFit hm (mt_sx t false S _ X F.toFit hm).pd
/-- each form of statement -/
theorem T_asg1 (F : FitS cf C N S X) {fz : List Nat} {i : Nat} {e : Tm} {y : Str} {py pos : Pos} {v : Expr} (h1 : mt cf N e false S v = true) (h2 : nmB N i y = true) (h3 : locB S y = true) : PS X (.Assign [.Name y py] v pos) (tS X W (exS C (.asg fz (.nm i) e))) := by
  have hi := nm_eq F.toFit h2
  have hx : L2.Loc X.env.scope y := by
    unfold L2.Loc
    rw [F.sc]
    simp only [locB, Bool.or_eq_true, Bool.and_eq_true, beq_iff_eq] at h3
    exact h3.imp id And.left
  have hN : X.N.Nodup := by rw [F.nN]; exact F.nd
  have q : PS X (.Assign [.Name y py] v pos) (tAsg (tE X.K (ev C e)) (gName i)) := by
    by_cases hsw : swB S y py v = true
    · exact setLc_sx F h1 hi hsw
    · have hsw' : swB S y py v = false := by simpa using hsw
      exact ps_set hN hi hx (mt_sx e false S _ X F.toFit h1).pd (by rw [swF_eq F.sc F.kind (comp_only h1), hsw']) (.inl (F.fn y (by rw [F.fnall])))
  refine PSimp (asg_name (te := tE X.K (ev C e)) (W := W) q) fun D σ H z => tS_frz (fz := fz) ?_
  have e1 : exS C (.asg fz (.nm i) e) = fun ρ μ => lift (ev C e (frz fz ρ)) (frz fz ρ) μ fun r μ' => if i < (frz fz ρ).length then .nx ((frz fz ρ).set i (some r)) μ' else .bad := by
    funext ρ μ
    simp only [exS, frz_len]
  rw [e1] at z
  exact z
theorem T_asg2 (F : FitS cf C N S X) {fz : List Nat} {a b : Tg} {e : Tm} {ts : List Expr} {k : Nat} {p pos : Pos} {v : Expr} (h1 : mt cf N e false S v = true) (h2 : mtG N S (.cons a b) (.Tuple ts k p) = true) (h3 : swNone S ts v = true) :
    PS X (.Assign [.Tuple ts k p] v pos) (tS X W (exS C (.asg fz (.cons a b) e))) := by
  have q : PS X (.Assign [.Tuple ts k p] v pos) (tAsg (tF X.K fun ρ => bnd (ev C e ρ) fun r => ret r.d) (gT X.K (.cons a b))) :=
    ps_asg (pd_frz (mt_sx e false S _ X F.toFit h1).pd) (pg_sx F.nN F.nd F.calm F.sc F.fn h2) swT_eq (swNone_eq F.sc F.kind h3)
  refine PSimp (asg_tg (W := W) q) fun D σ H z => tS_frz (fz := fz) ?_
  have e1 : exS C (.asg fz (.cons a b) e) = fun ρ μ => lift (ev C e (frz fz ρ)) (frz fz ρ) μ fun r μ' => match bindT (.cons a b) r.d (frz fz ρ) with | some ρ' => .nx ρ' μ' | none => .bad := by
    funext ρ μ
    simp only [exS]
    try rfl
  rw [e1] at z
  exact z
theorem T_par (F : FitS cf C N S X) {fz : List Nat} {i j : Nat} {a b : Tm} {x y : Str} {px py pt pt2 pos : Pos} {kt k2 : Nat} {u v : Expr} (hi : nmB N i x = true) (hj : nmB N j y = true) (hij : (i == j) = false) (hx : locS S x = true) (hy : locS S y = true)
    (su : PySem.W.isStarred u = false) (sv : PySem.W.isStarred v = false) (ha : mt cf N a false S u = true) (hb : mt cf N b false S v = true) (hw : (swN S [.Name x px, .Name y py] [u, v] == some (some [x, y])) = true) :
    PS X (.Assign [.Tuple [.Name x px, .Name y py] kt pt] (.Tuple [u, v] k2 pt2) pos) (tS X W (exS C (.par fz i j a b))) := by
  have lk : ∀ {x}, locS S x = true → X.env.scope.names.lookup x = some .local := fun {x} h => by
    rw [F.sc]
    simpa [locS] using h
  refine PSimp (par_sx (W := W) F.calm (by rw [F.nN]; exact F.nd) (nm_eq F.toFit hi) (nm_eq F.toFit hj) (by simpa using hij) (lk hx) (lk hy) su sv (mt_sx a false S _ X F.toFit ha).pd (mt_sx b false S _ X F.toFit hb).pd (swN_eq F.sc F.kind (by simpa using hw))) fun D σ H z => tS_frz (fz := fz) ?_
  have e1 : exS C (.par fz i j a b) = fun ρ μ => lift (ev C a (frz fz ρ)) (frz fz ρ) μ fun r μ' => lift (ev C b (frz fz ρ)) (frz fz ρ) μ' fun r' μ'' =>
      if i < (frz fz ρ).length ∧ j < (frz fz ρ).length then .nx (((frz fz ρ).set i (some (.fr r.d))).set j (some (.fr r'.d))) μ'' else .bad := by
    funext ρ μ
    simp only [exS, frz_len]
  rw [e1] at z
  exact z
theorem T_exp (F : FitS cf C N S X) {fz : List Nat} {e : Tm} {v : Expr} {pos : Pos} (hc : isCompE v = false) (h : mt cf N e false S v = true) : PS X (.Expr v pos) (tS X W (exS C (.exp fz e))) := by
  refine PSimp (exp_sx (W := W) (mt_sx e false S _ X F.toFit h).pd (by cases v <;> first | rfl | cases hc)) fun D σ H z => tS_frz (fz := fz) ?_
  have e1 : exS C (.exp fz e) = fun ρ μ => lift (ev C e (frz fz ρ)) (frz fz ρ) μ fun _ μ' => .nx (frz fz ρ) μ' := by
    funext ρ μ
    simp only [exS]
  rw [e1] at z
  exact z
theorem T_ret (F : FitS cf C N S X) {fz : List Nat} {e : Tm} {v : Expr} {pos : Pos} (h : mt cf N e false S v = true) : PS X (.Return (some v) pos) (tS X W (exS C (.ret fz e))) := by
  have e1 : exS C (.ret fz e) = fun ρ μ => lift (rvOf e (ev C e (frz fz ρ)) (frz fz ρ)) (frz fz ρ) μ fun r μ' => .rt r μ' := by
    funext ρ μ
    simp only [exS]
  by_cases hv : ∃ i, e = .var i
  · obtain ⟨i, rfl⟩ := hv
    cases v <;> simp [mt] at h
    refine PSimp (ret_name (W := W) (m := ev C (.var i)) (nm_eq F.toFit h.1.1) (F.vis h.1.2) (okN_ne h.2).1 (okN_ne h.2).2) fun D σ H z => tS_frz (fz := fz) ?_
    rw [e1] at z
    exact z
  · refine PSimp (ret_sx (W := W) (mt_sx e false S _ X F.toFit h).pd) fun D σ H z => tS_frz (fz := fz) ?_
    rw [e1] at z
    have e2 : ∀ (m : Env → M RV), (fun ρ μ => lift (rvOf e (m (frz fz ρ)) (frz fz ρ)) (frz fz ρ) μ fun r μ' => RS.rt r μ') = fun ρ μ => lift (m (frz fz ρ)) (frz fz ρ) μ fun r μ' => RS.rt r μ' := fun m => by
      funext ρ μ
      rw [rvOf_not fun i q => hv ⟨i, q⟩]
    rw [e2] at z
    exact z
theorem T_retN {fz : List Nat} {pos : Pos} : PS X (.Return none pos) (tS X W (exS C (.ret fz (.cst .non)))) := PSimp ps_retN fun D σ H z => by
  obtain ⟨Gb, Hb, G, ρ, μ, r, e⟩ := tS_frz (fz := []) (m := exS C (.ret fz (.cst .non))) (show tS X W (fun ρ μ => exS C (.ret fz (.cst .non)) (frz [] ρ) μ) D σ H from z)
  simp only [exS, rvOf, ev, lift, ret] at e
  exact e .non G H r.base r.vw.st (.fr .non)
theorem T_ite (F : FitS cf C N S X) {fz : List Nat} {c : Tm} {a b : Blk} {t : Expr} {p q : List Stmt} {pos : Pos} (hc : mt cf N c false S t = true) (ht : tstB t = true) (ha : PSs X p (tS X W (exB C a))) (hb : PSs X q (tS X W (exB C b))) :
    PS X (.If t p q pos) (tS X W (exS C (.ite fz c a b))) := by
  refine PSimp (ite_sx (W := W) (((mt_sx c false S _ X F.toFit hc).1 rfl).2 ht) ha hb) fun D σ H z => tS_frz (fz := fz) ?_
  have e1 : exS C (.ite fz c a b) = fun ρ μ => lift (bnd (ev C c (frz fz ρ)) fun r => asBool r.d) (frz fz ρ) μ fun k μ' => if k = true then exB C a (frz fz ρ) μ' else exB C b (frz fz ρ) μ' := by
    funext ρ μ
    simp only [exS]
  rw [e1] at z
  exact z
theorem T_whl (F : FitS cf C N S X) {fz : List Nat} {c : Tm} {b : Blk} {t : Expr} {p : List Stmt} {pos : Pos} (hc : mt cf N c false S t = true) (ht : tstB t = true) (hb : PSs X p (tS X W (exB C b))) :
    PS X (.While t p [] pos) (tS X W (exS C (.whl fz c b))) := by
  refine PSimp (whl_sx (W := W) F.own (((mt_sx c false S _ X F.toFit hc).1 rfl).2 ht) hb) fun D σ H z => tS_frz (fz := fz) ?_
  have e1 : exS C (.whl fz c b) = fun ρ μ => whileR (turnW (ev C c) (exB C b)) (frz fz ρ) μ := by
    funext ρ μ
    simp only [exS]
  rw [e1] at z
  exact z
theorem T_loop (F : FitS cf C N S X) {fz : List Nat} {tg : Tg} {it : Tm} {b : Blk} {t i : Expr} {p : List Stmt} {pos : Pos} (ht : tgOk it t = true) (hg : mtG N S tg t = true) (hi : mt cf N it true S i = true) (hs : notSet i = true) (hb : PSs X p (tS X W (exB C b))) :
    PS X (.For t i p [] pos) (tS X W (exS C (.loop fz tg it b))) := by
  refine PSimp (loop_sx (W := W) F.own F.calm ((mt_sx it true S _ X F.toFit hi).2 rfl t ht) (pg_sx F.nN F.nd F.calm F.sc F.fn hg) hb (foldedNo hs)) fun D σ H z => tS_frz (fz := fz) ?_
  have e1 : exS C (.loop fz tg it b) = fun ρ μ => lift (bnd (ev C it (frz fz ρ)) itemsOf) (frz fz ρ) μ fun p μ' => forH p.2 (turnF tg (exB C b)) p.1 (frz fz ρ) μ' := by
    funext ρ μ
    simp only [exS]
  rw [e1] at z
  exact z
theorem T_setv (F : FitS cf C N S X) {fz : List Nat} {x : Nat} {i e : Tm} {nm : Str} {ix v : Expr} {p p2 pos : Pos} (h1 : nmB N x nm = true) (h2 : visB S nm = true) (h3 : okN nm = true) (h4 : notSlice ix = true) (h5 : mt cf N e false S v = true) (h6 : mt cf N i false S ix = true) :
    PS X (.Assign [.Subscript (.Name nm p) ix p2] v pos) (tS X W (exS C (.setv fz x i e))) := by
  refine PSimp (setv_sx (W := W) (nm_eq F.toFit h1) (F.vis h2) (okN_ne h3).1 (okN_ne h3).2 h4 (pd_frz (mt_sx e false S _ X F.toFit h5).pd) (lenS F h6)) fun D σ H z => tS_frz (fz := fz) ?_
  have e1 : exS C (.setv fz x i e) = fun ρ μ => lift (bnd (ev C e (frz fz ρ)) fun r => ret r.d) (frz fz ρ) μ fun d μ' => lift (bnd (opv i (ev C i (frz fz ρ)) (frz fz ρ)) asInt) (frz fz ρ) μ' fun k μ'' =>
      match (frz fz ρ)[x]? with
      | some (some (.own xs)) => match ixN xs.length k with
        | some j => .nx ((frz fz ρ).set x (some (.own (xs.set j d)))) μ''
        | none => .bad
      | _ => .bad := by
    funext ρ μ
    simp only [exS]
    try rfl
  rw [e1] at z
  exact z
theorem T_setc (F : FitS cf C N S X) {fz : List Nat} {o i e : Tm} {ox ix v : Expr} {p2 pos : Pos} (h4 : notSlice ix = true) (h5 : mt cf N e false S v = true) (h6 : mt cf N o false S ox = true) (h7 : mt cf N i false S ix = true) :
    PS X (.Assign [.Subscript ox ix p2] v pos) (tS X W (exS C (.setc fz o i e))) := by
  refine PSimp (setc_sx (W := W) h4 (pd_frz (mt_sx e false S _ X F.toFit h5).pd) (lenS F h6) (lenS F h7)) fun D σ H z => tS_frz (fz := fz) ?_
  have e1 : exS C (.setc fz o i e) = fun ρ μ => lift (bnd (ev C e (frz fz ρ)) fun r => ret r.d) (frz fz ρ) μ fun d μ' => lift (opv o (ev C o (frz fz ρ)) (frz fz ρ)) (frz fz ρ) μ' fun c μ1 =>
      lift (bnd (opv i (ev C i (frz fz ρ)) (frz fz ρ)) asInt) (frz fz ρ) μ1 fun k μ'' => match c with
      | .cell n => match μ''[n]? with
        | some (.lst xs) => match ixN xs.length k with
          | some j => .nx (frz fz ρ) (setN μ'' n (.lst (xs.set j d)))
          | none => .bad
        | _ => .bad
      | _ => .bad := by
    funext ρ μ
    simp only [exS]
    try rfl
  rw [e1] at z
  exact z
theorem T_mutv (F : FitS cf C N S X) {fz : List Nat} {m : Mth} {x : Nat} {e : Tm} {nm : Str} {v : Expr} {p ap cp pos : Pos} (hm : m = .append ∨ m = .extend) (h1 : nmB N x nm = true) (h2 : visB S nm = true) (h3 : okN nm = true) (h4 : PySem.W.isStarred v = false) (h5 : (ap.endLine == cp.line) = true) (h6 : mt cf N e false S v = true) :
    PS X (.Expr (.Call (.Attribute (.Name nm p) m.nm ap) [v] [] cp) pos) (tS X W (exS C (.mutv fz m x (.cons e .nil)))) := by
  have g : PA X [v] (tFs X.K fun ρ => evs C (.cons e .nil) ρ) := (mts_sx (.cons e .nil) S [v] X F.toFit (by simp only [mts, h4, h6]; rfl)).pa
  refine PSimp (mutv_sx (W := W) hm (nm_eq F.toFit h1) (F.vis h2) (okN_ne h3).1 (okN_ne h3).2 h4 h5 g) fun D σ H z => tS_frz (fz := fz) ?_
  have e1 : exS C (.mutv fz m x (.cons e .nil)) = fun ρ μ => mutS m x (fun ρ => evs C (.cons e .nil) ρ) (frz fz ρ) μ := by
    funext ρ μ
    simp only [exS]
    try rfl
  rw [e1] at z
  exact z
theorem exB_nil : exB C .nil = fun ρ μ => .nx ρ μ := by
  funext ρ μ
  simp only [exB]
theorem exB_cons {s : Stm} {b : Blk} : exB C (.cons s b) = fun ρ μ => match exS C s ρ μ with | .nx ρ' μ' => exB C b ρ' μ' | r => r := by
  funext ρ μ
  simp only [exB]
  try rfl
section
variable {fz : List Nat} {s : Stmt}
theorem cg2 {α β γ : Type} (f : α → β → γ) {a a' : α} {b b' : β} (h : a = a') (h' : b = b') : f a b = f a' b' := by rw [h, h']
theorem I_asg {tg : Tg} {e : Tm} (h : mtS cf N S (.asg fz tg e) s = true) : (∃ i y py v pos, tg = .nm i ∧ s = .Assign [.Name y py] v pos ∧ mt cf N e false S v = true ∧ nmB N i y = true ∧ locB S y = true) ∨
    ∃ a b ts k p v pos, tg = .cons a b ∧ s = .Assign [.Tuple ts k p] v pos ∧ mt cf N e false S v = true ∧ mtG N S (.cons a b) (.Tuple ts k p) = true ∧ swNone S ts v = true := by
  simp only [mtS] at h
  rcases Bool.or_eq_true_iff.mp h with h | h
  · split at h
    · rename_i i q _ _
      simp only [Bool.and_eq_true] at h
      exact .inl ⟨_, _, _, _, _, i.2, q.2, h.1.1, h.1.2, h.2⟩
    · cases h
  · split at h
    · rename_i t q _ _
      simp only [Bool.and_eq_true] at h
      exact .inr ⟨_, _, _, _, _, _, _, t.2, q.2, h.1.1, h.1.2, h.2⟩
    · cases h
theorem I_par {i j : Nat} {a b : Tm} (h : mtS cf N S (.par fz i j a b) s = true) : ∃ x px y py kt pt u v k2 pt2 pos, s = .Assign [.Tuple [.Name x px, .Name y py] kt pt] (.Tuple [u, v] k2 pt2) pos ∧ nmB N i x = true ∧ nmB N j y = true ∧ (i == j) = false ∧ locS S x = true ∧ locS S y = true ∧
    PySem.W.isStarred u = false ∧ PySem.W.isStarred v = false ∧ mt cf N a false S u = true ∧ mt cf N b false S v = true ∧ (swN S [.Name x px, .Name y py] [u, v] == some (some [x, y])) = true := by
  simp only [mtS] at h
  split at h
  · rename_i q _
    simp only [Bool.and_eq_true, Bool.not_eq_true'] at h
    obtain ⟨⟨⟨⟨⟨⟨⟨⟨⟨h1, h2⟩, h3⟩, h4⟩, h5⟩, h6⟩, h7⟩, h8⟩, h9⟩, h10⟩ := h
    exact ⟨_, _, _, _, _, _, _, _, _, _, _, q.2, h1, h2, h3, h4, h5, h6, h7, h8, h9, h10⟩
  · cases h
theorem I_exp {e : Tm} (h : mtS cf N S (.exp fz e) s = true) : ∃ v pos, s = .Expr v pos ∧ isCompE v = false ∧ mt cf N e false S v = true := by
  simp only [mtS] at h
  split at h
  · rename_i q _
    simp only [Bool.and_eq_true, Bool.not_eq_true'] at h
    exact ⟨_, _, q.2, h⟩
  · cases h
theorem I_ret {e : Tm} (h : mtS cf N S (.ret fz e) s = true) : (∃ v pos, s = .Return (some v) pos ∧ mt cf N e false S v = true) ∨ ∃ pos, s = .Return none pos ∧ e = .cst .non := by
  simp only [mtS] at h
  split at h
  · rename_i q _
    split at h
    · rename_i v ev
      exact .inl ⟨v, _, by rw [q.2, ev], h⟩
    · rename_i ev
      obtain ⟨z, _⟩ := Option.isSome_iff_exists.mp h
      exact .inr ⟨_, by rw [q.2, ev], z.down⟩
  · cases h
theorem I_ite {c : Tm} {a b : Blk} (h : mtS cf N S (.ite fz c a b) s = true) : ∃ t p q pos, s = .If t p q pos ∧ mt cf N c false S t = true ∧ tstB t = true ∧ mtB cf N S a p = true ∧ mtB cf N S b q = true := by
  simp only [mtS] at h
  split at h
  · rename_i q _
    simp only [Bool.and_eq_true] at h
    exact ⟨_, _, _, _, q.2, h.1.1.1, h.1.1.2, h.1.2, h.2⟩
  · cases h
theorem I_whl {c : Tm} {b : Blk} (h : mtS cf N S (.whl fz c b) s = true) : ∃ t p pos, s = .While t p [] pos ∧ mt cf N c false S t = true ∧ tstB t = true ∧ mtB cf N S b p = true := by
  simp only [mtS] at h
  split at h
  · rename_i q _
    simp only [Bool.and_eq_true] at h
    exact ⟨_, _, _, q.2, h.1.1, h.1.2, h.2⟩
  · cases h
theorem I_loop {tg : Tg} {it : Tm} {b : Blk} (h : mtS cf N S (.loop fz tg it b) s = true) : ∃ t i p pos, s = .For t i p [] pos ∧ tgOk it t = true ∧ mtG N S tg t = true ∧ mt cf N it true S i = true ∧ notSet i = true ∧ mtB cf N S b p = true := by
  simp only [mtS] at h
  split at h
  · rename_i q _
    simp only [Bool.and_eq_true] at h
    exact ⟨_, _, _, _, q.2, h.1.1.1.1, h.1.1.1.2, h.1.1.2, h.1.2, h.2⟩
  · cases h
theorem I_setv {x : Nat} {i e : Tm} (h : mtS cf N S (.setv fz x i e) s = true) : ∃ nm p ix p2 v pos, s = .Assign [.Subscript (.Name nm p) ix p2] v pos ∧ nmB N x nm = true ∧ visB S nm = true ∧ okN nm = true ∧ notSlice ix = true ∧ mt cf N e false S v = true ∧ mt cf N i false S ix = true := by
  simp only [mtS] at h
  split at h
  · rename_i q _
    split at h
    · rename_i n _
      simp only [Bool.and_eq_true] at h
      obtain ⟨⟨⟨⟨⟨h1, h2⟩, h3⟩, h4⟩, h5⟩, h6⟩ := h
      exact ⟨n.1.1, n.1.2, q.1.1.2.1, q.1.1.2.2, q.1.2.1, q.1.2.2, q.2.trans (congrArg (fun o => Stmt.Assign [.Subscript o q.1.1.2.1 q.1.1.2.2] q.1.2.1 q.1.2.2) n.2), h1, h2, h3, h4, h5, h6⟩
    · cases h
  · cases h
theorem I_setc {o i e : Tm} (h : mtS cf N S (.setc fz o i e) s = true) : ∃ ox ix p2 v pos, s = .Assign [.Subscript ox ix p2] v pos ∧ notSlice ix = true ∧ mt cf N e false S v = true ∧ mt cf N o false S ox = true ∧ mt cf N i false S ix = true := by
  simp only [mtS] at h
  split at h
  · rename_i q _
    simp only [Bool.and_eq_true] at h
    exact ⟨_, _, _, _, _, q.2, h.1.1.1, h.1.1.2, h.1.2, h.2⟩
  · cases h
theorem I_mutv {m : Mth} {x : Nat} {es : Tms} (h : mtS cf N S (.mutv fz m x es) s = true) : ∃ e nm p ap v cp pos, es = .cons e .nil ∧ s = .Expr (.Call (.Attribute (.Name nm p) m.nm ap) [v] [] cp) pos ∧ (m = .append ∨ m = .extend) ∧ nmB N x nm = true ∧ visB S nm = true ∧ okN nm = true ∧ PySem.W.isStarred v = false ∧
    (ap.endLine == cp.line) = true ∧ mt cf N e false S v = true := by
  simp only [mtS] at h
  split at h
  · rename_i q z e _ _ _
    split at h
    · rename_i v _
      simp only [Bool.and_eq_true, Bool.not_eq_true', decide_eq_true_eq] at h
      obtain ⟨⟨⟨⟨⟨⟨h0, h1⟩, h2⟩, h3⟩, h4⟩, h5⟩, h6⟩ := h
      exact ⟨e.1, q.1.1.1, q.1.1.2, q.1.2.1.2, v.1, q.1.2.2.2.1, q.1.2.2.2.2, e.2, q.2.trans (cg2 (fun mm es => Stmt.Expr (.Call (.Attribute (.Name q.1.1.1 q.1.1.2) mm q.1.2.1.2) es [] q.1.2.2.2.1) q.1.2.2.2.2) h0 v.2), z.down, h1, h2, h3, h4, h5, h6⟩
    · cases h
  · cases h
theorem I_pas (h : mtS cf N S .pas s = true) : ∃ pos, s = .Pass pos := by
  simp only [mtS] at h
  obtain ⟨z, _⟩ := Option.isSome_iff_exists.mp h
  exact ⟨_, z.2⟩
theorem T_pas {pos : Pos} : PS X (.Pass pos) (tS X W (exS C .pas)) := by
  refine PSimp (pas_sx (W := W)) fun D σ H z => ?_
  have e1 : exS C .pas = fun ρ μ => .nx ρ μ := by
    funext ρ μ
    simp only [exS]
  rw [e1] at z
  exact z
theorem T_rai : PS X s (tS X W (exS C .rai)) := by
  refine PSimp (never_sx (W := W)) fun D σ H z => ?_
  have e1 : exS C .rai = fun _ _ => .bad := by
    funext ρ μ
    simp only [exS]
  rw [e1] at z
  exact z
theorem IB_nil {ss : List Stmt} (h : mtB cf N S .nil ss = true) : ss = [] := by
  simp only [mtB] at h
  simpa using h
theorem IB_cons {st : Stm} {b : Blk} {ss : List Stmt} (h : mtB cf N S (.cons st b) ss = true) : ∃ t ts, ss = t :: ts ∧ mtS cf N S st t = true ∧ mtB cf N S b ts = true := by
  simp only [mtB] at h
  split at h
  · rename_i t ts
    exact ⟨t, ts, rfl, Bool.and_eq_true_iff.mp h⟩
  · cases h
end
mutual
theorem mtS_sx (F : FitS cf C N S X) : ∀ (st : Stm) (s : Stmt), mtS cf N S st s = true → PS X s (tS X W (exS C st))
  | .asg fz tg e, s, h => by
    rcases I_asg h with ⟨i, _, _, _, _, rfl, rfl, h1, h2, h3⟩ | ⟨a, b, _, _, _, _, _, rfl, rfl, h1, h2, h3⟩
    · exact T_asg1 F h1 h2 h3
    · exact T_asg2 F h1 h2 h3
  | .par fz i j a b, s, h => by
    obtain ⟨_, _, _, _, _, _, _, _, _, _, _, rfl, h1, h2, h3, h4, h5, h6, h7, h8, h9, h10⟩ := I_par h
    exact T_par F h1 h2 h3 h4 h5 h6 h7 h8 h9 h10
  | .exp fz e, s, h => by
    obtain ⟨_, _, rfl, h1, h2⟩ := I_exp h
    exact T_exp F h1 h2
  | .ret fz e, s, h => by
    rcases I_ret h with ⟨_, _, rfl, h1⟩ | ⟨_, rfl, rfl⟩
    · exact T_ret F h1
    · exact T_retN
  | .ite fz c a b, s, h => by
    obtain ⟨_, p, q, _, rfl, h1, h2, h3, h4⟩ := I_ite h
    exact T_ite F h1 h2 (mtB_sx F a p h3) (mtB_sx F b q h4)
  | .whl fz c b, s, h => by
    obtain ⟨_, p, _, rfl, h1, h2, h3⟩ := I_whl h
    exact T_whl F h1 h2 (mtB_sx F b p h3)
  | .loop fz tg it b, s, h => by
    obtain ⟨_, _, p, _, rfl, h0, h1, h2, h3, h4⟩ := I_loop h
    exact T_loop F h0 h1 h2 h3 (mtB_sx F b p h4)
  | .setv fz x i e, s, h => by
    obtain ⟨_, _, _, _, _, _, rfl, h1, h2, h3, h4, h5, h6⟩ := I_setv h
    exact T_setv F h1 h2 h3 h4 h5 h6
  | .setc fz o i e, s, h => by
    obtain ⟨_, _, _, _, _, rfl, h1, h2, h3, h4⟩ := I_setc h
    exact T_setc F h1 h2 h3 h4
  | .mutv fz m x es, s, h => by
    obtain ⟨_, _, _, _, _, _, _, rfl, rfl, h0, h1, h2, h3, h4, h5, h6⟩ := I_mutv h
    exact T_mutv F h0 h1 h2 h3 h4 h5 h6
  | .pas, s, h => by
    obtain ⟨_, rfl⟩ := I_pas h
    exact T_pas
  | .rai, s, h => T_rai
theorem mtB_sx (F : FitS cf C N S X) : ∀ (b : Blk) (ss : List Stmt), mtB cf N S b ss = true → PSs X ss (tS X W (exB C b))
  | .nil, ss, h => by
    obtain rfl := IB_nil h
    rw [exB_nil]
    exact nil_sx
  | .cons s b, ss, h => by
    obtain ⟨t, ts, rfl, h1, h2⟩ := IB_cons h
    rw [exB_cons]
    exact cons_sx (mtS_sx F s t h1) (mtB_sx F b ts h2)
end
end
end Sx
set_option maxHeartbeats 4000000
/-! # Sx: the program's defs -/
namespace Sx
open PySem L2 PyProof.Rows
/-! ## how arguments come to parameters -/
theorem look_zip : ∀ {ps : List Str} {us : List Value}, ps.Nodup → us.length = ps.length → (ps.filterMap fun n => ((ps.zip us).lookup n).map (n, ·)) = ps.zip us := by
  have aux : ∀ (ps : List Str) (us : List Value) (qs : List (Str × Value)), ps.Nodup → us.length = ps.length → (∀ p ∈ ps, ∀ v, (p, v) ∉ qs) → (ps.filterMap fun n => ((qs ++ ps.zip us).lookup n).map (n, ·)) = ps.zip us := by
    intro ps
    induction ps with
    | nil => intro us qs _ h _; cases us <;> rfl
    | cons p ps ih =>
      intro us qs nd hl hq
      cases us with
      | nil => simp at hl
      | cons u us =>
        have nq : ∀ (l : List (Str × Value)) x, (∀ v, (x, v) ∉ l) → l.lookup x = none := by
          intro l x
          induction l with
          | nil => intro _; rfl
          | cons y l ihl =>
            intro hx
            obtain ⟨y1, y2⟩ := y
            have : (x == y1) = false := by
              cases e : (x == y1) with
              | false => rfl
              | true => exact absurd (List.mem_cons_self) (by rw [beq_iff_eq.mp e] at hx; exact hx y2)
            rw [List.lookup_cons, this]
            exact ihl fun v hv => hx v (List.mem_cons_of_mem _ hv)
        have e0 : (qs ++ (p :: ps).zip (u :: us)) = (qs ++ [(p, u)]) ++ ps.zip us := by simp
        have e1 : (qs ++ (p :: ps).zip (u :: us)).lookup p = some u := by
          have := nq qs p (hq p List.mem_cons_self)
          rw [List.zip_cons_cons, List.lookup_append, this]
          simp
        rw [List.filterMap_cons]
        simp only [e1, Option.map_some]
        rw [e0, ih us (qs ++ [(p, u)]) (List.nodup_cons.mp nd).2 (by simpa using hl), List.zip_cons_cons]
        intro x hx v hv
        rcases List.mem_append.mp hv with hv | hv
        · exact hq x (List.mem_cons_of_mem _ hx) v hv
        · have := List.mem_singleton.mp hv
          cases this
          exact (List.nodup_cons.mp nd).1 hx
  intro ps us nd hl
  have := aux ps us [] nd hl (fun _ _ _ h => by cases h)
  simpa using this
def plainPar (p : Arguments) : Bool := p.posonlyargs.isEmpty && p.vararg.isNone && p.kwonlyargs.isEmpty && p.kwarg.isNone
theorem bind_gen {fd : FuncData} (h : plainPar fd.params = true) (hd : fd.defaults = .none) (nd : (fd.params.args.map (·.arg)).Nodup) (us : List Value) (hl : us.length = (fd.params.args.map (·.arg)).length) :
    bindArgs fd ⟨us, []⟩ = pure ((fd.params.args.map (·.arg)).zip us) := by
  obtain ⟨n1, n2, pr, n4, n5, n6, n7, df, n9, n10, n11, n12, n13, n14, n15⟩ := fd
  obtain ⟨po, as, va, ko, kd, ka, de⟩ := pr
  simp only [plainPar, Bool.and_eq_true, List.isEmpty_iff, Option.isNone_iff_eq_none] at h
  obtain ⟨⟨⟨rfl, rfl⟩, rfl⟩, rfl⟩ := h
  have hd' : df = .none := hd
  subst hd'
  have hl' : us.length = as.length := by simpa using hl
  have lz := look_zip nd hl
  have e0 : seqItems? Value.none = (pure none : Sem (Option (Array Value))) := rfl
  have e1 : (as.map (·.arg)).filter (fun n => (((as.map (·.arg)).zip us).lookup n).isNone) = [] := by
    rw [List.filter_eq_nil_iff]
    intro n hn
    obtain ⟨i, hi, rfl⟩ := List.getElem_of_mem hn
    have : ∃ v, ((as.map (·.arg))[i], v) ∈ (as.map (·.arg)).zip us := ⟨us[i]'(by rw [hl']; simpa using hi), by
      rw [List.mem_iff_getElem]
      exact ⟨i, by simp [hl']; simpa using hi, by simp⟩⟩
    obtain ⟨v, hv⟩ := this
    cases q : ((as.map (·.arg)).zip us).lookup (as.map (·.arg))[i] with
    | some _ => simp
    | none => exact absurd hv (by rw [List.lookup_eq_none_iff] at q; intro hz; have := q _ hz; simp at this)
  unfold bindArgs
  simp only [e0, List.nil_append, List.append_nil, List.map_nil, Option.isNone_none, List.forIn_nil, pure_bind, Option.getD_none, List.length_map, List.drop_nil, List.length_nil, Nat.sub_zero, Nat.zero_sub, List.take_length, e1, hl', List.zip_nil_right, List.isEmpty_nil]
  have t : List.take as.length (as.map (·.arg)) = as.map (·.arg) := List.take_of_length_le (by simp)
  rw [t, e1]
  rw [if_neg (by simp), if_neg (by simp), if_neg (by simp)]
  exact congrArg pure lz
/-! ## what a def promises -/
structure Def where
  num : Nat
  name : Str
  qual : Str
  params : Arguments
  body : List Stmt
  scope : Scope
  N : List Str
  fn : Fn
def Def.ps (d : Def) : List Str := d.params.args.map (·.arg)
def scopeB (N ps : List Str) (sc : Scope) : Bool := (match sc.kind with | .function => true | _ => false) && !sc.isCoroutine && !sc.isGenerator && decide N.Nodup && decide (N.take ps.length = ps) &&
  (ps.all fun x => sc.names.lookup x == some .local || sc.names.lookup x == some .cell) && sc.names.all fun y => match y.2 with | .free => false | _ => true
theorem scope_ok {N ps : List Str} {sc : Scope} (h : scopeB N ps sc = true) : FnScope N ps sc := by
  unfold scopeB at h
  simp only [Bool.and_eq_true, Bool.not_eq_true', decide_eq_true_eq, List.all_eq_true, Bool.or_eq_true, beq_iff_eq] at h
  obtain ⟨⟨⟨⟨⟨⟨h1, h2⟩, h3⟩, h4⟩, h5⟩, h6⟩, h7⟩ := h
  refine ⟨?_, h2, h3, h4, h5, fun x hx => h6 x hx, fun y hy z => ?_⟩
  · split at h1
    · assumption
    · cases h1
  · have := h7 y hy
    rw [z] at this
    cases this
/-- what is to be looked at of a def: its scope, and its core body against its text -/
def Def.ok (cf : Cfg) (d : Def) : Bool := scopeB d.N d.ps d.scope && plainPar d.params && (d.fn.np == d.ps.length) && (d.fn.ns == d.N.length) && mtB cf d.N ⟨d.scope, fun _ => true⟩ d.fn.body d.body
section
variable {P : Program} {w : World} {K : PySem.W.Frag} {mg : Str → Option Value} {base : Heap}
/-- a call of a def of the text, by its body, where Go holds -/
theorem fnG_of {CX : CXT} {k : Nat} {f : Addr} {fd : FuncData} {d : Def} {sp : Sp} (F : FunD K d.name d.qual d.params d.body d.scope [] [] f fd) (S : FnScope d.N d.ps d.scope)
    (go : ∀ (cdv : Value) (A : Around) (outer : List PySem.Env) (s : Shared) (H : Hp) (vs : List V) (Q : VK) (E : XK), Go (k + 1) A → vs.length = d.ps.length → sp vs H Q E →
      ∃ t, PSs (cxOf CX P w K mg base d.N d.qual d.scope f cdv A outer s H E) d.body t ∧ t { nx := fun _ H' => Q .non H', rt := Q } (start d.N vs) H) :
    FnG P w K mg base CX (k + 1) f fd d.ps.length d.ps sp := by
  obtain ⟨oc, od, dV, kV, doc, pm, an, cdv, ct, osl, efd, lk, hcd, _, _⟩ := F.ex
  subst efd
  refine ⟨rfl, fun A outer s H args us vs Q E g e0 hb r hn hsp => ?_⟩
  have kin := e0.mod.kin.keeps fun b o e => (e0.bs b o e).1
  have nolim := e0.mod.nolimit.keeps fun b o e => (e0.bs b o e).1
  have kinds : ∀ y ∈ d.ps.zip us, d.scope.names.lookup y.1 = some .local ∨ (d.scope.names.lookup y.1 = some .cell ∧ ((PySem.cellsFrom (s.heap.objs.size + 1) d.scope.names []).lookup y.1).isSome = true) := by
    rintro ⟨x, v⟩ hy
    exact (S.par x (List.of_mem_zip hy).1).imp id fun q => ⟨q, PySem.W.cellsFrom_some _ _ _ (.inl q)⟩
  have enter := fun (R : Result → Shared → Prop) h => codeAny_call_function (prog := P) (w := w) (A := A) (R := R) g.room.depth (kin _ _ lk) rfl S.co S.gen rfl (PySem.W.codeRec_of kin hcd) (hb _ _ _ _ h)
  apply enter
  apply wpAny_newFunctionEnv_cells S.kind kinds
  intro env ee s1 inn
  subst ee
  refine ⟨nolim.keeps inn.toInCall.keep, codeAny_func ?_⟩
  obtain ⟨t, run, start⟩ := go cdv A outer s H vs Q E g hn hsp
  have I0 := inv_start (CX := CX) (P := P) (w := w) (K := K) (mg := mg) (base := base) (qual := d.qual) (f := f) (cd := cdv) (E := E) S g.room.hd e0 hn r inn
  refine wpAny_mono (run.run [] s1 _ H _ I0 start) ?_ fun e s' z => z
  rintro (_ | _ | _ | u) s' hs
  · obtain ⟨σ', H', J, q⟩ := hs
    exact ⟨V.non, H', J.os, J.bare, J.base, J.hok, rfl, q⟩
  · exact hs.choose_spec.choose_spec.2.elim
  · exact hs.choose_spec.choose_spec.2.elim
  · obtain ⟨v, σ', H', J, rv, q⟩ := hs
    exact ⟨v, H', J.os, J.bare, J.base, J.hok, rv, q⟩
end
end Sx
namespace Sx
open PySem L2 PyProof.Rows
/-! ## the table of defs -/
def fnOf (ds : List Def) : Nat → Str → Bool := fun i x => ds.any fun d => d.num == i && decide (d.name = x)
def cfgOf (gl : List (Str × D)) (bl : List Str) (ds : List Def) : Cfg := ⟨gl, fnOf ds, bl⟩
theorem fnOf_some {ds : List Def} {i : Nat} {x : Str} (h : fnOf ds i x = true) : ∃ d, d ∈ ds ∧ d.num = i ∧ d.name = x := by
  obtain ⟨d, e, h⟩ := List.any_eq_true.mp h
  simp only [Bool.and_eq_true, beq_iff_eq, decide_eq_true_eq] at h
  exact ⟨d, e, h.1, h.2⟩
/-- what the program's top has left -/
structure Stand (K : PySem.W.Frag) (mg : Str → Option Value) (cf : Cfg) (ds : List Def) : Prop where
  gl : ∀ p ∈ cf.gl, ∃ v u, mg p.1 = some u ∧ RelV v u ∧ ∀ G H, Rep K G H v p.2
  bl : ∀ x ∈ cf.bl, mg x = none
  fn : ∀ d, d ∈ ds → ∃ f fd, mg d.name = some (.ref f) ∧ FunD K d.name d.qual d.params d.body d.scope [] [] f fd
section
variable {P : Program} {w : World} {K : PySem.W.Frag} {mg : Str → Option Value} {base : Heap}
theorem def_binds {d : Def} {cf : Cfg} {f : Addr} {fd : FuncData} (F : FunD K d.name d.qual d.params d.body d.scope [] [] f fd) (ok : d.ok cf = true) : Binds K fd d.ps [] := by
  unfold Def.ok at ok
  simp only [Bool.and_eq_true] at ok
  refine F.bindsN fun kV doc pm an cdv ct us hl => ?_
  have S := scope_ok ok.1.1.1.1
  have nd : d.ps.Nodup := by rw [← S.pre]; exact S.nd.sublist (List.take_sublist _ _)
  exact bind_gen (fd := PySem.W.fnOf d.name d.qual d.params d.body d.scope .none kV doc pm an cdv ct) ok.1.1.1.2 rfl nd us hl
theorem startE_rep {G : Gh} {H : Hp} {vs : List V} {xs : List D} (r : Reps K G H vs xs) {N : List Str} {c : Fn} (hc : c.ns = N.length) : EnvRep K G H (startE c xs) (L2.start N vs) := by
  have hl := r.len
  refine ⟨?_, fun i q e => ?_⟩
  · unfold L2.start startE
    rw [List.length_append, List.length_append, List.length_map, List.length_map, List.length_replicate, List.length_replicate, hl, hc]
  · unfold startE at e
    by_cases hi : i < xs.length
    · rw [List.getElem?_append_left (by simpa using hi), List.getElem?_map] at e
      cases q1 : xs[i]? with
      | none => rw [q1] at e; cases e
      | some x =>
        rw [q1] at e
        cases e
        obtain ⟨v, e1, e2⟩ := r.get q1
        refine ⟨v, ?_, .fr e2⟩
        unfold L2.start
        rw [List.getElem?_append_left (by rw [List.length_map, hl]; exact hi), List.getElem?_map, e1]
        rfl
    · rw [List.getElem?_append_right (by simp; omega), List.getElem?_replicate] at e
      split at e <;> cases e
theorem startE_noown {c : Fn} {xs : List D} {i : Nat} {ys : List D} (h : (startE c xs)[i]? = some (some (.own ys))) : False := by
  unfold startE at h
  by_cases hi : i < xs.length
  · rw [List.getElem?_append_left (by simpa using hi), List.getElem?_map] at h
    cases q1 : xs[i]? with
    | none => rw [q1] at h; cases h
    | some x => rw [q1] at h; cases h
  · rw [List.getElem?_append_right (by simp; omega), List.getElem?_replicate] at h
    split at h <;> cases h
/-- the body of a def -/
theorem body_ok {T : Nat → Option Fn} {cf : Cfg} {ds : List Def} {k : Nat} (St : Stand K mg cf ds) (hcf : cf.fn = fnOf ds) (hT : ∀ d ∈ ds, T d.num = some d.fn)
    (calls : ∀ d, d ∈ ds → ∀ f fd, mg d.name = some (.ref f) → FunD K d.name d.qual d.params d.body d.scope [] [] f fd → FnG P w K mg base (L2.CX P w) k f fd d.ps.length d.ps (spD K mg (callD T k d.num)))
    (oks : ∀ d ∈ ds, d.ok cf = true) {d : Def} (hd : d.ok cf = true) {f : Addr} {cdv : Value} {A : Around} {outer : List PySem.Env} {s : Shared} {H : Hp} {E : XK} (g : Go (k + 1) A) :
    FitS cf (callD T k) d.N ⟨d.scope, fun _ => true⟩ (cxOf (L2.CX P w) P w K mg base d.N d.qual d.scope f cdv A outer s H E) where
  nN := rfl
  nd := by
    unfold Def.ok at hd
    simp only [Bool.and_eq_true] at hd
    exact (scope_ok hd.1.1.1.1).nd
  calm := rfl
  sc := rfl
  fn := fun _ _ => rfl
  gl := St.gl
  bl := St.bl
  go := ⟨k, g.deeper _⟩
  call := fun i x e => by
    rw [hcf] at e
    obtain ⟨d', e1, rfl, rfl⟩ := fnOf_some e
    obtain ⟨f', fd', m1, F'⟩ := St.fn d' e1
    refine ⟨k, f', fd', d'.ps.length, d'.ps, calls d' e1 f' fd' m1 F', fun xs μ r μ' h => ?_, g.deeper _, m1, F'.kp, def_binds F' (oks d' e1)⟩
    have ok' := oks d' e1
    unfold Def.ok at ok'
    simp only [Bool.and_eq_true, beq_iff_eq] at ok'
    cases k with
    | zero => simp [callD, bad] at h
    | succ k =>
      simp only [callD, hT d' e1] at h
      split at h
      · rename_i hl
        rw [hl, ok'.1.1.2]
      · cases h
  kind := by
    unfold Def.ok at hd
    simp only [Bool.and_eq_true] at hd
    exact (scope_ok hd.1.1.1.1).kind
  own := passes_of (K := fun e s'' => L2.CX P w outer H s E e s'') rfl
  fnall := rfl
theorem table_ok {T : Nat → Option Fn} {cf : Cfg} {ds : List Def} (St : Stand K mg cf ds) (hcf : cf.fn = fnOf ds) (hT : ∀ d ∈ ds, T d.num = some d.fn) (oks : ∀ d ∈ ds, d.ok cf = true) : ∀ (k : Nat) d, d ∈ ds → ∀ f fd, mg d.name = some (.ref f) →
    FunD K d.name d.qual d.params d.body d.scope [] [] f fd → FnG P w K mg base (L2.CX P w) k f fd d.ps.length d.ps (spD K mg (callD T k d.num))
  | 0, d, e, f, fd, m, F => ⟨rfl, fun A outer s H args us vs Q E g e0 hb r hn ⟨G, μ, xs, so, rs, q⟩ => by
    simp only [callD, bad, ResOk] at q⟩
  | k + 1, d, e, f, fd, m, F => by
    have hd := oks d e
    have hd' := hd
    unfold Def.ok at hd'
    simp only [Bool.and_eq_true, beq_iff_eq] at hd'
    refine fnG_of F (scope_ok hd'.1.1.1.1) fun cdv A outer s H vs Q E g hn ⟨G, μ, xs, so, rs, q⟩ => ?_
    have Ft := body_ok (P := P) (w := w) (base := base) (f := f) (cdv := cdv) (outer := outer) (s := s) (H := H) (E := E) St hcf hT (table_ok St hcf hT oks k) oks hd g
    refine ⟨_, mtB_sx (W := fun c d _ H => E c d H) Ft d.fn.body d.body hd'.2, G, H, G, startE d.fn xs, μ, ⟨.refl, ⟨so, startE_rep rs hd'.1.2⟩, fun i ys a z => (startE_noown z).elim, fun i j ys zs a z => (startE_noown z).elim⟩, ?_⟩
    simp only [callD, hT d e] at q
    rw [if_pos (by rw [← rs.len, hn, hd'.1.1.2])] at q
    cases q1 : exB (callD T k) d.fn.body (startE d.fn xs) μ with
    | nx ρ' μ' =>
      rw [q1] at q
      exact fun σ' G' H' r' k' => q .non G' H' r'.base r'.vw.st (.fr .non)
    | rt rv μ' =>
      rw [q1] at q
      exact fun v G' H' s' so' n => q v G' H' s' so' n
    | ex x ρ' μ' =>
      rw [q1] at q
      exact fun c dd σ' G' H' xr r' k' => q c dd G' H' r'.base r'.vw.st xr
    | bad =>
      rw [q1] at q
      exact q.elim
end
end Sx
set_option maxHeartbeats 4000000
/-! # Sx: the law's end -/
namespace Sx
open PySem L2 PyProof.Rows
/-! ## the part of the heap that the top has left, without lists -/
def isListO (o : Obj) : Bool := match o.cls with
  | .type c => c == "list"
  | _ => false
def frL (K : PySem.W.Frag) : PySem.W.Frag := K.filter fun q => !isListO q.2
theorem mem_of_look {a : Addr} {o : Obj} : ∀ {l : List (Addr × Obj)}, l.lookup a = some o → (a, o) ∈ l
  | [], h => by cases h
  | (b, u) :: l, h => by
    rw [List.lookup_cons] at h
    cases e : (a == b) with
    | true =>
      rw [e] at h
      cases h
      rw [beq_iff_eq.mp e]
      exact List.mem_cons_self
    | false =>
      rw [e] at h
      exact List.mem_cons_of_mem _ (mem_of_look h)
theorem frG_mem' {g : Addr → Option Obj} {as : List Addr} {a : Addr} {o : Obj} (h : (a, o) ∈ He.frG g as) : g a = some o := by
  unfold He.frG at h
  obtain ⟨b, _, e⟩ := List.mem_filterMap.mp h
  obtain ⟨u, e1, e2⟩ := Option.map_eq_some_iff.mp e
  cases e2
  exact e1
theorem frL_at {g : Addr → Option Obj} {as : List Addr} {a : Addr} {o : Obj} (h : (frL (He.frG g as)).lookup a = some o) : g a = some o ∧ isListO o = false := by
  have m := mem_of_look h
  obtain ⟨m1, m2⟩ := List.mem_filter.mp m
  exact ⟨frG_mem' m1, by simpa using m2⟩
/-! ## facts -/
mutual
def relD (K : PySem.W.Frag) : Value → D → Bool
  | .none, .non => true
  | .bool b, .bl c => b == c
  | .int i _, .int j => decide (i = j)
  | .str x _, .str y => decide (x = y)
  | .ref a, .tup ds => (match K.lookup a with
    | some ⟨.type c, _, .seq its _, _⟩ => decide (c = "tuple") && (decide (its.size ≤ sizeLine) && relDs K its.toList ds)
    | _ => false)
  | _, _ => false
def relDs (K : PySem.W.Frag) : List Value → List D → Bool
  | [], [] => true
  | u :: us, d :: ds => relD K u d && relDs K us ds
  | _, _ => false
end
mutual
theorem relD_ok {K : PySem.W.Frag} : ∀ (d : D) (u : Value), relD K u d = true → ∃ v, RelV v u ∧ ∀ G H, Rep K G H v d
  | .non, u, h => by
    cases u <;> simp [relD] at h
    exact ⟨.non, rfl, fun _ _ => .non⟩
  | .bl b, u, h => by
    cases u <;> simp [relD] at h
    subst h
    exact ⟨.bl _, rfl, fun _ _ => .bl _⟩
  | .int i, u, h => by
    cases u <;> simp [relD] at h
    subst h
    exact ⟨.int _, ⟨_, rfl⟩, fun _ _ => .int _⟩
  | .str x, u, h => by
    cases u <;> simp [relD] at h
    subst h
    exact ⟨.str _, ⟨_, rfl⟩, fun _ _ => .str _⟩
  | .tup ds, u, h => by
    cases u <;> simp only [relD, Bool.false_eq_true] at h
    rename_i a
    split at h
    · rename_i c od its n sl lk
      simp only [Bool.and_eq_true, decide_eq_true_eq] at h
      obtain ⟨rfl, h1, h2⟩ := h
      obtain ⟨vs, r1, r2⟩ := relDs_ok ds its.toList h2
      exact ⟨.ref a, rfl, fun G H => .tup (.inr ⟨_, its, n, lk, rfl, rfl, h1, r1⟩) (r2 G H)⟩
    · cases h
  | .lst _, u, h => by cases u <;> simp [relD] at h
  | .dic _, u, h => by cases u <;> simp [relD] at h
  | .cell _, u, h => by cases u <;> simp [relD] at h
  | .exc _ _, u, h => by cases u <;> simp [relD] at h
theorem relDs_ok {K : PySem.W.Frag} : ∀ (ds : List D) (us : List Value), relDs K us ds = true → ∃ vs, Vals vs us ∧ ∀ G H, Reps K G H vs ds
  | [], [], _ => ⟨[], .nil, fun _ _ => .nil⟩
  | [], _ :: _, h => by simp [relDs] at h
  | _ :: _, [], h => by simp [relDs] at h
  | d :: ds, u :: us, h => by
    simp only [relDs, Bool.and_eq_true] at h
    obtain ⟨v, r1, r2⟩ := relD_ok d u h.1
    obtain ⟨vs, r3, r4⟩ := relDs_ok ds us h.2
    exact ⟨v :: vs, .cons r1 r3, fun G H => .cons (r2 G H) (r4 G H)⟩
end
def gloOk (K : PySem.W.Frag) (p : Str × D) : Bool := match PySem.W.nsIn K mainGlobals p.1 with
  | some (some u) => relD K u p.2
  | _ => false
def Def.dd (d : Def) : He.DefD := ⟨(d.name, none), d.name, d.qual, d.params, d.body, d.scope, [], []⟩
def factsB (cf : Cfg) (ds : List Def) (K : PySem.W.Frag) : Bool := cf.gl.all (gloOk K) && cf.bl.all (fun x => (He.Fa.free x).ok K) && ds.all (fun d => (He.Fa.glo d.name).ok K && d.dd.ok K)
abbrev AlS : Type := Bool × List He.FnW
def obsS (cf : Cfg) (ds : List Def) (K : PySem.W.Frag) : AlS := (factsB cf ds K, ds.map fun d => He.fnW K d.dd.at_)
def valS (ds : List Def) : AlS := (true, ds.map fun d => d.dd.val)
theorem stand_of {K : PySem.W.Frag} {h : Heap} {mg : Str → Option Value} {cf : Cfg} {ds : List Def} (X : K.In h) (G : h.Ns mainGlobals mg) (e : obsS cf ds K = valS ds) : Stand K mg cf ds := by
  have e1 : factsB cf ds K = true := congrArg (fun z : AlS => z.1) e
  have e2 : (ds.map fun d => He.fnW K d.dd.at_) = ds.map fun d => d.dd.val := congrArg (fun z : AlS => z.2) e
  unfold factsB at e1
  simp only [Bool.and_eq_true] at e1
  obtain ⟨⟨h1, h2⟩, h3⟩ := e1
  refine ⟨fun p hp => ?_, fun x hx => He.free_ok X G (List.all_eq_true.mp h2 x hx), fun d hd0 => ?_⟩
  · have q := List.all_eq_true.mp h1 p hp
    unfold gloOk at q
    split at q
    · rename_i u e
      obtain ⟨v, r1, r2⟩ := relD_ok _ _ q
      exact ⟨v, u, PySem.W.mg_of X G e, r1, r2⟩
    · cases q
  · obtain ⟨i, hd⟩ := List.getElem?_of_mem hd0
    have q := Bool.and_eq_true_iff.mp (List.all_eq_true.mp h3 d hd0)
    have e3 : (ds.map fun d => He.fnW K d.dd.at_)[i]? = (ds.map fun d => d.dd.val)[i]? := by rw [e2]
    rw [List.getElem?_map, List.getElem?_map, hd] at e3
    obtain ⟨fd, F⟩ := He.DefD.funD (Option.some.inj e3) q.2
    exact ⟨_, fd, He.glo_ok X G q.1, F⟩
def obsSG (n : Nat) (cf : Cfg) (ds : List Def) (g : Addr → Option Obj) : AlS := obsS cf ds (frL (He.frG g (He.asD g n)))
structure SaysS (cf : Cfg) (ds : List Def) (h : Heap) (K : PySem.W.Frag) : Prop where
  in_ : K.In h
  nolist : ∀ a o, K.lookup a = some o → isListO o = false
  eq : obsS cf ds K = valS ds
def hookS (n : Nat) (cf : Cfg) (ds : List Def) : PySem.W.Hook where
  α := AlS
  obs := fun s => obsSG n cf ds s.heap.get?
  val := fun _ => valS ds
  says := fun _ h => ∃ K, SaysS cf ds h K
  of := fun _ _ e => ⟨_, fun _ _ q => (frL_at q).1, fun _ _ q => (frL_at q).2, e⟩
  keeps := fun _ _ _ ⟨K, c⟩ k => ⟨K, PySem.W.Frag.In.keeps c.in_ k, c.nolist, c.eq⟩
theorem obsSG_eq {n : Nat} {cf : Cfg} {ds : List Def} {g : Addr → Option Obj} {s : Shared} (h : ∀ a, g a = s.heap.get? a) : obsSG n cf ds g = (hookS n cf ds).obs s := by
  have e : g = s.heap.get? := funext h
  rw [e]
  rfl
/-! ## the law's call -/
theorem go_caller {k : Nat} (h : callerA.depth + 3 * k + 5 < recursionLimit) (h2 : callerA.units + 16 * k + 200 < cLine) : Go k callerA := ⟨⟨rfl, h, h2⟩, rfl⟩
theorem sx_law {l : PySem.W.OpenLaw} {n : Nat} {q : Program} {loose : List Str} {XP : (Str → Option Value) → Heap → Prop} {cf : Cfg} {ds : List Def} {T : Nat → Option Fn} {m : Nat} {d : DefRec} {k : Nat} {dl : Def} (hn : l.most = some n) (hn2 : n ≤ sizeLine) (hdf : d.params.defaults = [])
    (hcf : cf.fn = fnOf ds) (hT : ∀ d ∈ ds, T d.num = some d.fn) (oks : ds.all (Def.ok cf) = true) (hL : dl ∈ ds) (hname : dl.name = d.name) (h1 : dl.ps.length = 1) (g : Go k callerA)
    (mean : ∀ ns : List Int, ns.length ≤ n → ∃ μ', callD T k dl.num [.lst (ns.map D.int)] [] = .ok (.fr (.bl true)) μ') :
    PySem.W.WalkO q loose XP (fun w h => (hookS m cf ds).says w h) l.row.toRowW d [] (fun f vs => PySem.call f vs) := by
  refine Att.attach_call hn hdf fun w s₀ s₁ mg mb fa o pm cd doc a vs ns Gr Y ho hd hcd hmg hobj hints hlen hg => ?_
  obtain ⟨K, c⟩ := Y
  have St := stand_of c.in_ Gr.T.g c.eq
  obtain ⟨f, fd, m1, F⟩ := St.fn dl hL
  have ef : f = fa := by
    rw [hname, hmg] at m1
    cases m1; rfl
  subst ef
  have rv : Vals (ns.map V.int) vs := vals_ints hints
  have lv := hints.length
  have ha : K.lookup a = none := by
    cases e : K.lookup a with
    | none => rfl
    | some u =>
      have e1 := c.in_ a u e
      rw [hobj] at e1
      cases e1
      have := c.nolist a _ e
      simp [isListO] at this
  let Hl : Hp := fun b => if b = a then some (.frz { cls := .type "list", data := .seq vs.toArray } (.lst (ns.map V.int))) else none
  let Gl' : Gh := fun b => if b = a then some .frz else none
  have Hla : Hl a = some (.frz { cls := .type "list", data := .seq vs.toArray } (.lst (ns.map V.int))) := if_pos rfl
  have Hln : ∀ b, b ≠ a → Hl b = none := fun b hb => if_neg hb
  have hok : HOk l.prog w Hl s₁.heap := fun b u z => by
    by_cases hb : b = a
    · subst hb
      rw [Hla] at z
      cases z
      exact ⟨hobj, by rw [List.length_map]; exact Nat.le_trans hlen hn2, vs, _, rv, hobj⟩
    · rw [Hln b hb] at z; cases z
  have so : StOk K Gl' Hl [] := by
    refine ⟨fun b t e => ?_, fun n c e => by simp at e, fun b b' n e1 e2 => ?_, fun b n e => ?_⟩
    · by_cases hb : b = a
      · subst hb; rw [Hla]; exact fun z => by cases z
      · have e' : (if b = a then some Tag.frz else none) = some t := e
        rw [if_neg hb] at e'; cases e'
    · have e' : (if b = a then some Tag.frz else none) = some (.cel n) := e1
      split at e' <;> cases e'
    · have e' : (if b = a then some Tag.frz else none) = some (.cel n) := e
      split at e' <;> cases e'
  have repI : ∀ xs : List Int, Reps K Gl' Hl (xs.map V.int) (xs.map D.int) := fun xs => by
    induction xs with
    | nil => exact .nil
    | cons x xs ih => exact .cons (.int x) ih
  have rp : Reps K Gl' Hl [.ref a] [.lst (ns.map D.int)] := .cons (.lst ⟨if_pos rfl, .inr ⟨_, Hla⟩⟩ (repI ns)) .nil
  have noH : ∀ {b : Addr} {ob : Obj} {es : Array DictEntry} {ep : Nat}, s₁.heap.get? b = some ob → ob.data = .dict es ep → Hl b = none := fun {b ob es ep} e de => by
    by_cases hb : b = a
    · subst hb
      rw [hobj] at e
      cases e
      have d' : Data.seq vs.toArray _ = Data.dict es ep := de
      cases d'
    · exact Hln b hb
  have hid : ∀ {b : Addr} {mp : Str → Option Value}, s₁.heap.Ns b mp → (hidT s₁.heap Hl).Ns b mp := fun {b mp} ⟨ob, es, ep, e, de, r⟩ => ⟨ob, es, ep, hidT_get e (noH e de), de, r⟩
  have kin : K.In (hidT s₁.heap Hl) := fun b ob e => hidT_get (c.in_ b ob e) (by
    by_cases hb : b = a
    · subst hb; rw [ha] at e; cases e
    · exact Hln b hb)
  have md : Mod K mg (hidT s₁.heap Hl) := ⟨kin, hid Gr.T.g, ⟨mb, hid Gr.T.b, Gr.T.builtins⟩, let ⟨mc, q1, q2⟩ := Gr.T.nolimit; ⟨mc, hid q1, q2⟩⟩
  have e0 : Env0 l.prog w K mg (hidT s₁.heap Hl) callerA [] s₁ Hl := ⟨rfl, md, fun b ob e => of_hidT e, Nat.le_of_eq (hidT_size _ _), trivial, fun b hb => (by cases hb), hok, .of_eq hg⟩
  obtain ⟨μ', em⟩ := mean ns hlen
  have T := table_ok (P := l.prog) (w := w) (base := hidT s₁.heap Hl) St hcf hT (List.all_eq_true.mp oks) k dl hL f fd m1 F
  have bnd := def_binds F (List.all_eq_true.mp oks dl hL)
  have bn := bnd s₁ [.ref a] c.in_ (by rw [h1]; rfl)
  rw [List.append_nil] at bn
  refine codeAny_mono (T.go callerA [] s₁ Hl ⟨[.ref a], []⟩ [.ref a] [.ref a] (fun v H' => v = .bl true ∧ H' a = Hl a) (fun _ _ _ => False) g e0 bn (.cons rfl .nil) (by rw [h1]; rfl) ⟨Gl', [], [.lst (ns.map D.int)], so, rp, ?_⟩) fun r s' h => ?_
  · rw [em]
    intro v G' H' st so' rn
    exact ⟨by cases rn with | fr r => cases r; rfl, (st a .frz (if_pos rfl)).2 fun n z => by cases z⟩
  · cases r with
    | error e =>
      obtain ⟨_, _, _, _, _, _, _, _, _, _, _, _, z⟩ := h
      exact z.elim
    | ok fl =>
      cases fl with
      | next => exact False.elim h
      | brk => exact False.elim h
      | cont => exact False.elim h
      | ret u =>
        obtain ⟨v, H', os, bare, un, hok', r', rfl, _⟩ := h
        obtain rfl : u = Value.bool true := r'
        refine ⟨rfl, OldK.of_keep fun b ob e => ?_, os, bare⟩
        by_cases hb : b = a
        · subst hb
          have z2 := un.frzs b _ _ Hla
          obtain ⟨e2, _⟩ := hok' b _ z2
          rw [hobj] at e
          cases e
          exact e2
        · exact un.keep b ob e (Hln b hb) (fun z => by cases z) (by simp)
end Sx
set_option maxHeartbeats 200000
/-! # Sx: the meaning, step by step: each step's rest is a name of its own, so that a rewriting never looks into it -/
namespace Sx
noncomputable section
abbrev Callee := Nat → List D → M RV
/-- first r, then f -/
def rb {α β : Type} (r : R α) (f : α → Mu → R β) : R β := match r with
  | .ok a μ => f a μ
  | .exc x μ => .exc x μ
  | .bad => .bad
theorem rb_ok {α β : Type} (a : α) (μ : Mu) (f : α → Mu → R β) : rb (.ok a μ) f = f a μ := Eq.trans rfl rfl
theorem rb_exc {α β : Type} (x : D) (μ : Mu) (f : α → Mu → R β) : rb (.exc x μ : R α) f = .exc x μ := rfl
def sb {α : Type} (r : R α) (f : α → Mu → RS) : RS := match r with
  | .ok a μ => f a μ
  | _ => .bad
theorem sb_ok {α : Type} (a : α) (μ : Mu) (f : α → Mu → RS) : sb (.ok a μ) f = f a μ := Eq.trans rfl rfl
def seq (r : RS) (f : Env → Mu → RS) : RS := match r with
  | .nx ρ μ => f ρ μ
  | r => r
theorem seq_nx (ρ : Env) (μ : Mu) (f : Env → Mu → RS) : seq (.nx ρ μ) f = f ρ μ := rfl
theorem seq_rt (r : RV) (μ : Mu) (f : Env → Mu → RS) : seq (.rt r μ) f = .rt r μ := rfl
theorem seq_ex (x : D) (ρ : Env) (μ : Mu) (f : Env → Mu → RS) : seq (.ex x ρ μ) f = .ex x ρ μ := rfl
/-- a body's end as a call's -/
def fin : RS → R RV
  | .nx _ μ => .ok (.fr .non) μ
  | .rt r μ => .ok r μ
  | .ex x _ μ => .exc x μ
  | .bad => .bad
theorem fin_nx (ρ : Env) (μ : Mu) : fin (.nx ρ μ) = .ok (.fr .non) μ := rfl
theorem fin_rt (r : RV) (μ : Mu) : fin (.rt r μ) = .ok r μ := rfl
theorem fin_ex (x : D) (ρ : Env) (μ : Mu) : fin (.ex x ρ μ) = .exc x μ := rfl
theorem call_eq {T : Nat → Option Fn} {k i : Nat} {c : Fn} {ds : List D} {μ : Mu} (h : T i = some c) (hl : ds.length = c.np) : callD T (k + 1) i ds μ = fin (exB (callD T k) c.body (startE c ds) μ) := by
  rw [callD, h]
  simp only [hl, if_true]
  cases exB (callD T k) c.body (startE c ds) μ <;> rfl
/-! ## what goes on behind a value -/
def vr : Option (Option RV) → M RV
  | some (some (.fr d)) => ret (.fr d)
  | _ => bad
def vo : Option (Option RV) → M D
  | some (some r) => ret r.d
  | _ => bad
def vv : Option (Option RV) → M RV
  | some (some r) => ret r
  | _ => bad
def kD (r : RV) : M D := ret r.d
def kTup (ds : List D) : M RV := guard' (sizeOk ds.length) (ret (.fr (.tup ds)))
def kLst (ds : List D) : M RV := guard' (sizeOk ds.length) (ret (.own ds))
def kCel (ds : List D) : M RV := guard' (sizeOk ds.length) fun μ => .ok (.fr (.cell μ.length)) (μ ++ [.lst ds])
def kBl (k : Bool) : M RV := ret (.fr (.bl k))
/-- an operand: a name's own list may be lent -/
def eo (C : Callee) (t : Tm) (ρ : Env) : M D := opv t (ev C t ρ) ρ
def kOp (C : Callee) (o : Op2) (b : Tm) (ρ : Env) (x : D) : M RV := fun μ => rb (eo C b ρ μ) (op2 o x)
def kCm2 (o : Cmp) (x y : D) : M RV := fun μ => rb (cmp2 o x y μ) kBl
def kCmp (C : Callee) (o : Cmp) (b : Tm) (ρ : Env) (x : D) : M RV := fun μ => rb (eo C b ρ μ) (kCm2 o x)
def kCh3 (C : Callee) (p : Cmp) (c : Tm) (ρ : Env) (y : D) (k : Bool) : M RV := fun μ => if k = true then rb (eo C c ρ μ) (kCm2 p y) else .ok (.fr (.bl false)) μ
def kCh2 (C : Callee) (o p : Cmp) (c : Tm) (ρ : Env) (x y : D) : M RV := fun μ => rb (cmp2 o x y μ) (kCh3 C p c ρ y)
def kCh1 (C : Callee) (o p : Cmp) (b c : Tm) (ρ : Env) (x : D) : M RV := fun μ => rb (eo C b ρ μ) (kCh2 C o p c ρ x)
def asR (r : RV) : M Bool := asBool r.d
def kNot (r : RV) : M RV := fun μ => rb (asR r μ) fun k μ => .ok (.fr (.bl (!k))) μ
def kNeg (r : RV) : M RV := fun μ => rb (asInt r.d μ) fun k μ => .ok (.fr (.int (-k))) μ
def kA2 (C : Callee) (es : Tms) (ρ : Env) (k : Bool) : M Bool := if k = true then evA C es ρ else ret false
def kA (C : Callee) (es : Tms) (ρ : Env) (r : RV) : M Bool := fun μ => rb (asR r μ) (kA2 C es ρ)
def kO2 (C : Callee) (es : Tms) (ρ : Env) (k : Bool) : M Bool := if k = true then ret true else evO C es ρ
def kO (C : Callee) (es : Tms) (ρ : Env) (r : RV) : M Bool := fun μ => rb (asR r μ) (kO2 C es ρ)
def kIf2 (C : Callee) (a b : Tm) (ρ : Env) (k : Bool) : M RV := if k = true then ev C a ρ else ev C b ρ
def kIf (C : Callee) (a b : Tm) (ρ : Env) (r : RV) : M RV := fun μ => rb (asR r μ) (kIf2 C a b ρ)
def kIdx (C : Callee) (i : Tm) (ρ : Env) (x : D) : M RV := fun μ => rb (eo C i ρ μ) (getIt x)
def oi (C : Callee) (t : Tm) (ρ : Env) : M (Option Int) := optI t (ev C t ρ)
def kSl3 (x : D) (l h : Option Int) : M RV := cut x l h
def kSl2 (C : Callee) (hi : Tm) (ρ : Env) (x : D) (l : Option Int) : M RV := fun μ => rb (oi C hi ρ μ) (kSl3 x l)
def kSl (C : Callee) (lo hi : Tm) (ρ : Env) (x : D) : M RV := fun μ => rb (oi C lo ρ μ) (kSl2 C hi ρ x)
def kR1 (r : RV) : M RV := fun μ => rb (asInt r.d μ) fun n => guard' (decide (n.natAbs ≤ 16777216)) (ret (.fr (.lst (intsFrom 0 n.toNat))))
def kR2b (lo : Int) (r : RV) : M RV := fun μ => rb (asInt r.d μ) fun hi => guard' (decide (lo.natAbs ≤ 16777216 ∧ hi.natAbs ≤ 16777216) && sizeOk (hi - lo).toNat) (ret (.fr (.lst (intsFrom lo (hi - lo).toNat))))
def kR2a (C : Callee) (b : Tm) (ρ : Env) (lo : Int) : M RV := fun μ => rb (ev C b ρ μ) (kR2b lo)
def kR2 (C : Callee) (b : Tm) (ρ : Env) (r : RV) : M RV := fun μ => rb (asInt r.d μ) (kR2a C b ρ)
/-- one turn of a comprehension -/
def cT2 (C : Callee) (e : Tm) (ρ : Env) (k : Bool) : M (Option D) := if k = true then fun μ => rb (ev C e ρ μ) fun r μ => .ok (some r.d) μ else ret none
def cT1 (C : Callee) (e : Tm) (cs : Tms) (ρ : Env) : M (Option D) := fun μ => rb (evA C cs ρ μ) (cT2 C e ρ)
def cTo (C : Callee) (e : Tm) (cs : Tms) : Option Env → M (Option D)
  | some ρ => cT1 C e cs ρ
  | none => bad
def cT (C : Callee) (e : Tm) (tg : Tg) (cs : Tms) (ws : List Nat) (ρ : Env) (x : D) : M (Option D) := cTo C e cs (bindT tg x (wipe ws ρ))
def kOwn (xs : List D) : M RV := ret (.own xs)
def kComp (C : Callee) (e : Tm) (tg : Tg) (cs : Tms) (ws : List Nat) (ρ : Env) (p : List D × Hd) : M RV := fun μ => rb (compH p.2 (cT C e tg cs ws ρ) p.1 μ) kOwn
def kZ1 (C : Callee) (b : Tm) (ρ : Env) (x : D) : M RV := fun μ => rb (rb (ev C b ρ μ) kD) (zipD x)
def kV2 (r : RV) (ds : List D) : M (List D) := ret (r.d :: ds)
def kV (C : Callee) (es : Tms) (ρ : Env) (r : RV) : M (List D) := fun μ => rb (evs C es ρ μ) (kV2 r)
section
variable {C : Callee} {ρ : Env} {μ : Mu}
theorem bnd_rb {α β : Type} {m : M α} {f : α → M β} : bnd m f μ = rb (m μ) f := by
  unfold bnd rb
  cases m μ <;> rfl
theorem E_var (i : Nat) : ev C (.var i) ρ μ = vr ρ[i]? μ := by
  simp only [ev]
  cases ρ[i]? with
  | none => rfl
  | some o => cases o with
    | none => rfl
    | some r => cases r <;> rfl
theorem E_cst (d : D) : ev C (.cst d) ρ μ = .ok (.fr d) μ := by simp only [ev, ret]
theorem E_glo (x : PySem.Str) (d : D) : ev C (.glo x d) ρ μ = .ok (.fr d) μ := by simp only [ev, ret]
theorem E_dic0 : ev C .dic0 ρ μ = .ok (.fr (.dic [])) μ := by simp only [ev, ret]
theorem E_tup (es : Tms) : ev C (.tup es) ρ μ = rb (evs C es ρ μ) kTup := by simp only [ev, bnd_rb]; rfl
theorem E_lst (es : Tms) : ev C (.lst es) ρ μ = rb (evs C es ρ μ) kLst := by simp only [ev, bnd_rb]; rfl
theorem E_cel (es : Tms) : ev C (.cel es) ρ μ = rb (evs C es ρ μ) kCel := by simp only [ev, bnd_rb]; rfl
theorem E_op (o : Op2) (a b : Tm) : ev C (.op o a b) ρ μ = rb (eo C a ρ μ) (kOp C o b ρ) := by
  simp only [ev, bnd_rb]
  congr 1
theorem E_cmp (o : Cmp) (a b : Tm) : ev C (.cmp o a b) ρ μ = rb (eo C a ρ μ) (kCmp C o b ρ) := by
  simp only [ev, bnd_rb]
  congr 1
theorem E_chn (o p : Cmp) (a b c : Tm) : ev C (.chn o p a b c) ρ μ = rb (eo C a ρ μ) (kCh1 C o p b c ρ) := by
  simp only [ev, bnd_rb]
  congr 1
  funext x μ
  simp only [bnd_rb]
  unfold kCh1
  congr 1
  funext y μ
  simp only [bnd_rb]
  unfold kCh2
  congr 1
  funext k μ
  unfold kCh3
  cases k with
  | false => rfl
  | true =>
    simp only [if_true, bnd_rb]
    unfold eo
    congr 1
theorem E_not (a : Tm) : ev C (.not a) ρ μ = rb (ev C a ρ μ) kNot := by
  simp only [ev, bnd_rb]
  congr 1
theorem E_neg (a : Tm) : ev C (.neg a) ρ μ = rb (ev C a ρ μ) kNeg := by
  simp only [ev, bnd_rb]
  congr 1
theorem E_con (es : Tms) : ev C (.con es) ρ μ = rb (evA C es ρ μ) kBl := by simp only [ev, bnd_rb]; rfl
theorem E_dis (es : Tms) : ev C (.dis es) ρ μ = rb (evO C es ρ μ) kBl := by simp only [ev, bnd_rb]; rfl
theorem E_ife (c a b : Tm) : ev C (.ife c a b) ρ μ = rb (ev C c ρ μ) (kIf C a b ρ) := by
  simp only [ev, bnd_rb]
  congr 1
theorem E_idx (a i : Tm) : ev C (.idx a i) ρ μ = rb (eo C a ρ μ) (kIdx C i ρ) := by
  simp only [ev, bnd_rb]
  congr 1
theorem E_slc (a lo hi : Tm) : ev C (.slc a lo hi) ρ μ = rb (eo C a ρ μ) (kSl C lo hi ρ) := by
  simp only [ev, bnd_rb]
  congr 1
theorem E_call (f : Nat) (es : Tms) : ev C (.call f es) ρ μ = rb (evs C es ρ μ) (C f) := by simp only [ev, bnd_rb]
theorem E_blt (b : Blt) (a : Tm) : ev C (.blt b a) ρ μ = rb (eo C a ρ μ) (blt1 b) := by simp only [ev, bnd_rb]; rfl
theorem E_isi (a : Tm) (ts : List Ty) : ev C (.isi a ts) ρ μ = rb (eo C a ρ μ) (isin ts) := by simp only [ev, bnd_rb]; rfl
theorem E_rng1 (a : Tm) : ev C (.rng1 a) ρ μ = rb (ev C a ρ μ) kR1 := by
  simp only [ev, bnd_rb]
  congr 1
theorem E_zip (a b : Tm) : ev C (.zip a b) ρ μ = rb (rb (ev C a ρ μ) kD) (kZ1 C b ρ) := by
  simp only [ev, bnd_rb]
  congr 1
theorem E_enum (a : Tm) : ev C (.enum a) ρ μ = rb (rb (ev C a ρ μ) kD) enumD := by
  simp only [ev, bnd_rb]
  congr 1
theorem E_revd (a : Tm) : ev C (.revd a) ρ μ = rb (rb (ev C a ρ μ) kD) revD := by
  simp only [ev, bnd_rb]
  congr 1
theorem E_newc (a : Tm) : ev C (.newc a) ρ μ = rb (ev C a ρ μ) newC := by simp only [ev, bnd_rb]
theorem E_rng2 (a b : Tm) : ev C (.rng2 a b) ρ μ = rb (ev C a ρ μ) (kR2 C b ρ) := by
  simp only [ev, bnd_rb]
  congr 1
theorem compH_congr {α : Type} {hd : Hd} {f g : α → M (Option D)} (h : ∀ x, f x = g x) : ∀ xs : List α, compH hd f xs = compH hd g xs := fun xs => by rw [show f = g from funext h]
theorem E_comp (e : Tm) (tg : Tg) (it : Tm) (cs : Tms) (ws : List Nat) : ev C (.comp e tg it cs ws) ρ μ = rb (rb (ev C it ρ μ) itemsOf) (kComp C e tg cs ws ρ) := by
  simp only [ev, bnd_rb]
  congr 1
  funext xs μ
  simp only [bnd_rb]
  unfold kComp
  have : ∀ x, (match bindT tg x (wipe ws ρ) with
      | none => bad
      | some ρ' => bnd (evA C cs ρ') fun k => if k = true then bnd (bnd (ev C e ρ') fun r => ret r.d) fun d => ret (some d) else ret none) = cT C e tg cs ws ρ x := fun x => by
    unfold cT
    cases bindT tg x (wipe ws ρ) with
    | none => rfl
    | some ρ' =>
      funext μ
      simp only [cTo, bnd_rb]
      unfold cT1
      congr 1
      funext k μ
      unfold cT2
      cases k with
      | false => rfl
      | true =>
        simp only [if_true, bnd_rb]
        cases ev C e ρ' μ <;> rfl
  have e2 := compH_congr (hd := xs.2) this xs.1
  show rb (compH _ _ xs.1 μ) _ = _
  rw [← e2]
  rfl
theorem V_nil : evs C .nil ρ μ = .ok [] μ := by simp only [evs, ret]
theorem V_cons (e : Tm) (es : Tms) : evs C (.cons e es) ρ μ = rb (ev C e ρ μ) (kV C es ρ) := by
  simp only [evs, bnd_rb]
  congr 1
theorem A_nil : evA C .nil ρ μ = .ok true μ := by simp only [evA, ret]
theorem A_cons (e : Tm) (es : Tms) : evA C (.cons e es) ρ μ = rb (ev C e ρ μ) (kA C es ρ) := by
  simp only [evA, bnd_rb]
  congr 1
theorem O_nil : evO C .nil ρ μ = .ok false μ := by simp only [evO, ret]
theorem O_cons (e : Tm) (es : Tms) : evO C (.cons e es) ρ μ = rb (ev C e ρ μ) (kO C es ρ) := by
  simp only [evO, bnd_rb]
  congr 1
/-! ### the rests -/
theorem vr_fr (d : D) : vr (some (some (.fr d))) μ = .ok (.fr d) μ := rfl
theorem vo_fr (d : D) : vo (some (some (.fr d))) μ = .ok d μ := rfl
theorem vo_own (xs : List D) : vo (some (some (.own xs))) μ = .ok (.lst xs) μ := rfl
theorem vv_some (r : RV) : vv (some (some r)) μ = .ok r μ := rfl
theorem kD_fr (d : D) : kD (.fr d) μ = .ok d μ := rfl
theorem kD_own (xs : List D) : kD (.own xs) μ = .ok (.lst xs) μ := rfl
theorem kTup_ok {ds : List D} (h : ds.length ≤ 16777216) : kTup ds μ = .ok (.fr (.tup ds)) μ := by simp [kTup, guard', sizeOk, h, ret]
theorem kLst_ok {ds : List D} (h : ds.length ≤ 16777216) : kLst ds μ = .ok (.own ds) μ := by simp [kLst, guard', sizeOk, h, ret]
theorem kCel_ok {ds : List D} (h : ds.length ≤ 16777216) : kCel ds μ = .ok (.fr (.cell μ.length)) (μ ++ [.lst ds]) := by simp [kCel, guard', sizeOk, h]
theorem kBl_ap (k : Bool) : kBl k μ = .ok (.fr (.bl k)) μ := rfl
theorem kOwn_ap (xs : List D) : kOwn xs μ = .ok (.own xs) μ := rfl
theorem eo_var (i : Nat) : eo C (.var i) ρ μ = vo ρ[i]? μ := by
  show (match ρ[i]? with
    | some (some r) => ret r.d
    | _ => bad) μ = _
  cases ρ[i]? with
  | none => rfl
  | some o => cases o <;> rfl
theorem eo_not {t : Tm} (h : ∀ i, t ≠ .var i) : eo C t ρ μ = rb (ev C t ρ μ) kD := by
  unfold eo opv
  cases t <;> first | exact absurd rfl (h _) | (simp only [bnd_rb]; rfl)
theorem eo_cst (d : D) : eo C (.cst d) ρ μ = .ok d μ := by rw [eo_not (fun _ => by intro z; cases z), E_cst, rb_ok]; rfl
theorem eo_glo (x : PySem.Str) (d : D) : eo C (.glo x d) ρ μ = .ok d μ := by rw [eo_not (fun _ => by intro z; cases z), E_glo, rb_ok]; rfl
theorem eo_op (o : Op2) (a b : Tm) : eo C (.op o a b) ρ μ = rb (ev C (.op o a b) ρ μ) kD := eo_not fun _ => by intro z; cases z
theorem eo_idx (a b : Tm) : eo C (.idx a b) ρ μ = rb (ev C (.idx a b) ρ μ) kD := eo_not fun _ => by intro z; cases z
theorem eo_slc (a b c : Tm) : eo C (.slc a b c) ρ μ = rb (ev C (.slc a b c) ρ μ) kD := eo_not fun _ => by intro z; cases z
theorem eo_call (f : Nat) (es : Tms) : eo C (.call f es) ρ μ = rb (ev C (.call f es) ρ μ) kD := eo_not fun _ => by intro z; cases z
theorem eo_blt (b : Blt) (a : Tm) : eo C (.blt b a) ρ μ = rb (ev C (.blt b a) ρ μ) kD := eo_not fun _ => by intro z; cases z
theorem eo_tup (es : Tms) : eo C (.tup es) ρ μ = rb (ev C (.tup es) ρ μ) kD := eo_not fun _ => by intro z; cases z
theorem eo_lst (es : Tms) : eo C (.lst es) ρ μ = rb (ev C (.lst es) ρ μ) kD := eo_not fun _ => by intro z; cases z
theorem eo_neg (a : Tm) : eo C (.neg a) ρ μ = rb (ev C (.neg a) ρ μ) kD := eo_not fun _ => by intro z; cases z
theorem eo_newc (a : Tm) : eo C (.newc a) ρ μ = rb (ev C (.newc a) ρ μ) kD := eo_not fun _ => by intro z; cases z
theorem eo_nt (a : Tm) : eo C (.not a) ρ μ = rb (ev C (.not a) ρ μ) kD := eo_not fun _ => by intro z; cases z
theorem eo_cmp (o : Cmp) (a b : Tm) : eo C (.cmp o a b) ρ μ = rb (ev C (.cmp o a b) ρ μ) kD := eo_not fun _ => by intro z; cases z
theorem eo_con (es : Tms) : eo C (.con es) ρ μ = rb (ev C (.con es) ρ μ) kD := eo_not fun _ => by intro z; cases z
theorem eo_dis (es : Tms) : eo C (.dis es) ρ μ = rb (ev C (.dis es) ρ μ) kD := eo_not fun _ => by intro z; cases z
theorem eo_isi (a : Tm) (ts : List Ty) : eo C (.isi a ts) ρ μ = rb (ev C (.isi a ts) ρ μ) kD := eo_not fun _ => by intro z; cases z
theorem eo_ife (c a b : Tm) : eo C (.ife c a b) ρ μ = rb (ev C (.ife c a b) ρ μ) kD := eo_not fun _ => by intro z; cases z
theorem eo_comp (e : Tm) (tg : Tg) (it : Tm) (cs : Tms) (ws : List Nat) : eo C (.comp e tg it cs ws) ρ μ = rb (ev C (.comp e tg it cs ws) ρ μ) kD := eo_not fun _ => by intro z; cases z
theorem kOp_ap (o : Op2) (b : Tm) (x : D) : kOp C o b ρ x μ = rb (eo C b ρ μ) (op2 o x) := rfl
theorem kCmp_ap (o : Cmp) (b : Tm) (x : D) : kCmp C o b ρ x μ = rb (eo C b ρ μ) (kCm2 o x) := rfl
theorem kCm2_ap (o : Cmp) (x y : D) : kCm2 o x y μ = rb (cmp2 o x y μ) kBl := rfl
theorem kCh1_ap (o p : Cmp) (b c : Tm) (x : D) : kCh1 C o p b c ρ x μ = rb (eo C b ρ μ) (kCh2 C o p c ρ x) := rfl
theorem kCh2_ap (o p : Cmp) (c : Tm) (x y : D) : kCh2 C o p c ρ x y μ = rb (cmp2 o x y μ) (kCh3 C p c ρ y) := rfl
theorem kCh3_t (p : Cmp) (c : Tm) (y : D) : kCh3 C p c ρ y true μ = rb (eo C c ρ μ) (kCm2 p y) := rfl
theorem kCh3_f (p : Cmp) (c : Tm) (y : D) : kCh3 C p c ρ y false μ = .ok (.fr (.bl false)) μ := rfl
theorem asR_bl (k : Bool) : asR (.fr (.bl k)) μ = .ok k μ := rfl
theorem kNot_bl (k : Bool) : kNot (.fr (.bl k)) μ = .ok (.fr (.bl (!k))) μ := rfl
theorem kNeg_int (i : Int) : kNeg (.fr (.int i)) μ = .ok (.fr (.int (-i))) μ := rfl
theorem kA_bl (es : Tms) (k : Bool) : kA C es ρ (.fr (.bl k)) μ = kA2 C es ρ k μ := rfl
theorem kA2_t (es : Tms) : kA2 C es ρ true μ = evA C es ρ μ := rfl
theorem kA2_f (es : Tms) : kA2 C es ρ false μ = .ok false μ := rfl
theorem kO_bl (es : Tms) (k : Bool) : kO C es ρ (.fr (.bl k)) μ = kO2 C es ρ k μ := rfl
theorem kO2_t (es : Tms) : kO2 C es ρ true μ = .ok true μ := rfl
theorem kO2_f (es : Tms) : kO2 C es ρ false μ = evO C es ρ μ := rfl
/-- the last of some truths -/
theorem kA2_nil (k : Bool) : kA2 C .nil ρ k μ = .ok k μ := by cases k <;> simp [kA2, evA, ret]
theorem kO2_nil (k : Bool) : kO2 C .nil ρ k μ = .ok k μ := by cases k <;> simp [kO2, evO, ret]
theorem kIf_bl (a b : Tm) (k : Bool) : kIf C a b ρ (.fr (.bl k)) μ = kIf2 C a b ρ k μ := rfl
theorem kIf2_t (a b : Tm) : kIf2 C a b ρ true μ = ev C a ρ μ := rfl
theorem kIf2_f (a b : Tm) : kIf2 C a b ρ false μ = ev C b ρ μ := rfl
theorem kIdx_ap (i : Tm) (x : D) : kIdx C i ρ x μ = rb (eo C i ρ μ) (getIt x) := rfl
theorem kSl_ap (lo hi : Tm) (x : D) : kSl C lo hi ρ x μ = rb (oi C lo ρ μ) (kSl2 C hi ρ x) := rfl
theorem kSl2_ap (hi : Tm) (x : D) (l : Option Int) : kSl2 C hi ρ x l μ = rb (oi C hi ρ μ) (kSl3 x l) := rfl
theorem kSl3_ap (x : D) (l h : Option Int) : kSl3 x l h μ = cut x l h μ := rfl
def kI (r : RV) : M (Option Int) := fun μ => rb (asInt r.d μ) fun i μ => .ok (some i) μ
theorem oi_mis : oi C .mis ρ μ = .ok none μ := rfl
theorem oi_not {t : Tm} (h : t ≠ .mis) : oi C t ρ μ = rb (ev C t ρ μ) kI := by
  unfold oi optI
  cases t <;> first | exact absurd rfl h | skip
  all_goals
    simp only [bnd_rb]
    congr 1
theorem kI_int (i : Int) : kI (.fr (.int i)) μ = .ok (some i) μ := rfl
theorem oi_var (i : Nat) : oi C (.var i) ρ μ = rb (ev C (.var i) ρ μ) kI := oi_not fun z => by cases z
theorem oi_cst (i : Int) : oi C (.cst (.int i)) ρ μ = .ok (some i) μ := by rw [oi_not (fun z => by cases z), E_cst]; rfl
theorem oi_op (o : Op2) (a b : Tm) : oi C (.op o a b) ρ μ = rb (ev C (.op o a b) ρ μ) kI := oi_not fun z => by cases z
theorem oi_neg (a : Tm) : oi C (.neg a) ρ μ = rb (ev C (.neg a) ρ μ) kI := oi_not fun z => by cases z
theorem oi_idx (a b : Tm) : oi C (.idx a b) ρ μ = rb (ev C (.idx a b) ρ μ) kI := oi_not fun z => by cases z
theorem oi_blt (b : Blt) (a : Tm) : oi C (.blt b a) ρ μ = rb (ev C (.blt b a) ρ μ) kI := oi_not fun z => by cases z
theorem oi_call (f : Nat) (es : Tms) : oi C (.call f es) ρ μ = rb (ev C (.call f es) ρ μ) kI := oi_not fun z => by cases z
theorem kR1_int (n : Nat) (h : n ≤ 16777216) : kR1 (.fr (.int (n : Int))) μ = .ok (.fr (.lst (intsFrom 0 n))) μ := by
  simp [kR1, RV.d, asInt, ret, rb, guard', h]
theorem kR1_i {i : Int} (h : 0 ≤ i) (h2 : i ≤ 16777216) : kR1 (.fr (.int i)) μ = .ok (.fr (.lst (intsFrom 0 i.toNat))) μ := by
  obtain ⟨n, rfl⟩ := Int.eq_ofNat_of_zero_le h
  rw [kR1_int n (by omega)]
  simp
theorem kR2_int (b : Tm) (lo : Int) : kR2 C b ρ (.fr (.int lo)) μ = rb (ev C b ρ μ) (kR2b lo) := Eq.trans rfl rfl
theorem kR2b_int {lo hi : Int} (h : lo ≤ 16777216) (h1 : -16777216 ≤ lo) (h2 : hi ≤ 16777216) (h3 : -16777216 ≤ hi) (h4 : hi - lo ≤ 16777216) : kR2b lo (.fr (.int hi)) μ = .ok (.fr (.lst (intsFrom lo (hi - lo).toNat))) μ := by
  have e : (hi - lo).toNat ≤ 16777216 := by omega
  have e1 : lo.natAbs ≤ 16777216 := by omega
  have e2 : hi.natAbs ≤ 16777216 := by omega
  simp [kR2b, RV.d, asInt, ret, rb, guard', e1, e2, sizeOk, e]
theorem kComp_ap (e : Tm) (tg : Tg) (cs : Tms) (ws : List Nat) (xs : List D) : kComp C e tg cs ws ρ (xs, []) μ = rb (compR (cT C e tg cs ws ρ) xs μ) kOwn := by
  unfold kComp
  rw [compH_nil]
theorem kComp_apH (e : Tm) (tg : Tg) (cs : Tms) (ws : List Nat) (xs : List D) (p : Nat × List D) (h : Hd) : kComp C e tg cs ws ρ (xs, p :: h) μ = rb (compH (p :: h) (cT C e tg cs ws ρ) xs μ) kOwn := rfl
theorem kZ1_ap (b : Tm) (x : D) : kZ1 C b ρ x μ = rb (rb (ev C b ρ μ) kD) (zipD x) := rfl
theorem zipD_tt (xs ys : List D) (h : xs.length ≤ 16777216) : zipD (.tup xs) (.tup ys) μ = .ok (.wk (List.zipWith (fun a b => D.tup [a, b]) xs ys) []) μ := by simp [zipD, itemsD, isT, sizeOk, h]
theorem zipD_ll (xs ys : List D) (h : xs.length ≤ 16777216) : zipD (.lst xs) (.lst ys) μ = .ok (.wk (List.zipWith (fun a b => D.tup [a, b]) xs ys) []) μ := by simp [zipD, itemsD, isT, sizeOk, h]
theorem enumD_t (xs : List D) (h : xs.length ≤ 16777216) : enumD (.tup xs) μ = .ok (.wk (enumL xs) []) μ := by simp [enumD, itemsD, sizeOk, h]
theorem enumD_l (xs : List D) (h : xs.length ≤ 16777216) : enumD (.lst xs) μ = .ok (.wk (enumL xs) []) μ := by simp [enumD, itemsD, sizeOk, h]
theorem revD_t (xs : List D) (h : xs.length ≤ 16777216) : revD (.tup xs) μ = .ok (.wk xs.reverse []) μ := by simp [revD, itemsD, sizeOk, h]
theorem revD_l (xs : List D) (h : xs.length ≤ 16777216) : revD (.lst xs) μ = .ok (.wk xs.reverse []) μ := by simp [revD, itemsD, sizeOk, h]
theorem newC_own (xs : List D) : newC (.own xs) μ = .ok (.fr (.cell μ.length)) (μ ++ [.lst xs]) := rfl
def itC (n : Nat) (μ : Mu) : Option Cell → R (List D × Hd)
  | some (.lst xs) => .ok (xs, [(n, xs)]) μ
  | _ => .bad
theorem itemsOf_cell (n : Nat) : itemsOf (.fr (.cell n)) μ = itC n μ μ[n]? := by
  simp only [itemsOf, itemsD, RV.d]
  unfold itC
  cases μ[n]? with
  | none => rfl
  | some c => cases c <;> rfl
theorem itC_lst (n : Nat) (xs : List D) : itC n μ (some (.lst xs)) = .ok (xs, [(n, xs)]) μ := rfl
theorem itemsOf_wk (xs : List D) (h : Hd) : itemsOf (.wk xs h) μ = .ok (xs, h) μ := rfl
theorem kV_ap (es : Tms) (r : RV) : kV C es ρ r μ = rb (evs C es ρ μ) (kV2 r) := rfl
theorem kV2_fr (d : D) (ds : List D) : kV2 (.fr d) ds μ = .ok (d :: ds) μ := rfl
theorem kV2_own (xs ds : List D) : kV2 (.own xs) ds μ = .ok (.lst xs :: ds) μ := rfl
theorem itemsOf_tup (xs : List D) : itemsOf (.fr (.tup xs)) μ = .ok (xs, []) μ := rfl
theorem itemsOf_lst (xs : List D) : itemsOf (.fr (.lst xs)) μ = .ok (xs, []) μ := rfl
theorem itemsOf_own (xs : List D) : itemsOf (.own xs) μ = .ok (xs, []) μ := rfl
end
/-! ## statements -/
def kAsg (i : Nat) (ρ : Env) (r : RV) (μ : Mu) : RS := if i < ρ.length then .nx (ρ.set i (some r)) μ else .bad
def kAsT (tg : Tg) (ρ : Env) (r : RV) (μ : Mu) : RS := match bindT tg r.d ρ with
  | some ρ' => .nx ρ' μ
  | none => .bad
def kPar2 (i j : Nat) (ρ : Env) (r r' : RV) (μ : Mu) : RS := if i < ρ.length ∧ j < ρ.length then .nx ((ρ.set i (some (.fr r.d))).set j (some (.fr r'.d))) μ else .bad
def kPar (C : Callee) (i j : Nat) (b : Tm) (ρ : Env) (r : RV) (μ : Mu) : RS := sb (ev C b ρ μ) (kPar2 i j ρ r)
def kExp (ρ : Env) (_ : RV) (μ : Mu) : RS := .nx ρ μ
def kRet (r : RV) (μ : Mu) : RS := .rt r μ
def kIte2 (C : Callee) (a b : Blk) (ρ : Env) (k : Bool) (μ : Mu) : RS := if k = true then exB C a ρ μ else exB C b ρ μ
def kIte (C : Callee) (a b : Blk) (ρ : Env) (r : RV) (μ : Mu) : RS := sb (asR r μ) (kIte2 C a b ρ)
def kFor (C : Callee) (tg : Tg) (b : Blk) (ρ : Env) (p : List D × Hd) (μ : Mu) : RS := forH p.2 (turnF tg (exB C b)) p.1 ρ μ
def setO (ρ : Env) (x : Nat) (j : Int) (d : D) (μ : Mu) : Option (Option RV) → RS
  | some (some (.own xs)) => match ixN xs.length j with
    | some j => .nx (ρ.set x (some (.own (xs.set j d)))) μ
    | none => .bad
  | _ => .bad
def kSv2 (x : Nat) (ρ : Env) (d : D) (k : D) (μ : Mu) : RS := match k with
  | .int j => setO ρ x j d μ ρ[x]?
  | _ => .bad
def kSv (C : Callee) (x : Nat) (i : Tm) (ρ : Env) (r : RV) (μ : Mu) : RS := sb (eo C i ρ μ) (kSv2 x ρ r.d)
def setCell (ρ : Env) (μ : Mu) (n : Nat) (j : Int) (d : D) : Option Cell → RS
  | some (.lst xs) => match ixN xs.length j with
    | some j => .nx ρ (setN μ n (.lst (xs.set j d)))
    | none => .bad
  | _ => .bad
def kSc3 (ρ : Env) (d c k : D) (μ : Mu) : RS := match c, k with
  | .cell n, .int j => setCell ρ μ n j d μ[n]?
  | _, _ => .bad
def kSc2 (C : Callee) (i : Tm) (ρ : Env) (d c : D) (μ : Mu) : RS := sb (eo C i ρ μ) (kSc3 ρ d c)
def kSc (C : Callee) (o i : Tm) (ρ : Env) (r : RV) (μ : Mu) : RS := sb (eo C o ρ μ) (kSc2 C i ρ r.d)
def mutO (m : Mth) (ρ : Env) (x : Nat) (ds : List D) (μ : Mu) : Option (Option RV) → RS
  | some (some (.own xs)) => match mutL μ m xs ds with
    | some ys => .nx (ρ.set x (some (.own ys))) μ
    | none => .bad
  | _ => .bad
def kMut (m : Mth) (x : Nat) (ρ : Env) (ds : List D) (μ : Mu) : RS := mutO m ρ x ds μ ρ[x]?
section
variable {C : Callee} {ρ : Env} {μ : Mu}
theorem lift_sb {α : Type} {m : M α} {f : α → Mu → RS} : lift m ρ μ f = sb (m μ) f := by
  unfold lift sb
  cases m μ <;> rfl
theorem sb_rb {α β : Type} {r : R α} {f : α → Mu → R β} {g : β → Mu → RS} : sb (rb r f) g = sb r fun a μ => sb (f a μ) g := by cases r <;> rfl
theorem S_asg (i : Nat) (fz : List Nat) (e : Tm) : exS C (.asg fz (.nm i) e) ρ μ = sb (ev C e (frz fz ρ) μ) (kAsg i (frz fz ρ)) := by
  have fl : (frz fz ρ).length = ρ.length := by
    induction fz generalizing ρ with
    | nil => rfl
    | cons i is ih =>
      unfold frz
      rw [ih]
      split
      · simp
      · rfl
  simp only [exS, lift_sb]
  unfold kAsg
  rw [fl]
theorem S_asT (a b : Tg) (fz : List Nat) (e : Tm) : exS C (.asg fz (.cons a b) e) ρ μ = sb (ev C e (frz fz ρ) μ) (kAsT (.cons a b) (frz fz ρ)) := by
  simp only [exS, lift_sb]
  rfl
theorem S_par (i j : Nat) (fz : List Nat) (a b : Tm) : exS C (.par fz i j a b) ρ μ = sb (ev C a (frz fz ρ) μ) (kPar C i j b (frz fz ρ)) := by
  have fl : (frz fz ρ).length = ρ.length := by
    induction fz generalizing ρ with
    | nil => rfl
    | cons i is ih =>
      unfold frz
      rw [ih]
      split
      · simp
      · rfl
  simp only [exS, lift_sb]
  congr 1
  funext r μ
  unfold kPar kPar2
  rw [fl]
theorem S_exp (fz : List Nat) (e : Tm) : exS C (.exp fz e) ρ μ = sb (ev C e (frz fz ρ) μ) (kExp (frz fz ρ)) := by
  simp only [exS, lift_sb]
  rfl
theorem S_ret (fz : List Nat) {e : Tm} (h : ∀ i, e ≠ .var i) : exS C (.ret fz e) ρ μ = sb (ev C e (frz fz ρ) μ) kRet := by
  simp only [exS, lift_sb]
  cases e <;> first | exact absurd rfl (h _) | rfl
theorem S_retv (fz : List Nat) (i : Nat) : exS C (.ret fz (.var i)) ρ μ = sb (vv (frz fz ρ)[i]? μ) kRet := by
  simp only [exS, lift_sb, rvOf]
  cases (frz fz ρ)[i]? with
  | none => rfl
  | some o => cases o <;> rfl
theorem S_ite (fz : List Nat) (c : Tm) (a b : Blk) : exS C (.ite fz c a b) ρ μ = sb (ev C c (frz fz ρ) μ) (kIte C a b (frz fz ρ)) := by
  simp only [exS, lift_sb, bnd_rb, sb_rb]
  rfl
theorem S_whl (fz : List Nat) (c : Tm) (b : Blk) : exS C (.whl fz c b) ρ μ = whileR (turnW (ev C c) (exB C b)) (frz fz ρ) μ := by simp only [exS]
theorem S_for (fz : List Nat) (tg : Tg) (it : Tm) (b : Blk) : exS C (.loop fz tg it b) ρ μ = sb (rb (ev C it (frz fz ρ) μ) itemsOf) (kFor C tg b (frz fz ρ)) := by
  simp only [exS, lift_sb, bnd_rb]
  rfl
theorem S_setv (fz : List Nat) (x : Nat) (i e : Tm) : exS C (.setv fz x i e) ρ μ = sb (ev C e (frz fz ρ) μ) (kSv C x i (frz fz ρ)) := by
  simp only [exS, lift_sb, bnd_rb, sb_rb]
  congr 1
  funext r μ
  simp only [ret, sb_ok]
  unfold kSv eo
  cases opv i (ev C i (frz fz ρ)) (frz fz ρ) μ with
  | ok k μ' =>
    simp only [sb_ok]
    unfold kSv2
    cases k <;> first | rfl | skip
  | exc _ _ => rfl
  | bad => rfl
theorem S_setc (fz : List Nat) (o i e : Tm) : exS C (.setc fz o i e) ρ μ = sb (ev C e (frz fz ρ) μ) (kSc C o i (frz fz ρ)) := by
  simp only [exS, lift_sb, bnd_rb, sb_rb]
  congr 1
  funext r μ
  simp only [ret, sb_ok]
  unfold kSc
  congr 1
  funext c μ
  unfold kSc2 eo
  cases opv i (ev C i (frz fz ρ)) (frz fz ρ) μ with
  | ok k μ' =>
    simp only [sb_ok]
    unfold kSc3
    cases k <;> first | (cases c <;> rfl) | skip
  | exc _ _ => rfl
  | bad => rfl
theorem S_mut (fz : List Nat) (m : Mth) (x : Nat) (es : Tms) : exS C (.mutv fz m x es) ρ μ = sb (evs C es (frz fz ρ) μ) (kMut m x (frz fz ρ)) := by
  simp only [exS, lift_sb]
  congr 1
theorem S_pas : exS C .pas ρ μ = .nx ρ μ := by simp only [exS]
theorem B_nil : exB C .nil ρ μ = .nx ρ μ := by simp only [exB]
theorem B_cons (s : Stm) (b : Blk) : exB C (.cons s b) ρ μ = seq (exS C s ρ μ) (exB C b) := by
  simp only [exB]
  cases exS C s ρ μ <;> rfl
/-! ### the rests -/
theorem kAsg_ok (i : Nat) (r : RV) (h : i < ρ.length) : kAsg i ρ r μ = .nx (ρ.set i (some r)) μ := if_pos h
theorem kPar_ap (i j : Nat) (b : Tm) (r : RV) : kPar C i j b ρ r μ = sb (ev C b ρ μ) (kPar2 i j ρ r) := rfl
theorem kPar2_fr (i j : Nat) (d d' : D) (h : i < ρ.length) (h' : j < ρ.length) : kPar2 i j ρ (.fr d) (.fr d') μ = .nx ((ρ.set i (some (.fr d))).set j (some (.fr d'))) μ := if_pos ⟨h, h'⟩
theorem kPar2_ok (i j : Nat) (d d' : RV) (h : i < ρ.length) (h' : j < ρ.length) : kPar2 i j ρ d d' μ = .nx ((ρ.set i (some (.fr d.d))).set j (some (.fr d'.d))) μ := if_pos ⟨h, h'⟩
theorem kExp_ap (r : RV) : kExp ρ r μ = .nx ρ μ := rfl
theorem kRet_ap (r : RV) : kRet r μ = .rt r μ := rfl
theorem kIte_bl (a b : Blk) (k : Bool) : kIte C a b ρ (.fr (.bl k)) μ = kIte2 C a b ρ k μ := rfl
theorem kIte2_t (a b : Blk) : kIte2 C a b ρ true μ = exB C a ρ μ := rfl
theorem kIte2_f (a b : Blk) : kIte2 C a b ρ false μ = exB C b ρ μ := rfl
theorem kFor_ap (tg : Tg) (b : Blk) (xs : List D) : kFor C tg b ρ (xs, []) μ = forR (turnF tg (exB C b)) xs ρ μ := forH_nil _ _ _ _
theorem kFor_apH (tg : Tg) (b : Blk) (xs : List D) (p : Nat × List D) (h : Hd) : kFor C tg b ρ (xs, p :: h) μ = forH (p :: h) (turnF tg (exB C b)) xs ρ μ := rfl
theorem kSv_ap (x : Nat) (i : Tm) (r : RV) : kSv C x i ρ r μ = sb (eo C i ρ μ) (kSv2 x ρ r.d) := rfl
theorem kSv2_int (x : Nat) (d : D) (j : Int) : kSv2 x ρ d (.int j) μ = setO ρ x j d μ ρ[x]? := rfl
theorem setO_own {x : Nat} {j : Int} {d : D} {xs : List D} {i : Nat} (h : ixN xs.length j = some i) : setO ρ x j d μ (some (some (.own xs))) = .nx (ρ.set x (some (.own (xs.set i d)))) μ := by simp only [setO, h]
theorem kSc_ap (o i : Tm) (r : RV) : kSc C o i ρ r μ = sb (eo C o ρ μ) (kSc2 C i ρ r.d) := rfl
theorem kSc2_ap (i : Tm) (d c : D) : kSc2 C i ρ d c μ = sb (eo C i ρ μ) (kSc3 ρ d c) := rfl
theorem kSc3_cell (d : D) (n : Nat) (j : Int) : kSc3 ρ d (.cell n) (.int j) μ = setCell ρ μ n j d μ[n]? := rfl
theorem setCell_lst {n : Nat} {j : Int} {d : D} {xs : List D} {i : Nat} (h : ixN xs.length j = some i) : setCell ρ μ n j d (some (.lst xs)) = .nx ρ (setN μ n (.lst (xs.set i d))) := by simp only [setCell, h]
theorem kMut_ap (m : Mth) (x : Nat) (ds : List D) : kMut m x ρ ds μ = mutO m ρ x ds μ ρ[x]? := rfl
theorem mutO_app {x : Nat} {xs : List D} (d : D) (h : xs.length < 16777216) : mutO .append ρ x [d] μ (some (some (.own xs))) = .nx (ρ.set x (some (.own (xs ++ [d])))) μ := by
  have h' : xs.length + 1 ≤ 16777216 := h
  simp [mutO, mutL, sizeOk, h']
theorem mutO_ext {x : Nat} {xs ys : List D} (h : xs.length + ys.length ≤ 16777216) : mutO .extend ρ x [.lst ys] μ (some (some (.own xs))) = .nx (ρ.set x (some (.own (xs ++ ys)))) μ := by
  simp [mutO, mutL, D.lis, sizeOk, h]
end
/-! ## operations on what is known -/
def liC (μ : Mu) : Option Cell → R RV
  | some (.lst xs) => .ok (.own xs) μ
  | _ => .bad
def lnC (μ : Mu) : Option Cell → R RV
  | some (.lst xs) => .ok (.fr (.int xs.length)) μ
  | _ => .bad
section
variable {μ : Mu}
theorem op_add (i j : Int) : op2 .add (.int i) (.int j) μ = .ok (.fr (.int (i + j))) μ := rfl
theorem op_sub (i j : Int) : op2 .sub (.int i) (.int j) μ = .ok (.fr (.int (i - j))) μ := rfl
theorem op_mul {i j : Int} (h : mulOk i j = true) : op2 .mul (.int i) (.int j) μ = .ok (.fr (.int (i * j))) μ := by simp [op2, guard', h, ret]
theorem op_fdiv {i j : Int} (h : divOk j = true) : op2 .fdiv (.int i) (.int j) μ = .ok (.fr (.int (i.fdiv j))) μ := by simp [op2, guard', h, ret]
theorem op_mod {i j : Int} (h : j ≠ 0) : op2 .mod (.int i) (.int j) μ = .ok (.fr (.int (i.fmod j))) μ := by simp [op2, guard', h, ret]
theorem op_pow {i j : Int} (h : 0 ≤ j) (h1 : j ≤ 1000) (h2 : i.natAbs < 18446744073709551616) : op2 .pow (.int i) (.int j) μ = .ok (.fr (.int (i ^ j.toNat))) μ := by simp [op2, guard', h, h1, h2, ret]
theorem op_addT {xs ys : List D} (h : xs.length + ys.length ≤ 16777216) : op2 .add (.tup xs) (.tup ys) μ = .ok (.fr (.tup (xs ++ ys))) μ := by simp [op2, guard', sizeOk, h, ret]
theorem op_addL {xs ys : List D} (h : xs.length + ys.length ≤ 16777216) : op2 .add (.lst xs) (.lst ys) μ = .ok (.own (xs ++ ys)) μ := by simp [op2, D.lis, guard', sizeOk, h, ret]
theorem eq_int (i j : Int) : cmp2 .eq (.int i) (.int j) μ = .ok (decide (i = j)) μ := by
  simp [cmp2, guard', D.see, D.eqk, ret, D.py, PySem.PyData.eqv]
  exact Bool.beq_eq_decide_eq i j
theorem ne_int (i j : Int) : cmp2 .ne (.int i) (.int j) μ = .ok (!decide (i = j)) μ := by
  simp [cmp2, guard', D.see, D.eqk, ret, D.py, PySem.PyData.eqv]
  exact Bool.beq_eq_decide_eq i j
theorem eq_str (x y : PySem.Str) : cmp2 .eq (.str x) (.str y) μ = .ok (decide (x = y)) μ := rfl
theorem ne_str (x y : PySem.Str) : cmp2 .ne (.str x) (.str y) μ = .ok (!decide (x = y)) μ := rfl
/-- what is shown of a thing -/
def shT (d : D) : D := .str d.py.shown
theorem repr_ok {d : D} (hs : d.see μ = d) (h1 : d.eqk 60 = true) (h2 : d.shk = true) (h3 : d.nodes ≤ 8000) : blt1 .repr d μ = .ok (.fr (shT d)) μ := by
  simp [blt1, hs, h1, h2, h3, guard', ret, shT]
theorem ne_shT_self (d : D) : cmp2 .ne (shT d) (shT d) μ = .ok false μ := by simp [shT, cmp2, ret]
theorem eq_shT_self (d : D) : cmp2 .eq (shT d) (shT d) μ = .ok true μ := by simp [shT, cmp2, ret]
theorem lt_int (i j : Int) : cmp2 .lt (.int i) (.int j) μ = .ok (decide (i < j)) μ := rfl
theorem le_int (i j : Int) : cmp2 .le (.int i) (.int j) μ = .ok (decide (i ≤ j)) μ := rfl
theorem gt_int (i j : Int) : cmp2 .gt (.int i) (.int j) μ = .ok (decide (j < i)) μ := rfl
theorem ge_int (i j : Int) : cmp2 .ge (.int i) (.int j) μ = .ok (decide (j ≤ i)) μ := rfl
theorem getIt_0 (x : D) (xs : List D) : getIt (.tup (x :: xs)) (.int 0) μ = .ok (.fr x) μ := by simp [getIt, D.seq, atI, ixN]
theorem getIt_tup {xs : List D} {i : Int} {x : D} (h : atI xs i = some x) : getIt (.tup xs) (.int i) μ = .ok (.fr x) μ := by simp [getIt, D.seq, h]
theorem getIt_lst {xs : List D} {i : Int} {x : D} (h : atI xs i = some x) : getIt (.lst xs) (.int i) μ = .ok (.fr x) μ := by simp [getIt, D.seq, h]
theorem getIt_cell {n : Nat} {xs : List D} {i : Int} {x : D} (hn : μ[n]? = some (.lst xs)) (h : atI xs i = some x) : getIt (.cell n) (.int i) μ = .ok (.fr x) μ := by simp [getIt, D.seq, hn, h]
theorem atI_nat {α : Type} {xs : List α} {n : Nat} {x : α} (h : xs[n]? = some x) : atI xs (n : Int) = some x := by
  have := (List.getElem?_eq_some_iff.mp h).1
  unfold atI ixN
  rw [if_pos (Int.natCast_nonneg _), if_pos (by omega)]
  simpa using h
theorem ixN_nat {n m : Nat} (h : n < m) : ixN m (n : Int) = some n := by
  unfold ixN
  rw [if_pos (Int.natCast_nonneg _), if_pos (by omega)]
  simp
theorem len_tup (xs : List D) : blt1 .len (.tup xs) μ = .ok (.fr (.int xs.length)) μ := rfl
theorem len_lst (xs : List D) : blt1 .len (.lst xs) μ = .ok (.fr (.int xs.length)) μ := rfl
theorem int_bl (b : Bool) : blt1 .int (.bl b) μ = .ok (.fr (.int (if b = true then 1 else 0))) μ := by cases b <;> rfl
theorem int_int (i : Int) : blt1 .int (.int i) μ = .ok (.fr (.int i)) μ := rfl
theorem list_cel (n : Nat) : blt1 .list (.cell n) μ = liC μ μ[n]? := by
  simp only [blt1, D.seq]
  cases μ[n]? with
  | none => rfl
  | some c => cases c <;> rfl
theorem liC_lst (xs : List D) : liC μ (some (.lst xs)) = .ok (.own xs) μ := rfl
theorem len_cel (n : Nat) : blt1 .len (.cell n) μ = lnC μ μ[n]? := by
  simp only [blt1, D.see]
  cases μ[n]? with
  | none => rfl
  | some c => cases c <;> rfl
theorem lnC_lst (xs : List D) : lnC μ (some (.lst xs)) = .ok (.fr (.int xs.length)) μ := rfl
theorem abs_int (i : Int) : blt1 .abs (.int i) μ = .ok (.fr (.int (if i < 0 then -i else i))) μ := rfl
theorem list_tup (xs : List D) : blt1 .list (.tup xs) μ = .ok (.own xs) μ := rfl
theorem list_lst (xs : List D) : blt1 .list (.lst xs) μ = .ok (.own xs) μ := rfl
theorem tuple_lst (xs : List D) : blt1 .tuple (.lst xs) μ = .ok (.fr (.tup xs)) μ := rfl
theorem tuple_tup (xs : List D) : blt1 .tuple (.tup xs) μ = .ok (.fr (.tup xs)) μ := rfl
end
/-! ## loops -/
theorem forR_nil (f : D → Env → Mu → RS) (ρ : Env) (μ : Mu) : forR f [] ρ μ = .nx ρ μ := rfl
def forS (f : D → Env → Mu → RS) (xs : List D) (ρ : Env) : RS → RS
  | .nx ρ' μ' => forR f xs (mask ρ ρ') μ'
  | r => r
theorem forR_cons (f : D → Env → Mu → RS) (x : D) (xs : List D) (ρ : Env) (μ : Mu) : forR f (x :: xs) ρ μ = forS f xs ρ (f x ρ μ) := by
  show (match f x ρ μ with | .nx ρ' μ' => forR f xs (mask ρ ρ') μ' | r => r) = _
  cases f x ρ μ <;> rfl
theorem forS_nx (f : D → Env → Mu → RS) (xs : List D) (ρ ρ' : Env) (μ : Mu) : forS f xs ρ (.nx ρ' μ) = forR f xs (mask ρ ρ') μ := rfl
theorem forS_rt (f : D → Env → Mu → RS) (xs : List D) (ρ : Env) (r : RV) (μ : Mu) : forS f xs ρ (.rt r μ) = .rt r μ := rfl
theorem turnF_nm (i : Nat) (mb : Env → Mu → RS) (x : D) (ρ : Env) (μ : Mu) (h : i < ρ.length) : turnF (.nm i) mb x ρ μ = mb (ρ.set i (some (.fr x))) μ := by simp [turnF, bindT, h]
/-- a walk that goes on, by what holds between two turns -/
theorem forR_inv {f : D → Env → Mu → RS} {xs : List D} (I : Nat → Env → Mu → Prop) {ρ : Env} {μ : Mu} (h0 : I 0 ρ μ) (hs : ∀ (i : Nat) x ρ μ, xs[i]? = some x → I i ρ μ → ∃ ρ' μ', f x ρ μ = .nx ρ' μ' ∧ I (i + 1) (mask ρ ρ') μ') :
    ∃ ρ' μ', forR f xs ρ μ = .nx ρ' μ' ∧ I xs.length ρ' μ' := by
  have aux : ∀ (n i : Nat) ρ μ, i + n = xs.length → I i ρ μ → ∃ ρ' μ', forR f (xs.drop i) ρ μ = .nx ρ' μ' ∧ I xs.length ρ' μ' := by
    intro n
    induction n with
    | zero =>
      intro i ρ μ hi h
      have : i = xs.length := by omega
      subst this
      rw [List.drop_length]
      exact ⟨ρ, μ, rfl, h⟩
    | succ n ih =>
      intro i ρ μ hi h
      have hlt : i < xs.length := by omega
      rw [List.drop_eq_getElem_cons hlt, forR_cons]
      obtain ⟨ρ', μ', e, h'⟩ := hs i xs[i] ρ μ (List.getElem?_eq_getElem hlt) h
      rw [e, forS_nx]
      exact ih (i + 1) _ _ (by omega) h'
  simpa using aux xs.length 0 ρ μ (by omega) h0
/-- what is wanted of a turn's end -/
def nxP (r : RS) (P : Env → Mu → Prop) : Prop := match r with
  | .nx ρ μ => P ρ μ
  | _ => False
theorem nxP_nx (ρ : Env) (μ : Mu) (P : Env → Mu → Prop) : nxP (.nx ρ μ) P = P ρ μ := rfl
theorem nxP_ex {r : RS} {P : Env → Mu → Prop} (h : nxP r P) : ∃ ρ μ, r = .nx ρ μ ∧ P ρ μ := by
  cases r with
  | nx ρ μ => exact ⟨ρ, μ, rfl, h⟩
  | _ => exact h.elim
/-- the same, under what is wanted of it -/
theorem forR_use {f : D → Env → Mu → RS} {xs : List D} {ρ : Env} {μ : Mu} {P : RS → Prop} (I : Nat → Env → Mu → Prop) (h0 : I 0 ρ μ) (hs : ∀ (i : Nat) x ρ μ, xs[i]? = some x → I i ρ μ → nxP (f x ρ μ) fun ρ' μ' => I (i + 1) (mask ρ ρ') μ')
    (hP : ∀ ρ' μ', I xs.length ρ' μ' → P (.nx ρ' μ')) : P (forR f xs ρ μ) := by
  obtain ⟨ρ', μ', e, h⟩ := forR_inv I h0 fun i x ρ μ hx hi => nxP_ex (hs i x ρ μ hx hi)
  rw [e]
  exact hP ρ' μ' h
/-- a walk over a cell, by what holds between two turns -/
theorem forH_use {h : Hd} {f : D → Env → Mu → RS} {xs : List D} {ρ : Env} {μ : Mu} {P : RS → Prop} (I : Nat → Env → Mu → Prop) (hH : ∀ i ρ μ, I i ρ μ → Held h μ) (h0 : I 0 ρ μ) (hs : ∀ (i : Nat) x ρ μ, xs[i]? = some x → I i ρ μ → nxP (f x ρ μ) fun ρ' μ' => I (i + 1) (mask ρ ρ') μ')
    (hP : ∀ ρ' μ', I xs.length ρ' μ' → P (.nx ρ' μ')) : P (forH h f xs ρ μ) := by
  have aux : ∀ (n i : Nat) ρ μ, i + n = xs.length → I i ρ μ → ∃ ρ' μ', forH h f (xs.drop i) ρ μ = .nx ρ' μ' ∧ I xs.length ρ' μ' := by
    intro n
    induction n with
    | zero =>
      intro i ρ μ hi h
      have : i = xs.length := by omega
      subst this
      rw [List.drop_length]
      exact ⟨ρ, μ, by simp only [forH, if_pos (hH _ _ _ h)], h⟩
    | succ n ih =>
      intro i ρ μ hi h'
      have hlt : i < xs.length := by omega
      rw [List.drop_eq_getElem_cons hlt]
      obtain ⟨ρ', μ', e, h''⟩ := nxP_ex (hs i xs[i] ρ μ (List.getElem?_eq_getElem hlt) h')
      simp only [forH, if_pos (hH _ _ _ h'), e]
      exact ih (i + 1) _ _ (by omega) h''
  obtain ⟨ρ', μ', e, h'⟩ := aux xs.length 0 ρ μ (by omega) h0
  rw [List.drop_zero] at e
  rw [e]
  exact hP ρ' μ' h'
theorem Held_one {n : Nat} {xs : List D} {μ : Mu} (h : μ[n]? = some (.lst xs)) : Held [(n, xs)] μ := fun p hp => by
  rw [List.mem_singleton.mp hp]; exact ⟨xs, h, rfl⟩
/-- a walk that folds a state -/
theorem forR_fold {σ : Type} {f : D → Env → Mu → RS} (E : σ → Env) (Ms : σ → Mu) (g : σ → D → σ) : ∀ (xs : List D) (s : σ), (∀ (pre post : List D) x, xs = pre ++ x :: post → ∃ ρ', f x (E (pre.foldl g s)) (Ms (pre.foldl g s)) = .nx ρ' (Ms (g (pre.foldl g s) x)) ∧ mask (E (pre.foldl g s)) ρ' = E (g (pre.foldl g s) x)) →
    forR f xs (E s) (Ms s) = .nx (E (xs.foldl g s)) (Ms (xs.foldl g s))
  | [], s, _ => rfl
  | x :: xs, s, h => by
    obtain ⟨ρ', e1, e2⟩ := h [] xs x rfl
    simp only [List.foldl_nil] at e1 e2
    rw [forR_cons, e1, forS_nx, e2, List.foldl_cons]
    refine forR_fold E Ms g xs (g s x) fun pre post y e => ?_
    have := h (x :: pre) post y (by rw [e]; rfl)
    simpa only [List.foldl_cons] using this
/-- a comprehension whose turns change nothing -/
theorem compR_map {f : D → M (Option D)} (g : D → Option D) {μ : Mu} : ∀ {xs : List D}, (∀ x ∈ xs, f x μ = .ok (g x) μ) → compR f xs μ = .ok (xs.filterMap g) μ
  | [], _ => rfl
  | x :: xs, h => by
    have e1 := h x List.mem_cons_self
    have e2 := compR_map (xs := xs) g fun y hy => h y (List.mem_cons_of_mem _ hy)
    simp only [compR, bnd, e1, e2, ret, List.filterMap_cons]
    cases g x <;> rfl
theorem compH_map {h : Hd} {f : D → M (Option D)} (g : D → Option D) {μ : Mu} (hh : Held h μ) : ∀ {xs : List D}, (∀ x ∈ xs, f x μ = .ok (g x) μ) → compH h f xs μ = .ok (xs.filterMap g) μ
  | [], _ => by simp only [compH, if_pos hh]; rfl
  | x :: xs, hx => by
    have e1 := hx x List.mem_cons_self
    have e2 := compH_map (xs := xs) g hh fun y hy => hx y (List.mem_cons_of_mem _ hy)
    simp only [compH, if_pos hh, bnd, e1, e2, ret, List.filterMap_cons]
    cases g x <;> rfl
/-- a comprehension by what holds between two turns (the things so far) -/
theorem compR_inv {f : D → M (Option D)} {xs : List D} (I : Nat → List D → Mu → Prop) {μ : Mu} (h0 : I 0 [] μ) (hs : ∀ (i : Nat) x ys μ, xs[i]? = some x → I i ys μ → ∃ y μ', f x μ = .ok y μ' ∧ I (i + 1) (ys ++ y.toList) μ') :
    ∃ ys μ', compR f xs μ = .ok ys μ' ∧ I xs.length ys μ' := by
  have aux : ∀ (n i : Nat) ys μ, i + n = xs.length → I i ys μ → ∃ zs μ', compR f (xs.drop i) μ = .ok zs μ' ∧ I xs.length (ys ++ zs) μ' := by
    intro n
    induction n with
    | zero =>
      intro i ys μ hi h
      have : i = xs.length := by omega
      subst this
      rw [List.drop_length]
      exact ⟨[], μ, rfl, by simpa using h⟩
    | succ n ih =>
      intro i ys μ hi h
      have hlt : i < xs.length := by omega
      rw [List.drop_eq_getElem_cons hlt]
      obtain ⟨y, μ', e, h'⟩ := hs i xs[i] ys μ (List.getElem?_eq_getElem hlt) h
      obtain ⟨zs, μ'', e2, h2⟩ := ih (i + 1) _ _ (by omega) h'
      refine ⟨y.toList ++ zs, μ'', ?_, by rw [← List.append_assoc]; exact h2⟩
      simp only [compR, bnd, e, e2, ret]
      cases y <;> rfl
  obtain ⟨zs, μ', e, h⟩ := aux xs.length 0 [] μ (by omega) h0
  exact ⟨zs, μ', by simpa using e, by simpa using h⟩
/-! ### a while, by what it does in one turn -/
theorem while_go {C : Callee} {c : Tm} {b : Blk} {ρ ρ' : Env} {μ μ' μ1 : Mu} (hc : ev C c ρ μ = .ok (.fr (.bl true)) μ1) (hb : exB C b ρ μ1 = .nx ρ' μ') : whileR (turnW (ev C c) (exB C b)) ρ μ = whileR (turnW (ev C c) (exB C b)) (mask ρ ρ') μ' := by
  rw [whileR_eq]
  simp [turnW, bnd, hc, RV.d, asBool, ret, hb]
theorem while_end {C : Callee} {c : Tm} {b : Blk} {ρ : Env} {μ μ1 : Mu} (hc : ev C c ρ μ = .ok (.fr (.bl false)) μ1) : whileR (turnW (ev C c) (exB C b)) ρ μ = .nx ρ μ1 := by
  rw [whileR_eq]
  simp [turnW, bnd, hc, RV.d, asBool, ret]
theorem while_ret {C : Callee} {c : Tm} {b : Blk} {ρ : Env} {μ μ' μ1 : Mu} {r : RV} (hc : ev C c ρ μ = .ok (.fr (.bl true)) μ1) (hb : exB C b ρ μ1 = .rt r μ') : whileR (turnW (ev C c) (exB C b)) ρ μ = .rt r μ' := by
  rw [whileR_eq]
  simp [turnW, bnd, hc, RV.d, asBool, ret, hb]
/-! ## names, indices, as steps -/
def frzO (i : Nat) (ρ : Env) : Option (Option RV) → Env
  | some (some r) => ρ.set i (some (.fr r.d))
  | _ => ρ
theorem frz_nil (ρ : Env) : frz [] ρ = ρ := rfl
theorem frz_cons (i : Nat) (is : List Nat) (ρ : Env) : frz (i :: is) ρ = frz is (frzO i ρ ρ[i]?) := by
  show frz is (match ρ[i]? with
    | some (some r) => ρ.set i (some (.fr r.d))
    | _ => ρ) = _
  cases ρ[i]? with
  | none => rfl
  | some o => cases o <;> rfl
theorem frzO_some (i : Nat) (ρ : Env) (r : RV) : frzO i ρ (some (some r)) = ρ.set i (some (.fr r.d)) := rfl
theorem frzO_none (i : Nat) (ρ : Env) : frzO i ρ (some none) = ρ := rfl
theorem mask_nil : mask [] [] = [] := rfl
theorem mask_none (ρ : Env) (x : Option RV) (σ : Env) : mask (none :: ρ) (x :: σ) = none :: mask ρ σ := rfl
theorem mask_some (r : RV) (ρ : Env) (x : Option RV) (σ : Env) : mask (some r :: ρ) (x :: σ) = x :: mask ρ σ := rfl
theorem wipe_nil (ρ : Env) : wipe [] ρ = ρ := rfl
theorem wipe_cons (i : Nat) (is : List Nat) (ρ : Env) : wipe (i :: is) ρ = (wipe is ρ).set i none := rfl
def gX : Option D → M RV
  | some x => ret (.fr x)
  | none => bad
theorem gX_some (x : D) (μ : Mu) : gX (some x) μ = .ok (.fr x) μ := rfl
theorem ixN_ge {n : Nat} {i : Int} (h : 0 ≤ i) (h2 : i.toNat < n) : ixN n i = some i.toNat := by
  unfold ixN
  rw [if_pos h, if_pos (by omega)]
theorem atI_ge {α : Type} {xs : List α} {i : Int} (h : 0 ≤ i) : atI xs i = xs[i.toNat]? := by
  unfold atI ixN
  rw [if_pos h]
  by_cases h2 : i < xs.length
  · rw [if_pos h2]; rfl
  · rw [if_neg h2]
    symm
    simp only [Option.bind_none, List.getElem?_eq_none_iff]
    omega
theorem atI_neg {α : Type} {xs : List α} {i : Int} (h : i < 0) (h2 : -(xs.length : Int) ≤ i) : atI xs i = xs[(i + xs.length).toNat]? := by
  unfold atI ixN
  rw [if_neg (by omega), if_pos h2]
  rfl
theorem gX_at {xs : List D} {i : Int} {μ : Mu} {a : D} (h : a.seq μ = some xs) : getIt a (.int i) μ = gX (atI xs i) μ := by
  simp only [getIt, h]
  cases atI xs i <;> rfl
theorem getT {xs : List D} {i : Int} {μ : Mu} (h : 0 ≤ i) : getIt (.tup xs) (.int i) μ = gX xs[i.toNat]? μ := by rw [gX_at rfl, atI_ge h]
theorem getL {xs : List D} {i : Int} {μ : Mu} (h : 0 ≤ i) : getIt (.lst xs) (.int i) μ = gX xs[i.toNat]? μ := by rw [gX_at rfl, atI_ge h]
def gC (μ : Mu) (i : Int) : Option Cell → M RV
  | some (.lst xs) => gX (atI xs i)
  | _ => bad
theorem getC (n : Nat) (i : Int) (μ : Mu) : getIt (.cell n) (.int i) μ = gC μ i μ[n]? μ := by
  simp only [getIt, D.seq]
  cases μ[n]? with
  | none => rfl
  | some c => cases c with
    | lst xs =>
      simp only [gC]
      cases atI xs i <;> rfl
    | _ => rfl
theorem gC_lst {xs : List D} {i : Int} {μ μ' : Mu} (h : 0 ≤ i) : gC μ' i (some (.lst xs)) μ = gX xs[i.toNat]? μ := by
  simp only [gC, atI_ge h]
def sO (ρ : Env) (x : Nat) (d : D) (xs : List D) (μ : Mu) : Option Nat → RS
  | some j => .nx (ρ.set x (some (.own (xs.set j d)))) μ
  | none => .bad
theorem setO_ap (ρ : Env) (x : Nat) (j : Int) (d : D) (xs : List D) (μ : Mu) : setO ρ x j d μ (some (some (.own xs))) = sO ρ x d xs μ (ixN xs.length j) := by
  simp only [setO]
  cases ixN xs.length j <;> rfl
theorem sO_some (ρ : Env) (x : Nat) (d : D) (xs : List D) (μ : Mu) (j : Nat) : sO ρ x d xs μ (some j) = .nx (ρ.set x (some (.own (xs.set j d)))) μ := rfl
def sC (ρ : Env) (n : Nat) (d : D) (xs : List D) (μ : Mu) : Option Nat → RS
  | some j => .nx ρ (μ.set n (.lst (xs.set j d)))
  | none => .bad
theorem setC_ap (ρ : Env) (μ : Mu) (n : Nat) (j : Int) (d : D) (xs : List D) : setCell ρ μ n j d (some (.lst xs)) = sC ρ n d xs μ (ixN xs.length j) := by
  simp only [setCell]
  cases ixN xs.length j <;> rfl
theorem sC_some (ρ : Env) (n : Nat) (d : D) (xs : List D) (μ : Mu) (j : Nat) : sC ρ n d xs μ (some j) = .nx ρ (μ.set n (.lst (xs.set j d))) := rfl
def asT (μ : Mu) : Option Env → RS
  | some ρ => .nx ρ μ
  | none => .bad
theorem kAsT_ap (tg : Tg) (ρ : Env) (r : RV) (μ : Mu) : kAsT tg ρ r μ = asT μ (bindT tg r.d ρ) := by
  unfold kAsT
  cases bindT tg r.d ρ <;> rfl
theorem asT_some (ρ : Env) (μ : Mu) : asT μ (some ρ) = .nx ρ μ := rfl
theorem bindT_nm (i : Nat) (d : D) (ρ : Env) (h : i < ρ.length) : bindT (.nm i) d ρ = some (ρ.set i (some (.fr d))) := by simp only [bindT, if_pos h]
theorem bindT_tup (a b : Tg) (xs : List D) (ρ : Env) : bindT (.cons a b) (.tup xs) ρ = bindTs (.cons a b) xs ρ := by simp only [bindT]
def bO (b : Tg) (xs : List D) : Option Env → Option Env
  | some ρ => bindTs b xs ρ
  | none => none
theorem bindTs_cons (a b : Tg) (x : D) (xs : List D) (ρ : Env) : bindTs (.cons a b) (x :: xs) ρ = bO b xs (bindT a x ρ) := by
  simp only [bindTs]
  cases bindT a x ρ <;> rfl
theorem bO_some (b : Tg) (xs : List D) (ρ : Env) : bO b xs (some ρ) = bindTs b xs ρ := rfl
theorem bindTs_nil (ρ : Env) : bindTs .nil [] ρ = some ρ := by simp only [bindTs]
def tFo (mb : Env → Mu → RS) (μ : Mu) : Option Env → RS
  | some ρ => mb ρ μ
  | none => .bad
theorem turnF_ap (tg : Tg) (mb : Env → Mu → RS) (x : D) (ρ : Env) (μ : Mu) : turnF tg mb x ρ μ = tFo mb μ (bindT tg x ρ) := by
  unfold turnF
  cases bindT tg x ρ <;> rfl
theorem tFo_some (mb : Env → Mu → RS) (μ : Mu) (ρ : Env) : tFo mb μ (some ρ) = mb ρ μ := rfl
theorem cT_ap {C : Callee} (e : Tm) (tg : Tg) (cs : Tms) (ws : List Nat) (ρ : Env) (x : D) (μ : Mu) : cT C e tg cs ws ρ x μ = cTo C e cs (bindT tg x (wipe ws ρ)) μ := rfl
theorem cTo_some {C : Callee} (e : Tm) (cs : Tms) (ρ : Env) (μ : Mu) : cTo C e cs (some ρ) μ = rb (evA C cs ρ μ) (cT2 C e ρ) := rfl
def cT3 (r : RV) : M (Option D) := ret (some r.d)
theorem cT2_t {C : Callee} (e : Tm) (ρ : Env) (μ : Mu) : cT2 C e ρ true μ = rb (ev C e ρ μ) cT3 := rfl
theorem cT2_f {C : Callee} (e : Tm) (ρ : Env) (μ : Mu) : cT2 C e ρ false μ = .ok none μ := rfl
theorem cT3_fr (d : D) (μ : Mu) : cT3 (.fr d) μ = .ok (some d) μ := rfl
theorem cT3_own (xs : List D) (μ : Mu) : cT3 (.own xs) μ = .ok (some (.lst xs)) μ := rfl
theorem start_eq (c : Fn) (ds : List D) : startE c ds = ds.map (fun d => some (.fr d)) ++ List.replicate (c.ns - ds.length) none := rfl
theorem rep_zero {α : Type} (a : α) : List.replicate 0 a = [] := rfl
theorem isin_ty {ts : List Ty} {x : D} {μ : Mu} (h : ∀ n, x ≠ .cell n) (h2 : ∀ c fs, x ≠ .exc c fs) : isin ts x μ = .ok (.fr (.bl (ts.any (isTy x)))) μ := by
  unfold isin
  cases x <;> first | rfl | exact absurd rfl (h _) | exact absurd rfl (h2 _ _)
end
end Sx
set_option maxHeartbeats 200000
namespace Sx
def g0 : Fn := ⟨1, 1, (.cons (.ret [] (.con (.cons (.isi (.var 0) [.int]) (.cons (.not (.isi (.var 0) [.bool])) .nil)))) .nil)⟩
def g1 : Fn := ⟨2, 2, (.cons (.asg [] (.nm 0) (.blt .abs (.var 0))) (.cons (.asg [] (.nm 1) (.blt .abs (.var 1))) (.cons (.whl [] (.cmp .ne (.var 1) (.cst (.int 0))) (.cons (.par [] 0 1 (.var 1) (.op .mod (.var 0) (.var 1))) .nil)) (.cons (.ret [] (.var 0)) .nil))))⟩
def g4 : Fn := ⟨1, 1, (.cons (.ret [] (.cel (.cons (.blt .list (.slc (.var 0) .mis (.cst (.int 63)))) (.cons (.cst (.int 0)) (.cons (.cst (.int 0)) (.cons (.cst (.int 0)) .nil)))))) .nil)⟩
def g5 : Fn := ⟨2, 5, (.cons (.setc [] (.var 0) (.cst (.int 1)) (.op .add (.idx (.var 0) (.cst (.int 1))) (.cst (.int 1)))) (.cons (.whl [] (.con (.cons (.cmp .eq (.idx (.var 0) (.cst (.int 2))) (.cst (.int 0))) (.cons (.cmp .lt (.idx (.var 0) (.cst (.int 3))) (.blt .len (.idx (.var 0) (.cst (.int 0))))) .nil))) (.cons (.ite [] (.cmp .ge (.blt .abs (.idx (.idx (.var 0) (.cst (.int 0))) (.idx (.var 0) (.cst (.int 3))))) (.op .pow (.cst (.int 10)) (.cst (.int 18)))) (.cons (.setc [] (.var 0) (.cst (.int 2)) (.blt .abs (.idx (.idx (.var 0) (.cst (.int 0))) (.idx (.var 0) (.cst (.int 3)))))) .nil) .nil) (.cons (.setc [] (.var 0) (.cst (.int 3)) (.op .add (.idx (.var 0) (.cst (.int 3))) (.cst (.int 1)))) .nil))) (.cons (.ite [] (.cmp .gt (.idx (.var 0) (.cst (.int 2))) (.cst (.int 0))) (.cons (.asg [] (.nm 2) (.op .mod (.idx (.var 0) (.cst (.int 2))) (.var 1))) (.cons (.setc [] (.var 0) (.cst (.int 2)) (.op .fdiv (.idx (.var 0) (.cst (.int 2))) (.var 1))) (.cons (.ret [] (.var 2)) .nil))) .nil) (.cons (.asg [] (.nm 3) (.cst (.int 0))) (.cons (.ite [] (.cmp .gt (.blt .len (.idx (.var 0) (.cst (.int 0)))) (.cst (.int 0))) (.cons (.asg [] (.nm 3) (.idx (.idx (.var 0) (.cst (.int 0))) (.op .mod (.idx (.var 0) (.cst (.int 1))) (.blt .len (.idx (.var 0) (.cst (.int 0))))))) .nil) .nil) (.cons (.asg [] (.nm 4) (.op .mod (.op .add (.op .add (.op .mul (.op .mod (.var 3) (.cst (.int 2147483647))) (.cst (.int 48271))) (.op .mul (.cst (.int 7919)) (.idx (.var 0) (.cst (.int 1))))) (.cst (.int 12345))) (.cst (.int 2147483629)))) (.cons (.asg [] (.nm 4) (.op .mod (.op .mul (.var 4) (.op .add (.var 4) (.cst (.int 40692)))) (.cst (.int 2147483587)))) (.cons (.ret [] (.op .mod (.op .mod (.op .mul (.var 4) (.cst (.int 16807))) (.cst (.int 2147483563))) (.var 1))) .nil))))))))⟩
def g6 : Fn := ⟨1, 2, (.cons (.asg [] (.nm 1) (.idx (.lst (.cons (.cst (.int 5)) (.cons (.cst (.int 5)) (.cons (.cst (.int 12)) (.cons (.op .pow (.cst (.int 10)) (.cst (.int 30))) (.cons (.op .pow (.cst (.int 10)) (.cst (.int 59))) .nil)))))) (.call 5 (.cons (.var 0) (.cons (.cst (.int 5)) .nil))))) (.cons (.ret [] (.op .sub (.call 5 (.cons (.var 0) (.cons (.op .add (.op .mul (.cst (.int 2)) (.var 1)) (.cst (.int 1))) .nil))) (.var 1))) .nil))⟩
def g8 : Fn := ⟨1, 3, (.cons (.ite [] (.dis (.cons (.not (.isi (.var 0) [.tuple])) (.cons (.cmp .ne (.blt .len (.var 0)) (.cst (.int 2))) (.cons (.not (.call 0 (.cons (.idx (.var 0) (.cst (.int 0))) .nil))) (.cons (.not (.call 0 (.cons (.idx (.var 0) (.cst (.int 1))) .nil))) .nil))))) (.cons (.ret [] (.cst (.bl false))) .nil) .nil) (.cons (.ite [] (.cmp .lt (.idx (.var 0) (.cst (.int 1))) (.cst (.int 1))) (.cons (.ret [] (.cst (.bl false))) .nil) .nil) (.cons (.par [] 1 2 (.blt .abs (.idx (.var 0) (.cst (.int 0)))) (.idx (.var 0) (.cst (.int 1)))) (.cons (.whl [] (.cmp .ne (.var 2) (.cst (.int 0))) (.cons (.par [] 1 2 (.var 2) (.op .mod (.var 1) (.var 2))) .nil)) (.cons (.ret [] (.cmp .eq (.var 1) (.cst (.int 1)))) .nil)))))⟩
def g11 : Fn := ⟨2, 3, (.cons (.ite [] (.cmp .eq (.var 1) (.cst (.int 0))) (.cons (.rai) .nil) .nil) (.cons (.asg [] (.nm 2) (.call 1 (.cons (.var 0) (.cons (.var 1) .nil)))) (.cons (.ite [] (.cmp .lt (.var 1) (.cst (.int 0))) (.cons (.asg [] (.nm 2) (.op .sub (.cst (.int 0)) (.var 2))) .nil) .nil) (.cons (.ret [] (.tup (.cons (.op .fdiv (.var 0) (.var 2)) (.cons (.op .fdiv (.var 1) (.var 2)) .nil)))) .nil))))⟩
def g12 : Fn := ⟨2, 2, (.cons (.ret [] (.call 11 (.cons (.op .add (.op .mul (.idx (.var 0) (.cst (.int 0))) (.idx (.var 1) (.cst (.int 1)))) (.op .mul (.idx (.var 1) (.cst (.int 0))) (.idx (.var 0) (.cst (.int 1))))) (.cons (.op .mul (.idx (.var 0) (.cst (.int 1))) (.idx (.var 1) (.cst (.int 1)))) .nil)))) .nil)⟩
def g13 : Fn := ⟨2, 2, (.cons (.ret [] (.cmp .lt (.op .mul (.idx (.var 0) (.cst (.int 0))) (.idx (.var 1) (.cst (.int 1)))) (.op .mul (.idx (.var 1) (.cst (.int 0))) (.idx (.var 0) (.cst (.int 1)))))) .nil)⟩
def g14 : Fn := ⟨1, 3, (.cons (.asg [] (.nm 1) (.glo "NOUGHT" (.tup [(.int 0), (.int 1)]))) (.cons (.loop [] (.nm 2) (.var 0) (.cons (.asg [] (.nm 1) (.call 12 (.cons (.var 1) (.cons (.var 2) .nil)))) .nil)) (.cons (.ret [] (.var 1)) .nil)))⟩
def g16 : Fn := ⟨2, 4, (.cons (.par [] 2 3 (.blt .abs (.var 0)) (.var 1)) (.cons (.whl [] (.cmp .ne (.var 3) (.cst (.int 0))) (.cons (.par [] 2 3 (.var 3) (.op .mod (.var 2) (.var 3))) .nil)) (.cons (.ret [] (.tup (.cons (.op .fdiv (.var 0) (.var 2)) (.cons (.op .fdiv (.var 1) (.var 2)) .nil)))) .nil)))⟩
def g22 : Fn := ⟨2, 2, (.cons (.ret [] (.call 11 (.cons (.op .mul (.idx (.var 0) (.cst (.int 0))) (.idx (.var 1) (.cst (.int 0)))) (.cons (.op .mul (.idx (.var 0) (.cst (.int 1))) (.idx (.var 1) (.cst (.int 1)))) .nil)))) .nil)⟩
def g23 : Fn := ⟨2, 2, (.cons (.ret [] (.call 11 (.cons (.op .mul (.idx (.var 0) (.cst (.int 0))) (.idx (.var 1) (.cst (.int 1)))) (.cons (.op .mul (.idx (.var 0) (.cst (.int 1))) (.idx (.var 1) (.cst (.int 0)))) .nil)))) .nil)⟩
def g24 : Fn := ⟨3, 7, (.cons (.asg [] (.nm 3) (.glo "ONE" (.tup [(.int 1), (.int 1)]))) (.cons (.loop [] (.cons (.nm 4) (.cons (.nm 5) .nil)) (.zip (.idx (.idx (.idx (.var 0) (.cst (.int 1))) (.var 1)) (.cst (.int 1))) (.var 2)) (.cons (.loop [] (.nm 6) (.rng1 (.var 5)) (.cons (.asg [] (.nm 3) (.call 22 (.cons (.var 3) (.cons (.var 4) .nil)))) .nil)) .nil)) (.cons (.ret [] (.var 3)) .nil)))⟩
def g25 : Fn := ⟨3, 7, (.cons (.asg [] (.nm 4) (.comp (.call 22 (.cons (.idx (.var 1) (.var 3)) (.cons (.call 24 (.cons (.var 0) (.cons (.var 3) (.cons (.var 2) .nil)))) .nil))) (.nm 3) (.rng1 (.blt .len (.idx (.var 0) (.cst (.int 1))))) .nil [3])) (.cons (.asg [4] (.nm 5) (.call 14 (.cons (.var 4) .nil))) (.cons (.ite [] (.cmp .eq (.var 5) (.glo "NOUGHT" (.tup [(.int 0), (.int 1)]))) (.cons (.ret [] (.cst .non)) .nil) .nil) (.cons (.ret [4] (.blt .tuple (.comp (.call 23 (.cons (.var 6) (.cons (.var 5) .nil))) (.nm 6) (.var 4) .nil [6]))) .nil))))⟩
def g26 : Fn := ⟨2, 6, (.cons (.asg [] (.nm 2) (.idx (.lst (.cons (.cst (.int 6)) (.cons (.cst (.int 6)) (.cons (.cst (.int 200)) .nil)))) (.call 5 (.cons (.var 0) (.cons (.cst (.int 3)) .nil))))) (.cons (.asg [] (.nm 4) (.comp (.op .mul (.call 5 (.cons (.var 0) (.cons (.var 2) .nil))) (.call 5 (.cons (.var 0) (.cons (.cst (.int 4)) .nil)))) (.nm 3) (.rng1 (.var 1)) .nil [3])) (.cons (.asg [4] (.nm 4) (.comp (.op .mod (.var 5) (.op .add (.var 2) (.cst (.int 1)))) (.nm 5) (.var 4) .nil [5])) (.cons (.setv [] 4 (.call 5 (.cons (.var 0) (.cons (.var 1) .nil))) (.op .add (.cst (.int 1)) (.call 5 (.cons (.var 0) (.cons (.var 2) .nil))))) (.cons (.ret [4] (.blt .tuple (.comp (.call 16 (.cons (.var 5) (.cons (.blt .sum (.var 4)) .nil))) (.nm 5) (.var 4) .nil [5]))) .nil)))))⟩
def g27 : Fn := ⟨1, 6, (.cons (.asg [] (.nm 1) (.lst (.cons (.cst (.str "a")) (.cons (.cst (.str "ab")) (.cons (.cst (.str "ways")) (.cons (.cst (.str "onto")) (.cons (.cst (.str "abc")) (.cons (.cst (.str "sayer")) (.cons (.cst (.str "ruler")) (.cons (.cst (.str "b")) (.cons (.cst (.str "prices")) (.cons (.cst (.str "worthy")) (.cons (.cst (.str "nones")) (.cons (.cst (.str "zzzzzzzz")) .nil)))))))))))))) (.cons (.asg [] (.nm 2) (.call 5 (.cons (.var 0) (.cons (.cst (.int 12)) .nil)))) (.cons (.asg [] (.nm 1) (.op .add (.slc (.var 1) (.var 2) .mis) (.slc (.var 1) .mis (.var 2)))) (.cons (.asg [] (.nm 3) (.slc (.var 1) .mis (.idx (.lst (.cons (.cst (.int 2)) (.cons (.cst (.int 2)) (.cons (.cst (.int 3)) (.cons (.cst (.int 4)) .nil))))) (.call 5 (.cons (.var 0) (.cons (.cst (.int 4)) .nil)))))) (.cons (.asg [] (.nm 4) (.slc (.slc (.var 1) (.idx (.lst (.cons (.cst (.int 0)) (.cons (.cst (.int 2)) (.cons (.cst (.int 5)) .nil)))) (.call 5 (.cons (.var 0) (.cons (.cst (.int 3)) .nil)))) .mis) .mis (.idx (.lst (.cons (.cst (.int 2)) (.cons (.cst (.int 2)) (.cons (.cst (.int 3)) (.cons (.cst (.int 4)) .nil))))) (.call 5 (.cons (.var 0) (.cons (.cst (.int 4)) .nil)))))) (.cons (.ret [4] (.tup (.cons (.blt .tuple (.var 3)) (.cons (.blt .tuple (.comp (.tup (.cons (.var 5) (.cons (.call 26 (.cons (.var 0) (.cons (.blt .len (.var 3)) .nil))) .nil))) (.nm 5) (.var 4) .nil [5])) .nil)))) .nil))))))⟩
def g28 : Fn := ⟨3, 8, (.cons (.asg [] (.cons (.nm 3) (.cons (.nm 4) .nil)) (.tup (.cons (.cst (.int 1)) (.cons (.cst (.int 1)) .nil)))) (.cons (.loop [] (.cons (.nm 5) (.cons (.nm 6) .nil)) (.zip (.idx (.idx (.idx (.var 0) (.cst (.int 1))) (.var 1)) (.cst (.int 1))) (.var 2)) (.cons (.loop [] (.nm 7) (.rng1 (.var 6)) (.cons (.asg [] (.nm 3) (.op .mul (.var 3) (.idx (.var 5) (.cst (.int 0))))) (.cons (.asg [] (.nm 4) (.op .mul (.var 4) (.idx (.var 5) (.cst (.int 1))))) .nil))) .nil)) (.cons (.ret [3, 4] (.tup (.cons (.var 3) (.cons (.var 4) .nil)))) .nil)))⟩
def g29 : Fn := ⟨3, 11, (.cons (.asg [] (.nm 3) (.lst .nil)) (.cons (.loop [] (.nm 4) (.rng1 (.blt .len (.idx (.var 0) (.cst (.int 1))))) (.cons (.asg [] (.cons (.nm 5) (.cons (.nm 6) .nil)) (.call 28 (.cons (.var 0) (.cons (.var 4) (.cons (.var 2) .nil))))) (.cons (.mutv [] .append 3 (.cons (.tup (.cons (.op .mul (.idx (.idx (.var 1) (.var 4)) (.cst (.int 0))) (.var 5)) (.cons (.op .mul (.idx (.idx (.var 1) (.var 4)) (.cst (.int 1))) (.var 6)) .nil))) .nil)) .nil))) (.cons (.asg [] (.nm 7) (.cst (.int 1))) (.cons (.loop [3] (.nm 8) (.var 3) (.cons (.asg [] (.nm 7) (.op .mul (.var 7) (.idx (.var 8) (.cst (.int 1))))) .nil)) (.cons (.asg [3] (.nm 9) (.comp (.op .mul (.idx (.var 8) (.cst (.int 0))) (.op .fdiv (.var 7) (.idx (.var 8) (.cst (.int 1))))) (.nm 8) (.var 3) .nil [8])) (.cons (.ite [] (.cmp .eq (.blt .sum (.var 9)) (.cst (.int 0))) (.cons (.ret [] (.cst .non)) .nil) .nil) (.cons (.ret [9] (.blt .tuple (.comp (.call 16 (.cons (.var 10) (.cons (.blt .sum (.var 9)) .nil))) (.nm 10) (.var 9) .nil [10]))) .nil)))))))⟩
def g31 : Fn := ⟨2, 4, (.cons (.ret [] (.blt .tuple (.comp (.blt .len (.comp (.var 3) (.nm 3) (.var 1) (.cons (.cmp .eq (.var 3) (.var 2)) .nil) [3])) (.nm 2) (.rng1 (.blt .len (.idx (.var 0) (.cst (.int 0))))) .nil [2]))) .nil)⟩
def g32 : Fn := ⟨3, 5, (.cons (.asg [] (.nm 3) (.glo "ONE" (.tup [(.int 1), (.int 1)]))) (.cons (.loop [] (.nm 4) (.var 2) (.cons (.asg [] (.nm 3) (.call 22 (.cons (.var 3) (.cons (.idx (.idx (.idx (.idx (.var 0) (.cst (.int 1))) (.var 1)) (.cst (.int 1))) (.var 4)) .nil)))) .nil)) (.cons (.ret [] (.var 3)) .nil)))⟩
def g33 : Fn := ⟨1, 5, (.cons (.asg [] (.nm 1) (.cst (.int 1))) (.cons (.asg [] (.nm 2) (.cst (.int 0))) (.cons (.loop [] (.nm 3) (.var 0) (.cons (.loop [] (.nm 4) (.rng2 (.cst (.int 1)) (.op .add (.var 3) (.cst (.int 1)))) (.cons (.asg [] (.nm 2) (.op .add (.var 2) (.cst (.int 1)))) (.cons (.asg [] (.nm 1) (.op .fdiv (.op .mul (.var 1) (.var 2)) (.var 4))) .nil))) .nil)) (.cons (.ret [] (.var 1)) .nil))))⟩
def g34 : Fn := ⟨2, 5, (.cons (.ite [] (.cmp .eq (.var 0) (.cst (.int 1))) (.cons (.ret [] (.lst (.cons (.tup (.cons (.var 1) .nil)) .nil))) .nil) .nil) (.cons (.asg [] (.nm 2) (.lst .nil)) (.cons (.loop [] (.nm 3) (.rng1 (.op .add (.var 1) (.cst (.int 1)))) (.cons (.mutv [] .extend 2 (.cons (.comp (.op .add (.tup (.cons (.var 3) .nil)) (.var 4)) (.nm 4) (.call 34 (.cons (.op .sub (.var 0) (.cst (.int 1))) (.cons (.op .sub (.var 1) (.var 3)) .nil))) .nil [4]) .nil)) .nil)) (.cons (.ret [] (.var 2)) .nil))))⟩
def g35 : Fn := ⟨2, 4, (.cons (.asg [] (.nm 2) (.lst .nil)) (.cons (.loop [] (.nm 3) (.rng1 (.op .add (.var 1) (.cst (.int 1)))) (.cons (.mutv [] .extend 2 (.cons (.call 34 (.cons (.var 0) (.cons (.var 3) .nil))) .nil)) .nil)) (.cons (.ret [] (.var 2)) .nil)))⟩
def g36 : Fn := ⟨2, 5, (.cons (.asg [] (.nm 2) (.lst .nil)) (.cons (.loop [] (.nm 3) (.var 0) (.cons (.mutv [] .extend 2 (.cons (.comp (.op .add (.var 3) (.tup (.cons (.var 4) .nil))) (.nm 4) (.rng1 (.var 1)) .nil [4]) .nil)) .nil)) (.cons (.ret [] (.var 2)) .nil)))⟩
def g37 : Fn := ⟨2, 4, (.cons (.asg [] (.nm 2) (.lst (.cons (.tup .nil) .nil))) (.cons (.loop [] (.nm 3) (.rng1 (.var 1)) (.cons (.asg [2] (.nm 2) (.call 36 (.cons (.var 2) (.cons (.var 0) .nil)))) .nil)) (.cons (.ret [] (.var 2)) .nil)))⟩
def g38 : Fn := ⟨1, 15, (.cons (.asg [] (.nm 1) (.call 4 (.cons (.var 0) .nil))) (.cons (.asg [] (.nm 2) (.call 27 (.cons (.var 1) .nil))) (.cons (.asg [] (.nm 3) (.call 26 (.cons (.var 1) (.cons (.blt .len (.idx (.var 2) (.cst (.int 1)))) .nil)))) (.cons (.asg [] (.nm 4) (.blt .len (.idx (.var 2) (.cst (.int 0))))) (.cons (.asg [] (.nm 5) (.call 5 (.cons (.var 1) (.cons (.idx (.lst (.cons (.cst (.int 6)) (.cons (.cst (.int 5)) (.cons (.cst (.int 4)) .nil)))) (.op .sub (.var 4) (.cst (.int 2)))) .nil)))) (.cons (.asg [] (.nm 6) (.call 37 (.cons (.var 4) (.cons (.var 5) .nil)))) (.cons (.asg [] (.nm 8) (.comp (.var 7) (.nm 7) (.call 35 (.cons (.var 4) (.cons (.var 5) .nil))) (.cons (.cmp .eq (.blt .sum (.var 7)) (.var 5)) .nil) [7])) (.cons (.loop [] (.nm 9) (.rng1 (.blt .len (.idx (.var 2) (.cst (.int 1))))) (.cons (.ite [6] (.cmp .ne (.call 14 (.cons (.comp (.call 32 (.cons (.var 2) (.cons (.var 9) (.cons (.var 10) .nil)))) (.nm 10) (.var 6) .nil [10]) .nil)) (.tup (.cons (.cst (.int 1)) (.cons (.cst (.int 1)) .nil)))) (.cons (.ret [] (.cst (.bl false))) .nil) .nil) (.cons (.asg [8] (.nm 11) (.comp (.call 22 (.cons (.tup (.cons (.call 33 (.cons (.var 7) .nil)) (.cons (.cst (.int 1)) .nil))) (.cons (.call 24 (.cons (.var 2) (.cons (.var 9) (.cons (.var 7) .nil)))) .nil))) (.nm 7) (.var 8) .nil [7])) (.cons (.ite [11] (.cmp .ne (.call 14 (.cons (.var 11) .nil)) (.tup (.cons (.cst (.int 1)) (.cons (.cst (.int 1)) .nil)))) (.cons (.ret [] (.cst (.bl false))) .nil) .nil) .nil)))) (.cons (.loop [8] (.nm 7) (.var 8) (.cons (.ite [6] (.cmp .ne (.blt .len (.comp (.var 10) (.nm 10) (.var 6) (.cons (.cmp .eq (.call 31 (.cons (.var 2) (.cons (.var 10) .nil))) (.var 7)) .nil) [10])) (.call 33 (.cons (.var 7) .nil))) (.cons (.ret [] (.cst (.bl false))) .nil) .nil) .nil)) (.cons (.asg [] (.nm 12) (.comp (.tup (.cons (.cst (.int 0)) (.cons (.cst (.int 1)) .nil))) (.nm 9) (.idx (.var 2) (.cst (.int 1))) .nil [9])) (.cons (.loop [8] (.nm 7) (.var 8) (.cons (.asg [] (.nm 13) (.call 25 (.cons (.var 2) (.cons (.var 3) (.cons (.var 7) .nil))))) (.cons (.asg [] (.nm 14) (.call 14 (.cons (.comp (.call 22 (.cons (.idx (.var 3) (.var 9)) (.cons (.call 24 (.cons (.var 2) (.cons (.var 9) (.cons (.var 7) .nil)))) .nil))) (.nm 9) (.rng1 (.blt .len (.var 3))) .nil [9]) .nil))) (.cons (.loop [] (.nm 9) (.rng1 (.blt .len (.var 3))) (.cons (.ite [] (.cmp .notn (.var 13) (.cst .non)) (.cons (.setv [] 12 (.var 9) (.call 12 (.cons (.idx (.var 12) (.var 9)) (.cons (.call 22 (.cons (.idx (.var 13) (.var 9)) (.cons (.call 22 (.cons (.var 14) (.cons (.tup (.cons (.call 33 (.cons (.var 7) .nil)) (.cons (.cst (.int 1)) .nil))) .nil))) .nil))) .nil)))) .nil) .nil) .nil)) .nil)))) (.cons (.ret [] (.cmp .eq (.blt .repr (.blt .tuple (.var 12))) (.blt .repr (.var 3)))) .nil))))))))))))⟩
def regL : List (Nat × Fn) := [(0, g0), (1, g1), (4, g4), (5, g5), (6, g6), (8, g8), (11, g11), (12, g12), (13, g13), (14, g14), (16, g16), (22, g22), (23, g23), (24, g24), (25, g25), (26, g26), (27, g27), (28, g28), (29, g29), (31, g31), (32, g32), (33, g33), (34, g34), (35, g35), (36, g36), (37, g37), (38, g38)]
def reg : Nat → Option Fn := fun i => regL.lookup i
theorem r0 : reg 0 = some g0 := rfl
theorem r1 : reg 1 = some g1 := rfl
theorem r4 : reg 4 = some g4 := rfl
theorem r5 : reg 5 = some g5 := rfl
theorem r6 : reg 6 = some g6 := rfl
theorem r8 : reg 8 = some g8 := rfl
theorem r11 : reg 11 = some g11 := rfl
theorem r12 : reg 12 = some g12 := rfl
theorem r13 : reg 13 = some g13 := rfl
theorem r14 : reg 14 = some g14 := rfl
theorem r16 : reg 16 = some g16 := rfl
theorem r22 : reg 22 = some g22 := rfl
theorem r23 : reg 23 = some g23 := rfl
theorem r24 : reg 24 = some g24 := rfl
theorem r25 : reg 25 = some g25 := rfl
theorem r26 : reg 26 = some g26 := rfl
theorem r27 : reg 27 = some g27 := rfl
theorem r28 : reg 28 = some g28 := rfl
theorem r29 : reg 29 = some g29 := rfl
theorem r31 : reg 31 = some g31 := rfl
theorem r32 : reg 32 = some g32 := rfl
theorem r33 : reg 33 = some g33 := rfl
theorem r34 : reg 34 = some g34 := rfl
theorem r35 : reg 35 = some g35 := rfl
theorem r36 : reg 36 = some g36 := rfl
theorem r37 : reg 37 = some g37 := rfl
theorem r38 : reg 38 = some g38 := rfl
end Sx
set_option maxHeartbeats 200000
/-! # what the small defs of fractions do -/
namespace Sx
/-- a call of a def of the registry -/
noncomputable abbrev cl (k n : Nat) (ds : List D) : M RV := callD reg k n ds
theorem s_whole (k : Nat) (x : D) (h : ∀ n, x ≠ .cell n) (h2 : ∀ c fs, x ≠ .exc c fs) (μ : Mu) : cl (k + 1) 0 [x] μ = .ok (.fr (.bl (match x with | .int _ => true | _ => false))) μ := by
  rw [cl, call_eq r0 rfl, g0]
  cases x <;> first | exact absurd rfl (h _) | exact absurd rfl (h2 _ _) | simp only [bnd_rb, rb_ok, rb_exc, sb_ok, seq_nx, seq_rt, seq_ex, fin_nx, fin_rt, fin_ex, E_var, E_cst, E_glo, E_dic0, E_tup, E_lst, E_cel, E_op, E_cmp, E_chn, E_not, E_neg, E_con, E_dis, E_ife, E_idx, E_slc, E_call, E_blt, E_isi, E_rng1, E_rng2, E_comp, V_nil, V_cons, A_nil, A_cons, O_nil, O_cons, vr_fr, vo_fr, vo_own, vv_some, kD_fr, kD_own, kBl_ap, kOwn_ap, eo_var, eo_cst, eo_glo, eo_op, eo_idx, eo_slc, eo_call, eo_blt, eo_tup, eo_lst, eo_neg, eo_nt, eo_cmp, eo_con, eo_dis, eo_isi, eo_ife, eo_comp, kOp_ap, kCmp_ap, kCm2_ap, kCh1_ap, kCh2_ap, kCh3_t, kCh3_f, asR_bl, kNot_bl, kNeg_int, kA_bl, kA2_t, kA2_f, kO_bl, kO2_t, kO2_f, kA2_nil, kO2_nil, kIf_bl, kIf2_t, kIf2_f, kIdx_ap, kSl_ap, kSl2_ap, kSl3_ap, oi_mis, kI_int, oi_var, oi_cst, oi_op, oi_neg, oi_idx, oi_blt, oi_call, kR2_int, kComp_ap, kV_ap, kV2_fr, kV2_own, itemsOf_tup, itemsOf_lst, itemsOf_own, itemsOf_cell, itC_lst, itemsOf_wk, E_zip, E_enum, E_revd, E_newc, eo_newc, kZ1_ap, zipD_tt, zipD_ll, enumD_t, enumD_l, revD_t, revD_l, newC_own, kComp_apH, kFor_apH, S_asg, S_asT, S_par, S_exp, S_retv, S_ite, S_whl, S_for, S_setv, S_setc, S_mut, S_pas, B_nil, B_cons, kPar_ap, kExp_ap, kRet_ap, kIte_bl, kIte2_t, kIte2_f, kFor_ap, kSv_ap, kSv2_int, kSc_ap, kSc2_ap, kSc3_cell, kMut_ap, op_add, op_sub, eq_int, ne_int, eq_str, ne_str, ne_shT_self, eq_shT_self, lt_int, le_int, gt_int, ge_int, getIt_0, len_tup, len_lst, abs_int, int_bl, int_int, list_cel, liC_lst, len_cel, lnC_lst, list_tup, list_lst, tuple_lst, tuple_tup, forR_nil, forR_cons, forS_nx, forS_rt, nxP_nx, kAsg_ok, kPar2_ok, kTup_ok, kLst_ok, kCel_ok, S_ret, ne_eq, reduceCtorEq, not_false_eq_true, implies_true, RV.d, frz_nil, frz_cons, frzO_some, frzO_none, List.getElem?_cons_zero, List.getElem?_cons_succ, List.getElem?_nil, List.set_cons_zero, List.set_cons_succ, List.length_cons, List.length_nil, mask_nil, mask_none, mask_some, wipe_nil, wipe_cons, decide_true, decide_false, Bool.not_true, Bool.not_false, Nat.zero_add, Nat.reduceAdd, Nat.reduceLT, Nat.reduceLeDiff, Nat.lt_add_one, List.nil_append, List.cons_append, Nat.reduceSub, List.map_cons, List.map_nil, List.replicate_succ, rep_zero, start_eq, gX_some, getT, getL, getC, gC_lst, Int.reduceToNat, Int.reduceLE, Int.reduceLT, Int.reduceNeg, setO_ap, sO_some, setC_ap, sC_some, kAsT_ap, asT_some, bindT_nm, bindT_tup, bindTs_cons, bO_some, bindTs_nil, turnF_ap, tFo_some, cT_ap, cTo_some, cT2_t, cT2_f, cT3_fr, cT3_own, and_self, and_true, true_and, Int.zero_add, ixN_ge, Int.natCast_nonneg, Int.toNat_natCast, Int.cast_ofNat_Int, isin_ty, List.any_cons, List.any_nil, isTy, Bool.true_and, Bool.false_and, Bool.and_true, Bool.and_false, Bool.or_false, Bool.false_or, Bool.or_true, Bool.true_or, Int.reduceEq]
theorem gcd_step {a : Int} {n : Nat} (ha : 0 ≤ a) (hn : n ≠ 0) : Int.gcd (n : Int) (a.fmod n) = Int.gcd a n := by
  obtain ⟨m, rfl⟩ := Int.eq_ofNat_of_zero_le ha
  rw [Int.fmod_eq_emod_of_nonneg _ (by omega)]
  have : ((m : Int) % (n : Int)) = ((m % n : Nat) : Int) := by simp
  rw [this]
  simp only [Int.gcd, Int.natAbs_natCast]
  rw [Nat.gcd_comm n, ← Nat.gcd_rec, Nat.gcd_comm]
theorem w_gcd (C : Callee) (μ : Mu) : ∀ (n : Nat) (a : Int), 0 ≤ a → whileR (turnW (ev C (.cmp .ne (.var 1) (.cst (.int 0)))) (exB C (.cons (.par [] 0 1 (.var 1) (.op .mod (.var 0) (.var 1))) .nil))) [some (.fr (.int a)), some (.fr (.int (n : Int)))] μ
    = .nx [some (.fr (.int (Int.gcd a n))), some (.fr (.int 0))] μ := by
  intro n
  induction n using Nat.strongRecOn with
  | _ n ih =>
    intro a ha
    by_cases h : n = 0
    · subst h
      rw [while_end (μ1 := μ) (by simp only [bnd_rb, rb_ok, rb_exc, sb_ok, seq_nx, seq_rt, seq_ex, fin_nx, fin_rt, fin_ex, E_var, E_cst, E_glo, E_dic0, E_tup, E_lst, E_cel, E_op, E_cmp, E_chn, E_not, E_neg, E_con, E_dis, E_ife, E_idx, E_slc, E_call, E_blt, E_isi, E_rng1, E_rng2, E_comp, V_nil, V_cons, A_nil, A_cons, O_nil, O_cons, vr_fr, vo_fr, vo_own, vv_some, kD_fr, kD_own, kBl_ap, kOwn_ap, eo_var, eo_cst, eo_glo, eo_op, eo_idx, eo_slc, eo_call, eo_blt, eo_tup, eo_lst, eo_neg, eo_nt, eo_cmp, eo_con, eo_dis, eo_isi, eo_ife, eo_comp, kOp_ap, kCmp_ap, kCm2_ap, kCh1_ap, kCh2_ap, kCh3_t, kCh3_f, asR_bl, kNot_bl, kNeg_int, kA_bl, kA2_t, kA2_f, kO_bl, kO2_t, kO2_f, kA2_nil, kO2_nil, kIf_bl, kIf2_t, kIf2_f, kIdx_ap, kSl_ap, kSl2_ap, kSl3_ap, oi_mis, kI_int, oi_var, oi_cst, oi_op, oi_neg, oi_idx, oi_blt, oi_call, kR2_int, kComp_ap, kV_ap, kV2_fr, kV2_own, itemsOf_tup, itemsOf_lst, itemsOf_own, itemsOf_cell, itC_lst, itemsOf_wk, E_zip, E_enum, E_revd, E_newc, eo_newc, kZ1_ap, zipD_tt, zipD_ll, enumD_t, enumD_l, revD_t, revD_l, newC_own, kComp_apH, kFor_apH, S_asg, S_asT, S_par, S_exp, S_retv, S_ite, S_whl, S_for, S_setv, S_setc, S_mut, S_pas, B_nil, B_cons, kPar_ap, kExp_ap, kRet_ap, kIte_bl, kIte2_t, kIte2_f, kFor_ap, kSv_ap, kSv2_int, kSc_ap, kSc2_ap, kSc3_cell, kMut_ap, op_add, op_sub, eq_int, ne_int, eq_str, ne_str, ne_shT_self, eq_shT_self, lt_int, le_int, gt_int, ge_int, getIt_0, len_tup, len_lst, abs_int, int_bl, int_int, list_cel, liC_lst, len_cel, lnC_lst, list_tup, list_lst, tuple_lst, tuple_tup, forR_nil, forR_cons, forS_nx, forS_rt, nxP_nx, kAsg_ok, kPar2_ok, kTup_ok, kLst_ok, kCel_ok, S_ret, ne_eq, reduceCtorEq, not_false_eq_true, implies_true, RV.d, frz_nil, frz_cons, frzO_some, frzO_none, List.getElem?_cons_zero, List.getElem?_cons_succ, List.getElem?_nil, List.set_cons_zero, List.set_cons_succ, List.length_cons, List.length_nil, mask_nil, mask_none, mask_some, wipe_nil, wipe_cons, decide_true, decide_false, Bool.not_true, Bool.not_false, Nat.zero_add, Nat.reduceAdd, Nat.reduceLT, Nat.reduceLeDiff, Nat.lt_add_one, List.nil_append, List.cons_append, Nat.reduceSub, List.map_cons, List.map_nil, List.replicate_succ, rep_zero, start_eq, gX_some, getT, getL, getC, gC_lst, Int.reduceToNat, Int.reduceLE, Int.reduceLT, Int.reduceNeg, setO_ap, sO_some, setC_ap, sC_some, kAsT_ap, asT_some, bindT_nm, bindT_tup, bindTs_cons, bO_some, bindTs_nil, turnF_ap, tFo_some, cT_ap, cTo_some, cT2_t, cT2_f, cT3_fr, cT3_own, and_self, and_true, true_and, Int.zero_add, ixN_ge, Int.natCast_nonneg, Int.toNat_natCast, Int.cast_ofNat_Int, isin_ty, List.any_cons, List.any_nil, isTy, Bool.true_and, Bool.false_and, Bool.and_true, Bool.and_false, Bool.or_false, Bool.false_or, Bool.or_true, Bool.true_or, Int.reduceEq])]
      have : (Int.gcd a 0 : Int) = a := by simp; omega
      simp only [Int.natCast_zero]
      rw [← this]
      simp
    · have h1 : (n : Int) ≠ 0 := by omega
      rw [while_go (μ1 := μ) (ρ' := [some (.fr (.int n)), some (.fr (.int (a.fmod n)))]) (μ' := μ) (by simp only [bnd_rb, rb_ok, rb_exc, sb_ok, seq_nx, seq_rt, seq_ex, fin_nx, fin_rt, fin_ex, E_var, E_cst, E_glo, E_dic0, E_tup, E_lst, E_cel, E_op, E_cmp, E_chn, E_not, E_neg, E_con, E_dis, E_ife, E_idx, E_slc, E_call, E_blt, E_isi, E_rng1, E_rng2, E_comp, V_nil, V_cons, A_nil, A_cons, O_nil, O_cons, vr_fr, vo_fr, vo_own, vv_some, kD_fr, kD_own, kBl_ap, kOwn_ap, eo_var, eo_cst, eo_glo, eo_op, eo_idx, eo_slc, eo_call, eo_blt, eo_tup, eo_lst, eo_neg, eo_nt, eo_cmp, eo_con, eo_dis, eo_isi, eo_ife, eo_comp, kOp_ap, kCmp_ap, kCm2_ap, kCh1_ap, kCh2_ap, kCh3_t, kCh3_f, asR_bl, kNot_bl, kNeg_int, kA_bl, kA2_t, kA2_f, kO_bl, kO2_t, kO2_f, kA2_nil, kO2_nil, kIf_bl, kIf2_t, kIf2_f, kIdx_ap, kSl_ap, kSl2_ap, kSl3_ap, oi_mis, kI_int, oi_var, oi_cst, oi_op, oi_neg, oi_idx, oi_blt, oi_call, kR2_int, kComp_ap, kV_ap, kV2_fr, kV2_own, itemsOf_tup, itemsOf_lst, itemsOf_own, itemsOf_cell, itC_lst, itemsOf_wk, E_zip, E_enum, E_revd, E_newc, eo_newc, kZ1_ap, zipD_tt, zipD_ll, enumD_t, enumD_l, revD_t, revD_l, newC_own, kComp_apH, kFor_apH, S_asg, S_asT, S_par, S_exp, S_retv, S_ite, S_whl, S_for, S_setv, S_setc, S_mut, S_pas, B_nil, B_cons, kPar_ap, kExp_ap, kRet_ap, kIte_bl, kIte2_t, kIte2_f, kFor_ap, kSv_ap, kSv2_int, kSc_ap, kSc2_ap, kSc3_cell, kMut_ap, op_add, op_sub, eq_int, ne_int, eq_str, ne_str, ne_shT_self, eq_shT_self, lt_int, le_int, gt_int, ge_int, getIt_0, len_tup, len_lst, abs_int, int_bl, int_int, list_cel, liC_lst, len_cel, lnC_lst, list_tup, list_lst, tuple_lst, tuple_tup, forR_nil, forR_cons, forS_nx, forS_rt, nxP_nx, kAsg_ok, kPar2_ok, kTup_ok, kLst_ok, kCel_ok, S_ret, ne_eq, reduceCtorEq, not_false_eq_true, implies_true, RV.d, frz_nil, frz_cons, frzO_some, frzO_none, List.getElem?_cons_zero, List.getElem?_cons_succ, List.getElem?_nil, List.set_cons_zero, List.set_cons_succ, List.length_cons, List.length_nil, mask_nil, mask_none, mask_some, wipe_nil, wipe_cons, decide_true, decide_false, Bool.not_true, Bool.not_false, Nat.zero_add, Nat.reduceAdd, Nat.reduceLT, Nat.reduceLeDiff, Nat.lt_add_one, List.nil_append, List.cons_append, Nat.reduceSub, List.map_cons, List.map_nil, List.replicate_succ, rep_zero, start_eq, gX_some, getT, getL, getC, gC_lst, Int.reduceToNat, Int.reduceLE, Int.reduceLT, Int.reduceNeg, setO_ap, sO_some, setC_ap, sC_some, kAsT_ap, asT_some, bindT_nm, bindT_tup, bindTs_cons, bO_some, bindTs_nil, turnF_ap, tFo_some, cT_ap, cTo_some, cT2_t, cT2_f, cT3_fr, cT3_own, and_self, and_true, true_and, Int.zero_add, ixN_ge, Int.natCast_nonneg, Int.toNat_natCast, Int.cast_ofNat_Int, isin_ty, List.any_cons, List.any_nil, isTy, Bool.true_and, Bool.false_and, Bool.and_true, Bool.and_false, Bool.or_false, Bool.false_or, Bool.or_true, Bool.true_or, Int.reduceEq]; simp [h]) (by simp only [bnd_rb, rb_ok, rb_exc, sb_ok, seq_nx, seq_rt, seq_ex, fin_nx, fin_rt, fin_ex, E_var, E_cst, E_glo, E_dic0, E_tup, E_lst, E_cel, E_op, E_cmp, E_chn, E_not, E_neg, E_con, E_dis, E_ife, E_idx, E_slc, E_call, E_blt, E_isi, E_rng1, E_rng2, E_comp, V_nil, V_cons, A_nil, A_cons, O_nil, O_cons, vr_fr, vo_fr, vo_own, vv_some, kD_fr, kD_own, kBl_ap, kOwn_ap, eo_var, eo_cst, eo_glo, eo_op, eo_idx, eo_slc, eo_call, eo_blt, eo_tup, eo_lst, eo_neg, eo_nt, eo_cmp, eo_con, eo_dis, eo_isi, eo_ife, eo_comp, kOp_ap, kCmp_ap, kCm2_ap, kCh1_ap, kCh2_ap, kCh3_t, kCh3_f, asR_bl, kNot_bl, kNeg_int, kA_bl, kA2_t, kA2_f, kO_bl, kO2_t, kO2_f, kA2_nil, kO2_nil, kIf_bl, kIf2_t, kIf2_f, kIdx_ap, kSl_ap, kSl2_ap, kSl3_ap, oi_mis, kI_int, oi_var, oi_cst, oi_op, oi_neg, oi_idx, oi_blt, oi_call, kR2_int, kComp_ap, kV_ap, kV2_fr, kV2_own, itemsOf_tup, itemsOf_lst, itemsOf_own, itemsOf_cell, itC_lst, itemsOf_wk, E_zip, E_enum, E_revd, E_newc, eo_newc, kZ1_ap, zipD_tt, zipD_ll, enumD_t, enumD_l, revD_t, revD_l, newC_own, kComp_apH, kFor_apH, S_asg, S_asT, S_par, S_exp, S_retv, S_ite, S_whl, S_for, S_setv, S_setc, S_mut, S_pas, B_nil, B_cons, kPar_ap, kExp_ap, kRet_ap, kIte_bl, kIte2_t, kIte2_f, kFor_ap, kSv_ap, kSv2_int, kSc_ap, kSc2_ap, kSc3_cell, kMut_ap, op_add, op_sub, eq_int, ne_int, eq_str, ne_str, ne_shT_self, eq_shT_self, lt_int, le_int, gt_int, ge_int, getIt_0, len_tup, len_lst, abs_int, int_bl, int_int, list_cel, liC_lst, len_cel, lnC_lst, list_tup, list_lst, tuple_lst, tuple_tup, forR_nil, forR_cons, forS_nx, forS_rt, nxP_nx, kAsg_ok, kPar2_ok, kTup_ok, kLst_ok, kCel_ok, S_ret, ne_eq, reduceCtorEq, not_false_eq_true, implies_true, RV.d, frz_nil, frz_cons, frzO_some, frzO_none, List.getElem?_cons_zero, List.getElem?_cons_succ, List.getElem?_nil, List.set_cons_zero, List.set_cons_succ, List.length_cons, List.length_nil, mask_nil, mask_none, mask_some, wipe_nil, wipe_cons, decide_true, decide_false, Bool.not_true, Bool.not_false, Nat.zero_add, Nat.reduceAdd, Nat.reduceLT, Nat.reduceLeDiff, Nat.lt_add_one, List.nil_append, List.cons_append, Nat.reduceSub, List.map_cons, List.map_nil, List.replicate_succ, rep_zero, start_eq, gX_some, getT, getL, getC, gC_lst, Int.reduceToNat, Int.reduceLE, Int.reduceLT, Int.reduceNeg, setO_ap, sO_some, setC_ap, sC_some, kAsT_ap, asT_some, bindT_nm, bindT_tup, bindTs_cons, bO_some, bindTs_nil, turnF_ap, tFo_some, cT_ap, cTo_some, cT2_t, cT2_f, cT3_fr, cT3_own, and_self, and_true, true_and, Int.zero_add, ixN_ge, Int.natCast_nonneg, Int.toNat_natCast, Int.cast_ofNat_Int, isin_ty, List.any_cons, List.any_nil, isTy, Bool.true_and, Bool.false_and, Bool.and_true, Bool.and_false, Bool.or_false, Bool.false_or, Bool.or_true, Bool.true_or, Int.reduceEq, op_mod h1])]
      simp only [bnd_rb, rb_ok, rb_exc, sb_ok, seq_nx, seq_rt, seq_ex, fin_nx, fin_rt, fin_ex, E_var, E_cst, E_glo, E_dic0, E_tup, E_lst, E_cel, E_op, E_cmp, E_chn, E_not, E_neg, E_con, E_dis, E_ife, E_idx, E_slc, E_call, E_blt, E_isi, E_rng1, E_rng2, E_comp, V_nil, V_cons, A_nil, A_cons, O_nil, O_cons, vr_fr, vo_fr, vo_own, vv_some, kD_fr, kD_own, kBl_ap, kOwn_ap, eo_var, eo_cst, eo_glo, eo_op, eo_idx, eo_slc, eo_call, eo_blt, eo_tup, eo_lst, eo_neg, eo_nt, eo_cmp, eo_con, eo_dis, eo_isi, eo_ife, eo_comp, kOp_ap, kCmp_ap, kCm2_ap, kCh1_ap, kCh2_ap, kCh3_t, kCh3_f, asR_bl, kNot_bl, kNeg_int, kA_bl, kA2_t, kA2_f, kO_bl, kO2_t, kO2_f, kA2_nil, kO2_nil, kIf_bl, kIf2_t, kIf2_f, kIdx_ap, kSl_ap, kSl2_ap, kSl3_ap, oi_mis, kI_int, oi_var, oi_cst, oi_op, oi_neg, oi_idx, oi_blt, oi_call, kR2_int, kComp_ap, kV_ap, kV2_fr, kV2_own, itemsOf_tup, itemsOf_lst, itemsOf_own, itemsOf_cell, itC_lst, itemsOf_wk, E_zip, E_enum, E_revd, E_newc, eo_newc, kZ1_ap, zipD_tt, zipD_ll, enumD_t, enumD_l, revD_t, revD_l, newC_own, kComp_apH, kFor_apH, S_asg, S_asT, S_par, S_exp, S_retv, S_ite, S_whl, S_for, S_setv, S_setc, S_mut, S_pas, B_nil, B_cons, kPar_ap, kExp_ap, kRet_ap, kIte_bl, kIte2_t, kIte2_f, kFor_ap, kSv_ap, kSv2_int, kSc_ap, kSc2_ap, kSc3_cell, kMut_ap, op_add, op_sub, eq_int, ne_int, eq_str, ne_str, ne_shT_self, eq_shT_self, lt_int, le_int, gt_int, ge_int, getIt_0, len_tup, len_lst, abs_int, int_bl, int_int, list_cel, liC_lst, len_cel, lnC_lst, list_tup, list_lst, tuple_lst, tuple_tup, forR_nil, forR_cons, forS_nx, forS_rt, nxP_nx, kAsg_ok, kPar2_ok, kTup_ok, kLst_ok, kCel_ok, S_ret, ne_eq, reduceCtorEq, not_false_eq_true, implies_true, RV.d, frz_nil, frz_cons, frzO_some, frzO_none, List.getElem?_cons_zero, List.getElem?_cons_succ, List.getElem?_nil, List.set_cons_zero, List.set_cons_succ, List.length_cons, List.length_nil, mask_nil, mask_none, mask_some, wipe_nil, wipe_cons, decide_true, decide_false, Bool.not_true, Bool.not_false, Nat.zero_add, Nat.reduceAdd, Nat.reduceLT, Nat.reduceLeDiff, Nat.lt_add_one, List.nil_append, List.cons_append, Nat.reduceSub, List.map_cons, List.map_nil, List.replicate_succ, rep_zero, start_eq, gX_some, getT, getL, getC, gC_lst, Int.reduceToNat, Int.reduceLE, Int.reduceLT, Int.reduceNeg, setO_ap, sO_some, setC_ap, sC_some, kAsT_ap, asT_some, bindT_nm, bindT_tup, bindTs_cons, bO_some, bindTs_nil, turnF_ap, tFo_some, cT_ap, cTo_some, cT2_t, cT2_f, cT3_fr, cT3_own, and_self, and_true, true_and, Int.zero_add, ixN_ge, Int.natCast_nonneg, Int.toNat_natCast, Int.cast_ofNat_Int, isin_ty, List.any_cons, List.any_nil, isTy, Bool.true_and, Bool.false_and, Bool.and_true, Bool.and_false, Bool.or_false, Bool.false_or, Bool.or_true, Bool.true_or, Int.reduceEq]
      have e : a.fmod n = ((a % n).toNat : Int) := by
        rw [Int.toNat_of_nonneg (Int.emod_nonneg _ (by omega)), Int.fmod_eq_emod_of_nonneg _ (by omega)]
      have hl : (a % n).toNat < n := by
        have := Int.emod_lt_of_pos a (show (0 : Int) < n by omega)
        omega
      rw [← gcd_step ha h, e]
      exact ih _ hl n (by omega)
theorem s_div (k : Nat) (a b : Int) (μ : Mu) : cl (k + 1) 1 [.int a, .int b] μ = .ok (.fr (.int (Int.gcd a b))) μ := by
  rw [cl, call_eq r1 rfl, g1]
  simp only [bnd_rb, rb_ok, rb_exc, sb_ok, seq_nx, seq_rt, seq_ex, fin_nx, fin_rt, fin_ex, E_var, E_cst, E_glo, E_dic0, E_tup, E_lst, E_cel, E_op, E_cmp, E_chn, E_not, E_neg, E_con, E_dis, E_ife, E_idx, E_slc, E_call, E_blt, E_isi, E_rng1, E_rng2, E_comp, V_nil, V_cons, A_nil, A_cons, O_nil, O_cons, vr_fr, vo_fr, vo_own, vv_some, kD_fr, kD_own, kBl_ap, kOwn_ap, eo_var, eo_cst, eo_glo, eo_op, eo_idx, eo_slc, eo_call, eo_blt, eo_tup, eo_lst, eo_neg, eo_nt, eo_cmp, eo_con, eo_dis, eo_isi, eo_ife, eo_comp, kOp_ap, kCmp_ap, kCm2_ap, kCh1_ap, kCh2_ap, kCh3_t, kCh3_f, asR_bl, kNot_bl, kNeg_int, kA_bl, kA2_t, kA2_f, kO_bl, kO2_t, kO2_f, kA2_nil, kO2_nil, kIf_bl, kIf2_t, kIf2_f, kIdx_ap, kSl_ap, kSl2_ap, kSl3_ap, oi_mis, kI_int, oi_var, oi_cst, oi_op, oi_neg, oi_idx, oi_blt, oi_call, kR2_int, kComp_ap, kV_ap, kV2_fr, kV2_own, itemsOf_tup, itemsOf_lst, itemsOf_own, itemsOf_cell, itC_lst, itemsOf_wk, E_zip, E_enum, E_revd, E_newc, eo_newc, kZ1_ap, zipD_tt, zipD_ll, enumD_t, enumD_l, revD_t, revD_l, newC_own, kComp_apH, kFor_apH, S_asg, S_asT, S_par, S_exp, S_retv, S_ite, S_whl, S_for, S_setv, S_setc, S_mut, S_pas, B_nil, B_cons, kPar_ap, kExp_ap, kRet_ap, kIte_bl, kIte2_t, kIte2_f, kFor_ap, kSv_ap, kSv2_int, kSc_ap, kSc2_ap, kSc3_cell, kMut_ap, op_add, op_sub, eq_int, ne_int, eq_str, ne_str, ne_shT_self, eq_shT_self, lt_int, le_int, gt_int, ge_int, getIt_0, len_tup, len_lst, abs_int, int_bl, int_int, list_cel, liC_lst, len_cel, lnC_lst, list_tup, list_lst, tuple_lst, tuple_tup, forR_nil, forR_cons, forS_nx, forS_rt, nxP_nx, kAsg_ok, kPar2_ok, kTup_ok, kLst_ok, kCel_ok, S_ret, ne_eq, reduceCtorEq, not_false_eq_true, implies_true, RV.d, frz_nil, frz_cons, frzO_some, frzO_none, List.getElem?_cons_zero, List.getElem?_cons_succ, List.getElem?_nil, List.set_cons_zero, List.set_cons_succ, List.length_cons, List.length_nil, mask_nil, mask_none, mask_some, wipe_nil, wipe_cons, decide_true, decide_false, Bool.not_true, Bool.not_false, Nat.zero_add, Nat.reduceAdd, Nat.reduceLT, Nat.reduceLeDiff, Nat.lt_add_one, List.nil_append, List.cons_append, Nat.reduceSub, List.map_cons, List.map_nil, List.replicate_succ, rep_zero, start_eq, gX_some, getT, getL, getC, gC_lst, Int.reduceToNat, Int.reduceLE, Int.reduceLT, Int.reduceNeg, setO_ap, sO_some, setC_ap, sC_some, kAsT_ap, asT_some, bindT_nm, bindT_tup, bindTs_cons, bO_some, bindTs_nil, turnF_ap, tFo_some, cT_ap, cTo_some, cT2_t, cT2_f, cT3_fr, cT3_own, and_self, and_true, true_and, Int.zero_add, ixN_ge, Int.natCast_nonneg, Int.toNat_natCast, Int.cast_ofNat_Int, isin_ty, List.any_cons, List.any_nil, isTy, Bool.true_and, Bool.false_and, Bool.and_true, Bool.and_false, Bool.or_false, Bool.false_or, Bool.or_true, Bool.true_or, Int.reduceEq]
  have e : (if b < 0 then -b else b) = ((b.natAbs : Nat) : Int) := by split <;> omega
  have e2 : (if a < 0 then -a else a) = ((a.natAbs : Nat) : Int) := by split <;> omega
  rw [e, e2, w_gcd _ _ _ _ (by omega)]
  simp only [bnd_rb, rb_ok, rb_exc, sb_ok, seq_nx, seq_rt, seq_ex, fin_nx, fin_rt, fin_ex, E_var, E_cst, E_glo, E_dic0, E_tup, E_lst, E_cel, E_op, E_cmp, E_chn, E_not, E_neg, E_con, E_dis, E_ife, E_idx, E_slc, E_call, E_blt, E_isi, E_rng1, E_rng2, E_comp, V_nil, V_cons, A_nil, A_cons, O_nil, O_cons, vr_fr, vo_fr, vo_own, vv_some, kD_fr, kD_own, kBl_ap, kOwn_ap, eo_var, eo_cst, eo_glo, eo_op, eo_idx, eo_slc, eo_call, eo_blt, eo_tup, eo_lst, eo_neg, eo_nt, eo_cmp, eo_con, eo_dis, eo_isi, eo_ife, eo_comp, kOp_ap, kCmp_ap, kCm2_ap, kCh1_ap, kCh2_ap, kCh3_t, kCh3_f, asR_bl, kNot_bl, kNeg_int, kA_bl, kA2_t, kA2_f, kO_bl, kO2_t, kO2_f, kA2_nil, kO2_nil, kIf_bl, kIf2_t, kIf2_f, kIdx_ap, kSl_ap, kSl2_ap, kSl3_ap, oi_mis, kI_int, oi_var, oi_cst, oi_op, oi_neg, oi_idx, oi_blt, oi_call, kR2_int, kComp_ap, kV_ap, kV2_fr, kV2_own, itemsOf_tup, itemsOf_lst, itemsOf_own, itemsOf_cell, itC_lst, itemsOf_wk, E_zip, E_enum, E_revd, E_newc, eo_newc, kZ1_ap, zipD_tt, zipD_ll, enumD_t, enumD_l, revD_t, revD_l, newC_own, kComp_apH, kFor_apH, S_asg, S_asT, S_par, S_exp, S_retv, S_ite, S_whl, S_for, S_setv, S_setc, S_mut, S_pas, B_nil, B_cons, kPar_ap, kExp_ap, kRet_ap, kIte_bl, kIte2_t, kIte2_f, kFor_ap, kSv_ap, kSv2_int, kSc_ap, kSc2_ap, kSc3_cell, kMut_ap, op_add, op_sub, eq_int, ne_int, eq_str, ne_str, ne_shT_self, eq_shT_self, lt_int, le_int, gt_int, ge_int, getIt_0, len_tup, len_lst, abs_int, int_bl, int_int, list_cel, liC_lst, len_cel, lnC_lst, list_tup, list_lst, tuple_lst, tuple_tup, forR_nil, forR_cons, forS_nx, forS_rt, nxP_nx, kAsg_ok, kPar2_ok, kTup_ok, kLst_ok, kCel_ok, S_ret, ne_eq, reduceCtorEq, not_false_eq_true, implies_true, RV.d, frz_nil, frz_cons, frzO_some, frzO_none, List.getElem?_cons_zero, List.getElem?_cons_succ, List.getElem?_nil, List.set_cons_zero, List.set_cons_succ, List.length_cons, List.length_nil, mask_nil, mask_none, mask_some, wipe_nil, wipe_cons, decide_true, decide_false, Bool.not_true, Bool.not_false, Nat.zero_add, Nat.reduceAdd, Nat.reduceLT, Nat.reduceLeDiff, Nat.lt_add_one, List.nil_append, List.cons_append, Nat.reduceSub, List.map_cons, List.map_nil, List.replicate_succ, rep_zero, start_eq, gX_some, getT, getL, getC, gC_lst, Int.reduceToNat, Int.reduceLE, Int.reduceLT, Int.reduceNeg, setO_ap, sO_some, setC_ap, sC_some, kAsT_ap, asT_some, bindT_nm, bindT_tup, bindTs_cons, bO_some, bindTs_nil, turnF_ap, tFo_some, cT_ap, cTo_some, cT2_t, cT2_f, cT3_fr, cT3_own, and_self, and_true, true_and, Int.zero_add, ixN_ge, Int.natCast_nonneg, Int.toNat_natCast, Int.cast_ofNat_Int, isin_ty, List.any_cons, List.any_nil, isTy, Bool.true_and, Bool.false_and, Bool.and_true, Bool.and_false, Bool.or_false, Bool.false_or, Bool.or_true, Bool.true_or, Int.reduceEq]
  simp [Int.gcd]
end Sx
set_option maxHeartbeats 200000
/-! # the feed and its draws -/
namespace Sx
def feedL (xs : List Int) (a b p : Int) : Cell := .lst [.lst (xs.map D.int), .int a, .int b, .int p]
/-- a feed from which n draws more may be made -/
def FeedC (n : Nat) (c : Cell) : Prop := ∃ (xs : List Int) (a b p : Int), c = feedL xs a b p ∧ xs.length ≤ 63 ∧ 0 ≤ a ∧ a + n ≤ 1000000000 ∧ 0 ≤ b ∧ 0 ≤ p ∧ p ≤ xs.length
theorem FeedC.mono {n m : Nat} {c : Cell} (h : FeedC n c) (hm : m ≤ n) : FeedC m c := by
  obtain ⟨xs, a, b, p, e, h1, h2, h3, h4, h5, h6⟩ := h
  exact ⟨xs, a, b, p, e, h1, h2, by omega, h4, h5, h6⟩
theorem s_feed (k : Nat) (xs : List Int) (h : xs.length ≤ 63) (μ : Mu) : cl (k + 1) 4 [.lst (xs.map D.int)] μ = .ok (.fr (.cell μ.length)) (μ ++ [feedL xs 0 0 0]) := by
  rw [cl, call_eq r4 rfl, g4]
  have e : cut (.lst (xs.map D.int)) none (some 63) μ = .ok (.own (xs.map D.int)) μ := by
    simp only [cut, D.lis, cutL, sIx]
    congr 2
    rw [List.drop_zero, List.take_of_length_le]
    simp
    omega
  simp only [bnd_rb, rb_ok, rb_exc, sb_ok, seq_nx, seq_rt, seq_ex, fin_nx, fin_rt, fin_ex, E_var, E_cst, E_glo, E_dic0, E_tup, E_lst, E_cel, E_op, E_cmp, E_chn, E_not, E_neg, E_con, E_dis, E_ife, E_idx, E_slc, E_call, E_blt, E_isi, E_rng1, E_rng2, E_comp, V_nil, V_cons, A_nil, A_cons, O_nil, O_cons, vr_fr, vo_fr, vo_own, vv_some, kD_fr, kD_own, kBl_ap, kOwn_ap, eo_var, eo_cst, eo_glo, eo_op, eo_idx, eo_slc, eo_call, eo_blt, eo_tup, eo_lst, eo_neg, eo_nt, eo_cmp, eo_con, eo_dis, eo_isi, eo_ife, eo_comp, kOp_ap, kCmp_ap, kCm2_ap, kCh1_ap, kCh2_ap, kCh3_t, kCh3_f, asR_bl, kNot_bl, kNeg_int, kA_bl, kA2_t, kA2_f, kO_bl, kO2_t, kO2_f, kA2_nil, kO2_nil, kIf_bl, kIf2_t, kIf2_f, kIdx_ap, kSl_ap, kSl2_ap, kSl3_ap, oi_mis, kI_int, oi_var, oi_cst, oi_op, oi_neg, oi_idx, oi_blt, oi_call, kR2_int, kComp_ap, kV_ap, kV2_fr, kV2_own, itemsOf_tup, itemsOf_lst, itemsOf_own, itemsOf_cell, itC_lst, itemsOf_wk, E_zip, E_enum, E_revd, E_newc, eo_newc, kZ1_ap, zipD_tt, zipD_ll, enumD_t, enumD_l, revD_t, revD_l, newC_own, kComp_apH, kFor_apH, S_asg, S_asT, S_par, S_exp, S_retv, S_ite, S_whl, S_for, S_setv, S_setc, S_mut, S_pas, B_nil, B_cons, kPar_ap, kExp_ap, kRet_ap, kIte_bl, kIte2_t, kIte2_f, kFor_ap, kSv_ap, kSv2_int, kSc_ap, kSc2_ap, kSc3_cell, kMut_ap, op_add, op_sub, eq_int, ne_int, eq_str, ne_str, ne_shT_self, eq_shT_self, lt_int, le_int, gt_int, ge_int, getIt_0, len_tup, len_lst, abs_int, int_bl, int_int, list_cel, liC_lst, len_cel, lnC_lst, list_tup, list_lst, tuple_lst, tuple_tup, forR_nil, forR_cons, forS_nx, forS_rt, nxP_nx, kAsg_ok, kPar2_ok, kTup_ok, kLst_ok, kCel_ok, S_ret, ne_eq, reduceCtorEq, not_false_eq_true, implies_true, RV.d, frz_nil, frz_cons, frzO_some, frzO_none, List.getElem?_cons_zero, List.getElem?_cons_succ, List.getElem?_nil, List.set_cons_zero, List.set_cons_succ, List.length_cons, List.length_nil, mask_nil, mask_none, mask_some, wipe_nil, wipe_cons, decide_true, decide_false, Bool.not_true, Bool.not_false, Nat.zero_add, Nat.reduceAdd, Nat.reduceLT, Nat.reduceLeDiff, Nat.lt_add_one, List.nil_append, List.cons_append, Nat.reduceSub, List.map_cons, List.map_nil, List.replicate_succ, rep_zero, start_eq, gX_some, getT, getL, getC, gC_lst, Int.reduceToNat, Int.reduceLE, Int.reduceLT, Int.reduceNeg, setO_ap, sO_some, setC_ap, sC_some, kAsT_ap, asT_some, bindT_nm, bindT_tup, bindTs_cons, bO_some, bindTs_nil, turnF_ap, tFo_some, cT_ap, cTo_some, cT2_t, cT2_f, cT3_fr, cT3_own, and_self, and_true, true_and, Int.zero_add, ixN_ge, Int.natCast_nonneg, Int.toNat_natCast, Int.cast_ofNat_Int, isin_ty, List.any_cons, List.any_nil, isTy, Bool.true_and, Bool.false_and, Bool.and_true, Bool.and_false, Bool.or_false, Bool.false_or, Bool.or_true, Bool.true_or, Int.reduceEq, e]
  rfl
theorem log2_lt {i : Int} {n : Nat} (h : i.natAbs < 2 ^ n) (hn : 0 < n) : i.natAbs.log2 < n := by
  by_cases z : i.natAbs = 0
  · rw [z]; simpa using hn
  · exact (Nat.log2_lt z).mpr h
theorem mulOk_of {i j : Int} (n m : Nat) (h : i.natAbs < 2 ^ n) (h2 : j.natAbs < 2 ^ m) (hn : 0 < n) (hm : 0 < m) (hz : n + m ≤ 100000000) : mulOk i j = true := by
  have a := log2_lt h hn
  have b := log2_lt h2 hm
  unfold mulOk
  exact decide_eq_true (by omega)
theorem divOk_of {j : Int} (n : Nat) (h0 : j ≠ 0) (h : j.natAbs < 2 ^ n) (hn : 0 < n) (hz : n ≤ 9000) : divOk j = true := by
  have a := log2_lt h hn
  unfold divOk
  simp only [h0, ne_eq, not_false_eq_true, decide_true, Bool.true_and, decide_eq_true_eq]
  omega
theorem fmod_lt {a b : Int} (h : 0 < b) : 0 ≤ a.fmod b ∧ a.fmod b < b := by
  rw [Int.fmod_eq_emod_of_nonneg _ (by omega)]
  exact ⟨Int.emod_nonneg _ (by omega), Int.emod_lt_of_pos _ h⟩
theorem fdiv_nn {a b : Int} (h : 0 ≤ a) (h2 : 0 < b) : 0 ≤ a.fdiv b := by
  rw [Int.fdiv_eq_ediv_of_nonneg _ (by omega)]
  exact Int.ediv_nonneg h (by omega)
theorem w_draw (C : Callee) (many : D) (c : Nat) (x1 x2 x3 : Option RV) : ∀ (m : Nat) (xs : List Int) (a b p : Int) (μ : Mu), μ[c]? = some (feedL xs a b p) → 0 ≤ b → 0 ≤ p → p + m = xs.length → ∃ b' p' : Int, 0 ≤ b' ∧ 0 ≤ p' ∧ p' ≤ xs.length ∧
    whileR (turnW (ev C (.con (.cons (.cmp .eq (.idx (.var 0) (.cst (.int 2))) (.cst (.int 0))) (.cons (.cmp .lt (.idx (.var 0) (.cst (.int 3))) (.blt .len (.idx (.var 0) (.cst (.int 0))))) .nil))))
      (exB C (.cons (.ite [] (.cmp .ge (.blt .abs (.idx (.idx (.var 0) (.cst (.int 0))) (.idx (.var 0) (.cst (.int 3))))) (.op .pow (.cst (.int 10)) (.cst (.int 18)))) (.cons (.setc [] (.var 0) (.cst (.int 2)) (.blt .abs (.idx (.idx (.var 0) (.cst (.int 0))) (.idx (.var 0) (.cst (.int 3)))))) .nil) .nil) (.cons (.setc [] (.var 0) (.cst (.int 3)) (.op .add (.idx (.var 0) (.cst (.int 3))) (.cst (.int 1)))) .nil))))
      [some (.fr (.cell c)), some (.fr many), x1, x2, x3] μ = .nx [some (.fr (.cell c)), some (.fr many), x1, x2, x3] (μ.set c (feedL xs a b' p')) := by
  intro m
  induction m with
  | zero =>
    intro xs a b p μ hc hb hp hm
    have hl : c < μ.length := (List.getElem?_eq_some_iff.mp hc).1
    refine ⟨b, p, hb, hp, by omega, ?_⟩
    rw [show μ.set c (feedL xs a b p) = μ from by
      apply List.ext_getElem?
      intro i
      by_cases hi : c = i
      · subst hi; rw [List.getElem?_set_self hl, hc]
      · rw [List.getElem?_set_ne hi]]
    by_cases h0 : b = 0
    · refine while_end ?_
      unfold feedL at hc
      simp only [bnd_rb, rb_ok, rb_exc, sb_ok, seq_nx, seq_rt, seq_ex, fin_nx, fin_rt, fin_ex, E_var, E_cst, E_glo, E_dic0, E_tup, E_lst, E_cel, E_op, E_cmp, E_chn, E_not, E_neg, E_con, E_dis, E_ife, E_idx, E_slc, E_call, E_blt, E_isi, E_rng1, E_rng2, E_comp, V_nil, V_cons, A_nil, A_cons, O_nil, O_cons, vr_fr, vo_fr, vo_own, vv_some, kD_fr, kD_own, kBl_ap, kOwn_ap, eo_var, eo_cst, eo_glo, eo_op, eo_idx, eo_slc, eo_call, eo_blt, eo_tup, eo_lst, eo_neg, eo_nt, eo_cmp, eo_con, eo_dis, eo_isi, eo_ife, eo_comp, kOp_ap, kCmp_ap, kCm2_ap, kCh1_ap, kCh2_ap, kCh3_t, kCh3_f, asR_bl, kNot_bl, kNeg_int, kA_bl, kA2_t, kA2_f, kO_bl, kO2_t, kO2_f, kA2_nil, kO2_nil, kIf_bl, kIf2_t, kIf2_f, kIdx_ap, kSl_ap, kSl2_ap, kSl3_ap, oi_mis, kI_int, oi_var, oi_cst, oi_op, oi_neg, oi_idx, oi_blt, oi_call, kR2_int, kComp_ap, kV_ap, kV2_fr, kV2_own, itemsOf_tup, itemsOf_lst, itemsOf_own, itemsOf_cell, itC_lst, itemsOf_wk, E_zip, E_enum, E_revd, E_newc, eo_newc, kZ1_ap, zipD_tt, zipD_ll, enumD_t, enumD_l, revD_t, revD_l, newC_own, kComp_apH, kFor_apH, S_asg, S_asT, S_par, S_exp, S_retv, S_ite, S_whl, S_for, S_setv, S_setc, S_mut, S_pas, B_nil, B_cons, kPar_ap, kExp_ap, kRet_ap, kIte_bl, kIte2_t, kIte2_f, kFor_ap, kSv_ap, kSv2_int, kSc_ap, kSc2_ap, kSc3_cell, kMut_ap, op_add, op_sub, eq_int, ne_int, eq_str, ne_str, ne_shT_self, eq_shT_self, lt_int, le_int, gt_int, ge_int, getIt_0, len_tup, len_lst, abs_int, int_bl, int_int, list_cel, liC_lst, len_cel, lnC_lst, list_tup, list_lst, tuple_lst, tuple_tup, forR_nil, forR_cons, forS_nx, forS_rt, nxP_nx, kAsg_ok, kPar2_ok, kTup_ok, kLst_ok, kCel_ok, S_ret, ne_eq, reduceCtorEq, not_false_eq_true, implies_true, RV.d, frz_nil, frz_cons, frzO_some, frzO_none, List.getElem?_cons_zero, List.getElem?_cons_succ, List.getElem?_nil, List.set_cons_zero, List.set_cons_succ, List.length_cons, List.length_nil, mask_nil, mask_none, mask_some, wipe_nil, wipe_cons, decide_true, decide_false, Bool.not_true, Bool.not_false, Nat.zero_add, Nat.reduceAdd, Nat.reduceLT, Nat.reduceLeDiff, Nat.lt_add_one, List.nil_append, List.cons_append, Nat.reduceSub, List.map_cons, List.map_nil, List.replicate_succ, rep_zero, start_eq, gX_some, getT, getL, getC, gC_lst, Int.reduceToNat, Int.reduceLE, Int.reduceLT, Int.reduceNeg, setO_ap, sO_some, setC_ap, sC_some, kAsT_ap, asT_some, bindT_nm, bindT_tup, bindTs_cons, bO_some, bindTs_nil, turnF_ap, tFo_some, cT_ap, cTo_some, cT2_t, cT2_f, cT3_fr, cT3_own, and_self, and_true, true_and, Int.zero_add, ixN_ge, Int.natCast_nonneg, Int.toNat_natCast, Int.cast_ofNat_Int, isin_ty, List.any_cons, List.any_nil, isTy, Bool.true_and, Bool.false_and, Bool.and_true, Bool.and_false, Bool.or_false, Bool.false_or, Bool.or_true, Bool.true_or, Int.reduceEq, hc, h0, List.length_map]
      have : decide (p < (xs.length : Int)) = false := by simp; omega
      rw [this]
    · refine while_end ?_
      unfold feedL at hc
      simp only [bnd_rb, rb_ok, rb_exc, sb_ok, seq_nx, seq_rt, seq_ex, fin_nx, fin_rt, fin_ex, E_var, E_cst, E_glo, E_dic0, E_tup, E_lst, E_cel, E_op, E_cmp, E_chn, E_not, E_neg, E_con, E_dis, E_ife, E_idx, E_slc, E_call, E_blt, E_isi, E_rng1, E_rng2, E_comp, V_nil, V_cons, A_nil, A_cons, O_nil, O_cons, vr_fr, vo_fr, vo_own, vv_some, kD_fr, kD_own, kBl_ap, kOwn_ap, eo_var, eo_cst, eo_glo, eo_op, eo_idx, eo_slc, eo_call, eo_blt, eo_tup, eo_lst, eo_neg, eo_nt, eo_cmp, eo_con, eo_dis, eo_isi, eo_ife, eo_comp, kOp_ap, kCmp_ap, kCm2_ap, kCh1_ap, kCh2_ap, kCh3_t, kCh3_f, asR_bl, kNot_bl, kNeg_int, kA_bl, kA2_t, kA2_f, kO_bl, kO2_t, kO2_f, kA2_nil, kO2_nil, kIf_bl, kIf2_t, kIf2_f, kIdx_ap, kSl_ap, kSl2_ap, kSl3_ap, oi_mis, kI_int, oi_var, oi_cst, oi_op, oi_neg, oi_idx, oi_blt, oi_call, kR2_int, kComp_ap, kV_ap, kV2_fr, kV2_own, itemsOf_tup, itemsOf_lst, itemsOf_own, itemsOf_cell, itC_lst, itemsOf_wk, E_zip, E_enum, E_revd, E_newc, eo_newc, kZ1_ap, zipD_tt, zipD_ll, enumD_t, enumD_l, revD_t, revD_l, newC_own, kComp_apH, kFor_apH, S_asg, S_asT, S_par, S_exp, S_retv, S_ite, S_whl, S_for, S_setv, S_setc, S_mut, S_pas, B_nil, B_cons, kPar_ap, kExp_ap, kRet_ap, kIte_bl, kIte2_t, kIte2_f, kFor_ap, kSv_ap, kSv2_int, kSc_ap, kSc2_ap, kSc3_cell, kMut_ap, op_add, op_sub, eq_int, ne_int, eq_str, ne_str, ne_shT_self, eq_shT_self, lt_int, le_int, gt_int, ge_int, getIt_0, len_tup, len_lst, abs_int, int_bl, int_int, list_cel, liC_lst, len_cel, lnC_lst, list_tup, list_lst, tuple_lst, tuple_tup, forR_nil, forR_cons, forS_nx, forS_rt, nxP_nx, kAsg_ok, kPar2_ok, kTup_ok, kLst_ok, kCel_ok, S_ret, ne_eq, reduceCtorEq, not_false_eq_true, implies_true, RV.d, frz_nil, frz_cons, frzO_some, frzO_none, List.getElem?_cons_zero, List.getElem?_cons_succ, List.getElem?_nil, List.set_cons_zero, List.set_cons_succ, List.length_cons, List.length_nil, mask_nil, mask_none, mask_some, wipe_nil, wipe_cons, decide_true, decide_false, Bool.not_true, Bool.not_false, Nat.zero_add, Nat.reduceAdd, Nat.reduceLT, Nat.reduceLeDiff, Nat.lt_add_one, List.nil_append, List.cons_append, Nat.reduceSub, List.map_cons, List.map_nil, List.replicate_succ, rep_zero, start_eq, gX_some, getT, getL, getC, gC_lst, Int.reduceToNat, Int.reduceLE, Int.reduceLT, Int.reduceNeg, setO_ap, sO_some, setC_ap, sC_some, kAsT_ap, asT_some, bindT_nm, bindT_tup, bindTs_cons, bO_some, bindTs_nil, turnF_ap, tFo_some, cT_ap, cTo_some, cT2_t, cT2_f, cT3_fr, cT3_own, and_self, and_true, true_and, Int.zero_add, ixN_ge, Int.natCast_nonneg, Int.toNat_natCast, Int.cast_ofNat_Int, isin_ty, List.any_cons, List.any_nil, isTy, Bool.true_and, Bool.false_and, Bool.and_true, Bool.and_false, Bool.or_false, Bool.false_or, Bool.or_true, Bool.true_or, Int.reduceEq, hc]
      have : decide (b = 0) = false := by simp [h0]
      simp only [bnd_rb, rb_ok, rb_exc, sb_ok, seq_nx, seq_rt, seq_ex, fin_nx, fin_rt, fin_ex, E_var, E_cst, E_glo, E_dic0, E_tup, E_lst, E_cel, E_op, E_cmp, E_chn, E_not, E_neg, E_con, E_dis, E_ife, E_idx, E_slc, E_call, E_blt, E_isi, E_rng1, E_rng2, E_comp, V_nil, V_cons, A_nil, A_cons, O_nil, O_cons, vr_fr, vo_fr, vo_own, vv_some, kD_fr, kD_own, kBl_ap, kOwn_ap, eo_var, eo_cst, eo_glo, eo_op, eo_idx, eo_slc, eo_call, eo_blt, eo_tup, eo_lst, eo_neg, eo_nt, eo_cmp, eo_con, eo_dis, eo_isi, eo_ife, eo_comp, kOp_ap, kCmp_ap, kCm2_ap, kCh1_ap, kCh2_ap, kCh3_t, kCh3_f, asR_bl, kNot_bl, kNeg_int, kA_bl, kA2_t, kA2_f, kO_bl, kO2_t, kO2_f, kA2_nil, kO2_nil, kIf_bl, kIf2_t, kIf2_f, kIdx_ap, kSl_ap, kSl2_ap, kSl3_ap, oi_mis, kI_int, oi_var, oi_cst, oi_op, oi_neg, oi_idx, oi_blt, oi_call, kR2_int, kComp_ap, kV_ap, kV2_fr, kV2_own, itemsOf_tup, itemsOf_lst, itemsOf_own, itemsOf_cell, itC_lst, itemsOf_wk, E_zip, E_enum, E_revd, E_newc, eo_newc, kZ1_ap, zipD_tt, zipD_ll, enumD_t, enumD_l, revD_t, revD_l, newC_own, kComp_apH, kFor_apH, S_asg, S_asT, S_par, S_exp, S_retv, S_ite, S_whl, S_for, S_setv, S_setc, S_mut, S_pas, B_nil, B_cons, kPar_ap, kExp_ap, kRet_ap, kIte_bl, kIte2_t, kIte2_f, kFor_ap, kSv_ap, kSv2_int, kSc_ap, kSc2_ap, kSc3_cell, kMut_ap, op_add, op_sub, eq_int, ne_int, eq_str, ne_str, ne_shT_self, eq_shT_self, lt_int, le_int, gt_int, ge_int, getIt_0, len_tup, len_lst, abs_int, int_bl, int_int, list_cel, liC_lst, len_cel, lnC_lst, list_tup, list_lst, tuple_lst, tuple_tup, forR_nil, forR_cons, forS_nx, forS_rt, nxP_nx, kAsg_ok, kPar2_ok, kTup_ok, kLst_ok, kCel_ok, S_ret, ne_eq, reduceCtorEq, not_false_eq_true, implies_true, RV.d, frz_nil, frz_cons, frzO_some, frzO_none, List.getElem?_cons_zero, List.getElem?_cons_succ, List.getElem?_nil, List.set_cons_zero, List.set_cons_succ, List.length_cons, List.length_nil, mask_nil, mask_none, mask_some, wipe_nil, wipe_cons, decide_true, decide_false, Bool.not_true, Bool.not_false, Nat.zero_add, Nat.reduceAdd, Nat.reduceLT, Nat.reduceLeDiff, Nat.lt_add_one, List.nil_append, List.cons_append, Nat.reduceSub, List.map_cons, List.map_nil, List.replicate_succ, rep_zero, start_eq, gX_some, getT, getL, getC, gC_lst, Int.reduceToNat, Int.reduceLE, Int.reduceLT, Int.reduceNeg, setO_ap, sO_some, setC_ap, sC_some, kAsT_ap, asT_some, bindT_nm, bindT_tup, bindTs_cons, bO_some, bindTs_nil, turnF_ap, tFo_some, cT_ap, cTo_some, cT2_t, cT2_f, cT3_fr, cT3_own, and_self, and_true, true_and, Int.zero_add, ixN_ge, Int.natCast_nonneg, Int.toNat_natCast, Int.cast_ofNat_Int, isin_ty, List.any_cons, List.any_nil, isTy, Bool.true_and, Bool.false_and, Bool.and_true, Bool.and_false, Bool.or_false, Bool.false_or, Bool.or_true, Bool.true_or, Int.reduceEq, this]
  | succ m ih =>
    intro xs a b p μ hc hb hp hm
    have hl : c < μ.length := (List.getElem?_eq_some_iff.mp hc).1
    have hcc := hc
    unfold feedL at hc
    by_cases h0 : b = 0
    · obtain ⟨q, rfl⟩ := Int.eq_ofNat_of_zero_le hp
      have hq : q < xs.length := by omega
      have hx : (xs.map D.int)[q]? = some (.int xs[q]) := by rw [List.getElem?_map, List.getElem?_eq_getElem hq]; rfl
      have hs : ∀ x : Cell, (μ.set c x)[c]? = some x := fun x => List.getElem?_set_self hl
      have hp2 : (0 : Int) ≤ 10 := by decide
      have hpw : op2 .pow (.int 10) (.int 18) = fun μ => .ok (.fr (.int (10 ^ 18))) μ := by
        funext μ
        exact op_pow (by decide) (by decide) (by decide)
      by_cases hbig : 10 ^ 18 ≤ (if xs[q] < 0 then -xs[q] else xs[q])
      · obtain ⟨b', p', h1, h2, h3, h4⟩ := ih xs a (if xs[q] < 0 then -xs[q] else xs[q]) (q + 1) (μ.set c (feedL xs a (if xs[q] < 0 then -xs[q] else xs[q]) (q + 1))) (hs _) (by split <;> omega) (by omega) (by omega)
        refine ⟨b', p', h1, h2, h3, ?_⟩
        rw [List.set_set] at h4
        rw [← h4]
        refine (while_go (μ1 := μ) (ρ' := [some (.fr (.cell c)), some (.fr many), x1, x2, x3]) (μ' := μ.set c (feedL xs a (if xs[q] < 0 then -xs[q] else xs[q]) (q + 1))) ?_ ?_).trans ?_
        · simp only [bnd_rb, rb_ok, rb_exc, sb_ok, seq_nx, seq_rt, seq_ex, fin_nx, fin_rt, fin_ex, E_var, E_cst, E_glo, E_dic0, E_tup, E_lst, E_cel, E_op, E_cmp, E_chn, E_not, E_neg, E_con, E_dis, E_ife, E_idx, E_slc, E_call, E_blt, E_isi, E_rng1, E_rng2, E_comp, V_nil, V_cons, A_nil, A_cons, O_nil, O_cons, vr_fr, vo_fr, vo_own, vv_some, kD_fr, kD_own, kBl_ap, kOwn_ap, eo_var, eo_cst, eo_glo, eo_op, eo_idx, eo_slc, eo_call, eo_blt, eo_tup, eo_lst, eo_neg, eo_nt, eo_cmp, eo_con, eo_dis, eo_isi, eo_ife, eo_comp, kOp_ap, kCmp_ap, kCm2_ap, kCh1_ap, kCh2_ap, kCh3_t, kCh3_f, asR_bl, kNot_bl, kNeg_int, kA_bl, kA2_t, kA2_f, kO_bl, kO2_t, kO2_f, kA2_nil, kO2_nil, kIf_bl, kIf2_t, kIf2_f, kIdx_ap, kSl_ap, kSl2_ap, kSl3_ap, oi_mis, kI_int, oi_var, oi_cst, oi_op, oi_neg, oi_idx, oi_blt, oi_call, kR2_int, kComp_ap, kV_ap, kV2_fr, kV2_own, itemsOf_tup, itemsOf_lst, itemsOf_own, itemsOf_cell, itC_lst, itemsOf_wk, E_zip, E_enum, E_revd, E_newc, eo_newc, kZ1_ap, zipD_tt, zipD_ll, enumD_t, enumD_l, revD_t, revD_l, newC_own, kComp_apH, kFor_apH, S_asg, S_asT, S_par, S_exp, S_retv, S_ite, S_whl, S_for, S_setv, S_setc, S_mut, S_pas, B_nil, B_cons, kPar_ap, kExp_ap, kRet_ap, kIte_bl, kIte2_t, kIte2_f, kFor_ap, kSv_ap, kSv2_int, kSc_ap, kSc2_ap, kSc3_cell, kMut_ap, op_add, op_sub, eq_int, ne_int, eq_str, ne_str, ne_shT_self, eq_shT_self, lt_int, le_int, gt_int, ge_int, getIt_0, len_tup, len_lst, abs_int, int_bl, int_int, list_cel, liC_lst, len_cel, lnC_lst, list_tup, list_lst, tuple_lst, tuple_tup, forR_nil, forR_cons, forS_nx, forS_rt, nxP_nx, kAsg_ok, kPar2_ok, kTup_ok, kLst_ok, kCel_ok, S_ret, ne_eq, reduceCtorEq, not_false_eq_true, implies_true, RV.d, frz_nil, frz_cons, frzO_some, frzO_none, List.getElem?_cons_zero, List.getElem?_cons_succ, List.getElem?_nil, List.set_cons_zero, List.set_cons_succ, List.length_cons, List.length_nil, mask_nil, mask_none, mask_some, wipe_nil, wipe_cons, decide_true, decide_false, Bool.not_true, Bool.not_false, Nat.zero_add, Nat.reduceAdd, Nat.reduceLT, Nat.reduceLeDiff, Nat.lt_add_one, List.nil_append, List.cons_append, Nat.reduceSub, List.map_cons, List.map_nil, List.replicate_succ, rep_zero, start_eq, gX_some, getT, getL, getC, gC_lst, Int.reduceToNat, Int.reduceLE, Int.reduceLT, Int.reduceNeg, setO_ap, sO_some, setC_ap, sC_some, kAsT_ap, asT_some, bindT_nm, bindT_tup, bindTs_cons, bO_some, bindTs_nil, turnF_ap, tFo_some, cT_ap, cTo_some, cT2_t, cT2_f, cT3_fr, cT3_own, and_self, and_true, true_and, Int.zero_add, ixN_ge, Int.natCast_nonneg, Int.toNat_natCast, Int.cast_ofNat_Int, isin_ty, List.any_cons, List.any_nil, isTy, Bool.true_and, Bool.false_and, Bool.and_true, Bool.and_false, Bool.or_false, Bool.false_or, Bool.or_true, Bool.true_or, Int.reduceEq, hc, h0, List.length_map]
          have : decide ((q : Int) < (xs.length : Int)) = true := by simp; omega
          rw [this]
        · simp only [bnd_rb, rb_ok, rb_exc, sb_ok, seq_nx, seq_rt, seq_ex, fin_nx, fin_rt, fin_ex, E_var, E_cst, E_glo, E_dic0, E_tup, E_lst, E_cel, E_op, E_cmp, E_chn, E_not, E_neg, E_con, E_dis, E_ife, E_idx, E_slc, E_call, E_blt, E_isi, E_rng1, E_rng2, E_comp, V_nil, V_cons, A_nil, A_cons, O_nil, O_cons, vr_fr, vo_fr, vo_own, vv_some, kD_fr, kD_own, kBl_ap, kOwn_ap, eo_var, eo_cst, eo_glo, eo_op, eo_idx, eo_slc, eo_call, eo_blt, eo_tup, eo_lst, eo_neg, eo_nt, eo_cmp, eo_con, eo_dis, eo_isi, eo_ife, eo_comp, kOp_ap, kCmp_ap, kCm2_ap, kCh1_ap, kCh2_ap, kCh3_t, kCh3_f, asR_bl, kNot_bl, kNeg_int, kA_bl, kA2_t, kA2_f, kO_bl, kO2_t, kO2_f, kA2_nil, kO2_nil, kIf_bl, kIf2_t, kIf2_f, kIdx_ap, kSl_ap, kSl2_ap, kSl3_ap, oi_mis, kI_int, oi_var, oi_cst, oi_op, oi_neg, oi_idx, oi_blt, oi_call, kR2_int, kComp_ap, kV_ap, kV2_fr, kV2_own, itemsOf_tup, itemsOf_lst, itemsOf_own, itemsOf_cell, itC_lst, itemsOf_wk, E_zip, E_enum, E_revd, E_newc, eo_newc, kZ1_ap, zipD_tt, zipD_ll, enumD_t, enumD_l, revD_t, revD_l, newC_own, kComp_apH, kFor_apH, S_asg, S_asT, S_par, S_exp, S_retv, S_ite, S_whl, S_for, S_setv, S_setc, S_mut, S_pas, B_nil, B_cons, kPar_ap, kExp_ap, kRet_ap, kIte_bl, kIte2_t, kIte2_f, kFor_ap, kSv_ap, kSv2_int, kSc_ap, kSc2_ap, kSc3_cell, kMut_ap, op_add, op_sub, eq_int, ne_int, eq_str, ne_str, ne_shT_self, eq_shT_self, lt_int, le_int, gt_int, ge_int, getIt_0, len_tup, len_lst, abs_int, int_bl, int_int, list_cel, liC_lst, len_cel, lnC_lst, list_tup, list_lst, tuple_lst, tuple_tup, forR_nil, forR_cons, forS_nx, forS_rt, nxP_nx, kAsg_ok, kPar2_ok, kTup_ok, kLst_ok, kCel_ok, S_ret, ne_eq, reduceCtorEq, not_false_eq_true, implies_true, RV.d, frz_nil, frz_cons, frzO_some, frzO_none, List.getElem?_cons_zero, List.getElem?_cons_succ, List.getElem?_nil, List.set_cons_zero, List.set_cons_succ, List.length_cons, List.length_nil, mask_nil, mask_none, mask_some, wipe_nil, wipe_cons, decide_true, decide_false, Bool.not_true, Bool.not_false, Nat.zero_add, Nat.reduceAdd, Nat.reduceLT, Nat.reduceLeDiff, Nat.lt_add_one, List.nil_append, List.cons_append, Nat.reduceSub, List.map_cons, List.map_nil, List.replicate_succ, rep_zero, start_eq, gX_some, getT, getL, getC, gC_lst, Int.reduceToNat, Int.reduceLE, Int.reduceLT, Int.reduceNeg, setO_ap, sO_some, setC_ap, sC_some, kAsT_ap, asT_some, bindT_nm, bindT_tup, bindTs_cons, bO_some, bindTs_nil, turnF_ap, tFo_some, cT_ap, cTo_some, cT2_t, cT2_f, cT3_fr, cT3_own, and_self, and_true, true_and, Int.zero_add, ixN_ge, Int.natCast_nonneg, Int.toNat_natCast, Int.cast_ofNat_Int, isin_ty, List.any_cons, List.any_nil, isTy, Bool.true_and, Bool.false_and, Bool.and_true, Bool.and_false, Bool.or_false, Bool.false_or, Bool.or_true, Bool.true_or, Int.reduceEq, hc, hpw, Int.natCast_nonneg, Int.toNat_natCast, hx, hbig, hs, ixN_ge, List.set_set]
          rfl
        · cases x1 <;> cases x2 <;> cases x3 <;> simp only [bnd_rb, rb_ok, rb_exc, sb_ok, seq_nx, seq_rt, seq_ex, fin_nx, fin_rt, fin_ex, E_var, E_cst, E_glo, E_dic0, E_tup, E_lst, E_cel, E_op, E_cmp, E_chn, E_not, E_neg, E_con, E_dis, E_ife, E_idx, E_slc, E_call, E_blt, E_isi, E_rng1, E_rng2, E_comp, V_nil, V_cons, A_nil, A_cons, O_nil, O_cons, vr_fr, vo_fr, vo_own, vv_some, kD_fr, kD_own, kBl_ap, kOwn_ap, eo_var, eo_cst, eo_glo, eo_op, eo_idx, eo_slc, eo_call, eo_blt, eo_tup, eo_lst, eo_neg, eo_nt, eo_cmp, eo_con, eo_dis, eo_isi, eo_ife, eo_comp, kOp_ap, kCmp_ap, kCm2_ap, kCh1_ap, kCh2_ap, kCh3_t, kCh3_f, asR_bl, kNot_bl, kNeg_int, kA_bl, kA2_t, kA2_f, kO_bl, kO2_t, kO2_f, kA2_nil, kO2_nil, kIf_bl, kIf2_t, kIf2_f, kIdx_ap, kSl_ap, kSl2_ap, kSl3_ap, oi_mis, kI_int, oi_var, oi_cst, oi_op, oi_neg, oi_idx, oi_blt, oi_call, kR2_int, kComp_ap, kV_ap, kV2_fr, kV2_own, itemsOf_tup, itemsOf_lst, itemsOf_own, itemsOf_cell, itC_lst, itemsOf_wk, E_zip, E_enum, E_revd, E_newc, eo_newc, kZ1_ap, zipD_tt, zipD_ll, enumD_t, enumD_l, revD_t, revD_l, newC_own, kComp_apH, kFor_apH, S_asg, S_asT, S_par, S_exp, S_retv, S_ite, S_whl, S_for, S_setv, S_setc, S_mut, S_pas, B_nil, B_cons, kPar_ap, kExp_ap, kRet_ap, kIte_bl, kIte2_t, kIte2_f, kFor_ap, kSv_ap, kSv2_int, kSc_ap, kSc2_ap, kSc3_cell, kMut_ap, op_add, op_sub, eq_int, ne_int, eq_str, ne_str, ne_shT_self, eq_shT_self, lt_int, le_int, gt_int, ge_int, getIt_0, len_tup, len_lst, abs_int, int_bl, int_int, list_cel, liC_lst, len_cel, lnC_lst, list_tup, list_lst, tuple_lst, tuple_tup, forR_nil, forR_cons, forS_nx, forS_rt, nxP_nx, kAsg_ok, kPar2_ok, kTup_ok, kLst_ok, kCel_ok, S_ret, ne_eq, reduceCtorEq, not_false_eq_true, implies_true, RV.d, frz_nil, frz_cons, frzO_some, frzO_none, List.getElem?_cons_zero, List.getElem?_cons_succ, List.getElem?_nil, List.set_cons_zero, List.set_cons_succ, List.length_cons, List.length_nil, mask_nil, mask_none, mask_some, wipe_nil, wipe_cons, decide_true, decide_false, Bool.not_true, Bool.not_false, Nat.zero_add, Nat.reduceAdd, Nat.reduceLT, Nat.reduceLeDiff, Nat.lt_add_one, List.nil_append, List.cons_append, Nat.reduceSub, List.map_cons, List.map_nil, List.replicate_succ, rep_zero, start_eq, gX_some, getT, getL, getC, gC_lst, Int.reduceToNat, Int.reduceLE, Int.reduceLT, Int.reduceNeg, setO_ap, sO_some, setC_ap, sC_some, kAsT_ap, asT_some, bindT_nm, bindT_tup, bindTs_cons, bO_some, bindTs_nil, turnF_ap, tFo_some, cT_ap, cTo_some, cT2_t, cT2_f, cT3_fr, cT3_own, and_self, and_true, true_and, Int.zero_add, ixN_ge, Int.natCast_nonneg, Int.toNat_natCast, Int.cast_ofNat_Int, isin_ty, List.any_cons, List.any_nil, isTy, Bool.true_and, Bool.false_and, Bool.and_true, Bool.and_false, Bool.or_false, Bool.false_or, Bool.or_true, Bool.true_or, Int.reduceEq]
      · obtain ⟨b', p', h1, h2, h3, h4⟩ := ih xs a b (q + 1) (μ.set c (feedL xs a b (q + 1))) (hs _) hb (by omega) (by omega)
        refine ⟨b', p', h1, h2, h3, ?_⟩
        rw [List.set_set] at h4
        rw [← h4]
        refine (while_go (μ1 := μ) (ρ' := [some (.fr (.cell c)), some (.fr many), x1, x2, x3]) (μ' := μ.set c (feedL xs a b (q + 1))) ?_ ?_).trans ?_
        · simp only [bnd_rb, rb_ok, rb_exc, sb_ok, seq_nx, seq_rt, seq_ex, fin_nx, fin_rt, fin_ex, E_var, E_cst, E_glo, E_dic0, E_tup, E_lst, E_cel, E_op, E_cmp, E_chn, E_not, E_neg, E_con, E_dis, E_ife, E_idx, E_slc, E_call, E_blt, E_isi, E_rng1, E_rng2, E_comp, V_nil, V_cons, A_nil, A_cons, O_nil, O_cons, vr_fr, vo_fr, vo_own, vv_some, kD_fr, kD_own, kBl_ap, kOwn_ap, eo_var, eo_cst, eo_glo, eo_op, eo_idx, eo_slc, eo_call, eo_blt, eo_tup, eo_lst, eo_neg, eo_nt, eo_cmp, eo_con, eo_dis, eo_isi, eo_ife, eo_comp, kOp_ap, kCmp_ap, kCm2_ap, kCh1_ap, kCh2_ap, kCh3_t, kCh3_f, asR_bl, kNot_bl, kNeg_int, kA_bl, kA2_t, kA2_f, kO_bl, kO2_t, kO2_f, kA2_nil, kO2_nil, kIf_bl, kIf2_t, kIf2_f, kIdx_ap, kSl_ap, kSl2_ap, kSl3_ap, oi_mis, kI_int, oi_var, oi_cst, oi_op, oi_neg, oi_idx, oi_blt, oi_call, kR2_int, kComp_ap, kV_ap, kV2_fr, kV2_own, itemsOf_tup, itemsOf_lst, itemsOf_own, itemsOf_cell, itC_lst, itemsOf_wk, E_zip, E_enum, E_revd, E_newc, eo_newc, kZ1_ap, zipD_tt, zipD_ll, enumD_t, enumD_l, revD_t, revD_l, newC_own, kComp_apH, kFor_apH, S_asg, S_asT, S_par, S_exp, S_retv, S_ite, S_whl, S_for, S_setv, S_setc, S_mut, S_pas, B_nil, B_cons, kPar_ap, kExp_ap, kRet_ap, kIte_bl, kIte2_t, kIte2_f, kFor_ap, kSv_ap, kSv2_int, kSc_ap, kSc2_ap, kSc3_cell, kMut_ap, op_add, op_sub, eq_int, ne_int, eq_str, ne_str, ne_shT_self, eq_shT_self, lt_int, le_int, gt_int, ge_int, getIt_0, len_tup, len_lst, abs_int, int_bl, int_int, list_cel, liC_lst, len_cel, lnC_lst, list_tup, list_lst, tuple_lst, tuple_tup, forR_nil, forR_cons, forS_nx, forS_rt, nxP_nx, kAsg_ok, kPar2_ok, kTup_ok, kLst_ok, kCel_ok, S_ret, ne_eq, reduceCtorEq, not_false_eq_true, implies_true, RV.d, frz_nil, frz_cons, frzO_some, frzO_none, List.getElem?_cons_zero, List.getElem?_cons_succ, List.getElem?_nil, List.set_cons_zero, List.set_cons_succ, List.length_cons, List.length_nil, mask_nil, mask_none, mask_some, wipe_nil, wipe_cons, decide_true, decide_false, Bool.not_true, Bool.not_false, Nat.zero_add, Nat.reduceAdd, Nat.reduceLT, Nat.reduceLeDiff, Nat.lt_add_one, List.nil_append, List.cons_append, Nat.reduceSub, List.map_cons, List.map_nil, List.replicate_succ, rep_zero, start_eq, gX_some, getT, getL, getC, gC_lst, Int.reduceToNat, Int.reduceLE, Int.reduceLT, Int.reduceNeg, setO_ap, sO_some, setC_ap, sC_some, kAsT_ap, asT_some, bindT_nm, bindT_tup, bindTs_cons, bO_some, bindTs_nil, turnF_ap, tFo_some, cT_ap, cTo_some, cT2_t, cT2_f, cT3_fr, cT3_own, and_self, and_true, true_and, Int.zero_add, ixN_ge, Int.natCast_nonneg, Int.toNat_natCast, Int.cast_ofNat_Int, isin_ty, List.any_cons, List.any_nil, isTy, Bool.true_and, Bool.false_and, Bool.and_true, Bool.and_false, Bool.or_false, Bool.false_or, Bool.or_true, Bool.true_or, Int.reduceEq, hc, h0, List.length_map]
          have : decide ((q : Int) < (xs.length : Int)) = true := by simp; omega
          rw [this]
        · simp only [bnd_rb, rb_ok, rb_exc, sb_ok, seq_nx, seq_rt, seq_ex, fin_nx, fin_rt, fin_ex, E_var, E_cst, E_glo, E_dic0, E_tup, E_lst, E_cel, E_op, E_cmp, E_chn, E_not, E_neg, E_con, E_dis, E_ife, E_idx, E_slc, E_call, E_blt, E_isi, E_rng1, E_rng2, E_comp, V_nil, V_cons, A_nil, A_cons, O_nil, O_cons, vr_fr, vo_fr, vo_own, vv_some, kD_fr, kD_own, kBl_ap, kOwn_ap, eo_var, eo_cst, eo_glo, eo_op, eo_idx, eo_slc, eo_call, eo_blt, eo_tup, eo_lst, eo_neg, eo_nt, eo_cmp, eo_con, eo_dis, eo_isi, eo_ife, eo_comp, kOp_ap, kCmp_ap, kCm2_ap, kCh1_ap, kCh2_ap, kCh3_t, kCh3_f, asR_bl, kNot_bl, kNeg_int, kA_bl, kA2_t, kA2_f, kO_bl, kO2_t, kO2_f, kA2_nil, kO2_nil, kIf_bl, kIf2_t, kIf2_f, kIdx_ap, kSl_ap, kSl2_ap, kSl3_ap, oi_mis, kI_int, oi_var, oi_cst, oi_op, oi_neg, oi_idx, oi_blt, oi_call, kR2_int, kComp_ap, kV_ap, kV2_fr, kV2_own, itemsOf_tup, itemsOf_lst, itemsOf_own, itemsOf_cell, itC_lst, itemsOf_wk, E_zip, E_enum, E_revd, E_newc, eo_newc, kZ1_ap, zipD_tt, zipD_ll, enumD_t, enumD_l, revD_t, revD_l, newC_own, kComp_apH, kFor_apH, S_asg, S_asT, S_par, S_exp, S_retv, S_ite, S_whl, S_for, S_setv, S_setc, S_mut, S_pas, B_nil, B_cons, kPar_ap, kExp_ap, kRet_ap, kIte_bl, kIte2_t, kIte2_f, kFor_ap, kSv_ap, kSv2_int, kSc_ap, kSc2_ap, kSc3_cell, kMut_ap, op_add, op_sub, eq_int, ne_int, eq_str, ne_str, ne_shT_self, eq_shT_self, lt_int, le_int, gt_int, ge_int, getIt_0, len_tup, len_lst, abs_int, int_bl, int_int, list_cel, liC_lst, len_cel, lnC_lst, list_tup, list_lst, tuple_lst, tuple_tup, forR_nil, forR_cons, forS_nx, forS_rt, nxP_nx, kAsg_ok, kPar2_ok, kTup_ok, kLst_ok, kCel_ok, S_ret, ne_eq, reduceCtorEq, not_false_eq_true, implies_true, RV.d, frz_nil, frz_cons, frzO_some, frzO_none, List.getElem?_cons_zero, List.getElem?_cons_succ, List.getElem?_nil, List.set_cons_zero, List.set_cons_succ, List.length_cons, List.length_nil, mask_nil, mask_none, mask_some, wipe_nil, wipe_cons, decide_true, decide_false, Bool.not_true, Bool.not_false, Nat.zero_add, Nat.reduceAdd, Nat.reduceLT, Nat.reduceLeDiff, Nat.lt_add_one, List.nil_append, List.cons_append, Nat.reduceSub, List.map_cons, List.map_nil, List.replicate_succ, rep_zero, start_eq, gX_some, getT, getL, getC, gC_lst, Int.reduceToNat, Int.reduceLE, Int.reduceLT, Int.reduceNeg, setO_ap, sO_some, setC_ap, sC_some, kAsT_ap, asT_some, bindT_nm, bindT_tup, bindTs_cons, bO_some, bindTs_nil, turnF_ap, tFo_some, cT_ap, cTo_some, cT2_t, cT2_f, cT3_fr, cT3_own, and_self, and_true, true_and, Int.zero_add, ixN_ge, Int.natCast_nonneg, Int.toNat_natCast, Int.cast_ofNat_Int, isin_ty, List.any_cons, List.any_nil, isTy, Bool.true_and, Bool.false_and, Bool.and_true, Bool.and_false, Bool.or_false, Bool.false_or, Bool.or_true, Bool.true_or, Int.reduceEq, hc, hpw, Int.natCast_nonneg, Int.toNat_natCast, hx, hbig, hs, ixN_ge, List.set_set]
          rfl
        · cases x1 <;> cases x2 <;> cases x3 <;> simp only [bnd_rb, rb_ok, rb_exc, sb_ok, seq_nx, seq_rt, seq_ex, fin_nx, fin_rt, fin_ex, E_var, E_cst, E_glo, E_dic0, E_tup, E_lst, E_cel, E_op, E_cmp, E_chn, E_not, E_neg, E_con, E_dis, E_ife, E_idx, E_slc, E_call, E_blt, E_isi, E_rng1, E_rng2, E_comp, V_nil, V_cons, A_nil, A_cons, O_nil, O_cons, vr_fr, vo_fr, vo_own, vv_some, kD_fr, kD_own, kBl_ap, kOwn_ap, eo_var, eo_cst, eo_glo, eo_op, eo_idx, eo_slc, eo_call, eo_blt, eo_tup, eo_lst, eo_neg, eo_nt, eo_cmp, eo_con, eo_dis, eo_isi, eo_ife, eo_comp, kOp_ap, kCmp_ap, kCm2_ap, kCh1_ap, kCh2_ap, kCh3_t, kCh3_f, asR_bl, kNot_bl, kNeg_int, kA_bl, kA2_t, kA2_f, kO_bl, kO2_t, kO2_f, kA2_nil, kO2_nil, kIf_bl, kIf2_t, kIf2_f, kIdx_ap, kSl_ap, kSl2_ap, kSl3_ap, oi_mis, kI_int, oi_var, oi_cst, oi_op, oi_neg, oi_idx, oi_blt, oi_call, kR2_int, kComp_ap, kV_ap, kV2_fr, kV2_own, itemsOf_tup, itemsOf_lst, itemsOf_own, itemsOf_cell, itC_lst, itemsOf_wk, E_zip, E_enum, E_revd, E_newc, eo_newc, kZ1_ap, zipD_tt, zipD_ll, enumD_t, enumD_l, revD_t, revD_l, newC_own, kComp_apH, kFor_apH, S_asg, S_asT, S_par, S_exp, S_retv, S_ite, S_whl, S_for, S_setv, S_setc, S_mut, S_pas, B_nil, B_cons, kPar_ap, kExp_ap, kRet_ap, kIte_bl, kIte2_t, kIte2_f, kFor_ap, kSv_ap, kSv2_int, kSc_ap, kSc2_ap, kSc3_cell, kMut_ap, op_add, op_sub, eq_int, ne_int, eq_str, ne_str, ne_shT_self, eq_shT_self, lt_int, le_int, gt_int, ge_int, getIt_0, len_tup, len_lst, abs_int, int_bl, int_int, list_cel, liC_lst, len_cel, lnC_lst, list_tup, list_lst, tuple_lst, tuple_tup, forR_nil, forR_cons, forS_nx, forS_rt, nxP_nx, kAsg_ok, kPar2_ok, kTup_ok, kLst_ok, kCel_ok, S_ret, ne_eq, reduceCtorEq, not_false_eq_true, implies_true, RV.d, frz_nil, frz_cons, frzO_some, frzO_none, List.getElem?_cons_zero, List.getElem?_cons_succ, List.getElem?_nil, List.set_cons_zero, List.set_cons_succ, List.length_cons, List.length_nil, mask_nil, mask_none, mask_some, wipe_nil, wipe_cons, decide_true, decide_false, Bool.not_true, Bool.not_false, Nat.zero_add, Nat.reduceAdd, Nat.reduceLT, Nat.reduceLeDiff, Nat.lt_add_one, List.nil_append, List.cons_append, Nat.reduceSub, List.map_cons, List.map_nil, List.replicate_succ, rep_zero, start_eq, gX_some, getT, getL, getC, gC_lst, Int.reduceToNat, Int.reduceLE, Int.reduceLT, Int.reduceNeg, setO_ap, sO_some, setC_ap, sC_some, kAsT_ap, asT_some, bindT_nm, bindT_tup, bindTs_cons, bO_some, bindTs_nil, turnF_ap, tFo_some, cT_ap, cTo_some, cT2_t, cT2_f, cT3_fr, cT3_own, and_self, and_true, true_and, Int.zero_add, ixN_ge, Int.natCast_nonneg, Int.toNat_natCast, Int.cast_ofNat_Int, isin_ty, List.any_cons, List.any_nil, isTy, Bool.true_and, Bool.false_and, Bool.and_true, Bool.and_false, Bool.or_false, Bool.false_or, Bool.or_true, Bool.true_or, Int.reduceEq]
    · refine ⟨b, p, hb, hp, by omega, ?_⟩
      rw [show μ.set c (feedL xs a b p) = μ from by
        apply List.ext_getElem?
        intro i
        by_cases hi : c = i
        · subst hi; rw [List.getElem?_set_self hl, hcc]
        · rw [List.getElem?_set_ne hi]]
      refine while_end ?_
      simp only [bnd_rb, rb_ok, rb_exc, sb_ok, seq_nx, seq_rt, seq_ex, fin_nx, fin_rt, fin_ex, E_var, E_cst, E_glo, E_dic0, E_tup, E_lst, E_cel, E_op, E_cmp, E_chn, E_not, E_neg, E_con, E_dis, E_ife, E_idx, E_slc, E_call, E_blt, E_isi, E_rng1, E_rng2, E_comp, V_nil, V_cons, A_nil, A_cons, O_nil, O_cons, vr_fr, vo_fr, vo_own, vv_some, kD_fr, kD_own, kBl_ap, kOwn_ap, eo_var, eo_cst, eo_glo, eo_op, eo_idx, eo_slc, eo_call, eo_blt, eo_tup, eo_lst, eo_neg, eo_nt, eo_cmp, eo_con, eo_dis, eo_isi, eo_ife, eo_comp, kOp_ap, kCmp_ap, kCm2_ap, kCh1_ap, kCh2_ap, kCh3_t, kCh3_f, asR_bl, kNot_bl, kNeg_int, kA_bl, kA2_t, kA2_f, kO_bl, kO2_t, kO2_f, kA2_nil, kO2_nil, kIf_bl, kIf2_t, kIf2_f, kIdx_ap, kSl_ap, kSl2_ap, kSl3_ap, oi_mis, kI_int, oi_var, oi_cst, oi_op, oi_neg, oi_idx, oi_blt, oi_call, kR2_int, kComp_ap, kV_ap, kV2_fr, kV2_own, itemsOf_tup, itemsOf_lst, itemsOf_own, itemsOf_cell, itC_lst, itemsOf_wk, E_zip, E_enum, E_revd, E_newc, eo_newc, kZ1_ap, zipD_tt, zipD_ll, enumD_t, enumD_l, revD_t, revD_l, newC_own, kComp_apH, kFor_apH, S_asg, S_asT, S_par, S_exp, S_retv, S_ite, S_whl, S_for, S_setv, S_setc, S_mut, S_pas, B_nil, B_cons, kPar_ap, kExp_ap, kRet_ap, kIte_bl, kIte2_t, kIte2_f, kFor_ap, kSv_ap, kSv2_int, kSc_ap, kSc2_ap, kSc3_cell, kMut_ap, op_add, op_sub, eq_int, ne_int, eq_str, ne_str, ne_shT_self, eq_shT_self, lt_int, le_int, gt_int, ge_int, getIt_0, len_tup, len_lst, abs_int, int_bl, int_int, list_cel, liC_lst, len_cel, lnC_lst, list_tup, list_lst, tuple_lst, tuple_tup, forR_nil, forR_cons, forS_nx, forS_rt, nxP_nx, kAsg_ok, kPar2_ok, kTup_ok, kLst_ok, kCel_ok, S_ret, ne_eq, reduceCtorEq, not_false_eq_true, implies_true, RV.d, frz_nil, frz_cons, frzO_some, frzO_none, List.getElem?_cons_zero, List.getElem?_cons_succ, List.getElem?_nil, List.set_cons_zero, List.set_cons_succ, List.length_cons, List.length_nil, mask_nil, mask_none, mask_some, wipe_nil, wipe_cons, decide_true, decide_false, Bool.not_true, Bool.not_false, Nat.zero_add, Nat.reduceAdd, Nat.reduceLT, Nat.reduceLeDiff, Nat.lt_add_one, List.nil_append, List.cons_append, Nat.reduceSub, List.map_cons, List.map_nil, List.replicate_succ, rep_zero, start_eq, gX_some, getT, getL, getC, gC_lst, Int.reduceToNat, Int.reduceLE, Int.reduceLT, Int.reduceNeg, setO_ap, sO_some, setC_ap, sC_some, kAsT_ap, asT_some, bindT_nm, bindT_tup, bindTs_cons, bO_some, bindTs_nil, turnF_ap, tFo_some, cT_ap, cTo_some, cT2_t, cT2_f, cT3_fr, cT3_own, and_self, and_true, true_and, Int.zero_add, ixN_ge, Int.natCast_nonneg, Int.toNat_natCast, Int.cast_ofNat_Int, isin_ty, List.any_cons, List.any_nil, isTy, Bool.true_and, Bool.false_and, Bool.and_true, Bool.and_false, Bool.or_false, Bool.false_or, Bool.or_true, Bool.true_or, Int.reduceEq, hc]
      have : decide (b = 0) = false := by simp [h0]
      simp only [bnd_rb, rb_ok, rb_exc, sb_ok, seq_nx, seq_rt, seq_ex, fin_nx, fin_rt, fin_ex, E_var, E_cst, E_glo, E_dic0, E_tup, E_lst, E_cel, E_op, E_cmp, E_chn, E_not, E_neg, E_con, E_dis, E_ife, E_idx, E_slc, E_call, E_blt, E_isi, E_rng1, E_rng2, E_comp, V_nil, V_cons, A_nil, A_cons, O_nil, O_cons, vr_fr, vo_fr, vo_own, vv_some, kD_fr, kD_own, kBl_ap, kOwn_ap, eo_var, eo_cst, eo_glo, eo_op, eo_idx, eo_slc, eo_call, eo_blt, eo_tup, eo_lst, eo_neg, eo_nt, eo_cmp, eo_con, eo_dis, eo_isi, eo_ife, eo_comp, kOp_ap, kCmp_ap, kCm2_ap, kCh1_ap, kCh2_ap, kCh3_t, kCh3_f, asR_bl, kNot_bl, kNeg_int, kA_bl, kA2_t, kA2_f, kO_bl, kO2_t, kO2_f, kA2_nil, kO2_nil, kIf_bl, kIf2_t, kIf2_f, kIdx_ap, kSl_ap, kSl2_ap, kSl3_ap, oi_mis, kI_int, oi_var, oi_cst, oi_op, oi_neg, oi_idx, oi_blt, oi_call, kR2_int, kComp_ap, kV_ap, kV2_fr, kV2_own, itemsOf_tup, itemsOf_lst, itemsOf_own, itemsOf_cell, itC_lst, itemsOf_wk, E_zip, E_enum, E_revd, E_newc, eo_newc, kZ1_ap, zipD_tt, zipD_ll, enumD_t, enumD_l, revD_t, revD_l, newC_own, kComp_apH, kFor_apH, S_asg, S_asT, S_par, S_exp, S_retv, S_ite, S_whl, S_for, S_setv, S_setc, S_mut, S_pas, B_nil, B_cons, kPar_ap, kExp_ap, kRet_ap, kIte_bl, kIte2_t, kIte2_f, kFor_ap, kSv_ap, kSv2_int, kSc_ap, kSc2_ap, kSc3_cell, kMut_ap, op_add, op_sub, eq_int, ne_int, eq_str, ne_str, ne_shT_self, eq_shT_self, lt_int, le_int, gt_int, ge_int, getIt_0, len_tup, len_lst, abs_int, int_bl, int_int, list_cel, liC_lst, len_cel, lnC_lst, list_tup, list_lst, tuple_lst, tuple_tup, forR_nil, forR_cons, forS_nx, forS_rt, nxP_nx, kAsg_ok, kPar2_ok, kTup_ok, kLst_ok, kCel_ok, S_ret, ne_eq, reduceCtorEq, not_false_eq_true, implies_true, RV.d, frz_nil, frz_cons, frzO_some, frzO_none, List.getElem?_cons_zero, List.getElem?_cons_succ, List.getElem?_nil, List.set_cons_zero, List.set_cons_succ, List.length_cons, List.length_nil, mask_nil, mask_none, mask_some, wipe_nil, wipe_cons, decide_true, decide_false, Bool.not_true, Bool.not_false, Nat.zero_add, Nat.reduceAdd, Nat.reduceLT, Nat.reduceLeDiff, Nat.lt_add_one, List.nil_append, List.cons_append, Nat.reduceSub, List.map_cons, List.map_nil, List.replicate_succ, rep_zero, start_eq, gX_some, getT, getL, getC, gC_lst, Int.reduceToNat, Int.reduceLE, Int.reduceLT, Int.reduceNeg, setO_ap, sO_some, setC_ap, sC_some, kAsT_ap, asT_some, bindT_nm, bindT_tup, bindTs_cons, bO_some, bindTs_nil, turnF_ap, tFo_some, cT_ap, cTo_some, cT2_t, cT2_f, cT3_fr, cT3_own, and_self, and_true, true_and, Int.zero_add, ixN_ge, Int.natCast_nonneg, Int.toNat_natCast, Int.cast_ofNat_Int, isin_ty, List.any_cons, List.any_nil, isTy, Bool.true_and, Bool.false_and, Bool.and_true, Bool.and_false, Bool.or_false, Bool.false_or, Bool.or_true, Bool.true_or, Int.reduceEq, this]
end Sx
set_option maxHeartbeats 200000
namespace Sx
/-- a draw: a number from 0 on, below many -/
theorem s_draw (k c : Nat) {many : Int} {n : Nat} {cell : Cell} {μ : Mu} (hc : μ[c]? = some cell) (hf : FeedC (n + 1) cell) (hm : 0 < many) (hm2 : many.natAbs < 2 ^ 250) :
    ∃ v cell', cl (k + 1) 5 [.cell c, .int many] μ = .ok (.fr (.int v)) (μ.set c cell') ∧ FeedC n cell' ∧ 0 ≤ v ∧ v < many := by
  obtain ⟨xs, a, b, p, rfl, hl, ha, hn, hb, hp, hp2⟩ := hf
  have hlt : c < μ.length := (List.getElem?_eq_some_iff.mp hc).1
  have hs : ∀ x : Cell, (μ.set c x)[c]? = some x := fun x => List.getElem?_set_self hlt
  obtain ⟨b', p', hb', hp', hp'', hw⟩ := w_draw (callD reg k) (.int many) c none none none (xs.length - p.toNat) xs (a + 1) b p (μ.set c (feedL xs (a + 1) b p)) (hs _) hb hp (by omega)
  rw [List.set_set] at hw
  have hd : divOk many = true := divOk_of 250 (by omega) hm2 (by decide) (by decide)
  have hm0 : many ≠ 0 := by omega
  have hfeed : ∀ b p : Int, 0 ≤ b → 0 ≤ p → p ≤ xs.length → FeedC n (feedL xs (a + 1) b p) := fun b p h1 h2 h3 => ⟨xs, a + 1, b, p, rfl, hl, by omega, by omega, h1, h2, h3⟩
  rw [cl, call_eq r5 rfl]
  unfold feedL at hc hw
  by_cases hpos : 0 < b'
  · refine ⟨b'.fmod many, feedL xs (a + 1) (b'.fdiv many) p', ?_, hfeed _ _ (fdiv_nn hb' hm) hp' hp'', (fmod_lt hm).1, (fmod_lt hm).2⟩
    rw [g5]
    simp only [bnd_rb, rb_ok, rb_exc, sb_ok, seq_nx, seq_rt, seq_ex, fin_nx, fin_rt, fin_ex, E_var, E_cst, E_glo, E_dic0, E_tup, E_lst, E_cel, E_op, E_cmp, E_chn, E_not, E_neg, E_con, E_dis, E_ife, E_idx, E_slc, E_call, E_blt, E_isi, E_rng1, E_rng2, E_comp, V_nil, V_cons, A_nil, A_cons, O_nil, O_cons, vr_fr, vo_fr, vo_own, vv_some, kD_fr, kD_own, kBl_ap, kOwn_ap, eo_var, eo_cst, eo_glo, eo_op, eo_idx, eo_slc, eo_call, eo_blt, eo_tup, eo_lst, eo_neg, eo_nt, eo_cmp, eo_con, eo_dis, eo_isi, eo_ife, eo_comp, kOp_ap, kCmp_ap, kCm2_ap, kCh1_ap, kCh2_ap, kCh3_t, kCh3_f, asR_bl, kNot_bl, kNeg_int, kA_bl, kA2_t, kA2_f, kO_bl, kO2_t, kO2_f, kA2_nil, kO2_nil, kIf_bl, kIf2_t, kIf2_f, kIdx_ap, kSl_ap, kSl2_ap, kSl3_ap, oi_mis, kI_int, oi_var, oi_cst, oi_op, oi_neg, oi_idx, oi_blt, oi_call, kR2_int, kComp_ap, kV_ap, kV2_fr, kV2_own, itemsOf_tup, itemsOf_lst, itemsOf_own, itemsOf_cell, itC_lst, itemsOf_wk, E_zip, E_enum, E_revd, E_newc, eo_newc, kZ1_ap, zipD_tt, zipD_ll, enumD_t, enumD_l, revD_t, revD_l, newC_own, kComp_apH, kFor_apH, S_asg, S_asT, S_par, S_exp, S_retv, S_ite, S_whl, S_for, S_setv, S_setc, S_mut, S_pas, B_nil, B_cons, kPar_ap, kExp_ap, kRet_ap, kIte_bl, kIte2_t, kIte2_f, kFor_ap, kSv_ap, kSv2_int, kSc_ap, kSc2_ap, kSc3_cell, kMut_ap, op_add, op_sub, eq_int, ne_int, eq_str, ne_str, ne_shT_self, eq_shT_self, lt_int, le_int, gt_int, ge_int, getIt_0, len_tup, len_lst, abs_int, int_bl, int_int, list_cel, liC_lst, len_cel, lnC_lst, list_tup, list_lst, tuple_lst, tuple_tup, forR_nil, forR_cons, forS_nx, forS_rt, nxP_nx, kAsg_ok, kPar2_ok, kTup_ok, kLst_ok, kCel_ok, S_ret, ne_eq, reduceCtorEq, not_false_eq_true, implies_true, RV.d, frz_nil, frz_cons, frzO_some, frzO_none, List.getElem?_cons_zero, List.getElem?_cons_succ, List.getElem?_nil, List.set_cons_zero, List.set_cons_succ, List.length_cons, List.length_nil, mask_nil, mask_none, mask_some, wipe_nil, wipe_cons, decide_true, decide_false, Bool.not_true, Bool.not_false, Nat.zero_add, Nat.reduceAdd, Nat.reduceLT, Nat.reduceLeDiff, Nat.lt_add_one, List.nil_append, List.cons_append, Nat.reduceSub, List.map_cons, List.map_nil, List.replicate_succ, rep_zero, start_eq, gX_some, getT, getL, getC, gC_lst, Int.reduceToNat, Int.reduceLE, Int.reduceLT, Int.reduceNeg, setO_ap, sO_some, setC_ap, sC_some, kAsT_ap, asT_some, bindT_nm, bindT_tup, bindTs_cons, bO_some, bindTs_nil, turnF_ap, tFo_some, cT_ap, cTo_some, cT2_t, cT2_f, cT3_fr, cT3_own, and_self, and_true, true_and, Int.zero_add, ixN_ge, Int.natCast_nonneg, Int.toNat_natCast, Int.cast_ofNat_Int, isin_ty, List.any_cons, List.any_nil, isTy, Bool.true_and, Bool.false_and, Bool.and_true, Bool.and_false, Bool.or_false, Bool.false_or, Bool.or_true, Bool.true_or, Int.reduceEq, hc, hs, hw, hpos, List.set_set, op_fdiv hd, op_mod hm0]
    rfl
  · have m1 : ∀ z : Int, mulOk (z.fmod 2147483647) 48271 = true := fun z => by
      have := fmod_lt (a := z) (show (0 : Int) < 2147483647 by decide)
      exact mulOk_of 31 16 (by omega) (by decide) (by decide) (by decide) (by decide)
    have o2 : mulOk 7919 (a + 1) = true := mulOk_of 13 31 (by decide) (by omega) (by decide) (by decide) (by decide)
    have o3 : ∀ y : Int, mulOk (y.fmod 2147483629) (y.fmod 2147483629 + 40692) = true := fun y => by
      have := fmod_lt (a := y) (show (0 : Int) < 2147483629 by decide)
      exact mulOk_of 31 32 (by omega) (by omega) (by decide) (by decide) (by decide)
    have o4 : ∀ y : Int, mulOk (y.fmod 2147483587) 16807 = true := fun y => by
      have := fmod_lt (a := y) (show (0 : Int) < 2147483587 by decide)
      exact mulOk_of 31 15 (by omega) (by decide) (by decide) (by decide) (by decide)
    have q : ∀ m : Int, m ≠ 0 → ∀ i μ, op2 .mod (.int i) (.int m) μ = .ok (.fr (.int (i.fmod m))) μ := fun m h i μ => op_mod h
    have hneg : decide (0 < b') = false := by simp [hpos]
    have hff := hfeed b' p' hb' hp' hp''
    unfold feedL at hff
    suffices h : ∃ z : Int, fin (exB (callD reg k) (Fn.body g5) (startE g5 [.cell c, .int many]) μ) = .ok (.fr (.int (z.fmod many))) (μ.set c (.lst [.lst (xs.map D.int), .int (a + 1), .int b', .int p'])) by
      obtain ⟨z, h⟩ := h
      exact ⟨_, _, h, hff, (fmod_lt hm).1, (fmod_lt hm).2⟩
    rw [g5]
    by_cases hx : xs = []
    · have hz : decide ((0 : Int) < ((0 : Nat) : Int)) = false := rfl
      subst hx
      simp only [List.map_nil] at hw
      apply Exists.intro
      simp only [bnd_rb, rb_ok, rb_exc, sb_ok, seq_nx, seq_rt, seq_ex, fin_nx, fin_rt, fin_ex, E_var, E_cst, E_glo, E_dic0, E_tup, E_lst, E_cel, E_op, E_cmp, E_chn, E_not, E_neg, E_con, E_dis, E_ife, E_idx, E_slc, E_call, E_blt, E_isi, E_rng1, E_rng2, E_comp, V_nil, V_cons, A_nil, A_cons, O_nil, O_cons, vr_fr, vo_fr, vo_own, vv_some, kD_fr, kD_own, kBl_ap, kOwn_ap, eo_var, eo_cst, eo_glo, eo_op, eo_idx, eo_slc, eo_call, eo_blt, eo_tup, eo_lst, eo_neg, eo_nt, eo_cmp, eo_con, eo_dis, eo_isi, eo_ife, eo_comp, kOp_ap, kCmp_ap, kCm2_ap, kCh1_ap, kCh2_ap, kCh3_t, kCh3_f, asR_bl, kNot_bl, kNeg_int, kA_bl, kA2_t, kA2_f, kO_bl, kO2_t, kO2_f, kA2_nil, kO2_nil, kIf_bl, kIf2_t, kIf2_f, kIdx_ap, kSl_ap, kSl2_ap, kSl3_ap, oi_mis, kI_int, oi_var, oi_cst, oi_op, oi_neg, oi_idx, oi_blt, oi_call, kR2_int, kComp_ap, kV_ap, kV2_fr, kV2_own, itemsOf_tup, itemsOf_lst, itemsOf_own, itemsOf_cell, itC_lst, itemsOf_wk, E_zip, E_enum, E_revd, E_newc, eo_newc, kZ1_ap, zipD_tt, zipD_ll, enumD_t, enumD_l, revD_t, revD_l, newC_own, kComp_apH, kFor_apH, S_asg, S_asT, S_par, S_exp, S_retv, S_ite, S_whl, S_for, S_setv, S_setc, S_mut, S_pas, B_nil, B_cons, kPar_ap, kExp_ap, kRet_ap, kIte_bl, kIte2_t, kIte2_f, kFor_ap, kSv_ap, kSv2_int, kSc_ap, kSc2_ap, kSc3_cell, kMut_ap, op_add, op_sub, eq_int, ne_int, eq_str, ne_str, ne_shT_self, eq_shT_self, lt_int, le_int, gt_int, ge_int, getIt_0, len_tup, len_lst, abs_int, int_bl, int_int, list_cel, liC_lst, len_cel, lnC_lst, list_tup, list_lst, tuple_lst, tuple_tup, forR_nil, forR_cons, forS_nx, forS_rt, nxP_nx, kAsg_ok, kPar2_ok, kTup_ok, kLst_ok, kCel_ok, S_ret, ne_eq, reduceCtorEq, not_false_eq_true, implies_true, RV.d, frz_nil, frz_cons, frzO_some, frzO_none, List.getElem?_cons_zero, List.getElem?_cons_succ, List.getElem?_nil, List.set_cons_zero, List.set_cons_succ, List.length_cons, List.length_nil, mask_nil, mask_none, mask_some, wipe_nil, wipe_cons, decide_true, decide_false, Bool.not_true, Bool.not_false, Nat.zero_add, Nat.reduceAdd, Nat.reduceLT, Nat.reduceLeDiff, Nat.lt_add_one, List.nil_append, List.cons_append, Nat.reduceSub, List.map_cons, List.map_nil, List.replicate_succ, rep_zero, start_eq, gX_some, getT, getL, getC, gC_lst, Int.reduceToNat, Int.reduceLE, Int.reduceLT, Int.reduceNeg, setO_ap, sO_some, setC_ap, sC_some, kAsT_ap, asT_some, bindT_nm, bindT_tup, bindTs_cons, bO_some, bindTs_nil, turnF_ap, tFo_some, cT_ap, cTo_some, cT2_t, cT2_f, cT3_fr, cT3_own, and_self, and_true, true_and, Int.zero_add, ixN_ge, Int.natCast_nonneg, Int.toNat_natCast, Int.cast_ofNat_Int, isin_ty, List.any_cons, List.any_nil, isTy, Bool.true_and, Bool.false_and, Bool.and_true, Bool.and_false, Bool.or_false, Bool.false_or, Bool.or_true, Bool.true_or, Int.reduceEq, hc, hs, hw, hneg, List.set_set, hz, q, hm0, op_mul (m1 _), op_mul o2, op_mul (o3 _), op_mul (o4 _)]
      rfl
    · have hxl : 0 < xs.length := List.length_pos_iff.mpr hx
      have hi : (xs.length : Int) ≠ 0 := by omega
      have fm := fmod_lt (a := a + 1) (show (0 : Int) < (xs.length : Int) by omega)
      have hz : decide ((0 : Int) < ((xs.length : Nat) : Int)) = true := decide_eq_true (by omega)
      have hg : (xs.map D.int)[((a + 1).fmod xs.length).toNat]? = some (.int (xs[((a + 1).fmod xs.length).toNat]'(by omega))) := by
        rw [List.getElem?_map, List.getElem?_eq_getElem (by omega)]; rfl
      apply Exists.intro
      simp only [bnd_rb, rb_ok, rb_exc, sb_ok, seq_nx, seq_rt, seq_ex, fin_nx, fin_rt, fin_ex, E_var, E_cst, E_glo, E_dic0, E_tup, E_lst, E_cel, E_op, E_cmp, E_chn, E_not, E_neg, E_con, E_dis, E_ife, E_idx, E_slc, E_call, E_blt, E_isi, E_rng1, E_rng2, E_comp, V_nil, V_cons, A_nil, A_cons, O_nil, O_cons, vr_fr, vo_fr, vo_own, vv_some, kD_fr, kD_own, kBl_ap, kOwn_ap, eo_var, eo_cst, eo_glo, eo_op, eo_idx, eo_slc, eo_call, eo_blt, eo_tup, eo_lst, eo_neg, eo_nt, eo_cmp, eo_con, eo_dis, eo_isi, eo_ife, eo_comp, kOp_ap, kCmp_ap, kCm2_ap, kCh1_ap, kCh2_ap, kCh3_t, kCh3_f, asR_bl, kNot_bl, kNeg_int, kA_bl, kA2_t, kA2_f, kO_bl, kO2_t, kO2_f, kA2_nil, kO2_nil, kIf_bl, kIf2_t, kIf2_f, kIdx_ap, kSl_ap, kSl2_ap, kSl3_ap, oi_mis, kI_int, oi_var, oi_cst, oi_op, oi_neg, oi_idx, oi_blt, oi_call, kR2_int, kComp_ap, kV_ap, kV2_fr, kV2_own, itemsOf_tup, itemsOf_lst, itemsOf_own, itemsOf_cell, itC_lst, itemsOf_wk, E_zip, E_enum, E_revd, E_newc, eo_newc, kZ1_ap, zipD_tt, zipD_ll, enumD_t, enumD_l, revD_t, revD_l, newC_own, kComp_apH, kFor_apH, S_asg, S_asT, S_par, S_exp, S_retv, S_ite, S_whl, S_for, S_setv, S_setc, S_mut, S_pas, B_nil, B_cons, kPar_ap, kExp_ap, kRet_ap, kIte_bl, kIte2_t, kIte2_f, kFor_ap, kSv_ap, kSv2_int, kSc_ap, kSc2_ap, kSc3_cell, kMut_ap, op_add, op_sub, eq_int, ne_int, eq_str, ne_str, ne_shT_self, eq_shT_self, lt_int, le_int, gt_int, ge_int, getIt_0, len_tup, len_lst, abs_int, int_bl, int_int, list_cel, liC_lst, len_cel, lnC_lst, list_tup, list_lst, tuple_lst, tuple_tup, forR_nil, forR_cons, forS_nx, forS_rt, nxP_nx, kAsg_ok, kPar2_ok, kTup_ok, kLst_ok, kCel_ok, S_ret, ne_eq, reduceCtorEq, not_false_eq_true, implies_true, RV.d, frz_nil, frz_cons, frzO_some, frzO_none, List.getElem?_cons_zero, List.getElem?_cons_succ, List.getElem?_nil, List.set_cons_zero, List.set_cons_succ, List.length_cons, List.length_nil, mask_nil, mask_none, mask_some, wipe_nil, wipe_cons, decide_true, decide_false, Bool.not_true, Bool.not_false, Nat.zero_add, Nat.reduceAdd, Nat.reduceLT, Nat.reduceLeDiff, Nat.lt_add_one, List.nil_append, List.cons_append, Nat.reduceSub, List.map_cons, List.map_nil, List.replicate_succ, rep_zero, start_eq, gX_some, getT, getL, getC, gC_lst, Int.reduceToNat, Int.reduceLE, Int.reduceLT, Int.reduceNeg, setO_ap, sO_some, setC_ap, sC_some, kAsT_ap, asT_some, bindT_nm, bindT_tup, bindTs_cons, bO_some, bindTs_nil, turnF_ap, tFo_some, cT_ap, cTo_some, cT2_t, cT2_f, cT3_fr, cT3_own, and_self, and_true, true_and, Int.zero_add, ixN_ge, Int.natCast_nonneg, Int.toNat_natCast, Int.cast_ofNat_Int, isin_ty, List.any_cons, List.any_nil, isTy, Bool.true_and, Bool.false_and, Bool.and_true, Bool.and_false, Bool.or_false, Bool.false_or, Bool.or_true, Bool.true_or, Int.reduceEq, hc, hs, hw, hneg, List.set_set, List.length_map, hz, q, hm0, hi, fm.1, hg, op_mul (m1 _), op_mul o2, op_mul (o3 _), op_mul (o4 _)]
      rfl
/-- the same where the feed stands alone -/
theorem s_draw1 (k : Nat) {many : Int} {n : Nat} {cell : Cell} (hf : FeedC (n + 1) cell) (hm : 0 < many) (hm2 : many.natAbs < 2 ^ 250) :
    ∃ v cell', cl (k + 1) 5 [.cell 0, .int many] [cell] = .ok (.fr (.int v)) [cell'] ∧ FeedC n cell' ∧ 0 ≤ v ∧ v < many := s_draw k 0 (μ := [cell]) rfl hf hm hm2
end Sx
set_option maxHeartbeats 200000
/-! # fractions: what the program's tuples of two are worth -/
namespace Sx
/-- a fraction as the program's tuple -/
def rD (q : Rat) : D := .tup [.int q.num, .int q.den]
theorem rD_eq (q : Rat) : rD q = .tup [.int q.num, .int q.den] := rfl
/-- both numbers are below 2 ^ B -/
def Sz (B : Nat) (q : Rat) : Prop := q.num.natAbs < 2 ^ B ∧ q.den < 2 ^ B
theorem Sz.mono {B C : Nat} {q : Rat} (h : Sz B q) (hc : B ≤ C) : Sz C q :=
  ⟨Nat.lt_of_lt_of_le h.1 (Nat.pow_le_pow_right (by decide) hc), Nat.lt_of_lt_of_le h.2 (Nat.pow_le_pow_right (by decide) hc)⟩
theorem sign_le (d : Int) : d.sign.natAbs ≤ 1 := by
  rcases Int.lt_trichotomy d 0 with h | h | h
  · rw [Int.sign_eq_neg_one_of_neg h]; decide
  · subst h; decide
  · rw [Int.sign_eq_one_of_pos h]; decide
theorem Sz.divInt {B : Nat} {n d : Int} (h0 : d ≠ 0) (hn : n.natAbs < 2 ^ B) (hd : d.natAbs < 2 ^ B) : Sz B (Rat.divInt n d) := by
  constructor
  · rw [Rat.num_divInt]
    refine Nat.lt_of_le_of_lt ?_ hn
    refine Nat.le_trans (Int.natAbs_ediv_le_natAbs _ _) ?_
    rw [Int.natAbs_mul]
    calc d.sign.natAbs * n.natAbs ≤ 1 * n.natAbs := Nat.mul_le_mul_right _ (sign_le d)
      _ = n.natAbs := Nat.one_mul _
  · rw [Rat.den_divInt, if_neg h0]
    exact Nat.lt_of_le_of_lt (Nat.div_le_self _ _) hd
/-- the greatest common divisor goes into both -/
theorem gcd_fdiv_pos {n d : Int} (h : 0 < d) : n.fdiv (Int.gcd n d) = (Rat.divInt n d).num ∧ d.fdiv (Int.gcd n d) = ((Rat.divInt n d).den : Int) := by
  have h0 : d ≠ 0 := by omega
  rw [Rat.num_divInt, Rat.den_divInt, if_neg h0, Int.sign_eq_one_of_pos h, Int.one_mul, Int.gcd_comm d n]
  refine ⟨Int.fdiv_eq_ediv_of_nonneg _ (by omega), ?_⟩
  rw [Int.fdiv_eq_ediv_of_nonneg _ (by omega)]
  obtain ⟨m, rfl⟩ := Int.eq_ofNat_of_zero_le (Int.le_of_lt h)
  simp
theorem gcd_fdiv_neg {n d : Int} (h : d < 0) : n.fdiv (0 - (Int.gcd n d : Int)) = (Rat.divInt n d).num ∧ d.fdiv (0 - (Int.gcd n d : Int)) = ((Rat.divInt n d).den : Int) := by
  have h0 : d ≠ 0 := by omega
  have g0 : (Int.gcd n d : Int) ≠ 0 := by
    intro z
    have := Int.gcd_eq_zero_iff.mp (by exact_mod_cast z)
    exact h0 this.2
  have e : ∀ a : Int, (Int.gcd n d : Int) ∣ a → a.fdiv (0 - (Int.gcd n d : Int)) = (-a) / (Int.gcd n d : Int) := fun a ha => by
    obtain ⟨c, rfl⟩ := ha
    have e1 : (Int.gcd n d : Int) * c = (0 - (Int.gcd n d : Int)) * (-c) := by rw [Int.zero_sub, Int.neg_mul_neg]
    have e2 : -((Int.gcd n d : Int) * c) = (Int.gcd n d : Int) * (-c) := by rw [Int.mul_neg]
    rw [e2, Int.mul_ediv_cancel_left _ g0]
    rw [e1, Int.mul_fdiv_cancel_left _ (by omega)]
  rw [Rat.num_divInt, Rat.den_divInt, if_neg h0, Int.sign_eq_neg_one_of_neg h, Int.gcd_comm d n, e _ (Int.gcd_dvd_left ..), e _ (Int.gcd_dvd_right ..)]
  refine ⟨by rw [Int.neg_mul, Int.one_mul], ?_⟩
  obtain ⟨m, hm⟩ := Int.eq_ofNat_of_zero_le (show 0 ≤ -d by omega)
  have : d.natAbs = m := by omega
  rw [this, hm]
  simp
theorem gcd_lt {n d : Int} {B : Nat} (h : d ≠ 0) (hd : d.natAbs < 2 ^ B) : 0 < Int.gcd n d ∧ (Int.gcd n d) < 2 ^ B := by
  have h1 : 0 < Int.gcd n d := Nat.pos_of_ne_zero fun z => h (Int.gcd_eq_zero_iff.mp z).2
  refine ⟨h1, Nat.lt_of_le_of_lt ?_ hd⟩
  have : (Int.gcd n d) ∣ d.natAbs := by
    exact Int.ofNat_dvd_left.mp (Int.gcd_dvd_right n d)
  exact Nat.le_of_dvd (by omega) this
theorem s_fraction (k : Nat) {n d : Int} (h : d ≠ 0) (hd : d.natAbs < 2 ^ 9000) (μ : Mu) : cl (k + 2) 11 [.int n, .int d] μ = .ok (.fr (rD (Rat.divInt n d))) μ := by
  have hg := gcd_lt (n := n) h hd
  have e0 := s_div k n d μ
  unfold cl at e0
  rw [cl, call_eq r11 rfl, g11]
  have h0 : decide (d = 0) = false := by simp [h]
  by_cases hn : d < 0
  · have o1 : divOk (0 - (Int.gcd n d : Int)) = true := divOk_of 9000 (by omega) (by omega) (by decide) (by decide)
    have e := gcd_fdiv_neg (n := n) hn
    simp only [bnd_rb, rb_ok, rb_exc, sb_ok, seq_nx, seq_rt, seq_ex, fin_nx, fin_rt, fin_ex, E_var, E_cst, E_glo, E_dic0, E_tup, E_lst, E_cel, E_op, E_cmp, E_chn, E_not, E_neg, E_con, E_dis, E_ife, E_idx, E_slc, E_call, E_blt, E_isi, E_rng1, E_rng2, E_comp, V_nil, V_cons, A_nil, A_cons, O_nil, O_cons, vr_fr, vo_fr, vo_own, vv_some, kD_fr, kD_own, kBl_ap, kOwn_ap, eo_var, eo_cst, eo_glo, eo_op, eo_idx, eo_slc, eo_call, eo_blt, eo_tup, eo_lst, eo_neg, eo_nt, eo_cmp, eo_con, eo_dis, eo_isi, eo_ife, eo_comp, kOp_ap, kCmp_ap, kCm2_ap, kCh1_ap, kCh2_ap, kCh3_t, kCh3_f, asR_bl, kNot_bl, kNeg_int, kA_bl, kA2_t, kA2_f, kO_bl, kO2_t, kO2_f, kA2_nil, kO2_nil, kIf_bl, kIf2_t, kIf2_f, kIdx_ap, kSl_ap, kSl2_ap, kSl3_ap, oi_mis, kI_int, oi_var, oi_cst, oi_op, oi_neg, oi_idx, oi_blt, oi_call, kR2_int, kComp_ap, kV_ap, kV2_fr, kV2_own, itemsOf_tup, itemsOf_lst, itemsOf_own, itemsOf_cell, itC_lst, itemsOf_wk, E_zip, E_enum, E_revd, E_newc, eo_newc, kZ1_ap, zipD_tt, zipD_ll, enumD_t, enumD_l, revD_t, revD_l, newC_own, kComp_apH, kFor_apH, S_asg, S_asT, S_par, S_exp, S_retv, S_ite, S_whl, S_for, S_setv, S_setc, S_mut, S_pas, B_nil, B_cons, kPar_ap, kExp_ap, kRet_ap, kIte_bl, kIte2_t, kIte2_f, kFor_ap, kSv_ap, kSv2_int, kSc_ap, kSc2_ap, kSc3_cell, kMut_ap, op_add, op_sub, eq_int, ne_int, eq_str, ne_str, ne_shT_self, eq_shT_self, lt_int, le_int, gt_int, ge_int, getIt_0, len_tup, len_lst, abs_int, int_bl, int_int, list_cel, liC_lst, len_cel, lnC_lst, list_tup, list_lst, tuple_lst, tuple_tup, forR_nil, forR_cons, forS_nx, forS_rt, nxP_nx, kAsg_ok, kPar2_ok, kTup_ok, kLst_ok, kCel_ok, S_ret, ne_eq, reduceCtorEq, not_false_eq_true, implies_true, RV.d, frz_nil, frz_cons, frzO_some, frzO_none, List.getElem?_cons_zero, List.getElem?_cons_succ, List.getElem?_nil, List.set_cons_zero, List.set_cons_succ, List.length_cons, List.length_nil, mask_nil, mask_none, mask_some, wipe_nil, wipe_cons, decide_true, decide_false, Bool.not_true, Bool.not_false, Nat.zero_add, Nat.reduceAdd, Nat.reduceLT, Nat.reduceLeDiff, Nat.lt_add_one, List.nil_append, List.cons_append, Nat.reduceSub, List.map_cons, List.map_nil, List.replicate_succ, rep_zero, start_eq, gX_some, getT, getL, getC, gC_lst, Int.reduceToNat, Int.reduceLE, Int.reduceLT, Int.reduceNeg, setO_ap, sO_some, setC_ap, sC_some, kAsT_ap, asT_some, bindT_nm, bindT_tup, bindTs_cons, bO_some, bindTs_nil, turnF_ap, tFo_some, cT_ap, cTo_some, cT2_t, cT2_f, cT3_fr, cT3_own, and_self, and_true, true_and, Int.zero_add, ixN_ge, Int.natCast_nonneg, Int.toNat_natCast, Int.cast_ofNat_Int, isin_ty, List.any_cons, List.any_nil, isTy, Bool.true_and, Bool.false_and, Bool.and_true, Bool.and_false, Bool.or_false, Bool.false_or, Bool.or_true, Bool.true_or, Int.reduceEq, h0, e0, hn, op_fdiv o1, e.1, e.2]
    rfl
  · have o1 : divOk (Int.gcd n d : Int) = true := divOk_of 9000 (by omega) (by omega) (by decide) (by decide)
    have e := gcd_fdiv_pos (n := n) (show 0 < d by omega)
    have hn' : decide (d < 0) = false := by simp; omega
    simp only [bnd_rb, rb_ok, rb_exc, sb_ok, seq_nx, seq_rt, seq_ex, fin_nx, fin_rt, fin_ex, E_var, E_cst, E_glo, E_dic0, E_tup, E_lst, E_cel, E_op, E_cmp, E_chn, E_not, E_neg, E_con, E_dis, E_ife, E_idx, E_slc, E_call, E_blt, E_isi, E_rng1, E_rng2, E_comp, V_nil, V_cons, A_nil, A_cons, O_nil, O_cons, vr_fr, vo_fr, vo_own, vv_some, kD_fr, kD_own, kBl_ap, kOwn_ap, eo_var, eo_cst, eo_glo, eo_op, eo_idx, eo_slc, eo_call, eo_blt, eo_tup, eo_lst, eo_neg, eo_nt, eo_cmp, eo_con, eo_dis, eo_isi, eo_ife, eo_comp, kOp_ap, kCmp_ap, kCm2_ap, kCh1_ap, kCh2_ap, kCh3_t, kCh3_f, asR_bl, kNot_bl, kNeg_int, kA_bl, kA2_t, kA2_f, kO_bl, kO2_t, kO2_f, kA2_nil, kO2_nil, kIf_bl, kIf2_t, kIf2_f, kIdx_ap, kSl_ap, kSl2_ap, kSl3_ap, oi_mis, kI_int, oi_var, oi_cst, oi_op, oi_neg, oi_idx, oi_blt, oi_call, kR2_int, kComp_ap, kV_ap, kV2_fr, kV2_own, itemsOf_tup, itemsOf_lst, itemsOf_own, itemsOf_cell, itC_lst, itemsOf_wk, E_zip, E_enum, E_revd, E_newc, eo_newc, kZ1_ap, zipD_tt, zipD_ll, enumD_t, enumD_l, revD_t, revD_l, newC_own, kComp_apH, kFor_apH, S_asg, S_asT, S_par, S_exp, S_retv, S_ite, S_whl, S_for, S_setv, S_setc, S_mut, S_pas, B_nil, B_cons, kPar_ap, kExp_ap, kRet_ap, kIte_bl, kIte2_t, kIte2_f, kFor_ap, kSv_ap, kSv2_int, kSc_ap, kSc2_ap, kSc3_cell, kMut_ap, op_add, op_sub, eq_int, ne_int, eq_str, ne_str, ne_shT_self, eq_shT_self, lt_int, le_int, gt_int, ge_int, getIt_0, len_tup, len_lst, abs_int, int_bl, int_int, list_cel, liC_lst, len_cel, lnC_lst, list_tup, list_lst, tuple_lst, tuple_tup, forR_nil, forR_cons, forS_nx, forS_rt, nxP_nx, kAsg_ok, kPar2_ok, kTup_ok, kLst_ok, kCel_ok, S_ret, ne_eq, reduceCtorEq, not_false_eq_true, implies_true, RV.d, frz_nil, frz_cons, frzO_some, frzO_none, List.getElem?_cons_zero, List.getElem?_cons_succ, List.getElem?_nil, List.set_cons_zero, List.set_cons_succ, List.length_cons, List.length_nil, mask_nil, mask_none, mask_some, wipe_nil, wipe_cons, decide_true, decide_false, Bool.not_true, Bool.not_false, Nat.zero_add, Nat.reduceAdd, Nat.reduceLT, Nat.reduceLeDiff, Nat.lt_add_one, List.nil_append, List.cons_append, Nat.reduceSub, List.map_cons, List.map_nil, List.replicate_succ, rep_zero, start_eq, gX_some, getT, getL, getC, gC_lst, Int.reduceToNat, Int.reduceLE, Int.reduceLT, Int.reduceNeg, setO_ap, sO_some, setC_ap, sC_some, kAsT_ap, asT_some, bindT_nm, bindT_tup, bindTs_cons, bO_some, bindTs_nil, turnF_ap, tFo_some, cT_ap, cTo_some, cT2_t, cT2_f, cT3_fr, cT3_own, and_self, and_true, true_and, Int.zero_add, ixN_ge, Int.natCast_nonneg, Int.toNat_natCast, Int.cast_ofNat_Int, isin_ty, List.any_cons, List.any_nil, isTy, Bool.true_and, Bool.false_and, Bool.and_true, Bool.and_false, Bool.or_false, Bool.false_or, Bool.or_true, Bool.true_or, Int.reduceEq, h0, e0, hn', op_fdiv o1, e.1, e.2]
    rfl
theorem den_pos (q : Rat) : (0 : Int) < q.den := by have := q.den_pos; omega
theorem den_ne (q : Rat) : (q.den : Int) ≠ 0 := by have := q.den_pos; omega
theorem add_divInt (a b : Rat) : Rat.divInt (a.num * b.den + b.num * a.den) (a.den * b.den) = a + b := by
  rw [← Rat.divInt_add_divInt _ _ (den_ne a) (den_ne b), Rat.num_divInt_den, Rat.num_divInt_den]
theorem mul_divInt (a b : Rat) : Rat.divInt (a.num * b.num) (a.den * b.den) = a * b := by
  rw [← Rat.divInt_mul_divInt, Rat.num_divInt_den, Rat.num_divInt_den]
theorem mul_lt_pow {a b B C : Nat} (ha : a < 2 ^ B) (hb : b < 2 ^ C) : a * b < 2 ^ (B + C) := by
  rw [Nat.pow_add]
  calc a * b ≤ a * 2 ^ C := Nat.mul_le_mul_left _ (by omega)
    _ < 2 ^ B * 2 ^ C := Nat.mul_lt_mul_of_pos_right ha (Nat.pow_pos (by decide))
theorem imul_lt {a b : Int} {B C : Nat} (ha : a.natAbs < 2 ^ B) (hb : b.natAbs < 2 ^ C) : (a * b).natAbs < 2 ^ (B + C) := by
  rw [Int.natAbs_mul]; exact mul_lt_pow ha hb
theorem Sz.mul {B C : Nat} {a b : Rat} (ha : Sz B a) (hb : Sz C b) : Sz (B + C) (a * b) := by
  rw [← mul_divInt]
  refine Sz.divInt (Int.mul_ne_zero (den_ne a) (den_ne b)) (imul_lt ha.1 hb.1) ?_
  exact imul_lt (by simpa using ha.2) (by simpa using hb.2)
theorem Sz.add {B C : Nat} {a b : Rat} (ha : Sz B a) (hb : Sz C b) : Sz (B + C + 1) (a + b) := by
  rw [← add_divInt]
  have h1 : (a.num * b.den).natAbs < 2 ^ (B + C) := imul_lt ha.1 (by simpa using hb.2)
  have h2 : (b.num * a.den).natAbs < 2 ^ (B + C) := by
    have := imul_lt (a := b.num) (b := (a.den : Int)) hb.1 (show ((a.den : Int)).natAbs < 2 ^ B by simpa using ha.2)
    rwa [Nat.add_comm] at this
  have h3 : ((a.den : Int) * b.den).natAbs < 2 ^ (B + C) := imul_lt (by simpa using ha.2) (by simpa using hb.2)
  refine Sz.divInt (Int.mul_ne_zero (den_ne a) (den_ne b)) ?_ ?_
  · rw [Nat.pow_succ]; omega
  · rw [Nat.pow_succ]; omega
theorem mul_ok {B C : Nat} {i j : Int} (hi : i.natAbs < 2 ^ B) (hj : j.natAbs < 2 ^ C) (hb : 0 < B) (hc : 0 < C) (h : B + C ≤ 100000000) : mulOk i j = true := mulOk_of B C hi hj hb hc h
theorem Sz.pos {B : Nat} {q : Rat} (h : Sz B q) : 0 < B := by
  rcases Nat.eq_zero_or_pos B with rfl | hB
  · have := h.2
    have := q.den_pos
    omega
  · exact hB
/-- sizes at which products and divisions are done -/
theorem s_plus (k : Nat) {a b : Rat} {B C : Nat} (ha : Sz B a) (hb : Sz C b) (hs : B + C ≤ 9000) (μ : Mu) : cl (k + 3) 12 [rD a, rD b] μ = .ok (.fr (rD (a + b))) μ := by
  have da : ((a.den : Int)).natAbs < 2 ^ B := by simpa using ha.2
  have db : ((b.den : Int)).natAbs < 2 ^ C := by simpa using hb.2
  have m1 : mulOk a.num b.den = true := mul_ok ha.1 db ha.pos hb.pos (by omega)
  have m2 : mulOk b.num a.den = true := mul_ok hb.1 da hb.pos ha.pos (by omega)
  have m3 : mulOk a.den b.den = true := mul_ok da db ha.pos hb.pos (by omega)
  have hd : ((a.den : Int) * b.den).natAbs < 2 ^ 9000 := Nat.lt_of_lt_of_le (imul_lt da db) (Nat.pow_le_pow_right (by decide) hs)
  have e := s_fraction k (n := a.num * b.den + b.num * a.den) (Int.mul_ne_zero (den_ne a) (den_ne b)) hd μ
  rw [add_divInt] at e
  unfold cl at e
  rw [cl, call_eq r12 rfl, g12]
  simp only [bnd_rb, rb_ok, rb_exc, sb_ok, seq_nx, seq_rt, seq_ex, fin_nx, fin_rt, fin_ex, E_var, E_cst, E_glo, E_dic0, E_tup, E_lst, E_cel, E_op, E_cmp, E_chn, E_not, E_neg, E_con, E_dis, E_ife, E_idx, E_slc, E_call, E_blt, E_isi, E_rng1, E_rng2, E_comp, V_nil, V_cons, A_nil, A_cons, O_nil, O_cons, vr_fr, vo_fr, vo_own, vv_some, kD_fr, kD_own, kBl_ap, kOwn_ap, eo_var, eo_cst, eo_glo, eo_op, eo_idx, eo_slc, eo_call, eo_blt, eo_tup, eo_lst, eo_neg, eo_nt, eo_cmp, eo_con, eo_dis, eo_isi, eo_ife, eo_comp, kOp_ap, kCmp_ap, kCm2_ap, kCh1_ap, kCh2_ap, kCh3_t, kCh3_f, asR_bl, kNot_bl, kNeg_int, kA_bl, kA2_t, kA2_f, kO_bl, kO2_t, kO2_f, kA2_nil, kO2_nil, kIf_bl, kIf2_t, kIf2_f, kIdx_ap, kSl_ap, kSl2_ap, kSl3_ap, oi_mis, kI_int, oi_var, oi_cst, oi_op, oi_neg, oi_idx, oi_blt, oi_call, kR2_int, kComp_ap, kV_ap, kV2_fr, kV2_own, itemsOf_tup, itemsOf_lst, itemsOf_own, itemsOf_cell, itC_lst, itemsOf_wk, E_zip, E_enum, E_revd, E_newc, eo_newc, kZ1_ap, zipD_tt, zipD_ll, enumD_t, enumD_l, revD_t, revD_l, newC_own, kComp_apH, kFor_apH, S_asg, S_asT, S_par, S_exp, S_retv, S_ite, S_whl, S_for, S_setv, S_setc, S_mut, S_pas, B_nil, B_cons, kPar_ap, kExp_ap, kRet_ap, kIte_bl, kIte2_t, kIte2_f, kFor_ap, kSv_ap, kSv2_int, kSc_ap, kSc2_ap, kSc3_cell, kMut_ap, op_add, op_sub, eq_int, ne_int, eq_str, ne_str, ne_shT_self, eq_shT_self, lt_int, le_int, gt_int, ge_int, getIt_0, len_tup, len_lst, abs_int, int_bl, int_int, list_cel, liC_lst, len_cel, lnC_lst, list_tup, list_lst, tuple_lst, tuple_tup, forR_nil, forR_cons, forS_nx, forS_rt, nxP_nx, kAsg_ok, kPar2_ok, kTup_ok, kLst_ok, kCel_ok, S_ret, ne_eq, reduceCtorEq, not_false_eq_true, implies_true, RV.d, frz_nil, frz_cons, frzO_some, frzO_none, List.getElem?_cons_zero, List.getElem?_cons_succ, List.getElem?_nil, List.set_cons_zero, List.set_cons_succ, List.length_cons, List.length_nil, mask_nil, mask_none, mask_some, wipe_nil, wipe_cons, decide_true, decide_false, Bool.not_true, Bool.not_false, Nat.zero_add, Nat.reduceAdd, Nat.reduceLT, Nat.reduceLeDiff, Nat.lt_add_one, List.nil_append, List.cons_append, Nat.reduceSub, List.map_cons, List.map_nil, List.replicate_succ, rep_zero, start_eq, gX_some, getT, getL, getC, gC_lst, Int.reduceToNat, Int.reduceLE, Int.reduceLT, Int.reduceNeg, setO_ap, sO_some, setC_ap, sC_some, kAsT_ap, asT_some, bindT_nm, bindT_tup, bindTs_cons, bO_some, bindTs_nil, turnF_ap, tFo_some, cT_ap, cTo_some, cT2_t, cT2_f, cT3_fr, cT3_own, and_self, and_true, true_and, Int.zero_add, ixN_ge, Int.natCast_nonneg, Int.toNat_natCast, Int.cast_ofNat_Int, isin_ty, List.any_cons, List.any_nil, isTy, Bool.true_and, Bool.false_and, Bool.and_true, Bool.and_false, Bool.or_false, Bool.false_or, Bool.or_true, Bool.true_or, Int.reduceEq, rD_eq a, rD_eq b, op_mul m1, op_mul m2, op_mul m3, e]
theorem s_times (k : Nat) {a b : Rat} {B C : Nat} (ha : Sz B a) (hb : Sz C b) (hs : B + C ≤ 9000) (μ : Mu) : cl (k + 3) 22 [rD a, rD b] μ = .ok (.fr (rD (a * b))) μ := by
  have da : ((a.den : Int)).natAbs < 2 ^ B := by simpa using ha.2
  have db : ((b.den : Int)).natAbs < 2 ^ C := by simpa using hb.2
  have m1 : mulOk a.num b.num = true := mul_ok ha.1 hb.1 ha.pos hb.pos (by omega)
  have m3 : mulOk a.den b.den = true := mul_ok da db ha.pos hb.pos (by omega)
  have hd : ((a.den : Int) * b.den).natAbs < 2 ^ 9000 := Nat.lt_of_lt_of_le (imul_lt da db) (Nat.pow_le_pow_right (by decide) hs)
  have e := s_fraction k (n := a.num * b.num) (Int.mul_ne_zero (den_ne a) (den_ne b)) hd μ
  rw [mul_divInt] at e
  unfold cl at e
  rw [cl, call_eq r22 rfl, g22]
  simp only [bnd_rb, rb_ok, rb_exc, sb_ok, seq_nx, seq_rt, seq_ex, fin_nx, fin_rt, fin_ex, E_var, E_cst, E_glo, E_dic0, E_tup, E_lst, E_cel, E_op, E_cmp, E_chn, E_not, E_neg, E_con, E_dis, E_ife, E_idx, E_slc, E_call, E_blt, E_isi, E_rng1, E_rng2, E_comp, V_nil, V_cons, A_nil, A_cons, O_nil, O_cons, vr_fr, vo_fr, vo_own, vv_some, kD_fr, kD_own, kBl_ap, kOwn_ap, eo_var, eo_cst, eo_glo, eo_op, eo_idx, eo_slc, eo_call, eo_blt, eo_tup, eo_lst, eo_neg, eo_nt, eo_cmp, eo_con, eo_dis, eo_isi, eo_ife, eo_comp, kOp_ap, kCmp_ap, kCm2_ap, kCh1_ap, kCh2_ap, kCh3_t, kCh3_f, asR_bl, kNot_bl, kNeg_int, kA_bl, kA2_t, kA2_f, kO_bl, kO2_t, kO2_f, kA2_nil, kO2_nil, kIf_bl, kIf2_t, kIf2_f, kIdx_ap, kSl_ap, kSl2_ap, kSl3_ap, oi_mis, kI_int, oi_var, oi_cst, oi_op, oi_neg, oi_idx, oi_blt, oi_call, kR2_int, kComp_ap, kV_ap, kV2_fr, kV2_own, itemsOf_tup, itemsOf_lst, itemsOf_own, itemsOf_cell, itC_lst, itemsOf_wk, E_zip, E_enum, E_revd, E_newc, eo_newc, kZ1_ap, zipD_tt, zipD_ll, enumD_t, enumD_l, revD_t, revD_l, newC_own, kComp_apH, kFor_apH, S_asg, S_asT, S_par, S_exp, S_retv, S_ite, S_whl, S_for, S_setv, S_setc, S_mut, S_pas, B_nil, B_cons, kPar_ap, kExp_ap, kRet_ap, kIte_bl, kIte2_t, kIte2_f, kFor_ap, kSv_ap, kSv2_int, kSc_ap, kSc2_ap, kSc3_cell, kMut_ap, op_add, op_sub, eq_int, ne_int, eq_str, ne_str, ne_shT_self, eq_shT_self, lt_int, le_int, gt_int, ge_int, getIt_0, len_tup, len_lst, abs_int, int_bl, int_int, list_cel, liC_lst, len_cel, lnC_lst, list_tup, list_lst, tuple_lst, tuple_tup, forR_nil, forR_cons, forS_nx, forS_rt, nxP_nx, kAsg_ok, kPar2_ok, kTup_ok, kLst_ok, kCel_ok, S_ret, ne_eq, reduceCtorEq, not_false_eq_true, implies_true, RV.d, frz_nil, frz_cons, frzO_some, frzO_none, List.getElem?_cons_zero, List.getElem?_cons_succ, List.getElem?_nil, List.set_cons_zero, List.set_cons_succ, List.length_cons, List.length_nil, mask_nil, mask_none, mask_some, wipe_nil, wipe_cons, decide_true, decide_false, Bool.not_true, Bool.not_false, Nat.zero_add, Nat.reduceAdd, Nat.reduceLT, Nat.reduceLeDiff, Nat.lt_add_one, List.nil_append, List.cons_append, Nat.reduceSub, List.map_cons, List.map_nil, List.replicate_succ, rep_zero, start_eq, gX_some, getT, getL, getC, gC_lst, Int.reduceToNat, Int.reduceLE, Int.reduceLT, Int.reduceNeg, setO_ap, sO_some, setC_ap, sC_some, kAsT_ap, asT_some, bindT_nm, bindT_tup, bindTs_cons, bO_some, bindTs_nil, turnF_ap, tFo_some, cT_ap, cTo_some, cT2_t, cT2_f, cT3_fr, cT3_own, and_self, and_true, true_and, Int.zero_add, ixN_ge, Int.natCast_nonneg, Int.toNat_natCast, Int.cast_ofNat_Int, isin_ty, List.any_cons, List.any_nil, isTy, Bool.true_and, Bool.false_and, Bool.and_true, Bool.and_false, Bool.or_false, Bool.false_or, Bool.or_true, Bool.true_or, Int.reduceEq, rD_eq a, rD_eq b, op_mul m1, op_mul m3, e]
theorem div_divInt {a b : Rat} (h : b.num ≠ 0) : Rat.divInt (a.num * b.den) (b.num * a.den) = a / b := by
  rw [Rat.div_def, Rat.inv_def, Int.mul_comm b.num, ← Rat.divInt_mul_divInt, Rat.num_divInt_den]
theorem s_over (k : Nat) {a b : Rat} {B C : Nat} (h0 : b ≠ 0) (ha : Sz B a) (hb : Sz C b) (hs : B + C ≤ 9000) (μ : Mu) : cl (k + 3) 23 [rD a, rD b] μ = .ok (.fr (rD (a / b))) μ := by
  have n0 : b.num ≠ 0 := fun z => h0 (Rat.num_eq_zero.mp z)
  have da : ((a.den : Int)).natAbs < 2 ^ B := by simpa using ha.2
  have db : ((b.den : Int)).natAbs < 2 ^ C := by simpa using hb.2
  have m1 : mulOk a.num b.den = true := mul_ok ha.1 db ha.pos hb.pos (by omega)
  have m2 : mulOk a.den b.num = true := mul_ok da hb.1 ha.pos hb.pos (by omega)
  have hd : ((a.den : Int) * b.num).natAbs < 2 ^ 9000 := Nat.lt_of_lt_of_le (imul_lt da hb.1) (Nat.pow_le_pow_right (by decide) hs)
  have e := s_fraction k (n := a.num * b.den) (Int.mul_ne_zero (den_ne a) n0) hd μ
  rw [Int.mul_comm (a.den : Int), div_divInt n0] at e
  unfold cl at e
  rw [cl, call_eq r23 rfl, g23]
  simp only [bnd_rb, rb_ok, rb_exc, sb_ok, seq_nx, seq_rt, seq_ex, fin_nx, fin_rt, fin_ex, E_var, E_cst, E_glo, E_dic0, E_tup, E_lst, E_cel, E_op, E_cmp, E_chn, E_not, E_neg, E_con, E_dis, E_ife, E_idx, E_slc, E_call, E_blt, E_isi, E_rng1, E_rng2, E_comp, V_nil, V_cons, A_nil, A_cons, O_nil, O_cons, vr_fr, vo_fr, vo_own, vv_some, kD_fr, kD_own, kBl_ap, kOwn_ap, eo_var, eo_cst, eo_glo, eo_op, eo_idx, eo_slc, eo_call, eo_blt, eo_tup, eo_lst, eo_neg, eo_nt, eo_cmp, eo_con, eo_dis, eo_isi, eo_ife, eo_comp, kOp_ap, kCmp_ap, kCm2_ap, kCh1_ap, kCh2_ap, kCh3_t, kCh3_f, asR_bl, kNot_bl, kNeg_int, kA_bl, kA2_t, kA2_f, kO_bl, kO2_t, kO2_f, kA2_nil, kO2_nil, kIf_bl, kIf2_t, kIf2_f, kIdx_ap, kSl_ap, kSl2_ap, kSl3_ap, oi_mis, kI_int, oi_var, oi_cst, oi_op, oi_neg, oi_idx, oi_blt, oi_call, kR2_int, kComp_ap, kV_ap, kV2_fr, kV2_own, itemsOf_tup, itemsOf_lst, itemsOf_own, itemsOf_cell, itC_lst, itemsOf_wk, E_zip, E_enum, E_revd, E_newc, eo_newc, kZ1_ap, zipD_tt, zipD_ll, enumD_t, enumD_l, revD_t, revD_l, newC_own, kComp_apH, kFor_apH, S_asg, S_asT, S_par, S_exp, S_retv, S_ite, S_whl, S_for, S_setv, S_setc, S_mut, S_pas, B_nil, B_cons, kPar_ap, kExp_ap, kRet_ap, kIte_bl, kIte2_t, kIte2_f, kFor_ap, kSv_ap, kSv2_int, kSc_ap, kSc2_ap, kSc3_cell, kMut_ap, op_add, op_sub, eq_int, ne_int, eq_str, ne_str, ne_shT_self, eq_shT_self, lt_int, le_int, gt_int, ge_int, getIt_0, len_tup, len_lst, abs_int, int_bl, int_int, list_cel, liC_lst, len_cel, lnC_lst, list_tup, list_lst, tuple_lst, tuple_tup, forR_nil, forR_cons, forS_nx, forS_rt, nxP_nx, kAsg_ok, kPar2_ok, kTup_ok, kLst_ok, kCel_ok, S_ret, ne_eq, reduceCtorEq, not_false_eq_true, implies_true, RV.d, frz_nil, frz_cons, frzO_some, frzO_none, List.getElem?_cons_zero, List.getElem?_cons_succ, List.getElem?_nil, List.set_cons_zero, List.set_cons_succ, List.length_cons, List.length_nil, mask_nil, mask_none, mask_some, wipe_nil, wipe_cons, decide_true, decide_false, Bool.not_true, Bool.not_false, Nat.zero_add, Nat.reduceAdd, Nat.reduceLT, Nat.reduceLeDiff, Nat.lt_add_one, List.nil_append, List.cons_append, Nat.reduceSub, List.map_cons, List.map_nil, List.replicate_succ, rep_zero, start_eq, gX_some, getT, getL, getC, gC_lst, Int.reduceToNat, Int.reduceLE, Int.reduceLT, Int.reduceNeg, setO_ap, sO_some, setC_ap, sC_some, kAsT_ap, asT_some, bindT_nm, bindT_tup, bindTs_cons, bO_some, bindTs_nil, turnF_ap, tFo_some, cT_ap, cTo_some, cT2_t, cT2_f, cT3_fr, cT3_own, and_self, and_true, true_and, Int.zero_add, ixN_ge, Int.natCast_nonneg, Int.toNat_natCast, Int.cast_ofNat_Int, isin_ty, List.any_cons, List.any_nil, isTy, Bool.true_and, Bool.false_and, Bool.and_true, Bool.and_false, Bool.or_false, Bool.false_or, Bool.or_true, Bool.true_or, Int.reduceEq, rD_eq a, rD_eq b, op_mul m1, op_mul m2, Int.mul_comm (a.den : Int), e]
theorem s_less (k : Nat) {a b : Rat} {B C : Nat} (ha : Sz B a) (hb : Sz C b) (hs : B + C ≤ 9000) (μ : Mu) : cl (k + 1) 13 [rD a, rD b] μ = .ok (.fr (.bl (decide (a < b)))) μ := by
  have da : ((a.den : Int)).natAbs < 2 ^ B := by simpa using ha.2
  have db : ((b.den : Int)).natAbs < 2 ^ C := by simpa using hb.2
  have m1 : mulOk a.num b.den = true := mul_ok ha.1 db ha.pos hb.pos (by omega)
  have m2 : mulOk b.num a.den = true := mul_ok hb.1 da hb.pos ha.pos (by omega)
  rw [cl, call_eq r13 rfl, g13]
  simp only [bnd_rb, rb_ok, rb_exc, sb_ok, seq_nx, seq_rt, seq_ex, fin_nx, fin_rt, fin_ex, E_var, E_cst, E_glo, E_dic0, E_tup, E_lst, E_cel, E_op, E_cmp, E_chn, E_not, E_neg, E_con, E_dis, E_ife, E_idx, E_slc, E_call, E_blt, E_isi, E_rng1, E_rng2, E_comp, V_nil, V_cons, A_nil, A_cons, O_nil, O_cons, vr_fr, vo_fr, vo_own, vv_some, kD_fr, kD_own, kBl_ap, kOwn_ap, eo_var, eo_cst, eo_glo, eo_op, eo_idx, eo_slc, eo_call, eo_blt, eo_tup, eo_lst, eo_neg, eo_nt, eo_cmp, eo_con, eo_dis, eo_isi, eo_ife, eo_comp, kOp_ap, kCmp_ap, kCm2_ap, kCh1_ap, kCh2_ap, kCh3_t, kCh3_f, asR_bl, kNot_bl, kNeg_int, kA_bl, kA2_t, kA2_f, kO_bl, kO2_t, kO2_f, kA2_nil, kO2_nil, kIf_bl, kIf2_t, kIf2_f, kIdx_ap, kSl_ap, kSl2_ap, kSl3_ap, oi_mis, kI_int, oi_var, oi_cst, oi_op, oi_neg, oi_idx, oi_blt, oi_call, kR2_int, kComp_ap, kV_ap, kV2_fr, kV2_own, itemsOf_tup, itemsOf_lst, itemsOf_own, itemsOf_cell, itC_lst, itemsOf_wk, E_zip, E_enum, E_revd, E_newc, eo_newc, kZ1_ap, zipD_tt, zipD_ll, enumD_t, enumD_l, revD_t, revD_l, newC_own, kComp_apH, kFor_apH, S_asg, S_asT, S_par, S_exp, S_retv, S_ite, S_whl, S_for, S_setv, S_setc, S_mut, S_pas, B_nil, B_cons, kPar_ap, kExp_ap, kRet_ap, kIte_bl, kIte2_t, kIte2_f, kFor_ap, kSv_ap, kSv2_int, kSc_ap, kSc2_ap, kSc3_cell, kMut_ap, op_add, op_sub, eq_int, ne_int, eq_str, ne_str, ne_shT_self, eq_shT_self, lt_int, le_int, gt_int, ge_int, getIt_0, len_tup, len_lst, abs_int, int_bl, int_int, list_cel, liC_lst, len_cel, lnC_lst, list_tup, list_lst, tuple_lst, tuple_tup, forR_nil, forR_cons, forS_nx, forS_rt, nxP_nx, kAsg_ok, kPar2_ok, kTup_ok, kLst_ok, kCel_ok, S_ret, ne_eq, reduceCtorEq, not_false_eq_true, implies_true, RV.d, frz_nil, frz_cons, frzO_some, frzO_none, List.getElem?_cons_zero, List.getElem?_cons_succ, List.getElem?_nil, List.set_cons_zero, List.set_cons_succ, List.length_cons, List.length_nil, mask_nil, mask_none, mask_some, wipe_nil, wipe_cons, decide_true, decide_false, Bool.not_true, Bool.not_false, Nat.zero_add, Nat.reduceAdd, Nat.reduceLT, Nat.reduceLeDiff, Nat.lt_add_one, List.nil_append, List.cons_append, Nat.reduceSub, List.map_cons, List.map_nil, List.replicate_succ, rep_zero, start_eq, gX_some, getT, getL, getC, gC_lst, Int.reduceToNat, Int.reduceLE, Int.reduceLT, Int.reduceNeg, setO_ap, sO_some, setC_ap, sC_some, kAsT_ap, asT_some, bindT_nm, bindT_tup, bindTs_cons, bO_some, bindTs_nil, turnF_ap, tFo_some, cT_ap, cTo_some, cT2_t, cT2_f, cT3_fr, cT3_own, and_self, and_true, true_and, Int.zero_add, ixN_ge, Int.natCast_nonneg, Int.toNat_natCast, Int.cast_ofNat_Int, isin_ty, List.any_cons, List.any_nil, isTy, Bool.true_and, Bool.false_and, Bool.and_true, Bool.and_false, Bool.or_false, Bool.false_or, Bool.or_true, Bool.true_or, Int.reduceEq, rD_eq a, rD_eq b, op_mul m1, op_mul m2]
  have : decide (a < b) = decide (a.num * b.den < b.num * a.den) := decide_eq_decide.mpr (Rat.lt_iff a b)
  rw [this]
end Sx
set_option maxHeartbeats 200000
/-! # lists of fractions: sums, the least one -/
namespace Sx
/-! ## lists, tuples and cells alike -/
section
variable {μ : Mu} {d : D} {p : List D × Hd}
theorem itemsOf_of (h : itemsD μ d = some p) : itemsOf (.fr d) μ = .ok p μ := by simp [itemsOf, RV.d, h]
theorem seq_of (h : itemsD μ d = some p) : d.seq μ = some p.1 := by
  cases d <;> simp_all [itemsD, D.seq]
  · subst h; rfl
  · subst h; rfl
  · split at h <;> simp_all
    subst h; rfl
theorem len_of (h : itemsD μ d = some p) : blt1 .len d μ = .ok (.fr (.int p.1.length)) μ := by
  cases d <;> simp_all [itemsD, blt1, D.see]
  · subst h; rfl
  · subst h; rfl
  · split at h <;> simp_all
    subst h; rfl
theorem get_of (h : itemsD μ d = some p) {i : Nat} {x : D} (hx : p.1[i]? = some x) : getIt d (.int i) μ = .ok (.fr x) μ := by
  have hl : i < p.1.length := (List.getElem?_eq_some_iff.mp hx).1
  have e : atI p.1 (i : Int) = some x := by
    unfold atI ixN
    rw [if_pos (Int.natCast_nonneg i), if_pos (by exact_mod_cast hl)]
    simpa using hx
  simp [getIt, seq_of h, e]
theorem kFor_any {C : Callee} {tg : Tg} {b : Blk} {ρ : Env} (xs : List D) (h : Hd) : kFor C tg b ρ (xs, h) μ = forH h (turnF tg (exB C b)) xs ρ μ := rfl
theorem kComp_any {C : Callee} {e : Tm} {tg : Tg} {cs : Tms} {ws : List Nat} {ρ : Env} (xs : List D) (h : Hd) : kComp C e tg cs ws ρ (xs, h) μ = rb (compH h (cT C e tg cs ws ρ) xs μ) kOwn := rfl
end
/-! ## sums -/
def rsum (qs : List Rat) : Rat := qs.foldl (· + ·) 0
theorem foldl_radd : ∀ (qs : List Rat) (a : Rat), qs.foldl (· + ·) a = a + rsum qs
  | [], a => by simp [rsum, Rat.add_zero]
  | q :: qs, a => by
    unfold rsum
    rw [List.foldl_cons, List.foldl_cons, foldl_radd qs (a + q), foldl_radd qs (0 + q), Rat.zero_add, Rat.add_assoc]
theorem rsum_nil : rsum [] = 0 := rfl
theorem rsum_cons (q : Rat) (qs : List Rat) : rsum (q :: qs) = q + rsum qs := by
  show (q :: qs).foldl (· + ·) 0 = _
  rw [List.foldl_cons, foldl_radd, Rat.zero_add]
theorem rsum_append (ps qs : List Rat) : rsum (ps ++ qs) = rsum ps + rsum qs := by
  unfold rsum
  rw [List.foldl_append, foldl_radd qs]
  rfl
theorem rsum_one (q : Rat) : rsum [q] = q := by rw [rsum_cons, rsum_nil, Rat.add_zero]
theorem rD0 : D.tup [.int 0, .int 1] = rD 0 := rfl
theorem rD1 : D.tup [.int 1, .int 1] = rD 1 := rfl
theorem Sz_zero : Sz 1 0 := ⟨by decide, by decide⟩
theorem Sz_one : Sz 1 1 := ⟨by decide, by decide⟩
theorem Sz_rsum {B : Nat} : ∀ {qs : List Rat}, (∀ q ∈ qs, Sz B q) → Sz (qs.length * (B + 1) + 1) (rsum qs)
  | [], _ => Sz_zero.mono (by simp)
  | q :: qs, h => by
    rw [rsum_cons]
    have h1 := Sz.add (h q List.mem_cons_self) (Sz_rsum (qs := qs) fun x hx => h x (List.mem_cons_of_mem _ hx))
    refine h1.mono ?_
    rw [List.length_cons, Nat.succ_mul]
    omega
theorem take_succ_map {α : Type} {xs : List α} {i : Nat} {x : α} (h : xs[i]? = some x) : xs.take (i + 1) = xs.take i ++ [x] := by
  rw [List.take_succ, h]; rfl
theorem s_total (k : Nat) {μ : Mu} {d : D} {qs : List Rat} {h : Hd} {B C : Nat} (hi : itemsD μ d = some (qs.map rD, h)) (hh : Held h μ) (hq : ∀ q ∈ qs, Sz B q) (hs : ∀ i, Sz C (rsum (qs.take i))) (hb : C + B ≤ 9000) :
    cl (k + 4) 14 [d] μ = .ok (.fr (rD (rsum qs))) μ := by
  rw [cl, call_eq r14 rfl, g14]
  simp only [bnd_rb, rb_ok, rb_exc, sb_ok, seq_nx, seq_rt, seq_ex, fin_nx, fin_rt, fin_ex, E_var, E_cst, E_glo, E_dic0, E_tup, E_lst, E_cel, E_op, E_cmp, E_chn, E_not, E_neg, E_con, E_dis, E_ife, E_idx, E_slc, E_call, E_blt, E_isi, E_rng1, E_rng2, E_comp, V_nil, V_cons, A_nil, A_cons, O_nil, O_cons, vr_fr, vo_fr, vo_own, vv_some, kD_fr, kD_own, kBl_ap, kOwn_ap, eo_var, eo_cst, eo_glo, eo_op, eo_idx, eo_slc, eo_call, eo_blt, eo_tup, eo_lst, eo_neg, eo_nt, eo_cmp, eo_con, eo_dis, eo_isi, eo_ife, eo_comp, kOp_ap, kCmp_ap, kCm2_ap, kCh1_ap, kCh2_ap, kCh3_t, kCh3_f, asR_bl, kNot_bl, kNeg_int, kA_bl, kA2_t, kA2_f, kO_bl, kO2_t, kO2_f, kA2_nil, kO2_nil, kIf_bl, kIf2_t, kIf2_f, kIdx_ap, kSl_ap, kSl2_ap, kSl3_ap, oi_mis, kI_int, oi_var, oi_cst, oi_op, oi_neg, oi_idx, oi_blt, oi_call, kR2_int, kComp_ap, kV_ap, kV2_fr, kV2_own, itemsOf_tup, itemsOf_lst, itemsOf_own, itemsOf_cell, itC_lst, itemsOf_wk, E_zip, E_enum, E_revd, E_newc, eo_newc, kZ1_ap, zipD_tt, zipD_ll, enumD_t, enumD_l, revD_t, revD_l, newC_own, kComp_apH, kFor_apH, S_asg, S_asT, S_par, S_exp, S_retv, S_ite, S_whl, S_for, S_setv, S_setc, S_mut, S_pas, B_nil, B_cons, kPar_ap, kExp_ap, kRet_ap, kIte_bl, kIte2_t, kIte2_f, kFor_ap, kSv_ap, kSv2_int, kSc_ap, kSc2_ap, kSc3_cell, kMut_ap, op_add, op_sub, eq_int, ne_int, eq_str, ne_str, ne_shT_self, eq_shT_self, lt_int, le_int, gt_int, ge_int, getIt_0, len_tup, len_lst, abs_int, int_bl, int_int, list_cel, liC_lst, len_cel, lnC_lst, list_tup, list_lst, tuple_lst, tuple_tup, forR_nil, forR_cons, forS_nx, forS_rt, nxP_nx, kAsg_ok, kPar2_ok, kTup_ok, kLst_ok, kCel_ok, S_ret, ne_eq, reduceCtorEq, not_false_eq_true, implies_true, RV.d, frz_nil, frz_cons, frzO_some, frzO_none, List.getElem?_cons_zero, List.getElem?_cons_succ, List.getElem?_nil, List.set_cons_zero, List.set_cons_succ, List.length_cons, List.length_nil, mask_nil, mask_none, mask_some, wipe_nil, wipe_cons, decide_true, decide_false, Bool.not_true, Bool.not_false, Nat.zero_add, Nat.reduceAdd, Nat.reduceLT, Nat.reduceLeDiff, Nat.lt_add_one, List.nil_append, List.cons_append, Nat.reduceSub, List.map_cons, List.map_nil, List.replicate_succ, rep_zero, start_eq, gX_some, getT, getL, getC, gC_lst, Int.reduceToNat, Int.reduceLE, Int.reduceLT, Int.reduceNeg, setO_ap, sO_some, setC_ap, sC_some, kAsT_ap, asT_some, bindT_nm, bindT_tup, bindTs_cons, bO_some, bindTs_nil, turnF_ap, tFo_some, cT_ap, cTo_some, cT2_t, cT2_f, cT3_fr, cT3_own, and_self, and_true, true_and, Int.zero_add, ixN_ge, Int.natCast_nonneg, Int.toNat_natCast, Int.cast_ofNat_Int, isin_ty, List.any_cons, List.any_nil, isTy, Bool.true_and, Bool.false_and, Bool.and_true, Bool.and_false, Bool.or_false, Bool.false_or, Bool.or_true, Bool.true_or, Int.reduceEq, itemsOf_of hi, kFor_any, rD0]
  refine forH_use (P := fun r => fin (seq r _) = .ok _ μ) (fun i ρ μ' => μ' = μ ∧ ρ = [some (.fr d), some (.fr (rD (rsum (qs.take i)))), none]) (fun i ρ μ' z => by rw [z.1]; exact hh) ⟨rfl, rfl⟩ ?_ ?_
  · rintro i x ρ μ' hx ⟨e1, rfl⟩
    rw [e1]
    rw [List.getElem?_map] at hx
    obtain ⟨q, hq1, rfl⟩ := Option.map_eq_some_iff.mp hx
    have e := s_plus k (hs i) (hq q (List.mem_of_getElem? hq1)) hb μ
    unfold cl at e
    simp only [bnd_rb, rb_ok, rb_exc, sb_ok, seq_nx, seq_rt, seq_ex, fin_nx, fin_rt, fin_ex, E_var, E_cst, E_glo, E_dic0, E_tup, E_lst, E_cel, E_op, E_cmp, E_chn, E_not, E_neg, E_con, E_dis, E_ife, E_idx, E_slc, E_call, E_blt, E_isi, E_rng1, E_rng2, E_comp, V_nil, V_cons, A_nil, A_cons, O_nil, O_cons, vr_fr, vo_fr, vo_own, vv_some, kD_fr, kD_own, kBl_ap, kOwn_ap, eo_var, eo_cst, eo_glo, eo_op, eo_idx, eo_slc, eo_call, eo_blt, eo_tup, eo_lst, eo_neg, eo_nt, eo_cmp, eo_con, eo_dis, eo_isi, eo_ife, eo_comp, kOp_ap, kCmp_ap, kCm2_ap, kCh1_ap, kCh2_ap, kCh3_t, kCh3_f, asR_bl, kNot_bl, kNeg_int, kA_bl, kA2_t, kA2_f, kO_bl, kO2_t, kO2_f, kA2_nil, kO2_nil, kIf_bl, kIf2_t, kIf2_f, kIdx_ap, kSl_ap, kSl2_ap, kSl3_ap, oi_mis, kI_int, oi_var, oi_cst, oi_op, oi_neg, oi_idx, oi_blt, oi_call, kR2_int, kComp_ap, kV_ap, kV2_fr, kV2_own, itemsOf_tup, itemsOf_lst, itemsOf_own, itemsOf_cell, itC_lst, itemsOf_wk, E_zip, E_enum, E_revd, E_newc, eo_newc, kZ1_ap, zipD_tt, zipD_ll, enumD_t, enumD_l, revD_t, revD_l, newC_own, kComp_apH, kFor_apH, S_asg, S_asT, S_par, S_exp, S_retv, S_ite, S_whl, S_for, S_setv, S_setc, S_mut, S_pas, B_nil, B_cons, kPar_ap, kExp_ap, kRet_ap, kIte_bl, kIte2_t, kIte2_f, kFor_ap, kSv_ap, kSv2_int, kSc_ap, kSc2_ap, kSc3_cell, kMut_ap, op_add, op_sub, eq_int, ne_int, eq_str, ne_str, ne_shT_self, eq_shT_self, lt_int, le_int, gt_int, ge_int, getIt_0, len_tup, len_lst, abs_int, int_bl, int_int, list_cel, liC_lst, len_cel, lnC_lst, list_tup, list_lst, tuple_lst, tuple_tup, forR_nil, forR_cons, forS_nx, forS_rt, nxP_nx, kAsg_ok, kPar2_ok, kTup_ok, kLst_ok, kCel_ok, S_ret, ne_eq, reduceCtorEq, not_false_eq_true, implies_true, RV.d, frz_nil, frz_cons, frzO_some, frzO_none, List.getElem?_cons_zero, List.getElem?_cons_succ, List.getElem?_nil, List.set_cons_zero, List.set_cons_succ, List.length_cons, List.length_nil, mask_nil, mask_none, mask_some, wipe_nil, wipe_cons, decide_true, decide_false, Bool.not_true, Bool.not_false, Nat.zero_add, Nat.reduceAdd, Nat.reduceLT, Nat.reduceLeDiff, Nat.lt_add_one, List.nil_append, List.cons_append, Nat.reduceSub, List.map_cons, List.map_nil, List.replicate_succ, rep_zero, start_eq, gX_some, getT, getL, getC, gC_lst, Int.reduceToNat, Int.reduceLE, Int.reduceLT, Int.reduceNeg, setO_ap, sO_some, setC_ap, sC_some, kAsT_ap, asT_some, bindT_nm, bindT_tup, bindTs_cons, bO_some, bindTs_nil, turnF_ap, tFo_some, cT_ap, cTo_some, cT2_t, cT2_f, cT3_fr, cT3_own, and_self, and_true, true_and, Int.zero_add, ixN_ge, Int.natCast_nonneg, Int.toNat_natCast, Int.cast_ofNat_Int, isin_ty, List.any_cons, List.any_nil, isTy, Bool.true_and, Bool.false_and, Bool.and_true, Bool.and_false, Bool.or_false, Bool.false_or, Bool.or_true, Bool.true_or, Int.reduceEq, e]
    rw [take_succ_map hq1, rsum_append, rsum_one]
  · rintro ρ μ' ⟨e1, rfl⟩
    rw [e1]
    simp only [bnd_rb, rb_ok, rb_exc, sb_ok, seq_nx, seq_rt, seq_ex, fin_nx, fin_rt, fin_ex, E_var, E_cst, E_glo, E_dic0, E_tup, E_lst, E_cel, E_op, E_cmp, E_chn, E_not, E_neg, E_con, E_dis, E_ife, E_idx, E_slc, E_call, E_blt, E_isi, E_rng1, E_rng2, E_comp, V_nil, V_cons, A_nil, A_cons, O_nil, O_cons, vr_fr, vo_fr, vo_own, vv_some, kD_fr, kD_own, kBl_ap, kOwn_ap, eo_var, eo_cst, eo_glo, eo_op, eo_idx, eo_slc, eo_call, eo_blt, eo_tup, eo_lst, eo_neg, eo_nt, eo_cmp, eo_con, eo_dis, eo_isi, eo_ife, eo_comp, kOp_ap, kCmp_ap, kCm2_ap, kCh1_ap, kCh2_ap, kCh3_t, kCh3_f, asR_bl, kNot_bl, kNeg_int, kA_bl, kA2_t, kA2_f, kO_bl, kO2_t, kO2_f, kA2_nil, kO2_nil, kIf_bl, kIf2_t, kIf2_f, kIdx_ap, kSl_ap, kSl2_ap, kSl3_ap, oi_mis, kI_int, oi_var, oi_cst, oi_op, oi_neg, oi_idx, oi_blt, oi_call, kR2_int, kComp_ap, kV_ap, kV2_fr, kV2_own, itemsOf_tup, itemsOf_lst, itemsOf_own, itemsOf_cell, itC_lst, itemsOf_wk, E_zip, E_enum, E_revd, E_newc, eo_newc, kZ1_ap, zipD_tt, zipD_ll, enumD_t, enumD_l, revD_t, revD_l, newC_own, kComp_apH, kFor_apH, S_asg, S_asT, S_par, S_exp, S_retv, S_ite, S_whl, S_for, S_setv, S_setc, S_mut, S_pas, B_nil, B_cons, kPar_ap, kExp_ap, kRet_ap, kIte_bl, kIte2_t, kIte2_f, kFor_ap, kSv_ap, kSv2_int, kSc_ap, kSc2_ap, kSc3_cell, kMut_ap, op_add, op_sub, eq_int, ne_int, eq_str, ne_str, ne_shT_self, eq_shT_self, lt_int, le_int, gt_int, ge_int, getIt_0, len_tup, len_lst, abs_int, int_bl, int_int, list_cel, liC_lst, len_cel, lnC_lst, list_tup, list_lst, tuple_lst, tuple_tup, forR_nil, forR_cons, forS_nx, forS_rt, nxP_nx, kAsg_ok, kPar2_ok, kTup_ok, kLst_ok, kCel_ok, S_ret, ne_eq, reduceCtorEq, not_false_eq_true, implies_true, RV.d, frz_nil, frz_cons, frzO_some, frzO_none, List.getElem?_cons_zero, List.getElem?_cons_succ, List.getElem?_nil, List.set_cons_zero, List.set_cons_succ, List.length_cons, List.length_nil, mask_nil, mask_none, mask_some, wipe_nil, wipe_cons, decide_true, decide_false, Bool.not_true, Bool.not_false, Nat.zero_add, Nat.reduceAdd, Nat.reduceLT, Nat.reduceLeDiff, Nat.lt_add_one, List.nil_append, List.cons_append, Nat.reduceSub, List.map_cons, List.map_nil, List.replicate_succ, rep_zero, start_eq, gX_some, getT, getL, getC, gC_lst, Int.reduceToNat, Int.reduceLE, Int.reduceLT, Int.reduceNeg, setO_ap, sO_some, setC_ap, sC_some, kAsT_ap, asT_some, bindT_nm, bindT_tup, bindTs_cons, bO_some, bindTs_nil, turnF_ap, tFo_some, cT_ap, cTo_some, cT2_t, cT2_f, cT3_fr, cT3_own, and_self, and_true, true_and, Int.zero_add, ixN_ge, Int.natCast_nonneg, Int.toNat_natCast, Int.cast_ofNat_Int, isin_ty, List.any_cons, List.any_nil, isTy, Bool.true_and, Bool.false_and, Bool.and_true, Bool.and_false, Bool.or_false, Bool.false_or, Bool.or_true, Bool.true_or, Int.reduceEq]
    rw [List.length_map, List.take_length]
/-! ## the law's own lowest form -/
theorem w_gcd4 (C : Callee) (μ : Mu) (x0 x1 : Option RV) : ∀ (n : Nat) (a : Int), 0 ≤ a → whileR (turnW (ev C (.cmp .ne (.var 3) (.cst (.int 0)))) (exB C (.cons (.par [] 2 3 (.var 3) (.op .mod (.var 2) (.var 3))) .nil))) [x0, x1, some (.fr (.int a)), some (.fr (.int (n : Int)))] μ
    = .nx [x0, x1, some (.fr (.int (Int.gcd a n))), some (.fr (.int 0))] μ := by
  intro n
  induction n using Nat.strongRecOn with
  | _ n ih =>
    intro a ha
    by_cases h : n = 0
    · subst h
      rw [while_end (μ1 := μ) (by simp only [bnd_rb, rb_ok, rb_exc, sb_ok, seq_nx, seq_rt, seq_ex, fin_nx, fin_rt, fin_ex, E_var, E_cst, E_glo, E_dic0, E_tup, E_lst, E_cel, E_op, E_cmp, E_chn, E_not, E_neg, E_con, E_dis, E_ife, E_idx, E_slc, E_call, E_blt, E_isi, E_rng1, E_rng2, E_comp, V_nil, V_cons, A_nil, A_cons, O_nil, O_cons, vr_fr, vo_fr, vo_own, vv_some, kD_fr, kD_own, kBl_ap, kOwn_ap, eo_var, eo_cst, eo_glo, eo_op, eo_idx, eo_slc, eo_call, eo_blt, eo_tup, eo_lst, eo_neg, eo_nt, eo_cmp, eo_con, eo_dis, eo_isi, eo_ife, eo_comp, kOp_ap, kCmp_ap, kCm2_ap, kCh1_ap, kCh2_ap, kCh3_t, kCh3_f, asR_bl, kNot_bl, kNeg_int, kA_bl, kA2_t, kA2_f, kO_bl, kO2_t, kO2_f, kA2_nil, kO2_nil, kIf_bl, kIf2_t, kIf2_f, kIdx_ap, kSl_ap, kSl2_ap, kSl3_ap, oi_mis, kI_int, oi_var, oi_cst, oi_op, oi_neg, oi_idx, oi_blt, oi_call, kR2_int, kComp_ap, kV_ap, kV2_fr, kV2_own, itemsOf_tup, itemsOf_lst, itemsOf_own, itemsOf_cell, itC_lst, itemsOf_wk, E_zip, E_enum, E_revd, E_newc, eo_newc, kZ1_ap, zipD_tt, zipD_ll, enumD_t, enumD_l, revD_t, revD_l, newC_own, kComp_apH, kFor_apH, S_asg, S_asT, S_par, S_exp, S_retv, S_ite, S_whl, S_for, S_setv, S_setc, S_mut, S_pas, B_nil, B_cons, kPar_ap, kExp_ap, kRet_ap, kIte_bl, kIte2_t, kIte2_f, kFor_ap, kSv_ap, kSv2_int, kSc_ap, kSc2_ap, kSc3_cell, kMut_ap, op_add, op_sub, eq_int, ne_int, eq_str, ne_str, ne_shT_self, eq_shT_self, lt_int, le_int, gt_int, ge_int, getIt_0, len_tup, len_lst, abs_int, int_bl, int_int, list_cel, liC_lst, len_cel, lnC_lst, list_tup, list_lst, tuple_lst, tuple_tup, forR_nil, forR_cons, forS_nx, forS_rt, nxP_nx, kAsg_ok, kPar2_ok, kTup_ok, kLst_ok, kCel_ok, S_ret, ne_eq, reduceCtorEq, not_false_eq_true, implies_true, RV.d, frz_nil, frz_cons, frzO_some, frzO_none, List.getElem?_cons_zero, List.getElem?_cons_succ, List.getElem?_nil, List.set_cons_zero, List.set_cons_succ, List.length_cons, List.length_nil, mask_nil, mask_none, mask_some, wipe_nil, wipe_cons, decide_true, decide_false, Bool.not_true, Bool.not_false, Nat.zero_add, Nat.reduceAdd, Nat.reduceLT, Nat.reduceLeDiff, Nat.lt_add_one, List.nil_append, List.cons_append, Nat.reduceSub, List.map_cons, List.map_nil, List.replicate_succ, rep_zero, start_eq, gX_some, getT, getL, getC, gC_lst, Int.reduceToNat, Int.reduceLE, Int.reduceLT, Int.reduceNeg, setO_ap, sO_some, setC_ap, sC_some, kAsT_ap, asT_some, bindT_nm, bindT_tup, bindTs_cons, bO_some, bindTs_nil, turnF_ap, tFo_some, cT_ap, cTo_some, cT2_t, cT2_f, cT3_fr, cT3_own, and_self, and_true, true_and, Int.zero_add, ixN_ge, Int.natCast_nonneg, Int.toNat_natCast, Int.cast_ofNat_Int, isin_ty, List.any_cons, List.any_nil, isTy, Bool.true_and, Bool.false_and, Bool.and_true, Bool.and_false, Bool.or_false, Bool.false_or, Bool.or_true, Bool.true_or, Int.reduceEq])]
      have : (Int.gcd a 0 : Int) = a := by simp; omega
      simp only [Int.natCast_zero]
      rw [← this]
      simp
    · have h1 : (n : Int) ≠ 0 := by omega
      rw [while_go (μ1 := μ) (ρ' := [x0, x1, some (.fr (.int n)), some (.fr (.int (a.fmod n)))]) (μ' := μ) (by simp only [bnd_rb, rb_ok, rb_exc, sb_ok, seq_nx, seq_rt, seq_ex, fin_nx, fin_rt, fin_ex, E_var, E_cst, E_glo, E_dic0, E_tup, E_lst, E_cel, E_op, E_cmp, E_chn, E_not, E_neg, E_con, E_dis, E_ife, E_idx, E_slc, E_call, E_blt, E_isi, E_rng1, E_rng2, E_comp, V_nil, V_cons, A_nil, A_cons, O_nil, O_cons, vr_fr, vo_fr, vo_own, vv_some, kD_fr, kD_own, kBl_ap, kOwn_ap, eo_var, eo_cst, eo_glo, eo_op, eo_idx, eo_slc, eo_call, eo_blt, eo_tup, eo_lst, eo_neg, eo_nt, eo_cmp, eo_con, eo_dis, eo_isi, eo_ife, eo_comp, kOp_ap, kCmp_ap, kCm2_ap, kCh1_ap, kCh2_ap, kCh3_t, kCh3_f, asR_bl, kNot_bl, kNeg_int, kA_bl, kA2_t, kA2_f, kO_bl, kO2_t, kO2_f, kA2_nil, kO2_nil, kIf_bl, kIf2_t, kIf2_f, kIdx_ap, kSl_ap, kSl2_ap, kSl3_ap, oi_mis, kI_int, oi_var, oi_cst, oi_op, oi_neg, oi_idx, oi_blt, oi_call, kR2_int, kComp_ap, kV_ap, kV2_fr, kV2_own, itemsOf_tup, itemsOf_lst, itemsOf_own, itemsOf_cell, itC_lst, itemsOf_wk, E_zip, E_enum, E_revd, E_newc, eo_newc, kZ1_ap, zipD_tt, zipD_ll, enumD_t, enumD_l, revD_t, revD_l, newC_own, kComp_apH, kFor_apH, S_asg, S_asT, S_par, S_exp, S_retv, S_ite, S_whl, S_for, S_setv, S_setc, S_mut, S_pas, B_nil, B_cons, kPar_ap, kExp_ap, kRet_ap, kIte_bl, kIte2_t, kIte2_f, kFor_ap, kSv_ap, kSv2_int, kSc_ap, kSc2_ap, kSc3_cell, kMut_ap, op_add, op_sub, eq_int, ne_int, eq_str, ne_str, ne_shT_self, eq_shT_self, lt_int, le_int, gt_int, ge_int, getIt_0, len_tup, len_lst, abs_int, int_bl, int_int, list_cel, liC_lst, len_cel, lnC_lst, list_tup, list_lst, tuple_lst, tuple_tup, forR_nil, forR_cons, forS_nx, forS_rt, nxP_nx, kAsg_ok, kPar2_ok, kTup_ok, kLst_ok, kCel_ok, S_ret, ne_eq, reduceCtorEq, not_false_eq_true, implies_true, RV.d, frz_nil, frz_cons, frzO_some, frzO_none, List.getElem?_cons_zero, List.getElem?_cons_succ, List.getElem?_nil, List.set_cons_zero, List.set_cons_succ, List.length_cons, List.length_nil, mask_nil, mask_none, mask_some, wipe_nil, wipe_cons, decide_true, decide_false, Bool.not_true, Bool.not_false, Nat.zero_add, Nat.reduceAdd, Nat.reduceLT, Nat.reduceLeDiff, Nat.lt_add_one, List.nil_append, List.cons_append, Nat.reduceSub, List.map_cons, List.map_nil, List.replicate_succ, rep_zero, start_eq, gX_some, getT, getL, getC, gC_lst, Int.reduceToNat, Int.reduceLE, Int.reduceLT, Int.reduceNeg, setO_ap, sO_some, setC_ap, sC_some, kAsT_ap, asT_some, bindT_nm, bindT_tup, bindTs_cons, bO_some, bindTs_nil, turnF_ap, tFo_some, cT_ap, cTo_some, cT2_t, cT2_f, cT3_fr, cT3_own, and_self, and_true, true_and, Int.zero_add, ixN_ge, Int.natCast_nonneg, Int.toNat_natCast, Int.cast_ofNat_Int, isin_ty, List.any_cons, List.any_nil, isTy, Bool.true_and, Bool.false_and, Bool.and_true, Bool.and_false, Bool.or_false, Bool.false_or, Bool.or_true, Bool.true_or, Int.reduceEq]; simp [h]) (by simp only [bnd_rb, rb_ok, rb_exc, sb_ok, seq_nx, seq_rt, seq_ex, fin_nx, fin_rt, fin_ex, E_var, E_cst, E_glo, E_dic0, E_tup, E_lst, E_cel, E_op, E_cmp, E_chn, E_not, E_neg, E_con, E_dis, E_ife, E_idx, E_slc, E_call, E_blt, E_isi, E_rng1, E_rng2, E_comp, V_nil, V_cons, A_nil, A_cons, O_nil, O_cons, vr_fr, vo_fr, vo_own, vv_some, kD_fr, kD_own, kBl_ap, kOwn_ap, eo_var, eo_cst, eo_glo, eo_op, eo_idx, eo_slc, eo_call, eo_blt, eo_tup, eo_lst, eo_neg, eo_nt, eo_cmp, eo_con, eo_dis, eo_isi, eo_ife, eo_comp, kOp_ap, kCmp_ap, kCm2_ap, kCh1_ap, kCh2_ap, kCh3_t, kCh3_f, asR_bl, kNot_bl, kNeg_int, kA_bl, kA2_t, kA2_f, kO_bl, kO2_t, kO2_f, kA2_nil, kO2_nil, kIf_bl, kIf2_t, kIf2_f, kIdx_ap, kSl_ap, kSl2_ap, kSl3_ap, oi_mis, kI_int, oi_var, oi_cst, oi_op, oi_neg, oi_idx, oi_blt, oi_call, kR2_int, kComp_ap, kV_ap, kV2_fr, kV2_own, itemsOf_tup, itemsOf_lst, itemsOf_own, itemsOf_cell, itC_lst, itemsOf_wk, E_zip, E_enum, E_revd, E_newc, eo_newc, kZ1_ap, zipD_tt, zipD_ll, enumD_t, enumD_l, revD_t, revD_l, newC_own, kComp_apH, kFor_apH, S_asg, S_asT, S_par, S_exp, S_retv, S_ite, S_whl, S_for, S_setv, S_setc, S_mut, S_pas, B_nil, B_cons, kPar_ap, kExp_ap, kRet_ap, kIte_bl, kIte2_t, kIte2_f, kFor_ap, kSv_ap, kSv2_int, kSc_ap, kSc2_ap, kSc3_cell, kMut_ap, op_add, op_sub, eq_int, ne_int, eq_str, ne_str, ne_shT_self, eq_shT_self, lt_int, le_int, gt_int, ge_int, getIt_0, len_tup, len_lst, abs_int, int_bl, int_int, list_cel, liC_lst, len_cel, lnC_lst, list_tup, list_lst, tuple_lst, tuple_tup, forR_nil, forR_cons, forS_nx, forS_rt, nxP_nx, kAsg_ok, kPar2_ok, kTup_ok, kLst_ok, kCel_ok, S_ret, ne_eq, reduceCtorEq, not_false_eq_true, implies_true, RV.d, frz_nil, frz_cons, frzO_some, frzO_none, List.getElem?_cons_zero, List.getElem?_cons_succ, List.getElem?_nil, List.set_cons_zero, List.set_cons_succ, List.length_cons, List.length_nil, mask_nil, mask_none, mask_some, wipe_nil, wipe_cons, decide_true, decide_false, Bool.not_true, Bool.not_false, Nat.zero_add, Nat.reduceAdd, Nat.reduceLT, Nat.reduceLeDiff, Nat.lt_add_one, List.nil_append, List.cons_append, Nat.reduceSub, List.map_cons, List.map_nil, List.replicate_succ, rep_zero, start_eq, gX_some, getT, getL, getC, gC_lst, Int.reduceToNat, Int.reduceLE, Int.reduceLT, Int.reduceNeg, setO_ap, sO_some, setC_ap, sC_some, kAsT_ap, asT_some, bindT_nm, bindT_tup, bindTs_cons, bO_some, bindTs_nil, turnF_ap, tFo_some, cT_ap, cTo_some, cT2_t, cT2_f, cT3_fr, cT3_own, and_self, and_true, true_and, Int.zero_add, ixN_ge, Int.natCast_nonneg, Int.toNat_natCast, Int.cast_ofNat_Int, isin_ty, List.any_cons, List.any_nil, isTy, Bool.true_and, Bool.false_and, Bool.and_true, Bool.and_false, Bool.or_false, Bool.false_or, Bool.or_true, Bool.true_or, Int.reduceEq, op_mod h1])]
      have e : a.fmod n = ((a % n).toNat : Int) := by
        rw [Int.toNat_of_nonneg (Int.emod_nonneg _ (by omega)), Int.fmod_eq_emod_of_nonneg _ (by omega)]
      have hl : (a % n).toNat < n := by
        have := Int.emod_lt_of_pos a (show (0 : Int) < n by omega)
        omega
      rw [← gcd_step ha h, e]
      cases x0 <;> cases x1 <;> (simp only [bnd_rb, rb_ok, rb_exc, sb_ok, seq_nx, seq_rt, seq_ex, fin_nx, fin_rt, fin_ex, E_var, E_cst, E_glo, E_dic0, E_tup, E_lst, E_cel, E_op, E_cmp, E_chn, E_not, E_neg, E_con, E_dis, E_ife, E_idx, E_slc, E_call, E_blt, E_isi, E_rng1, E_rng2, E_comp, V_nil, V_cons, A_nil, A_cons, O_nil, O_cons, vr_fr, vo_fr, vo_own, vv_some, kD_fr, kD_own, kBl_ap, kOwn_ap, eo_var, eo_cst, eo_glo, eo_op, eo_idx, eo_slc, eo_call, eo_blt, eo_tup, eo_lst, eo_neg, eo_nt, eo_cmp, eo_con, eo_dis, eo_isi, eo_ife, eo_comp, kOp_ap, kCmp_ap, kCm2_ap, kCh1_ap, kCh2_ap, kCh3_t, kCh3_f, asR_bl, kNot_bl, kNeg_int, kA_bl, kA2_t, kA2_f, kO_bl, kO2_t, kO2_f, kA2_nil, kO2_nil, kIf_bl, kIf2_t, kIf2_f, kIdx_ap, kSl_ap, kSl2_ap, kSl3_ap, oi_mis, kI_int, oi_var, oi_cst, oi_op, oi_neg, oi_idx, oi_blt, oi_call, kR2_int, kComp_ap, kV_ap, kV2_fr, kV2_own, itemsOf_tup, itemsOf_lst, itemsOf_own, itemsOf_cell, itC_lst, itemsOf_wk, E_zip, E_enum, E_revd, E_newc, eo_newc, kZ1_ap, zipD_tt, zipD_ll, enumD_t, enumD_l, revD_t, revD_l, newC_own, kComp_apH, kFor_apH, S_asg, S_asT, S_par, S_exp, S_retv, S_ite, S_whl, S_for, S_setv, S_setc, S_mut, S_pas, B_nil, B_cons, kPar_ap, kExp_ap, kRet_ap, kIte_bl, kIte2_t, kIte2_f, kFor_ap, kSv_ap, kSv2_int, kSc_ap, kSc2_ap, kSc3_cell, kMut_ap, op_add, op_sub, eq_int, ne_int, eq_str, ne_str, ne_shT_self, eq_shT_self, lt_int, le_int, gt_int, ge_int, getIt_0, len_tup, len_lst, abs_int, int_bl, int_int, list_cel, liC_lst, len_cel, lnC_lst, list_tup, list_lst, tuple_lst, tuple_tup, forR_nil, forR_cons, forS_nx, forS_rt, nxP_nx, kAsg_ok, kPar2_ok, kTup_ok, kLst_ok, kCel_ok, S_ret, ne_eq, reduceCtorEq, not_false_eq_true, implies_true, RV.d, frz_nil, frz_cons, frzO_some, frzO_none, List.getElem?_cons_zero, List.getElem?_cons_succ, List.getElem?_nil, List.set_cons_zero, List.set_cons_succ, List.length_cons, List.length_nil, mask_nil, mask_none, mask_some, wipe_nil, wipe_cons, decide_true, decide_false, Bool.not_true, Bool.not_false, Nat.zero_add, Nat.reduceAdd, Nat.reduceLT, Nat.reduceLeDiff, Nat.lt_add_one, List.nil_append, List.cons_append, Nat.reduceSub, List.map_cons, List.map_nil, List.replicate_succ, rep_zero, start_eq, gX_some, getT, getL, getC, gC_lst, Int.reduceToNat, Int.reduceLE, Int.reduceLT, Int.reduceNeg, setO_ap, sO_some, setC_ap, sC_some, kAsT_ap, asT_some, bindT_nm, bindT_tup, bindTs_cons, bO_some, bindTs_nil, turnF_ap, tFo_some, cT_ap, cTo_some, cT2_t, cT2_f, cT3_fr, cT3_own, and_self, and_true, true_and, Int.zero_add, ixN_ge, Int.natCast_nonneg, Int.toNat_natCast, Int.cast_ofNat_Int, isin_ty, List.any_cons, List.any_nil, isTy, Bool.true_and, Bool.false_and, Bool.and_true, Bool.and_false, Bool.or_false, Bool.false_or, Bool.or_true, Bool.true_or, Int.reduceEq]; exact ih _ hl n (by omega))
theorem s_low (k : Nat) {n d : Int} (h : 0 < d) (hd : d.natAbs < 2 ^ 9000) (μ : Mu) : cl (k + 1) 16 [.int n, .int d] μ = .ok (.fr (rD (Rat.divInt n d))) μ := by
  have hg := gcd_lt (n := n) (show d ≠ 0 by omega) hd
  have e2 : (if n < 0 then -n else n) = ((n.natAbs : Nat) : Int) := by split <;> omega
  obtain ⟨m, rfl⟩ := Int.eq_ofNat_of_zero_le (Int.le_of_lt h)
  have o1 : divOk (Int.gcd n m : Int) = true := divOk_of 9000 (by omega) (by omega) (by decide) (by decide)
  have e := gcd_fdiv_pos (n := n) h
  have e3 : ((Int.gcd (n.natAbs : Int) m : Nat) : Int) = Int.gcd n m := by simp [Int.gcd]
  rw [cl, call_eq r16 rfl, g16]
  simp only [bnd_rb, rb_ok, rb_exc, sb_ok, seq_nx, seq_rt, seq_ex, fin_nx, fin_rt, fin_ex, E_var, E_cst, E_glo, E_dic0, E_tup, E_lst, E_cel, E_op, E_cmp, E_chn, E_not, E_neg, E_con, E_dis, E_ife, E_idx, E_slc, E_call, E_blt, E_isi, E_rng1, E_rng2, E_comp, V_nil, V_cons, A_nil, A_cons, O_nil, O_cons, vr_fr, vo_fr, vo_own, vv_some, kD_fr, kD_own, kBl_ap, kOwn_ap, eo_var, eo_cst, eo_glo, eo_op, eo_idx, eo_slc, eo_call, eo_blt, eo_tup, eo_lst, eo_neg, eo_nt, eo_cmp, eo_con, eo_dis, eo_isi, eo_ife, eo_comp, kOp_ap, kCmp_ap, kCm2_ap, kCh1_ap, kCh2_ap, kCh3_t, kCh3_f, asR_bl, kNot_bl, kNeg_int, kA_bl, kA2_t, kA2_f, kO_bl, kO2_t, kO2_f, kA2_nil, kO2_nil, kIf_bl, kIf2_t, kIf2_f, kIdx_ap, kSl_ap, kSl2_ap, kSl3_ap, oi_mis, kI_int, oi_var, oi_cst, oi_op, oi_neg, oi_idx, oi_blt, oi_call, kR2_int, kComp_ap, kV_ap, kV2_fr, kV2_own, itemsOf_tup, itemsOf_lst, itemsOf_own, itemsOf_cell, itC_lst, itemsOf_wk, E_zip, E_enum, E_revd, E_newc, eo_newc, kZ1_ap, zipD_tt, zipD_ll, enumD_t, enumD_l, revD_t, revD_l, newC_own, kComp_apH, kFor_apH, S_asg, S_asT, S_par, S_exp, S_retv, S_ite, S_whl, S_for, S_setv, S_setc, S_mut, S_pas, B_nil, B_cons, kPar_ap, kExp_ap, kRet_ap, kIte_bl, kIte2_t, kIte2_f, kFor_ap, kSv_ap, kSv2_int, kSc_ap, kSc2_ap, kSc3_cell, kMut_ap, op_add, op_sub, eq_int, ne_int, eq_str, ne_str, ne_shT_self, eq_shT_self, lt_int, le_int, gt_int, ge_int, getIt_0, len_tup, len_lst, abs_int, int_bl, int_int, list_cel, liC_lst, len_cel, lnC_lst, list_tup, list_lst, tuple_lst, tuple_tup, forR_nil, forR_cons, forS_nx, forS_rt, nxP_nx, kAsg_ok, kPar2_ok, kTup_ok, kLst_ok, kCel_ok, S_ret, ne_eq, reduceCtorEq, not_false_eq_true, implies_true, RV.d, frz_nil, frz_cons, frzO_some, frzO_none, List.getElem?_cons_zero, List.getElem?_cons_succ, List.getElem?_nil, List.set_cons_zero, List.set_cons_succ, List.length_cons, List.length_nil, mask_nil, mask_none, mask_some, wipe_nil, wipe_cons, decide_true, decide_false, Bool.not_true, Bool.not_false, Nat.zero_add, Nat.reduceAdd, Nat.reduceLT, Nat.reduceLeDiff, Nat.lt_add_one, List.nil_append, List.cons_append, Nat.reduceSub, List.map_cons, List.map_nil, List.replicate_succ, rep_zero, start_eq, gX_some, getT, getL, getC, gC_lst, Int.reduceToNat, Int.reduceLE, Int.reduceLT, Int.reduceNeg, setO_ap, sO_some, setC_ap, sC_some, kAsT_ap, asT_some, bindT_nm, bindT_tup, bindTs_cons, bO_some, bindTs_nil, turnF_ap, tFo_some, cT_ap, cTo_some, cT2_t, cT2_f, cT3_fr, cT3_own, and_self, and_true, true_and, Int.zero_add, ixN_ge, Int.natCast_nonneg, Int.toNat_natCast, Int.cast_ofNat_Int, isin_ty, List.any_cons, List.any_nil, isTy, Bool.true_and, Bool.false_and, Bool.and_true, Bool.and_false, Bool.or_false, Bool.false_or, Bool.or_true, Bool.true_or, Int.reduceEq, e2, w_gcd4 _ _ _ _ m _ (Int.natCast_nonneg n.natAbs), e3, op_fdiv o1, e.1, e.2]
  rfl
end Sx
set_option maxHeartbeats 200000
/-! # draws from a feed that lies anywhere; walks that end early -/
namespace Sx
/-- n draws more may be made from the feed at c -/
def Fd (n c : Nat) (μ : Mu) : Prop := ∃ cell, μ[c]? = some cell ∧ FeedC n cell
/-- all but c stays -/
def Nx (c : Nat) (μ μ' : Mu) : Prop := μ.length ≤ μ'.length ∧ ∀ i, i ≠ c → i < μ.length → μ'[i]? = μ[i]?
theorem Nx.refl {c : Nat} {μ : Mu} : Nx c μ μ := ⟨Nat.le_refl _, fun _ _ _ => rfl⟩
theorem Nx.trans {c : Nat} {μ μ' μ'' : Mu} (a : Nx c μ μ') (b : Nx c μ' μ'') : Nx c μ μ'' := ⟨Nat.le_trans a.1 b.1, fun i h l => (b.2 i h (Nat.lt_of_lt_of_le l a.1)).trans (a.2 i h l)⟩
theorem Nx.at {c i : Nat} {μ μ' : Mu} {x : Cell} (a : Nx c μ μ') (h : i ≠ c) (e : μ[i]? = some x) : μ'[i]? = some x := (a.2 i h (List.getElem?_eq_some_iff.mp e).1).trans e
theorem Fd.mono {n m c : Nat} {μ : Mu} (h : Fd n c μ) (hm : m ≤ n) : Fd m c μ := let ⟨x, e, f⟩ := h; ⟨x, e, f.mono hm⟩
theorem Fd.lt {n c : Nat} {μ : Mu} (h : Fd n c μ) : c < μ.length := let ⟨_, e, _⟩ := h; (List.getElem?_eq_some_iff.mp e).1
theorem Fd.push {n c : Nat} {μ : Mu} {x : Cell} (h : Fd n c μ) : Fd n c (μ ++ [x]) := let ⟨y, e, f⟩ := h; ⟨y, by rw [List.getElem?_append_left (List.getElem?_eq_some_iff.mp e).1]; exact e, f⟩
theorem Fd.set {n c i : Nat} {μ : Mu} {x : Cell} (h : Fd n c μ) (hi : i ≠ c) : Fd n c (μ.set i x) := let ⟨y, e, f⟩ := h; ⟨y, by rw [List.getElem?_set_ne hi]; exact e, f⟩
theorem Nx.push {c : Nat} {μ : Mu} {x : Cell} : Nx c μ (μ ++ [x]) := ⟨by simp, fun i _ l => List.getElem?_append_left l⟩
theorem s_drawF (k c : Nat) {many : Int} {n : Nat} {μ : Mu} (hf : Fd (n + 1) c μ) (hm : 0 < many) (hm2 : many.natAbs < 2 ^ 250) : ∃ v μ', cl (k + 1) 5 [.cell c, .int many] μ = .ok (.fr (.int v)) μ' ∧ Fd n c μ' ∧ Nx c μ μ' ∧ 0 ≤ v ∧ v < many := by
  obtain ⟨cell, e, f⟩ := hf
  obtain ⟨v, cell', e1, f1, h1, h2⟩ := s_draw k c e f hm hm2
  have hl := (List.getElem?_eq_some_iff.mp e).1
  exact ⟨v, _, e1, ⟨cell', List.getElem?_set_self hl, f1⟩, ⟨by simp, fun i hi _ => List.getElem?_set_ne hi.symm⟩, h1, h2⟩
/-- a draw's number as a natural one -/
theorem s_drawN (k c : Nat) {many n : Nat} {μ : Mu} (hf : Fd (n + 1) c μ) (hm : 0 < many) (hm2 : many < 2 ^ 250) : ∃ (v : Nat) (μ' : Mu), cl (k + 1) 5 [.cell c, .int many] μ = .ok (.fr (.int (v : Nat))) μ' ∧ Fd n c μ' ∧ Nx c μ μ' ∧ v < many := by
  obtain ⟨v, μ', e, f, x, h1, h2⟩ := s_drawF k c (many := (many : Int)) hf (by omega) (by simpa using hm2)
  obtain ⟨w, rfl⟩ := Int.eq_ofNat_of_zero_le h1
  exact ⟨w, μ', e, f, x, by omega⟩
theorem s_drawI (k c : Nat) (many : Int) {n : Nat} {μ : Mu} (hf : Fd (n + 1) c μ) (hm : 0 < many) (hm2 : many.natAbs < 2 ^ 250) : ∃ (v : Nat) (μ' : Mu), cl (k + 1) 5 [.cell c, .int many] μ = .ok (.fr (.int (v : Nat))) μ' ∧ Fd n c μ' ∧ Nx c μ μ' ∧ (v : Int) < many := by
  obtain ⟨v, μ', e, f, x, h1, h2⟩ := s_drawF k c (many := many) hf hm hm2
  obtain ⟨w, rfl⟩ := Int.eq_ofNat_of_zero_le h1
  exact ⟨w, μ', e, f, x, h2⟩
/-- a walk that is left early -/
theorem forR_ret {f : D → Env → Mu → RS} {ρ : Env} {μ μ' : Mu} {r : RV} : ∀ {xs : List D} {n : Nat} {x : D}, xs[n]? = some x → (∀ j y, j < n → xs[j]? = some y → ∃ ρ', f y ρ μ = .nx ρ' μ ∧ mask ρ ρ' = ρ) → f x ρ μ = .rt r μ' → forR f xs ρ μ = .rt r μ'
  | [], n, x, h, _, _ => by simp at h
  | y :: xs, 0, x, h, _, hr => by
    simp at h
    subst h
    rw [forR_cons, hr, forS_rt]
  | y :: xs, n + 1, x, h, hs, hr => by
    obtain ⟨ρ', e1, e2⟩ := hs 0 y (Nat.succ_pos n) rfl
    rw [forR_cons, e1, forS_nx, e2]
    exact forR_ret (n := n) (by simpa using h) (fun j z hj hz => hs (j + 1) z (Nat.succ_lt_succ hj) (by simpa using hz)) hr
theorem ints_at {lo : Int} {n i : Nat} {x : D} (h : (intsFrom lo n)[i]? = some x) : i < n ∧ x = .int (lo + i) := by
  unfold intsFrom at h
  rw [List.getElem?_map] at h
  obtain ⟨j, e1, rfl⟩ := Option.map_eq_some_iff.mp h
  obtain ⟨hh, e2⟩ := List.getElem?_eq_some_iff.mp e1
  have : j = i := by simpa using e2.symm
  subst this
  exact ⟨by simpa using hh, rfl⟩
theorem ints_get {lo : Int} {n i : Nat} (h : i < n) : (intsFrom lo n)[i]? = some (.int (lo + i)) := by
  unfold intsFrom
  rw [List.getElem?_map, List.getElem?_range h]
  rfl
theorem ints_len (lo : Int) (n : Nat) : (intsFrom lo n).length = n := by simp [intsFrom]
/-- whether a truth is among truths -/
theorem notin_bls (bs : List Bool) (μ : Mu) : cmp2 .notin (.bl true) (.lst (bs.map D.bl)) μ = .ok (!(bs.any id)) μ := by
  have e : eqks 59 (bs.map D.bl) = true := by
    induction bs with
    | nil => rfl
    | cons b bs ih => rw [List.map_cons, eqks, ih]; rfl
  have e2 : ∀ l : List Bool, (l.map D.bl).any (fun z => PySem.PyData.eqv z.py (D.py (.bl true))) = l.any id := by
    intro l
    induction l with
    | nil => rfl
    | cons b bs ih => rw [List.map_cons, List.any_cons, List.any_cons, ih]; cases b <;> rfl
  have e3 : inD μ (.bl true) (.lst (bs.map D.bl)) = some (bs.any id) := by
    unfold inD
    simp only [D.see, D.eqk, e, Bool.true_and, if_true, e2]
  simp only [cmp2, e3, Option.elim]
/-! ## equality of data with itself -/
mutual
theorem eqv_self : ∀ (n : Nat) (d : D), d.eqk n = true → PySem.PyData.eqv d.py d.py = true
  | _, .non, _ => rfl
  | _, .bl b, _ => by simp [D.py, PySem.PyData.eqv]
  | _, .int i, _ => by simp [D.py, PySem.PyData.eqv]
  | _, .str x, _ => by simp [D.py, PySem.PyData.eqv]
  | 0, .tup _, h => by simp [D.eqk] at h
  | 0, .lst _, h => by simp [D.eqk] at h
  | n + 1, .tup xs, h => by
    simp only [D.eqk] at h
    rw [D.py, PySem.PyData.eqv]; exact eqvs_self n xs h
  | n + 1, .lst xs, h => by
    simp only [D.eqk] at h
    rw [D.py, PySem.PyData.eqv]; exact eqvs_self n xs h
  | n, .dic _, h => by cases n <;> simp [D.eqk] at h
  | n, .cell _, h => by cases n <;> simp [D.eqk] at h
  | n, .exc _ _, h => by cases n <;> simp [D.eqk] at h
theorem eqvs_self : ∀ (n : Nat) (xs : List D), eqks n xs = true → PySem.PyData.eqvAll (pys xs) (pys xs) = true
  | _, [], _ => rfl
  | n, x :: xs, h => by
    simp only [eqks, Bool.and_eq_true] at h
    rw [pys, PySem.PyData.eqvAll, eqv_self n x h.1, eqvs_self n xs h.2]; rfl
end
theorem rD_eqk (q : Rat) (n : Nat) (h : 0 < n) : (rD q).eqk n = true := by
  cases n with
  | zero => omega
  | succ n => simp [rD, D.eqk, eqks]
theorem rDs_eqk (qs : List Rat) (n : Nat) (h : 0 < n) : eqks n (qs.map rD) = true := by
  rw [eqks_all, List.all_map, List.all_eq_true]
  intro q _
  exact rD_eqk q n h
theorem ne_self {μ : Mu} {a b : D} (h : a.see μ = b.see μ) (hk : (b.see μ).eqk 60 = true) : cmp2 .ne a b μ = .ok false μ := by
  have e := eqv_self 60 _ hk
  have g : (fun μ => guard' ((a.see μ).eqk 60 && (b.see μ).eqk 60) (ret (!PySem.PyData.eqv (a.see μ).py (b.see μ).py)) μ) μ = R.ok false μ := by
    simp [h, hk, e, guard', ret]
  cases a <;> cases b <;> first | exact g | (simp only [D.see] at h; cases h; simp [cmp2, ret])
theorem rget {qs : List Rat} {i : Nat} (h : i < qs.length) : (qs.map rD)[i]? = some (rD (qs.getD i 0)) := by
  rw [List.getElem?_map, List.getElem?_eq_getElem h]
  simp [h]
theorem sz_getD {B : Nat} {qs : List Rat} (h : ∀ q ∈ qs, Sz B q) {i : Nat} (hi : i < qs.length) : Sz B (qs.getD i 0) := by
  have : qs.getD i 0 = qs[i] := by simp [hi]
  rw [this]
  exact h _ (List.getElem_mem hi)
theorem cell_items {μ : Mu} {c : Nat} {xs : List D} (h : μ[c]? = some (.lst xs)) : itemsD μ (.cell c) = some (xs, [(c, xs)]) := by simp [itemsD, h]
theorem rD_shk {q : Rat} (h : Sz 1900 q) : (rD q).shk = true := by
  have h1 := log2_lt (i := q.num) h.1 (by decide)
  have h2 := log2_lt (i := (q.den : Int)) (n := 1900) (by simpa using h.2) (by decide)
  have e1 : q.num.natAbs.log2 < 1920 := by omega
  have e2 : (q.den : Int).natAbs.log2 < 1920 := by omega
  simp only [rD, D.shk, shks, e1, e2]
  rfl
theorem repr_rD {q : Rat} (h : Sz 1900 q) (μ : Mu) : blt1 .repr (rD q) μ = .ok (.fr (shT (rD q))) μ := repr_ok rfl (rD_eqk q 60 (by decide)) (rD_shk h) (by simp [rD, D.nodes, nodess])
theorem repr_int {i : Int} (h : i.natAbs < 2 ^ 1900) (μ : Mu) : blt1 .repr (.int i) μ = .ok (.fr (shT (.int i))) μ := by
  refine repr_ok rfl rfl ?_ (by simp [D.nodes])
  have h1 := log2_lt (i := i) h (by decide)
  have e1 : i.natAbs.log2 < 1920 := by omega
  simp only [D.shk, e1]
  rfl
theorem mem_set_or {α : Type} {xs : List α} {i : Nat} {a x : α} (h : x ∈ xs.set i a) : x = a ∨ x ∈ xs := by
  rcases List.mem_or_eq_of_mem_set h with h | h
  · exact .inr h
  · exact .inl h
theorem rDs_set (qs : List Rat) (i : Nat) (q : Rat) : (qs.map rD).set i (rD q) = (qs.set i q).map rD := by rw [List.map_set]
theorem intsOf_map : ∀ l : List Int, intsOf (l.map D.int) = some l
  | [] => rfl
  | x :: l => by simp [intsOf, intsOf_map l]
theorem sum_ints (l : List Int) (μ : Mu) : blt1 .sum (.lst (l.map D.int)) μ = .ok (.fr (.int l.sum)) μ := by simp [blt1, D.seq, intsOf_map]
end Sx
set_option maxHeartbeats 200000
/-! # shares and trials, as the laws draw them -/
namespace Sx
open PySem (Str)
/-- shares that come to one -/
def Shares (qs : List Rat) : Prop := ∃ (ps : List Nat) (W : Nat), 0 < W ∧ W ≤ 800 ∧ ps.sum = W ∧ qs = ps.map fun p => Rat.divInt (p : Nat) (W : Nat)
theorem le_sum : ∀ {ps : List Nat} {p : Nat}, p ∈ ps → p ≤ ps.sum
  | p :: ps, q, h => by
    rw [List.sum_cons]
    rcases List.mem_cons.mp h with rfl | h
    · omega
    · have := le_sum h; omega
theorem Shares.sz {qs : List Rat} (h : Shares qs) : ∀ q ∈ qs, Sz 10 q := by
  obtain ⟨ps, W, h1, h2, h3, rfl⟩ := h
  intro q hq
  obtain ⟨p, hp, rfl⟩ := List.mem_map.mp hq
  have := le_sum hp
  have e : (2 : Nat) ^ 10 = 1024 := by decide
  exact Sz.divInt (by omega) (by rw [e]; simp only [Int.natAbs_natCast]; omega) (by rw [e]; simp only [Int.natAbs_natCast]; omega)
theorem divInt_nn {p W : Nat} : 0 ≤ Rat.divInt (p : Nat) (W : Nat) := by
  rw [← Rat.num_nonneg, Rat.num_divInt]
  refine Int.ediv_nonneg ?_ (by omega)
  refine Int.mul_nonneg ?_ (by omega)
  rcases Nat.eq_zero_or_pos W with rfl | h
  · decide
  · rw [Int.sign_eq_one_of_pos (by omega)]; decide
theorem Shares.nn {qs : List Rat} (h : Shares qs) : ∀ q ∈ qs, 0 ≤ q := by
  obtain ⟨ps, W, h1, h2, h3, rfl⟩ := h
  intro q hq
  obtain ⟨p, hp, rfl⟩ := List.mem_map.mp hq
  exact divInt_nn
theorem rsum_divInt (W : Nat) (hW : 0 < W) : ∀ ps : List Nat, rsum (ps.map fun p => Rat.divInt (p : Nat) (W : Nat)) = Rat.divInt (ps.sum : Nat) (W : Nat)
  | [] => by simp [rsum_nil]
  | p :: ps => by
    rw [List.map_cons, rsum_cons, rsum_divInt W hW ps, List.sum_cons]
    simp only [Rat.divInt_eq_div, Rat.intCast_natCast, Rat.natCast_add]
    grind
theorem Shares.sum {qs : List Rat} (h : Shares qs) : rsum qs = 1 := by
  obtain ⟨ps, W, h1, h2, h3, rfl⟩ := h
  rw [rsum_divInt W h1, h3, Rat.divInt_eq_div]
  have : (((W : Nat) : Int) : Rat) ≠ 0 := by
    rw [Rat.intCast_natCast]
    intro z
    have z' : W = 0 := by exact_mod_cast z
    omega
  grind
theorem cut_lst (xs : List D) (a b : Option Int) (μ : Mu) : cut (.lst xs) a b μ = .ok (.own (cutL xs a b)) μ := rfl
theorem cutL_from {α : Type} (xs : List α) (n : Nat) (h : n ≤ xs.length) : cutL xs (some (n : Int)) none = xs.drop n := by
  have e : sIx xs.length 0 (some (n : Int)) = n := by
    simp only [sIx]
    rw [if_neg (by omega)]
    simp; omega
  unfold cutL
  rw [e]
  show ((xs.drop n).take (xs.length - n)) = _
  exact List.take_of_length_le (by simp)
theorem cutL_to {α : Type} (xs : List α) (n : Nat) : cutL xs none (some (n : Int)) = xs.take n := by
  have e : sIx xs.length xs.length (some (n : Int)) = min n xs.length := by
    simp only [sIx]
    rw [if_neg (by omega)]
    simp
  unfold cutL
  rw [e]
  show ((xs.drop 0).take (min n xs.length - 0)) = _
  rw [List.drop_zero, Nat.sub_zero, List.take_eq_take_min.symm]
theorem range1 (n : Nat) (h : n ≤ 16777216) (μ : Mu) : kR1 (.fr (.int (n : Nat))) μ = .ok (.fr (.lst (intsFrom 0 n))) μ := by
  rw [kR1_i (by omega) (by omega)]; simp
/-- one of a written row of numbers -/
theorem pick3 {a b c : Nat} {v : Nat} (h : (v : Int) < 3) : ∃ n : Nat, [D.int (a : Nat), .int (b : Nat), .int (c : Nat)][v]? = some (.int (n : Nat)) ∧ (n = a ∨ n = b ∨ n = c) := by
  have : v = 0 ∨ v = 1 ∨ v = 2 := by omega
  rcases this with rfl | rfl | rfl
  · exact ⟨a, rfl, .inl rfl⟩
  · exact ⟨b, rfl, .inr (.inl rfl)⟩
  · exact ⟨c, rfl, .inr (.inr rfl)⟩
theorem pick4 {a b c d : Nat} {v : Nat} (h : (v : Int) < 4) : ∃ n : Nat, [D.int (a : Nat), .int (b : Nat), .int (c : Nat), .int (d : Nat)][v]? = some (.int (n : Nat)) ∧ (n = a ∨ n = b ∨ n = c ∨ n = d) := by
  have : v = 0 ∨ v = 1 ∨ v = 2 ∨ v = 3 := by omega
  rcases this with rfl | rfl | rfl | rfl
  · exact ⟨a, rfl, .inl rfl⟩
  · exact ⟨b, rfl, .inr (.inl rfl)⟩
  · exact ⟨c, rfl, .inr (.inr (.inl rfl))⟩
  · exact ⟨d, rfl, .inr (.inr (.inr rfl))⟩
def intL (ps : List Nat) : List D := ps.map fun p => D.int (p : Nat)
theorem sum_nats (ps : List Nat) (μ : Mu) : blt1 .sum (.lst (intL ps)) μ = .ok (.fr (.int (ps.sum : Nat))) μ := by
  have e : intsOf (intL ps) = some (ps.map fun p => ((p : Nat) : Int)) := by
    unfold intL
    induction ps with
    | nil => rfl
    | cons p ps ih => simp [intsOf, ih]
  have e2 : (ps.map fun p => ((p : Nat) : Int)).sum = ((ps.sum : Nat) : Int) := by
    clear e
    induction ps with
    | nil => rfl
    | cons p ps ih => rw [List.map_cons, List.sum_cons, List.sum_cons, ih]; omega
  simp [blt1, D.seq, e, e2]
theorem sum_le_of {M : Nat} : ∀ {ps : List Nat}, (∀ p ∈ ps, p ≤ M) → ps.sum ≤ ps.length * M
  | [], _ => by simp
  | p :: ps, h => by
    have h1 := h p List.mem_cons_self
    have h2 := sum_le_of (ps := ps) fun x hx => h x (List.mem_cons_of_mem _ hx)
    rw [List.sum_cons, List.length_cons, Nat.succ_mul]
    omega
theorem s_shares (k c : Nat) {n many : Nat} {μ : Mu} (hf : Fd (n + 16) c μ) (hm : 1 ≤ many) (hm4 : many ≤ 4) : ∃ qs μ', cl (k + 2) 26 [.cell c, .int (many : Nat)] μ = .ok (.fr (.tup (qs.map rD))) μ' ∧ Fd n c μ' ∧ Nx c μ μ' ∧ Shares qs ∧ qs.length = many := by
  obtain ⟨v, μ1, e1, f1, x1, h1⟩ := s_drawI k c 3 (n := n + 15) hf (by decide) (by decide)
  unfold cl at e1
  obtain ⟨most, em, hmost⟩ : ∃ m : Nat, [D.int 6, .int 6, .int 200][v]? = some (.int (m : Nat)) ∧ 0 < m ∧ m ≤ 200 := by
    obtain ⟨m, e, h⟩ := pick3 (a := 6) (b := 6) (c := 200) h1
    exact ⟨m, e, by omega, by omega⟩
  rw [cl, call_eq r26 rfl, g26]
  -- the first row of parts
  obtain ⟨ys, μ2, e2, ps, rfl, hl, hf2, hx2⟩ := compR_inv (f := cT (callD reg (k + 1)) (.op .mul (.call 5 (.cons (.var 0) (.cons (.var 2) .nil))) (.call 5 (.cons (.var 0) (.cons (.cst (.int 4)) .nil)))) (.nm 3) .nil [3] [some (.fr (.cell c)), some (.fr (.int (many : Nat))), some (.fr (.int (most : Nat))), none, none, none])
    (xs := intsFrom 0 many) (fun j ys μ => ∃ ps : List Nat, ys = intL ps ∧ ps.length = j ∧ Fd (n + 7 + 2 * (4 - j)) c μ ∧ Nx c μ1 μ) (μ := μ1) ⟨[], rfl, rfl, f1.mono (by omega), .refl⟩ (by
    rintro j x ys μ hx ⟨ps, rfl, hl, f, x⟩
    obtain ⟨hj, rfl⟩ := ints_at hx
    obtain ⟨a, μa, ea, fa, xa, ha⟩ := s_drawI k c (most : Nat) (n := n + 7 + 2 * (4 - (j + 1)) + 1) (μ := μ) (f.mono (by omega)) (by omega) (by
      have : (200 : Nat) < 2 ^ 250 := by decide
      simp only [Int.natAbs_natCast]; omega)
    obtain ⟨b, μb, eb, fb, xb, hb⟩ := s_drawI k c 4 (n := n + 7 + 2 * (4 - (j + 1))) (μ := μa) fa (by decide) (by decide)
    unfold cl at ea eb
    have m1 : mulOk (a : Nat) (b : Nat) = true := mulOk_of 10 10 (by
      have : (2 : Nat) ^ 10 = 1024 := by decide
      rw [this]; simp only [Int.natAbs_natCast]; omega) (by
      have : (2 : Nat) ^ 10 = 1024 := by decide
      rw [this]; simp only [Int.natAbs_natCast]; omega) (by decide) (by decide) (by decide)
    refine ⟨some (.int ((a * b : Nat) : Int)), μb, ?_, ps ++ [a * b], by simp [intL], by simp [hl], fb, x.trans (xa.trans xb)⟩
    simp only [bnd_rb, rb_ok, rb_exc, sb_ok, seq_nx, seq_rt, seq_ex, fin_nx, fin_rt, fin_ex, E_var, E_cst, E_glo, E_dic0, E_tup, E_lst, E_cel, E_op, E_cmp, E_chn, E_not, E_neg, E_con, E_dis, E_ife, E_idx, E_slc, E_call, E_blt, E_isi, E_rng1, E_rng2, E_comp, V_nil, V_cons, A_nil, A_cons, O_nil, O_cons, vr_fr, vo_fr, vo_own, vv_some, kD_fr, kD_own, kBl_ap, kOwn_ap, eo_var, eo_cst, eo_glo, eo_op, eo_idx, eo_slc, eo_call, eo_blt, eo_tup, eo_lst, eo_neg, eo_nt, eo_cmp, eo_con, eo_dis, eo_isi, eo_ife, eo_comp, kOp_ap, kCmp_ap, kCm2_ap, kCh1_ap, kCh2_ap, kCh3_t, kCh3_f, asR_bl, kNot_bl, kNeg_int, kA_bl, kA2_t, kA2_f, kO_bl, kO2_t, kO2_f, kA2_nil, kO2_nil, kIf_bl, kIf2_t, kIf2_f, kIdx_ap, kSl_ap, kSl2_ap, kSl3_ap, oi_mis, kI_int, oi_var, oi_cst, oi_op, oi_neg, oi_idx, oi_blt, oi_call, kR2_int, kComp_ap, kV_ap, kV2_fr, kV2_own, itemsOf_tup, itemsOf_lst, itemsOf_own, itemsOf_cell, itC_lst, itemsOf_wk, E_zip, E_enum, E_revd, E_newc, eo_newc, kZ1_ap, zipD_tt, zipD_ll, enumD_t, enumD_l, revD_t, revD_l, newC_own, kComp_apH, kFor_apH, S_asg, S_asT, S_par, S_exp, S_retv, S_ite, S_whl, S_for, S_setv, S_setc, S_mut, S_pas, B_nil, B_cons, kPar_ap, kExp_ap, kRet_ap, kIte_bl, kIte2_t, kIte2_f, kFor_ap, kSv_ap, kSv2_int, kSc_ap, kSc2_ap, kSc3_cell, kMut_ap, op_add, op_sub, eq_int, ne_int, eq_str, ne_str, ne_shT_self, eq_shT_self, lt_int, le_int, gt_int, ge_int, getIt_0, len_tup, len_lst, abs_int, int_bl, int_int, list_cel, liC_lst, len_cel, lnC_lst, list_tup, list_lst, tuple_lst, tuple_tup, forR_nil, forR_cons, forS_nx, forS_rt, nxP_nx, kAsg_ok, kPar2_ok, kTup_ok, kLst_ok, kCel_ok, S_ret, ne_eq, reduceCtorEq, not_false_eq_true, implies_true, RV.d, frz_nil, frz_cons, frzO_some, frzO_none, List.getElem?_cons_zero, List.getElem?_cons_succ, List.getElem?_nil, List.set_cons_zero, List.set_cons_succ, List.length_cons, List.length_nil, mask_nil, mask_none, mask_some, wipe_nil, wipe_cons, decide_true, decide_false, Bool.not_true, Bool.not_false, Nat.zero_add, Nat.reduceAdd, Nat.reduceLT, Nat.reduceLeDiff, Nat.lt_add_one, List.nil_append, List.cons_append, Nat.reduceSub, List.map_cons, List.map_nil, List.replicate_succ, rep_zero, start_eq, gX_some, getT, getL, getC, gC_lst, Int.reduceToNat, Int.reduceLE, Int.reduceLT, Int.reduceNeg, setO_ap, sO_some, setC_ap, sC_some, kAsT_ap, asT_some, bindT_nm, bindT_tup, bindTs_cons, bO_some, bindTs_nil, turnF_ap, tFo_some, cT_ap, cTo_some, cT2_t, cT2_f, cT3_fr, cT3_own, and_self, and_true, true_and, Int.zero_add, ixN_ge, Int.natCast_nonneg, Int.toNat_natCast, Int.cast_ofNat_Int, isin_ty, List.any_cons, List.any_nil, isTy, Bool.true_and, Bool.false_and, Bool.and_true, Bool.and_false, Bool.or_false, Bool.false_or, Bool.or_true, Bool.true_or, Int.reduceEq, ea, eb, op_mul m1]
    rw [Int.natCast_mul])
  rw [ints_len] at hl hf2
  -- the second row
  have q : ∀ (m : Int), m ≠ 0 → ∀ i μ, op2 .mod (.int i) (.int m) μ = .ok (.fr (.int (i.fmod m))) μ := fun m h i μ => op_mod h
  have e3 : compR (cT (callD reg (k + 1)) (.op .mod (.var 5) (.op .add (.var 2) (.cst (.int 1)))) (.nm 5) .nil [5] [some (.fr (.cell c)), some (.fr (.int (many : Nat))), some (.fr (.int (most : Nat))), none, some (.fr (.lst (intL ps))), none]) (intL ps) μ2 = .ok (intL (ps.map fun p => p % (most + 1))) μ2 := by
    rw [compR_map (g := fun x => match x with | .int a => some (.int (a.fmod ((most : Int) + 1))) | _ => none)]
    · unfold intL
      rw [List.filterMap_map, List.map_map, ← List.filterMap_eq_map]
      congr 2
      funext p
      simp only [Function.comp_apply]
      rw [Int.fmod_eq_emod_of_nonneg _ (by omega)]
      rfl
    · intro x hx
      obtain ⟨p, hp, rfl⟩ := List.mem_map.mp hx
      simp only [bnd_rb, rb_ok, rb_exc, sb_ok, seq_nx, seq_rt, seq_ex, fin_nx, fin_rt, fin_ex, E_var, E_cst, E_glo, E_dic0, E_tup, E_lst, E_cel, E_op, E_cmp, E_chn, E_not, E_neg, E_con, E_dis, E_ife, E_idx, E_slc, E_call, E_blt, E_isi, E_rng1, E_rng2, E_comp, V_nil, V_cons, A_nil, A_cons, O_nil, O_cons, vr_fr, vo_fr, vo_own, vv_some, kD_fr, kD_own, kBl_ap, kOwn_ap, eo_var, eo_cst, eo_glo, eo_op, eo_idx, eo_slc, eo_call, eo_blt, eo_tup, eo_lst, eo_neg, eo_nt, eo_cmp, eo_con, eo_dis, eo_isi, eo_ife, eo_comp, kOp_ap, kCmp_ap, kCm2_ap, kCh1_ap, kCh2_ap, kCh3_t, kCh3_f, asR_bl, kNot_bl, kNeg_int, kA_bl, kA2_t, kA2_f, kO_bl, kO2_t, kO2_f, kA2_nil, kO2_nil, kIf_bl, kIf2_t, kIf2_f, kIdx_ap, kSl_ap, kSl2_ap, kSl3_ap, oi_mis, kI_int, oi_var, oi_cst, oi_op, oi_neg, oi_idx, oi_blt, oi_call, kR2_int, kComp_ap, kV_ap, kV2_fr, kV2_own, itemsOf_tup, itemsOf_lst, itemsOf_own, itemsOf_cell, itC_lst, itemsOf_wk, E_zip, E_enum, E_revd, E_newc, eo_newc, kZ1_ap, zipD_tt, zipD_ll, enumD_t, enumD_l, revD_t, revD_l, newC_own, kComp_apH, kFor_apH, S_asg, S_asT, S_par, S_exp, S_retv, S_ite, S_whl, S_for, S_setv, S_setc, S_mut, S_pas, B_nil, B_cons, kPar_ap, kExp_ap, kRet_ap, kIte_bl, kIte2_t, kIte2_f, kFor_ap, kSv_ap, kSv2_int, kSc_ap, kSc2_ap, kSc3_cell, kMut_ap, op_add, op_sub, eq_int, ne_int, eq_str, ne_str, ne_shT_self, eq_shT_self, lt_int, le_int, gt_int, ge_int, getIt_0, len_tup, len_lst, abs_int, int_bl, int_int, list_cel, liC_lst, len_cel, lnC_lst, list_tup, list_lst, tuple_lst, tuple_tup, forR_nil, forR_cons, forS_nx, forS_rt, nxP_nx, kAsg_ok, kPar2_ok, kTup_ok, kLst_ok, kCel_ok, S_ret, ne_eq, reduceCtorEq, not_false_eq_true, implies_true, RV.d, frz_nil, frz_cons, frzO_some, frzO_none, List.getElem?_cons_zero, List.getElem?_cons_succ, List.getElem?_nil, List.set_cons_zero, List.set_cons_succ, List.length_cons, List.length_nil, mask_nil, mask_none, mask_some, wipe_nil, wipe_cons, decide_true, decide_false, Bool.not_true, Bool.not_false, Nat.zero_add, Nat.reduceAdd, Nat.reduceLT, Nat.reduceLeDiff, Nat.lt_add_one, List.nil_append, List.cons_append, Nat.reduceSub, List.map_cons, List.map_nil, List.replicate_succ, rep_zero, start_eq, gX_some, getT, getL, getC, gC_lst, Int.reduceToNat, Int.reduceLE, Int.reduceLT, Int.reduceNeg, setO_ap, sO_some, setC_ap, sC_some, kAsT_ap, asT_some, bindT_nm, bindT_tup, bindTs_cons, bO_some, bindTs_nil, turnF_ap, tFo_some, cT_ap, cTo_some, cT2_t, cT2_f, cT3_fr, cT3_own, and_self, and_true, true_and, Int.zero_add, ixN_ge, Int.natCast_nonneg, Int.toNat_natCast, Int.cast_ofNat_Int, isin_ty, List.any_cons, List.any_nil, isTy, Bool.true_and, Bool.false_and, Bool.and_true, Bool.and_false, Bool.or_false, Bool.false_or, Bool.or_true, Bool.true_or, Int.reduceEq, q _ (show (most : Int) + 1 ≠ 0 by omega)]
  obtain ⟨b, μ3, e4, f3, x3, h3⟩ := s_drawI k c (most : Nat) (n := n + 6) (μ := μ2) (hf2.mono (by omega)) (by omega) (by
      have : (200 : Nat) < 2 ^ 250 := by decide
      simp only [Int.natAbs_natCast]; omega)
  obtain ⟨a, μ4, e5, f4, x4, h4⟩ := s_drawI k c (many : Nat) (n := n + 5) (μ := μ3) (f3.mono (by omega)) (by omega) (by
      have : (4 : Nat) < 2 ^ 250 := by decide
      simp only [Int.natAbs_natCast]; omega)
  unfold cl at e4 e5
  have hpl : (ps.map fun p => p % (most + 1)).length = many := by rw [List.length_map, hl]
  generalize hps : (ps.map fun p => p % (most + 1)) = ps2 at *
  have hp2 : ∀ p ∈ ps2, p ≤ most := by
    intro p hp
    rw [← hps] at hp
    obtain ⟨p', _, rfl⟩ := List.mem_map.mp hp
    have := Nat.mod_lt p' (show 0 < most + 1 by omega)
    omega
  have hix : ixN (intL ps2).length (a : Int) = some a := by
    have : (intL ps2).length = many := by simp [intL, hpl]
    rw [ixN_ge (by omega) (by simp; omega)]; simp
  have hset : (intL ps2).set a (.int (1 + (b : Int))) = intL (ps2.set a (1 + b)) := by
    unfold intL
    rw [List.map_set]
    congr 1
  have hp3 : ∀ p ∈ ps2.set a (1 + b), p ≤ most := fun p hp => by
    rcases List.mem_or_eq_of_mem_set hp with h | h
    · exact hp2 p h
    · omega
  have hal : a < ps2.length := by omega
  have hW0 : 0 < (ps2.set a (1 + b)).sum := by
    have : 1 + b ∈ ps2.set a (1 + b) := List.mem_iff_getElem.mpr ⟨a, by simpa using hal, by simp⟩
    have := le_sum this
    omega
  have hW : (ps2.set a (1 + b)).sum ≤ 800 := by
    have := sum_le_of hp3
    rw [List.length_set, hpl] at this
    have : many * most ≤ 4 * 200 := Nat.mul_le_mul hm4 hmost.2
    omega
  generalize hps3 : ps2.set a (1 + b) = ps3 at *
  have e6 : compR (cT (callD reg (k + 1)) (.call 16 (.cons (.var 5) (.cons (.blt .sum (.var 4)) .nil))) (.nm 5) .nil [5] [some (.fr (.cell c)), some (.fr (.int (many : Nat))), some (.fr (.int (most : Nat))), none, some (.fr (.lst (intL ps3))), none]) (intL ps3) μ4 = .ok ((ps3.map fun p => Rat.divInt (p : Nat) (ps3.sum : Nat)).map rD) μ4 := by
    rw [compR_map (g := fun x => match x with | .int a => some (rD (Rat.divInt a (ps3.sum : Nat))) | _ => none)]
    · unfold intL
      rw [List.filterMap_map, List.map_map, ← List.filterMap_eq_map]
      rfl
    · intro x hx
      obtain ⟨p, hp, rfl⟩ := List.mem_map.mp hx
      have e := s_low k (n := (p : Nat)) (d := (ps3.sum : Nat)) (by omega) (by
        have : (800 : Nat) < 2 ^ 9000 := Nat.lt_of_lt_of_le (by decide : (800 : Nat) < 2 ^ 10) (Nat.pow_le_pow_right (by decide) (by decide))
        simp only [Int.natAbs_natCast]; omega) μ4
      unfold cl at e
      simp only [bnd_rb, rb_ok, rb_exc, sb_ok, seq_nx, seq_rt, seq_ex, fin_nx, fin_rt, fin_ex, E_var, E_cst, E_glo, E_dic0, E_tup, E_lst, E_cel, E_op, E_cmp, E_chn, E_not, E_neg, E_con, E_dis, E_ife, E_idx, E_slc, E_call, E_blt, E_isi, E_rng1, E_rng2, E_comp, V_nil, V_cons, A_nil, A_cons, O_nil, O_cons, vr_fr, vo_fr, vo_own, vv_some, kD_fr, kD_own, kBl_ap, kOwn_ap, eo_var, eo_cst, eo_glo, eo_op, eo_idx, eo_slc, eo_call, eo_blt, eo_tup, eo_lst, eo_neg, eo_nt, eo_cmp, eo_con, eo_dis, eo_isi, eo_ife, eo_comp, kOp_ap, kCmp_ap, kCm2_ap, kCh1_ap, kCh2_ap, kCh3_t, kCh3_f, asR_bl, kNot_bl, kNeg_int, kA_bl, kA2_t, kA2_f, kO_bl, kO2_t, kO2_f, kA2_nil, kO2_nil, kIf_bl, kIf2_t, kIf2_f, kIdx_ap, kSl_ap, kSl2_ap, kSl3_ap, oi_mis, kI_int, oi_var, oi_cst, oi_op, oi_neg, oi_idx, oi_blt, oi_call, kR2_int, kComp_ap, kV_ap, kV2_fr, kV2_own, itemsOf_tup, itemsOf_lst, itemsOf_own, itemsOf_cell, itC_lst, itemsOf_wk, E_zip, E_enum, E_revd, E_newc, eo_newc, kZ1_ap, zipD_tt, zipD_ll, enumD_t, enumD_l, revD_t, revD_l, newC_own, kComp_apH, kFor_apH, S_asg, S_asT, S_par, S_exp, S_retv, S_ite, S_whl, S_for, S_setv, S_setc, S_mut, S_pas, B_nil, B_cons, kPar_ap, kExp_ap, kRet_ap, kIte_bl, kIte2_t, kIte2_f, kFor_ap, kSv_ap, kSv2_int, kSc_ap, kSc2_ap, kSc3_cell, kMut_ap, op_add, op_sub, eq_int, ne_int, eq_str, ne_str, ne_shT_self, eq_shT_self, lt_int, le_int, gt_int, ge_int, getIt_0, len_tup, len_lst, abs_int, int_bl, int_int, list_cel, liC_lst, len_cel, lnC_lst, list_tup, list_lst, tuple_lst, tuple_tup, forR_nil, forR_cons, forS_nx, forS_rt, nxP_nx, kAsg_ok, kPar2_ok, kTup_ok, kLst_ok, kCel_ok, S_ret, ne_eq, reduceCtorEq, not_false_eq_true, implies_true, RV.d, frz_nil, frz_cons, frzO_some, frzO_none, List.getElem?_cons_zero, List.getElem?_cons_succ, List.getElem?_nil, List.set_cons_zero, List.set_cons_succ, List.length_cons, List.length_nil, mask_nil, mask_none, mask_some, wipe_nil, wipe_cons, decide_true, decide_false, Bool.not_true, Bool.not_false, Nat.zero_add, Nat.reduceAdd, Nat.reduceLT, Nat.reduceLeDiff, Nat.lt_add_one, List.nil_append, List.cons_append, Nat.reduceSub, List.map_cons, List.map_nil, List.replicate_succ, rep_zero, start_eq, gX_some, getT, getL, getC, gC_lst, Int.reduceToNat, Int.reduceLE, Int.reduceLT, Int.reduceNeg, setO_ap, sO_some, setC_ap, sC_some, kAsT_ap, asT_some, bindT_nm, bindT_tup, bindTs_cons, bO_some, bindTs_nil, turnF_ap, tFo_some, cT_ap, cTo_some, cT2_t, cT2_f, cT3_fr, cT3_own, and_self, and_true, true_and, Int.zero_add, ixN_ge, Int.natCast_nonneg, Int.toNat_natCast, Int.cast_ofNat_Int, isin_ty, List.any_cons, List.any_nil, isTy, Bool.true_and, Bool.false_and, Bool.and_true, Bool.and_false, Bool.or_false, Bool.false_or, Bool.or_true, Bool.true_or, Int.reduceEq, sum_nats, e]
  refine ⟨ps3.map fun p => Rat.divInt (p : Nat) (ps3.sum : Nat), μ4, ?_, f4.mono (by omega), x1.trans (hx2.trans (x3.trans x4)), ⟨ps3, ps3.sum, hW0, hW, rfl, rfl⟩, by rw [List.length_map, ← hps3, List.length_set, hpl]⟩
  simp only [bnd_rb, rb_ok, rb_exc, sb_ok, seq_nx, seq_rt, seq_ex, fin_nx, fin_rt, fin_ex, E_var, E_cst, E_glo, E_dic0, E_tup, E_lst, E_cel, E_op, E_cmp, E_chn, E_not, E_neg, E_con, E_dis, E_ife, E_idx, E_slc, E_call, E_blt, E_isi, E_rng1, E_rng2, E_comp, V_nil, V_cons, A_nil, A_cons, O_nil, O_cons, vr_fr, vo_fr, vo_own, vv_some, kD_fr, kD_own, kBl_ap, kOwn_ap, eo_var, eo_cst, eo_glo, eo_op, eo_idx, eo_slc, eo_call, eo_blt, eo_tup, eo_lst, eo_neg, eo_nt, eo_cmp, eo_con, eo_dis, eo_isi, eo_ife, eo_comp, kOp_ap, kCmp_ap, kCm2_ap, kCh1_ap, kCh2_ap, kCh3_t, kCh3_f, asR_bl, kNot_bl, kNeg_int, kA_bl, kA2_t, kA2_f, kO_bl, kO2_t, kO2_f, kA2_nil, kO2_nil, kIf_bl, kIf2_t, kIf2_f, kIdx_ap, kSl_ap, kSl2_ap, kSl3_ap, oi_mis, kI_int, oi_var, oi_cst, oi_op, oi_neg, oi_idx, oi_blt, oi_call, kR2_int, kComp_ap, kV_ap, kV2_fr, kV2_own, itemsOf_tup, itemsOf_lst, itemsOf_own, itemsOf_cell, itC_lst, itemsOf_wk, E_zip, E_enum, E_revd, E_newc, eo_newc, kZ1_ap, zipD_tt, zipD_ll, enumD_t, enumD_l, revD_t, revD_l, newC_own, kComp_apH, kFor_apH, S_asg, S_asT, S_par, S_exp, S_retv, S_ite, S_whl, S_for, S_setv, S_setc, S_mut, S_pas, B_nil, B_cons, kPar_ap, kExp_ap, kRet_ap, kIte_bl, kIte2_t, kIte2_f, kFor_ap, kSv_ap, kSv2_int, kSc_ap, kSc2_ap, kSc3_cell, kMut_ap, op_add, op_sub, eq_int, ne_int, eq_str, ne_str, ne_shT_self, eq_shT_self, lt_int, le_int, gt_int, ge_int, getIt_0, len_tup, len_lst, abs_int, int_bl, int_int, list_cel, liC_lst, len_cel, lnC_lst, list_tup, list_lst, tuple_lst, tuple_tup, forR_nil, forR_cons, forS_nx, forS_rt, nxP_nx, kAsg_ok, kPar2_ok, kTup_ok, kLst_ok, kCel_ok, S_ret, ne_eq, reduceCtorEq, not_false_eq_true, implies_true, RV.d, frz_nil, frz_cons, frzO_some, frzO_none, List.getElem?_cons_zero, List.getElem?_cons_succ, List.getElem?_nil, List.set_cons_zero, List.set_cons_succ, List.length_cons, List.length_nil, mask_nil, mask_none, mask_some, wipe_nil, wipe_cons, decide_true, decide_false, Bool.not_true, Bool.not_false, Nat.zero_add, Nat.reduceAdd, Nat.reduceLT, Nat.reduceLeDiff, Nat.lt_add_one, List.nil_append, List.cons_append, Nat.reduceSub, List.map_cons, List.map_nil, List.replicate_succ, rep_zero, start_eq, gX_some, getT, getL, getC, gC_lst, Int.reduceToNat, Int.reduceLE, Int.reduceLT, Int.reduceNeg, setO_ap, sO_some, setC_ap, sC_some, kAsT_ap, asT_some, bindT_nm, bindT_tup, bindTs_cons, bO_some, bindTs_nil, turnF_ap, tFo_some, cT_ap, cTo_some, cT2_t, cT2_f, cT3_fr, cT3_own, and_self, and_true, true_and, Int.zero_add, ixN_ge, Int.natCast_nonneg, Int.toNat_natCast, Int.cast_ofNat_Int, isin_ty, List.any_cons, List.any_nil, isTy, Bool.true_and, Bool.false_and, Bool.and_true, Bool.and_false, Bool.or_false, Bool.false_or, Bool.or_true, Bool.true_or, Int.reduceEq, e1, Int.natCast_nonneg, Int.toNat_natCast, em, range1 many (by omega), e2, e3, e4, e5, hix, hset, e6]
/-! ## trials -/
def pool : List Str := ["a", "ab", "ways", "onto", "abc", "sayer", "ruler", "b", "prices", "worthy", "nones", "zzzzzzzz"]
structure Tri where
  faces : List Str
  ways : List (Str × List Rat)
def wD (w : Str × List Rat) : D := .tup [.str w.1, .tup (w.2.map rD)]
def Tri.D (t : Tri) : D := .tup [.tup (t.faces.map D.str), .tup (t.ways.map wD)]
structure TriOk (t : Tri) : Prop where
  f2 : 2 ≤ t.faces.length
  f4 : t.faces.length ≤ 4
  w2 : 2 ≤ t.ways.length
  w4 : t.ways.length ≤ 4
  fn : t.faces.Nodup
  fp : ∀ x ∈ t.faces, x ∈ pool
  wn : (t.ways.map (·.1)).Nodup
  wp : ∀ w ∈ t.ways, w.1 ∈ pool
  sh : ∀ w ∈ t.ways, Shares w.2 ∧ w.2.length = t.faces.length
theorem pool_nodup : pool.Nodup := by decide +kernel
theorem s_trial (k c : Nat) {n : Nat} {μ : Mu} (hf : Fd (n + 68) c μ) : ∃ t μ', cl (k + 3) 27 [.cell c] μ = .ok (.fr t.D) μ' ∧ Fd n c μ' ∧ Nx c μ μ' ∧ TriOk t := by
  obtain ⟨v, μ1, e1, f1, x1, h1⟩ := s_drawI (k + 1) c 12 (n := n + 67) hf (by decide) (by decide)
  obtain ⟨a, μ2, e2, f2, x2, h2⟩ := s_drawI (k + 1) c 4 (n := n + 66) f1 (by decide) (by decide)
  obtain ⟨b, μ3, e3, f3, x3, h3⟩ := s_drawI (k + 1) c 3 (n := n + 65) f2 (by decide) (by decide)
  obtain ⟨d, μ4, e4, f4, x4, h4⟩ := s_drawI (k + 1) c 4 (n := n + 64) f3 (by decide) (by decide)
  unfold cl at e1 e2 e3 e4
  obtain ⟨nf, enf, hnf⟩ : ∃ m : Nat, [D.int 2, .int 2, .int 3, .int 4][a]? = some (.int (m : Nat)) ∧ 2 ≤ m ∧ m ≤ 4 := by
    obtain ⟨m, e, h⟩ := pick4 (a := 2) (b := 2) (c := 3) (d := 4) h2
    exact ⟨m, e, by omega, by omega⟩
  obtain ⟨st, est, hst⟩ : ∃ m : Nat, [D.int 0, .int 2, .int 5][b]? = some (.int (m : Nat)) ∧ m ≤ 5 := by
    obtain ⟨m, e, h⟩ := pick3 (a := 0) (b := 2) (c := 5) h3
    exact ⟨m, e, by omega⟩
  obtain ⟨nw, enw, hnw⟩ : ∃ m : Nat, [D.int 2, .int 2, .int 3, .int 4][d]? = some (.int (m : Nat)) ∧ 2 ≤ m ∧ m ≤ 4 := by
    obtain ⟨m, e, h⟩ := pick4 (a := 2) (b := 2) (c := 3) (d := 4) h4
    exact ⟨m, e, by omega, by omega⟩
  have hpl : (pool.map D.str).length = 12 := rfl
  have hv : v < 12 := by omega
  -- the names turned
  have c1 : cutL (pool.map D.str) (some (v : Int)) none = (pool.drop v).map D.str := by rw [cutL_from _ _ (by rw [hpl]; omega), List.map_drop]
  have c2 : cutL (pool.map D.str) none (some (v : Int)) = (pool.take v).map D.str := by rw [cutL_to, List.map_take]
  have hadd : ∀ μ, op2 .add (.lst ((pool.drop v).map D.str)) (.lst ((pool.take v).map D.str)) μ = .ok (.own ((pool.drop v ++ pool.take v).map D.str)) μ := fun μ => by
    rw [op_addL, List.map_append]
    simp [pool]
    omega
  have perm : (pool.drop v ++ pool.take v).Perm pool := by
    have := List.perm_append_comm (l₁ := pool.drop v) (l₂ := pool.take v)
    rwa [List.take_append_drop] at this
  have plen : (pool.drop v ++ pool.take v).length = 12 := perm.length_eq
  have pnd : (pool.drop v ++ pool.take v).Nodup := perm.nodup_iff.mpr pool_nodup
  have pmem : ∀ x ∈ pool.drop v ++ pool.take v, x ∈ pool := fun x hx => perm.mem_iff.mp hx
  generalize pool.drop v ++ pool.take v = pl at *
  have c3 : cutL (pl.map D.str) none (some (nf : Int)) = (pl.take nf).map D.str := by rw [cutL_to, List.map_take]
  have c4 : cutL (pl.map D.str) (some (st : Int)) none = (pl.drop st).map D.str := by rw [cutL_from _ _ (by simp; omega), List.map_drop]
  have c5 : cutL ((pl.drop st).map D.str) none (some (nw : Int)) = ((pl.drop st).take nw).map D.str := by rw [cutL_to, List.map_take]
  have lf : (pl.take nf).length = nf := by simp; omega
  have lw : ((pl.drop st).take nw).length = nw := by simp; omega
  have fnd : (pl.take nf).Nodup := pnd.sublist (List.take_sublist _ _)
  have wnd : ((pl.drop st).take nw).Nodup := pnd.sublist ((List.take_sublist _ _).trans (List.drop_sublist _ _))
  have fmem : ∀ x ∈ pl.take nf, x ∈ pool := fun x hx => pmem x (List.mem_of_mem_take hx)
  have wmem : ∀ x ∈ (pl.drop st).take nw, x ∈ pool := fun x hx => pmem x (List.mem_of_mem_drop (List.mem_of_mem_take hx))
  generalize pl.take nf = fs at *
  generalize (pl.drop st).take nw = wsn at *
  obtain ⟨ys, μ5, e5, ws, rfl, hws, hl5, f5, x5, sh5⟩ := compR_inv (f := cT (callD reg (k + 2)) (.tup (.cons (.var 5) (.cons (.call 26 (.cons (.var 0) (.cons (.blt .len (.var 3)) .nil))) .nil))) (.nm 5) .nil [5] [some (.fr (.cell c)), some (.own (pl.map D.str)), some (.fr (.int (v : Nat))), some (.own (fs.map D.str)), some (.fr (.lst (wsn.map D.str))), none])
    (xs := wsn.map D.str) (fun j ys μ => ∃ ws : List (Str × List Rat), ys = ws.map wD ∧ ws.map (·.1) = wsn.take j ∧ ws.length = j ∧ Fd (n + 16 * (4 - j)) c μ ∧ Nx c μ4 μ ∧ ∀ w ∈ ws, Shares w.2 ∧ w.2.length = fs.length) (μ := μ4) ⟨[], rfl, by simp, rfl, f4.mono (by omega), .refl, by simp⟩ (by
    rintro j x ys μ hx ⟨ws, rfl, hws, hl, f, x, sh⟩
    rw [List.getElem?_map] at hx
    obtain ⟨nm, hnm, rfl⟩ := Option.map_eq_some_iff.mp hx
    have hj := (List.getElem?_eq_some_iff.mp hnm).1
    obtain ⟨qs, μ', e, f', x', s', l'⟩ := s_shares k c (n := n + 16 * (4 - (j + 1))) (many := nf) (μ := μ) (f.mono (by omega)) (by omega) (by omega)
    unfold cl at e
    have hlen : ((fs.map D.str).length : Int) = (nf : Nat) := by simp [lf]
    refine ⟨some (wD (nm, qs)), μ', ?_, ws ++ [(nm, qs)], by simp, ?_, by simp [hl], f', x.trans x', fun w hw => ?_⟩
    · simp only [bnd_rb, rb_ok, rb_exc, sb_ok, seq_nx, seq_rt, seq_ex, fin_nx, fin_rt, fin_ex, E_var, E_cst, E_glo, E_dic0, E_tup, E_lst, E_cel, E_op, E_cmp, E_chn, E_not, E_neg, E_con, E_dis, E_ife, E_idx, E_slc, E_call, E_blt, E_isi, E_rng1, E_rng2, E_comp, V_nil, V_cons, A_nil, A_cons, O_nil, O_cons, vr_fr, vo_fr, vo_own, vv_some, kD_fr, kD_own, kBl_ap, kOwn_ap, eo_var, eo_cst, eo_glo, eo_op, eo_idx, eo_slc, eo_call, eo_blt, eo_tup, eo_lst, eo_neg, eo_nt, eo_cmp, eo_con, eo_dis, eo_isi, eo_ife, eo_comp, kOp_ap, kCmp_ap, kCm2_ap, kCh1_ap, kCh2_ap, kCh3_t, kCh3_f, asR_bl, kNot_bl, kNeg_int, kA_bl, kA2_t, kA2_f, kO_bl, kO2_t, kO2_f, kA2_nil, kO2_nil, kIf_bl, kIf2_t, kIf2_f, kIdx_ap, kSl_ap, kSl2_ap, kSl3_ap, oi_mis, kI_int, oi_var, oi_cst, oi_op, oi_neg, oi_idx, oi_blt, oi_call, kR2_int, kComp_ap, kV_ap, kV2_fr, kV2_own, itemsOf_tup, itemsOf_lst, itemsOf_own, itemsOf_cell, itC_lst, itemsOf_wk, E_zip, E_enum, E_revd, E_newc, eo_newc, kZ1_ap, zipD_tt, zipD_ll, enumD_t, enumD_l, revD_t, revD_l, newC_own, kComp_apH, kFor_apH, S_asg, S_asT, S_par, S_exp, S_retv, S_ite, S_whl, S_for, S_setv, S_setc, S_mut, S_pas, B_nil, B_cons, kPar_ap, kExp_ap, kRet_ap, kIte_bl, kIte2_t, kIte2_f, kFor_ap, kSv_ap, kSv2_int, kSc_ap, kSc2_ap, kSc3_cell, kMut_ap, op_add, op_sub, eq_int, ne_int, eq_str, ne_str, ne_shT_self, eq_shT_self, lt_int, le_int, gt_int, ge_int, getIt_0, len_tup, len_lst, abs_int, int_bl, int_int, list_cel, liC_lst, len_cel, lnC_lst, list_tup, list_lst, tuple_lst, tuple_tup, forR_nil, forR_cons, forS_nx, forS_rt, nxP_nx, kAsg_ok, kPar2_ok, kTup_ok, kLst_ok, kCel_ok, S_ret, ne_eq, reduceCtorEq, not_false_eq_true, implies_true, RV.d, frz_nil, frz_cons, frzO_some, frzO_none, List.getElem?_cons_zero, List.getElem?_cons_succ, List.getElem?_nil, List.set_cons_zero, List.set_cons_succ, List.length_cons, List.length_nil, mask_nil, mask_none, mask_some, wipe_nil, wipe_cons, decide_true, decide_false, Bool.not_true, Bool.not_false, Nat.zero_add, Nat.reduceAdd, Nat.reduceLT, Nat.reduceLeDiff, Nat.lt_add_one, List.nil_append, List.cons_append, Nat.reduceSub, List.map_cons, List.map_nil, List.replicate_succ, rep_zero, start_eq, gX_some, getT, getL, getC, gC_lst, Int.reduceToNat, Int.reduceLE, Int.reduceLT, Int.reduceNeg, setO_ap, sO_some, setC_ap, sC_some, kAsT_ap, asT_some, bindT_nm, bindT_tup, bindTs_cons, bO_some, bindTs_nil, turnF_ap, tFo_some, cT_ap, cTo_some, cT2_t, cT2_f, cT3_fr, cT3_own, and_self, and_true, true_and, Int.zero_add, ixN_ge, Int.natCast_nonneg, Int.toNat_natCast, Int.cast_ofNat_Int, isin_ty, List.any_cons, List.any_nil, isTy, Bool.true_and, Bool.false_and, Bool.and_true, Bool.and_false, Bool.or_false, Bool.false_or, Bool.or_true, Bool.true_or, Int.reduceEq, hlen, e]
      rfl
    · rw [List.map_append, hws, take_succ_map hnm]; rfl
    · rcases List.mem_append.mp hw with h | h
      · exact sh w h
      · rw [List.mem_singleton.mp h]
        exact ⟨s', by rw [l', lf]⟩)
  rw [List.length_map] at hws hl5 f5
  rw [List.take_of_length_le (Nat.le_refl _)] at hws
  rw [cl, call_eq r27 rfl, g27]
  have hpool : [D.str "a", .str "ab", .str "ways", .str "onto", .str "abc", .str "sayer", .str "ruler", .str "b", .str "prices", .str "worthy", .str "nones", .str "zzzzzzzz"] = pool.map D.str := rfl
  have hk : ∀ μ, kLst (pool.map D.str) μ = .ok (.own (pool.map D.str)) μ := fun μ => rfl
  refine ⟨⟨fs, ws⟩, μ5, ?_, f5.mono (by omega), x1.trans (x2.trans (x3.trans (x4.trans x5))), ⟨by show 2 ≤ fs.length; omega, by show fs.length ≤ 4; omega, by show 2 ≤ ws.length; omega, by show ws.length ≤ 4; omega, fnd, fmem, by show (ws.map (·.1)).Nodup; rw [hws]; exact wnd, fun w hw => ?_, sh5⟩⟩
  · simp only [bnd_rb, rb_ok, rb_exc, sb_ok, seq_nx, seq_rt, seq_ex, fin_nx, fin_rt, fin_ex, E_var, E_cst, E_glo, E_dic0, E_tup, E_lst, E_cel, E_op, E_cmp, E_chn, E_not, E_neg, E_con, E_dis, E_ife, E_idx, E_slc, E_call, E_blt, E_isi, E_rng1, E_rng2, E_comp, V_nil, V_cons, A_nil, A_cons, O_nil, O_cons, vr_fr, vo_fr, vo_own, vv_some, kD_fr, kD_own, kBl_ap, kOwn_ap, eo_var, eo_cst, eo_glo, eo_op, eo_idx, eo_slc, eo_call, eo_blt, eo_tup, eo_lst, eo_neg, eo_nt, eo_cmp, eo_con, eo_dis, eo_isi, eo_ife, eo_comp, kOp_ap, kCmp_ap, kCm2_ap, kCh1_ap, kCh2_ap, kCh3_t, kCh3_f, asR_bl, kNot_bl, kNeg_int, kA_bl, kA2_t, kA2_f, kO_bl, kO2_t, kO2_f, kA2_nil, kO2_nil, kIf_bl, kIf2_t, kIf2_f, kIdx_ap, kSl_ap, kSl2_ap, kSl3_ap, oi_mis, kI_int, oi_var, oi_cst, oi_op, oi_neg, oi_idx, oi_blt, oi_call, kR2_int, kComp_ap, kV_ap, kV2_fr, kV2_own, itemsOf_tup, itemsOf_lst, itemsOf_own, itemsOf_cell, itC_lst, itemsOf_wk, E_zip, E_enum, E_revd, E_newc, eo_newc, kZ1_ap, zipD_tt, zipD_ll, enumD_t, enumD_l, revD_t, revD_l, newC_own, kComp_apH, kFor_apH, S_asg, S_asT, S_par, S_exp, S_retv, S_ite, S_whl, S_for, S_setv, S_setc, S_mut, S_pas, B_nil, B_cons, kPar_ap, kExp_ap, kRet_ap, kIte_bl, kIte2_t, kIte2_f, kFor_ap, kSv_ap, kSv2_int, kSc_ap, kSc2_ap, kSc3_cell, kMut_ap, op_add, op_sub, eq_int, ne_int, eq_str, ne_str, ne_shT_self, eq_shT_self, lt_int, le_int, gt_int, ge_int, getIt_0, len_tup, len_lst, abs_int, int_bl, int_int, list_cel, liC_lst, len_cel, lnC_lst, list_tup, list_lst, tuple_lst, tuple_tup, forR_nil, forR_cons, forS_nx, forS_rt, nxP_nx, kAsg_ok, kPar2_ok, kTup_ok, kLst_ok, kCel_ok, S_ret, ne_eq, reduceCtorEq, not_false_eq_true, implies_true, RV.d, frz_nil, frz_cons, frzO_some, frzO_none, List.getElem?_cons_zero, List.getElem?_cons_succ, List.getElem?_nil, List.set_cons_zero, List.set_cons_succ, List.length_cons, List.length_nil, mask_nil, mask_none, mask_some, wipe_nil, wipe_cons, decide_true, decide_false, Bool.not_true, Bool.not_false, Nat.zero_add, Nat.reduceAdd, Nat.reduceLT, Nat.reduceLeDiff, Nat.lt_add_one, List.nil_append, List.cons_append, Nat.reduceSub, List.map_cons, List.map_nil, List.replicate_succ, rep_zero, start_eq, gX_some, getT, getL, getC, gC_lst, Int.reduceToNat, Int.reduceLE, Int.reduceLT, Int.reduceNeg, setO_ap, sO_some, setC_ap, sC_some, kAsT_ap, asT_some, bindT_nm, bindT_tup, bindTs_cons, bO_some, bindTs_nil, turnF_ap, tFo_some, cT_ap, cTo_some, cT2_t, cT2_f, cT3_fr, cT3_own, and_self, and_true, true_and, Int.zero_add, ixN_ge, Int.natCast_nonneg, Int.toNat_natCast, Int.cast_ofNat_Int, isin_ty, List.any_cons, List.any_nil, isTy, Bool.true_and, Bool.false_and, Bool.and_true, Bool.and_false, Bool.or_false, Bool.false_or, Bool.or_true, Bool.true_or, Int.reduceEq, hpool, hk, e1, kI_int, cut_lst, kSl3_ap, kSl2_ap, kSl_ap, c1, c2, hadd, e2, Int.natCast_nonneg, Int.toNat_natCast, enf, c3, e3, est, c4, e4, enw, c5, e5]
    rfl
  · have : w.1 ∈ ws.map (·.1) := List.mem_map_of_mem hw
    rw [hws] at this
    exact wmem _ this
end Sx
set_option maxHeartbeats 200000
/-! # weights of counts, ways behind counts -/
namespace Sx
open PySem (Str)
theorem zip_pairs : ∀ (qs : List Rat) (cs : List Nat), List.zipWith (fun a b => D.tup [a, b]) (qs.map rD) (intL cs) = (qs.zip cs).map fun p => .tup [rD p.1, .int (p.2 : Nat)]
  | [], _ => by simp
  | _ :: _, [] => by simp [intL]
  | q :: qs, c :: cs => by
    have := zip_pairs qs cs
    unfold intL at this ⊢
    simp [this]
/-- how many looks -/
def nsum (l : List (Rat × Nat)) : Nat := (l.map (·.2)).sum
def wtl (l : List (Rat × Nat)) : Rat := l.foldl (fun a p => a * p.1 ^ p.2) 1
theorem wtl_snoc (l : List (Rat × Nat)) (p : Rat × Nat) : wtl (l ++ [p]) = wtl l * p.1 ^ p.2 := by unfold wtl; rw [List.foldl_append]; rfl
theorem nsum_snoc (l : List (Rat × Nat)) (p : Rat × Nat) : nsum (l ++ [p]) = nsum l + p.2 := by simp [nsum]
theorem nsum_cons (l : List (Rat × Nat)) (p : Rat × Nat) : nsum (p :: l) = p.2 + nsum l := by simp [nsum]
theorem Sz.pow {B C : Nat} {a q : Rat} (ha : Sz B a) (hq : Sz C q) : ∀ j : Nat, Sz (B + C * j) (a * q ^ j)
  | 0 => by rw [Rat.pow_zero, Rat.mul_one]; exact ha
  | j + 1 => by
    have h := Sz.mul (Sz.pow ha hq j) hq
    have e : a * q ^ (j + 1) = a * q ^ j * q := by rw [Rat.pow_succ]; grind
    rw [e]
    exact h.mono (by rw [Nat.mul_succ]; omega)
theorem list_snoc_ind {α : Type} {P : List α → Prop} (h0 : P []) (hs : ∀ l x, P l → P (l ++ [x])) : ∀ l, P l := fun l => by
  have : ∀ l : List α, P l.reverse := fun l => by
    induction l with
    | nil => exact h0
    | cons x l ih => rw [List.reverse_cons]; exact hs _ x ih
  have := this l.reverse
  rwa [List.reverse_reverse] at this
theorem wtl_sz : ∀ {l : List (Rat × Nat)}, (∀ p ∈ l, Sz 10 p.1) → Sz (10 * nsum l + 1) (wtl l) := fun {l} => by
  induction l using list_snoc_ind with
  | h0 => exact fun _ => Sz_one
  | hs l x ih =>
    intro h
    rw [wtl_snoc, nsum_snoc]
    have h1 := ih fun p hp => h p (List.mem_append_left _ hp)
    exact (h1.pow (h x (List.mem_append_right _ (List.mem_singleton.mpr rfl))) x.2).mono (by omega)
theorem wtl_nn : ∀ {l : List (Rat × Nat)}, (∀ p ∈ l, 0 ≤ p.1) → 0 ≤ wtl l := fun {l} => by
  induction l using list_snoc_ind with
  | h0 => exact fun _ => by show (0 : Rat) ≤ 1; decide
  | hs l x ih =>
    intro h
    rw [wtl_snoc]
    exact Rat.mul_nonneg (ih fun p hp => h p (List.mem_append_left _ hp)) (Rat.pow_nonneg (h x (List.mem_append_right _ (List.mem_singleton.mpr rfl))))
theorem nsum_take_le (l : List (Rat × Nat)) (i : Nat) : nsum (l.take i) ≤ nsum l := by
  have : nsum l = nsum (l.take i) + nsum (l.drop i) := by
    unfold nsum
    rw [← List.sum_append_nat, ← List.map_append, List.take_append_drop]
  omega
theorem nsum_step {l : List (Rat × Nat)} {i : Nat} {p : Rat × Nat} (h : l[i]? = some p) : nsum (l.take i) + p.2 ≤ nsum l := by
  rw [← nsum_snoc, ← take_succ_map h]
  exact nsum_take_le l (i + 1)
/-- the way's shares beside the counts -/
def Tri.row (t : Tri) (w : Nat) (cs : List Nat) : List (Rat × Nat) := ((t.ways.getD w ("", [])).2).zip cs
theorem way_get {t : Tri} {w : Nat} (hw : w < t.ways.length) : (t.ways.map wD)[w]? = some (wD (t.ways.getD w ("", []))) := by
  rw [List.getElem?_map, List.getElem?_eq_getElem hw]
  simp [hw]
theorem way_mem {t : Tri} {w : Nat} (hw : w < t.ways.length) : t.ways.getD w ("", []) ∈ t.ways := by
  have : t.ways.getD w ("", []) = t.ways[w] := by simp [hw]
  rw [this]; exact List.getElem_mem hw
theorem row_mem {t : Tri} {w : Nat} {cs : List Nat} {p : Rat × Nat} (h : p ∈ t.row w cs) : p.1 ∈ (t.ways.getD w ("", [])).2 := (List.of_mem_zip h).1
theorem row_sz {t : Tri} (ok : TriOk t) {w : Nat} (hw : w < t.ways.length) {cs : List Nat} : ∀ p ∈ t.row w cs, Sz 10 p.1 := fun p hp => (ok.sh _ (way_mem hw)).1.sz _ (row_mem hp)
theorem row_nn {t : Tri} (ok : TriOk t) {w : Nat} (hw : w < t.ways.length) {cs : List Nat} : ∀ p ∈ t.row w cs, 0 ≤ p.1 := fun p hp => (ok.sh _ (way_mem hw)).1.nn _ (row_mem hp)
theorem row_len {t : Tri} (ok : TriOk t) {w : Nat} (hw : w < t.ways.length) {cs : List Nat} : (t.row w cs).length ≤ 4 := by
  unfold Tri.row
  rw [List.length_zip]
  have := (ok.sh _ (way_mem hw)).2
  have := ok.f4
  omega
theorem s_weight (k : Nat) {μ : Mu} {t : Tri} (ok : TriOk t) {w : Nat} (hw : w < t.ways.length) {cs : List Nat} (hn : nsum (t.row w cs) ≤ 800) : cl (k + 4) 24 [t.D, .int (w : Nat), .tup (intL cs)] μ = .ok (.fr (rD (wtl (t.row w cs)))) μ := by
  have gw := way_get hw
  have hz : ((t.ways.getD w ("", [])).2.map rD).length ≤ 16777216 := by
    rw [List.length_map, (ok.sh _ (way_mem hw)).2]
    have := ok.f4
    omega
  rw [cl, call_eq r24 rfl, g24]
  have hwD : ∀ x : Str × List Rat, wD x = .tup [.str x.1, .tup (x.2.map rD)] := fun _ => rfl
  simp only [bnd_rb, rb_ok, rb_exc, sb_ok, seq_nx, seq_rt, seq_ex, fin_nx, fin_rt, fin_ex, E_var, E_cst, E_glo, E_dic0, E_tup, E_lst, E_cel, E_op, E_cmp, E_chn, E_not, E_neg, E_con, E_dis, E_ife, E_idx, E_slc, E_call, E_blt, E_isi, E_rng1, E_rng2, E_comp, V_nil, V_cons, A_nil, A_cons, O_nil, O_cons, vr_fr, vo_fr, vo_own, vv_some, kD_fr, kD_own, kBl_ap, kOwn_ap, eo_var, eo_cst, eo_glo, eo_op, eo_idx, eo_slc, eo_call, eo_blt, eo_tup, eo_lst, eo_neg, eo_nt, eo_cmp, eo_con, eo_dis, eo_isi, eo_ife, eo_comp, kOp_ap, kCmp_ap, kCm2_ap, kCh1_ap, kCh2_ap, kCh3_t, kCh3_f, asR_bl, kNot_bl, kNeg_int, kA_bl, kA2_t, kA2_f, kO_bl, kO2_t, kO2_f, kA2_nil, kO2_nil, kIf_bl, kIf2_t, kIf2_f, kIdx_ap, kSl_ap, kSl2_ap, kSl3_ap, oi_mis, kI_int, oi_var, oi_cst, oi_op, oi_neg, oi_idx, oi_blt, oi_call, kR2_int, kComp_ap, kV_ap, kV2_fr, kV2_own, itemsOf_tup, itemsOf_lst, itemsOf_own, itemsOf_cell, itC_lst, itemsOf_wk, E_zip, E_enum, E_revd, E_newc, eo_newc, kZ1_ap, zipD_tt, zipD_ll, enumD_t, enumD_l, revD_t, revD_l, newC_own, kComp_apH, kFor_apH, S_asg, S_asT, S_par, S_exp, S_retv, S_ite, S_whl, S_for, S_setv, S_setc, S_mut, S_pas, B_nil, B_cons, kPar_ap, kExp_ap, kRet_ap, kIte_bl, kIte2_t, kIte2_f, kFor_ap, kSv_ap, kSv2_int, kSc_ap, kSc2_ap, kSc3_cell, kMut_ap, op_add, op_sub, eq_int, ne_int, eq_str, ne_str, ne_shT_self, eq_shT_self, lt_int, le_int, gt_int, ge_int, getIt_0, len_tup, len_lst, abs_int, int_bl, int_int, list_cel, liC_lst, len_cel, lnC_lst, list_tup, list_lst, tuple_lst, tuple_tup, forR_nil, forR_cons, forS_nx, forS_rt, nxP_nx, kAsg_ok, kPar2_ok, kTup_ok, kLst_ok, kCel_ok, S_ret, ne_eq, reduceCtorEq, not_false_eq_true, implies_true, RV.d, frz_nil, frz_cons, frzO_some, frzO_none, List.getElem?_cons_zero, List.getElem?_cons_succ, List.getElem?_nil, List.set_cons_zero, List.set_cons_succ, List.length_cons, List.length_nil, mask_nil, mask_none, mask_some, wipe_nil, wipe_cons, decide_true, decide_false, Bool.not_true, Bool.not_false, Nat.zero_add, Nat.reduceAdd, Nat.reduceLT, Nat.reduceLeDiff, Nat.lt_add_one, List.nil_append, List.cons_append, Nat.reduceSub, List.map_cons, List.map_nil, List.replicate_succ, rep_zero, start_eq, gX_some, getT, getL, getC, gC_lst, Int.reduceToNat, Int.reduceLE, Int.reduceLT, Int.reduceNeg, setO_ap, sO_some, setC_ap, sC_some, kAsT_ap, asT_some, bindT_nm, bindT_tup, bindTs_cons, bO_some, bindTs_nil, turnF_ap, tFo_some, cT_ap, cTo_some, cT2_t, cT2_f, cT3_fr, cT3_own, and_self, and_true, true_and, Int.zero_add, ixN_ge, Int.natCast_nonneg, Int.toNat_natCast, Int.cast_ofNat_Int, isin_ty, List.any_cons, List.any_nil, isTy, Bool.true_and, Bool.false_and, Bool.and_true, Bool.and_false, Bool.or_false, Bool.false_or, Bool.or_true, Bool.true_or, Int.reduceEq, rD1, Tri.D, Int.natCast_nonneg, Int.toNat_natCast, gw, hwD, hz, zip_pairs]
  have hrow : (t.ways.getD w ("", [])).2.zip cs = t.row w cs := rfl
  simp only [hrow]
  refine forR_use (P := fun r => fin (seq r _) = .ok _ μ) (fun i ρ μ' => μ' = μ ∧ ρ = [some (.fr (.tup [.tup (t.faces.map D.str), .tup (t.ways.map wD)])), some (.fr (.int (w : Nat))), some (.fr (.tup (intL cs))), some (.fr (rD (wtl ((t.row w cs).take i)))), none, none, none]) ⟨rfl, rfl⟩ ?_ ?_
  · rintro i x ρ μ' hx ⟨e1, rfl⟩
    rw [e1]
    rw [List.getElem?_map] at hx
    obtain ⟨p, hp, rfl⟩ := Option.map_eq_some_iff.mp hx
    have hpm := List.mem_of_getElem? hp
    have hst := nsum_step hp
    have sp := row_sz ok hw p hpm
    have sw := wtl_sz (l := (t.row w cs).take i) fun p hp => row_sz ok hw p (List.mem_of_mem_take hp)
    simp only [bnd_rb, rb_ok, rb_exc, sb_ok, seq_nx, seq_rt, seq_ex, fin_nx, fin_rt, fin_ex, E_var, E_cst, E_glo, E_dic0, E_tup, E_lst, E_cel, E_op, E_cmp, E_chn, E_not, E_neg, E_con, E_dis, E_ife, E_idx, E_slc, E_call, E_blt, E_isi, E_rng1, E_rng2, E_comp, V_nil, V_cons, A_nil, A_cons, O_nil, O_cons, vr_fr, vo_fr, vo_own, vv_some, kD_fr, kD_own, kBl_ap, kOwn_ap, eo_var, eo_cst, eo_glo, eo_op, eo_idx, eo_slc, eo_call, eo_blt, eo_tup, eo_lst, eo_neg, eo_nt, eo_cmp, eo_con, eo_dis, eo_isi, eo_ife, eo_comp, kOp_ap, kCmp_ap, kCm2_ap, kCh1_ap, kCh2_ap, kCh3_t, kCh3_f, asR_bl, kNot_bl, kNeg_int, kA_bl, kA2_t, kA2_f, kO_bl, kO2_t, kO2_f, kA2_nil, kO2_nil, kIf_bl, kIf2_t, kIf2_f, kIdx_ap, kSl_ap, kSl2_ap, kSl3_ap, oi_mis, kI_int, oi_var, oi_cst, oi_op, oi_neg, oi_idx, oi_blt, oi_call, kR2_int, kComp_ap, kV_ap, kV2_fr, kV2_own, itemsOf_tup, itemsOf_lst, itemsOf_own, itemsOf_cell, itC_lst, itemsOf_wk, E_zip, E_enum, E_revd, E_newc, eo_newc, kZ1_ap, zipD_tt, zipD_ll, enumD_t, enumD_l, revD_t, revD_l, newC_own, kComp_apH, kFor_apH, S_asg, S_asT, S_par, S_exp, S_retv, S_ite, S_whl, S_for, S_setv, S_setc, S_mut, S_pas, B_nil, B_cons, kPar_ap, kExp_ap, kRet_ap, kIte_bl, kIte2_t, kIte2_f, kFor_ap, kSv_ap, kSv2_int, kSc_ap, kSc2_ap, kSc3_cell, kMut_ap, op_add, op_sub, eq_int, ne_int, eq_str, ne_str, ne_shT_self, eq_shT_self, lt_int, le_int, gt_int, ge_int, getIt_0, len_tup, len_lst, abs_int, int_bl, int_int, list_cel, liC_lst, len_cel, lnC_lst, list_tup, list_lst, tuple_lst, tuple_tup, forR_nil, forR_cons, forS_nx, forS_rt, nxP_nx, kAsg_ok, kPar2_ok, kTup_ok, kLst_ok, kCel_ok, S_ret, ne_eq, reduceCtorEq, not_false_eq_true, implies_true, RV.d, frz_nil, frz_cons, frzO_some, frzO_none, List.getElem?_cons_zero, List.getElem?_cons_succ, List.getElem?_nil, List.set_cons_zero, List.set_cons_succ, List.length_cons, List.length_nil, mask_nil, mask_none, mask_some, wipe_nil, wipe_cons, decide_true, decide_false, Bool.not_true, Bool.not_false, Nat.zero_add, Nat.reduceAdd, Nat.reduceLT, Nat.reduceLeDiff, Nat.lt_add_one, List.nil_append, List.cons_append, Nat.reduceSub, List.map_cons, List.map_nil, List.replicate_succ, rep_zero, start_eq, gX_some, getT, getL, getC, gC_lst, Int.reduceToNat, Int.reduceLE, Int.reduceLT, Int.reduceNeg, setO_ap, sO_some, setC_ap, sC_some, kAsT_ap, asT_some, bindT_nm, bindT_tup, bindTs_cons, bO_some, bindTs_nil, turnF_ap, tFo_some, cT_ap, cTo_some, cT2_t, cT2_f, cT3_fr, cT3_own, and_self, and_true, true_and, Int.zero_add, ixN_ge, Int.natCast_nonneg, Int.toNat_natCast, Int.cast_ofNat_Int, isin_ty, List.any_cons, List.any_nil, isTy, Bool.true_and, Bool.false_and, Bool.and_true, Bool.and_false, Bool.or_false, Bool.false_or, Bool.or_true, Bool.true_or, Int.reduceEq, range1 p.2 (by omega)]
    refine forR_use (P := fun r => nxP (seq r _) _) (fun j ρ μ' => μ' = μ ∧ ρ = [some (.fr (.tup [.tup (t.faces.map D.str), .tup (t.ways.map wD)])), some (.fr (.int (w : Nat))), some (.fr (.tup (intL cs))), some (.fr (rD (wtl ((t.row w cs).take i) * p.1 ^ j))), some (.fr (rD p.1)), some (.fr (.int (p.2 : Nat))), none]) ⟨rfl, by rw [Rat.pow_zero, Rat.mul_one]⟩ ?_ ?_
    · rintro j x ρ μ' hx ⟨e1, rfl⟩
      rw [e1]
      obtain ⟨hj, rfl⟩ := ints_at hx
      have e := s_times k (sw.pow sp j) sp (by omega) μ
      have e2 : wtl ((t.row w cs).take i) * p.1 ^ j * p.1 = wtl ((t.row w cs).take i) * p.1 ^ (j + 1) := by rw [Rat.pow_succ]; grind
      rw [e2] at e
      unfold cl at e
      simp only [bnd_rb, rb_ok, rb_exc, sb_ok, seq_nx, seq_rt, seq_ex, fin_nx, fin_rt, fin_ex, E_var, E_cst, E_glo, E_dic0, E_tup, E_lst, E_cel, E_op, E_cmp, E_chn, E_not, E_neg, E_con, E_dis, E_ife, E_idx, E_slc, E_call, E_blt, E_isi, E_rng1, E_rng2, E_comp, V_nil, V_cons, A_nil, A_cons, O_nil, O_cons, vr_fr, vo_fr, vo_own, vv_some, kD_fr, kD_own, kBl_ap, kOwn_ap, eo_var, eo_cst, eo_glo, eo_op, eo_idx, eo_slc, eo_call, eo_blt, eo_tup, eo_lst, eo_neg, eo_nt, eo_cmp, eo_con, eo_dis, eo_isi, eo_ife, eo_comp, kOp_ap, kCmp_ap, kCm2_ap, kCh1_ap, kCh2_ap, kCh3_t, kCh3_f, asR_bl, kNot_bl, kNeg_int, kA_bl, kA2_t, kA2_f, kO_bl, kO2_t, kO2_f, kA2_nil, kO2_nil, kIf_bl, kIf2_t, kIf2_f, kIdx_ap, kSl_ap, kSl2_ap, kSl3_ap, oi_mis, kI_int, oi_var, oi_cst, oi_op, oi_neg, oi_idx, oi_blt, oi_call, kR2_int, kComp_ap, kV_ap, kV2_fr, kV2_own, itemsOf_tup, itemsOf_lst, itemsOf_own, itemsOf_cell, itC_lst, itemsOf_wk, E_zip, E_enum, E_revd, E_newc, eo_newc, kZ1_ap, zipD_tt, zipD_ll, enumD_t, enumD_l, revD_t, revD_l, newC_own, kComp_apH, kFor_apH, S_asg, S_asT, S_par, S_exp, S_retv, S_ite, S_whl, S_for, S_setv, S_setc, S_mut, S_pas, B_nil, B_cons, kPar_ap, kExp_ap, kRet_ap, kIte_bl, kIte2_t, kIte2_f, kFor_ap, kSv_ap, kSv2_int, kSc_ap, kSc2_ap, kSc3_cell, kMut_ap, op_add, op_sub, eq_int, ne_int, eq_str, ne_str, ne_shT_self, eq_shT_self, lt_int, le_int, gt_int, ge_int, getIt_0, len_tup, len_lst, abs_int, int_bl, int_int, list_cel, liC_lst, len_cel, lnC_lst, list_tup, list_lst, tuple_lst, tuple_tup, forR_nil, forR_cons, forS_nx, forS_rt, nxP_nx, kAsg_ok, kPar2_ok, kTup_ok, kLst_ok, kCel_ok, S_ret, ne_eq, reduceCtorEq, not_false_eq_true, implies_true, RV.d, frz_nil, frz_cons, frzO_some, frzO_none, List.getElem?_cons_zero, List.getElem?_cons_succ, List.getElem?_nil, List.set_cons_zero, List.set_cons_succ, List.length_cons, List.length_nil, mask_nil, mask_none, mask_some, wipe_nil, wipe_cons, decide_true, decide_false, Bool.not_true, Bool.not_false, Nat.zero_add, Nat.reduceAdd, Nat.reduceLT, Nat.reduceLeDiff, Nat.lt_add_one, List.nil_append, List.cons_append, Nat.reduceSub, List.map_cons, List.map_nil, List.replicate_succ, rep_zero, start_eq, gX_some, getT, getL, getC, gC_lst, Int.reduceToNat, Int.reduceLE, Int.reduceLT, Int.reduceNeg, setO_ap, sO_some, setC_ap, sC_some, kAsT_ap, asT_some, bindT_nm, bindT_tup, bindTs_cons, bO_some, bindTs_nil, turnF_ap, tFo_some, cT_ap, cTo_some, cT2_t, cT2_f, cT3_fr, cT3_own, and_self, and_true, true_and, Int.zero_add, ixN_ge, Int.natCast_nonneg, Int.toNat_natCast, Int.cast_ofNat_Int, isin_ty, List.any_cons, List.any_nil, isTy, Bool.true_and, Bool.false_and, Bool.and_true, Bool.and_false, Bool.or_false, Bool.false_or, Bool.or_true, Bool.true_or, Int.reduceEq, e]
    · rintro ρ μ' ⟨e1, rfl⟩
      rw [e1, ints_len]
      simp only [bnd_rb, rb_ok, rb_exc, sb_ok, seq_nx, seq_rt, seq_ex, fin_nx, fin_rt, fin_ex, E_var, E_cst, E_glo, E_dic0, E_tup, E_lst, E_cel, E_op, E_cmp, E_chn, E_not, E_neg, E_con, E_dis, E_ife, E_idx, E_slc, E_call, E_blt, E_isi, E_rng1, E_rng2, E_comp, V_nil, V_cons, A_nil, A_cons, O_nil, O_cons, vr_fr, vo_fr, vo_own, vv_some, kD_fr, kD_own, kBl_ap, kOwn_ap, eo_var, eo_cst, eo_glo, eo_op, eo_idx, eo_slc, eo_call, eo_blt, eo_tup, eo_lst, eo_neg, eo_nt, eo_cmp, eo_con, eo_dis, eo_isi, eo_ife, eo_comp, kOp_ap, kCmp_ap, kCm2_ap, kCh1_ap, kCh2_ap, kCh3_t, kCh3_f, asR_bl, kNot_bl, kNeg_int, kA_bl, kA2_t, kA2_f, kO_bl, kO2_t, kO2_f, kA2_nil, kO2_nil, kIf_bl, kIf2_t, kIf2_f, kIdx_ap, kSl_ap, kSl2_ap, kSl3_ap, oi_mis, kI_int, oi_var, oi_cst, oi_op, oi_neg, oi_idx, oi_blt, oi_call, kR2_int, kComp_ap, kV_ap, kV2_fr, kV2_own, itemsOf_tup, itemsOf_lst, itemsOf_own, itemsOf_cell, itC_lst, itemsOf_wk, E_zip, E_enum, E_revd, E_newc, eo_newc, kZ1_ap, zipD_tt, zipD_ll, enumD_t, enumD_l, revD_t, revD_l, newC_own, kComp_apH, kFor_apH, S_asg, S_asT, S_par, S_exp, S_retv, S_ite, S_whl, S_for, S_setv, S_setc, S_mut, S_pas, B_nil, B_cons, kPar_ap, kExp_ap, kRet_ap, kIte_bl, kIte2_t, kIte2_f, kFor_ap, kSv_ap, kSv2_int, kSc_ap, kSc2_ap, kSc3_cell, kMut_ap, op_add, op_sub, eq_int, ne_int, eq_str, ne_str, ne_shT_self, eq_shT_self, lt_int, le_int, gt_int, ge_int, getIt_0, len_tup, len_lst, abs_int, int_bl, int_int, list_cel, liC_lst, len_cel, lnC_lst, list_tup, list_lst, tuple_lst, tuple_tup, forR_nil, forR_cons, forS_nx, forS_rt, nxP_nx, kAsg_ok, kPar2_ok, kTup_ok, kLst_ok, kCel_ok, S_ret, ne_eq, reduceCtorEq, not_false_eq_true, implies_true, RV.d, frz_nil, frz_cons, frzO_some, frzO_none, List.getElem?_cons_zero, List.getElem?_cons_succ, List.getElem?_nil, List.set_cons_zero, List.set_cons_succ, List.length_cons, List.length_nil, mask_nil, mask_none, mask_some, wipe_nil, wipe_cons, decide_true, decide_false, Bool.not_true, Bool.not_false, Nat.zero_add, Nat.reduceAdd, Nat.reduceLT, Nat.reduceLeDiff, Nat.lt_add_one, List.nil_append, List.cons_append, Nat.reduceSub, List.map_cons, List.map_nil, List.replicate_succ, rep_zero, start_eq, gX_some, getT, getL, getC, gC_lst, Int.reduceToNat, Int.reduceLE, Int.reduceLT, Int.reduceNeg, setO_ap, sO_some, setC_ap, sC_some, kAsT_ap, asT_some, bindT_nm, bindT_tup, bindTs_cons, bO_some, bindTs_nil, turnF_ap, tFo_some, cT_ap, cTo_some, cT2_t, cT2_f, cT3_fr, cT3_own, and_self, and_true, true_and, Int.zero_add, ixN_ge, Int.natCast_nonneg, Int.toNat_natCast, Int.cast_ofNat_Int, isin_ty, List.any_cons, List.any_nil, isTy, Bool.true_and, Bool.false_and, Bool.and_true, Bool.and_false, Bool.or_false, Bool.false_or, Bool.or_true, Bool.true_or, Int.reduceEq]
      rw [take_succ_map hp, wtl_snoc]
  · rintro ρ μ' ⟨e1, rfl⟩
    rw [e1]
    rw [List.length_map, List.take_length]
    simp only [bnd_rb, rb_ok, rb_exc, sb_ok, seq_nx, seq_rt, seq_ex, fin_nx, fin_rt, fin_ex, E_var, E_cst, E_glo, E_dic0, E_tup, E_lst, E_cel, E_op, E_cmp, E_chn, E_not, E_neg, E_con, E_dis, E_ife, E_idx, E_slc, E_call, E_blt, E_isi, E_rng1, E_rng2, E_comp, V_nil, V_cons, A_nil, A_cons, O_nil, O_cons, vr_fr, vo_fr, vo_own, vv_some, kD_fr, kD_own, kBl_ap, kOwn_ap, eo_var, eo_cst, eo_glo, eo_op, eo_idx, eo_slc, eo_call, eo_blt, eo_tup, eo_lst, eo_neg, eo_nt, eo_cmp, eo_con, eo_dis, eo_isi, eo_ife, eo_comp, kOp_ap, kCmp_ap, kCm2_ap, kCh1_ap, kCh2_ap, kCh3_t, kCh3_f, asR_bl, kNot_bl, kNeg_int, kA_bl, kA2_t, kA2_f, kO_bl, kO2_t, kO2_f, kA2_nil, kO2_nil, kIf_bl, kIf2_t, kIf2_f, kIdx_ap, kSl_ap, kSl2_ap, kSl3_ap, oi_mis, kI_int, oi_var, oi_cst, oi_op, oi_neg, oi_idx, oi_blt, oi_call, kR2_int, kComp_ap, kV_ap, kV2_fr, kV2_own, itemsOf_tup, itemsOf_lst, itemsOf_own, itemsOf_cell, itC_lst, itemsOf_wk, E_zip, E_enum, E_revd, E_newc, eo_newc, kZ1_ap, zipD_tt, zipD_ll, enumD_t, enumD_l, revD_t, revD_l, newC_own, kComp_apH, kFor_apH, S_asg, S_asT, S_par, S_exp, S_retv, S_ite, S_whl, S_for, S_setv, S_setc, S_mut, S_pas, B_nil, B_cons, kPar_ap, kExp_ap, kRet_ap, kIte_bl, kIte2_t, kIte2_f, kFor_ap, kSv_ap, kSv2_int, kSc_ap, kSc2_ap, kSc3_cell, kMut_ap, op_add, op_sub, eq_int, ne_int, eq_str, ne_str, ne_shT_self, eq_shT_self, lt_int, le_int, gt_int, ge_int, getIt_0, len_tup, len_lst, abs_int, int_bl, int_int, list_cel, liC_lst, len_cel, lnC_lst, list_tup, list_lst, tuple_lst, tuple_tup, forR_nil, forR_cons, forS_nx, forS_rt, nxP_nx, kAsg_ok, kPar2_ok, kTup_ok, kLst_ok, kCel_ok, S_ret, ne_eq, reduceCtorEq, not_false_eq_true, implies_true, RV.d, frz_nil, frz_cons, frzO_some, frzO_none, List.getElem?_cons_zero, List.getElem?_cons_succ, List.getElem?_nil, List.set_cons_zero, List.set_cons_succ, List.length_cons, List.length_nil, mask_nil, mask_none, mask_some, wipe_nil, wipe_cons, decide_true, decide_false, Bool.not_true, Bool.not_false, Nat.zero_add, Nat.reduceAdd, Nat.reduceLT, Nat.reduceLeDiff, Nat.lt_add_one, List.nil_append, List.cons_append, Nat.reduceSub, List.map_cons, List.map_nil, List.replicate_succ, rep_zero, start_eq, gX_some, getT, getL, getC, gC_lst, Int.reduceToNat, Int.reduceLE, Int.reduceLT, Int.reduceNeg, setO_ap, sO_some, setC_ap, sC_some, kAsT_ap, asT_some, bindT_nm, bindT_tup, bindTs_cons, bO_some, bindTs_nil, turnF_ap, tFo_some, cT_ap, cTo_some, cT2_t, cT2_f, cT3_fr, cT3_own, and_self, and_true, true_and, Int.zero_add, ixN_ge, Int.natCast_nonneg, Int.toNat_natCast, Int.cast_ofNat_Int, isin_ty, List.any_cons, List.any_nil, isTy, Bool.true_and, Bool.false_and, Bool.and_true, Bool.and_false, Bool.or_false, Bool.false_or, Bool.or_true, Bool.true_or, Int.reduceEq]
/-! ## the law's own weight: not lowest -/
def wtn (l : List (Rat × Nat)) : Int := l.foldl (fun a p => a * p.1.num ^ p.2) 1
def wtd (l : List (Rat × Nat)) : Nat := l.foldl (fun a p => a * p.1.den ^ p.2) 1
theorem wtn_snoc (l : List (Rat × Nat)) (p : Rat × Nat) : wtn (l ++ [p]) = wtn l * p.1.num ^ p.2 := by unfold wtn; rw [List.foldl_append]; rfl
theorem wtd_snoc (l : List (Rat × Nat)) (p : Rat × Nat) : wtd (l ++ [p]) = wtd l * p.1.den ^ p.2 := by unfold wtd; rw [List.foldl_append]; rfl
theorem wtd_pos (l : List (Rat × Nat)) : 0 < wtd l := by
  induction l using list_snoc_ind with
  | h0 => exact Nat.one_pos
  | hs l x ih => rw [wtd_snoc]; exact Nat.mul_pos ih (Nat.pow_pos x.1.den_pos)
theorem wtn_nn {l : List (Rat × Nat)} : (∀ p ∈ l, 0 ≤ p.1) → 0 ≤ wtn l := by
  induction l using list_snoc_ind with
  | h0 => exact fun _ => by decide
  | hs l x ih =>
    intro h
    rw [wtn_snoc]
    exact Int.mul_nonneg (ih fun p hp => h p (List.mem_append_left _ hp)) (Int.pow_nonneg (Rat.num_nonneg.mpr (h x (List.mem_append_right _ (List.mem_singleton.mpr rfl)))))
theorem pow_lt2 {a B C : Nat} (x : Nat) (hx : x < 2 ^ B) (ha : a < 2 ^ C) : ∀ j : Nat, a * x ^ j < 2 ^ (C + B * j)
  | 0 => by simpa using ha
  | j + 1 => by
    have h := mul_lt_pow (pow_lt2 x hx ha j) hx
    rw [Nat.pow_succ, ← Nat.mul_assoc]
    exact Nat.lt_of_lt_of_le h (Nat.pow_le_pow_right (by decide) (by rw [Nat.mul_succ]; omega))
theorem ipow_lt2 {a x : Int} {B C : Nat} (hx : x.natAbs < 2 ^ B) (ha : a.natAbs < 2 ^ C) (j : Nat) : (a * x ^ j).natAbs < 2 ^ (C + B * j) := by
  rw [Int.natAbs_mul, Int.natAbs_pow]
  exact pow_lt2 _ hx ha j
theorem wtn_lt {l : List (Rat × Nat)} : (∀ p ∈ l, Sz 10 p.1) → (wtn l).natAbs < 2 ^ (10 * nsum l + 1) := by
  induction l using list_snoc_ind with
  | h0 => exact fun _ => by show (1 : Nat) < 2 ^ 1; decide
  | hs l x ih =>
    intro h
    rw [wtn_snoc, nsum_snoc]
    have h1 := ih fun p hp => h p (List.mem_append_left _ hp)
    exact Nat.lt_of_lt_of_le (ipow_lt2 (h x (List.mem_append_right _ (List.mem_singleton.mpr rfl))).1 h1 x.2) (Nat.pow_le_pow_right (by decide) (by omega))
theorem wtd_lt {l : List (Rat × Nat)} : (∀ p ∈ l, Sz 10 p.1) → wtd l < 2 ^ (10 * nsum l + 1) := by
  induction l using list_snoc_ind with
  | h0 => exact fun _ => by show (1 : Nat) < 2 ^ 1; decide
  | hs l x ih =>
    intro h
    rw [wtd_snoc, nsum_snoc]
    have h1 := ih fun p hp => h p (List.mem_append_left _ hp)
    exact Nat.lt_of_lt_of_le (pow_lt2 _ (h x (List.mem_append_right _ (List.mem_singleton.mpr rfl))).2 h1 x.2) (Nat.pow_le_pow_right (by decide) (by omega))
theorem den_ne0 (q : Rat) : (q.den : Rat) ≠ 0 := by
  intro z
  have := q.den_pos
  have z' : q.den = 0 := by exact_mod_cast z
  omega
theorem nat_ne0 {n : Nat} (h : 0 < n) : ((n : Nat) : Rat) ≠ 0 := by
  intro z
  have z' : n = 0 := by exact_mod_cast z
  omega
theorem rat_mul_den' (q : Rat) : q * (q.den : Rat) = (q.num : Rat) := by
  have h : ((q.num : Int) : Rat) / ((q.den : Int) : Rat) = q := by rw [← Rat.divInt_eq_div, Rat.num_divInt_den]
  rw [Rat.intCast_natCast] at h
  have := den_ne0 q
  grind
theorem pow_mul_den (q : Rat) : ∀ j : Nat, q ^ j * ((q.den ^ j : Nat) : Rat) = ((q.num ^ j : Int) : Rat)
  | 0 => by simp [Rat.pow_zero]
  | j + 1 => by
    have h := pow_mul_den q j
    have h2 := rat_mul_den' q
    rw [Nat.pow_succ, Int.pow_succ, Rat.natCast_mul, Rat.intCast_mul, Rat.pow_succ, ← h, ← h2]
    grind
/-- what the two numbers are worth -/
theorem wtl_mul (l : List (Rat × Nat)) : wtl l * (wtd l : Rat) = (wtn l : Rat) := by
  induction l using list_snoc_ind with
  | h0 => simp [wtl, wtd, wtn]
  | hs l x ih =>
    have h := pow_mul_den x.1 x.2
    rw [wtl_snoc, wtd_snoc, wtn_snoc, Rat.natCast_mul, Rat.intCast_mul, ← ih, ← h]
    grind
theorem s_lawweight (k : Nat) {μ : Mu} {t : Tri} (ok : TriOk t) {w : Nat} (hw : w < t.ways.length) {cs : List Nat} (hn : nsum (t.row w cs) ≤ 800) : cl (k + 1) 28 [t.D, .int (w : Nat), .tup (intL cs)] μ = .ok (.fr (.tup [.int (wtn (t.row w cs)), .int (wtd (t.row w cs) : Nat)])) μ := by
  have gw := way_get hw
  have hz : ((t.ways.getD w ("", [])).2.map rD).length ≤ 16777216 := by
    rw [List.length_map, (ok.sh _ (way_mem hw)).2]
    have := ok.f4
    omega
  rw [cl, call_eq r28 rfl, g28]
  have hwD : ∀ x : Str × List Rat, wD x = .tup [.str x.1, .tup (x.2.map rD)] := fun _ => rfl
  simp only [bnd_rb, rb_ok, rb_exc, sb_ok, seq_nx, seq_rt, seq_ex, fin_nx, fin_rt, fin_ex, E_var, E_cst, E_glo, E_dic0, E_tup, E_lst, E_cel, E_op, E_cmp, E_chn, E_not, E_neg, E_con, E_dis, E_ife, E_idx, E_slc, E_call, E_blt, E_isi, E_rng1, E_rng2, E_comp, V_nil, V_cons, A_nil, A_cons, O_nil, O_cons, vr_fr, vo_fr, vo_own, vv_some, kD_fr, kD_own, kBl_ap, kOwn_ap, eo_var, eo_cst, eo_glo, eo_op, eo_idx, eo_slc, eo_call, eo_blt, eo_tup, eo_lst, eo_neg, eo_nt, eo_cmp, eo_con, eo_dis, eo_isi, eo_ife, eo_comp, kOp_ap, kCmp_ap, kCm2_ap, kCh1_ap, kCh2_ap, kCh3_t, kCh3_f, asR_bl, kNot_bl, kNeg_int, kA_bl, kA2_t, kA2_f, kO_bl, kO2_t, kO2_f, kA2_nil, kO2_nil, kIf_bl, kIf2_t, kIf2_f, kIdx_ap, kSl_ap, kSl2_ap, kSl3_ap, oi_mis, kI_int, oi_var, oi_cst, oi_op, oi_neg, oi_idx, oi_blt, oi_call, kR2_int, kComp_ap, kV_ap, kV2_fr, kV2_own, itemsOf_tup, itemsOf_lst, itemsOf_own, itemsOf_cell, itC_lst, itemsOf_wk, E_zip, E_enum, E_revd, E_newc, eo_newc, kZ1_ap, zipD_tt, zipD_ll, enumD_t, enumD_l, revD_t, revD_l, newC_own, kComp_apH, kFor_apH, S_asg, S_asT, S_par, S_exp, S_retv, S_ite, S_whl, S_for, S_setv, S_setc, S_mut, S_pas, B_nil, B_cons, kPar_ap, kExp_ap, kRet_ap, kIte_bl, kIte2_t, kIte2_f, kFor_ap, kSv_ap, kSv2_int, kSc_ap, kSc2_ap, kSc3_cell, kMut_ap, op_add, op_sub, eq_int, ne_int, eq_str, ne_str, ne_shT_self, eq_shT_self, lt_int, le_int, gt_int, ge_int, getIt_0, len_tup, len_lst, abs_int, int_bl, int_int, list_cel, liC_lst, len_cel, lnC_lst, list_tup, list_lst, tuple_lst, tuple_tup, forR_nil, forR_cons, forS_nx, forS_rt, nxP_nx, kAsg_ok, kPar2_ok, kTup_ok, kLst_ok, kCel_ok, S_ret, ne_eq, reduceCtorEq, not_false_eq_true, implies_true, RV.d, frz_nil, frz_cons, frzO_some, frzO_none, List.getElem?_cons_zero, List.getElem?_cons_succ, List.getElem?_nil, List.set_cons_zero, List.set_cons_succ, List.length_cons, List.length_nil, mask_nil, mask_none, mask_some, wipe_nil, wipe_cons, decide_true, decide_false, Bool.not_true, Bool.not_false, Nat.zero_add, Nat.reduceAdd, Nat.reduceLT, Nat.reduceLeDiff, Nat.lt_add_one, List.nil_append, List.cons_append, Nat.reduceSub, List.map_cons, List.map_nil, List.replicate_succ, rep_zero, start_eq, gX_some, getT, getL, getC, gC_lst, Int.reduceToNat, Int.reduceLE, Int.reduceLT, Int.reduceNeg, setO_ap, sO_some, setC_ap, sC_some, kAsT_ap, asT_some, bindT_nm, bindT_tup, bindTs_cons, bO_some, bindTs_nil, turnF_ap, tFo_some, cT_ap, cTo_some, cT2_t, cT2_f, cT3_fr, cT3_own, and_self, and_true, true_and, Int.zero_add, ixN_ge, Int.natCast_nonneg, Int.toNat_natCast, Int.cast_ofNat_Int, isin_ty, List.any_cons, List.any_nil, isTy, Bool.true_and, Bool.false_and, Bool.and_true, Bool.and_false, Bool.or_false, Bool.false_or, Bool.or_true, Bool.true_or, Int.reduceEq, Tri.D, Int.natCast_nonneg, Int.toNat_natCast, gw, hwD, hz, zip_pairs]
  have hrow : (t.ways.getD w ("", [])).2.zip cs = t.row w cs := rfl
  simp only [hrow]
  refine forR_use (P := fun r => fin (seq r _) = .ok _ μ) (fun i ρ μ' => μ' = μ ∧ ρ = [some (.fr (.tup [.tup (t.faces.map D.str), .tup (t.ways.map wD)])), some (.fr (.int (w : Nat))), some (.fr (.tup (intL cs))), some (.fr (.int (wtn ((t.row w cs).take i)))), some (.fr (.int (wtd ((t.row w cs).take i) : Nat))), none, none, none]) ⟨rfl, rfl⟩ ?_ ?_
  · rintro i x ρ μ' hx ⟨e1, rfl⟩
    rw [e1]
    rw [List.getElem?_map] at hx
    obtain ⟨p, hp, rfl⟩ := Option.map_eq_some_iff.mp hx
    have hpm := List.mem_of_getElem? hp
    have hst := nsum_step hp
    have sp := row_sz ok hw p hpm
    have sn := wtn_lt (l := (t.row w cs).take i) fun p hp => row_sz ok hw p (List.mem_of_mem_take hp)
    have sd := wtd_lt (l := (t.row w cs).take i) fun p hp => row_sz ok hw p (List.mem_of_mem_take hp)
    simp only [bnd_rb, rb_ok, rb_exc, sb_ok, seq_nx, seq_rt, seq_ex, fin_nx, fin_rt, fin_ex, E_var, E_cst, E_glo, E_dic0, E_tup, E_lst, E_cel, E_op, E_cmp, E_chn, E_not, E_neg, E_con, E_dis, E_ife, E_idx, E_slc, E_call, E_blt, E_isi, E_rng1, E_rng2, E_comp, V_nil, V_cons, A_nil, A_cons, O_nil, O_cons, vr_fr, vo_fr, vo_own, vv_some, kD_fr, kD_own, kBl_ap, kOwn_ap, eo_var, eo_cst, eo_glo, eo_op, eo_idx, eo_slc, eo_call, eo_blt, eo_tup, eo_lst, eo_neg, eo_nt, eo_cmp, eo_con, eo_dis, eo_isi, eo_ife, eo_comp, kOp_ap, kCmp_ap, kCm2_ap, kCh1_ap, kCh2_ap, kCh3_t, kCh3_f, asR_bl, kNot_bl, kNeg_int, kA_bl, kA2_t, kA2_f, kO_bl, kO2_t, kO2_f, kA2_nil, kO2_nil, kIf_bl, kIf2_t, kIf2_f, kIdx_ap, kSl_ap, kSl2_ap, kSl3_ap, oi_mis, kI_int, oi_var, oi_cst, oi_op, oi_neg, oi_idx, oi_blt, oi_call, kR2_int, kComp_ap, kV_ap, kV2_fr, kV2_own, itemsOf_tup, itemsOf_lst, itemsOf_own, itemsOf_cell, itC_lst, itemsOf_wk, E_zip, E_enum, E_revd, E_newc, eo_newc, kZ1_ap, zipD_tt, zipD_ll, enumD_t, enumD_l, revD_t, revD_l, newC_own, kComp_apH, kFor_apH, S_asg, S_asT, S_par, S_exp, S_retv, S_ite, S_whl, S_for, S_setv, S_setc, S_mut, S_pas, B_nil, B_cons, kPar_ap, kExp_ap, kRet_ap, kIte_bl, kIte2_t, kIte2_f, kFor_ap, kSv_ap, kSv2_int, kSc_ap, kSc2_ap, kSc3_cell, kMut_ap, op_add, op_sub, eq_int, ne_int, eq_str, ne_str, ne_shT_self, eq_shT_self, lt_int, le_int, gt_int, ge_int, getIt_0, len_tup, len_lst, abs_int, int_bl, int_int, list_cel, liC_lst, len_cel, lnC_lst, list_tup, list_lst, tuple_lst, tuple_tup, forR_nil, forR_cons, forS_nx, forS_rt, nxP_nx, kAsg_ok, kPar2_ok, kTup_ok, kLst_ok, kCel_ok, S_ret, ne_eq, reduceCtorEq, not_false_eq_true, implies_true, RV.d, frz_nil, frz_cons, frzO_some, frzO_none, List.getElem?_cons_zero, List.getElem?_cons_succ, List.getElem?_nil, List.set_cons_zero, List.set_cons_succ, List.length_cons, List.length_nil, mask_nil, mask_none, mask_some, wipe_nil, wipe_cons, decide_true, decide_false, Bool.not_true, Bool.not_false, Nat.zero_add, Nat.reduceAdd, Nat.reduceLT, Nat.reduceLeDiff, Nat.lt_add_one, List.nil_append, List.cons_append, Nat.reduceSub, List.map_cons, List.map_nil, List.replicate_succ, rep_zero, start_eq, gX_some, getT, getL, getC, gC_lst, Int.reduceToNat, Int.reduceLE, Int.reduceLT, Int.reduceNeg, setO_ap, sO_some, setC_ap, sC_some, kAsT_ap, asT_some, bindT_nm, bindT_tup, bindTs_cons, bO_some, bindTs_nil, turnF_ap, tFo_some, cT_ap, cTo_some, cT2_t, cT2_f, cT3_fr, cT3_own, and_self, and_true, true_and, Int.zero_add, ixN_ge, Int.natCast_nonneg, Int.toNat_natCast, Int.cast_ofNat_Int, isin_ty, List.any_cons, List.any_nil, isTy, Bool.true_and, Bool.false_and, Bool.and_true, Bool.and_false, Bool.or_false, Bool.false_or, Bool.or_true, Bool.true_or, Int.reduceEq, range1 p.2 (by omega)]
    refine forR_use (P := fun r => nxP (seq r _) _) (fun j ρ μ' => μ' = μ ∧ ρ = [some (.fr (.tup [.tup (t.faces.map D.str), .tup (t.ways.map wD)])), some (.fr (.int (w : Nat))), some (.fr (.tup (intL cs))), some (.fr (.int (wtn ((t.row w cs).take i) * p.1.num ^ j))), some (.fr (.int (wtd ((t.row w cs).take i) * p.1.den ^ j : Nat))), some (.fr (rD p.1)), some (.fr (.int (p.2 : Nat))), none]) ⟨rfl, by simp⟩ ?_ ?_
    · rintro j x ρ μ' hx ⟨e1, rfl⟩
      rw [e1]
      obtain ⟨hj, rfl⟩ := ints_at hx
      have m1 : mulOk (wtn ((t.row w cs).take i) * p.1.num ^ j) p.1.num = true := mul_ok (ipow_lt2 sp.1 sn j) sp.1 (by omega) (by decide) (by omega)
      have m2 : mulOk (wtd ((t.row w cs).take i) * p.1.den ^ j : Nat) (p.1.den : Nat) = true := mul_ok (B := 10 * nsum ((t.row w cs).take i) + 1 + 10 * j) (C := 10) (by simp only [Int.natAbs_natCast]; exact pow_lt2 _ sp.2 sd j) (by simpa using sp.2) (by omega) (by decide) (by omega)
      simp only [bnd_rb, rb_ok, rb_exc, sb_ok, seq_nx, seq_rt, seq_ex, fin_nx, fin_rt, fin_ex, E_var, E_cst, E_glo, E_dic0, E_tup, E_lst, E_cel, E_op, E_cmp, E_chn, E_not, E_neg, E_con, E_dis, E_ife, E_idx, E_slc, E_call, E_blt, E_isi, E_rng1, E_rng2, E_comp, V_nil, V_cons, A_nil, A_cons, O_nil, O_cons, vr_fr, vo_fr, vo_own, vv_some, kD_fr, kD_own, kBl_ap, kOwn_ap, eo_var, eo_cst, eo_glo, eo_op, eo_idx, eo_slc, eo_call, eo_blt, eo_tup, eo_lst, eo_neg, eo_nt, eo_cmp, eo_con, eo_dis, eo_isi, eo_ife, eo_comp, kOp_ap, kCmp_ap, kCm2_ap, kCh1_ap, kCh2_ap, kCh3_t, kCh3_f, asR_bl, kNot_bl, kNeg_int, kA_bl, kA2_t, kA2_f, kO_bl, kO2_t, kO2_f, kA2_nil, kO2_nil, kIf_bl, kIf2_t, kIf2_f, kIdx_ap, kSl_ap, kSl2_ap, kSl3_ap, oi_mis, kI_int, oi_var, oi_cst, oi_op, oi_neg, oi_idx, oi_blt, oi_call, kR2_int, kComp_ap, kV_ap, kV2_fr, kV2_own, itemsOf_tup, itemsOf_lst, itemsOf_own, itemsOf_cell, itC_lst, itemsOf_wk, E_zip, E_enum, E_revd, E_newc, eo_newc, kZ1_ap, zipD_tt, zipD_ll, enumD_t, enumD_l, revD_t, revD_l, newC_own, kComp_apH, kFor_apH, S_asg, S_asT, S_par, S_exp, S_retv, S_ite, S_whl, S_for, S_setv, S_setc, S_mut, S_pas, B_nil, B_cons, kPar_ap, kExp_ap, kRet_ap, kIte_bl, kIte2_t, kIte2_f, kFor_ap, kSv_ap, kSv2_int, kSc_ap, kSc2_ap, kSc3_cell, kMut_ap, op_add, op_sub, eq_int, ne_int, eq_str, ne_str, ne_shT_self, eq_shT_self, lt_int, le_int, gt_int, ge_int, getIt_0, len_tup, len_lst, abs_int, int_bl, int_int, list_cel, liC_lst, len_cel, lnC_lst, list_tup, list_lst, tuple_lst, tuple_tup, forR_nil, forR_cons, forS_nx, forS_rt, nxP_nx, kAsg_ok, kPar2_ok, kTup_ok, kLst_ok, kCel_ok, S_ret, ne_eq, reduceCtorEq, not_false_eq_true, implies_true, RV.d, frz_nil, frz_cons, frzO_some, frzO_none, List.getElem?_cons_zero, List.getElem?_cons_succ, List.getElem?_nil, List.set_cons_zero, List.set_cons_succ, List.length_cons, List.length_nil, mask_nil, mask_none, mask_some, wipe_nil, wipe_cons, decide_true, decide_false, Bool.not_true, Bool.not_false, Nat.zero_add, Nat.reduceAdd, Nat.reduceLT, Nat.reduceLeDiff, Nat.lt_add_one, List.nil_append, List.cons_append, Nat.reduceSub, List.map_cons, List.map_nil, List.replicate_succ, rep_zero, start_eq, gX_some, getT, getL, getC, gC_lst, Int.reduceToNat, Int.reduceLE, Int.reduceLT, Int.reduceNeg, setO_ap, sO_some, setC_ap, sC_some, kAsT_ap, asT_some, bindT_nm, bindT_tup, bindTs_cons, bO_some, bindTs_nil, turnF_ap, tFo_some, cT_ap, cTo_some, cT2_t, cT2_f, cT3_fr, cT3_own, and_self, and_true, true_and, Int.zero_add, ixN_ge, Int.natCast_nonneg, Int.toNat_natCast, Int.cast_ofNat_Int, isin_ty, List.any_cons, List.any_nil, isTy, Bool.true_and, Bool.false_and, Bool.and_true, Bool.and_false, Bool.or_false, Bool.false_or, Bool.or_true, Bool.true_or, Int.reduceEq, rD_eq p.1, op_mul m1, op_mul m2]
      simp only [Int.pow_succ, Nat.pow_succ, ← Int.mul_assoc, ← Nat.mul_assoc, Int.natCast_mul]
    · rintro ρ μ' ⟨e1, rfl⟩
      rw [e1, ints_len]
      simp only [bnd_rb, rb_ok, rb_exc, sb_ok, seq_nx, seq_rt, seq_ex, fin_nx, fin_rt, fin_ex, E_var, E_cst, E_glo, E_dic0, E_tup, E_lst, E_cel, E_op, E_cmp, E_chn, E_not, E_neg, E_con, E_dis, E_ife, E_idx, E_slc, E_call, E_blt, E_isi, E_rng1, E_rng2, E_comp, V_nil, V_cons, A_nil, A_cons, O_nil, O_cons, vr_fr, vo_fr, vo_own, vv_some, kD_fr, kD_own, kBl_ap, kOwn_ap, eo_var, eo_cst, eo_glo, eo_op, eo_idx, eo_slc, eo_call, eo_blt, eo_tup, eo_lst, eo_neg, eo_nt, eo_cmp, eo_con, eo_dis, eo_isi, eo_ife, eo_comp, kOp_ap, kCmp_ap, kCm2_ap, kCh1_ap, kCh2_ap, kCh3_t, kCh3_f, asR_bl, kNot_bl, kNeg_int, kA_bl, kA2_t, kA2_f, kO_bl, kO2_t, kO2_f, kA2_nil, kO2_nil, kIf_bl, kIf2_t, kIf2_f, kIdx_ap, kSl_ap, kSl2_ap, kSl3_ap, oi_mis, kI_int, oi_var, oi_cst, oi_op, oi_neg, oi_idx, oi_blt, oi_call, kR2_int, kComp_ap, kV_ap, kV2_fr, kV2_own, itemsOf_tup, itemsOf_lst, itemsOf_own, itemsOf_cell, itC_lst, itemsOf_wk, E_zip, E_enum, E_revd, E_newc, eo_newc, kZ1_ap, zipD_tt, zipD_ll, enumD_t, enumD_l, revD_t, revD_l, newC_own, kComp_apH, kFor_apH, S_asg, S_asT, S_par, S_exp, S_retv, S_ite, S_whl, S_for, S_setv, S_setc, S_mut, S_pas, B_nil, B_cons, kPar_ap, kExp_ap, kRet_ap, kIte_bl, kIte2_t, kIte2_f, kFor_ap, kSv_ap, kSv2_int, kSc_ap, kSc2_ap, kSc3_cell, kMut_ap, op_add, op_sub, eq_int, ne_int, eq_str, ne_str, ne_shT_self, eq_shT_self, lt_int, le_int, gt_int, ge_int, getIt_0, len_tup, len_lst, abs_int, int_bl, int_int, list_cel, liC_lst, len_cel, lnC_lst, list_tup, list_lst, tuple_lst, tuple_tup, forR_nil, forR_cons, forS_nx, forS_rt, nxP_nx, kAsg_ok, kPar2_ok, kTup_ok, kLst_ok, kCel_ok, S_ret, ne_eq, reduceCtorEq, not_false_eq_true, implies_true, RV.d, frz_nil, frz_cons, frzO_some, frzO_none, List.getElem?_cons_zero, List.getElem?_cons_succ, List.getElem?_nil, List.set_cons_zero, List.set_cons_succ, List.length_cons, List.length_nil, mask_nil, mask_none, mask_some, wipe_nil, wipe_cons, decide_true, decide_false, Bool.not_true, Bool.not_false, Nat.zero_add, Nat.reduceAdd, Nat.reduceLT, Nat.reduceLeDiff, Nat.lt_add_one, List.nil_append, List.cons_append, Nat.reduceSub, List.map_cons, List.map_nil, List.replicate_succ, rep_zero, start_eq, gX_some, getT, getL, getC, gC_lst, Int.reduceToNat, Int.reduceLE, Int.reduceLT, Int.reduceNeg, setO_ap, sO_some, setC_ap, sC_some, kAsT_ap, asT_some, bindT_nm, bindT_tup, bindTs_cons, bO_some, bindTs_nil, turnF_ap, tFo_some, cT_ap, cTo_some, cT2_t, cT2_f, cT3_fr, cT3_own, and_self, and_true, true_and, Int.zero_add, ixN_ge, Int.natCast_nonneg, Int.toNat_natCast, Int.cast_ofNat_Int, isin_ty, List.any_cons, List.any_nil, isTy, Bool.true_and, Bool.false_and, Bool.and_true, Bool.and_false, Bool.or_false, Bool.false_or, Bool.or_true, Bool.true_or, Int.reduceEq]
      rw [take_succ_map hp, wtn_snoc, wtd_snoc]
  · rintro ρ μ' ⟨e1, rfl⟩
    rw [e1]
    rw [List.length_map, List.take_length]
    simp only [bnd_rb, rb_ok, rb_exc, sb_ok, seq_nx, seq_rt, seq_ex, fin_nx, fin_rt, fin_ex, E_var, E_cst, E_glo, E_dic0, E_tup, E_lst, E_cel, E_op, E_cmp, E_chn, E_not, E_neg, E_con, E_dis, E_ife, E_idx, E_slc, E_call, E_blt, E_isi, E_rng1, E_rng2, E_comp, V_nil, V_cons, A_nil, A_cons, O_nil, O_cons, vr_fr, vo_fr, vo_own, vv_some, kD_fr, kD_own, kBl_ap, kOwn_ap, eo_var, eo_cst, eo_glo, eo_op, eo_idx, eo_slc, eo_call, eo_blt, eo_tup, eo_lst, eo_neg, eo_nt, eo_cmp, eo_con, eo_dis, eo_isi, eo_ife, eo_comp, kOp_ap, kCmp_ap, kCm2_ap, kCh1_ap, kCh2_ap, kCh3_t, kCh3_f, asR_bl, kNot_bl, kNeg_int, kA_bl, kA2_t, kA2_f, kO_bl, kO2_t, kO2_f, kA2_nil, kO2_nil, kIf_bl, kIf2_t, kIf2_f, kIdx_ap, kSl_ap, kSl2_ap, kSl3_ap, oi_mis, kI_int, oi_var, oi_cst, oi_op, oi_neg, oi_idx, oi_blt, oi_call, kR2_int, kComp_ap, kV_ap, kV2_fr, kV2_own, itemsOf_tup, itemsOf_lst, itemsOf_own, itemsOf_cell, itC_lst, itemsOf_wk, E_zip, E_enum, E_revd, E_newc, eo_newc, kZ1_ap, zipD_tt, zipD_ll, enumD_t, enumD_l, revD_t, revD_l, newC_own, kComp_apH, kFor_apH, S_asg, S_asT, S_par, S_exp, S_retv, S_ite, S_whl, S_for, S_setv, S_setc, S_mut, S_pas, B_nil, B_cons, kPar_ap, kExp_ap, kRet_ap, kIte_bl, kIte2_t, kIte2_f, kFor_ap, kSv_ap, kSv2_int, kSc_ap, kSc2_ap, kSc3_cell, kMut_ap, op_add, op_sub, eq_int, ne_int, eq_str, ne_str, ne_shT_self, eq_shT_self, lt_int, le_int, gt_int, ge_int, getIt_0, len_tup, len_lst, abs_int, int_bl, int_int, list_cel, liC_lst, len_cel, lnC_lst, list_tup, list_lst, tuple_lst, tuple_tup, forR_nil, forR_cons, forS_nx, forS_rt, nxP_nx, kAsg_ok, kPar2_ok, kTup_ok, kLst_ok, kCel_ok, S_ret, ne_eq, reduceCtorEq, not_false_eq_true, implies_true, RV.d, frz_nil, frz_cons, frzO_some, frzO_none, List.getElem?_cons_zero, List.getElem?_cons_succ, List.getElem?_nil, List.set_cons_zero, List.set_cons_succ, List.length_cons, List.length_nil, mask_nil, mask_none, mask_some, wipe_nil, wipe_cons, decide_true, decide_false, Bool.not_true, Bool.not_false, Nat.zero_add, Nat.reduceAdd, Nat.reduceLT, Nat.reduceLeDiff, Nat.lt_add_one, List.nil_append, List.cons_append, Nat.reduceSub, List.map_cons, List.map_nil, List.replicate_succ, rep_zero, start_eq, gX_some, getT, getL, getC, gC_lst, Int.reduceToNat, Int.reduceLE, Int.reduceLT, Int.reduceNeg, setO_ap, sO_some, setC_ap, sC_some, kAsT_ap, asT_some, bindT_nm, bindT_tup, bindTs_cons, bO_some, bindTs_nil, turnF_ap, tFo_some, cT_ap, cTo_some, cT2_t, cT2_f, cT3_fr, cT3_own, and_self, and_true, true_and, Int.zero_add, ixN_ge, Int.natCast_nonneg, Int.toNat_natCast, Int.cast_ofNat_Int, isin_ty, List.any_cons, List.any_nil, isTy, Bool.true_and, Bool.false_and, Bool.and_true, Bool.and_false, Bool.or_false, Bool.false_or, Bool.or_true, Bool.true_or, Int.reduceEq]
/-! ## what stands for each way: mix times weight -/
/-- a row of numbers of two, not lowest, brought to one denominator -/
def qv (p : Int × Nat) : Rat := Rat.divInt p.1 p.2
def pD (p : Int × Nat) : D := .tup [.int p.1, .int (p.2 : Nat)]
def pprod (ps : List (Int × Nat)) : Nat := ps.foldl (fun a p => a * p.2) 1
theorem pprod_foldl : ∀ (qs : List (Int × Nat)) (a : Nat), qs.foldl (fun a q => a * q.2) a = a * pprod qs
  | [], a => by simp [pprod]
  | q :: qs, a => by
    unfold pprod
    rw [List.foldl_cons, List.foldl_cons, pprod_foldl qs, pprod_foldl qs (1 * q.2), Nat.one_mul, Nat.mul_assoc]
theorem pprod_cons (q : Int × Nat) (qs : List (Int × Nat)) : pprod (q :: qs) = q.2 * pprod qs := by
  show (q :: qs).foldl (fun a q => a * q.2) 1 = _
  rw [List.foldl_cons, pprod_foldl, Nat.one_mul]
theorem pprod_snoc (qs : List (Int × Nat)) (q : Int × Nat) : pprod (qs ++ [q]) = pprod qs * q.2 := by
  show (qs ++ [q]).foldl (fun a q => a * q.2) 1 = _
  rw [List.foldl_append]; rfl
theorem pprod_pos : ∀ {qs : List (Int × Nat)}, (∀ q ∈ qs, 0 < q.2) → 0 < pprod qs
  | [], _ => by decide
  | q :: qs, h => by rw [pprod_cons]; exact Nat.mul_pos (h q List.mem_cons_self) (pprod_pos fun x hx => h x (List.mem_cons_of_mem _ hx))
theorem pprod_dvd : ∀ {qs : List (Int × Nat)} {q : Int × Nat}, q ∈ qs → q.2 ∣ pprod qs
  | p :: qs, q, h => by
    rw [pprod_cons]
    rcases List.mem_cons.mp h with rfl | h
    · exact Nat.dvd_mul_right _ _
    · exact Nat.dvd_trans (pprod_dvd h) (Nat.dvd_mul_left _ _)
theorem pprod_lt {B : Nat} : ∀ {qs : List (Int × Nat)}, (∀ q ∈ qs, q.2 < 2 ^ B) → pprod qs < 2 ^ (B * qs.length + 1)
  | [], _ => by simp [pprod]
  | q :: qs, h => by
    rw [pprod_cons]
    have := mul_lt_pow (h q List.mem_cons_self) (pprod_lt (qs := qs) fun x hx => h x (List.mem_cons_of_mem _ hx))
    refine Nat.lt_of_lt_of_le this (Nat.pow_le_pow_right (by decide) ?_)
    rw [List.length_cons, Nat.mul_succ]
    omega
/-- a part, over the common denominator -/
theorem part_eq {W : Nat} {p : Int × Nat} (h0 : 0 < p.2) (h : p.2 ∣ W) : ((p.1 * ((W : Int).fdiv p.2) : Int) : Rat) = qv p * (W : Rat) := by
  obtain ⟨c, rfl⟩ := h
  have e : ((p.2 * c : Nat) : Int).fdiv p.2 = c := by
    rw [Int.fdiv_eq_ediv_of_nonneg _ (by omega), Int.natCast_mul, Int.mul_ediv_cancel_left _ (by omega)]
  have hn := nat_ne0 h0
  unfold qv
  rw [e, Rat.divInt_eq_div, Rat.intCast_mul, Rat.intCast_natCast, Rat.intCast_natCast, Rat.natCast_mul]
  grind
theorem parts_sum (W : Nat) : ∀ {qs : List (Int × Nat)}, (∀ q ∈ qs, 0 < q.2) → (∀ q ∈ qs, q.2 ∣ W) → (((qs.map fun q => q.1 * ((W : Int).fdiv q.2)).sum : Int) : Rat) = rsum (qs.map qv) * (W : Rat)
  | [], _, _ => by rw [List.map_nil, List.map_nil, rsum_nil, Rat.zero_mul]; rfl
  | q :: qs, h0, h => by
    rw [List.map_cons, List.sum_cons, Rat.intCast_add, parts_sum W (qs := qs) (fun x hx => h0 x (List.mem_cons_of_mem _ hx)) fun x hx => h x (List.mem_cons_of_mem _ hx), List.map_cons, rsum_cons, part_eq (h0 q List.mem_cons_self) (h q List.mem_cons_self)]
    grind
/-- a way's share: its mix times its weight -/
def Tri.shr (t : Tri) (mix : List Rat) (cs : List Nat) : List Rat := (List.range t.ways.length).map fun w => mix.getD w 0 * wtl (t.row w cs)
def Tri.prs (t : Tri) (mix : List Rat) (cs : List Nat) : List (Int × Nat) := (List.range t.ways.length).map fun w => ((mix.getD w 0).num * wtn (t.row w cs), (mix.getD w 0).den * wtd (t.row w cs))
theorem prs_qv (t : Tri) (mix : List Rat) (cs : List Nat) : (t.prs mix cs).map qv = t.shr mix cs := by
  unfold Tri.prs Tri.shr
  rw [List.map_map]
  congr 1
  funext w
  simp only [Function.comp_apply, qv]
  have h := wtl_mul (t.row w cs)
  have h2 := rat_mul_den' (mix.getD w 0)
  have n1 := nat_ne0 (wtd_pos (t.row w cs))
  have n2 := den_ne0 (mix.getD w 0)
  rw [Rat.divInt_eq_div, Rat.intCast_mul, Rat.intCast_natCast, Rat.natCast_mul, ← h, ← h2]
  grind
/-- what ways_behind is to tell -/
def Tri.bhd (t : Tri) (mix : List Rat) (cs : List Nat) : Sx.D := if rsum (t.shr mix cs) = 0 then .non else .tup ((t.shr mix cs).map fun s => rD (s / rsum (t.shr mix cs)))
theorem Sz.div {B C : Nat} {a b : Rat} (h0 : b ≠ 0) (ha : Sz B a) (hb : Sz C b) : Sz (B + C) (a / b) := by
  have n0 : b.num ≠ 0 := fun z => h0 (Rat.num_eq_zero.mp z)
  rw [← div_divInt n0]
  refine Sz.divInt (Int.mul_ne_zero n0 (den_ne a)) (imul_lt ha.1 (by simpa using hb.2)) ?_
  rw [Int.natAbs_mul, Nat.mul_comm]
  exact mul_lt_pow (by simpa using ha.2) hb.1
theorem eq_rD {a b : Rat} (μ : Mu) : cmp2 .eq (rD a) (rD b) μ = .ok (decide (a = b)) μ := by
  have e : cmp2 .eq (rD a) (rD b) μ = guard' ((rD a).eqk 60 && (rD b).eqk 60) (ret (PySem.PyData.eqv (rD a).py (rD b).py)) μ := rfl
  rw [e]
  have e2 : PySem.PyData.eqv (rD a).py (rD b).py = (decide (a.num = b.num) && decide (a.den = b.den)) := by
    simp only [rD, D.py, pys, PySem.PyData.eqv, PySem.PyData.eqvAll]
    simp only [Bool.and_true]
    congr 1
    show decide ((a.den : Int) = b.den) = _
    exact decide_eq_decide.mpr (by omega)
  rw [e2]
  simp only [rD_eqk _ 60 (by decide), Bool.and_self, guard', if_true, ret]
  congr 1
  rw [← Bool.decide_and]
  exact decide_eq_decide.mpr ⟨fun h => Rat.ext h.1 h.2, fun h => by rw [h]; exact ⟨rfl, rfl⟩⟩
theorem nsum_zip_le (qs : List Rat) (cs : List Nat) : nsum (qs.zip cs) ≤ cs.sum := by
  induction qs generalizing cs with
  | nil => simp [nsum]
  | cons q qs ih =>
    cases cs with
    | nil => simp [nsum]
    | cons c cs =>
      rw [List.zip_cons_cons, nsum_cons, List.sum_cons]
      have := ih cs
      simp only
      omega
theorem row_nsum (t : Tri) (w : Nat) (cs : List Nat) : nsum (t.row w cs) ≤ cs.sum := nsum_zip_le _ _
theorem shr_len (t : Tri) (mix : List Rat) (cs : List Nat) : (t.shr mix cs).length = t.ways.length := by simp [Tri.shr]
theorem prs_len (t : Tri) (mix : List Rat) (cs : List Nat) : (t.prs mix cs).length = t.ways.length := by simp [Tri.prs]
theorem shr_sz {t : Tri} (ok : TriOk t) {mix : List Rat} (hm : ∀ q ∈ mix, Sz 10 q) (hl : mix.length = t.ways.length) {cs : List Nat} {M : Nat} (hs : cs.sum ≤ M) : ∀ q ∈ t.shr mix cs, Sz (10 * M + 11) q := fun q hq => by
  obtain ⟨w, hw, rfl⟩ := List.mem_map.mp hq
  have hw' : w < t.ways.length := by simpa using hw
  have h1 := sz_getD hm (i := w) (by omega)
  have h2 := wtl_sz (row_sz ok hw' (cs := cs))
  have := row_nsum t w cs
  exact (Sz.mul h1 h2).mono (by omega)
theorem shr_nn {t : Tri} (ok : TriOk t) {mix : List Rat} (hm : ∀ q ∈ mix, 0 ≤ q) (hl : mix.length = t.ways.length) {cs : List Nat} : ∀ q ∈ t.shr mix cs, 0 ≤ q := fun q hq => by
  obtain ⟨w, hw, rfl⟩ := List.mem_map.mp hq
  have hw' : w < t.ways.length := by simpa using hw
  have h1 : 0 ≤ mix.getD w 0 := by
    have : mix.getD w 0 = mix[w] := by simp [show w < mix.length by omega]
    rw [this]; exact hm _ (List.getElem_mem (by omega))
  exact Rat.mul_nonneg h1 (wtl_nn (row_nn ok hw'))
theorem rsum_nn : ∀ {qs : List Rat}, (∀ q ∈ qs, 0 ≤ q) → 0 ≤ rsum qs
  | [], _ => Rat.le_refl
  | q :: qs, h => by
    rw [rsum_cons]
    exact Rat.add_nonneg (h q List.mem_cons_self) (rsum_nn fun x hx => h x (List.mem_cons_of_mem _ hx))
theorem wtup_len {t : Tri} (μ : Mu) : blt1 .len (.tup (t.ways.map wD)) μ = .ok (.fr (.int (t.ways.length : Nat))) μ := by rw [len_tup, List.length_map]
theorem s_behind (k : Nat) {μ : Mu} {t : Tri} (ok : TriOk t) {mix : List Rat} (hm : ∀ q ∈ mix, Sz 10 q) (hl : mix.length = t.ways.length) {cs : List Nat} (hs : cs.sum ≤ 60) :
    cl (k + 5) 25 [t.D, .tup (mix.map rD), .tup (intL cs)] μ = .ok (.fr (t.bhd mix cs)) μ := by
  have szs := shr_sz ok hm hl hs
  have w4 := ok.w4
  rw [cl, call_eq r25 rfl, g25]
  have c1 : compR (cT (callD reg (k + 4)) (.call 22 (.cons (.idx (.var 1) (.var 3)) (.cons (.call 24 (.cons (.var 0) (.cons (.var 3) (.cons (.var 2) .nil)))) .nil))) (.nm 3) .nil [3] [some (.fr (.tup [.tup (t.faces.map D.str), .tup (t.ways.map wD)])), some (.fr (.tup (mix.map rD))), some (.fr (.tup (intL cs))), none, none, none, none]) (intsFrom 0 t.ways.length) μ
      = .ok ((t.shr mix cs).map rD) μ := by
    rw [compR_map (g := fun x => match x with | .int a => some (rD (mix.getD a.toNat 0 * wtl (t.row a.toNat cs))) | _ => none)]
    · unfold intsFrom Tri.shr
      rw [List.filterMap_map, List.map_map, ← List.filterMap_eq_map]
      congr 2
      funext w
      simp
    · intro x hx
      obtain ⟨w, hw1⟩ := List.mem_iff_getElem?.mp hx
      obtain ⟨hw, rfl⟩ := ints_at hw1
      have e1 := s_weight (k) (μ := μ) ok hw (cs := cs) (by have := row_nsum t w cs; omega)
      have e2 := s_times (k + 1) (μ := μ) (sz_getD hm (i := w) (by omega)) (wtl_sz (row_sz ok hw (cs := cs))) (by have := row_nsum t w cs; omega)
      unfold cl at e1 e2
      have gm := rget (qs := mix) (i := w) (by omega)
      simp only [Tri.D] at e1
      simp only [bnd_rb, rb_ok, rb_exc, sb_ok, seq_nx, seq_rt, seq_ex, fin_nx, fin_rt, fin_ex, E_var, E_cst, E_glo, E_dic0, E_tup, E_lst, E_cel, E_op, E_cmp, E_chn, E_not, E_neg, E_con, E_dis, E_ife, E_idx, E_slc, E_call, E_blt, E_isi, E_rng1, E_rng2, E_comp, V_nil, V_cons, A_nil, A_cons, O_nil, O_cons, vr_fr, vo_fr, vo_own, vv_some, kD_fr, kD_own, kBl_ap, kOwn_ap, eo_var, eo_cst, eo_glo, eo_op, eo_idx, eo_slc, eo_call, eo_blt, eo_tup, eo_lst, eo_neg, eo_nt, eo_cmp, eo_con, eo_dis, eo_isi, eo_ife, eo_comp, kOp_ap, kCmp_ap, kCm2_ap, kCh1_ap, kCh2_ap, kCh3_t, kCh3_f, asR_bl, kNot_bl, kNeg_int, kA_bl, kA2_t, kA2_f, kO_bl, kO2_t, kO2_f, kA2_nil, kO2_nil, kIf_bl, kIf2_t, kIf2_f, kIdx_ap, kSl_ap, kSl2_ap, kSl3_ap, oi_mis, kI_int, oi_var, oi_cst, oi_op, oi_neg, oi_idx, oi_blt, oi_call, kR2_int, kComp_ap, kV_ap, kV2_fr, kV2_own, itemsOf_tup, itemsOf_lst, itemsOf_own, itemsOf_cell, itC_lst, itemsOf_wk, E_zip, E_enum, E_revd, E_newc, eo_newc, kZ1_ap, zipD_tt, zipD_ll, enumD_t, enumD_l, revD_t, revD_l, newC_own, kComp_apH, kFor_apH, S_asg, S_asT, S_par, S_exp, S_retv, S_ite, S_whl, S_for, S_setv, S_setc, S_mut, S_pas, B_nil, B_cons, kPar_ap, kExp_ap, kRet_ap, kIte_bl, kIte2_t, kIte2_f, kFor_ap, kSv_ap, kSv2_int, kSc_ap, kSc2_ap, kSc3_cell, kMut_ap, op_add, op_sub, eq_int, ne_int, eq_str, ne_str, ne_shT_self, eq_shT_self, lt_int, le_int, gt_int, ge_int, getIt_0, len_tup, len_lst, abs_int, int_bl, int_int, list_cel, liC_lst, len_cel, lnC_lst, list_tup, list_lst, tuple_lst, tuple_tup, forR_nil, forR_cons, forS_nx, forS_rt, nxP_nx, kAsg_ok, kPar2_ok, kTup_ok, kLst_ok, kCel_ok, S_ret, ne_eq, reduceCtorEq, not_false_eq_true, implies_true, RV.d, frz_nil, frz_cons, frzO_some, frzO_none, List.getElem?_cons_zero, List.getElem?_cons_succ, List.getElem?_nil, List.set_cons_zero, List.set_cons_succ, List.length_cons, List.length_nil, mask_nil, mask_none, mask_some, wipe_nil, wipe_cons, decide_true, decide_false, Bool.not_true, Bool.not_false, Nat.zero_add, Nat.reduceAdd, Nat.reduceLT, Nat.reduceLeDiff, Nat.lt_add_one, List.nil_append, List.cons_append, Nat.reduceSub, List.map_cons, List.map_nil, List.replicate_succ, rep_zero, start_eq, gX_some, getT, getL, getC, gC_lst, Int.reduceToNat, Int.reduceLE, Int.reduceLT, Int.reduceNeg, setO_ap, sO_some, setC_ap, sC_some, kAsT_ap, asT_some, bindT_nm, bindT_tup, bindTs_cons, bO_some, bindTs_nil, turnF_ap, tFo_some, cT_ap, cTo_some, cT2_t, cT2_f, cT3_fr, cT3_own, and_self, and_true, true_and, Int.zero_add, ixN_ge, Int.natCast_nonneg, Int.toNat_natCast, Int.cast_ofNat_Int, isin_ty, List.any_cons, List.any_nil, isTy, Bool.true_and, Bool.false_and, Bool.and_true, Bool.and_false, Bool.or_false, Bool.false_or, Bool.or_true, Bool.true_or, Int.reduceEq, Int.natCast_nonneg, Int.toNat_natCast, gm, e1, e2]
  have szr : ∀ i, Sz 2600 (rsum ((t.shr mix cs).take i)) := fun i => (Sz_rsum (B := 10 * 60 + 11) (qs := (t.shr mix cs).take i) fun q hq => szs q (List.mem_of_mem_take hq)).mono (by
    have h1 : ((t.shr mix cs).take i).length ≤ 4 := by rw [List.length_take, shr_len]; omega
    have : ((t.shr mix cs).take i).length * (10 * 60 + 11 + 1) ≤ 4 * (10 * 60 + 11 + 1) := Nat.mul_le_mul_right _ h1
    omega)
  have et := s_total (k) (μ := μ) (d := .lst ((t.shr mix cs).map rD)) (qs := t.shr mix cs) (h := []) rfl (Held_nil μ) szs szr (by decide)
  unfold cl at et
  have q0 := eq_rD (a := rsum (t.shr mix cs)) (b := 0) μ
  by_cases h0 : rsum (t.shr mix cs) = 0
  · simp only [bnd_rb, rb_ok, rb_exc, sb_ok, seq_nx, seq_rt, seq_ex, fin_nx, fin_rt, fin_ex, E_var, E_cst, E_glo, E_dic0, E_tup, E_lst, E_cel, E_op, E_cmp, E_chn, E_not, E_neg, E_con, E_dis, E_ife, E_idx, E_slc, E_call, E_blt, E_isi, E_rng1, E_rng2, E_comp, V_nil, V_cons, A_nil, A_cons, O_nil, O_cons, vr_fr, vo_fr, vo_own, vv_some, kD_fr, kD_own, kBl_ap, kOwn_ap, eo_var, eo_cst, eo_glo, eo_op, eo_idx, eo_slc, eo_call, eo_blt, eo_tup, eo_lst, eo_neg, eo_nt, eo_cmp, eo_con, eo_dis, eo_isi, eo_ife, eo_comp, kOp_ap, kCmp_ap, kCm2_ap, kCh1_ap, kCh2_ap, kCh3_t, kCh3_f, asR_bl, kNot_bl, kNeg_int, kA_bl, kA2_t, kA2_f, kO_bl, kO2_t, kO2_f, kA2_nil, kO2_nil, kIf_bl, kIf2_t, kIf2_f, kIdx_ap, kSl_ap, kSl2_ap, kSl3_ap, oi_mis, kI_int, oi_var, oi_cst, oi_op, oi_neg, oi_idx, oi_blt, oi_call, kR2_int, kComp_ap, kV_ap, kV2_fr, kV2_own, itemsOf_tup, itemsOf_lst, itemsOf_own, itemsOf_cell, itC_lst, itemsOf_wk, E_zip, E_enum, E_revd, E_newc, eo_newc, kZ1_ap, zipD_tt, zipD_ll, enumD_t, enumD_l, revD_t, revD_l, newC_own, kComp_apH, kFor_apH, S_asg, S_asT, S_par, S_exp, S_retv, S_ite, S_whl, S_for, S_setv, S_setc, S_mut, S_pas, B_nil, B_cons, kPar_ap, kExp_ap, kRet_ap, kIte_bl, kIte2_t, kIte2_f, kFor_ap, kSv_ap, kSv2_int, kSc_ap, kSc2_ap, kSc3_cell, kMut_ap, op_add, op_sub, eq_int, ne_int, eq_str, ne_str, ne_shT_self, eq_shT_self, lt_int, le_int, gt_int, ge_int, getIt_0, len_tup, len_lst, abs_int, int_bl, int_int, list_cel, liC_lst, len_cel, lnC_lst, list_tup, list_lst, tuple_lst, tuple_tup, forR_nil, forR_cons, forS_nx, forS_rt, nxP_nx, kAsg_ok, kPar2_ok, kTup_ok, kLst_ok, kCel_ok, S_ret, ne_eq, reduceCtorEq, not_false_eq_true, implies_true, RV.d, frz_nil, frz_cons, frzO_some, frzO_none, List.getElem?_cons_zero, List.getElem?_cons_succ, List.getElem?_nil, List.set_cons_zero, List.set_cons_succ, List.length_cons, List.length_nil, mask_nil, mask_none, mask_some, wipe_nil, wipe_cons, decide_true, decide_false, Bool.not_true, Bool.not_false, Nat.zero_add, Nat.reduceAdd, Nat.reduceLT, Nat.reduceLeDiff, Nat.lt_add_one, List.nil_append, List.cons_append, Nat.reduceSub, List.map_cons, List.map_nil, List.replicate_succ, rep_zero, start_eq, gX_some, getT, getL, getC, gC_lst, Int.reduceToNat, Int.reduceLE, Int.reduceLT, Int.reduceNeg, setO_ap, sO_some, setC_ap, sC_some, kAsT_ap, asT_some, bindT_nm, bindT_tup, bindTs_cons, bO_some, bindTs_nil, turnF_ap, tFo_some, cT_ap, cTo_some, cT2_t, cT2_f, cT3_fr, cT3_own, and_self, and_true, true_and, Int.zero_add, ixN_ge, Int.natCast_nonneg, Int.toNat_natCast, Int.cast_ofNat_Int, isin_ty, List.any_cons, List.any_nil, isTy, Bool.true_and, Bool.false_and, Bool.and_true, Bool.and_false, Bool.or_false, Bool.false_or, Bool.or_true, Bool.true_or, Int.reduceEq, Tri.D, List.length_map, range1 _ (show t.ways.length ≤ 16777216 by omega), c1, et, rD0, q0, h0]
    simp only [Tri.bhd, h0, if_true]
    rfl
  · have szr' : Sz 2600 (rsum (t.shr mix cs)) := by
      have := szr (t.shr mix cs).length
      rwa [List.take_length] at this
    have c2 : compR (cT (callD reg (k + 4)) (.call 23 (.cons (.var 6) (.cons (.var 5) .nil))) (.nm 6) .nil [6] [some (.fr (.tup [.tup (t.faces.map D.str), .tup (t.ways.map wD)])), some (.fr (.tup (mix.map rD))), some (.fr (.tup (intL cs))), none, some (.fr (.lst ((t.shr mix cs).map rD))), some (.fr (rD (rsum (t.shr mix cs)))), none]) ((t.shr mix cs).map rD) μ
        = .ok ((t.shr mix cs).map fun s => rD (s / rsum (t.shr mix cs))) μ := by
      generalize rsum (t.shr mix cs) = S at *
      rw [compR_map (g := fun x => match x with | .tup [.int a, .int b] => some (rD (Rat.divInt a b / S)) | _ => none)]
      · rw [List.filterMap_map, ← List.filterMap_eq_map]
        congr 2
        funext s
        simp only [Function.comp_apply, rD_eq, Rat.num_divInt_den]
      · intro x hx
        obtain ⟨s, hs1, rfl⟩ := List.mem_map.mp hx
        have e := s_over (k + 1) (μ := μ) h0 (szs s hs1) szr' (by decide)
        unfold cl at e
        simp only [bnd_rb, rb_ok, rb_exc, sb_ok, seq_nx, seq_rt, seq_ex, fin_nx, fin_rt, fin_ex, E_var, E_cst, E_glo, E_dic0, E_tup, E_lst, E_cel, E_op, E_cmp, E_chn, E_not, E_neg, E_con, E_dis, E_ife, E_idx, E_slc, E_call, E_blt, E_isi, E_rng1, E_rng2, E_comp, V_nil, V_cons, A_nil, A_cons, O_nil, O_cons, vr_fr, vo_fr, vo_own, vv_some, kD_fr, kD_own, kBl_ap, kOwn_ap, eo_var, eo_cst, eo_glo, eo_op, eo_idx, eo_slc, eo_call, eo_blt, eo_tup, eo_lst, eo_neg, eo_nt, eo_cmp, eo_con, eo_dis, eo_isi, eo_ife, eo_comp, kOp_ap, kCmp_ap, kCm2_ap, kCh1_ap, kCh2_ap, kCh3_t, kCh3_f, asR_bl, kNot_bl, kNeg_int, kA_bl, kA2_t, kA2_f, kO_bl, kO2_t, kO2_f, kA2_nil, kO2_nil, kIf_bl, kIf2_t, kIf2_f, kIdx_ap, kSl_ap, kSl2_ap, kSl3_ap, oi_mis, kI_int, oi_var, oi_cst, oi_op, oi_neg, oi_idx, oi_blt, oi_call, kR2_int, kComp_ap, kV_ap, kV2_fr, kV2_own, itemsOf_tup, itemsOf_lst, itemsOf_own, itemsOf_cell, itC_lst, itemsOf_wk, E_zip, E_enum, E_revd, E_newc, eo_newc, kZ1_ap, zipD_tt, zipD_ll, enumD_t, enumD_l, revD_t, revD_l, newC_own, kComp_apH, kFor_apH, S_asg, S_asT, S_par, S_exp, S_retv, S_ite, S_whl, S_for, S_setv, S_setc, S_mut, S_pas, B_nil, B_cons, kPar_ap, kExp_ap, kRet_ap, kIte_bl, kIte2_t, kIte2_f, kFor_ap, kSv_ap, kSv2_int, kSc_ap, kSc2_ap, kSc3_cell, kMut_ap, op_add, op_sub, eq_int, ne_int, eq_str, ne_str, ne_shT_self, eq_shT_self, lt_int, le_int, gt_int, ge_int, getIt_0, len_tup, len_lst, abs_int, int_bl, int_int, list_cel, liC_lst, len_cel, lnC_lst, list_tup, list_lst, tuple_lst, tuple_tup, forR_nil, forR_cons, forS_nx, forS_rt, nxP_nx, kAsg_ok, kPar2_ok, kTup_ok, kLst_ok, kCel_ok, S_ret, ne_eq, reduceCtorEq, not_false_eq_true, implies_true, RV.d, frz_nil, frz_cons, frzO_some, frzO_none, List.getElem?_cons_zero, List.getElem?_cons_succ, List.getElem?_nil, List.set_cons_zero, List.set_cons_succ, List.length_cons, List.length_nil, mask_nil, mask_none, mask_some, wipe_nil, wipe_cons, decide_true, decide_false, Bool.not_true, Bool.not_false, Nat.zero_add, Nat.reduceAdd, Nat.reduceLT, Nat.reduceLeDiff, Nat.lt_add_one, List.nil_append, List.cons_append, Nat.reduceSub, List.map_cons, List.map_nil, List.replicate_succ, rep_zero, start_eq, gX_some, getT, getL, getC, gC_lst, Int.reduceToNat, Int.reduceLE, Int.reduceLT, Int.reduceNeg, setO_ap, sO_some, setC_ap, sC_some, kAsT_ap, asT_some, bindT_nm, bindT_tup, bindTs_cons, bO_some, bindTs_nil, turnF_ap, tFo_some, cT_ap, cTo_some, cT2_t, cT2_f, cT3_fr, cT3_own, and_self, and_true, true_and, Int.zero_add, ixN_ge, Int.natCast_nonneg, Int.toNat_natCast, Int.cast_ofNat_Int, isin_ty, List.any_cons, List.any_nil, isTy, Bool.true_and, Bool.false_and, Bool.and_true, Bool.and_false, Bool.or_false, Bool.false_or, Bool.or_true, Bool.true_or, Int.reduceEq, e]
        simp only [rD_eq, Rat.num_divInt_den]
    simp only [bnd_rb, rb_ok, rb_exc, sb_ok, seq_nx, seq_rt, seq_ex, fin_nx, fin_rt, fin_ex, E_var, E_cst, E_glo, E_dic0, E_tup, E_lst, E_cel, E_op, E_cmp, E_chn, E_not, E_neg, E_con, E_dis, E_ife, E_idx, E_slc, E_call, E_blt, E_isi, E_rng1, E_rng2, E_comp, V_nil, V_cons, A_nil, A_cons, O_nil, O_cons, vr_fr, vo_fr, vo_own, vv_some, kD_fr, kD_own, kBl_ap, kOwn_ap, eo_var, eo_cst, eo_glo, eo_op, eo_idx, eo_slc, eo_call, eo_blt, eo_tup, eo_lst, eo_neg, eo_nt, eo_cmp, eo_con, eo_dis, eo_isi, eo_ife, eo_comp, kOp_ap, kCmp_ap, kCm2_ap, kCh1_ap, kCh2_ap, kCh3_t, kCh3_f, asR_bl, kNot_bl, kNeg_int, kA_bl, kA2_t, kA2_f, kO_bl, kO2_t, kO2_f, kA2_nil, kO2_nil, kIf_bl, kIf2_t, kIf2_f, kIdx_ap, kSl_ap, kSl2_ap, kSl3_ap, oi_mis, kI_int, oi_var, oi_cst, oi_op, oi_neg, oi_idx, oi_blt, oi_call, kR2_int, kComp_ap, kV_ap, kV2_fr, kV2_own, itemsOf_tup, itemsOf_lst, itemsOf_own, itemsOf_cell, itC_lst, itemsOf_wk, E_zip, E_enum, E_revd, E_newc, eo_newc, kZ1_ap, zipD_tt, zipD_ll, enumD_t, enumD_l, revD_t, revD_l, newC_own, kComp_apH, kFor_apH, S_asg, S_asT, S_par, S_exp, S_retv, S_ite, S_whl, S_for, S_setv, S_setc, S_mut, S_pas, B_nil, B_cons, kPar_ap, kExp_ap, kRet_ap, kIte_bl, kIte2_t, kIte2_f, kFor_ap, kSv_ap, kSv2_int, kSc_ap, kSc2_ap, kSc3_cell, kMut_ap, op_add, op_sub, eq_int, ne_int, eq_str, ne_str, ne_shT_self, eq_shT_self, lt_int, le_int, gt_int, ge_int, getIt_0, len_tup, len_lst, abs_int, int_bl, int_int, list_cel, liC_lst, len_cel, lnC_lst, list_tup, list_lst, tuple_lst, tuple_tup, forR_nil, forR_cons, forS_nx, forS_rt, nxP_nx, kAsg_ok, kPar2_ok, kTup_ok, kLst_ok, kCel_ok, S_ret, ne_eq, reduceCtorEq, not_false_eq_true, implies_true, RV.d, frz_nil, frz_cons, frzO_some, frzO_none, List.getElem?_cons_zero, List.getElem?_cons_succ, List.getElem?_nil, List.set_cons_zero, List.set_cons_succ, List.length_cons, List.length_nil, mask_nil, mask_none, mask_some, wipe_nil, wipe_cons, decide_true, decide_false, Bool.not_true, Bool.not_false, Nat.zero_add, Nat.reduceAdd, Nat.reduceLT, Nat.reduceLeDiff, Nat.lt_add_one, List.nil_append, List.cons_append, Nat.reduceSub, List.map_cons, List.map_nil, List.replicate_succ, rep_zero, start_eq, gX_some, getT, getL, getC, gC_lst, Int.reduceToNat, Int.reduceLE, Int.reduceLT, Int.reduceNeg, setO_ap, sO_some, setC_ap, sC_some, kAsT_ap, asT_some, bindT_nm, bindT_tup, bindTs_cons, bO_some, bindTs_nil, turnF_ap, tFo_some, cT_ap, cTo_some, cT2_t, cT2_f, cT3_fr, cT3_own, and_self, and_true, true_and, Int.zero_add, ixN_ge, Int.natCast_nonneg, Int.toNat_natCast, Int.cast_ofNat_Int, isin_ty, List.any_cons, List.any_nil, isTy, Bool.true_and, Bool.false_and, Bool.and_true, Bool.and_false, Bool.or_false, Bool.false_or, Bool.or_true, Bool.true_or, Int.reduceEq, Tri.D, List.length_map, range1 _ (show t.ways.length ≤ 16777216 by omega), c1, et, rD0, q0, h0, c2]
    simp only [Tri.bhd, h0, if_false]
/-! ## the law's own -/
theorem isum_lt {B : Nat} : ∀ {l : List Int}, (∀ x ∈ l, x.natAbs < 2 ^ B) → l.sum.natAbs ≤ l.length * 2 ^ B
  | [], _ => by simp
  | x :: l, h => by
    have h1 := h x List.mem_cons_self
    have h2 := isum_lt (l := l) fun y hy => h y (List.mem_cons_of_mem _ hy)
    rw [List.sum_cons, List.length_cons, Nat.succ_mul]
    omega
theorem prs_at {t : Tri} {mix : List Rat} {cs : List Nat} {w : Nat} (hw : w < t.ways.length) : (t.prs mix cs)[w]? = some ((mix.getD w 0).num * wtn (t.row w cs), (mix.getD w 0).den * wtd (t.row w cs)) := by
  unfold Tri.prs
  rw [List.getElem?_map, List.getElem?_range hw]
  rfl
theorem prs_facts {t : Tri} (ok : TriOk t) {mix : List Rat} (hm : ∀ q ∈ mix, Sz 10 q) (hl : mix.length = t.ways.length) {cs : List Nat} (hs : cs.sum ≤ 60) : ∀ p ∈ t.prs mix cs, 0 < p.2 ∧ p.2 < 2 ^ 611 ∧ p.1.natAbs < 2 ^ 611 := fun p hp => by
  obtain ⟨w, hw, rfl⟩ := List.mem_map.mp hp
  have hw' : w < t.ways.length := by simpa using hw
  have h1 := sz_getD hm (i := w) (by omega)
  have := row_nsum t w cs
  have hn := wtn_lt (row_sz ok hw' (cs := cs))
  have hd := wtd_lt (row_sz ok hw' (cs := cs))
  refine ⟨Nat.mul_pos (Rat.den_pos _) (wtd_pos _), ?_, ?_⟩
  · exact Nat.lt_of_lt_of_le (mul_lt_pow h1.2 hd) (Nat.pow_le_pow_right (by decide) (by omega))
  · exact Nat.lt_of_lt_of_le (imul_lt h1.1 hn) (Nat.pow_le_pow_right (by decide) (by omega))
theorem s_lawdue (k : Nat) {μ : Mu} {t : Tri} (ok : TriOk t) {mix : List Rat} (hm : ∀ q ∈ mix, Sz 10 q) (hnn : ∀ q ∈ mix, 0 ≤ q) (hl : mix.length = t.ways.length) {cs : List Nat} (hs : cs.sum ≤ 60) :
    cl (k + 2) 29 [t.D, .tup (mix.map rD), .tup (intL cs)] μ = .ok (.fr (t.bhd mix cs)) μ := by
  have w4 := ok.w4
  have pf := prs_facts ok hm hl hs
  have ha : ∀ (ρ : Env) (x : Nat) (xs : List D) (d : D) (μ : Mu), xs.length ≤ 100 → mutO .append ρ x [d] μ (some (some (.own xs))) = .nx (ρ.set x (some (.own (xs ++ [d])))) μ := fun ρ x xs d μ h => mutO_app d (by omega)
  rw [cl, call_eq r29 rfl, g29]
  simp only [bnd_rb, rb_ok, rb_exc, sb_ok, seq_nx, seq_rt, seq_ex, fin_nx, fin_rt, fin_ex, E_var, E_cst, E_glo, E_dic0, E_tup, E_lst, E_cel, E_op, E_cmp, E_chn, E_not, E_neg, E_con, E_dis, E_ife, E_idx, E_slc, E_call, E_blt, E_isi, E_rng1, E_rng2, E_comp, V_nil, V_cons, A_nil, A_cons, O_nil, O_cons, vr_fr, vo_fr, vo_own, vv_some, kD_fr, kD_own, kBl_ap, kOwn_ap, eo_var, eo_cst, eo_glo, eo_op, eo_idx, eo_slc, eo_call, eo_blt, eo_tup, eo_lst, eo_neg, eo_nt, eo_cmp, eo_con, eo_dis, eo_isi, eo_ife, eo_comp, kOp_ap, kCmp_ap, kCm2_ap, kCh1_ap, kCh2_ap, kCh3_t, kCh3_f, asR_bl, kNot_bl, kNeg_int, kA_bl, kA2_t, kA2_f, kO_bl, kO2_t, kO2_f, kA2_nil, kO2_nil, kIf_bl, kIf2_t, kIf2_f, kIdx_ap, kSl_ap, kSl2_ap, kSl3_ap, oi_mis, kI_int, oi_var, oi_cst, oi_op, oi_neg, oi_idx, oi_blt, oi_call, kR2_int, kComp_ap, kV_ap, kV2_fr, kV2_own, itemsOf_tup, itemsOf_lst, itemsOf_own, itemsOf_cell, itC_lst, itemsOf_wk, E_zip, E_enum, E_revd, E_newc, eo_newc, kZ1_ap, zipD_tt, zipD_ll, enumD_t, enumD_l, revD_t, revD_l, newC_own, kComp_apH, kFor_apH, S_asg, S_asT, S_par, S_exp, S_retv, S_ite, S_whl, S_for, S_setv, S_setc, S_mut, S_pas, B_nil, B_cons, kPar_ap, kExp_ap, kRet_ap, kIte_bl, kIte2_t, kIte2_f, kFor_ap, kSv_ap, kSv2_int, kSc_ap, kSc2_ap, kSc3_cell, kMut_ap, op_add, op_sub, eq_int, ne_int, eq_str, ne_str, ne_shT_self, eq_shT_self, lt_int, le_int, gt_int, ge_int, getIt_0, len_tup, len_lst, abs_int, int_bl, int_int, list_cel, liC_lst, len_cel, lnC_lst, list_tup, list_lst, tuple_lst, tuple_tup, forR_nil, forR_cons, forS_nx, forS_rt, nxP_nx, kAsg_ok, kPar2_ok, kTup_ok, kLst_ok, kCel_ok, S_ret, ne_eq, reduceCtorEq, not_false_eq_true, implies_true, RV.d, frz_nil, frz_cons, frzO_some, frzO_none, List.getElem?_cons_zero, List.getElem?_cons_succ, List.getElem?_nil, List.set_cons_zero, List.set_cons_succ, List.length_cons, List.length_nil, mask_nil, mask_none, mask_some, wipe_nil, wipe_cons, decide_true, decide_false, Bool.not_true, Bool.not_false, Nat.zero_add, Nat.reduceAdd, Nat.reduceLT, Nat.reduceLeDiff, Nat.lt_add_one, List.nil_append, List.cons_append, Nat.reduceSub, List.map_cons, List.map_nil, List.replicate_succ, rep_zero, start_eq, gX_some, getT, getL, getC, gC_lst, Int.reduceToNat, Int.reduceLE, Int.reduceLT, Int.reduceNeg, setO_ap, sO_some, setC_ap, sC_some, kAsT_ap, asT_some, bindT_nm, bindT_tup, bindTs_cons, bO_some, bindTs_nil, turnF_ap, tFo_some, cT_ap, cTo_some, cT2_t, cT2_f, cT3_fr, cT3_own, and_self, and_true, true_and, Int.zero_add, ixN_ge, Int.natCast_nonneg, Int.toNat_natCast, Int.cast_ofNat_Int, isin_ty, List.any_cons, List.any_nil, isTy, Bool.true_and, Bool.false_and, Bool.and_true, Bool.and_false, Bool.or_false, Bool.false_or, Bool.or_true, Bool.true_or, Int.reduceEq, Tri.D, List.length_map, range1 _ (show t.ways.length ≤ 16777216 by omega)]
  refine forR_use (P := fun r => fin (seq r _) = .ok _ μ) (fun i ρ μ' => μ' = μ ∧ ρ = [some (.fr (.tup [.tup (t.faces.map D.str), .tup (t.ways.map wD)])), some (.fr (.tup (mix.map rD))), some (.fr (.tup (intL cs))), some (.own (((t.prs mix cs).take i).map pD)), none, none, none, none, none, none, none]) ⟨rfl, rfl⟩ ?_ ?_
  · rintro w x ρ μ' hx ⟨e1, rfl⟩
    rw [e1]
    obtain ⟨hw, rfl⟩ := ints_at hx
    have e := s_lawweight (k) (μ := μ) ok hw (cs := cs) (by have := row_nsum t w cs; omega)
    unfold cl at e
    simp only [Tri.D] at e
    have gm := rget (qs := mix) (i := w) (by omega)
    have h1 := sz_getD hm (i := w) (by omega)
    have := row_nsum t w cs
    have hn := wtn_lt (row_sz ok hw (cs := cs))
    have hd := wtd_lt (row_sz ok hw (cs := cs))
    have m1 : mulOk (mix.getD w 0).num (wtn (t.row w cs)) = true := mul_ok h1.1 hn (by decide) (by omega) (by omega)
    have m2 : mulOk ((mix.getD w 0).den : Nat) (wtd (t.row w cs) : Nat) = true := mul_ok (B := 10) (C := 10 * nsum (t.row w cs) + 1) (by simpa using h1.2) (by simpa using hd) (by decide) (by omega) (by omega)
    have hlen : (((t.prs mix cs).take w).map pD).length ≤ 100 := by simp; omega
    have hp := prs_at (mix := mix) (cs := cs) hw
    generalize mix.getD w 0 = q at *
    simp only [bnd_rb, rb_ok, rb_exc, sb_ok, seq_nx, seq_rt, seq_ex, fin_nx, fin_rt, fin_ex, E_var, E_cst, E_glo, E_dic0, E_tup, E_lst, E_cel, E_op, E_cmp, E_chn, E_not, E_neg, E_con, E_dis, E_ife, E_idx, E_slc, E_call, E_blt, E_isi, E_rng1, E_rng2, E_comp, V_nil, V_cons, A_nil, A_cons, O_nil, O_cons, vr_fr, vo_fr, vo_own, vv_some, kD_fr, kD_own, kBl_ap, kOwn_ap, eo_var, eo_cst, eo_glo, eo_op, eo_idx, eo_slc, eo_call, eo_blt, eo_tup, eo_lst, eo_neg, eo_nt, eo_cmp, eo_con, eo_dis, eo_isi, eo_ife, eo_comp, kOp_ap, kCmp_ap, kCm2_ap, kCh1_ap, kCh2_ap, kCh3_t, kCh3_f, asR_bl, kNot_bl, kNeg_int, kA_bl, kA2_t, kA2_f, kO_bl, kO2_t, kO2_f, kA2_nil, kO2_nil, kIf_bl, kIf2_t, kIf2_f, kIdx_ap, kSl_ap, kSl2_ap, kSl3_ap, oi_mis, kI_int, oi_var, oi_cst, oi_op, oi_neg, oi_idx, oi_blt, oi_call, kR2_int, kComp_ap, kV_ap, kV2_fr, kV2_own, itemsOf_tup, itemsOf_lst, itemsOf_own, itemsOf_cell, itC_lst, itemsOf_wk, E_zip, E_enum, E_revd, E_newc, eo_newc, kZ1_ap, zipD_tt, zipD_ll, enumD_t, enumD_l, revD_t, revD_l, newC_own, kComp_apH, kFor_apH, S_asg, S_asT, S_par, S_exp, S_retv, S_ite, S_whl, S_for, S_setv, S_setc, S_mut, S_pas, B_nil, B_cons, kPar_ap, kExp_ap, kRet_ap, kIte_bl, kIte2_t, kIte2_f, kFor_ap, kSv_ap, kSv2_int, kSc_ap, kSc2_ap, kSc3_cell, kMut_ap, op_add, op_sub, eq_int, ne_int, eq_str, ne_str, ne_shT_self, eq_shT_self, lt_int, le_int, gt_int, ge_int, getIt_0, len_tup, len_lst, abs_int, int_bl, int_int, list_cel, liC_lst, len_cel, lnC_lst, list_tup, list_lst, tuple_lst, tuple_tup, forR_nil, forR_cons, forS_nx, forS_rt, nxP_nx, kAsg_ok, kPar2_ok, kTup_ok, kLst_ok, kCel_ok, S_ret, ne_eq, reduceCtorEq, not_false_eq_true, implies_true, RV.d, frz_nil, frz_cons, frzO_some, frzO_none, List.getElem?_cons_zero, List.getElem?_cons_succ, List.getElem?_nil, List.set_cons_zero, List.set_cons_succ, List.length_cons, List.length_nil, mask_nil, mask_none, mask_some, wipe_nil, wipe_cons, decide_true, decide_false, Bool.not_true, Bool.not_false, Nat.zero_add, Nat.reduceAdd, Nat.reduceLT, Nat.reduceLeDiff, Nat.lt_add_one, List.nil_append, List.cons_append, Nat.reduceSub, List.map_cons, List.map_nil, List.replicate_succ, rep_zero, start_eq, gX_some, getT, getL, getC, gC_lst, Int.reduceToNat, Int.reduceLE, Int.reduceLT, Int.reduceNeg, setO_ap, sO_some, setC_ap, sC_some, kAsT_ap, asT_some, bindT_nm, bindT_tup, bindTs_cons, bO_some, bindTs_nil, turnF_ap, tFo_some, cT_ap, cTo_some, cT2_t, cT2_f, cT3_fr, cT3_own, and_self, and_true, true_and, Int.zero_add, ixN_ge, Int.natCast_nonneg, Int.toNat_natCast, Int.cast_ofNat_Int, isin_ty, List.any_cons, List.any_nil, isTy, Bool.true_and, Bool.false_and, Bool.and_true, Bool.and_false, Bool.or_false, Bool.false_or, Bool.or_true, Bool.true_or, Int.reduceEq, e, Int.natCast_nonneg, Int.toNat_natCast, gm, rD_eq q, op_mul m1, op_mul m2, ha, hlen]
    rw [take_succ_map hp, List.map_append]
    simp [pD]
  · rintro ρ μ' ⟨e1, rfl⟩
    rw [e1, ints_len]
    rw [List.take_of_length_le (by rw [prs_len]; exact Nat.le_refl _)]
    simp only [bnd_rb, rb_ok, rb_exc, sb_ok, seq_nx, seq_rt, seq_ex, fin_nx, fin_rt, fin_ex, E_var, E_cst, E_glo, E_dic0, E_tup, E_lst, E_cel, E_op, E_cmp, E_chn, E_not, E_neg, E_con, E_dis, E_ife, E_idx, E_slc, E_call, E_blt, E_isi, E_rng1, E_rng2, E_comp, V_nil, V_cons, A_nil, A_cons, O_nil, O_cons, vr_fr, vo_fr, vo_own, vv_some, kD_fr, kD_own, kBl_ap, kOwn_ap, eo_var, eo_cst, eo_glo, eo_op, eo_idx, eo_slc, eo_call, eo_blt, eo_tup, eo_lst, eo_neg, eo_nt, eo_cmp, eo_con, eo_dis, eo_isi, eo_ife, eo_comp, kOp_ap, kCmp_ap, kCm2_ap, kCh1_ap, kCh2_ap, kCh3_t, kCh3_f, asR_bl, kNot_bl, kNeg_int, kA_bl, kA2_t, kA2_f, kO_bl, kO2_t, kO2_f, kA2_nil, kO2_nil, kIf_bl, kIf2_t, kIf2_f, kIdx_ap, kSl_ap, kSl2_ap, kSl3_ap, oi_mis, kI_int, oi_var, oi_cst, oi_op, oi_neg, oi_idx, oi_blt, oi_call, kR2_int, kComp_ap, kV_ap, kV2_fr, kV2_own, itemsOf_tup, itemsOf_lst, itemsOf_own, itemsOf_cell, itC_lst, itemsOf_wk, E_zip, E_enum, E_revd, E_newc, eo_newc, kZ1_ap, zipD_tt, zipD_ll, enumD_t, enumD_l, revD_t, revD_l, newC_own, kComp_apH, kFor_apH, S_asg, S_asT, S_par, S_exp, S_retv, S_ite, S_whl, S_for, S_setv, S_setc, S_mut, S_pas, B_nil, B_cons, kPar_ap, kExp_ap, kRet_ap, kIte_bl, kIte2_t, kIte2_f, kFor_ap, kSv_ap, kSv2_int, kSc_ap, kSc2_ap, kSc3_cell, kMut_ap, op_add, op_sub, eq_int, ne_int, eq_str, ne_str, ne_shT_self, eq_shT_self, lt_int, le_int, gt_int, ge_int, getIt_0, len_tup, len_lst, abs_int, int_bl, int_int, list_cel, liC_lst, len_cel, lnC_lst, list_tup, list_lst, tuple_lst, tuple_tup, forR_nil, forR_cons, forS_nx, forS_rt, nxP_nx, kAsg_ok, kPar2_ok, kTup_ok, kLst_ok, kCel_ok, S_ret, ne_eq, reduceCtorEq, not_false_eq_true, implies_true, RV.d, frz_nil, frz_cons, frzO_some, frzO_none, List.getElem?_cons_zero, List.getElem?_cons_succ, List.getElem?_nil, List.set_cons_zero, List.set_cons_succ, List.length_cons, List.length_nil, mask_nil, mask_none, mask_some, wipe_nil, wipe_cons, decide_true, decide_false, Bool.not_true, Bool.not_false, Nat.zero_add, Nat.reduceAdd, Nat.reduceLT, Nat.reduceLeDiff, Nat.lt_add_one, List.nil_append, List.cons_append, Nat.reduceSub, List.map_cons, List.map_nil, List.replicate_succ, rep_zero, start_eq, gX_some, getT, getL, getC, gC_lst, Int.reduceToNat, Int.reduceLE, Int.reduceLT, Int.reduceNeg, setO_ap, sO_some, setC_ap, sC_some, kAsT_ap, asT_some, bindT_nm, bindT_tup, bindTs_cons, bO_some, bindTs_nil, turnF_ap, tFo_some, cT_ap, cTo_some, cT2_t, cT2_f, cT3_fr, cT3_own, and_self, and_true, true_and, Int.zero_add, ixN_ge, Int.natCast_nonneg, Int.toNat_natCast, Int.cast_ofNat_Int, isin_ty, List.any_cons, List.any_nil, isTy, Bool.true_and, Bool.false_and, Bool.and_true, Bool.and_false, Bool.or_false, Bool.false_or, Bool.or_true, Bool.true_or, Int.reduceEq]
    have hbhd : t.bhd mix cs = if rsum ((t.prs mix cs).map qv) = 0 then .non else .tup (((t.prs mix cs).map qv).map fun s => rD (s / rsum ((t.prs mix cs).map qv))) := by rw [prs_qv]; rfl
    have hl4 : (t.prs mix cs).length ≤ 4 := by rw [prs_len]; exact w4
    have hnn2 : 0 ≤ rsum ((t.prs mix cs).map qv) := by rw [prs_qv]; exact rsum_nn (shr_nn ok hnn hl)
    rw [hbhd]
    generalize t.prs mix cs = ps at *
    refine forR_use (P := fun r => fin (seq r _) = .ok _ μ) (fun i ρ μ' => μ' = μ ∧ ρ = [some (.fr (.tup [.tup (t.faces.map D.str), .tup (t.ways.map wD)])), some (.fr (.tup (mix.map rD))), some (.fr (.tup (intL cs))), some (.fr (.lst (ps.map pD))), none, none, none, some (.fr (.int (pprod (ps.take i) : Nat))), none, none, none]) ⟨rfl, rfl⟩ ?_ ?_
    · rintro i x ρ μ' hx ⟨e1, rfl⟩
      rw [e1]
      rw [List.getElem?_map] at hx
      obtain ⟨p, hp, rfl⟩ := Option.map_eq_some_iff.mp hx
      have hi := (List.getElem?_eq_some_iff.mp hp).1
      have pm := pf p (List.mem_of_getElem? hp)
      have sp := pprod_lt (B := 611) (qs := ps.take i) fun q hq => (pf q (List.mem_of_mem_take hq)).2.1
      have m1 : mulOk (pprod (ps.take i) : Nat) (p.2 : Nat) = true := mul_ok (B := 611 * (ps.take i).length + 1) (C := 611) (by simpa using sp) (by simpa using pm.2.1) (by omega) (by decide) (by
        have : (ps.take i).length ≤ 4 := by simp; omega
        have : 611 * (ps.take i).length ≤ 611 * 4 := Nat.mul_le_mul_left _ this
        omega)
      simp only [bnd_rb, rb_ok, rb_exc, sb_ok, seq_nx, seq_rt, seq_ex, fin_nx, fin_rt, fin_ex, E_var, E_cst, E_glo, E_dic0, E_tup, E_lst, E_cel, E_op, E_cmp, E_chn, E_not, E_neg, E_con, E_dis, E_ife, E_idx, E_slc, E_call, E_blt, E_isi, E_rng1, E_rng2, E_comp, V_nil, V_cons, A_nil, A_cons, O_nil, O_cons, vr_fr, vo_fr, vo_own, vv_some, kD_fr, kD_own, kBl_ap, kOwn_ap, eo_var, eo_cst, eo_glo, eo_op, eo_idx, eo_slc, eo_call, eo_blt, eo_tup, eo_lst, eo_neg, eo_nt, eo_cmp, eo_con, eo_dis, eo_isi, eo_ife, eo_comp, kOp_ap, kCmp_ap, kCm2_ap, kCh1_ap, kCh2_ap, kCh3_t, kCh3_f, asR_bl, kNot_bl, kNeg_int, kA_bl, kA2_t, kA2_f, kO_bl, kO2_t, kO2_f, kA2_nil, kO2_nil, kIf_bl, kIf2_t, kIf2_f, kIdx_ap, kSl_ap, kSl2_ap, kSl3_ap, oi_mis, kI_int, oi_var, oi_cst, oi_op, oi_neg, oi_idx, oi_blt, oi_call, kR2_int, kComp_ap, kV_ap, kV2_fr, kV2_own, itemsOf_tup, itemsOf_lst, itemsOf_own, itemsOf_cell, itC_lst, itemsOf_wk, E_zip, E_enum, E_revd, E_newc, eo_newc, kZ1_ap, zipD_tt, zipD_ll, enumD_t, enumD_l, revD_t, revD_l, newC_own, kComp_apH, kFor_apH, S_asg, S_asT, S_par, S_exp, S_retv, S_ite, S_whl, S_for, S_setv, S_setc, S_mut, S_pas, B_nil, B_cons, kPar_ap, kExp_ap, kRet_ap, kIte_bl, kIte2_t, kIte2_f, kFor_ap, kSv_ap, kSv2_int, kSc_ap, kSc2_ap, kSc3_cell, kMut_ap, op_add, op_sub, eq_int, ne_int, eq_str, ne_str, ne_shT_self, eq_shT_self, lt_int, le_int, gt_int, ge_int, getIt_0, len_tup, len_lst, abs_int, int_bl, int_int, list_cel, liC_lst, len_cel, lnC_lst, list_tup, list_lst, tuple_lst, tuple_tup, forR_nil, forR_cons, forS_nx, forS_rt, nxP_nx, kAsg_ok, kPar2_ok, kTup_ok, kLst_ok, kCel_ok, S_ret, ne_eq, reduceCtorEq, not_false_eq_true, implies_true, RV.d, frz_nil, frz_cons, frzO_some, frzO_none, List.getElem?_cons_zero, List.getElem?_cons_succ, List.getElem?_nil, List.set_cons_zero, List.set_cons_succ, List.length_cons, List.length_nil, mask_nil, mask_none, mask_some, wipe_nil, wipe_cons, decide_true, decide_false, Bool.not_true, Bool.not_false, Nat.zero_add, Nat.reduceAdd, Nat.reduceLT, Nat.reduceLeDiff, Nat.lt_add_one, List.nil_append, List.cons_append, Nat.reduceSub, List.map_cons, List.map_nil, List.replicate_succ, rep_zero, start_eq, gX_some, getT, getL, getC, gC_lst, Int.reduceToNat, Int.reduceLE, Int.reduceLT, Int.reduceNeg, setO_ap, sO_some, setC_ap, sC_some, kAsT_ap, asT_some, bindT_nm, bindT_tup, bindTs_cons, bO_some, bindTs_nil, turnF_ap, tFo_some, cT_ap, cTo_some, cT2_t, cT2_f, cT3_fr, cT3_own, and_self, and_true, true_and, Int.zero_add, ixN_ge, Int.natCast_nonneg, Int.toNat_natCast, Int.cast_ofNat_Int, isin_ty, List.any_cons, List.any_nil, isTy, Bool.true_and, Bool.false_and, Bool.and_true, Bool.and_false, Bool.or_false, Bool.false_or, Bool.or_true, Bool.true_or, Int.reduceEq, pD, op_mul m1]
      rw [take_succ_map hp, pprod_snoc, Int.natCast_mul]
    · rintro ρ μ' ⟨e1, rfl⟩
      rw [e1]
      rw [List.length_map, List.take_length]
      have hW0 := pprod_pos (qs := ps) fun q hq => (pf q hq).1
      have hdv : ∀ q ∈ ps, q.2 ∣ pprod ps := fun q hq => pprod_dvd hq
      have hW := pprod_lt (B := 611) (qs := ps) fun q hq => (pf q hq).2.1
      have hW' : pprod ps < 2 ^ 2445 := Nat.lt_of_lt_of_le hW (Nat.pow_le_pow_right (by decide) (by omega))
      have hsum := parts_sum (pprod ps) (fun q hq => (pf q hq).1) hdv
      have hpart : ∀ p ∈ ps, ((p.1 * ((pprod ps : Int).fdiv p.2) : Int) : Rat) = qv p * (pprod ps : Rat) := fun p hp => part_eq (pf p hp).1 (hdv p hp)
      have hfd : ∀ p ∈ ps, (((pprod ps : Nat) : Int).fdiv (p.2 : Nat)).natAbs < 2 ^ 2445 := fun p hp => by
        obtain ⟨c, hc⟩ := hdv p hp
        have h0 := (pf p hp).1
        have e : ((pprod ps : Nat) : Int).fdiv (p.2 : Nat) = c := by
          rw [Int.fdiv_eq_ediv_of_nonneg _ (by omega), hc, Int.natCast_mul, Int.mul_ediv_cancel_left _ (by omega)]
        rw [e, Int.natAbs_natCast]
        refine Nat.lt_of_le_of_lt ?_ hW'
        rw [hc]; exact Nat.le_mul_of_pos_left _ h0
      generalize hWg : pprod ps = W at *
      have c1 : compR (cT (callD reg (k + 1)) (.op .mul (.idx (.var 8) (.cst (.int 0))) (.op .fdiv (.var 7) (.idx (.var 8) (.cst (.int 1))))) (.nm 8) .nil [8] [some (.fr (.tup [.tup (t.faces.map D.str), .tup (t.ways.map wD)])), some (.fr (.tup (mix.map rD))), some (.fr (.tup (intL cs))), some (.fr (.lst (ps.map pD))), none, none, none, some (.fr (.int (W : Nat))), none, none, none]) (ps.map pD) μ
          = .ok ((ps.map fun q => q.1 * ((W : Int).fdiv q.2)).map D.int) μ := by
        rw [compR_map (g := fun x => match x with | .tup [.int a, .int b] => some (.int (a * ((W : Int).fdiv b))) | _ => none)]
        · rw [List.filterMap_map, List.map_map, ← List.filterMap_eq_map]
          rfl
        · intro x hx
          obtain ⟨p, hp, rfl⟩ := List.mem_map.mp hx
          have pm := pf p hp
          have o1 : divOk (p.2 : Nat) = true := divOk_of 611 (by omega) (by simpa using pm.2.1) (by decide) (by decide)
          have m1 : mulOk p.1 (((W : Nat) : Int).fdiv (p.2 : Nat)) = true := mul_ok pm.2.2 (hfd p hp) (by decide) (by decide) (by decide)
          simp only [bnd_rb, rb_ok, rb_exc, sb_ok, seq_nx, seq_rt, seq_ex, fin_nx, fin_rt, fin_ex, E_var, E_cst, E_glo, E_dic0, E_tup, E_lst, E_cel, E_op, E_cmp, E_chn, E_not, E_neg, E_con, E_dis, E_ife, E_idx, E_slc, E_call, E_blt, E_isi, E_rng1, E_rng2, E_comp, V_nil, V_cons, A_nil, A_cons, O_nil, O_cons, vr_fr, vo_fr, vo_own, vv_some, kD_fr, kD_own, kBl_ap, kOwn_ap, eo_var, eo_cst, eo_glo, eo_op, eo_idx, eo_slc, eo_call, eo_blt, eo_tup, eo_lst, eo_neg, eo_nt, eo_cmp, eo_con, eo_dis, eo_isi, eo_ife, eo_comp, kOp_ap, kCmp_ap, kCm2_ap, kCh1_ap, kCh2_ap, kCh3_t, kCh3_f, asR_bl, kNot_bl, kNeg_int, kA_bl, kA2_t, kA2_f, kO_bl, kO2_t, kO2_f, kA2_nil, kO2_nil, kIf_bl, kIf2_t, kIf2_f, kIdx_ap, kSl_ap, kSl2_ap, kSl3_ap, oi_mis, kI_int, oi_var, oi_cst, oi_op, oi_neg, oi_idx, oi_blt, oi_call, kR2_int, kComp_ap, kV_ap, kV2_fr, kV2_own, itemsOf_tup, itemsOf_lst, itemsOf_own, itemsOf_cell, itC_lst, itemsOf_wk, E_zip, E_enum, E_revd, E_newc, eo_newc, kZ1_ap, zipD_tt, zipD_ll, enumD_t, enumD_l, revD_t, revD_l, newC_own, kComp_apH, kFor_apH, S_asg, S_asT, S_par, S_exp, S_retv, S_ite, S_whl, S_for, S_setv, S_setc, S_mut, S_pas, B_nil, B_cons, kPar_ap, kExp_ap, kRet_ap, kIte_bl, kIte2_t, kIte2_f, kFor_ap, kSv_ap, kSv2_int, kSc_ap, kSc2_ap, kSc3_cell, kMut_ap, op_add, op_sub, eq_int, ne_int, eq_str, ne_str, ne_shT_self, eq_shT_self, lt_int, le_int, gt_int, ge_int, getIt_0, len_tup, len_lst, abs_int, int_bl, int_int, list_cel, liC_lst, len_cel, lnC_lst, list_tup, list_lst, tuple_lst, tuple_tup, forR_nil, forR_cons, forS_nx, forS_rt, nxP_nx, kAsg_ok, kPar2_ok, kTup_ok, kLst_ok, kCel_ok, S_ret, ne_eq, reduceCtorEq, not_false_eq_true, implies_true, RV.d, frz_nil, frz_cons, frzO_some, frzO_none, List.getElem?_cons_zero, List.getElem?_cons_succ, List.getElem?_nil, List.set_cons_zero, List.set_cons_succ, List.length_cons, List.length_nil, mask_nil, mask_none, mask_some, wipe_nil, wipe_cons, decide_true, decide_false, Bool.not_true, Bool.not_false, Nat.zero_add, Nat.reduceAdd, Nat.reduceLT, Nat.reduceLeDiff, Nat.lt_add_one, List.nil_append, List.cons_append, Nat.reduceSub, List.map_cons, List.map_nil, List.replicate_succ, rep_zero, start_eq, gX_some, getT, getL, getC, gC_lst, Int.reduceToNat, Int.reduceLE, Int.reduceLT, Int.reduceNeg, setO_ap, sO_some, setC_ap, sC_some, kAsT_ap, asT_some, bindT_nm, bindT_tup, bindTs_cons, bO_some, bindTs_nil, turnF_ap, tFo_some, cT_ap, cTo_some, cT2_t, cT2_f, cT3_fr, cT3_own, and_self, and_true, true_and, Int.zero_add, ixN_ge, Int.natCast_nonneg, Int.toNat_natCast, Int.cast_ofNat_Int, isin_ty, List.any_cons, List.any_nil, isTy, Bool.true_and, Bool.false_and, Bool.and_true, Bool.and_false, Bool.or_false, Bool.false_or, Bool.or_true, Bool.true_or, Int.reduceEq, pD, op_fdiv o1, op_mul m1]
      have hSl : (ps.map fun q => q.1 * ((W : Int).fdiv q.2)).sum.natAbs < 2 ^ 9000 := by
        have h1 := isum_lt (B := 611 + 2445) (l := ps.map fun q => q.1 * ((W : Int).fdiv q.2)) fun x hx => by
          obtain ⟨p, hp, rfl⟩ := List.mem_map.mp hx
          exact imul_lt (pf p hp).2.2 (hfd p hp)
        have h2 : (ps.map fun q => q.1 * ((W : Int).fdiv q.2)).length * 2 ^ (611 + 2445) ≤ 4 * 2 ^ (611 + 2445) := Nat.mul_le_mul_right _ (by simpa using hl4)
        have h3 : 4 * 2 ^ (611 + 2445) = 2 ^ (611 + 2445 + 2) := by rw [Nat.pow_add]; omega
        have h4 : (2 : Nat) ^ (611 + 2445 + 2) < 2 ^ 9000 := Nat.pow_lt_pow_right (by decide) (by decide)
        omega
      have hWne : (W : Rat) ≠ 0 := nat_ne0 hW0
      have hWpos : (0 : Rat) ≤ (W : Rat) := by exact_mod_cast Nat.zero_le W
      generalize hS : (ps.map fun q => q.1 * ((W : Int).fdiv q.2)).sum = S at *
      have hSnn : 0 ≤ S := by
        have : (0 : Rat) ≤ (S : Rat) := by rw [hsum]; exact Rat.mul_nonneg hnn2 hWpos
        exact_mod_cast this
      by_cases hS0 : S = 0
      · have h0 : rsum (ps.map qv) = 0 := by
          rw [hS0] at hsum
          have : rsum (ps.map qv) * (W : Rat) = 0 := by rw [← hsum]; rfl
          grind
        have ht : decide (S = 0) = true := decide_eq_true hS0
        simp only [bnd_rb, rb_ok, rb_exc, sb_ok, seq_nx, seq_rt, seq_ex, fin_nx, fin_rt, fin_ex, E_var, E_cst, E_glo, E_dic0, E_tup, E_lst, E_cel, E_op, E_cmp, E_chn, E_not, E_neg, E_con, E_dis, E_ife, E_idx, E_slc, E_call, E_blt, E_isi, E_rng1, E_rng2, E_comp, V_nil, V_cons, A_nil, A_cons, O_nil, O_cons, vr_fr, vo_fr, vo_own, vv_some, kD_fr, kD_own, kBl_ap, kOwn_ap, eo_var, eo_cst, eo_glo, eo_op, eo_idx, eo_slc, eo_call, eo_blt, eo_tup, eo_lst, eo_neg, eo_nt, eo_cmp, eo_con, eo_dis, eo_isi, eo_ife, eo_comp, kOp_ap, kCmp_ap, kCm2_ap, kCh1_ap, kCh2_ap, kCh3_t, kCh3_f, asR_bl, kNot_bl, kNeg_int, kA_bl, kA2_t, kA2_f, kO_bl, kO2_t, kO2_f, kA2_nil, kO2_nil, kIf_bl, kIf2_t, kIf2_f, kIdx_ap, kSl_ap, kSl2_ap, kSl3_ap, oi_mis, kI_int, oi_var, oi_cst, oi_op, oi_neg, oi_idx, oi_blt, oi_call, kR2_int, kComp_ap, kV_ap, kV2_fr, kV2_own, itemsOf_tup, itemsOf_lst, itemsOf_own, itemsOf_cell, itC_lst, itemsOf_wk, E_zip, E_enum, E_revd, E_newc, eo_newc, kZ1_ap, zipD_tt, zipD_ll, enumD_t, enumD_l, revD_t, revD_l, newC_own, kComp_apH, kFor_apH, S_asg, S_asT, S_par, S_exp, S_retv, S_ite, S_whl, S_for, S_setv, S_setc, S_mut, S_pas, B_nil, B_cons, kPar_ap, kExp_ap, kRet_ap, kIte_bl, kIte2_t, kIte2_f, kFor_ap, kSv_ap, kSv2_int, kSc_ap, kSc2_ap, kSc3_cell, kMut_ap, op_add, op_sub, eq_int, ne_int, eq_str, ne_str, ne_shT_self, eq_shT_self, lt_int, le_int, gt_int, ge_int, getIt_0, len_tup, len_lst, abs_int, int_bl, int_int, list_cel, liC_lst, len_cel, lnC_lst, list_tup, list_lst, tuple_lst, tuple_tup, forR_nil, forR_cons, forS_nx, forS_rt, nxP_nx, kAsg_ok, kPar2_ok, kTup_ok, kLst_ok, kCel_ok, S_ret, ne_eq, reduceCtorEq, not_false_eq_true, implies_true, RV.d, frz_nil, frz_cons, frzO_some, frzO_none, List.getElem?_cons_zero, List.getElem?_cons_succ, List.getElem?_nil, List.set_cons_zero, List.set_cons_succ, List.length_cons, List.length_nil, mask_nil, mask_none, mask_some, wipe_nil, wipe_cons, decide_true, decide_false, Bool.not_true, Bool.not_false, Nat.zero_add, Nat.reduceAdd, Nat.reduceLT, Nat.reduceLeDiff, Nat.lt_add_one, List.nil_append, List.cons_append, Nat.reduceSub, List.map_cons, List.map_nil, List.replicate_succ, rep_zero, start_eq, gX_some, getT, getL, getC, gC_lst, Int.reduceToNat, Int.reduceLE, Int.reduceLT, Int.reduceNeg, setO_ap, sO_some, setC_ap, sC_some, kAsT_ap, asT_some, bindT_nm, bindT_tup, bindTs_cons, bO_some, bindTs_nil, turnF_ap, tFo_some, cT_ap, cTo_some, cT2_t, cT2_f, cT3_fr, cT3_own, and_self, and_true, true_and, Int.zero_add, ixN_ge, Int.natCast_nonneg, Int.toNat_natCast, Int.cast_ofNat_Int, isin_ty, List.any_cons, List.any_nil, isTy, Bool.true_and, Bool.false_and, Bool.and_true, Bool.and_false, Bool.or_false, Bool.false_or, Bool.or_true, Bool.true_or, Int.reduceEq, c1, sum_ints, hS, ht]
        rw [if_pos h0]
      · have h0 : rsum (ps.map qv) ≠ 0 := fun z => by
          rw [z, Rat.zero_mul] at hsum
          exact hS0 (by exact_mod_cast hsum)
        have hSne : (S : Rat) ≠ 0 := fun z => hS0 (by exact_mod_cast z)
        have ht : decide (S = 0) = false := decide_eq_false hS0
        have c2 : compR (cT (callD reg (k + 1)) (.call 16 (.cons (.var 10) (.cons (.blt .sum (.var 9)) .nil))) (.nm 10) .nil [10] [some (.fr (.tup [.tup (t.faces.map D.str), .tup (t.ways.map wD)])), some (.fr (.tup (mix.map rD))), some (.fr (.tup (intL cs))), some (.fr (.lst (ps.map pD))), none, none, none, some (.fr (.int (W : Nat))), none, some (.fr (.lst ((ps.map fun q => q.1 * ((W : Int).fdiv q.2)).map D.int))), none]) ((ps.map fun q => q.1 * ((W : Int).fdiv q.2)).map D.int) μ
            = .ok ((ps.map qv).map fun s => rD (s / rsum (ps.map qv))) μ := by
          rw [compR_map (g := fun x => match x with | .int a => some (rD (Rat.divInt a S)) | _ => none)]
          · rw [List.map_map, List.map_map, List.filterMap_map]
            congr 1
            have : ∀ (l : List (Int × Nat)), (∀ p ∈ l, p ∈ ps) → l.filterMap ((fun x => match x with | D.int a => some (rD (Rat.divInt a S)) | _ => none) ∘ (D.int ∘ fun q => q.1 * ((W : Int).fdiv q.2))) = l.map ((fun s => rD (s / rsum (ps.map qv))) ∘ qv) := by
              intro l
              induction l with
              | nil => intro _; rfl
              | cons p l ih =>
                intro h
                rw [List.filterMap_cons, List.map_cons, ih fun x hx => h x (List.mem_cons_of_mem _ hx)]
                simp only [Function.comp_apply]
                congr 2
                rw [Rat.divInt_eq_div, hpart p (h p List.mem_cons_self), hsum]
                grind
            exact this ps fun _ h => h
          · intro x hx
            obtain ⟨a, ha', rfl⟩ := List.mem_map.mp hx
            have e := s_low k (n := a) (d := S) (by omega) hSl μ
            unfold cl at e
            simp only [bnd_rb, rb_ok, rb_exc, sb_ok, seq_nx, seq_rt, seq_ex, fin_nx, fin_rt, fin_ex, E_var, E_cst, E_glo, E_dic0, E_tup, E_lst, E_cel, E_op, E_cmp, E_chn, E_not, E_neg, E_con, E_dis, E_ife, E_idx, E_slc, E_call, E_blt, E_isi, E_rng1, E_rng2, E_comp, V_nil, V_cons, A_nil, A_cons, O_nil, O_cons, vr_fr, vo_fr, vo_own, vv_some, kD_fr, kD_own, kBl_ap, kOwn_ap, eo_var, eo_cst, eo_glo, eo_op, eo_idx, eo_slc, eo_call, eo_blt, eo_tup, eo_lst, eo_neg, eo_nt, eo_cmp, eo_con, eo_dis, eo_isi, eo_ife, eo_comp, kOp_ap, kCmp_ap, kCm2_ap, kCh1_ap, kCh2_ap, kCh3_t, kCh3_f, asR_bl, kNot_bl, kNeg_int, kA_bl, kA2_t, kA2_f, kO_bl, kO2_t, kO2_f, kA2_nil, kO2_nil, kIf_bl, kIf2_t, kIf2_f, kIdx_ap, kSl_ap, kSl2_ap, kSl3_ap, oi_mis, kI_int, oi_var, oi_cst, oi_op, oi_neg, oi_idx, oi_blt, oi_call, kR2_int, kComp_ap, kV_ap, kV2_fr, kV2_own, itemsOf_tup, itemsOf_lst, itemsOf_own, itemsOf_cell, itC_lst, itemsOf_wk, E_zip, E_enum, E_revd, E_newc, eo_newc, kZ1_ap, zipD_tt, zipD_ll, enumD_t, enumD_l, revD_t, revD_l, newC_own, kComp_apH, kFor_apH, S_asg, S_asT, S_par, S_exp, S_retv, S_ite, S_whl, S_for, S_setv, S_setc, S_mut, S_pas, B_nil, B_cons, kPar_ap, kExp_ap, kRet_ap, kIte_bl, kIte2_t, kIte2_f, kFor_ap, kSv_ap, kSv2_int, kSc_ap, kSc2_ap, kSc3_cell, kMut_ap, op_add, op_sub, eq_int, ne_int, eq_str, ne_str, ne_shT_self, eq_shT_self, lt_int, le_int, gt_int, ge_int, getIt_0, len_tup, len_lst, abs_int, int_bl, int_int, list_cel, liC_lst, len_cel, lnC_lst, list_tup, list_lst, tuple_lst, tuple_tup, forR_nil, forR_cons, forS_nx, forS_rt, nxP_nx, kAsg_ok, kPar2_ok, kTup_ok, kLst_ok, kCel_ok, S_ret, ne_eq, reduceCtorEq, not_false_eq_true, implies_true, RV.d, frz_nil, frz_cons, frzO_some, frzO_none, List.getElem?_cons_zero, List.getElem?_cons_succ, List.getElem?_nil, List.set_cons_zero, List.set_cons_succ, List.length_cons, List.length_nil, mask_nil, mask_none, mask_some, wipe_nil, wipe_cons, decide_true, decide_false, Bool.not_true, Bool.not_false, Nat.zero_add, Nat.reduceAdd, Nat.reduceLT, Nat.reduceLeDiff, Nat.lt_add_one, List.nil_append, List.cons_append, Nat.reduceSub, List.map_cons, List.map_nil, List.replicate_succ, rep_zero, start_eq, gX_some, getT, getL, getC, gC_lst, Int.reduceToNat, Int.reduceLE, Int.reduceLT, Int.reduceNeg, setO_ap, sO_some, setC_ap, sC_some, kAsT_ap, asT_some, bindT_nm, bindT_tup, bindTs_cons, bO_some, bindTs_nil, turnF_ap, tFo_some, cT_ap, cTo_some, cT2_t, cT2_f, cT3_fr, cT3_own, and_self, and_true, true_and, Int.zero_add, ixN_ge, Int.natCast_nonneg, Int.toNat_natCast, Int.cast_ofNat_Int, isin_ty, List.any_cons, List.any_nil, isTy, Bool.true_and, Bool.false_and, Bool.and_true, Bool.and_false, Bool.or_false, Bool.false_or, Bool.or_true, Bool.true_or, Int.reduceEq, sum_ints, hS, e]
        simp only [bnd_rb, rb_ok, rb_exc, sb_ok, seq_nx, seq_rt, seq_ex, fin_nx, fin_rt, fin_ex, E_var, E_cst, E_glo, E_dic0, E_tup, E_lst, E_cel, E_op, E_cmp, E_chn, E_not, E_neg, E_con, E_dis, E_ife, E_idx, E_slc, E_call, E_blt, E_isi, E_rng1, E_rng2, E_comp, V_nil, V_cons, A_nil, A_cons, O_nil, O_cons, vr_fr, vo_fr, vo_own, vv_some, kD_fr, kD_own, kBl_ap, kOwn_ap, eo_var, eo_cst, eo_glo, eo_op, eo_idx, eo_slc, eo_call, eo_blt, eo_tup, eo_lst, eo_neg, eo_nt, eo_cmp, eo_con, eo_dis, eo_isi, eo_ife, eo_comp, kOp_ap, kCmp_ap, kCm2_ap, kCh1_ap, kCh2_ap, kCh3_t, kCh3_f, asR_bl, kNot_bl, kNeg_int, kA_bl, kA2_t, kA2_f, kO_bl, kO2_t, kO2_f, kA2_nil, kO2_nil, kIf_bl, kIf2_t, kIf2_f, kIdx_ap, kSl_ap, kSl2_ap, kSl3_ap, oi_mis, kI_int, oi_var, oi_cst, oi_op, oi_neg, oi_idx, oi_blt, oi_call, kR2_int, kComp_ap, kV_ap, kV2_fr, kV2_own, itemsOf_tup, itemsOf_lst, itemsOf_own, itemsOf_cell, itC_lst, itemsOf_wk, E_zip, E_enum, E_revd, E_newc, eo_newc, kZ1_ap, zipD_tt, zipD_ll, enumD_t, enumD_l, revD_t, revD_l, newC_own, kComp_apH, kFor_apH, S_asg, S_asT, S_par, S_exp, S_retv, S_ite, S_whl, S_for, S_setv, S_setc, S_mut, S_pas, B_nil, B_cons, kPar_ap, kExp_ap, kRet_ap, kIte_bl, kIte2_t, kIte2_f, kFor_ap, kSv_ap, kSv2_int, kSc_ap, kSc2_ap, kSc3_cell, kMut_ap, op_add, op_sub, eq_int, ne_int, eq_str, ne_str, ne_shT_self, eq_shT_self, lt_int, le_int, gt_int, ge_int, getIt_0, len_tup, len_lst, abs_int, int_bl, int_int, list_cel, liC_lst, len_cel, lnC_lst, list_tup, list_lst, tuple_lst, tuple_tup, forR_nil, forR_cons, forS_nx, forS_rt, nxP_nx, kAsg_ok, kPar2_ok, kTup_ok, kLst_ok, kCel_ok, S_ret, ne_eq, reduceCtorEq, not_false_eq_true, implies_true, RV.d, frz_nil, frz_cons, frzO_some, frzO_none, List.getElem?_cons_zero, List.getElem?_cons_succ, List.getElem?_nil, List.set_cons_zero, List.set_cons_succ, List.length_cons, List.length_nil, mask_nil, mask_none, mask_some, wipe_nil, wipe_cons, decide_true, decide_false, Bool.not_true, Bool.not_false, Nat.zero_add, Nat.reduceAdd, Nat.reduceLT, Nat.reduceLeDiff, Nat.lt_add_one, List.nil_append, List.cons_append, Nat.reduceSub, List.map_cons, List.map_nil, List.replicate_succ, rep_zero, start_eq, gX_some, getT, getL, getC, gC_lst, Int.reduceToNat, Int.reduceLE, Int.reduceLT, Int.reduceNeg, setO_ap, sO_some, setC_ap, sC_some, kAsT_ap, asT_some, bindT_nm, bindT_tup, bindTs_cons, bO_some, bindTs_nil, turnF_ap, tFo_some, cT_ap, cTo_some, cT2_t, cT2_f, cT3_fr, cT3_own, and_self, and_true, true_and, Int.zero_add, ixN_ge, Int.natCast_nonneg, Int.toNat_natCast, Int.cast_ofNat_Int, isin_ty, List.any_cons, List.any_nil, isTy, Bool.true_and, Bool.false_and, Bool.and_true, Bool.and_false, Bool.or_false, Bool.false_or, Bool.or_true, Bool.true_or, Int.reduceEq, c1, sum_ints, hS, ht, c2]
        rw [if_neg h0]
theorem rDs_shk {B : Nat} {qs : List Rat} (h : ∀ q ∈ qs, Sz 1900 q) : shks (qs.map rD) = true := by
  rw [shks_all, List.all_map, List.all_eq_true]
  intro q hq
  exact rD_shk (h q hq)
theorem rDs_nodes : ∀ qs : List Rat, nodess (qs.map rD) = 3 * qs.length
  | [] => rfl
  | q :: qs => by
    rw [List.map_cons, nodess, rDs_nodes qs, List.length_cons]
    simp [rD, D.nodes, nodess]
    omega
theorem repr_rDs {qs : List Rat} (h : ∀ q ∈ qs, Sz 1900 q) (hl : qs.length ≤ 2000) (μ : Mu) : blt1 .repr (.tup (qs.map rD)) μ = .ok (.fr (shT (.tup (qs.map rD)))) μ := by
  refine repr_ok rfl ?_ ?_ ?_
  · simp only [D.eqk]; exact rDs_eqk qs 59 (by decide)
  · simp only [D.shk]; exact rDs_shk (B := 0) h
  · simp only [D.nodes, rDs_nodes]; omega
theorem bhd_list {t : Tri} {mix : List Rat} {cs : List Nat} (h0 : rsum (t.shr mix cs) ≠ 0) : t.bhd mix cs = .tup (((t.shr mix cs).map fun s => s / rsum (t.shr mix cs)).map rD) := by
  unfold Tri.bhd
  rw [if_neg h0, List.map_map]
  rfl
theorem rsum_sz4 {B : Nat} {qs : List Rat} (h : ∀ q ∈ qs, Sz B q) (hl : qs.length ≤ 4) : Sz (4 * (B + 1) + 1) (rsum qs) := (Sz_rsum h).mono (by
  have : qs.length * (B + 1) ≤ 4 * (B + 1) := Nat.mul_le_mul_right _ hl
  omega)
theorem wtl_zero : ∀ {l : List (Rat × Nat)}, (∀ p ∈ l, p.2 = 0) → wtl l = 1 := fun {l} => by
  induction l using list_snoc_ind with
  | h0 => exact fun _ => rfl
  | hs l x ih =>
    intro h
    rw [wtl_snoc, ih fun p hp => h p (List.mem_append_left _ hp), h x (List.mem_append_right _ (List.mem_singleton.mpr rfl)), Rat.pow_zero, Rat.mul_one]
theorem eq_self {μ : Mu} {a : D} (hk : (a.see μ).eqk 60 = true) : cmp2 .eq a a μ = .ok true μ := by
  have e := eqv_self 60 _ hk
  have g : (fun μ => guard' ((a.see μ).eqk 60 && (a.see μ).eqk 60) (ret (PySem.PyData.eqv (a.see μ).py (a.see μ).py)) μ) μ = R.ok true μ := by
    simp [hk, e, guard', ret]
  cases a <;> first | exact g | (simp [cmp2, ret])
end Sx
set_option maxHeartbeats 200000
/-! # rows of looks and their counts -/
namespace Sx
open PySem (Str)
/-- a comprehension over things that stand for others -/
theorem compR_on {α : Type} {f : D → M (Option D)} {h : α → D} (g : α → Option D) {μ : Mu} : ∀ {xs : List α}, (∀ a ∈ xs, f (h a) μ = .ok (g a) μ) → compR f (xs.map h) μ = .ok (xs.filterMap g) μ
  | [], _ => rfl
  | x :: xs, hx => by
    have e1 := hx x List.mem_cons_self
    have e2 := compR_on (xs := xs) g fun y hy => hx y (List.mem_cons_of_mem _ hy)
    simp only [List.map_cons, compR, bnd, e1, e2, ret, List.filterMap_cons]
    cases g x <;> rfl
/-- where each gives one -/
theorem compR_all {α : Type} {f : D → M (Option D)} {h : α → D} (g : α → D) {μ : Mu} {xs : List α} (hx : ∀ a ∈ xs, f (h a) μ = .ok (some (g a)) μ) : compR f (xs.map h) μ = .ok (xs.map g) μ := by
  rw [compR_on (fun a => some (g a)) hx]
  congr 1
  exact congrFun List.filterMap_eq_map xs
/-- where some are left out -/
theorem compR_some {α : Type} {f : D → M (Option D)} {h : α → D} (p : α → Bool) (g : α → D) {μ : Mu} {xs : List α} (hx : ∀ a ∈ xs, f (h a) μ = .ok (if p a = true then some (g a) else none) μ) : compR f (xs.map h) μ = .ok ((xs.filter p).map g) μ := by
  rw [compR_on (fun a => if p a = true then some (g a) else none) hx]
  congr 1
  clear hx
  induction xs with
  | nil => rfl
  | cons x xs ih => rw [List.filterMap_cons, List.filter_cons]; cases h : p x <;> simp [h, ih]
theorem ints_on (n : Nat) : intsFrom 0 n = (List.range n).map fun j => D.int ((j : Nat) : Int) := by
  unfold intsFrom
  congr 1
  funext j
  rw [Int.zero_add]
def cD (c : List Nat) : D := .tup (intL c)
/-! ## the defs, in plain -/
def shOf (qs : List Rat) (row : List Nat) : Rat := row.foldl (fun a f => a * qs.getD f 0) 1
def cntOf (F : Nat) (row : List Nat) : List Nat := (List.range F).map fun f => (row.filter fun x => x == f).length
def rtStep (s : Nat × Nat) (c : Nat) : Nat × Nat := (List.range c).foldl (fun s k => (s.1 * (s.2 + 1) / (k + 1), s.2 + 1)) s
def rto (cs : List Nat) : Nat := (cs.foldl rtStep (1, 0)).1
def cw : Nat → Nat → List (List Nat)
  | 0, _ => []
  | 1, n => [[n]]
  | F + 2, n => (List.range (n + 1)).flatMap fun a => (cw (F + 1) (n - a)).map fun r => a :: r
def allc (F n : Nat) : List (List Nat) := (List.range (n + 1)).flatMap fun m => cw F m
def longer (rows : List (List Nat)) (F : Nat) : List (List Nat) := rows.flatMap fun r => (List.range F).map fun f => r ++ [f]
def rowsL (F : Nat) : Nat → List (List Nat)
  | 0 => [[]]
  | n + 1 => longer (rowsL F n) F
theorem shOf_snoc (qs : List Rat) (r : List Nat) (f : Nat) : shOf qs (r ++ [f]) = shOf qs r * qs.getD f 0 := by unfold shOf; rw [List.foldl_append]; rfl
theorem shOf_sz {qs : List Rat} (h : ∀ q ∈ qs, Sz 10 q) {row : List Nat} : (∀ f ∈ row, f < qs.length) → Sz (10 * row.length + 1) (shOf qs row) := by
  induction row using list_snoc_ind with
  | h0 => exact fun _ => Sz_one
  | hs l x ih =>
    intro hr
    rw [shOf_snoc]
    have h1 := ih fun f hf => hr f (List.mem_append_left _ hf)
    have h2 := sz_getD h (hr x (List.mem_append_right _ (List.mem_singleton.mpr rfl)))
    exact (Sz.mul h1 h2).mono (by simp; omega)
theorem s_shareof (k : Nat) {μ : Mu} {t : Tri} (ok : TriOk t) {w : Nat} (hw : w < t.ways.length) {row : List Nat} (hr : ∀ f ∈ row, f < t.faces.length) (hl : row.length ≤ 800) :
    cl (k + 4) 32 [t.D, .int (w : Nat), cD row] μ = .ok (.fr (rD (shOf (t.ways.getD w ("", [])).2 row))) μ := by
  have gw := way_get hw
  have sh := ok.sh _ (way_mem hw)
  have hwD : ∀ x : Str × List Rat, wD x = .tup [.str x.1, .tup (x.2.map rD)] := fun _ => rfl
  rw [cl, call_eq r32 rfl, g32]
  simp only [bnd_rb, rb_ok, rb_exc, sb_ok, seq_nx, seq_rt, seq_ex, fin_nx, fin_rt, fin_ex, E_var, E_cst, E_glo, E_dic0, E_tup, E_lst, E_cel, E_op, E_cmp, E_chn, E_not, E_neg, E_con, E_dis, E_ife, E_idx, E_slc, E_call, E_blt, E_isi, E_rng1, E_rng2, E_comp, V_nil, V_cons, A_nil, A_cons, O_nil, O_cons, vr_fr, vo_fr, vo_own, vv_some, kD_fr, kD_own, kBl_ap, kOwn_ap, eo_var, eo_cst, eo_glo, eo_op, eo_idx, eo_slc, eo_call, eo_blt, eo_tup, eo_lst, eo_neg, eo_nt, eo_cmp, eo_con, eo_dis, eo_isi, eo_ife, eo_comp, kOp_ap, kCmp_ap, kCm2_ap, kCh1_ap, kCh2_ap, kCh3_t, kCh3_f, asR_bl, kNot_bl, kNeg_int, kA_bl, kA2_t, kA2_f, kO_bl, kO2_t, kO2_f, kA2_nil, kO2_nil, kIf_bl, kIf2_t, kIf2_f, kIdx_ap, kSl_ap, kSl2_ap, kSl3_ap, oi_mis, kI_int, oi_var, oi_cst, oi_op, oi_neg, oi_idx, oi_blt, oi_call, kR2_int, kComp_ap, kV_ap, kV2_fr, kV2_own, itemsOf_tup, itemsOf_lst, itemsOf_own, itemsOf_cell, itC_lst, itemsOf_wk, E_zip, E_enum, E_revd, E_newc, eo_newc, kZ1_ap, zipD_tt, zipD_ll, enumD_t, enumD_l, revD_t, revD_l, newC_own, kComp_apH, kFor_apH, S_asg, S_asT, S_par, S_exp, S_retv, S_ite, S_whl, S_for, S_setv, S_setc, S_mut, S_pas, B_nil, B_cons, kPar_ap, kExp_ap, kRet_ap, kIte_bl, kIte2_t, kIte2_f, kFor_ap, kSv_ap, kSv2_int, kSc_ap, kSc2_ap, kSc3_cell, kMut_ap, op_add, op_sub, eq_int, ne_int, eq_str, ne_str, ne_shT_self, eq_shT_self, lt_int, le_int, gt_int, ge_int, getIt_0, len_tup, len_lst, abs_int, int_bl, int_int, list_cel, liC_lst, len_cel, lnC_lst, list_tup, list_lst, tuple_lst, tuple_tup, forR_nil, forR_cons, forS_nx, forS_rt, nxP_nx, kAsg_ok, kPar2_ok, kTup_ok, kLst_ok, kCel_ok, S_ret, ne_eq, reduceCtorEq, not_false_eq_true, implies_true, RV.d, frz_nil, frz_cons, frzO_some, frzO_none, List.getElem?_cons_zero, List.getElem?_cons_succ, List.getElem?_nil, List.set_cons_zero, List.set_cons_succ, List.length_cons, List.length_nil, mask_nil, mask_none, mask_some, wipe_nil, wipe_cons, decide_true, decide_false, Bool.not_true, Bool.not_false, Nat.zero_add, Nat.reduceAdd, Nat.reduceLT, Nat.reduceLeDiff, Nat.lt_add_one, List.nil_append, List.cons_append, Nat.reduceSub, List.map_cons, List.map_nil, List.replicate_succ, rep_zero, start_eq, gX_some, getT, getL, getC, gC_lst, Int.reduceToNat, Int.reduceLE, Int.reduceLT, Int.reduceNeg, setO_ap, sO_some, setC_ap, sC_some, kAsT_ap, asT_some, bindT_nm, bindT_tup, bindTs_cons, bO_some, bindTs_nil, turnF_ap, tFo_some, cT_ap, cTo_some, cT2_t, cT2_f, cT3_fr, cT3_own, and_self, and_true, true_and, Int.zero_add, ixN_ge, Int.natCast_nonneg, Int.toNat_natCast, Int.cast_ofNat_Int, isin_ty, List.any_cons, List.any_nil, isTy, Bool.true_and, Bool.false_and, Bool.and_true, Bool.and_false, Bool.or_false, Bool.false_or, Bool.or_true, Bool.true_or, Int.reduceEq, rD1, Tri.D, cD]
  refine forR_use (P := fun r => fin (seq r _) = .ok _ μ) (fun i ρ μ' => μ' = μ ∧ ρ = [some (.fr (.tup [.tup (t.faces.map D.str), .tup (t.ways.map wD)])), some (.fr (.int (w : Nat))), some (.fr (.tup (intL row))), some (.fr (rD (shOf (t.ways.getD w ("", [])).2 (row.take i)))), none]) ⟨rfl, rfl⟩ ?_ ?_
  · rintro i x ρ μ' hx ⟨e1, rfl⟩
    rw [e1]
    unfold intL at hx
    rw [List.getElem?_map] at hx
    obtain ⟨f, hf, rfl⟩ := Option.map_eq_some_iff.mp hx
    have hi := (List.getElem?_eq_some_iff.mp hf).1
    have hfl := hr f (List.mem_of_getElem? hf)
    have gq := rget (qs := (t.ways.getD w ("", [])).2) (i := f) (by omega)
    have s1 := shOf_sz (qs := (t.ways.getD w ("", [])).2) sh.1.sz (row := row.take i) fun y hy => by rw [sh.2]; exact hr y (List.mem_of_mem_take hy)
    have s2 := sz_getD sh.1.sz (i := f) (by omega)
    have e := s_times k (μ := μ) s1 s2 (by
      have : (row.take i).length ≤ 800 := by simp; omega
      omega)
    unfold cl at e
    simp only [bnd_rb, rb_ok, rb_exc, sb_ok, seq_nx, seq_rt, seq_ex, fin_nx, fin_rt, fin_ex, E_var, E_cst, E_glo, E_dic0, E_tup, E_lst, E_cel, E_op, E_cmp, E_chn, E_not, E_neg, E_con, E_dis, E_ife, E_idx, E_slc, E_call, E_blt, E_isi, E_rng1, E_rng2, E_comp, V_nil, V_cons, A_nil, A_cons, O_nil, O_cons, vr_fr, vo_fr, vo_own, vv_some, kD_fr, kD_own, kBl_ap, kOwn_ap, eo_var, eo_cst, eo_glo, eo_op, eo_idx, eo_slc, eo_call, eo_blt, eo_tup, eo_lst, eo_neg, eo_nt, eo_cmp, eo_con, eo_dis, eo_isi, eo_ife, eo_comp, kOp_ap, kCmp_ap, kCm2_ap, kCh1_ap, kCh2_ap, kCh3_t, kCh3_f, asR_bl, kNot_bl, kNeg_int, kA_bl, kA2_t, kA2_f, kO_bl, kO2_t, kO2_f, kA2_nil, kO2_nil, kIf_bl, kIf2_t, kIf2_f, kIdx_ap, kSl_ap, kSl2_ap, kSl3_ap, oi_mis, kI_int, oi_var, oi_cst, oi_op, oi_neg, oi_idx, oi_blt, oi_call, kR2_int, kComp_ap, kV_ap, kV2_fr, kV2_own, itemsOf_tup, itemsOf_lst, itemsOf_own, itemsOf_cell, itC_lst, itemsOf_wk, E_zip, E_enum, E_revd, E_newc, eo_newc, kZ1_ap, zipD_tt, zipD_ll, enumD_t, enumD_l, revD_t, revD_l, newC_own, kComp_apH, kFor_apH, S_asg, S_asT, S_par, S_exp, S_retv, S_ite, S_whl, S_for, S_setv, S_setc, S_mut, S_pas, B_nil, B_cons, kPar_ap, kExp_ap, kRet_ap, kIte_bl, kIte2_t, kIte2_f, kFor_ap, kSv_ap, kSv2_int, kSc_ap, kSc2_ap, kSc3_cell, kMut_ap, op_add, op_sub, eq_int, ne_int, eq_str, ne_str, ne_shT_self, eq_shT_self, lt_int, le_int, gt_int, ge_int, getIt_0, len_tup, len_lst, abs_int, int_bl, int_int, list_cel, liC_lst, len_cel, lnC_lst, list_tup, list_lst, tuple_lst, tuple_tup, forR_nil, forR_cons, forS_nx, forS_rt, nxP_nx, kAsg_ok, kPar2_ok, kTup_ok, kLst_ok, kCel_ok, S_ret, ne_eq, reduceCtorEq, not_false_eq_true, implies_true, RV.d, frz_nil, frz_cons, frzO_some, frzO_none, List.getElem?_cons_zero, List.getElem?_cons_succ, List.getElem?_nil, List.set_cons_zero, List.set_cons_succ, List.length_cons, List.length_nil, mask_nil, mask_none, mask_some, wipe_nil, wipe_cons, decide_true, decide_false, Bool.not_true, Bool.not_false, Nat.zero_add, Nat.reduceAdd, Nat.reduceLT, Nat.reduceLeDiff, Nat.lt_add_one, List.nil_append, List.cons_append, Nat.reduceSub, List.map_cons, List.map_nil, List.replicate_succ, rep_zero, start_eq, gX_some, getT, getL, getC, gC_lst, Int.reduceToNat, Int.reduceLE, Int.reduceLT, Int.reduceNeg, setO_ap, sO_some, setC_ap, sC_some, kAsT_ap, asT_some, bindT_nm, bindT_tup, bindTs_cons, bO_some, bindTs_nil, turnF_ap, tFo_some, cT_ap, cTo_some, cT2_t, cT2_f, cT3_fr, cT3_own, and_self, and_true, true_and, Int.zero_add, ixN_ge, Int.natCast_nonneg, Int.toNat_natCast, Int.cast_ofNat_Int, isin_ty, List.any_cons, List.any_nil, isTy, Bool.true_and, Bool.false_and, Bool.and_true, Bool.and_false, Bool.or_false, Bool.false_or, Bool.or_true, Bool.true_or, Int.reduceEq, Int.natCast_nonneg, Int.toNat_natCast, gw, hwD, gq, e]
    rw [take_succ_map hf, shOf_snoc]
  · rintro ρ μ' ⟨e1, rfl⟩
    rw [e1]
    have : (intL row).length = row.length := by simp [intL]
    rw [this, List.take_length]
    simp only [bnd_rb, rb_ok, rb_exc, sb_ok, seq_nx, seq_rt, seq_ex, fin_nx, fin_rt, fin_ex, E_var, E_cst, E_glo, E_dic0, E_tup, E_lst, E_cel, E_op, E_cmp, E_chn, E_not, E_neg, E_con, E_dis, E_ife, E_idx, E_slc, E_call, E_blt, E_isi, E_rng1, E_rng2, E_comp, V_nil, V_cons, A_nil, A_cons, O_nil, O_cons, vr_fr, vo_fr, vo_own, vv_some, kD_fr, kD_own, kBl_ap, kOwn_ap, eo_var, eo_cst, eo_glo, eo_op, eo_idx, eo_slc, eo_call, eo_blt, eo_tup, eo_lst, eo_neg, eo_nt, eo_cmp, eo_con, eo_dis, eo_isi, eo_ife, eo_comp, kOp_ap, kCmp_ap, kCm2_ap, kCh1_ap, kCh2_ap, kCh3_t, kCh3_f, asR_bl, kNot_bl, kNeg_int, kA_bl, kA2_t, kA2_f, kO_bl, kO2_t, kO2_f, kA2_nil, kO2_nil, kIf_bl, kIf2_t, kIf2_f, kIdx_ap, kSl_ap, kSl2_ap, kSl3_ap, oi_mis, kI_int, oi_var, oi_cst, oi_op, oi_neg, oi_idx, oi_blt, oi_call, kR2_int, kComp_ap, kV_ap, kV2_fr, kV2_own, itemsOf_tup, itemsOf_lst, itemsOf_own, itemsOf_cell, itC_lst, itemsOf_wk, E_zip, E_enum, E_revd, E_newc, eo_newc, kZ1_ap, zipD_tt, zipD_ll, enumD_t, enumD_l, revD_t, revD_l, newC_own, kComp_apH, kFor_apH, S_asg, S_asT, S_par, S_exp, S_retv, S_ite, S_whl, S_for, S_setv, S_setc, S_mut, S_pas, B_nil, B_cons, kPar_ap, kExp_ap, kRet_ap, kIte_bl, kIte2_t, kIte2_f, kFor_ap, kSv_ap, kSv2_int, kSc_ap, kSc2_ap, kSc3_cell, kMut_ap, op_add, op_sub, eq_int, ne_int, eq_str, ne_str, ne_shT_self, eq_shT_self, lt_int, le_int, gt_int, ge_int, getIt_0, len_tup, len_lst, abs_int, int_bl, int_int, list_cel, liC_lst, len_cel, lnC_lst, list_tup, list_lst, tuple_lst, tuple_tup, forR_nil, forR_cons, forS_nx, forS_rt, nxP_nx, kAsg_ok, kPar2_ok, kTup_ok, kLst_ok, kCel_ok, S_ret, ne_eq, reduceCtorEq, not_false_eq_true, implies_true, RV.d, frz_nil, frz_cons, frzO_some, frzO_none, List.getElem?_cons_zero, List.getElem?_cons_succ, List.getElem?_nil, List.set_cons_zero, List.set_cons_succ, List.length_cons, List.length_nil, mask_nil, mask_none, mask_some, wipe_nil, wipe_cons, decide_true, decide_false, Bool.not_true, Bool.not_false, Nat.zero_add, Nat.reduceAdd, Nat.reduceLT, Nat.reduceLeDiff, Nat.lt_add_one, List.nil_append, List.cons_append, Nat.reduceSub, List.map_cons, List.map_nil, List.replicate_succ, rep_zero, start_eq, gX_some, getT, getL, getC, gC_lst, Int.reduceToNat, Int.reduceLE, Int.reduceLT, Int.reduceNeg, setO_ap, sO_some, setC_ap, sC_some, kAsT_ap, asT_some, bindT_nm, bindT_tup, bindTs_cons, bO_some, bindTs_nil, turnF_ap, tFo_some, cT_ap, cTo_some, cT2_t, cT2_f, cT3_fr, cT3_own, and_self, and_true, true_and, Int.zero_add, ixN_ge, Int.natCast_nonneg, Int.toNat_natCast, Int.cast_ofNat_Int, isin_ty, List.any_cons, List.any_nil, isTy, Bool.true_and, Bool.false_and, Bool.and_true, Bool.and_false, Bool.or_false, Bool.false_or, Bool.or_true, Bool.true_or, Int.reduceEq]
theorem s_countsof (k : Nat) {μ : Mu} {t : Tri} (ok : TriOk t) (row : List Nat) : cl (k + 1) 31 [t.D, cD row] μ = .ok (.fr (cD (cntOf t.faces.length row))) μ := by
  have f4 := ok.f4
  have inner : ∀ f : Nat, compR (cT (callD reg k) (.var 3) (.nm 3) (.cons (.cmp .eq (.var 3) (.var 2)) .nil) [3] [some (.fr (.tup [.tup (t.faces.map D.str), .tup (t.ways.map wD)])), some (.fr (.tup (intL row))), some (.fr (.int (f : Nat))), none]) (intL row) μ = .ok ((row.filter fun x => x == f).map fun x => D.int ((x : Nat) : Int)) μ := fun f => by
    refine compR_some (h := fun x : Nat => D.int (x : Int)) (fun x => x == f) (fun x => D.int (x : Int)) fun x _ => ?_
    have e : decide ((x : Int) = (f : Int)) = (x == f) := by
      rw [show (x == f) = decide (x = f) from rfl]
      exact decide_eq_decide.mpr (by omega)
    cases hb : x == f <;> (rw [hb] at e; simp only [bnd_rb, rb_ok, rb_exc, sb_ok, seq_nx, seq_rt, seq_ex, fin_nx, fin_rt, fin_ex, E_var, E_cst, E_glo, E_dic0, E_tup, E_lst, E_cel, E_op, E_cmp, E_chn, E_not, E_neg, E_con, E_dis, E_ife, E_idx, E_slc, E_call, E_blt, E_isi, E_rng1, E_rng2, E_comp, V_nil, V_cons, A_nil, A_cons, O_nil, O_cons, vr_fr, vo_fr, vo_own, vv_some, kD_fr, kD_own, kBl_ap, kOwn_ap, eo_var, eo_cst, eo_glo, eo_op, eo_idx, eo_slc, eo_call, eo_blt, eo_tup, eo_lst, eo_neg, eo_nt, eo_cmp, eo_con, eo_dis, eo_isi, eo_ife, eo_comp, kOp_ap, kCmp_ap, kCm2_ap, kCh1_ap, kCh2_ap, kCh3_t, kCh3_f, asR_bl, kNot_bl, kNeg_int, kA_bl, kA2_t, kA2_f, kO_bl, kO2_t, kO2_f, kA2_nil, kO2_nil, kIf_bl, kIf2_t, kIf2_f, kIdx_ap, kSl_ap, kSl2_ap, kSl3_ap, oi_mis, kI_int, oi_var, oi_cst, oi_op, oi_neg, oi_idx, oi_blt, oi_call, kR2_int, kComp_ap, kV_ap, kV2_fr, kV2_own, itemsOf_tup, itemsOf_lst, itemsOf_own, itemsOf_cell, itC_lst, itemsOf_wk, E_zip, E_enum, E_revd, E_newc, eo_newc, kZ1_ap, zipD_tt, zipD_ll, enumD_t, enumD_l, revD_t, revD_l, newC_own, kComp_apH, kFor_apH, S_asg, S_asT, S_par, S_exp, S_retv, S_ite, S_whl, S_for, S_setv, S_setc, S_mut, S_pas, B_nil, B_cons, kPar_ap, kExp_ap, kRet_ap, kIte_bl, kIte2_t, kIte2_f, kFor_ap, kSv_ap, kSv2_int, kSc_ap, kSc2_ap, kSc3_cell, kMut_ap, op_add, op_sub, eq_int, ne_int, eq_str, ne_str, ne_shT_self, eq_shT_self, lt_int, le_int, gt_int, ge_int, getIt_0, len_tup, len_lst, abs_int, int_bl, int_int, list_cel, liC_lst, len_cel, lnC_lst, list_tup, list_lst, tuple_lst, tuple_tup, forR_nil, forR_cons, forS_nx, forS_rt, nxP_nx, kAsg_ok, kPar2_ok, kTup_ok, kLst_ok, kCel_ok, S_ret, ne_eq, reduceCtorEq, not_false_eq_true, implies_true, RV.d, frz_nil, frz_cons, frzO_some, frzO_none, List.getElem?_cons_zero, List.getElem?_cons_succ, List.getElem?_nil, List.set_cons_zero, List.set_cons_succ, List.length_cons, List.length_nil, mask_nil, mask_none, mask_some, wipe_nil, wipe_cons, decide_true, decide_false, Bool.not_true, Bool.not_false, Nat.zero_add, Nat.reduceAdd, Nat.reduceLT, Nat.reduceLeDiff, Nat.lt_add_one, List.nil_append, List.cons_append, Nat.reduceSub, List.map_cons, List.map_nil, List.replicate_succ, rep_zero, start_eq, gX_some, getT, getL, getC, gC_lst, Int.reduceToNat, Int.reduceLE, Int.reduceLT, Int.reduceNeg, setO_ap, sO_some, setC_ap, sC_some, kAsT_ap, asT_some, bindT_nm, bindT_tup, bindTs_cons, bO_some, bindTs_nil, turnF_ap, tFo_some, cT_ap, cTo_some, cT2_t, cT2_f, cT3_fr, cT3_own, and_self, and_true, true_and, Int.zero_add, ixN_ge, Int.natCast_nonneg, Int.toNat_natCast, Int.cast_ofNat_Int, isin_ty, List.any_cons, List.any_nil, isTy, Bool.true_and, Bool.false_and, Bool.and_true, Bool.and_false, Bool.or_false, Bool.false_or, Bool.or_true, Bool.true_or, Int.reduceEq, e]; rfl)
  have outer : compR (cT (callD reg k) (.blt .len (.comp (.var 3) (.nm 3) (.var 1) (.cons (.cmp .eq (.var 3) (.var 2)) .nil) [3])) (.nm 2) .nil [2] [some (.fr (.tup [.tup (t.faces.map D.str), .tup (t.ways.map wD)])), some (.fr (.tup (intL row))), none, none]) (intsFrom 0 t.faces.length) μ
      = .ok (intL (cntOf t.faces.length row)) μ := by
    rw [ints_on]
    unfold intL cntOf
    rw [List.map_map]
    refine compR_all (fun f => D.int (((row.filter fun x => x == f).length : Nat) : Int)) fun f _ => ?_
    have := inner f
    unfold intL at this
    simp only [bnd_rb, rb_ok, rb_exc, sb_ok, seq_nx, seq_rt, seq_ex, fin_nx, fin_rt, fin_ex, E_var, E_cst, E_glo, E_dic0, E_tup, E_lst, E_cel, E_op, E_cmp, E_chn, E_not, E_neg, E_con, E_dis, E_ife, E_idx, E_slc, E_call, E_blt, E_isi, E_rng1, E_rng2, E_comp, V_nil, V_cons, A_nil, A_cons, O_nil, O_cons, vr_fr, vo_fr, vo_own, vv_some, kD_fr, kD_own, kBl_ap, kOwn_ap, eo_var, eo_cst, eo_glo, eo_op, eo_idx, eo_slc, eo_call, eo_blt, eo_tup, eo_lst, eo_neg, eo_nt, eo_cmp, eo_con, eo_dis, eo_isi, eo_ife, eo_comp, kOp_ap, kCmp_ap, kCm2_ap, kCh1_ap, kCh2_ap, kCh3_t, kCh3_f, asR_bl, kNot_bl, kNeg_int, kA_bl, kA2_t, kA2_f, kO_bl, kO2_t, kO2_f, kA2_nil, kO2_nil, kIf_bl, kIf2_t, kIf2_f, kIdx_ap, kSl_ap, kSl2_ap, kSl3_ap, oi_mis, kI_int, oi_var, oi_cst, oi_op, oi_neg, oi_idx, oi_blt, oi_call, kR2_int, kComp_ap, kV_ap, kV2_fr, kV2_own, itemsOf_tup, itemsOf_lst, itemsOf_own, itemsOf_cell, itC_lst, itemsOf_wk, E_zip, E_enum, E_revd, E_newc, eo_newc, kZ1_ap, zipD_tt, zipD_ll, enumD_t, enumD_l, revD_t, revD_l, newC_own, kComp_apH, kFor_apH, S_asg, S_asT, S_par, S_exp, S_retv, S_ite, S_whl, S_for, S_setv, S_setc, S_mut, S_pas, B_nil, B_cons, kPar_ap, kExp_ap, kRet_ap, kIte_bl, kIte2_t, kIte2_f, kFor_ap, kSv_ap, kSv2_int, kSc_ap, kSc2_ap, kSc3_cell, kMut_ap, op_add, op_sub, eq_int, ne_int, eq_str, ne_str, ne_shT_self, eq_shT_self, lt_int, le_int, gt_int, ge_int, getIt_0, len_tup, len_lst, abs_int, int_bl, int_int, list_cel, liC_lst, len_cel, lnC_lst, list_tup, list_lst, tuple_lst, tuple_tup, forR_nil, forR_cons, forS_nx, forS_rt, nxP_nx, kAsg_ok, kPar2_ok, kTup_ok, kLst_ok, kCel_ok, S_ret, ne_eq, reduceCtorEq, not_false_eq_true, implies_true, RV.d, frz_nil, frz_cons, frzO_some, frzO_none, List.getElem?_cons_zero, List.getElem?_cons_succ, List.getElem?_nil, List.set_cons_zero, List.set_cons_succ, List.length_cons, List.length_nil, mask_nil, mask_none, mask_some, wipe_nil, wipe_cons, decide_true, decide_false, Bool.not_true, Bool.not_false, Nat.zero_add, Nat.reduceAdd, Nat.reduceLT, Nat.reduceLeDiff, Nat.lt_add_one, List.nil_append, List.cons_append, Nat.reduceSub, List.map_cons, List.map_nil, List.replicate_succ, rep_zero, start_eq, gX_some, getT, getL, getC, gC_lst, Int.reduceToNat, Int.reduceLE, Int.reduceLT, Int.reduceNeg, setO_ap, sO_some, setC_ap, sC_some, kAsT_ap, asT_some, bindT_nm, bindT_tup, bindTs_cons, bO_some, bindTs_nil, turnF_ap, tFo_some, cT_ap, cTo_some, cT2_t, cT2_f, cT3_fr, cT3_own, and_self, and_true, true_and, Int.zero_add, ixN_ge, Int.natCast_nonneg, Int.toNat_natCast, Int.cast_ofNat_Int, isin_ty, List.any_cons, List.any_nil, isTy, Bool.true_and, Bool.false_and, Bool.and_true, Bool.and_false, Bool.or_false, Bool.false_or, Bool.or_true, Bool.true_or, Int.reduceEq, this, List.length_map]
  rw [cl, call_eq r31 rfl, g31]
  simp only [bnd_rb, rb_ok, rb_exc, sb_ok, seq_nx, seq_rt, seq_ex, fin_nx, fin_rt, fin_ex, E_var, E_cst, E_glo, E_dic0, E_tup, E_lst, E_cel, E_op, E_cmp, E_chn, E_not, E_neg, E_con, E_dis, E_ife, E_idx, E_slc, E_call, E_blt, E_isi, E_rng1, E_rng2, E_comp, V_nil, V_cons, A_nil, A_cons, O_nil, O_cons, vr_fr, vo_fr, vo_own, vv_some, kD_fr, kD_own, kBl_ap, kOwn_ap, eo_var, eo_cst, eo_glo, eo_op, eo_idx, eo_slc, eo_call, eo_blt, eo_tup, eo_lst, eo_neg, eo_nt, eo_cmp, eo_con, eo_dis, eo_isi, eo_ife, eo_comp, kOp_ap, kCmp_ap, kCm2_ap, kCh1_ap, kCh2_ap, kCh3_t, kCh3_f, asR_bl, kNot_bl, kNeg_int, kA_bl, kA2_t, kA2_f, kO_bl, kO2_t, kO2_f, kA2_nil, kO2_nil, kIf_bl, kIf2_t, kIf2_f, kIdx_ap, kSl_ap, kSl2_ap, kSl3_ap, oi_mis, kI_int, oi_var, oi_cst, oi_op, oi_neg, oi_idx, oi_blt, oi_call, kR2_int, kComp_ap, kV_ap, kV2_fr, kV2_own, itemsOf_tup, itemsOf_lst, itemsOf_own, itemsOf_cell, itC_lst, itemsOf_wk, E_zip, E_enum, E_revd, E_newc, eo_newc, kZ1_ap, zipD_tt, zipD_ll, enumD_t, enumD_l, revD_t, revD_l, newC_own, kComp_apH, kFor_apH, S_asg, S_asT, S_par, S_exp, S_retv, S_ite, S_whl, S_for, S_setv, S_setc, S_mut, S_pas, B_nil, B_cons, kPar_ap, kExp_ap, kRet_ap, kIte_bl, kIte2_t, kIte2_f, kFor_ap, kSv_ap, kSv2_int, kSc_ap, kSc2_ap, kSc3_cell, kMut_ap, op_add, op_sub, eq_int, ne_int, eq_str, ne_str, ne_shT_self, eq_shT_self, lt_int, le_int, gt_int, ge_int, getIt_0, len_tup, len_lst, abs_int, int_bl, int_int, list_cel, liC_lst, len_cel, lnC_lst, list_tup, list_lst, tuple_lst, tuple_tup, forR_nil, forR_cons, forS_nx, forS_rt, nxP_nx, kAsg_ok, kPar2_ok, kTup_ok, kLst_ok, kCel_ok, S_ret, ne_eq, reduceCtorEq, not_false_eq_true, implies_true, RV.d, frz_nil, frz_cons, frzO_some, frzO_none, List.getElem?_cons_zero, List.getElem?_cons_succ, List.getElem?_nil, List.set_cons_zero, List.set_cons_succ, List.length_cons, List.length_nil, mask_nil, mask_none, mask_some, wipe_nil, wipe_cons, decide_true, decide_false, Bool.not_true, Bool.not_false, Nat.zero_add, Nat.reduceAdd, Nat.reduceLT, Nat.reduceLeDiff, Nat.lt_add_one, List.nil_append, List.cons_append, Nat.reduceSub, List.map_cons, List.map_nil, List.replicate_succ, rep_zero, start_eq, gX_some, getT, getL, getC, gC_lst, Int.reduceToNat, Int.reduceLE, Int.reduceLT, Int.reduceNeg, setO_ap, sO_some, setC_ap, sC_some, kAsT_ap, asT_some, bindT_nm, bindT_tup, bindTs_cons, bO_some, bindTs_nil, turnF_ap, tFo_some, cT_ap, cTo_some, cT2_t, cT2_f, cT3_fr, cT3_own, and_self, and_true, true_and, Int.zero_add, ixN_ge, Int.natCast_nonneg, Int.toNat_natCast, Int.cast_ofNat_Int, isin_ty, List.any_cons, List.any_nil, isTy, Bool.true_and, Bool.false_and, Bool.and_true, Bool.and_false, Bool.or_false, Bool.false_or, Bool.or_true, Bool.true_or, Int.reduceEq, Tri.D, cD, List.length_map, range1 _ (show t.faces.length ≤ 16777216 by omega), outer]
/-! ## how many rows have counts -/
theorem rtStep_two (s : Nat × Nat) : ∀ c : Nat, (rtStep s c).2 = s.2 + c
  | 0 => rfl
  | c + 1 => by
    unfold rtStep
    rw [List.range_succ, List.foldl_append]
    show ((List.range c).foldl _ s).2 + 1 = _
    have := rtStep_two s c
    unfold rtStep at this
    rw [this]; omega
theorem rtStep_succ (s : Nat × Nat) (c : Nat) : rtStep s (c + 1) = ((rtStep s c).1 * ((rtStep s c).2 + 1) / (c + 1), (rtStep s c).2 + 1) := by
  unfold rtStep
  rw [List.range_succ, List.foldl_append]
  rfl
theorem rt_lt {s : Nat × Nat} {N : Nat} (hN : N ≤ 1000) (h : s.1 < 2 ^ (10 * s.2 + 1)) : ∀ c : Nat, s.2 + c ≤ N → (rtStep s c).1 < 2 ^ (10 * (rtStep s c).2 + 1)
  | 0, _ => h
  | c + 1, hc => by
    have ih := rt_lt hN h c (by omega)
    have e2 := rtStep_two s c
    rw [rtStep_succ]
    simp only
    refine Nat.lt_of_le_of_lt (Nat.div_le_self _ _) ?_
    have h10 : (rtStep s c).2 + 1 < 2 ^ 10 := by
      have : (2 : Nat) ^ 10 = 1024 := by decide
      omega
    exact Nat.lt_of_lt_of_le (mul_lt_pow ih h10) (Nat.pow_le_pow_right (by decide) (by omega))
theorem rt_fold_two : ∀ (cs : List Nat) (s : Nat × Nat), (cs.foldl rtStep s).2 = s.2 + cs.sum
  | [], s => by simp
  | c :: cs, s => by rw [List.foldl_cons, rt_fold_two cs, rtStep_two, List.sum_cons]; omega
theorem rt_fold_lt {N : Nat} (hN : N ≤ 1000) : ∀ (cs : List Nat) (s : Nat × Nat), s.1 < 2 ^ (10 * s.2 + 1) → s.2 + cs.sum ≤ N → (cs.foldl rtStep s).1 < 2 ^ (10 * (cs.foldl rtStep s).2 + 1)
  | [], s, h, _ => h
  | c :: cs, s, h, hc => by
    rw [List.sum_cons] at hc
    exact rt_fold_lt hN cs _ (rt_lt hN h c (by omega)) (by rw [rtStep_two]; omega)
theorem sum_take_le (cs : List Nat) (i : Nat) : (cs.take i).sum ≤ cs.sum := by
  have : cs.sum = (cs.take i).sum + (cs.drop i).sum := by rw [← List.sum_append_nat, List.take_append_drop]
  omega
theorem rt_inner (C : Callee) {μ : Mu} {x0 : RV} {s : Nat × Nat} {c : Nat} (hlt : s.1 < 2 ^ (10 * s.2 + 1)) (hs : s.2 + c ≤ 800) :
    forR (turnF (.nm 4) (exB C (.cons (.asg [] (.nm 2) (.op .add (.var 2) (.cst (.int 1)))) (.cons (.asg [] (.nm 1) (.op .fdiv (.op .mul (.var 1) (.var 2)) (.var 4))) .nil)))) (intsFrom 1 c) [some x0, some (.fr (.int (s.1 : Nat))), some (.fr (.int (s.2 : Nat))), some (.fr (.int (c : Nat))), none] μ
      = .nx [some x0, some (.fr (.int ((rtStep s c).1 : Nat))), some (.fr (.int ((rtStep s c).2 : Nat))), some (.fr (.int (c : Nat))), none] μ := by
  refine forR_use (P := fun r => r = _) (fun j ρ μ' => μ' = μ ∧ ρ = [some x0, some (.fr (.int ((rtStep s j).1 : Nat))), some (.fr (.int ((rtStep s j).2 : Nat))), some (.fr (.int (c : Nat))), none]) ⟨rfl, rfl⟩ ?_ ?_
  · rintro j x ρ μ' hx ⟨e1, rfl⟩
    rw [e1]
    obtain ⟨hj, rfl⟩ := ints_at hx
    have hl := rt_lt (N := 800) (by decide) hlt j (by omega)
    have h3 := rtStep_two s j
    rw [rtStep_succ]
    generalize rtStep s j = u at *
    have h11 : (2 : Nat) ^ 11 = 2048 := by decide
    have m1 : mulOk (u.1 : Nat) ((u.2 : Nat) + 1 : Int) = true := mul_ok (B := 10 * u.2 + 1) (C := 11) (by simpa using hl) (by omega) (by omega) (by decide) (by omega)
    have o1 : divOk (1 + (j : Int)) = true := divOk_of 11 (by omega) (by omega) (by decide) (by decide)
    have e : ((u.1 : Int) * ((u.2 : Int) + 1)).fdiv (1 + (j : Int)) = ((u.1 * (u.2 + 1) / (j + 1) : Nat) : Int) := by
      have e1 : (1 + (j : Int)) = ((j + 1 : Nat) : Int) := by omega
      have e2 : (u.1 : Int) * ((u.2 : Int) + 1) = ((u.1 * (u.2 + 1) : Nat) : Int) := by rw [Int.natCast_mul, Int.natCast_add, Int.natCast_one]
      rw [Int.fdiv_eq_ediv_of_nonneg _ (by omega), e1, e2, Int.natCast_ediv]
    simp only [bnd_rb, rb_ok, rb_exc, sb_ok, seq_nx, seq_rt, seq_ex, fin_nx, fin_rt, fin_ex, E_var, E_cst, E_glo, E_dic0, E_tup, E_lst, E_cel, E_op, E_cmp, E_chn, E_not, E_neg, E_con, E_dis, E_ife, E_idx, E_slc, E_call, E_blt, E_isi, E_rng1, E_rng2, E_comp, V_nil, V_cons, A_nil, A_cons, O_nil, O_cons, vr_fr, vo_fr, vo_own, vv_some, kD_fr, kD_own, kBl_ap, kOwn_ap, eo_var, eo_cst, eo_glo, eo_op, eo_idx, eo_slc, eo_call, eo_blt, eo_tup, eo_lst, eo_neg, eo_nt, eo_cmp, eo_con, eo_dis, eo_isi, eo_ife, eo_comp, kOp_ap, kCmp_ap, kCm2_ap, kCh1_ap, kCh2_ap, kCh3_t, kCh3_f, asR_bl, kNot_bl, kNeg_int, kA_bl, kA2_t, kA2_f, kO_bl, kO2_t, kO2_f, kA2_nil, kO2_nil, kIf_bl, kIf2_t, kIf2_f, kIdx_ap, kSl_ap, kSl2_ap, kSl3_ap, oi_mis, kI_int, oi_var, oi_cst, oi_op, oi_neg, oi_idx, oi_blt, oi_call, kR2_int, kComp_ap, kV_ap, kV2_fr, kV2_own, itemsOf_tup, itemsOf_lst, itemsOf_own, itemsOf_cell, itC_lst, itemsOf_wk, E_zip, E_enum, E_revd, E_newc, eo_newc, kZ1_ap, zipD_tt, zipD_ll, enumD_t, enumD_l, revD_t, revD_l, newC_own, kComp_apH, kFor_apH, S_asg, S_asT, S_par, S_exp, S_retv, S_ite, S_whl, S_for, S_setv, S_setc, S_mut, S_pas, B_nil, B_cons, kPar_ap, kExp_ap, kRet_ap, kIte_bl, kIte2_t, kIte2_f, kFor_ap, kSv_ap, kSv2_int, kSc_ap, kSc2_ap, kSc3_cell, kMut_ap, op_add, op_sub, eq_int, ne_int, eq_str, ne_str, ne_shT_self, eq_shT_self, lt_int, le_int, gt_int, ge_int, getIt_0, len_tup, len_lst, abs_int, int_bl, int_int, list_cel, liC_lst, len_cel, lnC_lst, list_tup, list_lst, tuple_lst, tuple_tup, forR_nil, forR_cons, forS_nx, forS_rt, nxP_nx, kAsg_ok, kPar2_ok, kTup_ok, kLst_ok, kCel_ok, S_ret, ne_eq, reduceCtorEq, not_false_eq_true, implies_true, RV.d, frz_nil, frz_cons, frzO_some, frzO_none, List.getElem?_cons_zero, List.getElem?_cons_succ, List.getElem?_nil, List.set_cons_zero, List.set_cons_succ, List.length_cons, List.length_nil, mask_nil, mask_none, mask_some, wipe_nil, wipe_cons, decide_true, decide_false, Bool.not_true, Bool.not_false, Nat.zero_add, Nat.reduceAdd, Nat.reduceLT, Nat.reduceLeDiff, Nat.lt_add_one, List.nil_append, List.cons_append, Nat.reduceSub, List.map_cons, List.map_nil, List.replicate_succ, rep_zero, start_eq, gX_some, getT, getL, getC, gC_lst, Int.reduceToNat, Int.reduceLE, Int.reduceLT, Int.reduceNeg, setO_ap, sO_some, setC_ap, sC_some, kAsT_ap, asT_some, bindT_nm, bindT_tup, bindTs_cons, bO_some, bindTs_nil, turnF_ap, tFo_some, cT_ap, cTo_some, cT2_t, cT2_f, cT3_fr, cT3_own, and_self, and_true, true_and, Int.zero_add, ixN_ge, Int.natCast_nonneg, Int.toNat_natCast, Int.cast_ofNat_Int, isin_ty, List.any_cons, List.any_nil, isTy, Bool.true_and, Bool.false_and, Bool.and_true, Bool.and_false, Bool.or_false, Bool.false_or, Bool.or_true, Bool.true_or, Int.reduceEq, op_mul m1, op_fdiv o1, e, Int.natCast_add, Int.natCast_one]
  · rintro ρ μ' ⟨e1, rfl⟩
    rw [e1, ints_len]
theorem s_rowsto (k : Nat) {μ : Mu} {cs : List Nat} (hs : cs.sum ≤ 800) : cl (k + 1) 33 [cD cs] μ = .ok (.fr (.int (rto cs : Nat))) μ := by
  rw [cl, call_eq r33 rfl, g33]
  simp only [bnd_rb, rb_ok, rb_exc, sb_ok, seq_nx, seq_rt, seq_ex, fin_nx, fin_rt, fin_ex, E_var, E_cst, E_glo, E_dic0, E_tup, E_lst, E_cel, E_op, E_cmp, E_chn, E_not, E_neg, E_con, E_dis, E_ife, E_idx, E_slc, E_call, E_blt, E_isi, E_rng1, E_rng2, E_comp, V_nil, V_cons, A_nil, A_cons, O_nil, O_cons, vr_fr, vo_fr, vo_own, vv_some, kD_fr, kD_own, kBl_ap, kOwn_ap, eo_var, eo_cst, eo_glo, eo_op, eo_idx, eo_slc, eo_call, eo_blt, eo_tup, eo_lst, eo_neg, eo_nt, eo_cmp, eo_con, eo_dis, eo_isi, eo_ife, eo_comp, kOp_ap, kCmp_ap, kCm2_ap, kCh1_ap, kCh2_ap, kCh3_t, kCh3_f, asR_bl, kNot_bl, kNeg_int, kA_bl, kA2_t, kA2_f, kO_bl, kO2_t, kO2_f, kA2_nil, kO2_nil, kIf_bl, kIf2_t, kIf2_f, kIdx_ap, kSl_ap, kSl2_ap, kSl3_ap, oi_mis, kI_int, oi_var, oi_cst, oi_op, oi_neg, oi_idx, oi_blt, oi_call, kR2_int, kComp_ap, kV_ap, kV2_fr, kV2_own, itemsOf_tup, itemsOf_lst, itemsOf_own, itemsOf_cell, itC_lst, itemsOf_wk, E_zip, E_enum, E_revd, E_newc, eo_newc, kZ1_ap, zipD_tt, zipD_ll, enumD_t, enumD_l, revD_t, revD_l, newC_own, kComp_apH, kFor_apH, S_asg, S_asT, S_par, S_exp, S_retv, S_ite, S_whl, S_for, S_setv, S_setc, S_mut, S_pas, B_nil, B_cons, kPar_ap, kExp_ap, kRet_ap, kIte_bl, kIte2_t, kIte2_f, kFor_ap, kSv_ap, kSv2_int, kSc_ap, kSc2_ap, kSc3_cell, kMut_ap, op_add, op_sub, eq_int, ne_int, eq_str, ne_str, ne_shT_self, eq_shT_self, lt_int, le_int, gt_int, ge_int, getIt_0, len_tup, len_lst, abs_int, int_bl, int_int, list_cel, liC_lst, len_cel, lnC_lst, list_tup, list_lst, tuple_lst, tuple_tup, forR_nil, forR_cons, forS_nx, forS_rt, nxP_nx, kAsg_ok, kPar2_ok, kTup_ok, kLst_ok, kCel_ok, S_ret, ne_eq, reduceCtorEq, not_false_eq_true, implies_true, RV.d, frz_nil, frz_cons, frzO_some, frzO_none, List.getElem?_cons_zero, List.getElem?_cons_succ, List.getElem?_nil, List.set_cons_zero, List.set_cons_succ, List.length_cons, List.length_nil, mask_nil, mask_none, mask_some, wipe_nil, wipe_cons, decide_true, decide_false, Bool.not_true, Bool.not_false, Nat.zero_add, Nat.reduceAdd, Nat.reduceLT, Nat.reduceLeDiff, Nat.lt_add_one, List.nil_append, List.cons_append, Nat.reduceSub, List.map_cons, List.map_nil, List.replicate_succ, rep_zero, start_eq, gX_some, getT, getL, getC, gC_lst, Int.reduceToNat, Int.reduceLE, Int.reduceLT, Int.reduceNeg, setO_ap, sO_some, setC_ap, sC_some, kAsT_ap, asT_some, bindT_nm, bindT_tup, bindTs_cons, bO_some, bindTs_nil, turnF_ap, tFo_some, cT_ap, cTo_some, cT2_t, cT2_f, cT3_fr, cT3_own, and_self, and_true, true_and, Int.zero_add, ixN_ge, Int.natCast_nonneg, Int.toNat_natCast, Int.cast_ofNat_Int, isin_ty, List.any_cons, List.any_nil, isTy, Bool.true_and, Bool.false_and, Bool.and_true, Bool.and_false, Bool.or_false, Bool.false_or, Bool.or_true, Bool.true_or, Int.reduceEq, cD]
  refine forR_use (P := fun r => fin (seq r _) = .ok _ μ) (fun i ρ μ' => μ' = μ ∧ ρ = [some (.fr (.tup (intL cs))), some (.fr (.int (((cs.take i).foldl rtStep (1, 0)).1 : Nat))), some (.fr (.int (((cs.take i).foldl rtStep (1, 0)).2 : Nat))), none, none]) ⟨rfl, rfl⟩ ?_ ?_
  · rintro i x ρ μ' hx ⟨e1, rfl⟩
    rw [e1]
    unfold intL at hx
    rw [List.getElem?_map] at hx
    obtain ⟨c, hc, rfl⟩ := Option.map_eq_some_iff.mp hx
    have hcs : (cs.take i).sum + c ≤ cs.sum := by
      have := sum_take_le cs (i + 1)
      rw [take_succ_map hc, List.sum_append_nat] at this
      simpa using this
    have h2 := rt_fold_two (cs.take i) (1, 0)
    have hlt := rt_fold_lt (N := 800) (by decide) (cs.take i) (1, 0) (by decide) (by simp; omega)
    rw [take_succ_map hc, List.foldl_append, List.foldl_cons, List.foldl_nil]
    have h2' : ((cs.take i).foldl rtStep (1, 0)).2 + c ≤ 800 := by rw [h2]; simp; omega
    generalize (cs.take i).foldl rtStep (1, 0) = s at *
    have hr : ∀ μ, kR2b 1 (.fr (.int ((c : Int) + 1))) μ = .ok (.fr (.lst (intsFrom 1 c))) μ := fun μ => by
      rw [kR2b_int (by decide) (by decide) (by omega) (by omega) (by omega)]
      have : ((c : Int) + 1 - 1).toNat = c := by omega
      rw [this]
    have ei := rt_inner (callD reg k) (μ := μ) (x0 := .fr (.tup (intL cs))) hlt h2'
    simp only [bnd_rb, rb_ok, rb_exc, sb_ok, seq_nx, seq_rt, seq_ex, fin_nx, fin_rt, fin_ex, E_var, E_cst, E_glo, E_dic0, E_tup, E_lst, E_cel, E_op, E_cmp, E_chn, E_not, E_neg, E_con, E_dis, E_ife, E_idx, E_slc, E_call, E_blt, E_isi, E_rng1, E_rng2, E_comp, V_nil, V_cons, A_nil, A_cons, O_nil, O_cons, vr_fr, vo_fr, vo_own, vv_some, kD_fr, kD_own, kBl_ap, kOwn_ap, eo_var, eo_cst, eo_glo, eo_op, eo_idx, eo_slc, eo_call, eo_blt, eo_tup, eo_lst, eo_neg, eo_nt, eo_cmp, eo_con, eo_dis, eo_isi, eo_ife, eo_comp, kOp_ap, kCmp_ap, kCm2_ap, kCh1_ap, kCh2_ap, kCh3_t, kCh3_f, asR_bl, kNot_bl, kNeg_int, kA_bl, kA2_t, kA2_f, kO_bl, kO2_t, kO2_f, kA2_nil, kO2_nil, kIf_bl, kIf2_t, kIf2_f, kIdx_ap, kSl_ap, kSl2_ap, kSl3_ap, oi_mis, kI_int, oi_var, oi_cst, oi_op, oi_neg, oi_idx, oi_blt, oi_call, kR2_int, kComp_ap, kV_ap, kV2_fr, kV2_own, itemsOf_tup, itemsOf_lst, itemsOf_own, itemsOf_cell, itC_lst, itemsOf_wk, E_zip, E_enum, E_revd, E_newc, eo_newc, kZ1_ap, zipD_tt, zipD_ll, enumD_t, enumD_l, revD_t, revD_l, newC_own, kComp_apH, kFor_apH, S_asg, S_asT, S_par, S_exp, S_retv, S_ite, S_whl, S_for, S_setv, S_setc, S_mut, S_pas, B_nil, B_cons, kPar_ap, kExp_ap, kRet_ap, kIte_bl, kIte2_t, kIte2_f, kFor_ap, kSv_ap, kSv2_int, kSc_ap, kSc2_ap, kSc3_cell, kMut_ap, op_add, op_sub, eq_int, ne_int, eq_str, ne_str, ne_shT_self, eq_shT_self, lt_int, le_int, gt_int, ge_int, getIt_0, len_tup, len_lst, abs_int, int_bl, int_int, list_cel, liC_lst, len_cel, lnC_lst, list_tup, list_lst, tuple_lst, tuple_tup, forR_nil, forR_cons, forS_nx, forS_rt, nxP_nx, kAsg_ok, kPar2_ok, kTup_ok, kLst_ok, kCel_ok, S_ret, ne_eq, reduceCtorEq, not_false_eq_true, implies_true, RV.d, frz_nil, frz_cons, frzO_some, frzO_none, List.getElem?_cons_zero, List.getElem?_cons_succ, List.getElem?_nil, List.set_cons_zero, List.set_cons_succ, List.length_cons, List.length_nil, mask_nil, mask_none, mask_some, wipe_nil, wipe_cons, decide_true, decide_false, Bool.not_true, Bool.not_false, Nat.zero_add, Nat.reduceAdd, Nat.reduceLT, Nat.reduceLeDiff, Nat.lt_add_one, List.nil_append, List.cons_append, Nat.reduceSub, List.map_cons, List.map_nil, List.replicate_succ, rep_zero, start_eq, gX_some, getT, getL, getC, gC_lst, Int.reduceToNat, Int.reduceLE, Int.reduceLT, Int.reduceNeg, setO_ap, sO_some, setC_ap, sC_some, kAsT_ap, asT_some, bindT_nm, bindT_tup, bindTs_cons, bO_some, bindTs_nil, turnF_ap, tFo_some, cT_ap, cTo_some, cT2_t, cT2_f, cT3_fr, cT3_own, and_self, and_true, true_and, Int.zero_add, ixN_ge, Int.natCast_nonneg, Int.toNat_natCast, Int.cast_ofNat_Int, isin_ty, List.any_cons, List.any_nil, isTy, Bool.true_and, Bool.false_and, Bool.and_true, Bool.and_false, Bool.or_false, Bool.false_or, Bool.or_true, Bool.true_or, Int.reduceEq, hr, ei]
  · rintro ρ μ' ⟨e1, rfl⟩
    rw [e1]
    have : (intL cs).length = cs.length := by simp [intL]
    rw [this, List.take_length]
    simp only [bnd_rb, rb_ok, rb_exc, sb_ok, seq_nx, seq_rt, seq_ex, fin_nx, fin_rt, fin_ex, E_var, E_cst, E_glo, E_dic0, E_tup, E_lst, E_cel, E_op, E_cmp, E_chn, E_not, E_neg, E_con, E_dis, E_ife, E_idx, E_slc, E_call, E_blt, E_isi, E_rng1, E_rng2, E_comp, V_nil, V_cons, A_nil, A_cons, O_nil, O_cons, vr_fr, vo_fr, vo_own, vv_some, kD_fr, kD_own, kBl_ap, kOwn_ap, eo_var, eo_cst, eo_glo, eo_op, eo_idx, eo_slc, eo_call, eo_blt, eo_tup, eo_lst, eo_neg, eo_nt, eo_cmp, eo_con, eo_dis, eo_isi, eo_ife, eo_comp, kOp_ap, kCmp_ap, kCm2_ap, kCh1_ap, kCh2_ap, kCh3_t, kCh3_f, asR_bl, kNot_bl, kNeg_int, kA_bl, kA2_t, kA2_f, kO_bl, kO2_t, kO2_f, kA2_nil, kO2_nil, kIf_bl, kIf2_t, kIf2_f, kIdx_ap, kSl_ap, kSl2_ap, kSl3_ap, oi_mis, kI_int, oi_var, oi_cst, oi_op, oi_neg, oi_idx, oi_blt, oi_call, kR2_int, kComp_ap, kV_ap, kV2_fr, kV2_own, itemsOf_tup, itemsOf_lst, itemsOf_own, itemsOf_cell, itC_lst, itemsOf_wk, E_zip, E_enum, E_revd, E_newc, eo_newc, kZ1_ap, zipD_tt, zipD_ll, enumD_t, enumD_l, revD_t, revD_l, newC_own, kComp_apH, kFor_apH, S_asg, S_asT, S_par, S_exp, S_retv, S_ite, S_whl, S_for, S_setv, S_setc, S_mut, S_pas, B_nil, B_cons, kPar_ap, kExp_ap, kRet_ap, kIte_bl, kIte2_t, kIte2_f, kFor_ap, kSv_ap, kSv2_int, kSc_ap, kSc2_ap, kSc3_cell, kMut_ap, op_add, op_sub, eq_int, ne_int, eq_str, ne_str, ne_shT_self, eq_shT_self, lt_int, le_int, gt_int, ge_int, getIt_0, len_tup, len_lst, abs_int, int_bl, int_int, list_cel, liC_lst, len_cel, lnC_lst, list_tup, list_lst, tuple_lst, tuple_tup, forR_nil, forR_cons, forS_nx, forS_rt, nxP_nx, kAsg_ok, kPar2_ok, kTup_ok, kLst_ok, kCel_ok, S_ret, ne_eq, reduceCtorEq, not_false_eq_true, implies_true, RV.d, frz_nil, frz_cons, frzO_some, frzO_none, List.getElem?_cons_zero, List.getElem?_cons_succ, List.getElem?_nil, List.set_cons_zero, List.set_cons_succ, List.length_cons, List.length_nil, mask_nil, mask_none, mask_some, wipe_nil, wipe_cons, decide_true, decide_false, Bool.not_true, Bool.not_false, Nat.zero_add, Nat.reduceAdd, Nat.reduceLT, Nat.reduceLeDiff, Nat.lt_add_one, List.nil_append, List.cons_append, Nat.reduceSub, List.map_cons, List.map_nil, List.replicate_succ, rep_zero, start_eq, gX_some, getT, getL, getC, gC_lst, Int.reduceToNat, Int.reduceLE, Int.reduceLT, Int.reduceNeg, setO_ap, sO_some, setC_ap, sC_some, kAsT_ap, asT_some, bindT_nm, bindT_tup, bindTs_cons, bO_some, bindTs_nil, turnF_ap, tFo_some, cT_ap, cTo_some, cT2_t, cT2_f, cT3_fr, cT3_own, and_self, and_true, true_and, Int.zero_add, ixN_ge, Int.natCast_nonneg, Int.toNat_natCast, Int.cast_ofNat_Int, isin_ty, List.any_cons, List.any_nil, isTy, Bool.true_and, Bool.false_and, Bool.and_true, Bool.and_false, Bool.or_false, Bool.false_or, Bool.or_true, Bool.true_or, Int.reduceEq]
    rw [rto]
/-! ## all counts, all rows -/
theorem flat_len {α β : Type} {g : α → List β} {M : Nat} : ∀ {l : List α}, (∀ a ∈ l, (g a).length ≤ M) → (l.flatMap g).length ≤ l.length * M
  | [], _ => by simp
  | a :: l, h => by
    have h1 := h a List.mem_cons_self
    have h2 := flat_len (l := l) fun x hx => h x (List.mem_cons_of_mem _ hx)
    rw [List.flatMap_cons, List.length_append, List.length_cons, Nat.succ_mul]
    omega
theorem cw_len : ∀ (F n : Nat), (cw F n).length ≤ (n + 1) ^ F
  | 0, n => by simp [cw]
  | 1, n => by simp [cw]
  | F + 2, n => by
    unfold cw
    have := flat_len (l := List.range (n + 1)) (g := fun a => (cw (F + 1) (n - a)).map fun r => a :: r) (M := (n + 1) ^ (F + 1)) fun a ha => by
      rw [List.length_map]
      exact Nat.le_trans (cw_len (F + 1) (n - a)) (Nat.pow_le_pow_left (by omega) _)
    rw [List.length_range] at this
    rw [Nat.pow_succ, Nat.mul_comm]
    exact this
theorem cw_each : ∀ (F n : Nat), ∀ r ∈ cw F n, r.length = F ∧ r.sum = n
  | 0, n => by simp [cw]
  | 1, n => by simp [cw]
  | F + 2, n => by
    intro r hr
    unfold cw at hr
    obtain ⟨a, ha, hr⟩ := List.mem_flatMap.mp hr
    obtain ⟨r', hr', rfl⟩ := List.mem_map.mp hr
    have := cw_each (F + 1) (n - a) r' hr'
    have ha' : a < n + 1 := by simpa using ha
    exact ⟨by simp [this.1], by rw [List.sum_cons, this.2]; omega⟩
theorem add_tup (xs ys : List D) (μ : Mu) (h : xs.length + ys.length ≤ 16777216) : op2 .add (.tup xs) (.tup ys) μ = .ok (.fr (.tup (xs ++ ys))) μ := by simp [op2, guard', sizeOk, h, ret]
theorem flat_succ {α : Type} {g : Nat → List α} (i : Nat) : (List.range (i + 1)).flatMap g = (List.range i).flatMap g ++ g i := by
  rw [List.range_succ, List.flatMap_append]
  simp
theorem s_countswith : ∀ (F : Nat), 1 ≤ F → F ≤ 4 → ∀ (k n : Nat) (μ : Mu), n ≤ 20 → cl (k + F) 34 [.int (F : Nat), .int (n : Nat)] μ = .ok (.own ((cw F n).map cD)) μ
  | 0, h, _, _, _, _, _ => by omega
  | 1, _, _, k, n, μ, hn => by
    rw [cl, call_eq r34 rfl, g34]
    simp only [bnd_rb, rb_ok, rb_exc, sb_ok, seq_nx, seq_rt, seq_ex, fin_nx, fin_rt, fin_ex, E_var, E_cst, E_glo, E_dic0, E_tup, E_lst, E_cel, E_op, E_cmp, E_chn, E_not, E_neg, E_con, E_dis, E_ife, E_idx, E_slc, E_call, E_blt, E_isi, E_rng1, E_rng2, E_comp, V_nil, V_cons, A_nil, A_cons, O_nil, O_cons, vr_fr, vo_fr, vo_own, vv_some, kD_fr, kD_own, kBl_ap, kOwn_ap, eo_var, eo_cst, eo_glo, eo_op, eo_idx, eo_slc, eo_call, eo_blt, eo_tup, eo_lst, eo_neg, eo_nt, eo_cmp, eo_con, eo_dis, eo_isi, eo_ife, eo_comp, kOp_ap, kCmp_ap, kCm2_ap, kCh1_ap, kCh2_ap, kCh3_t, kCh3_f, asR_bl, kNot_bl, kNeg_int, kA_bl, kA2_t, kA2_f, kO_bl, kO2_t, kO2_f, kA2_nil, kO2_nil, kIf_bl, kIf2_t, kIf2_f, kIdx_ap, kSl_ap, kSl2_ap, kSl3_ap, oi_mis, kI_int, oi_var, oi_cst, oi_op, oi_neg, oi_idx, oi_blt, oi_call, kR2_int, kComp_ap, kV_ap, kV2_fr, kV2_own, itemsOf_tup, itemsOf_lst, itemsOf_own, itemsOf_cell, itC_lst, itemsOf_wk, E_zip, E_enum, E_revd, E_newc, eo_newc, kZ1_ap, zipD_tt, zipD_ll, enumD_t, enumD_l, revD_t, revD_l, newC_own, kComp_apH, kFor_apH, S_asg, S_asT, S_par, S_exp, S_retv, S_ite, S_whl, S_for, S_setv, S_setc, S_mut, S_pas, B_nil, B_cons, kPar_ap, kExp_ap, kRet_ap, kIte_bl, kIte2_t, kIte2_f, kFor_ap, kSv_ap, kSv2_int, kSc_ap, kSc2_ap, kSc3_cell, kMut_ap, op_add, op_sub, eq_int, ne_int, eq_str, ne_str, ne_shT_self, eq_shT_self, lt_int, le_int, gt_int, ge_int, getIt_0, len_tup, len_lst, abs_int, int_bl, int_int, list_cel, liC_lst, len_cel, lnC_lst, list_tup, list_lst, tuple_lst, tuple_tup, forR_nil, forR_cons, forS_nx, forS_rt, nxP_nx, kAsg_ok, kPar2_ok, kTup_ok, kLst_ok, kCel_ok, S_ret, ne_eq, reduceCtorEq, not_false_eq_true, implies_true, RV.d, frz_nil, frz_cons, frzO_some, frzO_none, List.getElem?_cons_zero, List.getElem?_cons_succ, List.getElem?_nil, List.set_cons_zero, List.set_cons_succ, List.length_cons, List.length_nil, mask_nil, mask_none, mask_some, wipe_nil, wipe_cons, decide_true, decide_false, Bool.not_true, Bool.not_false, Nat.zero_add, Nat.reduceAdd, Nat.reduceLT, Nat.reduceLeDiff, Nat.lt_add_one, List.nil_append, List.cons_append, Nat.reduceSub, List.map_cons, List.map_nil, List.replicate_succ, rep_zero, start_eq, gX_some, getT, getL, getC, gC_lst, Int.reduceToNat, Int.reduceLE, Int.reduceLT, Int.reduceNeg, setO_ap, sO_some, setC_ap, sC_some, kAsT_ap, asT_some, bindT_nm, bindT_tup, bindTs_cons, bO_some, bindTs_nil, turnF_ap, tFo_some, cT_ap, cTo_some, cT2_t, cT2_f, cT3_fr, cT3_own, and_self, and_true, true_and, Int.zero_add, ixN_ge, Int.natCast_nonneg, Int.toNat_natCast, Int.cast_ofNat_Int, isin_ty, List.any_cons, List.any_nil, isTy, Bool.true_and, Bool.false_and, Bool.and_true, Bool.and_false, Bool.or_false, Bool.false_or, Bool.or_true, Bool.true_or, Int.reduceEq]
    rfl
  | F + 2, _, h4, k, n, μ, hn => by
    have ih := s_countswith (F + 1) (by omega) (by omega)
    rw [cl, show k + (F + 2) = k + (F + 1) + 1 from rfl, call_eq r34 rfl, g34]
    have t1 : decide (((F + 2 : Nat) : Int) = 1) = false := decide_eq_false (by omega)
    have hr : ∀ μ, kR1 (.fr (.int ((n : Int) + 1))) μ = .ok (.fr (.lst (intsFrom 0 (n + 1)))) μ := fun μ => by
      have := range1 (n + 1) (by omega) μ
      rwa [Int.natCast_add] at this
    simp only [bnd_rb, rb_ok, rb_exc, sb_ok, seq_nx, seq_rt, seq_ex, fin_nx, fin_rt, fin_ex, E_var, E_cst, E_glo, E_dic0, E_tup, E_lst, E_cel, E_op, E_cmp, E_chn, E_not, E_neg, E_con, E_dis, E_ife, E_idx, E_slc, E_call, E_blt, E_isi, E_rng1, E_rng2, E_comp, V_nil, V_cons, A_nil, A_cons, O_nil, O_cons, vr_fr, vo_fr, vo_own, vv_some, kD_fr, kD_own, kBl_ap, kOwn_ap, eo_var, eo_cst, eo_glo, eo_op, eo_idx, eo_slc, eo_call, eo_blt, eo_tup, eo_lst, eo_neg, eo_nt, eo_cmp, eo_con, eo_dis, eo_isi, eo_ife, eo_comp, kOp_ap, kCmp_ap, kCm2_ap, kCh1_ap, kCh2_ap, kCh3_t, kCh3_f, asR_bl, kNot_bl, kNeg_int, kA_bl, kA2_t, kA2_f, kO_bl, kO2_t, kO2_f, kA2_nil, kO2_nil, kIf_bl, kIf2_t, kIf2_f, kIdx_ap, kSl_ap, kSl2_ap, kSl3_ap, oi_mis, kI_int, oi_var, oi_cst, oi_op, oi_neg, oi_idx, oi_blt, oi_call, kR2_int, kComp_ap, kV_ap, kV2_fr, kV2_own, itemsOf_tup, itemsOf_lst, itemsOf_own, itemsOf_cell, itC_lst, itemsOf_wk, E_zip, E_enum, E_revd, E_newc, eo_newc, kZ1_ap, zipD_tt, zipD_ll, enumD_t, enumD_l, revD_t, revD_l, newC_own, kComp_apH, kFor_apH, S_asg, S_asT, S_par, S_exp, S_retv, S_ite, S_whl, S_for, S_setv, S_setc, S_mut, S_pas, B_nil, B_cons, kPar_ap, kExp_ap, kRet_ap, kIte_bl, kIte2_t, kIte2_f, kFor_ap, kSv_ap, kSv2_int, kSc_ap, kSc2_ap, kSc3_cell, kMut_ap, op_add, op_sub, eq_int, ne_int, eq_str, ne_str, ne_shT_self, eq_shT_self, lt_int, le_int, gt_int, ge_int, getIt_0, len_tup, len_lst, abs_int, int_bl, int_int, list_cel, liC_lst, len_cel, lnC_lst, list_tup, list_lst, tuple_lst, tuple_tup, forR_nil, forR_cons, forS_nx, forS_rt, nxP_nx, kAsg_ok, kPar2_ok, kTup_ok, kLst_ok, kCel_ok, S_ret, ne_eq, reduceCtorEq, not_false_eq_true, implies_true, RV.d, frz_nil, frz_cons, frzO_some, frzO_none, List.getElem?_cons_zero, List.getElem?_cons_succ, List.getElem?_nil, List.set_cons_zero, List.set_cons_succ, List.length_cons, List.length_nil, mask_nil, mask_none, mask_some, wipe_nil, wipe_cons, decide_true, decide_false, Bool.not_true, Bool.not_false, Nat.zero_add, Nat.reduceAdd, Nat.reduceLT, Nat.reduceLeDiff, Nat.lt_add_one, List.nil_append, List.cons_append, Nat.reduceSub, List.map_cons, List.map_nil, List.replicate_succ, rep_zero, start_eq, gX_some, getT, getL, getC, gC_lst, Int.reduceToNat, Int.reduceLE, Int.reduceLT, Int.reduceNeg, setO_ap, sO_some, setC_ap, sC_some, kAsT_ap, asT_some, bindT_nm, bindT_tup, bindTs_cons, bO_some, bindTs_nil, turnF_ap, tFo_some, cT_ap, cTo_some, cT2_t, cT2_f, cT3_fr, cT3_own, and_self, and_true, true_and, Int.zero_add, ixN_ge, Int.natCast_nonneg, Int.toNat_natCast, Int.cast_ofNat_Int, isin_ty, List.any_cons, List.any_nil, isTy, Bool.true_and, Bool.false_and, Bool.and_true, Bool.and_false, Bool.or_false, Bool.false_or, Bool.or_true, Bool.true_or, Int.reduceEq, t1, hr]
    refine forR_use (P := fun r => fin (seq r _) = .ok _ μ) (fun i ρ μ' => μ' = μ ∧ ρ = [some (.fr (.int ((F + 2 : Nat) : Int))), some (.fr (.int (n : Nat))), some (.own (((List.range i).flatMap fun a => (cw (F + 1) (n - a)).map fun r => a :: r).map cD)), none, none]) ⟨rfl, rfl⟩ ?_ ?_
    · rintro a x ρ μ' hx ⟨e1, rfl⟩
      rw [e1]
      obtain ⟨ha, rfl⟩ := ints_at hx
      have e2 : (((F + 2 : Nat) : Int) - 1) = ((F + 1 : Nat) : Int) := by omega
      have e3 : ((n : Int) - (a : Int)) = ((n - a : Nat) : Int) := by omega
      have ec := ih k (n - a) μ (by omega)
      unfold cl at ec
      have c1 : ∀ (x0 x1 x2 : Option RV), compR (cT (callD reg (k + (F + 1))) (.op .add (.tup (.cons (.var 3) .nil)) (.var 4)) (.nm 4) .nil [4] [x0, x1, x2, some (.fr (.int (a : Nat))), none]) ((cw (F + 1) (n - a)).map cD) μ = .ok (((cw (F + 1) (n - a)).map fun r => a :: r).map cD) μ := fun x0 x1 x2 => by
        rw [List.map_map]
        refine compR_all _ fun r hr => ?_
        have hrl := (cw_each _ _ r hr).1
        have ha : ∀ μ, op2 .add (.tup [.int (a : Nat)]) (.tup (intL r)) μ = .ok (.fr (.tup ([.int (a : Nat)] ++ intL r))) μ := fun μ => add_tup _ _ μ (by simp [intL]; omega)
        cases x0 <;> cases x1 <;> cases x2 <;> (simp only [bnd_rb, rb_ok, rb_exc, sb_ok, seq_nx, seq_rt, seq_ex, fin_nx, fin_rt, fin_ex, E_var, E_cst, E_glo, E_dic0, E_tup, E_lst, E_cel, E_op, E_cmp, E_chn, E_not, E_neg, E_con, E_dis, E_ife, E_idx, E_slc, E_call, E_blt, E_isi, E_rng1, E_rng2, E_comp, V_nil, V_cons, A_nil, A_cons, O_nil, O_cons, vr_fr, vo_fr, vo_own, vv_some, kD_fr, kD_own, kBl_ap, kOwn_ap, eo_var, eo_cst, eo_glo, eo_op, eo_idx, eo_slc, eo_call, eo_blt, eo_tup, eo_lst, eo_neg, eo_nt, eo_cmp, eo_con, eo_dis, eo_isi, eo_ife, eo_comp, kOp_ap, kCmp_ap, kCm2_ap, kCh1_ap, kCh2_ap, kCh3_t, kCh3_f, asR_bl, kNot_bl, kNeg_int, kA_bl, kA2_t, kA2_f, kO_bl, kO2_t, kO2_f, kA2_nil, kO2_nil, kIf_bl, kIf2_t, kIf2_f, kIdx_ap, kSl_ap, kSl2_ap, kSl3_ap, oi_mis, kI_int, oi_var, oi_cst, oi_op, oi_neg, oi_idx, oi_blt, oi_call, kR2_int, kComp_ap, kV_ap, kV2_fr, kV2_own, itemsOf_tup, itemsOf_lst, itemsOf_own, itemsOf_cell, itC_lst, itemsOf_wk, E_zip, E_enum, E_revd, E_newc, eo_newc, kZ1_ap, zipD_tt, zipD_ll, enumD_t, enumD_l, revD_t, revD_l, newC_own, kComp_apH, kFor_apH, S_asg, S_asT, S_par, S_exp, S_retv, S_ite, S_whl, S_for, S_setv, S_setc, S_mut, S_pas, B_nil, B_cons, kPar_ap, kExp_ap, kRet_ap, kIte_bl, kIte2_t, kIte2_f, kFor_ap, kSv_ap, kSv2_int, kSc_ap, kSc2_ap, kSc3_cell, kMut_ap, op_add, op_sub, eq_int, ne_int, eq_str, ne_str, ne_shT_self, eq_shT_self, lt_int, le_int, gt_int, ge_int, getIt_0, len_tup, len_lst, abs_int, int_bl, int_int, list_cel, liC_lst, len_cel, lnC_lst, list_tup, list_lst, tuple_lst, tuple_tup, forR_nil, forR_cons, forS_nx, forS_rt, nxP_nx, kAsg_ok, kPar2_ok, kTup_ok, kLst_ok, kCel_ok, S_ret, ne_eq, reduceCtorEq, not_false_eq_true, implies_true, RV.d, frz_nil, frz_cons, frzO_some, frzO_none, List.getElem?_cons_zero, List.getElem?_cons_succ, List.getElem?_nil, List.set_cons_zero, List.set_cons_succ, List.length_cons, List.length_nil, mask_nil, mask_none, mask_some, wipe_nil, wipe_cons, decide_true, decide_false, Bool.not_true, Bool.not_false, Nat.zero_add, Nat.reduceAdd, Nat.reduceLT, Nat.reduceLeDiff, Nat.lt_add_one, List.nil_append, List.cons_append, Nat.reduceSub, List.map_cons, List.map_nil, List.replicate_succ, rep_zero, start_eq, gX_some, getT, getL, getC, gC_lst, Int.reduceToNat, Int.reduceLE, Int.reduceLT, Int.reduceNeg, setO_ap, sO_some, setC_ap, sC_some, kAsT_ap, asT_some, bindT_nm, bindT_tup, bindTs_cons, bO_some, bindTs_nil, turnF_ap, tFo_some, cT_ap, cTo_some, cT2_t, cT2_f, cT3_fr, cT3_own, and_self, and_true, true_and, Int.zero_add, ixN_ge, Int.natCast_nonneg, Int.toNat_natCast, Int.cast_ofNat_Int, isin_ty, List.any_cons, List.any_nil, isTy, Bool.true_and, Bool.false_and, Bool.and_true, Bool.and_false, Bool.or_false, Bool.false_or, Bool.or_true, Bool.true_or, Int.reduceEq, cD, ha]; rfl)
      have hext : ∀ (ρ : Env), mutO .extend ρ 2 [.lst (((cw (F + 1) (n - a)).map fun r => a :: r).map cD)] μ (some (some (.own (((List.range a).flatMap fun a => (cw (F + 1) (n - a)).map fun r => a :: r).map cD)))) = .nx (ρ.set 2 (some (.own (((List.range a).flatMap fun a => (cw (F + 1) (n - a)).map fun r => a :: r).map cD ++ ((cw (F + 1) (n - a)).map fun r => a :: r).map cD)))) μ := fun ρ => by
        refine mutO_ext ?_
        have hM : ∀ b, ((cw (F + 1) (n - b)).map fun r => b :: r).length ≤ 21 ^ 3 := fun b => by
          rw [List.length_map]
          refine Nat.le_trans (cw_len _ _) ?_
          refine Nat.le_trans (Nat.pow_le_pow_left (show n - b + 1 ≤ 21 by omega) _) (Nat.pow_le_pow_right (by decide) (by omega))
        have h1 := flat_len (l := List.range a) (g := fun b => (cw (F + 1) (n - b)).map fun r => b :: r) (M := 21 ^ 3) fun b _ => hM b
        have h2 := hM a
        rw [List.length_range] at h1
        have h3 : a * 21 ^ 3 ≤ 21 * 21 ^ 3 := Nat.mul_le_mul_right _ (by omega)
        rw [List.length_map, List.length_map]
        omega
      simp only [bnd_rb, rb_ok, rb_exc, sb_ok, seq_nx, seq_rt, seq_ex, fin_nx, fin_rt, fin_ex, E_var, E_cst, E_glo, E_dic0, E_tup, E_lst, E_cel, E_op, E_cmp, E_chn, E_not, E_neg, E_con, E_dis, E_ife, E_idx, E_slc, E_call, E_blt, E_isi, E_rng1, E_rng2, E_comp, V_nil, V_cons, A_nil, A_cons, O_nil, O_cons, vr_fr, vo_fr, vo_own, vv_some, kD_fr, kD_own, kBl_ap, kOwn_ap, eo_var, eo_cst, eo_glo, eo_op, eo_idx, eo_slc, eo_call, eo_blt, eo_tup, eo_lst, eo_neg, eo_nt, eo_cmp, eo_con, eo_dis, eo_isi, eo_ife, eo_comp, kOp_ap, kCmp_ap, kCm2_ap, kCh1_ap, kCh2_ap, kCh3_t, kCh3_f, asR_bl, kNot_bl, kNeg_int, kA_bl, kA2_t, kA2_f, kO_bl, kO2_t, kO2_f, kA2_nil, kO2_nil, kIf_bl, kIf2_t, kIf2_f, kIdx_ap, kSl_ap, kSl2_ap, kSl3_ap, oi_mis, kI_int, oi_var, oi_cst, oi_op, oi_neg, oi_idx, oi_blt, oi_call, kR2_int, kComp_ap, kV_ap, kV2_fr, kV2_own, itemsOf_tup, itemsOf_lst, itemsOf_own, itemsOf_cell, itC_lst, itemsOf_wk, E_zip, E_enum, E_revd, E_newc, eo_newc, kZ1_ap, zipD_tt, zipD_ll, enumD_t, enumD_l, revD_t, revD_l, newC_own, kComp_apH, kFor_apH, S_asg, S_asT, S_par, S_exp, S_retv, S_ite, S_whl, S_for, S_setv, S_setc, S_mut, S_pas, B_nil, B_cons, kPar_ap, kExp_ap, kRet_ap, kIte_bl, kIte2_t, kIte2_f, kFor_ap, kSv_ap, kSv2_int, kSc_ap, kSc2_ap, kSc3_cell, kMut_ap, op_add, op_sub, eq_int, ne_int, eq_str, ne_str, ne_shT_self, eq_shT_self, lt_int, le_int, gt_int, ge_int, getIt_0, len_tup, len_lst, abs_int, int_bl, int_int, list_cel, liC_lst, len_cel, lnC_lst, list_tup, list_lst, tuple_lst, tuple_tup, forR_nil, forR_cons, forS_nx, forS_rt, nxP_nx, kAsg_ok, kPar2_ok, kTup_ok, kLst_ok, kCel_ok, S_ret, ne_eq, reduceCtorEq, not_false_eq_true, implies_true, RV.d, frz_nil, frz_cons, frzO_some, frzO_none, List.getElem?_cons_zero, List.getElem?_cons_succ, List.getElem?_nil, List.set_cons_zero, List.set_cons_succ, List.length_cons, List.length_nil, mask_nil, mask_none, mask_some, wipe_nil, wipe_cons, decide_true, decide_false, Bool.not_true, Bool.not_false, Nat.zero_add, Nat.reduceAdd, Nat.reduceLT, Nat.reduceLeDiff, Nat.lt_add_one, List.nil_append, List.cons_append, Nat.reduceSub, List.map_cons, List.map_nil, List.replicate_succ, rep_zero, start_eq, gX_some, getT, getL, getC, gC_lst, Int.reduceToNat, Int.reduceLE, Int.reduceLT, Int.reduceNeg, setO_ap, sO_some, setC_ap, sC_some, kAsT_ap, asT_some, bindT_nm, bindT_tup, bindTs_cons, bO_some, bindTs_nil, turnF_ap, tFo_some, cT_ap, cTo_some, cT2_t, cT2_f, cT3_fr, cT3_own, and_self, and_true, true_and, Int.zero_add, ixN_ge, Int.natCast_nonneg, Int.toNat_natCast, Int.cast_ofNat_Int, isin_ty, List.any_cons, List.any_nil, isTy, Bool.true_and, Bool.false_and, Bool.and_true, Bool.and_false, Bool.or_false, Bool.false_or, Bool.or_true, Bool.true_or, Int.reduceEq, e2, e3, ec, c1, hext]
      rw [flat_succ, List.map_append]
    · rintro ρ μ' ⟨e1, rfl⟩
      rw [e1, ints_len]
      simp only [bnd_rb, rb_ok, rb_exc, sb_ok, seq_nx, seq_rt, seq_ex, fin_nx, fin_rt, fin_ex, E_var, E_cst, E_glo, E_dic0, E_tup, E_lst, E_cel, E_op, E_cmp, E_chn, E_not, E_neg, E_con, E_dis, E_ife, E_idx, E_slc, E_call, E_blt, E_isi, E_rng1, E_rng2, E_comp, V_nil, V_cons, A_nil, A_cons, O_nil, O_cons, vr_fr, vo_fr, vo_own, vv_some, kD_fr, kD_own, kBl_ap, kOwn_ap, eo_var, eo_cst, eo_glo, eo_op, eo_idx, eo_slc, eo_call, eo_blt, eo_tup, eo_lst, eo_neg, eo_nt, eo_cmp, eo_con, eo_dis, eo_isi, eo_ife, eo_comp, kOp_ap, kCmp_ap, kCm2_ap, kCh1_ap, kCh2_ap, kCh3_t, kCh3_f, asR_bl, kNot_bl, kNeg_int, kA_bl, kA2_t, kA2_f, kO_bl, kO2_t, kO2_f, kA2_nil, kO2_nil, kIf_bl, kIf2_t, kIf2_f, kIdx_ap, kSl_ap, kSl2_ap, kSl3_ap, oi_mis, kI_int, oi_var, oi_cst, oi_op, oi_neg, oi_idx, oi_blt, oi_call, kR2_int, kComp_ap, kV_ap, kV2_fr, kV2_own, itemsOf_tup, itemsOf_lst, itemsOf_own, itemsOf_cell, itC_lst, itemsOf_wk, E_zip, E_enum, E_revd, E_newc, eo_newc, kZ1_ap, zipD_tt, zipD_ll, enumD_t, enumD_l, revD_t, revD_l, newC_own, kComp_apH, kFor_apH, S_asg, S_asT, S_par, S_exp, S_retv, S_ite, S_whl, S_for, S_setv, S_setc, S_mut, S_pas, B_nil, B_cons, kPar_ap, kExp_ap, kRet_ap, kIte_bl, kIte2_t, kIte2_f, kFor_ap, kSv_ap, kSv2_int, kSc_ap, kSc2_ap, kSc3_cell, kMut_ap, op_add, op_sub, eq_int, ne_int, eq_str, ne_str, ne_shT_self, eq_shT_self, lt_int, le_int, gt_int, ge_int, getIt_0, len_tup, len_lst, abs_int, int_bl, int_int, list_cel, liC_lst, len_cel, lnC_lst, list_tup, list_lst, tuple_lst, tuple_tup, forR_nil, forR_cons, forS_nx, forS_rt, nxP_nx, kAsg_ok, kPar2_ok, kTup_ok, kLst_ok, kCel_ok, S_ret, ne_eq, reduceCtorEq, not_false_eq_true, implies_true, RV.d, frz_nil, frz_cons, frzO_some, frzO_none, List.getElem?_cons_zero, List.getElem?_cons_succ, List.getElem?_nil, List.set_cons_zero, List.set_cons_succ, List.length_cons, List.length_nil, mask_nil, mask_none, mask_some, wipe_nil, wipe_cons, decide_true, decide_false, Bool.not_true, Bool.not_false, Nat.zero_add, Nat.reduceAdd, Nat.reduceLT, Nat.reduceLeDiff, Nat.lt_add_one, List.nil_append, List.cons_append, Nat.reduceSub, List.map_cons, List.map_nil, List.replicate_succ, rep_zero, start_eq, gX_some, getT, getL, getC, gC_lst, Int.reduceToNat, Int.reduceLE, Int.reduceLT, Int.reduceNeg, setO_ap, sO_some, setC_ap, sC_some, kAsT_ap, asT_some, bindT_nm, bindT_tup, bindTs_cons, bO_some, bindTs_nil, turnF_ap, tFo_some, cT_ap, cTo_some, cT2_t, cT2_f, cT3_fr, cT3_own, and_self, and_true, true_and, Int.zero_add, ixN_ge, Int.natCast_nonneg, Int.toNat_natCast, Int.cast_ofNat_Int, isin_ty, List.any_cons, List.any_nil, isTy, Bool.true_and, Bool.false_and, Bool.and_true, Bool.and_false, Bool.or_false, Bool.false_or, Bool.or_true, Bool.true_or, Int.reduceEq]
      rfl
theorem s_allcounts (k F n : Nat) (h1 : 1 ≤ F) (h4 : F ≤ 4) (hn : n ≤ 20) (μ : Mu) : cl (k + F + 1) 35 [.int (F : Nat), .int (n : Nat)] μ = .ok (.own ((allc F n).map cD)) μ := by
  rw [cl, call_eq r35 rfl, g35]
  have hr : ∀ μ, kR1 (.fr (.int ((n : Int) + 1))) μ = .ok (.fr (.lst (intsFrom 0 (n + 1)))) μ := fun μ => by
    have := range1 (n + 1) (by omega) μ
    rwa [Int.natCast_add] at this
  simp only [bnd_rb, rb_ok, rb_exc, sb_ok, seq_nx, seq_rt, seq_ex, fin_nx, fin_rt, fin_ex, E_var, E_cst, E_glo, E_dic0, E_tup, E_lst, E_cel, E_op, E_cmp, E_chn, E_not, E_neg, E_con, E_dis, E_ife, E_idx, E_slc, E_call, E_blt, E_isi, E_rng1, E_rng2, E_comp, V_nil, V_cons, A_nil, A_cons, O_nil, O_cons, vr_fr, vo_fr, vo_own, vv_some, kD_fr, kD_own, kBl_ap, kOwn_ap, eo_var, eo_cst, eo_glo, eo_op, eo_idx, eo_slc, eo_call, eo_blt, eo_tup, eo_lst, eo_neg, eo_nt, eo_cmp, eo_con, eo_dis, eo_isi, eo_ife, eo_comp, kOp_ap, kCmp_ap, kCm2_ap, kCh1_ap, kCh2_ap, kCh3_t, kCh3_f, asR_bl, kNot_bl, kNeg_int, kA_bl, kA2_t, kA2_f, kO_bl, kO2_t, kO2_f, kA2_nil, kO2_nil, kIf_bl, kIf2_t, kIf2_f, kIdx_ap, kSl_ap, kSl2_ap, kSl3_ap, oi_mis, kI_int, oi_var, oi_cst, oi_op, oi_neg, oi_idx, oi_blt, oi_call, kR2_int, kComp_ap, kV_ap, kV2_fr, kV2_own, itemsOf_tup, itemsOf_lst, itemsOf_own, itemsOf_cell, itC_lst, itemsOf_wk, E_zip, E_enum, E_revd, E_newc, eo_newc, kZ1_ap, zipD_tt, zipD_ll, enumD_t, enumD_l, revD_t, revD_l, newC_own, kComp_apH, kFor_apH, S_asg, S_asT, S_par, S_exp, S_retv, S_ite, S_whl, S_for, S_setv, S_setc, S_mut, S_pas, B_nil, B_cons, kPar_ap, kExp_ap, kRet_ap, kIte_bl, kIte2_t, kIte2_f, kFor_ap, kSv_ap, kSv2_int, kSc_ap, kSc2_ap, kSc3_cell, kMut_ap, op_add, op_sub, eq_int, ne_int, eq_str, ne_str, ne_shT_self, eq_shT_self, lt_int, le_int, gt_int, ge_int, getIt_0, len_tup, len_lst, abs_int, int_bl, int_int, list_cel, liC_lst, len_cel, lnC_lst, list_tup, list_lst, tuple_lst, tuple_tup, forR_nil, forR_cons, forS_nx, forS_rt, nxP_nx, kAsg_ok, kPar2_ok, kTup_ok, kLst_ok, kCel_ok, S_ret, ne_eq, reduceCtorEq, not_false_eq_true, implies_true, RV.d, frz_nil, frz_cons, frzO_some, frzO_none, List.getElem?_cons_zero, List.getElem?_cons_succ, List.getElem?_nil, List.set_cons_zero, List.set_cons_succ, List.length_cons, List.length_nil, mask_nil, mask_none, mask_some, wipe_nil, wipe_cons, decide_true, decide_false, Bool.not_true, Bool.not_false, Nat.zero_add, Nat.reduceAdd, Nat.reduceLT, Nat.reduceLeDiff, Nat.lt_add_one, List.nil_append, List.cons_append, Nat.reduceSub, List.map_cons, List.map_nil, List.replicate_succ, rep_zero, start_eq, gX_some, getT, getL, getC, gC_lst, Int.reduceToNat, Int.reduceLE, Int.reduceLT, Int.reduceNeg, setO_ap, sO_some, setC_ap, sC_some, kAsT_ap, asT_some, bindT_nm, bindT_tup, bindTs_cons, bO_some, bindTs_nil, turnF_ap, tFo_some, cT_ap, cTo_some, cT2_t, cT2_f, cT3_fr, cT3_own, and_self, and_true, true_and, Int.zero_add, ixN_ge, Int.natCast_nonneg, Int.toNat_natCast, Int.cast_ofNat_Int, isin_ty, List.any_cons, List.any_nil, isTy, Bool.true_and, Bool.false_and, Bool.and_true, Bool.and_false, Bool.or_false, Bool.false_or, Bool.or_true, Bool.true_or, Int.reduceEq, hr]
  refine forR_use (P := fun r => fin (seq r _) = .ok _ μ) (fun i ρ μ' => μ' = μ ∧ ρ = [some (.fr (.int (F : Nat))), some (.fr (.int (n : Nat))), some (.own (((List.range i).flatMap fun m => cw F m).map cD)), none]) ⟨rfl, rfl⟩ ?_ ?_
  · rintro a x ρ μ' hx ⟨e1, rfl⟩
    rw [e1]
    obtain ⟨ha, rfl⟩ := ints_at hx
    have ec := s_countswith F h1 h4 k a μ (by omega)
    unfold cl at ec
    have hext : ∀ (ρ : Env), mutO .extend ρ 2 [.lst ((cw F a).map cD)] μ (some (some (.own (((List.range a).flatMap fun m => cw F m).map cD)))) = .nx (ρ.set 2 (some (.own (((List.range a).flatMap fun m => cw F m).map cD ++ (cw F a).map cD)))) μ := fun ρ => by
      refine mutO_ext ?_
      have hM : ∀ b, b ≤ 20 → (cw F b).length ≤ 21 ^ 4 := fun b hb => Nat.le_trans (cw_len _ _) (Nat.le_trans (Nat.pow_le_pow_left (show b + 1 ≤ 21 by omega) _) (Nat.pow_le_pow_right (by decide) h4))
      have h1 := flat_len (l := List.range a) (g := fun m => cw F m) (M := 21 ^ 4) fun b hb => hM b (by have := List.mem_range.mp hb; omega)
      have h2 := hM a (by omega)
      rw [List.length_range] at h1
      have h3 : a * 21 ^ 4 ≤ 21 * 21 ^ 4 := Nat.mul_le_mul_right _ (by omega)
      rw [List.length_map, List.length_map]
      omega
    simp only [bnd_rb, rb_ok, rb_exc, sb_ok, seq_nx, seq_rt, seq_ex, fin_nx, fin_rt, fin_ex, E_var, E_cst, E_glo, E_dic0, E_tup, E_lst, E_cel, E_op, E_cmp, E_chn, E_not, E_neg, E_con, E_dis, E_ife, E_idx, E_slc, E_call, E_blt, E_isi, E_rng1, E_rng2, E_comp, V_nil, V_cons, A_nil, A_cons, O_nil, O_cons, vr_fr, vo_fr, vo_own, vv_some, kD_fr, kD_own, kBl_ap, kOwn_ap, eo_var, eo_cst, eo_glo, eo_op, eo_idx, eo_slc, eo_call, eo_blt, eo_tup, eo_lst, eo_neg, eo_nt, eo_cmp, eo_con, eo_dis, eo_isi, eo_ife, eo_comp, kOp_ap, kCmp_ap, kCm2_ap, kCh1_ap, kCh2_ap, kCh3_t, kCh3_f, asR_bl, kNot_bl, kNeg_int, kA_bl, kA2_t, kA2_f, kO_bl, kO2_t, kO2_f, kA2_nil, kO2_nil, kIf_bl, kIf2_t, kIf2_f, kIdx_ap, kSl_ap, kSl2_ap, kSl3_ap, oi_mis, kI_int, oi_var, oi_cst, oi_op, oi_neg, oi_idx, oi_blt, oi_call, kR2_int, kComp_ap, kV_ap, kV2_fr, kV2_own, itemsOf_tup, itemsOf_lst, itemsOf_own, itemsOf_cell, itC_lst, itemsOf_wk, E_zip, E_enum, E_revd, E_newc, eo_newc, kZ1_ap, zipD_tt, zipD_ll, enumD_t, enumD_l, revD_t, revD_l, newC_own, kComp_apH, kFor_apH, S_asg, S_asT, S_par, S_exp, S_retv, S_ite, S_whl, S_for, S_setv, S_setc, S_mut, S_pas, B_nil, B_cons, kPar_ap, kExp_ap, kRet_ap, kIte_bl, kIte2_t, kIte2_f, kFor_ap, kSv_ap, kSv2_int, kSc_ap, kSc2_ap, kSc3_cell, kMut_ap, op_add, op_sub, eq_int, ne_int, eq_str, ne_str, ne_shT_self, eq_shT_self, lt_int, le_int, gt_int, ge_int, getIt_0, len_tup, len_lst, abs_int, int_bl, int_int, list_cel, liC_lst, len_cel, lnC_lst, list_tup, list_lst, tuple_lst, tuple_tup, forR_nil, forR_cons, forS_nx, forS_rt, nxP_nx, kAsg_ok, kPar2_ok, kTup_ok, kLst_ok, kCel_ok, S_ret, ne_eq, reduceCtorEq, not_false_eq_true, implies_true, RV.d, frz_nil, frz_cons, frzO_some, frzO_none, List.getElem?_cons_zero, List.getElem?_cons_succ, List.getElem?_nil, List.set_cons_zero, List.set_cons_succ, List.length_cons, List.length_nil, mask_nil, mask_none, mask_some, wipe_nil, wipe_cons, decide_true, decide_false, Bool.not_true, Bool.not_false, Nat.zero_add, Nat.reduceAdd, Nat.reduceLT, Nat.reduceLeDiff, Nat.lt_add_one, List.nil_append, List.cons_append, Nat.reduceSub, List.map_cons, List.map_nil, List.replicate_succ, rep_zero, start_eq, gX_some, getT, getL, getC, gC_lst, Int.reduceToNat, Int.reduceLE, Int.reduceLT, Int.reduceNeg, setO_ap, sO_some, setC_ap, sC_some, kAsT_ap, asT_some, bindT_nm, bindT_tup, bindTs_cons, bO_some, bindTs_nil, turnF_ap, tFo_some, cT_ap, cTo_some, cT2_t, cT2_f, cT3_fr, cT3_own, and_self, and_true, true_and, Int.zero_add, ixN_ge, Int.natCast_nonneg, Int.toNat_natCast, Int.cast_ofNat_Int, isin_ty, List.any_cons, List.any_nil, isTy, Bool.true_and, Bool.false_and, Bool.and_true, Bool.and_false, Bool.or_false, Bool.false_or, Bool.or_true, Bool.true_or, Int.reduceEq, ec, hext]
    rw [flat_succ, List.map_append]
  · rintro ρ μ' ⟨e1, rfl⟩
    rw [e1, ints_len]
    simp only [bnd_rb, rb_ok, rb_exc, sb_ok, seq_nx, seq_rt, seq_ex, fin_nx, fin_rt, fin_ex, E_var, E_cst, E_glo, E_dic0, E_tup, E_lst, E_cel, E_op, E_cmp, E_chn, E_not, E_neg, E_con, E_dis, E_ife, E_idx, E_slc, E_call, E_blt, E_isi, E_rng1, E_rng2, E_comp, V_nil, V_cons, A_nil, A_cons, O_nil, O_cons, vr_fr, vo_fr, vo_own, vv_some, kD_fr, kD_own, kBl_ap, kOwn_ap, eo_var, eo_cst, eo_glo, eo_op, eo_idx, eo_slc, eo_call, eo_blt, eo_tup, eo_lst, eo_neg, eo_nt, eo_cmp, eo_con, eo_dis, eo_isi, eo_ife, eo_comp, kOp_ap, kCmp_ap, kCm2_ap, kCh1_ap, kCh2_ap, kCh3_t, kCh3_f, asR_bl, kNot_bl, kNeg_int, kA_bl, kA2_t, kA2_f, kO_bl, kO2_t, kO2_f, kA2_nil, kO2_nil, kIf_bl, kIf2_t, kIf2_f, kIdx_ap, kSl_ap, kSl2_ap, kSl3_ap, oi_mis, kI_int, oi_var, oi_cst, oi_op, oi_neg, oi_idx, oi_blt, oi_call, kR2_int, kComp_ap, kV_ap, kV2_fr, kV2_own, itemsOf_tup, itemsOf_lst, itemsOf_own, itemsOf_cell, itC_lst, itemsOf_wk, E_zip, E_enum, E_revd, E_newc, eo_newc, kZ1_ap, zipD_tt, zipD_ll, enumD_t, enumD_l, revD_t, revD_l, newC_own, kComp_apH, kFor_apH, S_asg, S_asT, S_par, S_exp, S_retv, S_ite, S_whl, S_for, S_setv, S_setc, S_mut, S_pas, B_nil, B_cons, kPar_ap, kExp_ap, kRet_ap, kIte_bl, kIte2_t, kIte2_f, kFor_ap, kSv_ap, kSv2_int, kSc_ap, kSc2_ap, kSc3_cell, kMut_ap, op_add, op_sub, eq_int, ne_int, eq_str, ne_str, ne_shT_self, eq_shT_self, lt_int, le_int, gt_int, ge_int, getIt_0, len_tup, len_lst, abs_int, int_bl, int_int, list_cel, liC_lst, len_cel, lnC_lst, list_tup, list_lst, tuple_lst, tuple_tup, forR_nil, forR_cons, forS_nx, forS_rt, nxP_nx, kAsg_ok, kPar2_ok, kTup_ok, kLst_ok, kCel_ok, S_ret, ne_eq, reduceCtorEq, not_false_eq_true, implies_true, RV.d, frz_nil, frz_cons, frzO_some, frzO_none, List.getElem?_cons_zero, List.getElem?_cons_succ, List.getElem?_nil, List.set_cons_zero, List.set_cons_succ, List.length_cons, List.length_nil, mask_nil, mask_none, mask_some, wipe_nil, wipe_cons, decide_true, decide_false, Bool.not_true, Bool.not_false, Nat.zero_add, Nat.reduceAdd, Nat.reduceLT, Nat.reduceLeDiff, Nat.lt_add_one, List.nil_append, List.cons_append, Nat.reduceSub, List.map_cons, List.map_nil, List.replicate_succ, rep_zero, start_eq, gX_some, getT, getL, getC, gC_lst, Int.reduceToNat, Int.reduceLE, Int.reduceLT, Int.reduceNeg, setO_ap, sO_some, setC_ap, sC_some, kAsT_ap, asT_some, bindT_nm, bindT_tup, bindTs_cons, bO_some, bindTs_nil, turnF_ap, tFo_some, cT_ap, cTo_some, cT2_t, cT2_f, cT3_fr, cT3_own, and_self, and_true, true_and, Int.zero_add, ixN_ge, Int.natCast_nonneg, Int.toNat_natCast, Int.cast_ofNat_Int, isin_ty, List.any_cons, List.any_nil, isTy, Bool.true_and, Bool.false_and, Bool.and_true, Bool.and_false, Bool.or_false, Bool.false_or, Bool.or_true, Bool.true_or, Int.reduceEq]
    rfl
theorem longer_len (rows : List (List Nat)) (F : Nat) : (longer rows F).length = rows.length * F := by
  unfold longer
  induction rows with
  | nil => simp
  | cons r rows ih => rw [List.flatMap_cons, List.length_append, ih, List.length_map, List.length_range, List.length_cons, Nat.succ_mul]; omega
theorem rowsL_len (F : Nat) : ∀ n, (rowsL F n).length = F ^ n
  | 0 => rfl
  | n + 1 => by rw [rowsL, longer_len, rowsL_len F n, Nat.pow_succ]
theorem rowsL_each (F : Nat) : ∀ (n : Nat), ∀ r ∈ rowsL F n, r.length = n ∧ ∀ f ∈ r, f < F
  | 0 => by simp [rowsL]
  | n + 1 => by
    intro r hr
    unfold rowsL longer at hr
    obtain ⟨r', hr', hr⟩ := List.mem_flatMap.mp hr
    obtain ⟨f, hf, rfl⟩ := List.mem_map.mp hr
    have := rowsL_each F n r' hr'
    refine ⟨by simp [this.1], fun g hg => ?_⟩
    rcases List.mem_append.mp hg with h | h
    · exact this.2 g h
    · rw [List.mem_singleton.mp h]; simpa using hf
theorem flat_snoc {α β : Type} {g : α → List β} (l : List α) (x : α) : (l ++ [x]).flatMap g = l.flatMap g ++ g x := by
  rw [List.flatMap_append]; simp
theorem s_longer (k F : Nat) (rows : List (List Nat)) (hl : rows.length * F ≤ 10000) (hF : F ≤ 100) (hr : ∀ r ∈ rows, r.length ≤ 100) (μ : Mu) : cl (k + 1) 36 [.lst (rows.map cD), .int (F : Nat)] μ = .ok (.own ((longer rows F).map cD)) μ := by
  rw [cl, call_eq r36 rfl, g36]
  simp only [bnd_rb, rb_ok, rb_exc, sb_ok, seq_nx, seq_rt, seq_ex, fin_nx, fin_rt, fin_ex, E_var, E_cst, E_glo, E_dic0, E_tup, E_lst, E_cel, E_op, E_cmp, E_chn, E_not, E_neg, E_con, E_dis, E_ife, E_idx, E_slc, E_call, E_blt, E_isi, E_rng1, E_rng2, E_comp, V_nil, V_cons, A_nil, A_cons, O_nil, O_cons, vr_fr, vo_fr, vo_own, vv_some, kD_fr, kD_own, kBl_ap, kOwn_ap, eo_var, eo_cst, eo_glo, eo_op, eo_idx, eo_slc, eo_call, eo_blt, eo_tup, eo_lst, eo_neg, eo_nt, eo_cmp, eo_con, eo_dis, eo_isi, eo_ife, eo_comp, kOp_ap, kCmp_ap, kCm2_ap, kCh1_ap, kCh2_ap, kCh3_t, kCh3_f, asR_bl, kNot_bl, kNeg_int, kA_bl, kA2_t, kA2_f, kO_bl, kO2_t, kO2_f, kA2_nil, kO2_nil, kIf_bl, kIf2_t, kIf2_f, kIdx_ap, kSl_ap, kSl2_ap, kSl3_ap, oi_mis, kI_int, oi_var, oi_cst, oi_op, oi_neg, oi_idx, oi_blt, oi_call, kR2_int, kComp_ap, kV_ap, kV2_fr, kV2_own, itemsOf_tup, itemsOf_lst, itemsOf_own, itemsOf_cell, itC_lst, itemsOf_wk, E_zip, E_enum, E_revd, E_newc, eo_newc, kZ1_ap, zipD_tt, zipD_ll, enumD_t, enumD_l, revD_t, revD_l, newC_own, kComp_apH, kFor_apH, S_asg, S_asT, S_par, S_exp, S_retv, S_ite, S_whl, S_for, S_setv, S_setc, S_mut, S_pas, B_nil, B_cons, kPar_ap, kExp_ap, kRet_ap, kIte_bl, kIte2_t, kIte2_f, kFor_ap, kSv_ap, kSv2_int, kSc_ap, kSc2_ap, kSc3_cell, kMut_ap, op_add, op_sub, eq_int, ne_int, eq_str, ne_str, ne_shT_self, eq_shT_self, lt_int, le_int, gt_int, ge_int, getIt_0, len_tup, len_lst, abs_int, int_bl, int_int, list_cel, liC_lst, len_cel, lnC_lst, list_tup, list_lst, tuple_lst, tuple_tup, forR_nil, forR_cons, forS_nx, forS_rt, nxP_nx, kAsg_ok, kPar2_ok, kTup_ok, kLst_ok, kCel_ok, S_ret, ne_eq, reduceCtorEq, not_false_eq_true, implies_true, RV.d, frz_nil, frz_cons, frzO_some, frzO_none, List.getElem?_cons_zero, List.getElem?_cons_succ, List.getElem?_nil, List.set_cons_zero, List.set_cons_succ, List.length_cons, List.length_nil, mask_nil, mask_none, mask_some, wipe_nil, wipe_cons, decide_true, decide_false, Bool.not_true, Bool.not_false, Nat.zero_add, Nat.reduceAdd, Nat.reduceLT, Nat.reduceLeDiff, Nat.lt_add_one, List.nil_append, List.cons_append, Nat.reduceSub, List.map_cons, List.map_nil, List.replicate_succ, rep_zero, start_eq, gX_some, getT, getL, getC, gC_lst, Int.reduceToNat, Int.reduceLE, Int.reduceLT, Int.reduceNeg, setO_ap, sO_some, setC_ap, sC_some, kAsT_ap, asT_some, bindT_nm, bindT_tup, bindTs_cons, bO_some, bindTs_nil, turnF_ap, tFo_some, cT_ap, cTo_some, cT2_t, cT2_f, cT3_fr, cT3_own, and_self, and_true, true_and, Int.zero_add, ixN_ge, Int.natCast_nonneg, Int.toNat_natCast, Int.cast_ofNat_Int, isin_ty, List.any_cons, List.any_nil, isTy, Bool.true_and, Bool.false_and, Bool.and_true, Bool.and_false, Bool.or_false, Bool.false_or, Bool.or_true, Bool.true_or, Int.reduceEq]
  refine forR_use (P := fun r => fin (seq r _) = .ok _ μ) (fun i ρ μ' => μ' = μ ∧ ρ = [some (.fr (.lst (rows.map cD))), some (.fr (.int (F : Nat))), some (.own ((longer (rows.take i) F).map cD)), none, none]) ⟨rfl, rfl⟩ ?_ ?_
  · rintro i x ρ μ' hx ⟨e1, rfl⟩
    rw [e1]
    rw [List.getElem?_map] at hx
    obtain ⟨r, hr1, rfl⟩ := Option.map_eq_some_iff.mp hx
    have hi := (List.getElem?_eq_some_iff.mp hr1).1
    have hrl := hr r (List.mem_of_getElem? hr1)
    have c1 : ∀ (x0 x2 : Option RV), compR (cT (callD reg k) (.op .add (.var 3) (.tup (.cons (.var 4) .nil))) (.nm 4) .nil [4] [x0, some (.fr (.int (F : Nat))), x2, some (.fr (cD r)), none]) (intsFrom 0 F) μ = .ok (((List.range F).map fun f => r ++ [f]).map cD) μ := fun x0 x2 => by
      rw [ints_on, List.map_map]
      refine compR_all _ fun f _ => ?_
      have ha : ∀ μ, op2 .add (.tup (intL r)) (.tup [.int (f : Nat)]) μ = .ok (.fr (.tup (intL r ++ [.int (f : Nat)]))) μ := fun μ => op_addT (by simp [intL]; omega)
      have hx : cD (r ++ [f]) = .tup (intL r ++ [.int (f : Nat)]) := by simp [cD, intL]
      cases x0 <;> cases x2 <;> (simp only [bnd_rb, rb_ok, rb_exc, sb_ok, seq_nx, seq_rt, seq_ex, fin_nx, fin_rt, fin_ex, E_var, E_cst, E_glo, E_dic0, E_tup, E_lst, E_cel, E_op, E_cmp, E_chn, E_not, E_neg, E_con, E_dis, E_ife, E_idx, E_slc, E_call, E_blt, E_isi, E_rng1, E_rng2, E_comp, V_nil, V_cons, A_nil, A_cons, O_nil, O_cons, vr_fr, vo_fr, vo_own, vv_some, kD_fr, kD_own, kBl_ap, kOwn_ap, eo_var, eo_cst, eo_glo, eo_op, eo_idx, eo_slc, eo_call, eo_blt, eo_tup, eo_lst, eo_neg, eo_nt, eo_cmp, eo_con, eo_dis, eo_isi, eo_ife, eo_comp, kOp_ap, kCmp_ap, kCm2_ap, kCh1_ap, kCh2_ap, kCh3_t, kCh3_f, asR_bl, kNot_bl, kNeg_int, kA_bl, kA2_t, kA2_f, kO_bl, kO2_t, kO2_f, kA2_nil, kO2_nil, kIf_bl, kIf2_t, kIf2_f, kIdx_ap, kSl_ap, kSl2_ap, kSl3_ap, oi_mis, kI_int, oi_var, oi_cst, oi_op, oi_neg, oi_idx, oi_blt, oi_call, kR2_int, kComp_ap, kV_ap, kV2_fr, kV2_own, itemsOf_tup, itemsOf_lst, itemsOf_own, itemsOf_cell, itC_lst, itemsOf_wk, E_zip, E_enum, E_revd, E_newc, eo_newc, kZ1_ap, zipD_tt, zipD_ll, enumD_t, enumD_l, revD_t, revD_l, newC_own, kComp_apH, kFor_apH, S_asg, S_asT, S_par, S_exp, S_retv, S_ite, S_whl, S_for, S_setv, S_setc, S_mut, S_pas, B_nil, B_cons, kPar_ap, kExp_ap, kRet_ap, kIte_bl, kIte2_t, kIte2_f, kFor_ap, kSv_ap, kSv2_int, kSc_ap, kSc2_ap, kSc3_cell, kMut_ap, op_add, op_sub, eq_int, ne_int, eq_str, ne_str, ne_shT_self, eq_shT_self, lt_int, le_int, gt_int, ge_int, getIt_0, len_tup, len_lst, abs_int, int_bl, int_int, list_cel, liC_lst, len_cel, lnC_lst, list_tup, list_lst, tuple_lst, tuple_tup, forR_nil, forR_cons, forS_nx, forS_rt, nxP_nx, kAsg_ok, kPar2_ok, kTup_ok, kLst_ok, kCel_ok, S_ret, ne_eq, reduceCtorEq, not_false_eq_true, implies_true, RV.d, frz_nil, frz_cons, frzO_some, frzO_none, List.getElem?_cons_zero, List.getElem?_cons_succ, List.getElem?_nil, List.set_cons_zero, List.set_cons_succ, List.length_cons, List.length_nil, mask_nil, mask_none, mask_some, wipe_nil, wipe_cons, decide_true, decide_false, Bool.not_true, Bool.not_false, Nat.zero_add, Nat.reduceAdd, Nat.reduceLT, Nat.reduceLeDiff, Nat.lt_add_one, List.nil_append, List.cons_append, Nat.reduceSub, List.map_cons, List.map_nil, List.replicate_succ, rep_zero, start_eq, gX_some, getT, getL, getC, gC_lst, Int.reduceToNat, Int.reduceLE, Int.reduceLT, Int.reduceNeg, setO_ap, sO_some, setC_ap, sC_some, kAsT_ap, asT_some, bindT_nm, bindT_tup, bindTs_cons, bO_some, bindTs_nil, turnF_ap, tFo_some, cT_ap, cTo_some, cT2_t, cT2_f, cT3_fr, cT3_own, and_self, and_true, true_and, Int.zero_add, ixN_ge, Int.natCast_nonneg, Int.toNat_natCast, Int.cast_ofNat_Int, isin_ty, List.any_cons, List.any_nil, isTy, Bool.true_and, Bool.false_and, Bool.and_true, Bool.and_false, Bool.or_false, Bool.false_or, Bool.or_true, Bool.true_or, Int.reduceEq, cD, ha]; simp [cD, intL])
    have hext : ∀ (ρ : Env), mutO .extend ρ 2 [.lst (((List.range F).map fun f => r ++ [f]).map cD)] μ (some (some (.own ((longer (rows.take i) F).map cD)))) = .nx (ρ.set 2 (some (.own ((longer (rows.take i) F).map cD ++ ((List.range F).map fun f => r ++ [f]).map cD)))) μ := fun ρ => by
      refine mutO_ext ?_
      rw [List.length_map, longer_len, List.length_map, List.length_map, List.length_range]
      have : (rows.take i).length * F ≤ rows.length * F := Nat.mul_le_mul_right _ (by simp; omega)
      omega
    simp only [bnd_rb, rb_ok, rb_exc, sb_ok, seq_nx, seq_rt, seq_ex, fin_nx, fin_rt, fin_ex, E_var, E_cst, E_glo, E_dic0, E_tup, E_lst, E_cel, E_op, E_cmp, E_chn, E_not, E_neg, E_con, E_dis, E_ife, E_idx, E_slc, E_call, E_blt, E_isi, E_rng1, E_rng2, E_comp, V_nil, V_cons, A_nil, A_cons, O_nil, O_cons, vr_fr, vo_fr, vo_own, vv_some, kD_fr, kD_own, kBl_ap, kOwn_ap, eo_var, eo_cst, eo_glo, eo_op, eo_idx, eo_slc, eo_call, eo_blt, eo_tup, eo_lst, eo_neg, eo_nt, eo_cmp, eo_con, eo_dis, eo_isi, eo_ife, eo_comp, kOp_ap, kCmp_ap, kCm2_ap, kCh1_ap, kCh2_ap, kCh3_t, kCh3_f, asR_bl, kNot_bl, kNeg_int, kA_bl, kA2_t, kA2_f, kO_bl, kO2_t, kO2_f, kA2_nil, kO2_nil, kIf_bl, kIf2_t, kIf2_f, kIdx_ap, kSl_ap, kSl2_ap, kSl3_ap, oi_mis, kI_int, oi_var, oi_cst, oi_op, oi_neg, oi_idx, oi_blt, oi_call, kR2_int, kComp_ap, kV_ap, kV2_fr, kV2_own, itemsOf_tup, itemsOf_lst, itemsOf_own, itemsOf_cell, itC_lst, itemsOf_wk, E_zip, E_enum, E_revd, E_newc, eo_newc, kZ1_ap, zipD_tt, zipD_ll, enumD_t, enumD_l, revD_t, revD_l, newC_own, kComp_apH, kFor_apH, S_asg, S_asT, S_par, S_exp, S_retv, S_ite, S_whl, S_for, S_setv, S_setc, S_mut, S_pas, B_nil, B_cons, kPar_ap, kExp_ap, kRet_ap, kIte_bl, kIte2_t, kIte2_f, kFor_ap, kSv_ap, kSv2_int, kSc_ap, kSc2_ap, kSc3_cell, kMut_ap, op_add, op_sub, eq_int, ne_int, eq_str, ne_str, ne_shT_self, eq_shT_self, lt_int, le_int, gt_int, ge_int, getIt_0, len_tup, len_lst, abs_int, int_bl, int_int, list_cel, liC_lst, len_cel, lnC_lst, list_tup, list_lst, tuple_lst, tuple_tup, forR_nil, forR_cons, forS_nx, forS_rt, nxP_nx, kAsg_ok, kPar2_ok, kTup_ok, kLst_ok, kCel_ok, S_ret, ne_eq, reduceCtorEq, not_false_eq_true, implies_true, RV.d, frz_nil, frz_cons, frzO_some, frzO_none, List.getElem?_cons_zero, List.getElem?_cons_succ, List.getElem?_nil, List.set_cons_zero, List.set_cons_succ, List.length_cons, List.length_nil, mask_nil, mask_none, mask_some, wipe_nil, wipe_cons, decide_true, decide_false, Bool.not_true, Bool.not_false, Nat.zero_add, Nat.reduceAdd, Nat.reduceLT, Nat.reduceLeDiff, Nat.lt_add_one, List.nil_append, List.cons_append, Nat.reduceSub, List.map_cons, List.map_nil, List.replicate_succ, rep_zero, start_eq, gX_some, getT, getL, getC, gC_lst, Int.reduceToNat, Int.reduceLE, Int.reduceLT, Int.reduceNeg, setO_ap, sO_some, setC_ap, sC_some, kAsT_ap, asT_some, bindT_nm, bindT_tup, bindTs_cons, bO_some, bindTs_nil, turnF_ap, tFo_some, cT_ap, cTo_some, cT2_t, cT2_f, cT3_fr, cT3_own, and_self, and_true, true_and, Int.zero_add, ixN_ge, Int.natCast_nonneg, Int.toNat_natCast, Int.cast_ofNat_Int, isin_ty, List.any_cons, List.any_nil, isTy, Bool.true_and, Bool.false_and, Bool.and_true, Bool.and_false, Bool.or_false, Bool.false_or, Bool.or_true, Bool.true_or, Int.reduceEq, range1 F (by omega), c1, hext]
    rw [take_succ_map hr1]
    unfold longer
    rw [flat_snoc, List.map_append]
  · rintro ρ μ' ⟨e1, rfl⟩
    rw [e1, List.length_map, List.take_length]
    simp only [bnd_rb, rb_ok, rb_exc, sb_ok, seq_nx, seq_rt, seq_ex, fin_nx, fin_rt, fin_ex, E_var, E_cst, E_glo, E_dic0, E_tup, E_lst, E_cel, E_op, E_cmp, E_chn, E_not, E_neg, E_con, E_dis, E_ife, E_idx, E_slc, E_call, E_blt, E_isi, E_rng1, E_rng2, E_comp, V_nil, V_cons, A_nil, A_cons, O_nil, O_cons, vr_fr, vo_fr, vo_own, vv_some, kD_fr, kD_own, kBl_ap, kOwn_ap, eo_var, eo_cst, eo_glo, eo_op, eo_idx, eo_slc, eo_call, eo_blt, eo_tup, eo_lst, eo_neg, eo_nt, eo_cmp, eo_con, eo_dis, eo_isi, eo_ife, eo_comp, kOp_ap, kCmp_ap, kCm2_ap, kCh1_ap, kCh2_ap, kCh3_t, kCh3_f, asR_bl, kNot_bl, kNeg_int, kA_bl, kA2_t, kA2_f, kO_bl, kO2_t, kO2_f, kA2_nil, kO2_nil, kIf_bl, kIf2_t, kIf2_f, kIdx_ap, kSl_ap, kSl2_ap, kSl3_ap, oi_mis, kI_int, oi_var, oi_cst, oi_op, oi_neg, oi_idx, oi_blt, oi_call, kR2_int, kComp_ap, kV_ap, kV2_fr, kV2_own, itemsOf_tup, itemsOf_lst, itemsOf_own, itemsOf_cell, itC_lst, itemsOf_wk, E_zip, E_enum, E_revd, E_newc, eo_newc, kZ1_ap, zipD_tt, zipD_ll, enumD_t, enumD_l, revD_t, revD_l, newC_own, kComp_apH, kFor_apH, S_asg, S_asT, S_par, S_exp, S_retv, S_ite, S_whl, S_for, S_setv, S_setc, S_mut, S_pas, B_nil, B_cons, kPar_ap, kExp_ap, kRet_ap, kIte_bl, kIte2_t, kIte2_f, kFor_ap, kSv_ap, kSv2_int, kSc_ap, kSc2_ap, kSc3_cell, kMut_ap, op_add, op_sub, eq_int, ne_int, eq_str, ne_str, ne_shT_self, eq_shT_self, lt_int, le_int, gt_int, ge_int, getIt_0, len_tup, len_lst, abs_int, int_bl, int_int, list_cel, liC_lst, len_cel, lnC_lst, list_tup, list_lst, tuple_lst, tuple_tup, forR_nil, forR_cons, forS_nx, forS_rt, nxP_nx, kAsg_ok, kPar2_ok, kTup_ok, kLst_ok, kCel_ok, S_ret, ne_eq, reduceCtorEq, not_false_eq_true, implies_true, RV.d, frz_nil, frz_cons, frzO_some, frzO_none, List.getElem?_cons_zero, List.getElem?_cons_succ, List.getElem?_nil, List.set_cons_zero, List.set_cons_succ, List.length_cons, List.length_nil, mask_nil, mask_none, mask_some, wipe_nil, wipe_cons, decide_true, decide_false, Bool.not_true, Bool.not_false, Nat.zero_add, Nat.reduceAdd, Nat.reduceLT, Nat.reduceLeDiff, Nat.lt_add_one, List.nil_append, List.cons_append, Nat.reduceSub, List.map_cons, List.map_nil, List.replicate_succ, rep_zero, start_eq, gX_some, getT, getL, getC, gC_lst, Int.reduceToNat, Int.reduceLE, Int.reduceLT, Int.reduceNeg, setO_ap, sO_some, setC_ap, sC_some, kAsT_ap, asT_some, bindT_nm, bindT_tup, bindTs_cons, bO_some, bindTs_nil, turnF_ap, tFo_some, cT_ap, cTo_some, cT2_t, cT2_f, cT3_fr, cT3_own, and_self, and_true, true_and, Int.zero_add, ixN_ge, Int.natCast_nonneg, Int.toNat_natCast, Int.cast_ofNat_Int, isin_ty, List.any_cons, List.any_nil, isTy, Bool.true_and, Bool.false_and, Bool.and_true, Bool.and_false, Bool.or_false, Bool.false_or, Bool.or_true, Bool.true_or, Int.reduceEq]
theorem s_lawrows (k F n : Nat) (hl : F ^ n ≤ 10000) (h1 : 1 ≤ F) (hF : F ≤ 100) (hn : n ≤ 100) (μ : Mu) : cl (k + 2) 37 [.int (F : Nat), .int (n : Nat)] μ = .ok (.own ((rowsL F n).map cD)) μ := by
  rw [cl, call_eq r37 rfl, g37]
  simp only [bnd_rb, rb_ok, rb_exc, sb_ok, seq_nx, seq_rt, seq_ex, fin_nx, fin_rt, fin_ex, E_var, E_cst, E_glo, E_dic0, E_tup, E_lst, E_cel, E_op, E_cmp, E_chn, E_not, E_neg, E_con, E_dis, E_ife, E_idx, E_slc, E_call, E_blt, E_isi, E_rng1, E_rng2, E_comp, V_nil, V_cons, A_nil, A_cons, O_nil, O_cons, vr_fr, vo_fr, vo_own, vv_some, kD_fr, kD_own, kBl_ap, kOwn_ap, eo_var, eo_cst, eo_glo, eo_op, eo_idx, eo_slc, eo_call, eo_blt, eo_tup, eo_lst, eo_neg, eo_nt, eo_cmp, eo_con, eo_dis, eo_isi, eo_ife, eo_comp, kOp_ap, kCmp_ap, kCm2_ap, kCh1_ap, kCh2_ap, kCh3_t, kCh3_f, asR_bl, kNot_bl, kNeg_int, kA_bl, kA2_t, kA2_f, kO_bl, kO2_t, kO2_f, kA2_nil, kO2_nil, kIf_bl, kIf2_t, kIf2_f, kIdx_ap, kSl_ap, kSl2_ap, kSl3_ap, oi_mis, kI_int, oi_var, oi_cst, oi_op, oi_neg, oi_idx, oi_blt, oi_call, kR2_int, kComp_ap, kV_ap, kV2_fr, kV2_own, itemsOf_tup, itemsOf_lst, itemsOf_own, itemsOf_cell, itC_lst, itemsOf_wk, E_zip, E_enum, E_revd, E_newc, eo_newc, kZ1_ap, zipD_tt, zipD_ll, enumD_t, enumD_l, revD_t, revD_l, newC_own, kComp_apH, kFor_apH, S_asg, S_asT, S_par, S_exp, S_retv, S_ite, S_whl, S_for, S_setv, S_setc, S_mut, S_pas, B_nil, B_cons, kPar_ap, kExp_ap, kRet_ap, kIte_bl, kIte2_t, kIte2_f, kFor_ap, kSv_ap, kSv2_int, kSc_ap, kSc2_ap, kSc3_cell, kMut_ap, op_add, op_sub, eq_int, ne_int, eq_str, ne_str, ne_shT_self, eq_shT_self, lt_int, le_int, gt_int, ge_int, getIt_0, len_tup, len_lst, abs_int, int_bl, int_int, list_cel, liC_lst, len_cel, lnC_lst, list_tup, list_lst, tuple_lst, tuple_tup, forR_nil, forR_cons, forS_nx, forS_rt, nxP_nx, kAsg_ok, kPar2_ok, kTup_ok, kLst_ok, kCel_ok, S_ret, ne_eq, reduceCtorEq, not_false_eq_true, implies_true, RV.d, frz_nil, frz_cons, frzO_some, frzO_none, List.getElem?_cons_zero, List.getElem?_cons_succ, List.getElem?_nil, List.set_cons_zero, List.set_cons_succ, List.length_cons, List.length_nil, mask_nil, mask_none, mask_some, wipe_nil, wipe_cons, decide_true, decide_false, Bool.not_true, Bool.not_false, Nat.zero_add, Nat.reduceAdd, Nat.reduceLT, Nat.reduceLeDiff, Nat.lt_add_one, List.nil_append, List.cons_append, Nat.reduceSub, List.map_cons, List.map_nil, List.replicate_succ, rep_zero, start_eq, gX_some, getT, getL, getC, gC_lst, Int.reduceToNat, Int.reduceLE, Int.reduceLT, Int.reduceNeg, setO_ap, sO_some, setC_ap, sC_some, kAsT_ap, asT_some, bindT_nm, bindT_tup, bindTs_cons, bO_some, bindTs_nil, turnF_ap, tFo_some, cT_ap, cTo_some, cT2_t, cT2_f, cT3_fr, cT3_own, and_self, and_true, true_and, Int.zero_add, ixN_ge, Int.natCast_nonneg, Int.toNat_natCast, Int.cast_ofNat_Int, isin_ty, List.any_cons, List.any_nil, isTy, Bool.true_and, Bool.false_and, Bool.and_true, Bool.and_false, Bool.or_false, Bool.false_or, Bool.or_true, Bool.true_or, Int.reduceEq, range1 n (by omega)]
  refine forR_use (P := fun r => fin (seq r _) = .ok _ μ) (fun i ρ μ' => μ' = μ ∧ ρ = [some (.fr (.int (F : Nat))), some (.fr (.int (n : Nat))), some (.own ((rowsL F i).map cD)), none]) ⟨rfl, rfl⟩ ?_ ?_
  · rintro i x ρ μ' hx ⟨e1, rfl⟩
    rw [e1]
    obtain ⟨hi, rfl⟩ := ints_at hx
    have e := s_longer k F (rowsL F i) (by
      rw [rowsL_len, ← Nat.pow_succ]
      exact Nat.le_trans (Nat.pow_le_pow_right h1 (by omega)) hl) hF (fun r hr => by have := (rowsL_each F i r hr).1; omega) μ
    unfold cl at e
    simp only [bnd_rb, rb_ok, rb_exc, sb_ok, seq_nx, seq_rt, seq_ex, fin_nx, fin_rt, fin_ex, E_var, E_cst, E_glo, E_dic0, E_tup, E_lst, E_cel, E_op, E_cmp, E_chn, E_not, E_neg, E_con, E_dis, E_ife, E_idx, E_slc, E_call, E_blt, E_isi, E_rng1, E_rng2, E_comp, V_nil, V_cons, A_nil, A_cons, O_nil, O_cons, vr_fr, vo_fr, vo_own, vv_some, kD_fr, kD_own, kBl_ap, kOwn_ap, eo_var, eo_cst, eo_glo, eo_op, eo_idx, eo_slc, eo_call, eo_blt, eo_tup, eo_lst, eo_neg, eo_nt, eo_cmp, eo_con, eo_dis, eo_isi, eo_ife, eo_comp, kOp_ap, kCmp_ap, kCm2_ap, kCh1_ap, kCh2_ap, kCh3_t, kCh3_f, asR_bl, kNot_bl, kNeg_int, kA_bl, kA2_t, kA2_f, kO_bl, kO2_t, kO2_f, kA2_nil, kO2_nil, kIf_bl, kIf2_t, kIf2_f, kIdx_ap, kSl_ap, kSl2_ap, kSl3_ap, oi_mis, kI_int, oi_var, oi_cst, oi_op, oi_neg, oi_idx, oi_blt, oi_call, kR2_int, kComp_ap, kV_ap, kV2_fr, kV2_own, itemsOf_tup, itemsOf_lst, itemsOf_own, itemsOf_cell, itC_lst, itemsOf_wk, E_zip, E_enum, E_revd, E_newc, eo_newc, kZ1_ap, zipD_tt, zipD_ll, enumD_t, enumD_l, revD_t, revD_l, newC_own, kComp_apH, kFor_apH, S_asg, S_asT, S_par, S_exp, S_retv, S_ite, S_whl, S_for, S_setv, S_setc, S_mut, S_pas, B_nil, B_cons, kPar_ap, kExp_ap, kRet_ap, kIte_bl, kIte2_t, kIte2_f, kFor_ap, kSv_ap, kSv2_int, kSc_ap, kSc2_ap, kSc3_cell, kMut_ap, op_add, op_sub, eq_int, ne_int, eq_str, ne_str, ne_shT_self, eq_shT_self, lt_int, le_int, gt_int, ge_int, getIt_0, len_tup, len_lst, abs_int, int_bl, int_int, list_cel, liC_lst, len_cel, lnC_lst, list_tup, list_lst, tuple_lst, tuple_tup, forR_nil, forR_cons, forS_nx, forS_rt, nxP_nx, kAsg_ok, kPar2_ok, kTup_ok, kLst_ok, kCel_ok, S_ret, ne_eq, reduceCtorEq, not_false_eq_true, implies_true, RV.d, frz_nil, frz_cons, frzO_some, frzO_none, List.getElem?_cons_zero, List.getElem?_cons_succ, List.getElem?_nil, List.set_cons_zero, List.set_cons_succ, List.length_cons, List.length_nil, mask_nil, mask_none, mask_some, wipe_nil, wipe_cons, decide_true, decide_false, Bool.not_true, Bool.not_false, Nat.zero_add, Nat.reduceAdd, Nat.reduceLT, Nat.reduceLeDiff, Nat.lt_add_one, List.nil_append, List.cons_append, Nat.reduceSub, List.map_cons, List.map_nil, List.replicate_succ, rep_zero, start_eq, gX_some, getT, getL, getC, gC_lst, Int.reduceToNat, Int.reduceLE, Int.reduceLT, Int.reduceNeg, setO_ap, sO_some, setC_ap, sC_some, kAsT_ap, asT_some, bindT_nm, bindT_tup, bindTs_cons, bO_some, bindTs_nil, turnF_ap, tFo_some, cT_ap, cTo_some, cT2_t, cT2_f, cT3_fr, cT3_own, and_self, and_true, true_and, Int.zero_add, ixN_ge, Int.natCast_nonneg, Int.toNat_natCast, Int.cast_ofNat_Int, isin_ty, List.any_cons, List.any_nil, isTy, Bool.true_and, Bool.false_and, Bool.and_true, Bool.and_false, Bool.or_false, Bool.false_or, Bool.or_true, Bool.true_or, Int.reduceEq, e]
    rfl
  · rintro ρ μ' ⟨e1, rfl⟩
    rw [e1, ints_len]
    simp only [bnd_rb, rb_ok, rb_exc, sb_ok, seq_nx, seq_rt, seq_ex, fin_nx, fin_rt, fin_ex, E_var, E_cst, E_glo, E_dic0, E_tup, E_lst, E_cel, E_op, E_cmp, E_chn, E_not, E_neg, E_con, E_dis, E_ife, E_idx, E_slc, E_call, E_blt, E_isi, E_rng1, E_rng2, E_comp, V_nil, V_cons, A_nil, A_cons, O_nil, O_cons, vr_fr, vo_fr, vo_own, vv_some, kD_fr, kD_own, kBl_ap, kOwn_ap, eo_var, eo_cst, eo_glo, eo_op, eo_idx, eo_slc, eo_call, eo_blt, eo_tup, eo_lst, eo_neg, eo_nt, eo_cmp, eo_con, eo_dis, eo_isi, eo_ife, eo_comp, kOp_ap, kCmp_ap, kCm2_ap, kCh1_ap, kCh2_ap, kCh3_t, kCh3_f, asR_bl, kNot_bl, kNeg_int, kA_bl, kA2_t, kA2_f, kO_bl, kO2_t, kO2_f, kA2_nil, kO2_nil, kIf_bl, kIf2_t, kIf2_f, kIdx_ap, kSl_ap, kSl2_ap, kSl3_ap, oi_mis, kI_int, oi_var, oi_cst, oi_op, oi_neg, oi_idx, oi_blt, oi_call, kR2_int, kComp_ap, kV_ap, kV2_fr, kV2_own, itemsOf_tup, itemsOf_lst, itemsOf_own, itemsOf_cell, itC_lst, itemsOf_wk, E_zip, E_enum, E_revd, E_newc, eo_newc, kZ1_ap, zipD_tt, zipD_ll, enumD_t, enumD_l, revD_t, revD_l, newC_own, kComp_apH, kFor_apH, S_asg, S_asT, S_par, S_exp, S_retv, S_ite, S_whl, S_for, S_setv, S_setc, S_mut, S_pas, B_nil, B_cons, kPar_ap, kExp_ap, kRet_ap, kIte_bl, kIte2_t, kIte2_f, kFor_ap, kSv_ap, kSv2_int, kSc_ap, kSc2_ap, kSc3_cell, kMut_ap, op_add, op_sub, eq_int, ne_int, eq_str, ne_str, ne_shT_self, eq_shT_self, lt_int, le_int, gt_int, ge_int, getIt_0, len_tup, len_lst, abs_int, int_bl, int_int, list_cel, liC_lst, len_cel, lnC_lst, list_tup, list_lst, tuple_lst, tuple_tup, forR_nil, forR_cons, forS_nx, forS_rt, nxP_nx, kAsg_ok, kPar2_ok, kTup_ok, kLst_ok, kCel_ok, S_ret, ne_eq, reduceCtorEq, not_false_eq_true, implies_true, RV.d, frz_nil, frz_cons, frzO_some, frzO_none, List.getElem?_cons_zero, List.getElem?_cons_succ, List.getElem?_nil, List.set_cons_zero, List.set_cons_succ, List.length_cons, List.length_nil, mask_nil, mask_none, mask_some, wipe_nil, wipe_cons, decide_true, decide_false, Bool.not_true, Bool.not_false, Nat.zero_add, Nat.reduceAdd, Nat.reduceLT, Nat.reduceLeDiff, Nat.lt_add_one, List.nil_append, List.cons_append, Nat.reduceSub, List.map_cons, List.map_nil, List.replicate_succ, rep_zero, start_eq, gX_some, getT, getL, getC, gC_lst, Int.reduceToNat, Int.reduceLE, Int.reduceLT, Int.reduceNeg, setO_ap, sO_some, setC_ap, sC_some, kAsT_ap, asT_some, bindT_nm, bindT_tup, bindTs_cons, bO_some, bindTs_nil, turnF_ap, tFo_some, cT_ap, cTo_some, cT2_t, cT2_f, cT3_fr, cT3_own, and_self, and_true, true_and, Int.zero_add, ixN_ge, Int.natCast_nonneg, Int.toNat_natCast, Int.cast_ofNat_Int, isin_ty, List.any_cons, List.any_nil, isTy, Bool.true_and, Bool.false_and, Bool.and_true, Bool.and_false, Bool.or_false, Bool.false_or, Bool.or_true, Bool.true_or, Int.reduceEq]
end Sx
set_option maxHeartbeats 200000
/-! # k12: whole rows come to one -/
namespace Sx
open PySem (Str)
/-! ## sums over rows -/
theorem rsum_flat {α : Type} (g : α → List Rat) : ∀ l : List α, rsum (l.flatMap g) = rsum (l.map fun a => rsum (g a))
  | [] => rfl
  | a :: l => by rw [List.flatMap_cons, rsum_append, rsum_flat g l, List.map_cons, rsum_cons]
theorem rsum_mul {α : Type} (g : α → Rat) (c : Rat) : ∀ l : List α, rsum (l.map fun a => c * g a) = c * rsum (l.map g)
  | [] => by rw [List.map_nil, List.map_nil, rsum_nil, Rat.mul_zero]
  | a :: l => by rw [List.map_cons, List.map_cons, rsum_cons, rsum_cons, rsum_mul g c l]; grind
theorem rsum_congr {α : Type} {g h : α → Rat} {l : List α} (e : ∀ a ∈ l, g a = h a) : rsum (l.map g) = rsum (l.map h) := by rw [List.map_congr_left e]
theorem range_getD (qs : List Rat) : (List.range qs.length).map (fun f => qs.getD f 0) = qs := by
  apply List.ext_getElem (by simp)
  intro i h1 h2
  simp [h2]
theorem rows_share (qs : List Rat) : ∀ n, rsum ((rowsL qs.length n).map (shOf qs)) = rsum qs ^ n
  | 0 => by rw [Rat.pow_zero]; show rsum [shOf qs []] = 1; rw [rsum_one]; rfl
  | n + 1 => by
    have e : (longer (rowsL qs.length n) qs.length).map (shOf qs) = (rowsL qs.length n).flatMap fun r => (List.range qs.length).map fun f => shOf qs r * qs.getD f 0 := by
      unfold longer
      rw [List.map_flatMap]
      congr 1
      funext r
      rw [List.map_map]
      congr 1
      funext f
      exact shOf_snoc qs r f
    rw [rowsL, e, rsum_flat]
    have e2 : ((rowsL qs.length n).map fun r => rsum ((List.range qs.length).map fun f => shOf qs r * qs.getD f 0)) = (rowsL qs.length n).map fun r => rsum qs * shOf qs r := by
      congr 1
      funext r
      rw [rsum_mul, range_getD]
      grind
    rw [e2, rsum_mul, rows_share qs n, Rat.pow_succ]
    grind
/-! ## a row's share by its counts -/
theorem wtl_foldl : ∀ (l : List (Rat × Nat)) (a : Rat), l.foldl (fun a p => a * p.1 ^ p.2) a = a * wtl l
  | [], a => by simp [wtl, Rat.mul_one]
  | p :: l, a => by
    unfold wtl
    rw [List.foldl_cons, List.foldl_cons, wtl_foldl l, wtl_foldl l (1 * p.1 ^ p.2)]
    grind
theorem wtl_cons (p : Rat × Nat) (l : List (Rat × Nat)) : wtl (p :: l) = p.1 ^ p.2 * wtl l := by
  show (p :: l).foldl (fun a p => a * p.1 ^ p.2) 1 = _
  rw [List.foldl_cons, wtl_foldl, Rat.one_mul]
theorem wtl_bump : ∀ {l : List (Rat × Nat)} {f : Nat} {q : Rat} {c : Nat}, l[f]? = some (q, c) → wtl (l.set f (q, c + 1)) = wtl l * q
  | [], _, _, _, h => by simp at h
  | p :: l, 0, q, c, h => by
    simp at h
    subst h
    rw [List.set_cons_zero, wtl_cons, wtl_cons]
    simp only
    rw [Rat.pow_succ]
    grind
  | p :: l, f + 1, q, c, h => by
    rw [List.set_cons_succ, wtl_cons, wtl_cons, wtl_bump (l := l) (by simpa using h)]
    grind
theorem cnt_snoc (F : Nat) (r : List Nat) (f : Nat) (hf : f < F) : cntOf F (r ++ [f]) = (cntOf F r).set f ((cntOf F r).getD f 0 + 1) := by
  unfold cntOf
  apply List.ext_getElem (by simp)
  intro i h1 h2
  have hi : i < F := by simpa using h1
  rw [List.getElem_map, List.getElem_range, List.filter_append, List.length_append, List.getElem_set]
  by_cases h : f = i
  · subst h
    simp [hi]
  · have hb : (f == i) = false := by simp [h]
    simp [h, hb]
theorem zip_set (qs : List Rat) (cs : List Nat) (f c : Nat) (hl : qs.length = cs.length) (hf : f < cs.length) : qs.zip (cs.set f c) = (qs.zip cs).set f (qs.getD f 0, c) := by
  apply List.ext_getElem (by simp)
  intro i h1 h2
  rw [List.getElem_zip, List.getElem_set, List.getElem_set]
  by_cases h : f = i
  · subst h
    have : f < qs.length := by omega
    simp [this]
  · simp [h]
theorem cnt_len (F : Nat) (r : List Nat) : (cntOf F r).length = F := by simp [cntOf]
theorem shOf_cnt (qs : List Rat) {r : List Nat} : (∀ f ∈ r, f < qs.length) → shOf qs r = wtl (qs.zip (cntOf qs.length r)) := by
  induction r using list_snoc_ind with
  | h0 =>
    intro _
    rw [wtl_zero]
    · rfl
    · intro p hp
      have := (List.of_mem_zip hp).2
      unfold cntOf at this
      simp at this
      exact this.2.symm
  | hs r f ih =>
    intro h
    have hf := h f (List.mem_append_right _ (List.mem_singleton.mpr rfl))
    have hl := cnt_len qs.length r
    rw [shOf_snoc, ih fun g hg => h g (List.mem_append_left _ hg), cnt_snoc _ _ _ hf, zip_set _ _ _ _ hl.symm (by omega)]
    refine (wtl_bump ?_).symm
    have h1 : f < (cntOf qs.length r).length := by omega
    rw [List.getElem?_eq_getElem (by rw [List.length_zip]; omega), List.getElem_zip]
    simp [hf, h1]
/-! ## sums by counts -/
theorem one_of {α : Type} [DecidableEq α] (h : α → Rat) (x : α) : ∀ {l : List α}, l.Nodup → x ∈ l → rsum (l.map fun c => if x = c then h c else 0) = h x
  | [], _, hx => by simp at hx
  | c :: l, hn, hx => by
    rw [List.nodup_cons] at hn
    rw [List.map_cons, rsum_cons]
    by_cases e : x = c
    · subst e
      have : rsum (l.map fun c => if x = c then h c else 0) = rsum (l.map fun _ => 0 * h x) := rsum_congr fun a ha => by
        have hne : ¬ x = a := fun z => hn.1 (by rw [z]; exact ha)
        rw [if_neg hne, Rat.zero_mul]
      rw [if_pos rfl, this, rsum_mul (fun _ => h x) 0, Rat.zero_mul, Rat.add_zero]
    · rw [if_neg e, Rat.zero_add]
      exact one_of h x hn.2 (by
        rcases List.mem_cons.mp hx with z | z
        · exact absurd z e
        · exact z)
theorem rsum_add {α : Type} (g h : α → Rat) : ∀ l : List α, rsum (l.map fun a => g a + h a) = rsum (l.map g) + rsum (l.map h)
  | [] => by simp [rsum_nil, Rat.add_zero]
  | a :: l => by rw [List.map_cons, List.map_cons, List.map_cons, rsum_cons, rsum_cons, rsum_cons, rsum_add g h l]; grind
theorem by_counts {α β : Type} [DecidableEq β] (cnt : α → β) (h : β → Rat) (cs : List β) (hn : cs.Nodup) : ∀ (rows : List α), (∀ r ∈ rows, cnt r ∈ cs) →
    rsum (rows.map fun r => h (cnt r)) = rsum (cs.map fun c => (((rows.filter fun r => decide (cnt r = c)).length : Nat) : Rat) * h c)
  | [], _ => by
    rw [List.map_nil, rsum_nil]
    have : rsum (cs.map fun c => ((([] : List α).filter fun r => decide (cnt r = c)).length : Rat) * h c) = rsum (cs.map fun c => 0 * h c) := rsum_congr fun c _ => by simp
    rw [this, rsum_mul, Rat.zero_mul]
  | r :: rows, hm => by
    rw [List.map_cons, rsum_cons, by_counts cnt h cs hn rows fun x hx => hm x (List.mem_cons_of_mem _ hx), ← one_of h (cnt r) hn (hm r List.mem_cons_self), ← rsum_add]
    refine rsum_congr fun c _ => ?_
    rw [List.filter_cons]
    by_cases e : cnt r = c
    · rw [if_pos e, if_pos (by simpa using e), List.length_cons, Rat.natCast_add]
      have : ((1 : Nat) : Rat) = 1 := rfl
      rw [this]
      grind
    · rw [if_neg e, if_neg (by simpa using e), Rat.zero_add]
/-! ## what the kernel counts out -/
def casesFN : List (Nat × Nat) := [(2, 0), (2, 1), (2, 2), (2, 3), (2, 4), (2, 5), (3, 0), (3, 1), (3, 2), (3, 3), (3, 4), (4, 0), (4, 1), (4, 2), (4, 3)]
theorem cases_count : (casesFN.all fun p => (cw p.1 p.2).all fun c => ((rowsL p.1 p.2).filter fun r => decide (cntOf p.1 r = c)).length == rto c) = true := by decide +kernel
theorem cases_mem : (casesFN.all fun p => (rowsL p.1 p.2).all fun r => (cw p.1 p.2).contains (cntOf p.1 r)) = true := by decide +kernel
theorem cases_nodup : (casesFN.all fun p => decide (cw p.1 p.2).Nodup) = true := by decide +kernel
theorem cases_filter : (casesFN.all fun p => decide ((allc p.1 p.2).filter (fun c => c.sum == p.2) = cw p.1 p.2)) = true := by decide +kernel
theorem cases_small : (casesFN.all fun p => decide ((cw p.1 p.2).length ≤ 20) && (cw p.1 p.2).all fun c => decide (rto c ≤ 100)) = true := by decide +kernel
theorem cases_bounds : (casesFN.all fun p => decide (p.1 ^ p.2 ≤ 81) && decide (p.2 ≤ 5) && decide (2 ≤ p.1) && decide (p.1 ≤ 4)) = true := by decide +kernel
structure CaseOk (F n : Nat) : Prop where
  cnt : ∀ c ∈ cw F n, ((rowsL F n).filter fun r => decide (cntOf F r = c)).length = rto c
  mem : ∀ r ∈ rowsL F n, cntOf F r ∈ cw F n
  nd : (cw F n).Nodup
  fil : (allc F n).filter (fun c => c.sum == n) = cw F n
  len : (cw F n).length ≤ 20
  small : ∀ c ∈ cw F n, rto c ≤ 100
  rl : F ^ n ≤ 81
  n5 : n ≤ 5
  f2 : 2 ≤ F
  f4 : F ≤ 4
theorem case_ok {F n : Nat} (h : (F, n) ∈ casesFN) : CaseOk F n := by
  have h1 := List.all_eq_true.mp cases_count _ h
  have h2 := List.all_eq_true.mp cases_mem _ h
  have h3 := List.all_eq_true.mp cases_nodup _ h
  have h4 := List.all_eq_true.mp cases_filter _ h
  have h5 := List.all_eq_true.mp cases_small _ h
  have h6 := List.all_eq_true.mp cases_bounds _ h
  simp only [Bool.and_eq_true, decide_eq_true_eq] at h3 h4 h5 h6
  refine ⟨fun c hc => ?_, fun r hr => ?_, h3, h4, h5.1, fun c hc => ?_, h6.1.1.1, h6.1.1.2, h6.1.2, h6.2⟩
  · have := List.all_eq_true.mp h1 c hc
    simpa using this
  · have := List.all_eq_true.mp h2 r hr
    simpa using this
  · have := List.all_eq_true.mp h5.2 c hc
    simpa using this
theorem rone_pow : ∀ n : Nat, (1 : Rat) ^ n = 1
  | 0 => Rat.pow_zero _
  | n + 1 => by rw [Rat.pow_succ, rone_pow n, Rat.mul_one]
/-- the weights of all counts come to one -/
theorem multi_one {F n : Nat} (h : CaseOk F n) {qs : List Rat} (hl : qs.length = F) (h1 : rsum qs = 1) : rsum ((cw F n).map fun c => ((rto c : Nat) : Rat) * wtl (qs.zip c)) = 1 := by
  have hr := rows_share qs n
  have e : (rowsL qs.length n).map (shOf qs) = (rowsL qs.length n).map fun r => wtl (qs.zip (cntOf qs.length r)) := List.map_congr_left fun r hr => shOf_cnt qs (rowsL_each _ _ r hr).2
  rw [e, hl, by_counts (cntOf F) (fun c => wtl (qs.zip c)) (cw F n) h.nd (rowsL F n) h.mem, h1] at hr
  have e2 : rsum ((cw F n).map fun c => ((rto c : Nat) : Rat) * wtl (qs.zip c)) = rsum ((cw F n).map fun c => ((((rowsL F n).filter fun r => decide (cntOf F r = c)).length : Nat) : Rat) * wtl (qs.zip c)) := rsum_congr fun c hc => by rw [h.cnt c hc]
  rw [e2, hr, rone_pow]
theorem ne_rD {a b : Rat} (μ : Mu) : cmp2 .ne (rD a) (rD b) μ = .ok (!decide (a = b)) μ := by
  have e := eq_rD (a := a) (b := b) μ
  have e0 : cmp2 .eq (rD a) (rD b) μ = guard' ((rD a).eqk 60 && (rD b).eqk 60) (ret (PySem.PyData.eqv (rD a).py (rD b).py)) μ := rfl
  have e1 : cmp2 .ne (rD a) (rD b) μ = guard' ((rD a).eqk 60 && (rD b).eqk 60) (ret (!PySem.PyData.eqv (rD a).py (rD b).py)) μ := rfl
  rw [e0] at e
  rw [e1]
  simp only [rD_eqk _ 60 (by decide), Bool.and_self, guard', if_true, ret] at e ⊢
  injection e with e _
  rw [e]
theorem cD_eqk (c : List Nat) (n : Nat) (h : 0 < n) : (cD c).eqk n = true := by
  cases n with
  | zero => omega
  | succ n =>
    unfold cD intL
    simp only [D.eqk, eqks_all, List.all_map, List.all_eq_true]
    intro x _
    simp [D.eqk]
theorem eqv_intL : ∀ a b : List Nat, PySem.PyData.eqvAll (pys (intL a)) (pys (intL b)) = decide (a = b)
  | [], [] => rfl
  | [], _ :: _ => by simp [intL, pys, PySem.PyData.eqvAll]
  | _ :: _, [] => by simp [intL, pys, PySem.PyData.eqvAll]
  | x :: a, y :: b => by
    have ih := eqv_intL a b
    unfold intL at ih ⊢
    rw [List.map_cons, List.map_cons, pys, pys, PySem.PyData.eqvAll, ih]
    have : PySem.PyData.eqv (D.py (.int (x : Nat))) (D.py (.int (y : Nat))) = decide (x = y) := by
      simp only [D.py, PySem.PyData.eqv]
      show decide ((x : Int) = (y : Int)) = _
      exact decide_eq_decide.mpr (by omega)
    rw [this, ← Bool.decide_and]
    exact decide_eq_decide.mpr (by simp)
theorem eq_cD (a b : List Nat) (μ : Mu) : cmp2 .eq (cD a) (cD b) μ = .ok (decide (a = b)) μ := by
  have e : cmp2 .eq (cD a) (cD b) μ = guard' ((cD a).eqk 60 && (cD b).eqk 60) (ret (PySem.PyData.eqv (cD a).py (cD b).py)) μ := rfl
  have e2 : PySem.PyData.eqv (cD a).py (cD b).py = decide (a = b) := by
    unfold cD
    rw [D.py, D.py, PySem.PyData.eqv]
    exact eqv_intL a b
  rw [e, e2]
  simp only [cD_eqk _ 60 (by decide), Bool.and_self, guard', if_true, ret]
theorem sum_cD (c : List Nat) (μ : Mu) : blt1 .sum (cD c) μ = .ok (.fr (.int (c.sum : Nat))) μ := sum_nats c μ
theorem rsum_zero : ∀ {qs : List Rat}, (∀ q ∈ qs, 0 ≤ q) → rsum qs = 0 → ∀ q ∈ qs, q = 0
  | [], _, _ => by simp
  | p :: qs, h, h0 => by
    rw [rsum_cons] at h0
    have h1 := h p List.mem_cons_self
    have h2 := rsum_nn (qs := qs) fun x hx => h x (List.mem_cons_of_mem _ hx)
    have p0 : p = 0 := by grind
    have s0 : rsum qs = 0 := by grind
    intro q hq
    rcases List.mem_cons.mp hq with rfl | hq
    · exact p0
    · exact rsum_zero (fun x hx => h x (List.mem_cons_of_mem _ hx)) s0 q hq
/-- what is found for a way by the first counts -/
def fnd (t : Tri) (mix : List Rat) (cs : List (List Nat)) (w : Nat) : Rat := rsum (cs.map fun c => (mix.getD w 0 * wtl (t.row w c)) * ((rto c : Nat) : Rat))
theorem fnd_snoc (t : Tri) (mix : List Rat) (cs : List (List Nat)) (c : List Nat) (w : Nat) : fnd t mix (cs ++ [c]) w = fnd t mix cs w + (mix.getD w 0 * wtl (t.row w c)) * ((rto c : Nat) : Rat) := by
  unfold fnd
  rw [List.map_append, rsum_append, List.map_cons, List.map_nil, rsum_one]
theorem fnd_all {t : Tri} (ok : TriOk t) {mix : List Rat} {n : Nat} (h : CaseOk t.faces.length n) {w : Nat} (hw : w < t.ways.length) : fnd t mix (cw t.faces.length n) w = mix.getD w 0 := by
  have sh := ok.sh _ (way_mem hw)
  have e := multi_one h sh.2 sh.1.sum
  unfold fnd
  have : rsum ((cw t.faces.length n).map fun c => (mix.getD w 0 * wtl (t.row w c)) * ((rto c : Nat) : Rat)) = rsum ((cw t.faces.length n).map fun c => mix.getD w 0 * (((rto c : Nat) : Rat) * wtl ((t.ways.getD w ("", [])).2.zip c))) := rsum_congr fun c _ => by
    unfold Tri.row
    grind
  rw [this, rsum_mul, e, Rat.mul_one]
theorem rto_sz {c : List Nat} (h : rto c ≤ 100) : Sz 7 ((((rto c : Nat) : Int) : Rat)) := by
  refine ⟨?_, ?_⟩
  · show (((rto c : Nat) : Int)).natAbs < 2 ^ 7
    have : (2 : Nat) ^ 7 = 128 := by decide
    simp only [Int.natAbs_natCast]
    omega
  · show 1 < 2 ^ 7
    decide
theorem fnd_sz {t : Tri} (ok : TriOk t) {mix : List Rat} (hm : ∀ q ∈ mix, Sz 10 q) (hl : mix.length = t.ways.length) {w : Nat} (hw : w < t.ways.length) {cs : List (List Nat)} (hs : ∀ c ∈ cs, c.sum ≤ 5 ∧ rto c ≤ 100) (hlen : cs.length ≤ 20) : Sz 1400 (fnd t mix cs w) := by
  have h1 := Sz_rsum (B := 68) (qs := cs.map fun c => (mix.getD w 0 * wtl (t.row w c)) * ((rto c : Nat) : Rat)) fun q hq => by
    obtain ⟨c, hc, rfl⟩ := List.mem_map.mp hq
    have a := sz_getD hm (i := w) (by omega)
    have b := wtl_sz (row_sz ok hw (cs := c))
    have := row_nsum t w c
    have := (hs c hc).1
    have d := rto_sz (hs c hc).2
    rw [Rat.intCast_natCast] at d
    exact (Sz.mul (Sz.mul a b) d).mono (by omega)
  rw [List.length_map] at h1
  refine h1.mono ?_
  have : cs.length * (68 + 1) ≤ 20 * (68 + 1) := Nat.mul_le_mul_right _ hlen
  omega
/-! ## the law -/
abbrev V12 (S : D) (t : Tri) (mix : List Rat) (n : Nat) (x6 x7 x8 x9 x10 x11 x12 x13 x14 : Option RV) : Env :=
  [some (.fr S), some (.fr (.cell 0)), some (.fr (.tup [.tup (t.faces.map D.str), .tup (t.ways.map wD)])), some (.fr (.tup (mix.map rD))), some (.fr (.int (t.faces.length : Nat))), some (.fr (.int (n : Nat))), x6, x7, x8, x9, x10, x11, x12, x13, x14]
theorem k12_A (k : Nat) {S : D} {t : Tri} (ok : TriOk t) {mix : List Rat} {n : Nat} (h : CaseOk t.faces.length n) {w : Nat} (hw : w < t.ways.length) (x6 x7 x8 x11 x12 x13 x14 : Option RV) (μ : Mu) :
    compR (cT (callD reg (k + 4)) (.call 32 (.cons (.var 2) (.cons (.var 9) (.cons (.var 10) .nil)))) (.nm 10) .nil [10] (V12 S t mix n x6 x7 x8 (some (.fr (.int (w : Nat)))) none x11 x12 x13 x14)) ((rowsL t.faces.length n).map cD) μ
      = .ok (((rowsL t.faces.length n).map (shOf (t.ways.getD w ("", [])).2)).map rD) μ := by
  rw [List.map_map]
  refine compR_all _ fun r hr => ?_
  have h1 := rowsL_each _ _ r hr
  have n5 := h.n5
  have e := s_shareof k (μ := μ) ok hw (row := r) h1.2 (by omega)
  unfold cl at e
  simp only [Tri.D] at e
  simp only [bnd_rb, rb_ok, rb_exc, sb_ok, seq_nx, seq_rt, seq_ex, fin_nx, fin_rt, fin_ex, E_var, E_cst, E_glo, E_dic0, E_tup, E_lst, E_cel, E_op, E_cmp, E_chn, E_not, E_neg, E_con, E_dis, E_ife, E_idx, E_slc, E_call, E_blt, E_isi, E_rng1, E_rng2, E_comp, V_nil, V_cons, A_nil, A_cons, O_nil, O_cons, vr_fr, vo_fr, vo_own, vv_some, kD_fr, kD_own, kBl_ap, kOwn_ap, eo_var, eo_cst, eo_glo, eo_op, eo_idx, eo_slc, eo_call, eo_blt, eo_tup, eo_lst, eo_neg, eo_nt, eo_cmp, eo_con, eo_dis, eo_isi, eo_ife, eo_comp, kOp_ap, kCmp_ap, kCm2_ap, kCh1_ap, kCh2_ap, kCh3_t, kCh3_f, asR_bl, kNot_bl, kNeg_int, kA_bl, kA2_t, kA2_f, kO_bl, kO2_t, kO2_f, kA2_nil, kO2_nil, kIf_bl, kIf2_t, kIf2_f, kIdx_ap, kSl_ap, kSl2_ap, kSl3_ap, oi_mis, kI_int, oi_var, oi_cst, oi_op, oi_neg, oi_idx, oi_blt, oi_call, kR2_int, kComp_ap, kV_ap, kV2_fr, kV2_own, itemsOf_tup, itemsOf_lst, itemsOf_own, itemsOf_cell, itC_lst, itemsOf_wk, E_zip, E_enum, E_revd, E_newc, eo_newc, kZ1_ap, zipD_tt, zipD_ll, enumD_t, enumD_l, revD_t, revD_l, newC_own, kComp_apH, kFor_apH, S_asg, S_asT, S_par, S_exp, S_retv, S_ite, S_whl, S_for, S_setv, S_setc, S_mut, S_pas, B_nil, B_cons, kPar_ap, kExp_ap, kRet_ap, kIte_bl, kIte2_t, kIte2_f, kFor_ap, kSv_ap, kSv2_int, kSc_ap, kSc2_ap, kSc3_cell, kMut_ap, op_add, op_sub, eq_int, ne_int, eq_str, ne_str, ne_shT_self, eq_shT_self, lt_int, le_int, gt_int, ge_int, getIt_0, len_tup, len_lst, abs_int, int_bl, int_int, list_cel, liC_lst, len_cel, lnC_lst, list_tup, list_lst, tuple_lst, tuple_tup, forR_nil, forR_cons, forS_nx, forS_rt, nxP_nx, kAsg_ok, kPar2_ok, kTup_ok, kLst_ok, kCel_ok, S_ret, ne_eq, reduceCtorEq, not_false_eq_true, implies_true, RV.d, frz_nil, frz_cons, frzO_some, frzO_none, List.getElem?_cons_zero, List.getElem?_cons_succ, List.getElem?_nil, List.set_cons_zero, List.set_cons_succ, List.length_cons, List.length_nil, mask_nil, mask_none, mask_some, wipe_nil, wipe_cons, decide_true, decide_false, Bool.not_true, Bool.not_false, Nat.zero_add, Nat.reduceAdd, Nat.reduceLT, Nat.reduceLeDiff, Nat.lt_add_one, List.nil_append, List.cons_append, Nat.reduceSub, List.map_cons, List.map_nil, List.replicate_succ, rep_zero, start_eq, gX_some, getT, getL, getC, gC_lst, Int.reduceToNat, Int.reduceLE, Int.reduceLT, Int.reduceNeg, setO_ap, sO_some, setC_ap, sC_some, kAsT_ap, asT_some, bindT_nm, bindT_tup, bindTs_cons, bO_some, bindTs_nil, turnF_ap, tFo_some, cT_ap, cTo_some, cT2_t, cT2_f, cT3_fr, cT3_own, and_self, and_true, true_and, Int.zero_add, ixN_ge, Int.natCast_nonneg, Int.toNat_natCast, Int.cast_ofNat_Int, isin_ty, List.any_cons, List.any_nil, isTy, Bool.true_and, Bool.false_and, Bool.and_true, Bool.and_false, Bool.or_false, Bool.false_or, Bool.or_true, Bool.true_or, Int.reduceEq, V12, e]
  rfl
theorem k12_Atot (k : Nat) {t : Tri} (ok : TriOk t) {n : Nat} (h : CaseOk t.faces.length n) {w : Nat} (hw : w < t.ways.length) (μ : Mu) :
    callD reg (k + 4) 14 [.lst (((rowsL t.faces.length n).map (shOf (t.ways.getD w ("", [])).2)).map rD)] μ = .ok (.fr (rD 1)) μ := by
  have sh := ok.sh _ (way_mem hw)
  have hsum := rows_share (t.ways.getD w ("", [])).2 n
  rw [sh.2, sh.1.sum, rone_pow] at hsum
  have hsz : ∀ q ∈ (rowsL t.faces.length n).map (shOf (t.ways.getD w ("", [])).2), Sz 51 q := fun q hq => by
    obtain ⟨r, hr, rfl⟩ := List.mem_map.mp hq
    have h1 := rowsL_each _ _ r hr
    have n5 := h.n5
    exact (shOf_sz sh.1.sz (row := r) fun f hf => by rw [sh.2]; exact h1.2 f hf).mono (by omega)
  have e := s_total k (μ := μ) (d := .lst (((rowsL t.faces.length n).map (shOf (t.ways.getD w ("", [])).2)).map rD)) (h := []) (C := 4300) rfl (Held_nil μ) hsz (fun i => (Sz_rsum fun q hq => hsz q (List.mem_of_mem_take hq)).mono (by
    have h1 : (((rowsL t.faces.length n).map (shOf (t.ways.getD w ("", [])).2)).take i).length ≤ 81 := by
      rw [List.length_take, List.length_map, rowsL_len]
      have := h.rl
      omega
    have := Nat.mul_le_mul_right (51 + 1) h1
    omega)) (by decide)
  unfold cl at e
  rw [e, hsum]
theorem k12_B (k : Nat) {S : D} {t : Tri} (ok : TriOk t) {mix : List Rat} {n : Nat} (h : CaseOk t.faces.length n) {w : Nat} (hw : w < t.ways.length) (x6 x8 x10 x11 x12 x13 x14 : Option RV) (μ : Mu) :
    compR (cT (callD reg (k + 4)) (.call 22 (.cons (.tup (.cons (.call 33 (.cons (.var 7) .nil)) (.cons (.cst (.int 1)) .nil))) (.cons (.call 24 (.cons (.var 2) (.cons (.var 9) (.cons (.var 7) .nil)))) .nil))) (.nm 7) .nil [7] (V12 S t mix n x6 none x8 (some (.fr (.int (w : Nat)))) x10 x11 x12 x13 x14)) ((cw t.faces.length n).map cD) μ
      = .ok (((cw t.faces.length n).map fun c => (((rto c : Nat) : Int) : Rat) * wtl (t.row w c)).map rD) μ := by
  rw [List.map_map]
  refine compR_all _ fun c hc => ?_
  have h1 := cw_each _ _ c hc
  have n5 := h.n5
  have hr := row_nsum t w c
  have e1 := s_rowsto (k + 3) (μ := μ) (cs := c) (by omega)
  have e2 := s_weight k (μ := μ) ok hw (cs := c) (by omega)
  have e3 := s_times (k + 1) (μ := μ) (rto_sz (h.small c hc)) (wtl_sz (row_sz ok hw (cs := c))) (by omega)
  have e4 : D.tup [.int ((rto c : Nat) : Int), .int 1] = rD ((((rto c : Nat) : Int) : Rat)) := rfl
  unfold cl at e1 e2 e3
  simp only [Tri.D] at e2
  have hcD : cD c = .tup (intL c) := rfl
  rw [← hcD] at e2
  simp only [bnd_rb, rb_ok, rb_exc, sb_ok, seq_nx, seq_rt, seq_ex, fin_nx, fin_rt, fin_ex, E_var, E_cst, E_glo, E_dic0, E_tup, E_lst, E_cel, E_op, E_cmp, E_chn, E_not, E_neg, E_con, E_dis, E_ife, E_idx, E_slc, E_call, E_blt, E_isi, E_rng1, E_rng2, E_comp, V_nil, V_cons, A_nil, A_cons, O_nil, O_cons, vr_fr, vo_fr, vo_own, vv_some, kD_fr, kD_own, kBl_ap, kOwn_ap, eo_var, eo_cst, eo_glo, eo_op, eo_idx, eo_slc, eo_call, eo_blt, eo_tup, eo_lst, eo_neg, eo_nt, eo_cmp, eo_con, eo_dis, eo_isi, eo_ife, eo_comp, kOp_ap, kCmp_ap, kCm2_ap, kCh1_ap, kCh2_ap, kCh3_t, kCh3_f, asR_bl, kNot_bl, kNeg_int, kA_bl, kA2_t, kA2_f, kO_bl, kO2_t, kO2_f, kA2_nil, kO2_nil, kIf_bl, kIf2_t, kIf2_f, kIdx_ap, kSl_ap, kSl2_ap, kSl3_ap, oi_mis, kI_int, oi_var, oi_cst, oi_op, oi_neg, oi_idx, oi_blt, oi_call, kR2_int, kComp_ap, kV_ap, kV2_fr, kV2_own, itemsOf_tup, itemsOf_lst, itemsOf_own, itemsOf_cell, itC_lst, itemsOf_wk, E_zip, E_enum, E_revd, E_newc, eo_newc, kZ1_ap, zipD_tt, zipD_ll, enumD_t, enumD_l, revD_t, revD_l, newC_own, kComp_apH, kFor_apH, S_asg, S_asT, S_par, S_exp, S_retv, S_ite, S_whl, S_for, S_setv, S_setc, S_mut, S_pas, B_nil, B_cons, kPar_ap, kExp_ap, kRet_ap, kIte_bl, kIte2_t, kIte2_f, kFor_ap, kSv_ap, kSv2_int, kSc_ap, kSc2_ap, kSc3_cell, kMut_ap, op_add, op_sub, eq_int, ne_int, eq_str, ne_str, ne_shT_self, eq_shT_self, lt_int, le_int, gt_int, ge_int, getIt_0, len_tup, len_lst, abs_int, int_bl, int_int, list_cel, liC_lst, len_cel, lnC_lst, list_tup, list_lst, tuple_lst, tuple_tup, forR_nil, forR_cons, forS_nx, forS_rt, nxP_nx, kAsg_ok, kPar2_ok, kTup_ok, kLst_ok, kCel_ok, S_ret, ne_eq, reduceCtorEq, not_false_eq_true, implies_true, RV.d, frz_nil, frz_cons, frzO_some, frzO_none, List.getElem?_cons_zero, List.getElem?_cons_succ, List.getElem?_nil, List.set_cons_zero, List.set_cons_succ, List.length_cons, List.length_nil, mask_nil, mask_none, mask_some, wipe_nil, wipe_cons, decide_true, decide_false, Bool.not_true, Bool.not_false, Nat.zero_add, Nat.reduceAdd, Nat.reduceLT, Nat.reduceLeDiff, Nat.lt_add_one, List.nil_append, List.cons_append, Nat.reduceSub, List.map_cons, List.map_nil, List.replicate_succ, rep_zero, start_eq, gX_some, getT, getL, getC, gC_lst, Int.reduceToNat, Int.reduceLE, Int.reduceLT, Int.reduceNeg, setO_ap, sO_some, setC_ap, sC_some, kAsT_ap, asT_some, bindT_nm, bindT_tup, bindTs_cons, bO_some, bindTs_nil, turnF_ap, tFo_some, cT_ap, cTo_some, cT2_t, cT2_f, cT3_fr, cT3_own, and_self, and_true, true_and, Int.zero_add, ixN_ge, Int.natCast_nonneg, Int.toNat_natCast, Int.cast_ofNat_Int, isin_ty, List.any_cons, List.any_nil, isTy, Bool.true_and, Bool.false_and, Bool.and_true, Bool.and_false, Bool.or_false, Bool.false_or, Bool.or_true, Bool.true_or, Int.reduceEq, V12, e1, e2, e4, e3]
  rfl
theorem k12_Btot (k : Nat) {t : Tri} (ok : TriOk t) {n : Nat} (h : CaseOk t.faces.length n) {w : Nat} (hw : w < t.ways.length) (μ : Mu) :
    callD reg (k + 4) 14 [.lst (((cw t.faces.length n).map fun c => (((rto c : Nat) : Int) : Rat) * wtl (t.row w c)).map rD)] μ = .ok (.fr (rD 1)) μ := by
  have sh := ok.sh _ (way_mem hw)
  have hsum := multi_one h sh.2 sh.1.sum
  have hsum' : rsum ((cw t.faces.length n).map fun c => (((rto c : Nat) : Int) : Rat) * wtl (t.row w c)) = 1 := by
    rw [← hsum]
    refine rsum_congr fun c _ => ?_
    rw [Rat.intCast_natCast]
    rfl
  have hsz : ∀ q ∈ (cw t.faces.length n).map fun c => (((rto c : Nat) : Int) : Rat) * wtl (t.row w c), Sz 58 q := fun q hq => by
    obtain ⟨c, hc, rfl⟩ := List.mem_map.mp hq
    have h1 := cw_each _ _ c hc
    have n5 := h.n5
    have hr := row_nsum t w c
    exact (Sz.mul (rto_sz (h.small c hc)) (wtl_sz (row_sz ok hw (cs := c)))).mono (by omega)
  have e := s_total k (μ := μ) (d := .lst (((cw t.faces.length n).map fun c => (((rto c : Nat) : Int) : Rat) * wtl (t.row w c)).map rD)) (h := []) (C := 1200) rfl (Held_nil μ) hsz (fun i => (Sz_rsum fun q hq => hsz q (List.mem_of_mem_take hq)).mono (by
    have h1 : (((cw t.faces.length n).map fun c => (((rto c : Nat) : Int) : Rat) * wtl (t.row w c)).take i).length ≤ 20 := by
      rw [List.length_take, List.length_map]
      have := h.len
      omega
    have := Nat.mul_le_mul_right (58 + 1) h1
    omega)) (by decide)
  unfold cl at e
  rw [e, hsum']
theorem k12_C (k : Nat) {S : D} {t : Tri} (ok : TriOk t) {mix : List Rat} {n : Nat} {c : List Nat} (x6 x8 x9 x11 x12 x13 x14 : Option RV) (μ : Mu) :
    compR (cT (callD reg (k + 4)) (.var 10) (.nm 10) (.cons (.cmp .eq (.call 31 (.cons (.var 2) (.cons (.var 10) .nil))) (.var 7)) .nil) [10] (V12 S t mix n x6 (some (.fr (cD c))) x8 x9 none x11 x12 x13 x14)) ((rowsL t.faces.length n).map cD) μ
      = .ok (((rowsL t.faces.length n).filter fun r => decide (cntOf t.faces.length r = c)).map cD) μ := by
  refine compR_some (fun r => decide (cntOf t.faces.length r = c)) cD fun r hr => ?_
  have e := s_countsof (k + 3) (μ := μ) ok r
  unfold cl at e
  simp only [Tri.D] at e
  by_cases hc : cntOf t.faces.length r = c
  · simp only [bnd_rb, rb_ok, rb_exc, sb_ok, seq_nx, seq_rt, seq_ex, fin_nx, fin_rt, fin_ex, E_var, E_cst, E_glo, E_dic0, E_tup, E_lst, E_cel, E_op, E_cmp, E_chn, E_not, E_neg, E_con, E_dis, E_ife, E_idx, E_slc, E_call, E_blt, E_isi, E_rng1, E_rng2, E_comp, V_nil, V_cons, A_nil, A_cons, O_nil, O_cons, vr_fr, vo_fr, vo_own, vv_some, kD_fr, kD_own, kBl_ap, kOwn_ap, eo_var, eo_cst, eo_glo, eo_op, eo_idx, eo_slc, eo_call, eo_blt, eo_tup, eo_lst, eo_neg, eo_nt, eo_cmp, eo_con, eo_dis, eo_isi, eo_ife, eo_comp, kOp_ap, kCmp_ap, kCm2_ap, kCh1_ap, kCh2_ap, kCh3_t, kCh3_f, asR_bl, kNot_bl, kNeg_int, kA_bl, kA2_t, kA2_f, kO_bl, kO2_t, kO2_f, kA2_nil, kO2_nil, kIf_bl, kIf2_t, kIf2_f, kIdx_ap, kSl_ap, kSl2_ap, kSl3_ap, oi_mis, kI_int, oi_var, oi_cst, oi_op, oi_neg, oi_idx, oi_blt, oi_call, kR2_int, kComp_ap, kV_ap, kV2_fr, kV2_own, itemsOf_tup, itemsOf_lst, itemsOf_own, itemsOf_cell, itC_lst, itemsOf_wk, E_zip, E_enum, E_revd, E_newc, eo_newc, kZ1_ap, zipD_tt, zipD_ll, enumD_t, enumD_l, revD_t, revD_l, newC_own, kComp_apH, kFor_apH, S_asg, S_asT, S_par, S_exp, S_retv, S_ite, S_whl, S_for, S_setv, S_setc, S_mut, S_pas, B_nil, B_cons, kPar_ap, kExp_ap, kRet_ap, kIte_bl, kIte2_t, kIte2_f, kFor_ap, kSv_ap, kSv2_int, kSc_ap, kSc2_ap, kSc3_cell, kMut_ap, op_add, op_sub, eq_int, ne_int, eq_str, ne_str, ne_shT_self, eq_shT_self, lt_int, le_int, gt_int, ge_int, getIt_0, len_tup, len_lst, abs_int, int_bl, int_int, list_cel, liC_lst, len_cel, lnC_lst, list_tup, list_lst, tuple_lst, tuple_tup, forR_nil, forR_cons, forS_nx, forS_rt, nxP_nx, kAsg_ok, kPar2_ok, kTup_ok, kLst_ok, kCel_ok, S_ret, ne_eq, reduceCtorEq, not_false_eq_true, implies_true, RV.d, frz_nil, frz_cons, frzO_some, frzO_none, List.getElem?_cons_zero, List.getElem?_cons_succ, List.getElem?_nil, List.set_cons_zero, List.set_cons_succ, List.length_cons, List.length_nil, mask_nil, mask_none, mask_some, wipe_nil, wipe_cons, decide_true, decide_false, Bool.not_true, Bool.not_false, Nat.zero_add, Nat.reduceAdd, Nat.reduceLT, Nat.reduceLeDiff, Nat.lt_add_one, List.nil_append, List.cons_append, Nat.reduceSub, List.map_cons, List.map_nil, List.replicate_succ, rep_zero, start_eq, gX_some, getT, getL, getC, gC_lst, Int.reduceToNat, Int.reduceLE, Int.reduceLT, Int.reduceNeg, setO_ap, sO_some, setC_ap, sC_some, kAsT_ap, asT_some, bindT_nm, bindT_tup, bindTs_cons, bO_some, bindTs_nil, turnF_ap, tFo_some, cT_ap, cTo_some, cT2_t, cT2_f, cT3_fr, cT3_own, and_self, and_true, true_and, Int.zero_add, ixN_ge, Int.natCast_nonneg, Int.toNat_natCast, Int.cast_ofNat_Int, isin_ty, List.any_cons, List.any_nil, isTy, Bool.true_and, Bool.false_and, Bool.and_true, Bool.and_false, Bool.or_false, Bool.false_or, Bool.or_true, Bool.true_or, Int.reduceEq, V12, e, eq_cD, hc]
    rw [if_pos trivial]
  · simp only [bnd_rb, rb_ok, rb_exc, sb_ok, seq_nx, seq_rt, seq_ex, fin_nx, fin_rt, fin_ex, E_var, E_cst, E_glo, E_dic0, E_tup, E_lst, E_cel, E_op, E_cmp, E_chn, E_not, E_neg, E_con, E_dis, E_ife, E_idx, E_slc, E_call, E_blt, E_isi, E_rng1, E_rng2, E_comp, V_nil, V_cons, A_nil, A_cons, O_nil, O_cons, vr_fr, vo_fr, vo_own, vv_some, kD_fr, kD_own, kBl_ap, kOwn_ap, eo_var, eo_cst, eo_glo, eo_op, eo_idx, eo_slc, eo_call, eo_blt, eo_tup, eo_lst, eo_neg, eo_nt, eo_cmp, eo_con, eo_dis, eo_isi, eo_ife, eo_comp, kOp_ap, kCmp_ap, kCm2_ap, kCh1_ap, kCh2_ap, kCh3_t, kCh3_f, asR_bl, kNot_bl, kNeg_int, kA_bl, kA2_t, kA2_f, kO_bl, kO2_t, kO2_f, kA2_nil, kO2_nil, kIf_bl, kIf2_t, kIf2_f, kIdx_ap, kSl_ap, kSl2_ap, kSl3_ap, oi_mis, kI_int, oi_var, oi_cst, oi_op, oi_neg, oi_idx, oi_blt, oi_call, kR2_int, kComp_ap, kV_ap, kV2_fr, kV2_own, itemsOf_tup, itemsOf_lst, itemsOf_own, itemsOf_cell, itC_lst, itemsOf_wk, E_zip, E_enum, E_revd, E_newc, eo_newc, kZ1_ap, zipD_tt, zipD_ll, enumD_t, enumD_l, revD_t, revD_l, newC_own, kComp_apH, kFor_apH, S_asg, S_asT, S_par, S_exp, S_retv, S_ite, S_whl, S_for, S_setv, S_setc, S_mut, S_pas, B_nil, B_cons, kPar_ap, kExp_ap, kRet_ap, kIte_bl, kIte2_t, kIte2_f, kFor_ap, kSv_ap, kSv2_int, kSc_ap, kSc2_ap, kSc3_cell, kMut_ap, op_add, op_sub, eq_int, ne_int, eq_str, ne_str, ne_shT_self, eq_shT_self, lt_int, le_int, gt_int, ge_int, getIt_0, len_tup, len_lst, abs_int, int_bl, int_int, list_cel, liC_lst, len_cel, lnC_lst, list_tup, list_lst, tuple_lst, tuple_tup, forR_nil, forR_cons, forS_nx, forS_rt, nxP_nx, kAsg_ok, kPar2_ok, kTup_ok, kLst_ok, kCel_ok, S_ret, ne_eq, reduceCtorEq, not_false_eq_true, implies_true, RV.d, frz_nil, frz_cons, frzO_some, frzO_none, List.getElem?_cons_zero, List.getElem?_cons_succ, List.getElem?_nil, List.set_cons_zero, List.set_cons_succ, List.length_cons, List.length_nil, mask_nil, mask_none, mask_some, wipe_nil, wipe_cons, decide_true, decide_false, Bool.not_true, Bool.not_false, Nat.zero_add, Nat.reduceAdd, Nat.reduceLT, Nat.reduceLeDiff, Nat.lt_add_one, List.nil_append, List.cons_append, Nat.reduceSub, List.map_cons, List.map_nil, List.replicate_succ, rep_zero, start_eq, gX_some, getT, getL, getC, gC_lst, Int.reduceToNat, Int.reduceLE, Int.reduceLT, Int.reduceNeg, setO_ap, sO_some, setC_ap, sC_some, kAsT_ap, asT_some, bindT_nm, bindT_tup, bindTs_cons, bO_some, bindTs_nil, turnF_ap, tFo_some, cT_ap, cTo_some, cT2_t, cT2_f, cT3_fr, cT3_own, and_self, and_true, true_and, Int.zero_add, ixN_ge, Int.natCast_nonneg, Int.toNat_natCast, Int.cast_ofNat_Int, isin_ty, List.any_cons, List.any_nil, isTy, Bool.true_and, Bool.false_and, Bool.and_true, Bool.and_false, Bool.or_false, Bool.false_or, Bool.or_true, Bool.true_or, Int.reduceEq, V12, e, eq_cD, hc]
    simp only [if_false, Bool.false_eq_true]
theorem k12_sum (k : Nat) {S : D} {t : Tri} (ok : TriOk t) {mix : List Rat} (hm : ∀ q ∈ mix, Sz 10 q) (hl : mix.length = t.ways.length) {n : Nat} {c : List Nat} (hs : c.sum ≤ 60) (x6 x8 x10 x11 x12 x13 x14 : Option RV) (μ : Mu) :
    compR (cT (callD reg (k + 4)) (.call 22 (.cons (.idx (.var 3) (.var 9)) (.cons (.call 24 (.cons (.var 2) (.cons (.var 9) (.cons (.var 7) .nil)))) .nil))) (.nm 9) .nil [9] (V12 S t mix n x6 (some (.fr (cD c))) x8 none x10 x11 x12 x13 x14)) (intsFrom 0 t.ways.length) μ
      = .ok ((t.shr mix c).map rD) μ := by
  rw [ints_on]
  unfold Tri.shr
  rw [List.map_map]
  refine compR_all _ fun w hw => ?_
  have hw' : w < t.ways.length := by simpa using hw
  have hr := row_nsum t w c
  have e2 := s_weight k (μ := μ) ok hw' (cs := c) (by omega)
  have e3 := s_times (k + 1) (μ := μ) (sz_getD hm (i := w) (by omega)) (wtl_sz (row_sz ok hw' (cs := c))) (by omega)
  unfold cl at e2 e3
  simp only [Tri.D] at e2
  have hcD : cD c = .tup (intL c) := rfl
  rw [← hcD] at e2
  have gm := rget (qs := mix) (i := w) (by omega)
  simp only [bnd_rb, rb_ok, rb_exc, sb_ok, seq_nx, seq_rt, seq_ex, fin_nx, fin_rt, fin_ex, E_var, E_cst, E_glo, E_dic0, E_tup, E_lst, E_cel, E_op, E_cmp, E_chn, E_not, E_neg, E_con, E_dis, E_ife, E_idx, E_slc, E_call, E_blt, E_isi, E_rng1, E_rng2, E_comp, V_nil, V_cons, A_nil, A_cons, O_nil, O_cons, vr_fr, vo_fr, vo_own, vv_some, kD_fr, kD_own, kBl_ap, kOwn_ap, eo_var, eo_cst, eo_glo, eo_op, eo_idx, eo_slc, eo_call, eo_blt, eo_tup, eo_lst, eo_neg, eo_nt, eo_cmp, eo_con, eo_dis, eo_isi, eo_ife, eo_comp, kOp_ap, kCmp_ap, kCm2_ap, kCh1_ap, kCh2_ap, kCh3_t, kCh3_f, asR_bl, kNot_bl, kNeg_int, kA_bl, kA2_t, kA2_f, kO_bl, kO2_t, kO2_f, kA2_nil, kO2_nil, kIf_bl, kIf2_t, kIf2_f, kIdx_ap, kSl_ap, kSl2_ap, kSl3_ap, oi_mis, kI_int, oi_var, oi_cst, oi_op, oi_neg, oi_idx, oi_blt, oi_call, kR2_int, kComp_ap, kV_ap, kV2_fr, kV2_own, itemsOf_tup, itemsOf_lst, itemsOf_own, itemsOf_cell, itC_lst, itemsOf_wk, E_zip, E_enum, E_revd, E_newc, eo_newc, kZ1_ap, zipD_tt, zipD_ll, enumD_t, enumD_l, revD_t, revD_l, newC_own, kComp_apH, kFor_apH, S_asg, S_asT, S_par, S_exp, S_retv, S_ite, S_whl, S_for, S_setv, S_setc, S_mut, S_pas, B_nil, B_cons, kPar_ap, kExp_ap, kRet_ap, kIte_bl, kIte2_t, kIte2_f, kFor_ap, kSv_ap, kSv2_int, kSc_ap, kSc2_ap, kSc3_cell, kMut_ap, op_add, op_sub, eq_int, ne_int, eq_str, ne_str, ne_shT_self, eq_shT_self, lt_int, le_int, gt_int, ge_int, getIt_0, len_tup, len_lst, abs_int, int_bl, int_int, list_cel, liC_lst, len_cel, lnC_lst, list_tup, list_lst, tuple_lst, tuple_tup, forR_nil, forR_cons, forS_nx, forS_rt, nxP_nx, kAsg_ok, kPar2_ok, kTup_ok, kLst_ok, kCel_ok, S_ret, ne_eq, reduceCtorEq, not_false_eq_true, implies_true, RV.d, frz_nil, frz_cons, frzO_some, frzO_none, List.getElem?_cons_zero, List.getElem?_cons_succ, List.getElem?_nil, List.set_cons_zero, List.set_cons_succ, List.length_cons, List.length_nil, mask_nil, mask_none, mask_some, wipe_nil, wipe_cons, decide_true, decide_false, Bool.not_true, Bool.not_false, Nat.zero_add, Nat.reduceAdd, Nat.reduceLT, Nat.reduceLeDiff, Nat.lt_add_one, List.nil_append, List.cons_append, Nat.reduceSub, List.map_cons, List.map_nil, List.replicate_succ, rep_zero, start_eq, gX_some, getT, getL, getC, gC_lst, Int.reduceToNat, Int.reduceLE, Int.reduceLT, Int.reduceNeg, setO_ap, sO_some, setC_ap, sC_some, kAsT_ap, asT_some, bindT_nm, bindT_tup, bindTs_cons, bO_some, bindTs_nil, turnF_ap, tFo_some, cT_ap, cTo_some, cT2_t, cT2_f, cT3_fr, cT3_own, and_self, and_true, true_and, Int.zero_add, ixN_ge, Int.natCast_nonneg, Int.toNat_natCast, Int.cast_ofNat_Int, isin_ty, List.any_cons, List.any_nil, isTy, Bool.true_and, Bool.false_and, Bool.and_true, Bool.and_false, Bool.or_false, Bool.false_or, Bool.or_true, Bool.true_or, Int.reduceEq, V12, Int.natCast_nonneg, Int.toNat_natCast, gm, e2, e3]
  rfl
theorem range_set {α : Type} (f : Nat → α) (W j : Nat) (x : α) : ((List.range W).map f).set j x = (List.range W).map fun w => if w = j then x else f w := by
  apply List.ext_getElem (by simp)
  intro i h1 h2
  rw [List.getElem_set]
  by_cases h : j = i
  · subst h; simp
  · simp [h, Ne.symm h]
theorem shr_getD {t : Tri} {mix : List Rat} {c : List Nat} {w : Nat} (hw : w < t.ways.length) : (t.shr mix c).getD w 0 = mix.getD w 0 * wtl (t.row w c) := by
  unfold Tri.shr
  simp [hw]
/-- the turn of the last loop -/
theorem k12_turn (k : Nat) {S : D} {t : Tri} (ok : TriOk t) {mix : List Rat} (hm : ∀ q ∈ mix, Sz 10 q) (hnn : ∀ q ∈ mix, 0 ≤ q) (hl : mix.length = t.ways.length) {n : Nat} (h : CaseOk t.faces.length n) (cs : List (List Nat)) (c : List Nat) (hcs : ∀ x ∈ cs ++ [c], x ∈ cw t.faces.length n) (hlen : cs.length ≤ 20)
    (x6 x8 : RV) (μ : Mu) (hc : c ∈ cw t.faces.length n) :
    forR (turnF (.nm 9) (exB (callD reg (k + 5)) (.cons (.ite [] (.cmp .notn (.var 13) (.cst .non)) (.cons (.setv [] 12 (.var 9) (.call 12 (.cons (.idx (.var 12) (.var 9)) (.cons (.call 22 (.cons (.idx (.var 13) (.var 9)) (.cons (.call 22 (.cons (.var 14) (.cons (.tup (.cons (.call 33 (.cons (.var 7) .nil)) (.cons (.cst (.int 1)) .nil))) .nil))) .nil))) .nil)))) .nil) .nil) .nil)))
      (intsFrom 0 t.ways.length) (V12 S t mix n (some x6) (some (.fr (cD c))) (some x8) none none none (some (.own ((List.range t.ways.length).map fun w => rD (fnd t mix cs w)))) (some (.fr (t.bhd mix c))) (some (.fr (rD (rsum (t.shr mix c)))))) μ
      = .nx (V12 S t mix n (some x6) (some (.fr (cD c))) (some x8) none none none (some (.own ((List.range t.ways.length).map fun w => rD (fnd t mix (cs ++ [c]) w)))) (some (.fr (t.bhd mix c))) (some (.fr (rD (rsum (t.shr mix c)))))) μ := by
  have n5 := h.n5
  have w4 := ok.w4
  have ce := cw_each _ _ c hc
  have szs := shr_sz ok hm hl (cs := c) (M := 5) (by omega)
  have nns := shr_nn ok hnn hl (cs := c)
  by_cases h0 : rsum (t.shr mix c) = 0
  · have hz := rsum_zero nns h0
    have hsame : ∀ w, w < t.ways.length → fnd t mix (cs ++ [c]) w = fnd t mix cs w := fun w hw => by
      rw [fnd_snoc]
      have : mix.getD w 0 * wtl (t.row w c) = 0 := by
        rw [← shr_getD hw]
        refine hz _ ?_
        have : (t.shr mix c).getD w 0 = (t.shr mix c)[w]'(by rw [shr_len]; exact hw) := by
          rw [List.getD_eq_getElem?_getD, List.getElem?_eq_getElem (by rw [shr_len]; exact hw)]; rfl
        rw [this]; exact List.getElem_mem _
      rw [this, Rat.zero_mul, Rat.add_zero]
    have hb : t.bhd mix c = .non := by unfold Tri.bhd; rw [if_pos h0]
    have hfs : ((List.range t.ways.length).map fun w => rD (fnd t mix (cs ++ [c]) w)) = (List.range t.ways.length).map fun w => rD (fnd t mix cs w) := List.map_congr_left fun w hw => by rw [hsame w (by simpa using hw)]
    rw [hfs, hb]
    have hno : ∀ μ, cmp2 .notn .non .non μ = .ok false μ := fun μ => rfl
    refine forR_use (P := fun r => r = _) (fun j ρ μ' => μ' = μ ∧ ρ = V12 S t mix n (some x6) (some (.fr (cD c))) (some x8) none none none (some (.own ((List.range t.ways.length).map fun w => rD (fnd t mix cs w)))) (some (.fr .non)) (some (.fr (rD (rsum (t.shr mix c)))))) ⟨rfl, rfl⟩ ?_ ?_
    · rintro j x ρ μ' hx ⟨e1, rfl⟩
      rw [e1]
      simp only [bnd_rb, rb_ok, rb_exc, sb_ok, seq_nx, seq_rt, seq_ex, fin_nx, fin_rt, fin_ex, E_var, E_cst, E_glo, E_dic0, E_tup, E_lst, E_cel, E_op, E_cmp, E_chn, E_not, E_neg, E_con, E_dis, E_ife, E_idx, E_slc, E_call, E_blt, E_isi, E_rng1, E_rng2, E_comp, V_nil, V_cons, A_nil, A_cons, O_nil, O_cons, vr_fr, vo_fr, vo_own, vv_some, kD_fr, kD_own, kBl_ap, kOwn_ap, eo_var, eo_cst, eo_glo, eo_op, eo_idx, eo_slc, eo_call, eo_blt, eo_tup, eo_lst, eo_neg, eo_nt, eo_cmp, eo_con, eo_dis, eo_isi, eo_ife, eo_comp, kOp_ap, kCmp_ap, kCm2_ap, kCh1_ap, kCh2_ap, kCh3_t, kCh3_f, asR_bl, kNot_bl, kNeg_int, kA_bl, kA2_t, kA2_f, kO_bl, kO2_t, kO2_f, kA2_nil, kO2_nil, kIf_bl, kIf2_t, kIf2_f, kIdx_ap, kSl_ap, kSl2_ap, kSl3_ap, oi_mis, kI_int, oi_var, oi_cst, oi_op, oi_neg, oi_idx, oi_blt, oi_call, kR2_int, kComp_ap, kV_ap, kV2_fr, kV2_own, itemsOf_tup, itemsOf_lst, itemsOf_own, itemsOf_cell, itC_lst, itemsOf_wk, E_zip, E_enum, E_revd, E_newc, eo_newc, kZ1_ap, zipD_tt, zipD_ll, enumD_t, enumD_l, revD_t, revD_l, newC_own, kComp_apH, kFor_apH, S_asg, S_asT, S_par, S_exp, S_retv, S_ite, S_whl, S_for, S_setv, S_setc, S_mut, S_pas, B_nil, B_cons, kPar_ap, kExp_ap, kRet_ap, kIte_bl, kIte2_t, kIte2_f, kFor_ap, kSv_ap, kSv2_int, kSc_ap, kSc2_ap, kSc3_cell, kMut_ap, op_add, op_sub, eq_int, ne_int, eq_str, ne_str, ne_shT_self, eq_shT_self, lt_int, le_int, gt_int, ge_int, getIt_0, len_tup, len_lst, abs_int, int_bl, int_int, list_cel, liC_lst, len_cel, lnC_lst, list_tup, list_lst, tuple_lst, tuple_tup, forR_nil, forR_cons, forS_nx, forS_rt, nxP_nx, kAsg_ok, kPar2_ok, kTup_ok, kLst_ok, kCel_ok, S_ret, ne_eq, reduceCtorEq, not_false_eq_true, implies_true, RV.d, frz_nil, frz_cons, frzO_some, frzO_none, List.getElem?_cons_zero, List.getElem?_cons_succ, List.getElem?_nil, List.set_cons_zero, List.set_cons_succ, List.length_cons, List.length_nil, mask_nil, mask_none, mask_some, wipe_nil, wipe_cons, decide_true, decide_false, Bool.not_true, Bool.not_false, Nat.zero_add, Nat.reduceAdd, Nat.reduceLT, Nat.reduceLeDiff, Nat.lt_add_one, List.nil_append, List.cons_append, Nat.reduceSub, List.map_cons, List.map_nil, List.replicate_succ, rep_zero, start_eq, gX_some, getT, getL, getC, gC_lst, Int.reduceToNat, Int.reduceLE, Int.reduceLT, Int.reduceNeg, setO_ap, sO_some, setC_ap, sC_some, kAsT_ap, asT_some, bindT_nm, bindT_tup, bindTs_cons, bO_some, bindTs_nil, turnF_ap, tFo_some, cT_ap, cTo_some, cT2_t, cT2_f, cT3_fr, cT3_own, and_self, and_true, true_and, Int.zero_add, ixN_ge, Int.natCast_nonneg, Int.toNat_natCast, Int.cast_ofNat_Int, isin_ty, List.any_cons, List.any_nil, isTy, Bool.true_and, Bool.false_and, Bool.and_true, Bool.and_false, Bool.or_false, Bool.false_or, Bool.or_true, Bool.true_or, Int.reduceEq, V12, hno]
    · rintro ρ μ' ⟨e1, rfl⟩
      rw [e1]
  · have hb := bhd_list h0
    have hbne : ∀ μ, cmp2 .notn (.tup (((t.shr mix c).map fun s => s / rsum (t.shr mix c)).map rD)) .non μ = .ok true μ := fun μ => rfl
    have sr := rsum_sz4 szs (by rw [shr_len]; exact w4)
    have e33 := s_rowsto (k + 4) (μ := μ) (cs := c) (by omega)
    have e4 : D.tup [.int ((rto c : Nat) : Int), .int 1] = rD ((((rto c : Nat) : Int) : Rat)) := rfl
    have rs := rto_sz (h.small c hc)
    have e22 := s_times (k + 2) (μ := μ) sr rs (by decide)
    unfold cl at e33 e22
    rw [hb]
    refine forR_use (P := fun r => r = _) (fun j ρ μ' => μ' = μ ∧ ρ = V12 S t mix n (some x6) (some (.fr (cD c))) (some x8) none none none (some (.own ((List.range t.ways.length).map fun w => rD (if w < j then fnd t mix (cs ++ [c]) w else fnd t mix cs w)))) (some (.fr (.tup (((t.shr mix c).map fun s => s / rsum (t.shr mix c)).map rD)))) (some (.fr (rD (rsum (t.shr mix c)))))) ⟨rfl, by simp⟩ ?_ ?_
    · rintro j x ρ μ' hx ⟨e1, rfl⟩
      rw [e1]
      obtain ⟨hj, rfl⟩ := ints_at hx
      have g13 := rget (qs := (t.shr mix c).map fun s => s / rsum (t.shr mix c)) (i := j) (by rw [List.length_map, shr_len]; exact hj)
      have gv : ((t.shr mix c).map fun s => s / rsum (t.shr mix c)).getD j 0 = (mix.getD j 0 * wtl (t.row j c)) / rsum (t.shr mix c) := by
        rw [← shr_getD (mix := mix) (c := c) hj]
        have : j < (t.shr mix c).length := by rw [shr_len]; exact hj
        simp [this]
      rw [gv] at g13
      have ssz : Sz (10 * 5 + 11) (mix.getD j 0 * wtl (t.row j c)) := by
        rw [← shr_getD (mix := mix) (c := c) hj]
        exact sz_getD szs (by rw [shr_len]; exact hj)
      have e22b := s_times (k + 2) (μ := μ) (Sz.div h0 ssz sr) (Sz.mul sr rs) (by decide)
      have hval : (mix.getD j 0 * wtl (t.row j c)) / rsum (t.shr mix c) * (rsum (t.shr mix c) * ((((rto c : Nat) : Int) : Rat))) = (mix.getD j 0 * wtl (t.row j c)) * ((rto c : Nat) : Rat) := by
        rw [Rat.intCast_natCast]
        grind
      rw [hval] at e22b
      have fsz := fnd_sz ok hm hl hj (cs := cs) (fun x hx => by
        have := cw_each _ _ x (hcs x (List.mem_append_left _ hx))
        exact ⟨by omega, h.small x (hcs x (List.mem_append_left _ hx))⟩) hlen
      have tsz : Sz 68 ((mix.getD j 0 * wtl (t.row j c)) * ((rto c : Nat) : Rat)) := by
        rw [← Rat.intCast_natCast]
        exact (Sz.mul ssz rs).mono (by decide)
      have e12 := s_plus (k + 2) (μ := μ) fsz tsz (by decide)
      rw [← fnd_snoc] at e12
      unfold cl at e22b e12
      have g12 : ((List.range t.ways.length).map fun w => rD (if w < j then fnd t mix (cs ++ [c]) w else fnd t mix cs w))[j]? = some (rD (fnd t mix cs j)) := by
        rw [List.getElem?_map, List.getElem?_range hj]
        simp
      have hix : ixN ((List.range t.ways.length).map fun w => rD (if w < j then fnd t mix (cs ++ [c]) w else fnd t mix cs w)).length (j : Int) = some j := by
        rw [ixN_ge (by omega) (by simpa using hj)]; simp
      have hset : ((List.range t.ways.length).map fun w => rD (if w < j then fnd t mix (cs ++ [c]) w else fnd t mix cs w)).set j (rD (fnd t mix (cs ++ [c]) j)) = (List.range t.ways.length).map fun w => rD (if w < j + 1 then fnd t mix (cs ++ [c]) w else fnd t mix cs w) := by
        rw [range_set]
        refine List.map_congr_left fun w _ => ?_
        by_cases e : w = j
        · subst e; rw [if_pos rfl, if_pos (Nat.lt_succ_self w)]
        · rw [if_neg e]
          by_cases e2 : w < j
          · rw [if_pos e2, if_pos (by omega)]
          · rw [if_neg e2, if_neg (by omega)]
      simp only [bnd_rb, rb_ok, rb_exc, sb_ok, seq_nx, seq_rt, seq_ex, fin_nx, fin_rt, fin_ex, E_var, E_cst, E_glo, E_dic0, E_tup, E_lst, E_cel, E_op, E_cmp, E_chn, E_not, E_neg, E_con, E_dis, E_ife, E_idx, E_slc, E_call, E_blt, E_isi, E_rng1, E_rng2, E_comp, V_nil, V_cons, A_nil, A_cons, O_nil, O_cons, vr_fr, vo_fr, vo_own, vv_some, kD_fr, kD_own, kBl_ap, kOwn_ap, eo_var, eo_cst, eo_glo, eo_op, eo_idx, eo_slc, eo_call, eo_blt, eo_tup, eo_lst, eo_neg, eo_nt, eo_cmp, eo_con, eo_dis, eo_isi, eo_ife, eo_comp, kOp_ap, kCmp_ap, kCm2_ap, kCh1_ap, kCh2_ap, kCh3_t, kCh3_f, asR_bl, kNot_bl, kNeg_int, kA_bl, kA2_t, kA2_f, kO_bl, kO2_t, kO2_f, kA2_nil, kO2_nil, kIf_bl, kIf2_t, kIf2_f, kIdx_ap, kSl_ap, kSl2_ap, kSl3_ap, oi_mis, kI_int, oi_var, oi_cst, oi_op, oi_neg, oi_idx, oi_blt, oi_call, kR2_int, kComp_ap, kV_ap, kV2_fr, kV2_own, itemsOf_tup, itemsOf_lst, itemsOf_own, itemsOf_cell, itC_lst, itemsOf_wk, E_zip, E_enum, E_revd, E_newc, eo_newc, kZ1_ap, zipD_tt, zipD_ll, enumD_t, enumD_l, revD_t, revD_l, newC_own, kComp_apH, kFor_apH, S_asg, S_asT, S_par, S_exp, S_retv, S_ite, S_whl, S_for, S_setv, S_setc, S_mut, S_pas, B_nil, B_cons, kPar_ap, kExp_ap, kRet_ap, kIte_bl, kIte2_t, kIte2_f, kFor_ap, kSv_ap, kSv2_int, kSc_ap, kSc2_ap, kSc3_cell, kMut_ap, op_add, op_sub, eq_int, ne_int, eq_str, ne_str, ne_shT_self, eq_shT_self, lt_int, le_int, gt_int, ge_int, getIt_0, len_tup, len_lst, abs_int, int_bl, int_int, list_cel, liC_lst, len_cel, lnC_lst, list_tup, list_lst, tuple_lst, tuple_tup, forR_nil, forR_cons, forS_nx, forS_rt, nxP_nx, kAsg_ok, kPar2_ok, kTup_ok, kLst_ok, kCel_ok, S_ret, ne_eq, reduceCtorEq, not_false_eq_true, implies_true, RV.d, frz_nil, frz_cons, frzO_some, frzO_none, List.getElem?_cons_zero, List.getElem?_cons_succ, List.getElem?_nil, List.set_cons_zero, List.set_cons_succ, List.length_cons, List.length_nil, mask_nil, mask_none, mask_some, wipe_nil, wipe_cons, decide_true, decide_false, Bool.not_true, Bool.not_false, Nat.zero_add, Nat.reduceAdd, Nat.reduceLT, Nat.reduceLeDiff, Nat.lt_add_one, List.nil_append, List.cons_append, Nat.reduceSub, List.map_cons, List.map_nil, List.replicate_succ, rep_zero, start_eq, gX_some, getT, getL, getC, gC_lst, Int.reduceToNat, Int.reduceLE, Int.reduceLT, Int.reduceNeg, setO_ap, sO_some, setC_ap, sC_some, kAsT_ap, asT_some, bindT_nm, bindT_tup, bindTs_cons, bO_some, bindTs_nil, turnF_ap, tFo_some, cT_ap, cTo_some, cT2_t, cT2_f, cT3_fr, cT3_own, and_self, and_true, true_and, Int.zero_add, ixN_ge, Int.natCast_nonneg, Int.toNat_natCast, Int.cast_ofNat_Int, isin_ty, List.any_cons, List.any_nil, isTy, Bool.true_and, Bool.false_and, Bool.and_true, Bool.and_false, Bool.or_false, Bool.false_or, Bool.or_true, Bool.true_or, Int.reduceEq, V12, hbne, Int.natCast_nonneg, Int.toNat_natCast, g12, g13, e33, e4, e22, e22b, e12, hix, hset]
    · rintro ρ μ' ⟨e1, rfl⟩
      rw [e1, ints_len]
      have : ((List.range t.ways.length).map fun w => rD (if w < t.ways.length then fnd t mix (cs ++ [c]) w else fnd t mix cs w)) = (List.range t.ways.length).map fun w => rD (fnd t mix (cs ++ [c]) w) := List.map_congr_left fun w hw => by rw [if_pos (by simpa using hw)]
      rw [this]
theorem k12_law' (k : Nat) (ns : List Int) (hn : ns.length ≤ 63) : ∃ μ', cl (k + 7) 38 [.lst (ns.map D.int)] [] = .ok (.fr (.bl true)) μ' := by
  have e0 := s_feed (k + 5) ns hn []
  have f0 : Fd 3000 0 [feedL ns 0 0 0] := ⟨_, rfl, ns, 0, 0, 0, rfl, hn, by decide, by decide, by decide, by decide, by omega⟩
  obtain ⟨t, μ1, e1, f1, x1, ok⟩ := s_trial (k + 3) 0 (n := 2900) (f0.mono (by decide))
  obtain ⟨mix, μ2, e2, f2, x2, sh, hl⟩ := s_shares (k + 4) 0 (n := 2800) (many := t.ways.length) (μ := μ1) (f1.mono (by decide)) (by have := ok.w2; omega) ok.w4
  have hm := sh.sz
  have hnn := sh.nn
  have hF2 := ok.f2
  have hF4 := ok.f4
  obtain ⟨lim, elim, hlim⟩ : ∃ lim : Nat, (∀ μ, getIt (.lst [.int 6, .int 5, .int 4]) (.int ((t.faces.length : Int) - 2)) μ = .ok (.fr (.int (lim : Nat))) μ) ∧ ((t.faces.length = 2 ∧ lim = 6) ∨ (t.faces.length = 3 ∧ lim = 5) ∨ (t.faces.length = 4 ∧ lim = 4)) := by
    have : t.faces.length = 2 ∨ t.faces.length = 3 ∨ t.faces.length = 4 := by omega
    rcases this with h | h | h
    · exact ⟨6, fun μ => by rw [h]; rfl, .inl ⟨h, rfl⟩⟩
    · exact ⟨5, fun μ => by rw [h]; rfl, .inr (.inl ⟨h, rfl⟩)⟩
    · exact ⟨4, fun μ => by rw [h]; rfl, .inr (.inr ⟨h, rfl⟩)⟩
  obtain ⟨n, μ, e3, f3, x3, h3⟩ := s_drawI (k + 5) 0 (lim : Nat) (n := 2799) (μ := μ2) f2 (by omega) (by
    have : (6 : Nat) < 2 ^ 250 := by decide
    simp only [Int.natAbs_natCast]; omega)
  have hcase : (t.faces.length, n) ∈ casesFN := by
    have hnl : n < lim := by omega
    rcases hlim with ⟨h, rfl⟩ | ⟨h, rfl⟩ | ⟨h, rfl⟩
    · rw [h]
      have : n = 0 ∨ n = 1 ∨ n = 2 ∨ n = 3 ∨ n = 4 ∨ n = 5 := by omega
      rcases this with rfl | rfl | rfl | rfl | rfl | rfl <;> decide
    · rw [h]
      have : n = 0 ∨ n = 1 ∨ n = 2 ∨ n = 3 ∨ n = 4 := by omega
      rcases this with rfl | rfl | rfl | rfl | rfl <;> decide
    · rw [h]
      have : n = 0 ∨ n = 1 ∨ n = 2 ∨ n = 3 := by omega
      rcases this with rfl | rfl | rfl | rfl <;> decide
  have h := case_ok hcase
  have n5 := h.n5
  have e6 := s_lawrows (k + 4) t.faces.length n (by have := h.rl; omega) (by omega) (by omega) (by omega) μ
  have e7 := s_allcounts (k + 5 - t.faces.length) t.faces.length n (by omega) hF4 (by omega) μ
  rw [show k + 5 - t.faces.length + t.faces.length + 1 = k + 6 from by omega] at e7
  unfold cl at e0 e1 e2 e3 e6 e7
  have c8 : ∀ (x6 x8 x9 x10 x11 x12 x13 x14 : Option RV), compR (cT (callD reg (k + 6)) (.var 7) (.nm 7) (.cons (.cmp .eq (.blt .sum (.var 7)) (.var 5)) .nil) [7] (V12 (.lst (ns.map D.int)) t mix n x6 none x8 x9 x10 x11 x12 x13 x14)) ((allc t.faces.length n).map cD) μ = .ok ((cw t.faces.length n).map cD) μ := fun x6 x8 x9 x10 x11 x12 x13 x14 => by
    rw [← h.fil]
    refine compR_some (fun c => c.sum == n) cD fun c _ => ?_
    have e : decide (((c.sum : Nat) : Int) = (n : Int)) = (c.sum == n) := by
      rw [show (c.sum == n) = decide (c.sum = n) from rfl]
      exact decide_eq_decide.mpr (by omega)
    cases hb : c.sum == n <;> (rw [hb] at e; simp only [bnd_rb, rb_ok, rb_exc, sb_ok, seq_nx, seq_rt, seq_ex, fin_nx, fin_rt, fin_ex, E_var, E_cst, E_glo, E_dic0, E_tup, E_lst, E_cel, E_op, E_cmp, E_chn, E_not, E_neg, E_con, E_dis, E_ife, E_idx, E_slc, E_call, E_blt, E_isi, E_rng1, E_rng2, E_comp, V_nil, V_cons, A_nil, A_cons, O_nil, O_cons, vr_fr, vo_fr, vo_own, vv_some, kD_fr, kD_own, kBl_ap, kOwn_ap, eo_var, eo_cst, eo_glo, eo_op, eo_idx, eo_slc, eo_call, eo_blt, eo_tup, eo_lst, eo_neg, eo_nt, eo_cmp, eo_con, eo_dis, eo_isi, eo_ife, eo_comp, kOp_ap, kCmp_ap, kCm2_ap, kCh1_ap, kCh2_ap, kCh3_t, kCh3_f, asR_bl, kNot_bl, kNeg_int, kA_bl, kA2_t, kA2_f, kO_bl, kO2_t, kO2_f, kA2_nil, kO2_nil, kIf_bl, kIf2_t, kIf2_f, kIdx_ap, kSl_ap, kSl2_ap, kSl3_ap, oi_mis, kI_int, oi_var, oi_cst, oi_op, oi_neg, oi_idx, oi_blt, oi_call, kR2_int, kComp_ap, kV_ap, kV2_fr, kV2_own, itemsOf_tup, itemsOf_lst, itemsOf_own, itemsOf_cell, itC_lst, itemsOf_wk, E_zip, E_enum, E_revd, E_newc, eo_newc, kZ1_ap, zipD_tt, zipD_ll, enumD_t, enumD_l, revD_t, revD_l, newC_own, kComp_apH, kFor_apH, S_asg, S_asT, S_par, S_exp, S_retv, S_ite, S_whl, S_for, S_setv, S_setc, S_mut, S_pas, B_nil, B_cons, kPar_ap, kExp_ap, kRet_ap, kIte_bl, kIte2_t, kIte2_f, kFor_ap, kSv_ap, kSv2_int, kSc_ap, kSc2_ap, kSc3_cell, kMut_ap, op_add, op_sub, eq_int, ne_int, eq_str, ne_str, ne_shT_self, eq_shT_self, lt_int, le_int, gt_int, ge_int, getIt_0, len_tup, len_lst, abs_int, int_bl, int_int, list_cel, liC_lst, len_cel, lnC_lst, list_tup, list_lst, tuple_lst, tuple_tup, forR_nil, forR_cons, forS_nx, forS_rt, nxP_nx, kAsg_ok, kPar2_ok, kTup_ok, kLst_ok, kCel_ok, S_ret, ne_eq, reduceCtorEq, not_false_eq_true, implies_true, RV.d, frz_nil, frz_cons, frzO_some, frzO_none, List.getElem?_cons_zero, List.getElem?_cons_succ, List.getElem?_nil, List.set_cons_zero, List.set_cons_succ, List.length_cons, List.length_nil, mask_nil, mask_none, mask_some, wipe_nil, wipe_cons, decide_true, decide_false, Bool.not_true, Bool.not_false, Nat.zero_add, Nat.reduceAdd, Nat.reduceLT, Nat.reduceLeDiff, Nat.lt_add_one, List.nil_append, List.cons_append, Nat.reduceSub, List.map_cons, List.map_nil, List.replicate_succ, rep_zero, start_eq, gX_some, getT, getL, getC, gC_lst, Int.reduceToNat, Int.reduceLE, Int.reduceLT, Int.reduceNeg, setO_ap, sO_some, setC_ap, sC_some, kAsT_ap, asT_some, bindT_nm, bindT_tup, bindTs_cons, bO_some, bindTs_nil, turnF_ap, tFo_some, cT_ap, cTo_some, cT2_t, cT2_f, cT3_fr, cT3_own, and_self, and_true, true_and, Int.zero_add, ixN_ge, Int.natCast_nonneg, Int.toNat_natCast, Int.cast_ofNat_Int, isin_ty, List.any_cons, List.any_nil, isTy, Bool.true_and, Bool.false_and, Bool.and_true, Bool.and_false, Bool.or_false, Bool.false_or, Bool.or_true, Bool.true_or, Int.reduceEq, V12, sum_cD, e]; rfl)
  rw [cl, call_eq r38 rfl, g38]
  simp only [V12] at c8
  have hw16 : t.ways.length ≤ 16777216 := by have := ok.w4; omega
  simp only [bnd_rb, rb_ok, rb_exc, sb_ok, seq_nx, seq_rt, seq_ex, fin_nx, fin_rt, fin_ex, E_var, E_cst, E_glo, E_dic0, E_tup, E_lst, E_cel, E_op, E_cmp, E_chn, E_not, E_neg, E_con, E_dis, E_ife, E_idx, E_slc, E_call, E_blt, E_isi, E_rng1, E_rng2, E_comp, V_nil, V_cons, A_nil, A_cons, O_nil, O_cons, vr_fr, vo_fr, vo_own, vv_some, kD_fr, kD_own, kBl_ap, kOwn_ap, eo_var, eo_cst, eo_glo, eo_op, eo_idx, eo_slc, eo_call, eo_blt, eo_tup, eo_lst, eo_neg, eo_nt, eo_cmp, eo_con, eo_dis, eo_isi, eo_ife, eo_comp, kOp_ap, kCmp_ap, kCm2_ap, kCh1_ap, kCh2_ap, kCh3_t, kCh3_f, asR_bl, kNot_bl, kNeg_int, kA_bl, kA2_t, kA2_f, kO_bl, kO2_t, kO2_f, kA2_nil, kO2_nil, kIf_bl, kIf2_t, kIf2_f, kIdx_ap, kSl_ap, kSl2_ap, kSl3_ap, oi_mis, kI_int, oi_var, oi_cst, oi_op, oi_neg, oi_idx, oi_blt, oi_call, kR2_int, kComp_ap, kV_ap, kV2_fr, kV2_own, itemsOf_tup, itemsOf_lst, itemsOf_own, itemsOf_cell, itC_lst, itemsOf_wk, E_zip, E_enum, E_revd, E_newc, eo_newc, kZ1_ap, zipD_tt, zipD_ll, enumD_t, enumD_l, revD_t, revD_l, newC_own, kComp_apH, kFor_apH, S_asg, S_asT, S_par, S_exp, S_retv, S_ite, S_whl, S_for, S_setv, S_setc, S_mut, S_pas, B_nil, B_cons, kPar_ap, kExp_ap, kRet_ap, kIte_bl, kIte2_t, kIte2_f, kFor_ap, kSv_ap, kSv2_int, kSc_ap, kSc2_ap, kSc3_cell, kMut_ap, op_add, op_sub, eq_int, ne_int, eq_str, ne_str, ne_shT_self, eq_shT_self, lt_int, le_int, gt_int, ge_int, getIt_0, len_tup, len_lst, abs_int, int_bl, int_int, list_cel, liC_lst, len_cel, lnC_lst, list_tup, list_lst, tuple_lst, tuple_tup, forR_nil, forR_cons, forS_nx, forS_rt, nxP_nx, kAsg_ok, kPar2_ok, kTup_ok, kLst_ok, kCel_ok, S_ret, ne_eq, reduceCtorEq, not_false_eq_true, implies_true, RV.d, frz_nil, frz_cons, frzO_some, frzO_none, List.getElem?_cons_zero, List.getElem?_cons_succ, List.getElem?_nil, List.set_cons_zero, List.set_cons_succ, List.length_cons, List.length_nil, mask_nil, mask_none, mask_some, wipe_nil, wipe_cons, decide_true, decide_false, Bool.not_true, Bool.not_false, Nat.zero_add, Nat.reduceAdd, Nat.reduceLT, Nat.reduceLeDiff, Nat.lt_add_one, List.nil_append, List.cons_append, Nat.reduceSub, List.map_cons, List.map_nil, List.replicate_succ, rep_zero, start_eq, gX_some, getT, getL, getC, gC_lst, Int.reduceToNat, Int.reduceLE, Int.reduceLT, Int.reduceNeg, setO_ap, sO_some, setC_ap, sC_some, kAsT_ap, asT_some, bindT_nm, bindT_tup, bindTs_cons, bO_some, bindTs_nil, turnF_ap, tFo_some, cT_ap, cTo_some, cT2_t, cT2_f, cT3_fr, cT3_own, and_self, and_true, true_and, Int.zero_add, ixN_ge, Int.natCast_nonneg, Int.toNat_natCast, Int.cast_ofNat_Int, isin_ty, List.any_cons, List.any_nil, isTy, Bool.true_and, Bool.false_and, Bool.and_true, Bool.and_false, Bool.or_false, Bool.false_or, Bool.or_true, Bool.true_or, Int.reduceEq, e0, List.length_nil, e1, Tri.D, List.length_map, e2, elim, e3, e6, e7, c8, range1 _ hw16]
  have hne1 : ∀ μ, cmp2 .ne (rD 1) (rD 1) μ = .ok false μ := fun μ => by rw [ne_rD]; rfl
  refine forR_use (P := fun r => ∃ μ', fin (seq r _) = .ok _ μ') (fun i ρ μ' => μ' = μ ∧ ∃ r6 r8 : RV, (r6 = .own ((rowsL t.faces.length n).map cD) ∨ r6 = .fr (.lst ((rowsL t.faces.length n).map cD))) ∧ (r8 = .own ((cw t.faces.length n).map cD) ∨ r8 = .fr (.lst ((cw t.faces.length n).map cD))) ∧ ρ = V12 (.lst (ns.map D.int)) t mix n (some r6) none (some r8) none none none none none none) ⟨rfl, .own _, .own _, .inl rfl, .inl rfl, rfl⟩ ?_ ?_
  · rintro w x ρ μ' hx ⟨e1, r6, r8, h6, h8, rfl⟩
    rw [e1]
    obtain ⟨hw, rfl⟩ := ints_at hx
    have cA := fun x8 : Option RV => k12_A (k + 2) (S := .lst (ns.map D.int)) (mix := mix) ok h hw (some (.fr (.lst ((rowsL t.faces.length n).map cD)))) none x8 none none none none μ
    have tA := k12_Atot (k + 2) ok h hw μ
    have cB := k12_B (k + 2) (S := .lst (ns.map D.int)) (mix := mix) ok h hw (some (.fr (.lst ((rowsL t.faces.length n).map cD)))) (some (.fr (.lst ((cw t.faces.length n).map cD)))) none none none none none μ
    have tB := k12_Btot (k + 2) ok h hw μ
    simp only [V12] at cA cB
    rcases h6 with rfl | rfl <;> rcases h8 with rfl | rfl <;> (simp only [bnd_rb, rb_ok, rb_exc, sb_ok, seq_nx, seq_rt, seq_ex, fin_nx, fin_rt, fin_ex, E_var, E_cst, E_glo, E_dic0, E_tup, E_lst, E_cel, E_op, E_cmp, E_chn, E_not, E_neg, E_con, E_dis, E_ife, E_idx, E_slc, E_call, E_blt, E_isi, E_rng1, E_rng2, E_comp, V_nil, V_cons, A_nil, A_cons, O_nil, O_cons, vr_fr, vo_fr, vo_own, vv_some, kD_fr, kD_own, kBl_ap, kOwn_ap, eo_var, eo_cst, eo_glo, eo_op, eo_idx, eo_slc, eo_call, eo_blt, eo_tup, eo_lst, eo_neg, eo_nt, eo_cmp, eo_con, eo_dis, eo_isi, eo_ife, eo_comp, kOp_ap, kCmp_ap, kCm2_ap, kCh1_ap, kCh2_ap, kCh3_t, kCh3_f, asR_bl, kNot_bl, kNeg_int, kA_bl, kA2_t, kA2_f, kO_bl, kO2_t, kO2_f, kA2_nil, kO2_nil, kIf_bl, kIf2_t, kIf2_f, kIdx_ap, kSl_ap, kSl2_ap, kSl3_ap, oi_mis, kI_int, oi_var, oi_cst, oi_op, oi_neg, oi_idx, oi_blt, oi_call, kR2_int, kComp_ap, kV_ap, kV2_fr, kV2_own, itemsOf_tup, itemsOf_lst, itemsOf_own, itemsOf_cell, itC_lst, itemsOf_wk, E_zip, E_enum, E_revd, E_newc, eo_newc, kZ1_ap, zipD_tt, zipD_ll, enumD_t, enumD_l, revD_t, revD_l, newC_own, kComp_apH, kFor_apH, S_asg, S_asT, S_par, S_exp, S_retv, S_ite, S_whl, S_for, S_setv, S_setc, S_mut, S_pas, B_nil, B_cons, kPar_ap, kExp_ap, kRet_ap, kIte_bl, kIte2_t, kIte2_f, kFor_ap, kSv_ap, kSv2_int, kSc_ap, kSc2_ap, kSc3_cell, kMut_ap, op_add, op_sub, eq_int, ne_int, eq_str, ne_str, ne_shT_self, eq_shT_self, lt_int, le_int, gt_int, ge_int, getIt_0, len_tup, len_lst, abs_int, int_bl, int_int, list_cel, liC_lst, len_cel, lnC_lst, list_tup, list_lst, tuple_lst, tuple_tup, forR_nil, forR_cons, forS_nx, forS_rt, nxP_nx, kAsg_ok, kPar2_ok, kTup_ok, kLst_ok, kCel_ok, S_ret, ne_eq, reduceCtorEq, not_false_eq_true, implies_true, RV.d, frz_nil, frz_cons, frzO_some, frzO_none, List.getElem?_cons_zero, List.getElem?_cons_succ, List.getElem?_nil, List.set_cons_zero, List.set_cons_succ, List.length_cons, List.length_nil, mask_nil, mask_none, mask_some, wipe_nil, wipe_cons, decide_true, decide_false, Bool.not_true, Bool.not_false, Nat.zero_add, Nat.reduceAdd, Nat.reduceLT, Nat.reduceLeDiff, Nat.lt_add_one, List.nil_append, List.cons_append, Nat.reduceSub, List.map_cons, List.map_nil, List.replicate_succ, rep_zero, start_eq, gX_some, getT, getL, getC, gC_lst, Int.reduceToNat, Int.reduceLE, Int.reduceLT, Int.reduceNeg, setO_ap, sO_some, setC_ap, sC_some, kAsT_ap, asT_some, bindT_nm, bindT_tup, bindTs_cons, bO_some, bindTs_nil, turnF_ap, tFo_some, cT_ap, cTo_some, cT2_t, cT2_f, cT3_fr, cT3_own, and_self, and_true, true_and, Int.zero_add, ixN_ge, Int.natCast_nonneg, Int.toNat_natCast, Int.cast_ofNat_Int, isin_ty, List.any_cons, List.any_nil, isTy, Bool.true_and, Bool.false_and, Bool.and_true, Bool.and_false, Bool.or_false, Bool.false_or, Bool.or_true, Bool.true_or, Int.reduceEq, V12, cA, tA, rD1, hne1, cB, tB]; exact ⟨.fr _, .fr _, .inr rfl, .inr rfl, rfl⟩)
  · rintro ρ μ' ⟨e1, r6, r8, h6, h8, rfl⟩
    rw [e1]
    rcases h8 with rfl | rfl <;> simp only [bnd_rb, rb_ok, rb_exc, sb_ok, seq_nx, seq_rt, seq_ex, fin_nx, fin_rt, fin_ex, E_var, E_cst, E_glo, E_dic0, E_tup, E_lst, E_cel, E_op, E_cmp, E_chn, E_not, E_neg, E_con, E_dis, E_ife, E_idx, E_slc, E_call, E_blt, E_isi, E_rng1, E_rng2, E_comp, V_nil, V_cons, A_nil, A_cons, O_nil, O_cons, vr_fr, vo_fr, vo_own, vv_some, kD_fr, kD_own, kBl_ap, kOwn_ap, eo_var, eo_cst, eo_glo, eo_op, eo_idx, eo_slc, eo_call, eo_blt, eo_tup, eo_lst, eo_neg, eo_nt, eo_cmp, eo_con, eo_dis, eo_isi, eo_ife, eo_comp, kOp_ap, kCmp_ap, kCm2_ap, kCh1_ap, kCh2_ap, kCh3_t, kCh3_f, asR_bl, kNot_bl, kNeg_int, kA_bl, kA2_t, kA2_f, kO_bl, kO2_t, kO2_f, kA2_nil, kO2_nil, kIf_bl, kIf2_t, kIf2_f, kIdx_ap, kSl_ap, kSl2_ap, kSl3_ap, oi_mis, kI_int, oi_var, oi_cst, oi_op, oi_neg, oi_idx, oi_blt, oi_call, kR2_int, kComp_ap, kV_ap, kV2_fr, kV2_own, itemsOf_tup, itemsOf_lst, itemsOf_own, itemsOf_cell, itC_lst, itemsOf_wk, E_zip, E_enum, E_revd, E_newc, eo_newc, kZ1_ap, zipD_tt, zipD_ll, enumD_t, enumD_l, revD_t, revD_l, newC_own, kComp_apH, kFor_apH, S_asg, S_asT, S_par, S_exp, S_retv, S_ite, S_whl, S_for, S_setv, S_setc, S_mut, S_pas, B_nil, B_cons, kPar_ap, kExp_ap, kRet_ap, kIte_bl, kIte2_t, kIte2_f, kFor_ap, kSv_ap, kSv2_int, kSc_ap, kSc2_ap, kSc3_cell, kMut_ap, op_add, op_sub, eq_int, ne_int, eq_str, ne_str, ne_shT_self, eq_shT_self, lt_int, le_int, gt_int, ge_int, getIt_0, len_tup, len_lst, abs_int, int_bl, int_int, list_cel, liC_lst, len_cel, lnC_lst, list_tup, list_lst, tuple_lst, tuple_tup, forR_nil, forR_cons, forS_nx, forS_rt, nxP_nx, kAsg_ok, kPar2_ok, kTup_ok, kLst_ok, kCel_ok, S_ret, ne_eq, reduceCtorEq, not_false_eq_true, implies_true, RV.d, frz_nil, frz_cons, frzO_some, frzO_none, List.getElem?_cons_zero, List.getElem?_cons_succ, List.getElem?_nil, List.set_cons_zero, List.set_cons_succ, List.length_cons, List.length_nil, mask_nil, mask_none, mask_some, wipe_nil, wipe_cons, decide_true, decide_false, Bool.not_true, Bool.not_false, Nat.zero_add, Nat.reduceAdd, Nat.reduceLT, Nat.reduceLeDiff, Nat.lt_add_one, List.nil_append, List.cons_append, Nat.reduceSub, List.map_cons, List.map_nil, List.replicate_succ, rep_zero, start_eq, gX_some, getT, getL, getC, gC_lst, Int.reduceToNat, Int.reduceLE, Int.reduceLT, Int.reduceNeg, setO_ap, sO_some, setC_ap, sC_some, kAsT_ap, asT_some, bindT_nm, bindT_tup, bindTs_cons, bO_some, bindTs_nil, turnF_ap, tFo_some, cT_ap, cTo_some, cT2_t, cT2_f, cT3_fr, cT3_own, and_self, and_true, true_and, Int.zero_add, ixN_ge, Int.natCast_nonneg, Int.toNat_natCast, Int.cast_ofNat_Int, isin_ty, List.any_cons, List.any_nil, isTy, Bool.true_and, Bool.false_and, Bool.and_true, Bool.and_false, Bool.or_false, Bool.false_or, Bool.or_true, Bool.true_or, Int.reduceEq, V12]
    all_goals
     refine forR_use (P := fun r => ∃ μ', fin (seq r _) = .ok _ μ') (fun i ρ μ' => μ' = μ ∧ ∃ r6 : RV, (r6 = .own ((rowsL t.faces.length n).map cD) ∨ r6 = .fr (.lst ((rowsL t.faces.length n).map cD))) ∧ ρ = V12 (.lst (ns.map D.int)) t mix n (some r6) none (some (.fr (.lst ((cw t.faces.length n).map cD)))) none none none none none none) ⟨rfl, r6, h6, rfl⟩ ?_ ?_
     · rintro i x ρ μ' hx ⟨e1, r6, h6, rfl⟩
       rw [e1]
       rw [List.getElem?_map] at hx
       obtain ⟨c, hc, rfl⟩ := Option.map_eq_some_iff.mp hx
       have hcm := List.mem_of_getElem? hc
       have ce := cw_each _ _ c hcm
       have cC := k12_C (k + 2) (S := .lst (ns.map D.int)) (mix := mix) (n := n) ok (c := c) (some (.fr (.lst ((rowsL t.faces.length n).map cD)))) (some (.fr (.lst ((cw t.faces.length n).map cD)))) none none none none none μ
       have e33 := s_rowsto (k + 5) (μ := μ) (cs := c) (by omega)
       unfold cl at e33
       have hcnt := h.cnt c hcm
       have hne33 : ∀ μ, cmp2 .ne (.int (rto c : Nat)) (.int (rto c : Nat)) μ = .ok false μ := fun μ => by rw [ne_int]; simp
       simp only [V12] at cC
       rcases h6 with rfl | rfl <;> (simp only [bnd_rb, rb_ok, rb_exc, sb_ok, seq_nx, seq_rt, seq_ex, fin_nx, fin_rt, fin_ex, E_var, E_cst, E_glo, E_dic0, E_tup, E_lst, E_cel, E_op, E_cmp, E_chn, E_not, E_neg, E_con, E_dis, E_ife, E_idx, E_slc, E_call, E_blt, E_isi, E_rng1, E_rng2, E_comp, V_nil, V_cons, A_nil, A_cons, O_nil, O_cons, vr_fr, vo_fr, vo_own, vv_some, kD_fr, kD_own, kBl_ap, kOwn_ap, eo_var, eo_cst, eo_glo, eo_op, eo_idx, eo_slc, eo_call, eo_blt, eo_tup, eo_lst, eo_neg, eo_nt, eo_cmp, eo_con, eo_dis, eo_isi, eo_ife, eo_comp, kOp_ap, kCmp_ap, kCm2_ap, kCh1_ap, kCh2_ap, kCh3_t, kCh3_f, asR_bl, kNot_bl, kNeg_int, kA_bl, kA2_t, kA2_f, kO_bl, kO2_t, kO2_f, kA2_nil, kO2_nil, kIf_bl, kIf2_t, kIf2_f, kIdx_ap, kSl_ap, kSl2_ap, kSl3_ap, oi_mis, kI_int, oi_var, oi_cst, oi_op, oi_neg, oi_idx, oi_blt, oi_call, kR2_int, kComp_ap, kV_ap, kV2_fr, kV2_own, itemsOf_tup, itemsOf_lst, itemsOf_own, itemsOf_cell, itC_lst, itemsOf_wk, E_zip, E_enum, E_revd, E_newc, eo_newc, kZ1_ap, zipD_tt, zipD_ll, enumD_t, enumD_l, revD_t, revD_l, newC_own, kComp_apH, kFor_apH, S_asg, S_asT, S_par, S_exp, S_retv, S_ite, S_whl, S_for, S_setv, S_setc, S_mut, S_pas, B_nil, B_cons, kPar_ap, kExp_ap, kRet_ap, kIte_bl, kIte2_t, kIte2_f, kFor_ap, kSv_ap, kSv2_int, kSc_ap, kSc2_ap, kSc3_cell, kMut_ap, op_add, op_sub, eq_int, ne_int, eq_str, ne_str, ne_shT_self, eq_shT_self, lt_int, le_int, gt_int, ge_int, getIt_0, len_tup, len_lst, abs_int, int_bl, int_int, list_cel, liC_lst, len_cel, lnC_lst, list_tup, list_lst, tuple_lst, tuple_tup, forR_nil, forR_cons, forS_nx, forS_rt, nxP_nx, kAsg_ok, kPar2_ok, kTup_ok, kLst_ok, kCel_ok, S_ret, ne_eq, reduceCtorEq, not_false_eq_true, implies_true, RV.d, frz_nil, frz_cons, frzO_some, frzO_none, List.getElem?_cons_zero, List.getElem?_cons_succ, List.getElem?_nil, List.set_cons_zero, List.set_cons_succ, List.length_cons, List.length_nil, mask_nil, mask_none, mask_some, wipe_nil, wipe_cons, decide_true, decide_false, Bool.not_true, Bool.not_false, Nat.zero_add, Nat.reduceAdd, Nat.reduceLT, Nat.reduceLeDiff, Nat.lt_add_one, List.nil_append, List.cons_append, Nat.reduceSub, List.map_cons, List.map_nil, List.replicate_succ, rep_zero, start_eq, gX_some, getT, getL, getC, gC_lst, Int.reduceToNat, Int.reduceLE, Int.reduceLT, Int.reduceNeg, setO_ap, sO_some, setC_ap, sC_some, kAsT_ap, asT_some, bindT_nm, bindT_tup, bindTs_cons, bO_some, bindTs_nil, turnF_ap, tFo_some, cT_ap, cTo_some, cT2_t, cT2_f, cT3_fr, cT3_own, and_self, and_true, true_and, Int.zero_add, ixN_ge, Int.natCast_nonneg, Int.toNat_natCast, Int.cast_ofNat_Int, isin_ty, List.any_cons, List.any_nil, isTy, Bool.true_and, Bool.false_and, Bool.and_true, Bool.and_false, Bool.or_false, Bool.false_or, Bool.or_true, Bool.true_or, Int.reduceEq, V12, cC, e33, List.length_map, hcnt, hne33]; exact ⟨.fr _, .inr rfl, rfl⟩)
     · rintro ρ μ' ⟨e1, r6, h6, rfl⟩
       rw [e1]
       have c12 : compR (cT (callD reg (k + 6)) (.tup (.cons (.cst (.int 0)) (.cons (.cst (.int 1)) .nil))) (.nm 9) .nil [9] (V12 (.lst (ns.map D.int)) t mix n (some r6) none (some (.fr (.lst ((cw t.faces.length n).map cD)))) none none none none none none)) (t.ways.map wD) μ = .ok ((List.range t.ways.length).map fun w => rD (fnd t mix [] w)) μ := by
         have e : ((List.range t.ways.length).map fun w => rD (fnd t mix [] w)) = t.ways.map fun _ => rD 0 := by
           apply List.ext_getElem (by simp)
           intro i h1 h2
           simp [fnd, rsum_nil]
         rw [e]
         refine compR_all _ fun x _ => ?_
         simp only [bnd_rb, rb_ok, rb_exc, sb_ok, seq_nx, seq_rt, seq_ex, fin_nx, fin_rt, fin_ex, E_var, E_cst, E_glo, E_dic0, E_tup, E_lst, E_cel, E_op, E_cmp, E_chn, E_not, E_neg, E_con, E_dis, E_ife, E_idx, E_slc, E_call, E_blt, E_isi, E_rng1, E_rng2, E_comp, V_nil, V_cons, A_nil, A_cons, O_nil, O_cons, vr_fr, vo_fr, vo_own, vv_some, kD_fr, kD_own, kBl_ap, kOwn_ap, eo_var, eo_cst, eo_glo, eo_op, eo_idx, eo_slc, eo_call, eo_blt, eo_tup, eo_lst, eo_neg, eo_nt, eo_cmp, eo_con, eo_dis, eo_isi, eo_ife, eo_comp, kOp_ap, kCmp_ap, kCm2_ap, kCh1_ap, kCh2_ap, kCh3_t, kCh3_f, asR_bl, kNot_bl, kNeg_int, kA_bl, kA2_t, kA2_f, kO_bl, kO2_t, kO2_f, kA2_nil, kO2_nil, kIf_bl, kIf2_t, kIf2_f, kIdx_ap, kSl_ap, kSl2_ap, kSl3_ap, oi_mis, kI_int, oi_var, oi_cst, oi_op, oi_neg, oi_idx, oi_blt, oi_call, kR2_int, kComp_ap, kV_ap, kV2_fr, kV2_own, itemsOf_tup, itemsOf_lst, itemsOf_own, itemsOf_cell, itC_lst, itemsOf_wk, E_zip, E_enum, E_revd, E_newc, eo_newc, kZ1_ap, zipD_tt, zipD_ll, enumD_t, enumD_l, revD_t, revD_l, newC_own, kComp_apH, kFor_apH, S_asg, S_asT, S_par, S_exp, S_retv, S_ite, S_whl, S_for, S_setv, S_setc, S_mut, S_pas, B_nil, B_cons, kPar_ap, kExp_ap, kRet_ap, kIte_bl, kIte2_t, kIte2_f, kFor_ap, kSv_ap, kSv2_int, kSc_ap, kSc2_ap, kSc3_cell, kMut_ap, op_add, op_sub, eq_int, ne_int, eq_str, ne_str, ne_shT_self, eq_shT_self, lt_int, le_int, gt_int, ge_int, getIt_0, len_tup, len_lst, abs_int, int_bl, int_int, list_cel, liC_lst, len_cel, lnC_lst, list_tup, list_lst, tuple_lst, tuple_tup, forR_nil, forR_cons, forS_nx, forS_rt, nxP_nx, kAsg_ok, kPar2_ok, kTup_ok, kLst_ok, kCel_ok, S_ret, ne_eq, reduceCtorEq, not_false_eq_true, implies_true, RV.d, frz_nil, frz_cons, frzO_some, frzO_none, List.getElem?_cons_zero, List.getElem?_cons_succ, List.getElem?_nil, List.set_cons_zero, List.set_cons_succ, List.length_cons, List.length_nil, mask_nil, mask_none, mask_some, wipe_nil, wipe_cons, decide_true, decide_false, Bool.not_true, Bool.not_false, Nat.zero_add, Nat.reduceAdd, Nat.reduceLT, Nat.reduceLeDiff, Nat.lt_add_one, List.nil_append, List.cons_append, Nat.reduceSub, List.map_cons, List.map_nil, List.replicate_succ, rep_zero, start_eq, gX_some, getT, getL, getC, gC_lst, Int.reduceToNat, Int.reduceLE, Int.reduceLT, Int.reduceNeg, setO_ap, sO_some, setC_ap, sC_some, kAsT_ap, asT_some, bindT_nm, bindT_tup, bindTs_cons, bO_some, bindTs_nil, turnF_ap, tFo_some, cT_ap, cTo_some, cT2_t, cT2_f, cT3_fr, cT3_own, and_self, and_true, true_and, Int.zero_add, ixN_ge, Int.natCast_nonneg, Int.toNat_natCast, Int.cast_ofNat_Int, isin_ty, List.any_cons, List.any_nil, isTy, Bool.true_and, Bool.false_and, Bool.and_true, Bool.and_false, Bool.or_false, Bool.false_or, Bool.or_true, Bool.true_or, Int.reduceEq, V12]
         rfl
       simp only [V12] at c12
       simp only [bnd_rb, rb_ok, rb_exc, sb_ok, seq_nx, seq_rt, seq_ex, fin_nx, fin_rt, fin_ex, E_var, E_cst, E_glo, E_dic0, E_tup, E_lst, E_cel, E_op, E_cmp, E_chn, E_not, E_neg, E_con, E_dis, E_ife, E_idx, E_slc, E_call, E_blt, E_isi, E_rng1, E_rng2, E_comp, V_nil, V_cons, A_nil, A_cons, O_nil, O_cons, vr_fr, vo_fr, vo_own, vv_some, kD_fr, kD_own, kBl_ap, kOwn_ap, eo_var, eo_cst, eo_glo, eo_op, eo_idx, eo_slc, eo_call, eo_blt, eo_tup, eo_lst, eo_neg, eo_nt, eo_cmp, eo_con, eo_dis, eo_isi, eo_ife, eo_comp, kOp_ap, kCmp_ap, kCm2_ap, kCh1_ap, kCh2_ap, kCh3_t, kCh3_f, asR_bl, kNot_bl, kNeg_int, kA_bl, kA2_t, kA2_f, kO_bl, kO2_t, kO2_f, kA2_nil, kO2_nil, kIf_bl, kIf2_t, kIf2_f, kIdx_ap, kSl_ap, kSl2_ap, kSl3_ap, oi_mis, kI_int, oi_var, oi_cst, oi_op, oi_neg, oi_idx, oi_blt, oi_call, kR2_int, kComp_ap, kV_ap, kV2_fr, kV2_own, itemsOf_tup, itemsOf_lst, itemsOf_own, itemsOf_cell, itC_lst, itemsOf_wk, E_zip, E_enum, E_revd, E_newc, eo_newc, kZ1_ap, zipD_tt, zipD_ll, enumD_t, enumD_l, revD_t, revD_l, newC_own, kComp_apH, kFor_apH, S_asg, S_asT, S_par, S_exp, S_retv, S_ite, S_whl, S_for, S_setv, S_setc, S_mut, S_pas, B_nil, B_cons, kPar_ap, kExp_ap, kRet_ap, kIte_bl, kIte2_t, kIte2_f, kFor_ap, kSv_ap, kSv2_int, kSc_ap, kSc2_ap, kSc3_cell, kMut_ap, op_add, op_sub, eq_int, ne_int, eq_str, ne_str, ne_shT_self, eq_shT_self, lt_int, le_int, gt_int, ge_int, getIt_0, len_tup, len_lst, abs_int, int_bl, int_int, list_cel, liC_lst, len_cel, lnC_lst, list_tup, list_lst, tuple_lst, tuple_tup, forR_nil, forR_cons, forS_nx, forS_rt, nxP_nx, kAsg_ok, kPar2_ok, kTup_ok, kLst_ok, kCel_ok, S_ret, ne_eq, reduceCtorEq, not_false_eq_true, implies_true, RV.d, frz_nil, frz_cons, frzO_some, frzO_none, List.getElem?_cons_zero, List.getElem?_cons_succ, List.getElem?_nil, List.set_cons_zero, List.set_cons_succ, List.length_cons, List.length_nil, mask_nil, mask_none, mask_some, wipe_nil, wipe_cons, decide_true, decide_false, Bool.not_true, Bool.not_false, Nat.zero_add, Nat.reduceAdd, Nat.reduceLT, Nat.reduceLeDiff, Nat.lt_add_one, List.nil_append, List.cons_append, Nat.reduceSub, List.map_cons, List.map_nil, List.replicate_succ, rep_zero, start_eq, gX_some, getT, getL, getC, gC_lst, Int.reduceToNat, Int.reduceLE, Int.reduceLT, Int.reduceNeg, setO_ap, sO_some, setC_ap, sC_some, kAsT_ap, asT_some, bindT_nm, bindT_tup, bindTs_cons, bO_some, bindTs_nil, turnF_ap, tFo_some, cT_ap, cTo_some, cT2_t, cT2_f, cT3_fr, cT3_own, and_self, and_true, true_and, Int.zero_add, ixN_ge, Int.natCast_nonneg, Int.toNat_natCast, Int.cast_ofNat_Int, isin_ty, List.any_cons, List.any_nil, isTy, Bool.true_and, Bool.false_and, Bool.and_true, Bool.and_false, Bool.or_false, Bool.false_or, Bool.or_true, Bool.true_or, Int.reduceEq, V12, c12]
       refine forR_use (P := fun r => ∃ μ', fin (seq r _) = .ok _ μ') (fun i ρ μ' => μ' = μ ∧ ρ = V12 (.lst (ns.map D.int)) t mix n (some r6) none (some (.fr (.lst ((cw t.faces.length n).map cD)))) none none none (some (.own ((List.range t.ways.length).map fun w => rD (fnd t mix ((cw t.faces.length n).take i) w)))) none none) ⟨rfl, rfl⟩ ?_ ?_
       · rintro i x ρ μ' hx ⟨e1, rfl⟩
         rw [e1]
         rw [List.getElem?_map] at hx
         obtain ⟨c, hc, rfl⟩ := Option.map_eq_some_iff.mp hx
         have hcm := List.mem_of_getElem? hc
         have ce := cw_each _ _ c hcm
         have hil := (List.getElem?_eq_some_iff.mp hc).1
         have hlen := h.len
         have e25 := s_behind (k + 1) (μ := μ) ok hm hl (cs := c) (by omega)
         have cS := k12_sum (k + 2) (S := .lst (ns.map D.int)) ok hm hl (n := n) (c := c) (by omega) (some r6) (some (.fr (.lst ((cw t.faces.length n).map cD)))) none none (some (.own ((List.range t.ways.length).map fun w => rD (fnd t mix ((cw t.faces.length n).take i) w)))) (some (.fr (t.bhd mix c))) none μ
         have szs := shr_sz ok hm hl (cs := c) (M := 5) (by omega)
         have tS := s_total (k + 2) (μ := μ) (d := .lst ((t.shr mix c).map rD)) (qs := t.shr mix c) (h := []) (C := 1000) rfl (Held_nil μ) szs (fun i => (rsum_sz4 (qs := (t.shr mix c).take i) (fun q hq => szs q (List.mem_of_mem_take hq)) (by
           have := ok.w4
           rw [List.length_take, shr_len]
           omega)).mono (by decide)) (by decide)
         have kt := k12_turn (k + 1) (S := .lst (ns.map D.int)) ok hm hnn hl h ((cw t.faces.length n).take i) c (fun x hx => by
           rcases List.mem_append.mp hx with z | z
           · exact List.mem_of_mem_take z
           · rw [List.mem_singleton.mp z]; exact hcm) (by rw [List.length_take]; omega) r6 (.fr (.lst ((cw t.faces.length n).map cD))) μ hcm
         unfold cl at e25 tS
         have hcD : cD c = .tup (intL c) := rfl
         simp only [Tri.D] at e25
         rw [← hcD] at e25
         simp only [V12] at cS kt
         simp only [bnd_rb, rb_ok, rb_exc, sb_ok, seq_nx, seq_rt, seq_ex, fin_nx, fin_rt, fin_ex, E_var, E_cst, E_glo, E_dic0, E_tup, E_lst, E_cel, E_op, E_cmp, E_chn, E_not, E_neg, E_con, E_dis, E_ife, E_idx, E_slc, E_call, E_blt, E_isi, E_rng1, E_rng2, E_comp, V_nil, V_cons, A_nil, A_cons, O_nil, O_cons, vr_fr, vo_fr, vo_own, vv_some, kD_fr, kD_own, kBl_ap, kOwn_ap, eo_var, eo_cst, eo_glo, eo_op, eo_idx, eo_slc, eo_call, eo_blt, eo_tup, eo_lst, eo_neg, eo_nt, eo_cmp, eo_con, eo_dis, eo_isi, eo_ife, eo_comp, kOp_ap, kCmp_ap, kCm2_ap, kCh1_ap, kCh2_ap, kCh3_t, kCh3_f, asR_bl, kNot_bl, kNeg_int, kA_bl, kA2_t, kA2_f, kO_bl, kO2_t, kO2_f, kA2_nil, kO2_nil, kIf_bl, kIf2_t, kIf2_f, kIdx_ap, kSl_ap, kSl2_ap, kSl3_ap, oi_mis, kI_int, oi_var, oi_cst, oi_op, oi_neg, oi_idx, oi_blt, oi_call, kR2_int, kComp_ap, kV_ap, kV2_fr, kV2_own, itemsOf_tup, itemsOf_lst, itemsOf_own, itemsOf_cell, itC_lst, itemsOf_wk, E_zip, E_enum, E_revd, E_newc, eo_newc, kZ1_ap, zipD_tt, zipD_ll, enumD_t, enumD_l, revD_t, revD_l, newC_own, kComp_apH, kFor_apH, S_asg, S_asT, S_par, S_exp, S_retv, S_ite, S_whl, S_for, S_setv, S_setc, S_mut, S_pas, B_nil, B_cons, kPar_ap, kExp_ap, kRet_ap, kIte_bl, kIte2_t, kIte2_f, kFor_ap, kSv_ap, kSv2_int, kSc_ap, kSc2_ap, kSc3_cell, kMut_ap, op_add, op_sub, eq_int, ne_int, eq_str, ne_str, ne_shT_self, eq_shT_self, lt_int, le_int, gt_int, ge_int, getIt_0, len_tup, len_lst, abs_int, int_bl, int_int, list_cel, liC_lst, len_cel, lnC_lst, list_tup, list_lst, tuple_lst, tuple_tup, forR_nil, forR_cons, forS_nx, forS_rt, nxP_nx, kAsg_ok, kPar2_ok, kTup_ok, kLst_ok, kCel_ok, S_ret, ne_eq, reduceCtorEq, not_false_eq_true, implies_true, RV.d, frz_nil, frz_cons, frzO_some, frzO_none, List.getElem?_cons_zero, List.getElem?_cons_succ, List.getElem?_nil, List.set_cons_zero, List.set_cons_succ, List.length_cons, List.length_nil, mask_nil, mask_none, mask_some, wipe_nil, wipe_cons, decide_true, decide_false, Bool.not_true, Bool.not_false, Nat.zero_add, Nat.reduceAdd, Nat.reduceLT, Nat.reduceLeDiff, Nat.lt_add_one, List.nil_append, List.cons_append, Nat.reduceSub, List.map_cons, List.map_nil, List.replicate_succ, rep_zero, start_eq, gX_some, getT, getL, getC, gC_lst, Int.reduceToNat, Int.reduceLE, Int.reduceLT, Int.reduceNeg, setO_ap, sO_some, setC_ap, sC_some, kAsT_ap, asT_some, bindT_nm, bindT_tup, bindTs_cons, bO_some, bindTs_nil, turnF_ap, tFo_some, cT_ap, cTo_some, cT2_t, cT2_f, cT3_fr, cT3_own, and_self, and_true, true_and, Int.zero_add, ixN_ge, Int.natCast_nonneg, Int.toNat_natCast, Int.cast_ofNat_Int, isin_ty, List.any_cons, List.any_nil, isTy, Bool.true_and, Bool.false_and, Bool.and_true, Bool.and_false, Bool.or_false, Bool.false_or, Bool.or_true, Bool.true_or, Int.reduceEq, V12, e25, List.length_map, hl, range1 _ hw16, cS, tS, kt]
         rw [take_succ_map hc]
       · rintro ρ μ' ⟨e1, rfl⟩
         rw [e1, List.length_map, List.take_length]
         have ef : ((List.range t.ways.length).map fun w => rD (fnd t mix (cw t.faces.length n) w)) = mix.map rD := by
           apply List.ext_getElem (by simp [hl])
           intro i h1 h2
           have hi : i < t.ways.length := by simpa using h1
           rw [List.getElem_map, List.getElem_range, fnd_all ok h hi, List.getElem_map]
           simp [show i < mix.length by omega]
         rw [ef]
         have er := repr_rDs (qs := mix) (fun q hq => (hm q hq).mono (by decide)) (by have := ok.w4; omega) μ
         simp only [bnd_rb, rb_ok, rb_exc, sb_ok, seq_nx, seq_rt, seq_ex, fin_nx, fin_rt, fin_ex, E_var, E_cst, E_glo, E_dic0, E_tup, E_lst, E_cel, E_op, E_cmp, E_chn, E_not, E_neg, E_con, E_dis, E_ife, E_idx, E_slc, E_call, E_blt, E_isi, E_rng1, E_rng2, E_comp, V_nil, V_cons, A_nil, A_cons, O_nil, O_cons, vr_fr, vo_fr, vo_own, vv_some, kD_fr, kD_own, kBl_ap, kOwn_ap, eo_var, eo_cst, eo_glo, eo_op, eo_idx, eo_slc, eo_call, eo_blt, eo_tup, eo_lst, eo_neg, eo_nt, eo_cmp, eo_con, eo_dis, eo_isi, eo_ife, eo_comp, kOp_ap, kCmp_ap, kCm2_ap, kCh1_ap, kCh2_ap, kCh3_t, kCh3_f, asR_bl, kNot_bl, kNeg_int, kA_bl, kA2_t, kA2_f, kO_bl, kO2_t, kO2_f, kA2_nil, kO2_nil, kIf_bl, kIf2_t, kIf2_f, kIdx_ap, kSl_ap, kSl2_ap, kSl3_ap, oi_mis, kI_int, oi_var, oi_cst, oi_op, oi_neg, oi_idx, oi_blt, oi_call, kR2_int, kComp_ap, kV_ap, kV2_fr, kV2_own, itemsOf_tup, itemsOf_lst, itemsOf_own, itemsOf_cell, itC_lst, itemsOf_wk, E_zip, E_enum, E_revd, E_newc, eo_newc, kZ1_ap, zipD_tt, zipD_ll, enumD_t, enumD_l, revD_t, revD_l, newC_own, kComp_apH, kFor_apH, S_asg, S_asT, S_par, S_exp, S_retv, S_ite, S_whl, S_for, S_setv, S_setc, S_mut, S_pas, B_nil, B_cons, kPar_ap, kExp_ap, kRet_ap, kIte_bl, kIte2_t, kIte2_f, kFor_ap, kSv_ap, kSv2_int, kSc_ap, kSc2_ap, kSc3_cell, kMut_ap, op_add, op_sub, eq_int, ne_int, eq_str, ne_str, ne_shT_self, eq_shT_self, lt_int, le_int, gt_int, ge_int, getIt_0, len_tup, len_lst, abs_int, int_bl, int_int, list_cel, liC_lst, len_cel, lnC_lst, list_tup, list_lst, tuple_lst, tuple_tup, forR_nil, forR_cons, forS_nx, forS_rt, nxP_nx, kAsg_ok, kPar2_ok, kTup_ok, kLst_ok, kCel_ok, S_ret, ne_eq, reduceCtorEq, not_false_eq_true, implies_true, RV.d, frz_nil, frz_cons, frzO_some, frzO_none, List.getElem?_cons_zero, List.getElem?_cons_succ, List.getElem?_nil, List.set_cons_zero, List.set_cons_succ, List.length_cons, List.length_nil, mask_nil, mask_none, mask_some, wipe_nil, wipe_cons, decide_true, decide_false, Bool.not_true, Bool.not_false, Nat.zero_add, Nat.reduceAdd, Nat.reduceLT, Nat.reduceLeDiff, Nat.lt_add_one, List.nil_append, List.cons_append, Nat.reduceSub, List.map_cons, List.map_nil, List.replicate_succ, rep_zero, start_eq, gX_some, getT, getL, getC, gC_lst, Int.reduceToNat, Int.reduceLE, Int.reduceLT, Int.reduceNeg, setO_ap, sO_some, setC_ap, sC_some, kAsT_ap, asT_some, bindT_nm, bindT_tup, bindTs_cons, bO_some, bindTs_nil, turnF_ap, tFo_some, cT_ap, cTo_some, cT2_t, cT2_f, cT3_fr, cT3_own, and_self, and_true, true_and, Int.zero_add, ixN_ge, Int.natCast_nonneg, Int.toNat_natCast, Int.cast_ofNat_Int, isin_ty, List.any_cons, List.any_nil, isTy, Bool.true_and, Bool.false_and, Bool.and_true, Bool.and_false, Bool.or_false, Bool.false_or, Bool.or_true, Bool.true_or, Int.reduceEq, V12, er]
         exact ⟨_, rfl⟩
theorem law_k12 (ns : List Int) (hn : ns.length ≤ 63) : ∃ μ', callD reg 40 38 [.lst (ns.map D.int)] [] = .ok (.fr (.bl true)) μ' := k12_law' 33 ns hn
end Sx
set_option maxHeartbeats 0
/-! the text of the law against its core terms -/
namespace Lk12
open PySem PySem.Spec PyProof.Rows L2 Sx
def top (i : Nat) : Stmt := PySem.Challenge.pw_earlystop_k12_whole_rows_come_to_one.main.body.getD i (.Pass ⟨0, 0, 0, 0⟩)
def d0 : Def := ⟨1, "divisor", "divisor", defArgs (top 6), defBody (top 6), defScope (top 6), ["one", "other"], g1⟩
def d1 : Def := ⟨11, "fraction", "fraction", defArgs (top 7), defBody (top 7), defScope (top 7), ["n", "d", "by"], g11⟩
def d2 : Def := ⟨12, "plus", "plus", defArgs (top 8), defBody (top 8), defScope (top 8), ["one", "other"], g12⟩
def d3 : Def := ⟨22, "times", "times", defArgs (top 9), defBody (top 9), defScope (top 9), ["one", "other"], g22⟩
def d4 : Def := ⟨23, "over", "over", defArgs (top 10), defBody (top 10), defScope (top 10), ["one", "other"], g23⟩
def d5 : Def := ⟨14, "total", "total", defArgs (top 11), defBody (top 11), defScope (top 11), ["some", "found", "one"], g14⟩
def d6 : Def := ⟨31, "counts_of", "counts_of", defArgs (top 13), defBody (top 13), defScope (top 13), ["trial", "row", "face", "one"], g31⟩
def d7 : Def := ⟨32, "share_of", "share_of", defArgs (top 14), defBody (top 14), defScope (top 14), ["trial", "way", "row", "found", "face"], g32⟩
def d8 : Def := ⟨24, "weight", "weight", defArgs (top 15), defBody (top 15), defScope (top 15), ["trial", "way", "counts", "found", "share", "many", "k"], g24⟩
def d9 : Def := ⟨33, "rows_to", "rows_to", defArgs (top 16), defBody (top 16), defScope (top 16), ["counts", "found", "many", "count", "k"], g33⟩
def d10 : Def := ⟨34, "counts_with", "counts_with", defArgs (top 17), defBody (top 17), defScope (top 17), ["faces", "many", "found", "first", "rest"], g34⟩
def d11 : Def := ⟨35, "all_counts", "all_counts", defArgs (top 18), defBody (top 18), defScope (top 18), ["faces", "most", "found", "many"], g35⟩
def d12 : Def := ⟨25, "ways_behind", "ways_behind", defArgs (top 19), defBody (top 19), defScope (top 19), ["trial", "mix", "counts", "way", "shares", "whole", "share"], g25⟩
def d13 : Def := ⟨4, "_law_feed", "_law_feed", defArgs (top 21), defBody (top 21), defScope (top 21), ["_law_script"], g4⟩
def d14 : Def := ⟨5, "_law_draw", "_law_draw", defArgs (top 22), defBody (top 22), defScope (top 22), ["_law_feed_here", "_law_many", "_law_found", "_law_cell", "_law_stirred"], g5⟩
def d15 : Def := ⟨16, "_law_low", "_law_low", defArgs (top 23), defBody (top 23), defScope (top 23), ["_law_n", "_law_d", "_law_one", "_law_other"], g16⟩
def d16 : Def := ⟨26, "_law_shares", "_law_shares", defArgs (top 24), defBody (top 24), defScope (top 24), ["_law_feed_here", "_law_many", "_law_most", "_law_k", "_law_parts", "_law_part"], g26⟩
def d17 : Def := ⟨27, "_law_trial", "_law_trial", defArgs (top 25), defBody (top 25), defScope (top 25), ["_law_feed_here", "_law_pool", "_law_turn", "_law_faces", "_law_ways", "_law_name"], g27⟩
def d18 : Def := ⟨37, "_law_rows", "_law_rows", defArgs (top 26), defBody (top 26), defScope (top 26), ["_law_faces", "_law_many", "_law_found", "_law_k"], g37⟩
def d19 : Def := ⟨36, "_law_longer", "_law_longer", defArgs (top 27), defBody (top 27), defScope (top 27), ["_law_rows_here", "_law_faces", "_law_found", "_law_row", "_law_face"], g36⟩
def d20 : Def := ⟨38, "law", "law", defArgs (top 28), defBody (top 28), defScope (top 28), ["_law_script", "_law_feed_here", "_law_trial_here", "_law_mix", "_law_faces", "_law_many", "_law_rows_here", "_law_counts", "_law_some", "_law_way", "_law_row", "_law_parts", "_law_found", "_law_shares_here", "_law_shown"], g38⟩
def ds : List Def := [d0, d1, d2, d3, d4, d5, d6, d7, d8, d9, d10, d11, d12, d13, d14, d15, d16, d17, d18, d19, d20]
def gl : List (Str × D) := [("NOUGHT", (.tup [(.int 0), (.int 1)])), ("ONE", (.tup [(.int 1), (.int 1)]))]
def bl : List Str := ["abs", "tuple", "range", "len", "zip", "list", "sum", "repr"]
def cf : Cfg := cfgOf gl bl ds
theorem oks : ds.all (Def.ok cf) = true := by decide +kernel
theorem hT : ∀ d ∈ ds, reg d.num = some d.fn := List.forall_mem_cons.mpr ⟨r1, List.forall_mem_cons.mpr ⟨r11, List.forall_mem_cons.mpr ⟨r12, List.forall_mem_cons.mpr ⟨r22, List.forall_mem_cons.mpr ⟨r23, List.forall_mem_cons.mpr ⟨r14, List.forall_mem_cons.mpr ⟨r31, List.forall_mem_cons.mpr ⟨r32, List.forall_mem_cons.mpr ⟨r24, List.forall_mem_cons.mpr ⟨r33, List.forall_mem_cons.mpr ⟨r34, List.forall_mem_cons.mpr ⟨r35, List.forall_mem_cons.mpr ⟨r25, List.forall_mem_cons.mpr ⟨r4, List.forall_mem_cons.mpr ⟨r5, List.forall_mem_cons.mpr ⟨r16, List.forall_mem_cons.mpr ⟨r26, List.forall_mem_cons.mpr ⟨r27, List.forall_mem_cons.mpr ⟨r37, List.forall_mem_cons.mpr ⟨r36, List.forall_mem_cons.mpr ⟨r38, (fun _ h => by cases h)⟩⟩⟩⟩⟩⟩⟩⟩⟩⟩⟩⟩⟩⟩⟩⟩⟩⟩⟩⟩⟩
def loose : List Str := (["EarlyError", "NoFraction", "divisor", "fraction", "plus", "times", "over", "total", "counts_of", "share_of", "weight", "rows_to", "counts_with", "all_counts", "ways_behind", "_law_feed", "_law_draw", "_law_low", "_law_shares", "_law_trial", "_law_rows", "_law_longer", "NOUGHT", "ONE"] : List Str)
abbrev R : PySem.W.OpenRow := PySem.W.OpenLaw.row PySem.Challenge.rw_earlystop_k12_whole_rows_come_to_one
abbrev hk : PySem.W.Hook := hookS 4 cf ds
def ob (s : PySem.W.SharedT) : AlS := obsSG 4 cf ds (HandSHeadRun.getT s)
theorem ob_eq (s : PySem.W.SharedT) : ob s = hk.obs s.abs := obsSG_eq (HandSHeadRun.getT_eq s)
theorem run (w : World) : HandSHeadRun.RunEq R (PySem.W.view R.prog [28]) hk ob 4000 loose w := by
  intro os
  kernel_rfl
theorem mean (ns : List Int) (h : ns.length ≤ 63) : ∃ μ', callD reg 40 38 [.lst (ns.map D.int)] [] = .ok (.fr (.bl true)) μ' := Sx.law_k12 ns h
end Lk12
open PySem PySem.W PySem.Calls PyProof.Rows
theorem PySem.Challenge.cw_earlystop_k12_whole_rows_come_to_one_holds : PySem.Challenge.rw_earlystop_k12_whole_rows_come_to_one.Holds := by
  w_on; o_law
  refine HandSHeadRun.head_any (r := OpenLaw.row PySem.Challenge.rw_earlystop_k12_whole_rows_come_to_one) (q := view (OpenLaw.row PySem.Challenge.rw_earlystop_k12_whole_rows_come_to_one).prog [28]) (H := Lk12.hk) (ob := Lk12.ob) (M := 4000) (loose := Lk12.loose) (d := HandSHeadRun.topDef (OpenLaw.row PySem.Challenge.rw_earlystop_k12_whole_rows_come_to_one).prog 28) (kwd := []) Lk12.ob_eq
    (by kernel_rfl) (fun s => by kernel_rfl) Lk12.run (by kernel_rfl) (by kernel_rfl) (by kernel_rfl) (by rfl) (by first | assumption | decide +kernel) (by decide +kernel) ⟨rfl, rfl, rfl, rfl, rfl, by decide +kernel⟩ ?hw ?hc
  case hw => w_witness2
  case hc =>
    exact Sx.sx_law (l := PySem.Challenge.rw_earlystop_k12_whole_rows_come_to_one) (n := 63) (m := 4) (cf := Lk12.cf) (ds := Lk12.ds) (T := Sx.reg) (k := 40) (dl := Lk12.d20) rfl (by decide) (by kernel_rfl) rfl Lk12.hT Lk12.oks (List.mem_of_getElem? (i := 20) rfl) (by kernel_rfl) (by kernel_rfl) (Sx.go_caller (by decide) (by decide)) Lk12.mean
