import PyProof.Rows.All
import Wide.All
import OpenK.AllK
import Wide.FinOn
import PySem.Challenge.RW_stepforms_k78_corners_of_polys
import HandS.ForMost
import HandS.ForExc
import HandS.Zip
import HandS.Rev
import HandS.RevRange
import HandS.Style
import HandS.TupAny
import HandS.TupMul
import HandS.Wide
import HandS.IsInst
import HandS.Deep
import HandS.Small
import HandS.Sort
import HandS.ExcInit
import HandS.ExcField
import HandS.WordsExc
import HandS.TryOnly
import KE.KExcIs
import HandS.Codes
import HandS.Text
import KE.KRevSl
import PyProof.SliceStr2
import HandS.More
import HandS.Conv
import KE.GoesMore
import HandS.EndBits
import HandS.ExcIs
import PyProof.ReprLen
import PyProof.Rows.StrCase
section
set_option Elab.async false
set_option linter.all false
namespace Mn
open PySem

/-- a value: a tree, its changing parts by their place in the store -/
inductive D where
  | non | bl (b : Bool) | int (i : Int) | str (s : Str) | tup (ds : List D) | loc (n : Nat)
/-- what stands in the store: a list, the script, a dict with texts as keys -/
inductive Cell where
  | lst (ds : List D) | frz (ds : List D) | dic (kvs : List (Str × D))
abbrev Mu := List Cell
abbrev Sl := List (Option D)
/-- an outcome: a value and the store, a refusal by its class with fields, or no word -/
inductive R (α : Type) where
  | ok (a : α) (m : Mu) | ex (c : Str) (fs : List (Str × D)) (m : Mu) | no
def R.bind {α β : Type} (r : R α) (f : α → Mu → R β) : R β :=
  match r with
  | .ok a m => f a m
  | .ex c fs m => .ex c fs m
  | .no => .no
def R.opt {α : Type} (o : Option α) (m : Mu) : R α :=
  match o with
  | some a => .ok a m
  | none => .no
def R.nox {α : Type} (r : R α) : R α :=
  match r with
  | .ok a m => .ok a m
  | _ => .no

inductive Op where
  | add | sub | mul | fdiv | mod | pow
inductive Cp where
  | eq | ne | lt | le | gt | ge | is | isnt | inn | notin
inductive Bf where
  | len | abs | int | str | repr | list | tuple | all | any | max2 | min2
inductive Ty where
  | int | bool | str | tuple | list
mutual
inductive CE where
  | var (i : Nat)
  | con (d : D)
  | op (o : Op) (a b : CE)
  | neg (a : CE)
  | cmp (o : Cp) (a b : CE)
  | chain (o o' : Cp) (a b c : CE)
  | and (a b : CE)
  | or (a b : CE)
  | not (a : CE)
  | ite (c a b : CE)
  | tup (es : CEs)
  | lst (es : CEs)
  | dict (ks : List Str) (es : CEs)
  | idxI (a b : CE)
  | idxK (a b : CE)
  | sl (a : CE) (lo hi : Option CE)
  | rev (a : CE)
  | stp (a k : CE)
  | call (f : Nat) (es : CEs)
  | blt (f : Bf) (es : CEs)
  | isi (a : CE) (t : Ty)
  | app (a b : CE)
  | ins (a i b : CE)
  | ext (a b : CE)
  | pop (a : CE)
  | upper (a : CE)
  | comp (it : CI) (tg : List Nat) (own : List Nat) (c : Option CE) (e : CE)
  | no
inductive CEs where
  | nil
  | cons (e : CE) (es : CEs)
inductive CI where
  | seq (e : CE)
  | rng1 (a : CE)
  | rng2 (a b : CE)
  | enum (e : CE)
  | zip (a b : CE)
  | rev (e : CE)
  | revr (e : CE)
end
inductive CT where
  | name (i : Nat)
  | names (is : List Nat)
  | sub (o i : CE)
/-- what an except clause gives a name: a value; by the class, else a value -/
inductive Hd where
  | val (d : D)
  | own (k0 : D) (c1 : Str) (no : List Str) (fs : List Str)
mutual
inductive CS where
  | asg (t : CT) (e : CE)
  | par (i j : Nat) (a b : CE)
  | ex (e : CE)
  | ret (e : CE)
  | retN
  | pass
  | ite (c : CE) (t f : CSs)
  | whl (c : CE) (b : CSs)
  | for_ (it : CI) (t : List Nat) (b : CSs)
  | raise (c : Str) (fn : List Str) (es : CEs)
  | tryE (b : Option Nat) (e : CE) (h : Str) (cs : List Str) (i : Nat) (hd : Hd) (u : Option Nat)
  | no
inductive CSs where
  | nil
  | cons (s : CS) (ss : CSs)
end

@[irreducible] def mulOk (i j : Int) : Bool := decide (i.natAbs.log2 + j.natAbs.log2 < 1000000)
@[irreducible] def divOk (j : Int) : Bool := decide (j ≠ 0) && decide (j.natAbs.log2 < 9000)
@[irreducible] def powOk (i j : Int) : Bool := decide (0 ≤ j) && (decide (j ≤ 1000000) && decide (i.natAbs < 2 ^ 64))
/-- a length within a million: all that we make is far below the line -/
@[irreducible] def szOk (n : Nat) : Bool := decide (n ≤ 1000000)
@[irreducible] def repOk (k : Int) (n : Nat) : Bool := decide (-1000 ≤ k) && (decide (k ≤ 1000) && decide (n ≤ 1000))
@[irreducible] def txtOk (i : Int) : Bool := decide (i.natAbs.log2 < 1920)
@[irreducible] def boundOk (i : Int) : Bool := decide (-(2 ^ 62) ≤ i) && decide (i < 2 ^ 62)
theorem mulOk_eq (i j : Int) : mulOk i j = decide (i.natAbs.log2 + j.natAbs.log2 < 1000000) := by unfold mulOk; rfl
theorem divOk_eq (j : Int) : divOk j = (decide (j ≠ 0) && decide (j.natAbs.log2 < 9000)) := by unfold divOk; rfl
theorem powOk_eq (i j : Int) : powOk i j = (decide (0 ≤ j) && (decide (j ≤ 1000000) && decide (i.natAbs < 2 ^ 64))) := by unfold powOk; rfl
theorem szOk_eq (n : Nat) : szOk n = decide (n ≤ 1000000) := by unfold szOk; rfl
theorem repOk_eq (k : Int) (n : Nat) : repOk k n = (decide (-1000 ≤ k) && (decide (k ≤ 1000) && decide (n ≤ 1000))) := by unfold repOk; rfl
theorem txtOk_eq (i : Int) : txtOk i = decide (i.natAbs.log2 < 1920) := by unfold txtOk; rfl
theorem boundOk_eq (i : Int) : boundOk i = (decide (-(2 ^ 62) ≤ i) && decide (i < 2 ^ 62)) := by unfold boundOk; rfl

def reify : Nat → Mu → D → Option PyData
  | 0, _, _ => none
  | _ + 1, _, .non => some .none
  | _ + 1, _, .bl b => some (.bool b)
  | _ + 1, _, .int i => some (.int i)
  | _ + 1, _, .str s => some (.str s)
  | n + 1, m, .tup ds => (ds.mapM (reify n m)).map PyData.tuple
  | n + 1, m, .loc l =>
    match m[l]? with
    | some (.lst ds) => (ds.mapM (reify n m)).map PyData.list
    | some (.frz ds) => (ds.mapM (reify n m)).map PyData.list
    | _ => none
def tree (m : Mu) (d : D) : Option PyData := reify 60 m d

def listAt (m : Mu) (l : Nat) : Option (List D) :=
  match m[l]? with
  | some (.lst ds) => some ds
  | some (.frz ds) => some ds
  | _ => none
def seqAt (m : Mu) : D → Option (List D)
  | .tup ds => some ds
  | .loc l => listAt m l
  | _ => none
/-- a new list -/
def newL (ds : List D) (m : Mu) : R D := if szOk ds.length then .ok (.loc m.length) (m ++ [.lst ds]) else .no
def newT (ds : List D) (m : Mu) : R D := if szOk ds.length then .ok (.tup ds) m else .no
def repD (k : Int) (ds : List D) : List D := (List.replicate k.toNat ds).flatten
def cutD {α : Type} (xs : List α) (lo hi : Option Int) : List α :=
  (xs.drop (HT.sIx xs.length 0 lo)).take (HT.sIx xs.length xs.length hi - HT.sIx xs.length 0 lo)

def opD : Op → D → D → Mu → R D
  | .add, .int i, .int j, m => .ok (.int (i + j)) m
  | .add, .str x, .str y, m => if szOk (x.length + y.length) then .ok (.str (x ++ y)) m else .no
  | .add, .tup xs, .tup ys, m => newT (xs ++ ys) m
  | .add, .loc a, .loc b, m =>
    match m[a]?, m[b]? with
    | some (.lst xs), some (.lst ys) => newL (xs ++ ys) m
    | _, _ => .no
  | .sub, .int i, .int j, m => .ok (.int (i - j)) m
  | .mul, .int i, .int j, m => if mulOk i j then .ok (.int (i * j)) m else .no
  | .mul, .tup xs, .int k, m => if repOk k xs.length then newT (repD k xs) m else .no
  | .mul, .loc a, .int k, m =>
    match m[a]? with
    | some (.lst xs) => if repOk k xs.length then newL (repD k xs) m else .no
    | _ => .no
  | .fdiv, .int i, .int j, m => if divOk j then .ok (.int (i.fdiv j)) m else .no
  | .mod, .int i, .int j, m => if decide (j ≠ 0) then .ok (.int (i.fmod j)) m else .no
  | .pow, .int i, .int j, m => if powOk i j then .ok (.int (i ^ j.toNat)) m else .no
  | _, _, _, _ => .no

def eqD (m : Mu) (a b : D) : Option Bool :=
  match tree m a, tree m b with
  | some x, some y => if PySem.SeqAt.shaped x && PySem.SeqAt.shaped y then some (PyData.eqv x y) else none
  | _, _ => none
/-- .. texts by their signs -/
def eqC (m : Mu) (a b : D) : Option Bool :=
  match a, b with
  | .str x, .str y => some (decide (x = y))
  | _, _ => eqD m a b
def inD (m : Mu) (a b : D) : Option Bool :=
  match tree m a, tree m b with
  | some x, some (.list ys) => if PySem.SeqAt.shaped x && PySem.SeqAt.shaped (.list ys) then some (ys.any fun z => PyData.eqv z x) else none
  | some x, some (.tuple ys) => if PySem.SeqAt.shaped x && PySem.SeqAt.shaped (.tuple ys) then some (ys.any fun z => PyData.eqv z x) else none
  | _, _ => none
def cmpD : Cp → D → D → Mu → Option Bool
  | .eq, a, b, m => eqC m a b
  | .ne, a, b, m => (eqC m a b).map (!·)
  | .lt, .int i, .int j, _ => some (decide (i < j))
  | .le, .int i, .int j, _ => some (decide (i ≤ j))
  | .gt, .int i, .int j, _ => some (decide (j < i))
  | .ge, .int i, .int j, _ => some (decide (j ≤ i))
  | .is, a, .non, _ => some (match a with | .non => true | _ => false)
  | .isnt, a, .non, _ => some (match a with | .non => false | _ => true)
  | .is, .bl a, .bl b, _ => some (decide (a = b))
  | .isnt, .bl a, .bl b, _ => some (!decide (a = b))
  | .inn, a, b, m => inD m a b
  | .notin, a, b, m => (inD m a b).map (!·)
  | _, _, _, _ => none

def getD' (kvs : List (Str × D)) (k : Str) : Option D := (kvs.find? fun kv => decide (kv.1 = k)).map (·.2)
def putD (kvs : List (Str × D)) (k : Str) (v : D) : List (Str × D) :=
  if (kvs.any fun kv => decide (kv.1 = k)) = true then kvs.map (fun kv => if kv.1 = k then (kv.1, v) else kv) else kvs ++ [(k, v)]

def idxI (x y : D) (m : Mu) : Option D :=
  match y with
  | .int i =>
    match x with
    | .tup ds => L2.atI ds i
    | .str z => if szOk z.length then (L2.atI z.cps.toList i).map fun c => .str ⟨#[c]⟩ else none
    | .loc a => (listAt m a).bind fun ds => L2.atI ds i
    | _ => none
  | _ => none
def idxK (x y : D) (m : Mu) : Option D :=
  match y with
  | .str k =>
    match x with
    | .loc a =>
      match m[a]? with
      | some (.dic kvs) => getD' kvs k
      | _ => none
    | _ => none
  | _ => none
def strCut (z : Str) (lo hi : Option Int) : Str := ⟨(cutD z.cps.toList lo hi).toArray⟩
def slD : D → Option Int → Option Int → Mu → R D
  | .tup ds, lo, hi, m => .ok (.tup (cutD ds lo hi)) m
  | .str z, lo, hi, m => if szOk z.length then .ok (.str (L2.cutS z lo hi)) m else .no
  | .loc a, lo, hi, m =>
    match listAt m a with
    | some ds => newL (cutD ds lo hi) m
    | none => .no
  | _, _, _, _ => .no
def revD : D → Mu → R D
  | .tup ds, m => .ok (.tup ds.reverse) m
  | .str z, m => if szOk z.length then .ok (.str ⟨z.cps.toList.reverse.toArray⟩) m else .no
  | .loc a, m =>
    match listAt m a with
    | some ds => newL ds.reverse m
    | none => .no
  | _, _ => .no
/-- xs[::k] of a list, k 1 or -1 -/
def stpD (x k : D) (m : Mu) : R D :=
  match k with
  | .int i => if i = -1 then (match x with | .loc _ => revD x m | _ => .no) else if i = 1 then (match x with | .loc a => (match listAt m a with | some ds => newL ds m | none => .no) | _ => .no) else .no
  | _ => .no
def bls : List D → Option (List Bool)
  | [] => some []
  | .bl b :: r => (bls r).map (b :: ·)
  | _ :: _ => none
/-- what repr shows -/
def shownD (m : Mu) (d : D) : Option Str :=
  match tree m d with
  | some x => if x.showable && (!x.hasDict && (decide (x.depth ≤ 60) && szOk x.shown.length)) then some x.shown else none
  | none => none
def bltD : Bf → List D → Mu → R D
  | .len, [.str z], m => if szOk z.length then .ok (.int z.length) m else .no
  | .len, [d], m =>
    match seqAt m d with
    | some ds => .ok (.int ds.length) m
    | none => .no
  | .abs, [.int i], m => .ok (.int (if i < 0 then -i else i)) m
  | .int, [.int i], m => .ok (.int i) m
  | .int, [.bl b], m => .ok (.int (if b then 1 else 0)) m
  | .str, [.int i], m => if txtOk i then .ok (.str (toString i)) m else .no
  | .repr, [d], m =>
    match shownD m d with
    | some x => .ok (.str x) m
    | none => .no
  | .list, [d], m =>
    match seqAt m d with
    | some ds => newL ds m
    | none => .no
  | .tuple, [.tup ds], m => .ok (.tup ds) m
  | .tuple, [.loc l], m =>
    match listAt m l with
    | some ds => newT ds m
    | none => .no
  | .all, [.loc l], m =>
    match listAt m l with
    | some ds => (match bls ds with | some bs => .ok (.bl (bs.all id)) m | none => .no)
    | none => .no
  | .any, [.loc l], m =>
    match listAt m l with
    | some ds => (match bls ds with | some bs => .ok (.bl (bs.any id)) m | none => .no)
    | none => .no
  | .max2, [.int i, .int j], m => .ok (.int (if j > i then j else i)) m
  | .min2, [.int i, .int j], m => .ok (.int (if j < i then j else i)) m
  | _, _, _ => .no
def Ty.isList : Ty → Bool
  | .list => true
  | _ => false
def isiD : Ty → D → Mu → Option Bool
  | t, d, m =>
    match d with
    | .non => some false
    | .bl _ => some (match t with | .int => true | .bool => true | _ => false)
    | .int _ => some (match t with | .int => true | _ => false)
    | .str _ => some (match t with | .str => true | _ => false)
    | .tup _ => some (match t with | .tuple => true | _ => false)
    | .loc l =>
      match m[l]? with
      | some (.lst _) => some t.isList
      | _ => none
def isL (o : D) (m : Mu) : Bool :=
  match o with
  | .loc l => (match m[l]? with | some (.lst _) => true | _ => false)
  | _ => false
def appD (o v : D) (m : Mu) : R D :=
  match o with
  | .loc l =>
    match m[l]? with
    | some (.lst ds) => if szOk ds.length then .ok .non (m.set l (.lst (ds ++ [v]))) else .no
    | _ => .no
  | _ => .no
def insD (o j v : D) (m : Mu) : R D :=
  match o, j with
  | .loc l, .int i =>
    match m[l]? with
    | some (.lst ds) => if szOk ds.length && (decide (0 ≤ i) && boundOk i) then .ok .non (m.set l (.lst (ds.take i.toNat ++ [v] ++ ds.drop i.toNat))) else .no
    | _ => .no
  | _, _ => .no
def extD (o v : D) (m : Mu) : R D :=
  match o, v with
  | .loc l, .loc k =>
    match m[l]?, m[k]? with
    | some (.lst ds), some (.lst es) => if szOk (ds.length + es.length) then .ok .non (m.set l (.lst (ds ++ es))) else .no
    | _, _ => .no
  | _, _ => .no
def popD (o : D) (m : Mu) : R D :=
  match o with
  | .loc l =>
    match m[l]? with
    | some (.lst ds) => (match ds.getLast? with | some v => .ok v (m.set l (.lst ds.dropLast)) | none => .no)
    | _ => .no
  | _ => .no
def putAt (o i v : D) (m : Mu) : Option Mu :=
  match o, i with
  | .loc l, .int k =>
    match m[l]? with
    | some (.lst ds) => (L2.ixN ds.length k).map fun j => m.set l (.lst (ds.set j v))
    | _ => none
  | .loc l, .str k =>
    match m[l]? with
    | some (.dic kvs) => if szOk kvs.length then some (m.set l (.dic (putD kvs k v))) else none
    | _ => none
  | _, _ => none

inductive Src where
  | st (ds : List D)
  | dy (l : Nat)
def Src.all (s : Src) (m : Mu) : Option (List D) :=
  match s with
  | .st ds => some ds
  | .dy l => listAt m l
inductive Wk where
  | seq (s : Src)
  | enum (s : Src)
  | zip (s t : Src)
  | rev (s : Src) (n : Nat)
  | rngN (lo st : Int) (n : Nat)
/-- what comes at turn i -/
def Wk.item (w : Wk) (i : Nat) (m : Mu) : Option D :=
  match w with
  | .seq s => (s.all m).bind fun ds => ds[i]?
  | .enum s => (s.all m).bind fun ds => ds[i]?.map fun d => .tup [.int i, d]
  | .zip s t => (s.all m).bind fun xs => (t.all m).bind fun ys => xs[i]?.bind fun x => ys[i]?.map fun y => .tup [x, y]
  | .rev s n => (s.all m).bind fun ds => if i < n then ds[n - 1 - i]? else none
  | .rngN lo st n => if i < n then some (.int (lo + (i : Nat) * st)) else none
/-- whether it may end ahead of turn i -/
def Wk.stops (w : Wk) (i : Nat) (m : Mu) : Bool :=
  match w with
  | .seq s | .enum s => (match s.all m with | some ds => decide (ds.length ≤ i) | none => false)
  | .zip s t => (match s.all m, t.all m with | some xs, some ys => decide (xs.length ≤ i) || decide (ys.length ≤ i) | _, _ => false)
  | .rev _ n => decide (n ≤ i)
  | .rngN _ _ n => decide (n ≤ i)
def setAll : List Nat → List D → Sl → Option Sl
  | [], [], σ => some σ
  | i :: is, d :: ds, σ => setAll is ds (σ.set i (some d))
  | _, _, _ => none
/-- the item is laid in slots -/
def bindT (tg : List Nat) (d : D) (m : Mu) (σ : Sl) : Option Sl :=
  match tg with
  | [i] => some (σ.set i (some d))
  | _ =>
    match d with
    | .tup ds => setAll tg ds σ
    | _ => none
def wipeD (σ : Sl) : List Nat → Sl
  | [] => σ
  | v :: vs => (wipeD σ vs).set v none
def srcOf (d : D) (m : Mu) : Option (Src × Nat) :=
  match d with
  | .tup ds => some (.st ds, ds.length)
  | .loc l => (listAt m l).map fun ds => (.dy l, ds.length)
  | _ => none
/-- a loop's turns: k to come, i behind -/
def turns {α : Type} (w : Wk) (body : D → α → Mu → R α) : Nat → Nat → α → Mu → R α
  | 0, i, a, m => if w.stops i m then .ok a m else .no
  | k + 1, i, a, m =>
    match w.item i m with
    | some d => (body d a m).bind fun a' m' => turns w body k (i + 1) a' m'
    | none => .no
/-- .. that may be left -/
def turnsS (w : Wk) (body : D → Sl → Mu → R (Sl ⊕ D)) : Nat → Nat → Sl → Mu → R (Sl ⊕ D)
  | 0, i, σ, m => if w.stops i m then .ok (.inl σ) m else .no
  | k + 1, i, σ, m =>
    match w.item i m with
    | some d => (body d σ m).bind fun r m' =>
        match r with
        | .inl σ' => turnsS w body k (i + 1) σ' m'
        | .inr v => .ok (.inr v) m'
    | none => .no
def zipOk : Src → Src → Bool
  | .st _, .st _ => true
  | .dy _, .dy _ => true
  | _, _ => false
def isDy : Src → Bool
  | .st _ => false
  | .dy _ => true

section
variable (cl : Nat → List D → Mu → R D)
mutual
def evE : CE → Sl → Mu → R D
  | .var i, σ, m => (match σ[i]? with | some (some d) => .ok d m | _ => .no)
  | .con d, _, m => .ok d m
  | .op o a b, σ, m => (evE a σ m).bind fun x m => (evE b σ m).bind fun y m => opD o x y m
  | .neg a, σ, m => (evE a σ m).bind fun x m => (match x with | .int i => .ok (.int (-i)) m | _ => .no)
  | .cmp o a b, σ, m => (evE a σ m).bind fun x m => (evE b σ m).bind fun y m => R.opt ((cmpD o x y m).map D.bl) m
  | .chain o o' a b c, σ, m => (evE a σ m).bind fun x m => (evE b σ m).bind fun y m =>
      match cmpD o x y m with
      | some true => (evE c σ m).bind fun z m => R.opt ((cmpD o' y z m).map D.bl) m
      | some false => .ok (.bl false) m
      | none => .no
  | .and a b, σ, m => (evE a σ m).bind fun x m => (match x with | .bl true => evE b σ m | .bl false => .ok (.bl false) m | _ => .no)
  | .or a b, σ, m => (evE a σ m).bind fun x m => (match x with | .bl false => evE b σ m | .bl true => .ok (.bl true) m | _ => .no)
  | .not a, σ, m => (evE a σ m).bind fun x m => (match x with | .bl k => .ok (.bl (!k)) m | _ => .no)
  | .ite c a b, σ, m => (evE c σ m).bind fun x m => (match x with | .bl true => evE a σ m | .bl false => evE b σ m | _ => .no)
  | .tup es, σ, m => (evEs es σ m).bind fun ds m => newT ds m
  | .lst es, σ, m => (evEs es σ m).bind fun ds m => newL ds m
  | .dict ks es, σ, m => (evEs es σ (m ++ [.dic []])).bind fun ds m' =>
      match m'[m.length]? with
      | some (.dic []) => if decide (ds.length = ks.length) && (decide (ks.length ≤ 15) && decide ks.Nodup) then .ok (.loc m.length) (m'.set m.length (.dic (ks.zip ds))) else .no
      | _ => .no
  | .idxI a b, σ, m => (evE a σ m).bind fun x m => (evE b σ m).bind fun y m => R.opt (idxI x y m) m
  | .idxK a b, σ, m => (evE a σ m).bind fun x m => (evE b σ m).bind fun y m => R.opt (idxK x y m) m
  | .sl a lo hi, σ, m => (evE a σ m).bind fun x m => (evO lo σ m).bind fun l m => (evO hi σ m).bind fun h m => slD x l h m
  | .rev a, σ, m => (evE a σ m).bind fun x m => revD x m
  | .stp a k, σ, m => (evE a σ m).bind fun x m => (evE k σ m).bind fun y m => stpD x y m
  | .call f es, σ, m => (evEs es σ m).bind fun ds m => cl f ds m
  | .blt f es, σ, m => (evEs es σ m).bind fun ds m => bltD f ds m
  | .isi a t, σ, m => (evE a σ m).bind fun x m => R.opt ((isiD t x m).map D.bl) m
  | .app a b, σ, m => (evE a σ m).bind fun x m => if isL x m then (evE b σ m).bind fun y m => appD x y m else .no
  | .ins a i b, σ, m => (evE a σ m).bind fun x m => if isL x m then (evE i σ m).bind fun j m => (evE b σ m).bind fun y m => insD x j y m else .no
  | .ext a b, σ, m => (evE a σ m).bind fun x m => if isL x m then (evE b σ m).bind fun y m => extD x y m else .no
  | .pop a, σ, m => (evE a σ m).bind fun x m => popD x m
  | .upper a, σ, m => (evE a σ m).bind fun x m => (match x with | .str z => if szOk z.length then .ok (.str (Txt.upper z)) m else .no | _ => .no)
  | .comp it tg own c e, σ, m => (evI it σ m).bind fun wn m1 =>
      (turns wn.1 (fun d (_ : Unit) m2 =>
        match bindT tg d m2 (wipeD σ own) with
        | none => .no
        | some σ' => (evC c σ' m2).bind fun b m3 =>
            if b then (R.nox (evE e σ' m3)).bind fun y m4 => (appD (.loc m1.length) y m4).bind fun _ m5 => .ok () m5
            else .ok () m3) wn.2 0 () (m1 ++ [.lst []])).nox.bind fun _ m6 => .ok (.loc m1.length) m6
  | .no, _, _ => .no
def evEs : CEs → Sl → Mu → R (List D)
  | .nil, _, m => .ok [] m
  | .cons e es, σ, m => (evE e σ m).bind fun d m => (evEs es σ m).bind fun ds m => .ok (d :: ds) m
def evO : Option CE → Sl → Mu → R (Option Int)
  | none, _, m => .ok none m
  | some e, σ, m => (evE e σ m).bind fun x m => (match x with | .int i => .ok (some i) m | _ => .no)
def evC : Option CE → Sl → Mu → R Bool
  | none, _, m => .ok true m
  | some e, σ, m => (R.nox (evE e σ m)).bind fun x m => (match x with | .bl b => .ok b m | _ => .no)
def evI : CI → Sl → Mu → R (Wk × Nat)
  | .seq e, σ, m => (evE e σ m).bind fun x m => R.opt ((srcOf x m).map fun p => (.seq p.1, p.2)) m
  | .rng1 a, σ, m => (evE a σ m).bind fun x m => (match x with | .int j => if boundOk j then .ok (.rngN 0 1 j.toNat, j.toNat) m else .no | _ => .no)
  | .rng2 a b, σ, m => (evE a σ m).bind fun x m => (evE b σ m).bind fun y m =>
      (match x, y with | .int i, .int j => if boundOk i && boundOk j then .ok (.rngN i 1 (j - i).toNat, (j - i).toNat) m else .no | _, _ => .no)
  | .enum e, σ, m => (evE e σ m).bind fun x m => R.opt ((srcOf x m).map fun p => (.enum p.1, p.2)) m
  | .zip a b, σ, m => (evE a σ m).bind fun x m => (evE b σ m).bind fun y m =>
      R.opt ((srcOf x m).bind fun p => (srcOf y m).bind fun q => if zipOk p.1 q.1 then some (.zip p.1 q.1, min p.2 q.2) else none) m
  | .rev e, σ, m => (evE e σ m).bind fun x m => R.opt ((srcOf x m).map fun p => (.rev p.1 p.2, p.2)) m
  | .revr a, σ, m => (evE a σ m).bind fun x m => (match x with | .int j => if boundOk j then .ok (.rngN (j.toNat - 1) (-1) j.toNat, j.toNat) m else .no | _ => .no)
end
def stT (t : CT) (d : D) (σ : Sl) (m : Mu) : R Sl :=
  match t with
  | .name i => .ok (σ.set i (some d)) m
  | .names is =>
    match seqAt m d with
    | some ds => R.opt (setAll is ds σ) m
    | none => .no
  | .sub o i => (evE cl o σ m).bind fun x m => (evE cl i σ m).bind fun y m =>
      match putAt x y d m with
      | some m' => .ok σ m'
      | none => .no
/-- while, so many turns at most -/
def whileN (c : Sl → Mu → R D) (b : Sl → Mu → R (Sl ⊕ D)) : Nat → Sl → Mu → R (Sl ⊕ D)
  | 0, _, _ => .no
  | n + 1, σ, m => (c σ m).bind fun x m =>
      match x with
      | .bl true => (b σ m).bind fun r m =>
          (match r with
          | .inl σ' => whileN c b n σ' m
          | .inr v => .ok (.inr v) m)
      | .bl false => .ok (.inl σ) m
      | _ => .no
variable (wf : Nat)
def hval : Hd → Str → List (Str × D) → Option D
  | .val d, _, _ => some d
  | .own k0 c1 _ fs, c, vs => if decide (c = c1) then (fs.mapM fun f => getD' vs f).map fun ds => D.tup (.str "refused" :: ds) else some k0
def unsetD (u : Option Nat) (σ : Sl) : Sl :=
  match u with
  | some k => σ.set k none
  | none => σ
def uOk (u : Option Nat) (σ : Sl) : Bool :=
  match u with
  | some k => decide (k < σ.length)
  | none => true
def setO (b : Option Nat) (d : D) (σ : Sl) : Sl :=
  match b with
  | some j => σ.set j (some d)
  | none => σ
mutual
def evS : CS → Sl → Mu → R (Sl ⊕ D)
  | .asg t e, σ, m => (evE cl e σ m).bind fun d m => (stT cl t d σ m).bind fun σ' m => .ok (.inl σ') m
  | .par i j a b, σ, m => (evE cl a σ m).bind fun x m => (evE cl b σ m).bind fun y m => .ok (.inl ((σ.set i (some x)).set j (some y))) m
  | .ex e, σ, m => (evE cl e σ m).bind fun _ m => .ok (.inl σ) m
  | .ret e, σ, m => (evE cl e σ m).bind fun d m => .ok (.inr d) m
  | .retN, _, m => .ok (.inr .non) m
  | .pass, σ, m => .ok (.inl σ) m
  | .ite c t f, σ, m => (evE cl c σ m).bind fun x m => (match x with | .bl true => evSs t σ m | .bl false => evSs f σ m | _ => .no)
  | .whl c b, σ, m => whileN (evE cl c) (evSs b) wf σ m
  | .for_ it t b, σ, m => (evI cl it σ m).bind fun wn m1 =>
      turnsS wn.1 (fun d σ m2 =>
        match bindT t d m2 σ with
        | none => .no
        | some σ' => evSs b σ' m2) wn.2 0 σ m1
  | .raise c fn es, σ, m => (evEs cl es σ m).bind fun ds m => (cl 1000000 [] m).bind fun _ m => if decide (ds.length = fn.length) then .ex c (fn.zip ds).reverse m else .no
  | .tryE b e _ cs i hd u, σ, m =>
      match evE cl e σ m with
      | .ok d m => .ok (.inl (setO b d σ)) m
      | .ex c fs m => if decide (c ∈ cs) && uOk u σ then (match hval hd c fs with | some d => .ok (.inl (unsetD u (σ.set i (some d)))) m | none => .no) else .no
      | .no => .no
  | .no, _, _ => .no
def evSs : CSs → Sl → Mu → R (Sl ⊕ D)
  | .nil, σ, m => .ok (.inl σ) m
  | .cons s ss, σ, m => (evS s σ m).bind fun r m =>
      match r with
      | .inl σ' => evSs ss σ' m
      | .inr d => .ok (.inr d) m
end
end

/-- a def: how many parameters, how many names, its body -/
structure Fn where
  name : Str
  ps : List Str
  N : List Str
  body : CSs
abbrev Pg := List Fn
def callN (P : Pg) (wf : Nat) : Nat → Nat → List D → Mu → R D
  | 0, _, _, _ => .no
  | n + 1, f, ds, m =>
    match P[f]? with
    | none => if decide (f = 1000000) && (ds.isEmpty && decide (3 ≤ n)) then .ok .non m else .no
    | some fn =>
      if ds.length = fn.ps.length then
        (evSs (callN P wf n) wf fn.body (ds.map some ++ List.replicate (fn.N.length - ds.length) none) m).bind fun r m =>
          match r with
          | .inl _ => .ok .non m
          | .inr d => .ok d m
      else .no
end Mn
end

section
set_option Elab.async false
set_option linter.all false
set_option maxRecDepth 100000
namespace Mn
open PySem PySem.Spec PyProof.Rows L2
section
variable (K : PySem.W.Frag) (ι : List Addr) (H : Hp)
mutual
inductive RV : D → V → Prop
  | non : RV .non .non
  | bl (b : Bool) : RV (.bl b) (.bl b)
  | int (i : Int) : RV (.int i) (.int i)
  | str (s : Str) : RV (.str s) (.str s)
  | tup {ds : List D} {a : Addr} {xs : List V} : SqT K H a xs → RVs ds xs → RV (.tup ds) (.ref a)
  | loc {n : Nat} {a : Addr} : ι[n]? = some a → RV (.loc n) (.ref a)
inductive RVs : List D → List V → Prop
  | nil : RVs [] []
  | cons {d : D} {ds : List D} {x : V} {xs : List V} : RV d x → RVs ds xs → RVs (d :: ds) (x :: xs)
end
/-- a list that is never written -/
def FzL (K : PySem.W.Frag) (H : Hp) (a : Addr) (xs : List V) : Prop :=
  (∃ o, H a = some (.frz o (.lst xs))) ∨ ∃ (o : Obj) (its : Array Value) (n : Nat), K.lookup a = some o ∧ o.cls = .type "list" ∧ o.dict = none ∧ o.data = .seq its n ∧ its.size ≤ sizeLine ∧ Vals xs its.toList
def RC : Cell → Addr → Prop
  | .lst ds, a => ∃ xs, H a = some (.lst xs) ∧ RVs K ι H ds xs
  | .frz ds, a => ∃ xs, FzL K H a xs ∧ RVs K ι H ds xs
  | .dic kvs, a => ∃ vs : List (L2.Key × V), H a = some (.dK vs) ∧ vs.map (·.1) = kvs.map (fun p => Sum.inr p.1) ∧ RVs K ι H (kvs.map (·.2)) (vs.map (·.2))
end
def Cell.mut : Cell → Bool
  | .frz _ => false
  | _ => true
structure RM (K : PySem.W.Frag) (ι : List Addr) (H : Hp) (m : Mu) : Prop where
  len : ι.length = m.length
  cell : ∀ (n : Nat) (c : Cell) (a : Addr), m[n]? = some c → ι[n]? = some a → RC K ι H c a
  inj : ∀ (i j : Nat) (c c' : Cell) (a : Addr), m[i]? = some c → m[j]? = some c' → c.mut = true → c'.mut = true → ι[i]? = some a → ι[j]? = some a → i = j
structure Ext (K : PySem.W.Frag) (ι : List Addr) (H : Hp) (ι' : List Addr) (H' : Hp) : Prop where
  pre : ∀ (n : Nat) (a : Addr), ι[n]? = some a → ι'[n]? = some a
  tup : ∀ a xs, SqT K H a xs → SqT K H' a xs
variable {K : PySem.W.Frag} {ι ι' ι2 : List Addr} {H H' H2 : Hp} {m m' : Mu} {d : D} {ds es : List D} {x v : V} {xs ys : List V} {a p : Addr}
theorem Ext.refl : Ext K ι H ι H := ⟨fun _ _ h => h, fun _ _ h => h⟩
theorem Ext.trans (a : Ext K ι H ι' H') (b : Ext K ι' H' ι2 H2) : Ext K ι H ι2 H2 := ⟨fun n x h => b.pre n x (a.pre n x h), fun n x h => b.tup n x (a.tup n x h)⟩
mutual
theorem RV.mono (e : Ext K ι H ι' H') {d : D} {v : V} (h : RV K ι H d v) : RV K ι' H' d v :=
  match h with
  | .non => .non
  | .bl b => .bl b
  | .int i => .int i
  | .str s => .str s
  | .tup h1 h2 => .tup (e.tup _ _ h1) (RVs.mono e h2)
  | .loc h1 => .loc (e.pre _ _ h1)
theorem RVs.mono (e : Ext K ι H ι' H') {ds : List D} {xs : List V} (h : RVs K ι H ds xs) : RVs K ι' H' ds xs :=
  match h with
  | .nil => .nil
  | .cons h1 h2 => .cons (RV.mono e h1) (RVs.mono e h2)
end
theorem RVs.length : ∀ {ds : List D} {xs : List V}, RVs K ι H ds xs → ds.length = xs.length
  | _, _, .nil => rfl
  | _, _, .cons _ h => by simp [RVs.length h]
theorem RVs.get : ∀ {ds : List D} {xs : List V} {i : Nat} {d : D}, RVs K ι H ds xs → ds[i]? = some d → ∃ x, xs[i]? = some x ∧ RV K ι H d x
  | _, _, _, _, .nil, h => by simp at h
  | _, _, 0, _, .cons h _, e => by simp at e; subst e; exact ⟨_, rfl, h⟩
  | _, _, i + 1, d, .cons _ h, e => by
    obtain ⟨x, e1, r⟩ := RVs.get (i := i) h (by simpa using e)
    exact ⟨x, by simpa using e1, r⟩
theorem RVs.append : ∀ {ds es : List D} {xs ys : List V}, RVs K ι H ds xs → RVs K ι H es ys → RVs K ι H (ds ++ es) (xs ++ ys)
  | _, _, _, _, .nil, h => h
  | _, _, _, _, .cons h t, h2 => .cons h (RVs.append t h2)
theorem RVs.drop : ∀ {ds : List D} {xs : List V} (n : Nat), RVs K ι H ds xs → RVs K ι H (ds.drop n) (xs.drop n)
  | _, _, 0, h => h
  | _, _, _ + 1, .nil => .nil
  | _, _, n + 1, .cons _ t => RVs.drop n t
theorem RVs.take : ∀ {ds : List D} {xs : List V} (n : Nat), RVs K ι H ds xs → RVs K ι H (ds.take n) (xs.take n)
  | _, _, 0, h => by simpa using RVs.nil
  | _, _, _ + 1, .nil => .nil
  | _, _, n + 1, .cons h t => .cons h (RVs.take n t)
theorem RVs.set : ∀ {ds : List D} {xs : List V} (n : Nat), RVs K ι H ds xs → RV K ι H d v → RVs K ι H (ds.set n d) (xs.set n v)
  | _, _, _, .nil, _ => .nil
  | _, _, 0, .cons _ t, h => .cons h t
  | _, _, n + 1, .cons q t, h => .cons q (RVs.set n t h)
theorem RVs.reverse : ∀ {ds : List D} {xs : List V}, RVs K ι H ds xs → RVs K ι H ds.reverse xs.reverse
  | _, _, .nil => .nil
  | _, _, .cons h t => by simpa using RVs.append (RVs.reverse t) (.cons h .nil)
theorem RVs.rep (h : RVs K ι H ds xs) : ∀ n : Nat, RVs K ι H (List.replicate n ds).flatten (List.replicate n xs).flatten
  | 0 => .nil
  | n + 1 => by simpa [List.replicate_succ] using RVs.append h (RVs.rep h n)
theorem RVs.cut (h : RVs K ι H ds xs) (lo hi : Option Int) : RVs K ι H (cutD ds lo hi) (cutV xs lo hi) := by
  unfold cutD cutV
  rw [h.length]
  exact (h.drop _).take _
theorem RVs.nil_of (h : RVs K ι H [] xs) : xs = [] := by cases h; rfl

theorem sqT_same (e : Same H H') {a : Addr} {xs : List V} (h : SqT K H a xs) : SqT K H' a xs := by
  rcases h with (h | ⟨o, h⟩) | h
  · exact .inl (.inl (e _ _ h))
  · exact .inl (.inr ⟨o, e _ _ h⟩)
  · exact .inr h
theorem same_upd (h : H p = none) {o : HO} : Same H (upd H p o) := fun b u e => by
  rw [upd_ne (ne_of_none e h)]; exact e
theorem Ext.same (e : Same H H') : Ext K ι H ι H' := ⟨fun _ _ h => h, fun _ _ h => sqT_same e h⟩
theorem FzL.same (e : Same H H') (h : FzL K H a xs) : FzL K H' a xs := by
  rcases h with ⟨o, h⟩ | h
  · exact .inl ⟨o, e _ _ h⟩
  · exact .inr h
theorem RC.mono (e : Same H H') (x : Ext K ι H ι' H') {c : Cell} (h : RC K ι H c a) : RC K ι' H' c a := by
  cases c with
  | lst ds => obtain ⟨xs, h1, h2⟩ := h; exact ⟨xs, e _ _ h1, h2.mono x⟩
  | frz ds => obtain ⟨xs, h1, h2⟩ := h; exact ⟨xs, h1.same e, h2.mono x⟩
  | dic ds => obtain ⟨xs, h1, h2, h3⟩ := h; exact ⟨xs, e _ _ h1, h2, h3.mono x⟩
theorem RM.same (r : RM K ι H m) (e : Same H H') : RM K ι H' m := ⟨r.len, fun n c a h1 h2 => (r.cell n c a h1 h2).mono e (.same e), r.inj⟩
/-- a new tuple -/
theorem RM.newT (r : RM K ι H m) (h : H p = none) {o : HO} : RM K ι (upd H p o) m := r.same (same_upd h)
theorem RV.newT (h : H p = none) (r : RVs K ι H ds xs) : RV K ι (upd H p (.tup xs)) (.tup ds) (.ref p) :=
  .tup (.inl (.inl upd_same)) (r.mono (.same (same_upd h)))
theorem Ext.new (h : H p = none) {o : HO} (a : Addr) : Ext K ι H (ι ++ [a]) (upd H p o) :=
  ⟨fun n b e => by
    rw [List.getElem?_append_left (List.getElem?_eq_some_iff.mp e).1]; exact e, fun _ _ q => sqT_same (same_upd h) q⟩
theorem mut_at {c : Cell} (h : RC K ι H c a) (hm : c.mut = true) : ∃ o, H a = some o ∧ ((∃ xs, o = .lst xs) ∨ ∃ vs, o = .dK vs) := by
  cases c with
  | lst ds => obtain ⟨xs, h1, _⟩ := h; exact ⟨_, h1, .inl ⟨_, rfl⟩⟩
  | frz ds => cases hm
  | dic ds => obtain ⟨xs, h1, _⟩ := h; exact ⟨_, h1, .inr ⟨_, rfl⟩⟩
/-- a new cell at p -/
theorem RM.new (r : RM K ι H m) (h : H p = none) {c : Cell} {o : HO} (hc : RC K (ι ++ [p]) (upd H p o) c p) : RM K (ι ++ [p]) (upd H p o) (m ++ [c]) := by
  have e : Same H (upd H p o) := same_upd h
  have x : Ext K ι H (ι ++ [p]) (upd H p o) := .new h p
  have at_ : ∀ {n : Nat} {c' : Cell} {b : Addr}, (m ++ [c])[n]? = some c' → (ι ++ [p])[n]? = some b → (m[n]? = some c' ∧ ι[n]? = some b) ∨ (n = m.length ∧ c' = c ∧ b = p) := by
    intro n c' b h1 h2
    by_cases hn : n < m.length
    · rw [List.getElem?_append_left hn] at h1
      rw [List.getElem?_append_left (by rw [r.len]; exact hn)] at h2
      exact .inl ⟨h1, h2⟩
    · rw [List.getElem?_append_right (Nat.not_lt.mp hn)] at h1
      rw [List.getElem?_append_right (by rw [r.len]; exact Nat.not_lt.mp hn)] at h2
      have hz : n - m.length = 0 := by
        have := (List.getElem?_eq_some_iff.mp h1).1
        simp at this
        omega
      rw [hz] at h1
      rw [r.len, hz] at h2
      simp at h1 h2
      exact .inr ⟨by omega, h1.symm, h2.symm⟩
  refine ⟨by simp [r.len], fun n c' b h1 h2 => ?_, fun i j c1 c2 b h1 h2 k1 k2 g1 g2 => ?_⟩
  · rcases at_ h1 h2 with ⟨q1, q2⟩ | ⟨_, rfl, rfl⟩
    · exact (r.cell n c' b q1 q2).mono e x
    · exact hc
  · rcases at_ h1 g1 with ⟨q1, q2⟩ | ⟨e1, rfl, rfl⟩
    · rcases at_ h2 g2 with ⟨q3, q4⟩ | ⟨e2, rfl, rfl⟩
      · exact r.inj i j c1 c2 b q1 q3 k1 k2 q2 q4
      · obtain ⟨o', q, _⟩ := mut_at (r.cell _ _ _ q1 q2) k1
        rw [h] at q; cases q
    · rcases at_ h2 g2 with ⟨q3, q4⟩ | ⟨e2, _, _⟩
      · obtain ⟨o', q, _⟩ := mut_at (r.cell _ _ _ q3 q4) k2
        rw [h] at q; cases q
      · rw [e1, e2]
theorem RM.newL (r : RM K ι H m) (h : H p = none) (hv : RVs K ι H ds xs) : RM K (ι ++ [p]) (upd H p (.lst xs)) (m ++ [.lst ds]) :=
  r.new h ⟨xs, upd_same, hv.mono (.new h p)⟩
theorem RV.newL (r : RM K ι H m) : RV K (ι ++ [p]) H' (.loc m.length) (.ref p) := .loc (by rw [← r.len]; simp)

theorem Ext.write (hm : ∃ o, H a = some o ∧ ((∃ xs, o = .lst xs) ∨ ∃ vs, o = .dK vs)) {o' : HO} : Ext K ι H ι (upd H a o') := by
  obtain ⟨o, h, hk⟩ := hm
  refine ⟨fun _ _ q => q, fun b xs q => ?_⟩
  have ne : ∀ u, H b = some u → (∃ o0 ys, u = .frz o0 ys) ∨ (∃ ys, u = .tup ys) → b ≠ a := fun u e k z => by
    subst z
    rw [h] at e; cases e
    rcases hk with ⟨_, rfl⟩ | ⟨_, rfl⟩ <;> rcases k with ⟨_, _, k⟩ | ⟨_, k⟩ <;> cases k
  rcases q with (q | ⟨o0, q⟩) | q
  · exact .inl (.inl (by rw [upd_ne (ne _ q (.inr ⟨_, rfl⟩))]; exact q))
  · exact .inl (.inr ⟨o0, by rw [upd_ne (ne _ q (.inl ⟨_, _, rfl⟩))]; exact q⟩)
  · exact .inr q
theorem RM.write (r : RM K ι H m) {l : Nat} {c c' : Cell} (hl : m[l]? = some c) (ha : ι[l]? = some a) (hc : c.mut = true) (hc' : c'.mut = true) {o' : HO} (hn : RC K ι (upd H a o') c' a) : RM K ι (upd H a o') (m.set l c') := by
  have hm := mut_at (r.cell l c a hl ha) hc
  have x : Ext K ι H ι (upd H a o') := .write hm
  have hlt : l < m.length := (List.getElem?_eq_some_iff.mp hl).1
  have back : ∀ {i : Nat} {c1 : Cell}, (m.set l c')[i]? = some c1 → ∃ c0, m[i]? = some c0 ∧ (c1.mut = true → c0.mut = true) ∧ (i = l → c1 = c') ∧ (i ≠ l → c0 = c1) := by
    intro i c1 h
    by_cases e : i = l
    · subst e
      rw [List.getElem?_set_self hlt] at h
      cases h
      exact ⟨c, hl, fun _ => hc, fun _ => rfl, fun z => absurd rfl z⟩
    · rw [List.getElem?_set_ne (Ne.symm e)] at h
      exact ⟨c1, h, fun z => z, fun z => absurd z e, fun _ => rfl⟩
  refine ⟨by rw [List.length_set]; exact r.len, fun n c1 b h1 h2 => ?_, fun i j c1 c2 b h1 h2 k1 k2 g1 g2 => ?_⟩
  · obtain ⟨c0, q1, q2, q3, q4⟩ := back h1
    by_cases e : n = l
    · subst e
      rw [ha] at h2; cases h2
      rw [q3 rfl]
      exact hn
    · have e0 := q4 e
      subst e0
      have k := r.cell n c0 b q1 h2
      cases hcm : c0.mut with
      | true =>
        have ne : b ≠ a := fun z => by subst z; exact e (r.inj n l c0 c b q1 hl hcm hc h2 ha)
        cases c0 with
        | lst ds => obtain ⟨xs, k1, k2⟩ := k; exact ⟨xs, by rw [upd_ne ne]; exact k1, k2.mono x⟩
        | frz ds => cases hcm
        | dic ds => obtain ⟨xs, k1, k2, k3⟩ := k; exact ⟨xs, by rw [upd_ne ne]; exact k1, k2, k3.mono x⟩
      | false =>
        cases c0 with
        | lst ds => cases hcm
        | dic ds => cases hcm
        | frz ds =>
          obtain ⟨xs, k1, k2⟩ := k
          refine ⟨xs, ?_, k2.mono x⟩
          rcases k1 with ⟨o0, k1⟩ | k1
          · have ne : b ≠ a := fun z => by
              subst z
              obtain ⟨o, h, hk⟩ := hm
              rw [h] at k1; cases k1
              rcases hk with ⟨_, hk⟩ | ⟨_, hk⟩ <;> cases hk
            exact .inl ⟨o0, by rw [upd_ne ne]; exact k1⟩
          · exact .inr k1
  · obtain ⟨c3, q1, q2, _, _⟩ := back h1
    obtain ⟨c4, q3, q4, _, _⟩ := back h2
    exact r.inj i j c3 c4 b q1 q3 (q2 k1) (q4 k2) g1 g2

theorem FzL.sq (h : FzL K H a xs) : SqL K H a xs := by
  rcases h with ⟨o, h⟩ | h
  · exact .inl (.inr ⟨o, h⟩)
  · exact .inr h
theorem RM.at_ (r : RM K ι H m) {n : Nat} {c : Cell} (h : m[n]? = some c) : ∃ a, ι[n]? = some a ∧ RC K ι H c a := by
  have hn : n < ι.length := by rw [r.len]; exact (List.getElem?_eq_some_iff.mp h).1
  exact ⟨ι[n], List.getElem?_eq_getElem hn, r.cell n c _ h (List.getElem?_eq_getElem hn)⟩
theorem RM.list (r : RM K ι H m) {l : Nat} (h : listAt m l = some ds) : ∃ a xs, ι[l]? = some a ∧ SqL K H a xs ∧ RVs K ι H ds xs := by
  unfold listAt at h
  split at h
  · rename_i ds' e
    cases h
    obtain ⟨a, e1, xs, e2, e3⟩ := r.at_ e
    exact ⟨a, xs, e1, .of e2, e3⟩
  · rename_i ds' e
    cases h
    obtain ⟨a, e1, xs, e2, e3⟩ := r.at_ e
    exact ⟨a, xs, e1, e2.sq, e3⟩
  · cases h
theorem RM.seq (r : RM K ι H m) (rv : RV K ι H d v) (h : seqAt m d = some ds) : ∃ a xs, v = .ref a ∧ (SqL K H a xs ∨ SqT K H a xs) ∧ RVs K ι H ds xs := by
  cases rv with
  | tup h1 h2 => cases h; exact ⟨_, _, rfl, .inr h1, h2⟩
  | loc h1 =>
    obtain ⟨a, xs, e1, e2, e3⟩ := r.list h
    rw [h1] at e1; cases e1
    exact ⟨_, _, rfl, .inl e2, e3⟩
  | _ => cases h
/-- a tree -/
theorem mapM_cons' {α β : Type} (f : α → Option β) (a : α) (l : List α) : (a :: l).mapM f = (f a).bind fun b => (l.mapM f).bind fun bs => some (b :: bs) := by
  rw [List.mapM_cons]; rfl
theorem dps_of {f : D → Option PyData} (ih : ∀ d x v, f d = some x → RV K ι H d v → Dp K H v x) : ∀ {ds : List D} {xs : List V} {ps : List PyData}, ds.mapM f = some ps → RVs K ι H ds xs → DpAll K H xs ps
  | [], _, ps, h, r => by
    cases r
    simp at h
    subst h
    exact .nil
  | d :: ds, _, ps, h, r => by
    rw [mapM_cons'] at h
    cases r with
    | cons r1 r2 =>
      cases h1 : f d with
      | none => rw [h1] at h; cases h
      | some b =>
        rw [h1] at h
        cases h2 : ds.mapM f with
        | none => rw [h2] at h; cases h
        | some bs =>
          rw [h2] at h
          cases h
          exact .cons (ih d b _ h1 r1) (dps_of ih h2 r2)
theorem RM.dp (r : RM K ι H m) : ∀ (n : Nat) (d : D) (x : PyData) (v : V), reify n m d = some x → RV K ι H d v → Dp K H v x
  | 0, _, _, _, h, _ => by cases h
  | n + 1, .non, _, _, h, .non => by cases h; exact .non
  | n + 1, .bl b, _, _, h, .bl _ => by cases h; exact .bl b
  | n + 1, .int b, _, _, h, .int _ => by cases h; exact .int b
  | n + 1, .str b, _, _, h, .str _ => by cases h; exact .str b
  | n + 1, .tup ds, x, _, h, .tup h1 h2 => by
    unfold reify at h
    cases e : ds.mapM (reify n m) with
    | none => rw [e] at h; cases h
    | some ps =>
      rw [e] at h
      cases h
      exact .tup h1 (dps_of (fun d x v => r.dp n d x v) e h2)
  | n + 1, .loc l, x, _, h, .loc h1 => by
    unfold reify at h
    split at h
    · rename_i ds' q
      obtain ⟨a, e1, xs, e2, e3⟩ := r.at_ q
      rw [h1] at e1; cases e1
      cases e : ds'.mapM (reify n m) with
      | none => rw [e] at h; cases h
      | some ps =>
        rw [e] at h
        cases h
        exact .lst (.of e2) (dps_of (fun d x v => r.dp n d x v) e e3)
    · rename_i ds' q
      obtain ⟨a, e1, xs, e2, e3⟩ := r.at_ q
      rw [h1] at e1; cases e1
      cases e : ds'.mapM (reify n m) with
      | none => rw [e] at h; cases h
      | some ps =>
        rw [e] at h
        cases h
        exact .lst e2.sq (dps_of (fun d x v => r.dp n d x v) e e3)
    · cases h
end Mn
end

section
set_option Elab.async false
set_option linter.all false
set_option maxRecDepth 100000
set_option autoImplicit false
namespace Mn
open PySem PySem.Spec PyProof.Rows L2

structure Gx where
  P : Program
  w : World
  K : PySem.W.Frag
  mg : Str → Option Value
  base : Heap
  Pg : Pg
  wf : Nat
/-- an exception in the air, by its class and fields -/
def EXC (G : Gx) (ι : List Addr) (H : Hp) (c : Str) (fs : List (Str × D)) (cls : Value) (dd : Option Addr) : Prop :=
  ∃ C : Addr, cls = .ref C ∧ G.mg c = some (.ref C) ∧ ∃ (d0 : Addr) (fv : List (Str × V)), dd = some d0 ∧ H d0 = some (.xd fv) ∧ fv.map (·.1) = fs.map (·.1) ∧ RVs G.K ι H (fs.map (·.2)) (fv.map (·.2))
/-- what is known behind an evaluation that the evaluator tells -/
def Po {α : Type} (G : Gx) (ι : List Addr) (H : Hp) (e : XK) (r : R α) (k : α → Mu → List Addr → Hp → Prop) : Prop :=
  match r with
  | .ok a m' => ∀ ι' H', Ext G.K ι H ι' H' → RM G.K ι' H' m' → k a m' ι' H'
  | .ex c fs m' => ∀ ι' H', Ext G.K ι H ι' H' → RM G.K ι' H' m' → ∀ cls dd, EXC G ι' H' c fs cls dd → e cls dd H'
  | .no => False
section
variable {G : Gx} {ι ι' : List Addr} {H H' : Hp} {e : XK} {α β : Type} {r : R α} {k k' : α → Mu → List Addr → Hp → Prop}
theorem Po.mono (x : Ext G.K ι H ι' H') (h : Po G ι H e r k) : Po G ι' H' e r k := by
  cases r with
  | ok a m => exact fun ι2 H2 x2 rm => h ι2 H2 (x.trans x2) rm
  | ex c fs m => exact fun ι2 H2 x2 rm => h ι2 H2 (x.trans x2) rm
  | no => exact h
theorem Po.imp (h : Po G ι H e r k) (f : ∀ a m' ι' H', Ext G.K ι H ι' H' → RM G.K ι' H' m' → k a m' ι' H' → k' a m' ι' H') : Po G ι H e r k' := by
  cases r with
  | ok a m => exact fun ι2 H2 x2 rm => f a m ι2 H2 x2 rm (h ι2 H2 x2 rm)
  | ex c fs m => exact h
  | no => exact h
theorem Po.bind {f : α → Mu → R β} {kb : β → Mu → List Addr → Hp → Prop} (h : Po G ι H e (r.bind f) kb) : Po G ι H e r (fun a m' ι' H' => Po G ι' H' e (f a m') kb) := by
  cases r with
  | ok a m => exact fun ι2 H2 x2 _ => Po.mono (r := f a m) x2 h
  | ex c fs m => exact h
  | no => exact h
theorem Po.ok {a : α} {m : Mu} (h : Po G ι H e (.ok a m) k) (x : Ext G.K ι H ι' H') (rm : RM G.K ι' H' m) : k a m ι' H' := h ι' H' x rm
/-- where no exception is told -/
theorem Po.nox {e' : XK} (h : Po G ι H e (R.nox r) k) : Po G ι H e' r k := by
  cases r with
  | ok a m => exact h
  | ex c fs m => exact (show False from h).elim
  | no => exact h
theorem Po.opt {o : Option α} {m : Mu} (h : Po G ι H e (R.opt o m) k) (rm : RM G.K ι H m) : ∃ a, o = some a ∧ k a m ι H := by
  cases o with
  | none => exact (show False from h).elim
  | some a => exact ⟨a, rfl, h ι H .refl rm⟩
end

structure FnG (G : Gx) (k : Nat) (f : Addr) (fd : FuncData) (ps : List Str) (sp : Sp) : Prop where
  len : ∀ vs H Q E, sp vs H Q E → vs.length = ps.length
  run : ∀ (A : Around) (outer : List PySem.Env) (s : Shared) (H : Hp) (args : Args) (us : List Value) (vs : List V) (Q : VK) (E : XK), Room k A → A.guards = some [] → Env0 G.P G.w G.K G.mg G.base A outer s H →
    BindsTo s fd args (ps.zip us) → Vals vs us → sp vs H Q E → codeAny (model G.P G.w) A (.call (.ref f) args) (CR (L2.CX G.P G.w) outer G.P G.w H s Q E) s
/-- the promise of the def i, at level n -/
def spN (G : Gx) (n i : Nat) : Sp := fun vs H Q E => ∃ ds ι m, RVs G.K ι H ds vs ∧ RM G.K ι H m ∧
  Po G ι H E (callN G.Pg G.wf n i ds m) (fun d m' ι' H' => ∀ v, RV G.K ι' H' d v → Q v H')
def FnAt (G : Gx) (n i : Nat) (fn : Fn) : Prop :=
  ∃ f fd, G.mg fn.name = some (.ref f) ∧ PySem.W.keepIn G.K (.ref f) = true ∧ Binds G.K fd fn.ps [] ∧ FnG G n f fd fn.ps (spN G n i)
def FnsOk (G : Gx) (n : Nat) : Prop := ∀ i fn, G.Pg[i]? = some fn → FnAt G n i fn

/-- what __init__ of an exception class leaves: its fields, in the object's dict -/
def spI (C : Addr) (fns : List Str) : Sp := fun vs H Q _ => ∃ (a : Addr) (ys : List V), vs = .ref a :: ys ∧ ys.length = fns.length ∧ H a = some (exo a C none) ∧
  ∀ (H' : Hp) (d : Addr), d ≠ a → H d = none → H' a = some (exo a C (some d)) → H' d = some (exd d (fns.zip ys).reverse) → (∀ b, b ≠ a → b ≠ d → H' b = H b) → Q .non H'
/-- an exception class of the program -/
structure ClsT (G : Gx) (fns : List Str) (C : Addr) : Prop where
  sz : fns.length ≤ 100
  oex : OexC G.K C
  no : ∀ f ∈ fns, PySem.W.findIn G.K (.ref C) f = some none
  xf : XfC G.K C
  cl : (PySem.W.clsIn G.K C).isSome = true
  ca : PySem.W.findIn G.K (.ref C) "__class__" = some (some (.builtin "object.__class__"))
  cn : PySem.W.specialIn G.K (.builtin "object.__class__") "__get__" = some (some (.builtin "getset_descriptor.__get__"))
  ct : PySem.W.takesIn G.K (.builtin "object.__class__") = some true
  cm : PySem.W.mroIn G.K C (.type "object") = some true
  ve : PySem.W.kitOne G.K (.ref C) (.type "ValueError") = some true
  init : ∃ (fI : Addr) (fd : FuncData), PySem.W.findIn G.K (.ref C) "__init__" = some (some (.ref fI)) ∧ PySem.W.typeIn G.K (.ref fI) = some (.type "function") ∧ Binds G.K fd (("self" : Str) :: fns) [] ∧
    FnOk G.P G.w G.K G.mg G.base (L2.CX G.P G.w) 2 fI fd (("self" : Str) :: fns) (spI C fns)
structure Sig where
  nones : List Str
  consts : List (Str × D)
  fns : List (Str × Nat × Nat)
  /-- own exception classes that are raised, their fields -/
  ecl : List (Str × List Str) := []
  /-- classes in except clauses, and which of these they name -/
  sub : List (Str × List Str) := []
  /-- classes that isinstance asks for -/
  icl : List Str := []
structure SigOk (S : Sig) (G : Gx) : Prop where
  nones : ∀ x ∈ S.nones, G.mg x = none
  consts : ∀ p ∈ S.consts, ∃ v u, G.mg p.1 = some u ∧ RelV v u ∧ ∀ ι H, RV G.K ι H p.2 v
  fns : ∀ p ∈ S.fns, ∃ fn, G.Pg[p.2.1]? = some fn ∧ fn.name = p.1 ∧ fn.ps.length = p.2.2
  small : G.Pg.length ≤ 1000000
  ecl : ∀ p ∈ S.ecl, ∃ C : Addr, G.mg p.1 = some (.ref C) ∧ ClsT G p.2 C ∧
    (∀ q ∈ S.sub, ∃ B : Addr, G.mg q.1 = some (.ref B) ∧ PySem.W.exmOne G.K (.ref C) (.ref B) = some (decide (p.1 ∈ q.2))) ∧
    (∀ x ∈ S.icl, ∃ B : Addr, G.mg x = some (.ref B) ∧ PySem.W.kitOne G.K (.ref C) (.ref B) = some (decide (p.1 = x)))
  subs : ∀ q ∈ S.sub, ∃ B : Addr, G.mg q.1 = some (.ref B)

/-- a context of the def's text with names N, the scope's kinds by sc -/
structure Gd (G : Gx) (N : List Str) (sc : Scope) (n : Nat) (X : Cx) : Prop where
  prog : X.prog = G.P
  wd : X.w = G.w
  K : X.K = G.K
  mg : X.mg = G.mg
  base : X.base = G.base
  nm : X.N = N
  nd : N.Nodup
  kind : X.env.scope.kind = .function
  lcl : ∀ x : Str, sc.names.lookup x = some .local → X.env.scope.names.lookup x = some .local
  cel : ∀ x : Str, sc.names.lookup x = some .cell → X.env.scope.names.lookup x = some .cell ∧ X.fn x = true
  free : ∀ x : Str, sc.names.lookup x = some .free → X.env.scope.names.lookup x = some .cell ∨ X.env.scope.names.lookup x = some .free
  gl : ∀ x : Str, sc.names.lookup x = some .globalImplicit → Gl X x
  calm : X.calm = true
  room : Room n X.A
  guards : X.A.guards = some []
/-- .. of statements -/
structure GdS (G : Gx) (N : List Str) (sc : Scope) (n : Nat) (X : Cx) : Prop extends Gd G N sc n X where
  own : PassesOwn (model X.prog X.w) X.A X.env X.xe
  stk : X.stack = X.env :: X.outer
  frm : X.env.frame = some X.env.locals
structure RS (G : Gx) (ι : List Addr) (H : Hp) (env : Sl) (σ : L2.St) : Prop where
  len : env.length = σ.length
  at_ : ∀ (i : Nat) (d : D), env[i]? = some (some d) → ∃ v, σ[i]? = some (some v) ∧ RV G.K ι H d v
theorem RS.mono {G : Gx} {ι ι' : List Addr} {H H' : Hp} {env : Sl} {σ : L2.St} (x : Ext G.K ι H ι' H') (r : RS G ι H env σ) : RS G ι' H' env σ :=
  ⟨r.len, fun i d h => let ⟨v, e, q⟩ := r.at_ i d h; ⟨v, e, q.mono x⟩⟩
theorem RS.set {G : Gx} {ι : List Addr} {H : Hp} {env : Sl} {σ : L2.St} {d : D} {v : V} (r : RS G ι H env σ) (i : Nat) (h : RV G.K ι H d v) : RS G ι H (env.set i (some d)) (σ.set i (some v)) := by
  refine ⟨by simp [r.len], fun j d' e => ?_⟩
  by_cases hj : j = i
  · subst hj
    have hl : j < env.length := by
      have := (List.getElem?_eq_some_iff.mp e).1
      simpa using this
    rw [List.getElem?_set_self hl] at e
    cases e
    exact ⟨v, List.getElem?_set_self (by rw [← r.len]; exact hl), h⟩
  · rw [List.getElem?_set_ne (Ne.symm hj)] at e
    rw [List.getElem?_set_ne (Ne.symm hj)]
    exact r.at_ j d' e
theorem RS.wipe {G : Gx} {ι : List Addr} {H : Hp} {env : Sl} {σ : L2.St} (r : RS G ι H env σ) : ∀ own : List Nat, RS G ι H (wipeD env own) (L2.wipe σ own)
  | [] => r
  | i :: is => by
    have q := RS.wipe r is
    refine ⟨by simp [wipeD, L2.wipe, q.len], fun j d' e => ?_⟩
    unfold wipeD at e
    unfold L2.wipe
    by_cases hj : j = i
    · subst hj
      have hl : j < (wipeD env is).length := by
        have := (List.getElem?_eq_some_iff.mp e).1
        simpa using this
      rw [List.getElem?_set_self hl] at e
      cases e
    · rw [List.getElem?_set_ne (Ne.symm hj)] at e
      rw [List.getElem?_set_ne (Ne.symm hj)]
      exact q.at_ j d' e

section
variable {X : Cx} {G : Gx} {N : List Str} {sc : Scope} {n : Nat}
theorem run_fnG {W : WX} {k : Nat} {f : Addr} {fd : FuncData} {ps : List Str} {sp : Sp} {pins : List (Addr × Obj)} {σ : L2.St} {H : Hp} {s : Shared} {Q : VK} {us : List Value} {vs : List V} (g : Gd G N sc k X) (F : FnG G k f fd ps sp)
    (hb : Binds G.K fd ps []) (tk : Takes X W) (I : Inv X pins σ H s) (r : Vals vs us) (h : sp vs H Q (fun cls d H' => W cls d σ H')) :
    wpAny (model X.prog X.w) X.A (call (.ref f) us) (EP X pins σ Q) X.xe s := by
  have hl : us.length = ps.length := by rw [← r.length]; exact F.len _ _ _ _ h
  have b := hb s us (by rw [← g.K]; exact I.kIn) (by simpa using hl)
  rw [List.append_nil] at b
  have e0 : Env0 G.P G.w G.K G.mg G.base X.A X.stack s H := by rw [← g.prog, ← g.wd, ← g.K, ← g.mg, ← g.base]; exact I.env0
  have q0 := F.run X.A X.stack s H ⟨us, []⟩ us vs Q _ g.room g.guards e0 b r h
  rw [← g.prog, ← g.wd] at q0
  refine wpAny_call (codeAny_mono q0 fun r s' hq => ?_)
  cases r with
  | error e => exact passAt tk σ pins H s e s' I hq
  | ok fl =>
    cases fl with
    | ret u => exact I.after hq
    | next => exact False.elim hq
    | brk => exact False.elim hq
    | cont => exact False.elim hq
def tCallG (sp : Sp) (W : WX) (t : TA) : TE := fun σ H Q => t σ H fun vs H1 => sp vs H1 Q (fun cls d H' => W cls d σ H')
theorem pe_callG {W : WX} {k : Nat} {f : Addr} {fd : FuncData} {ps : List Str} {sp : Sp} {x : Str} {p pos : Pos} {e : Expr} {es : List Expr} {t : TA} (g : Gd G N sc k X) (F : FnG G k f fd ps sp) (hg : Gl X x) (hm : G.mg x = some (.ref f))
    (hk : PySem.W.keepIn G.K (.ref f) = true) (hb : Binds G.K fd ps []) (tk : Takes X W) (ha : PA X (e :: es) t) (hdb : (x == ("__debug__" : Str)) = false)
    (he : starEach (e :: es) X.env = (false, eval e X.env) :: starEach es X.env) (hpl : (backTo pos (starEach es X.env)).any (·.1) = false) :
    PE X (.Call (.Name x p) (e :: es) [] pos) (tCallG sp W t) := by
  refine ⟨fun pins s σ H Q I h => ?_⟩
  have hm' : X.mg x = some (.ref f) := by rw [g.mg]; exact hm
  have hk' : PySem.W.keepIn X.K (.ref f) = true := by rw [g.K]; exact hk
  refine wpAny_Call_Name_kw (ld_glob I hg hm' ?_ hdb)
  exact PySem.W.callWith_K (h₀ := X.base) I.ok.mod.kin hk' (thn (ha.run pos pins s σ H _ I h) fun us s1 ⟨vs, H1, I1, r, q⟩ => ⟨I1.kIn, run_fnG g F hb tk I1 r q⟩) he hpl
theorem pe_callG0 {W : WX} {k : Nat} {f : Addr} {fd : FuncData} {ps : List Str} {sp : Sp} {x : Str} {p pos : Pos} (g : Gd G N sc k X) (F : FnG G k f fd ps sp) (hg : Gl X x) (hm : G.mg x = some (.ref f))
    (hk : PySem.W.keepIn G.K (.ref f) = true) (hb : Binds G.K fd ps []) (tk : Takes X W) (hdb : (x == ("__debug__" : Str)) = false) :
    PE X (.Call (.Name x p) [] [] pos) (tCallG sp W tNil) := by
  refine ⟨fun pins s σ H Q I h => ?_⟩
  have hm' : X.mg x = some (.ref f) := by rw [g.mg]; exact hm
  have hk' : PySem.W.keepIn X.K (.ref f) = true := by rw [g.K]; exact hk
  refine wpAny_Call_Name_kw (ld_glob I hg hm' ?_ hdb)
  exact PySem.W.callWith_K0 I.kIn hk' (run_fnG (us := []) g F hb tk I .nil h)
end

/-- a def by its body -/
theorem fn_ofG {G : Gx} {k : Nat} {f : Addr} {x qual : Str} {st : Stmt} {fd : FuncData} {N ps : List Str} {sp : Sp} (F : Fun G.K x qual st f fd) (S : FnScope N ps (defScope st)) (len : ∀ vs H Q E, sp vs H Q E → vs.length = ps.length)
    (hbody : ∀ (cdv : Value) (A : Around) (outer : List PySem.Env) (s : Shared) (H : Hp) (vs : List V) (Q : VK) (E : XK), Room k (A.deeper (envOfC qual (defScope st) s.heap.objs.size f cdv)) → A.guards = some [] → sp vs H Q E →
      ∃ t, PSs (cxOf (L2.CX G.P G.w) G.P G.w G.K G.mg G.base N qual (defScope st) f cdv A outer s H E) (defBody st) t ∧ t { nx := fun _ H' => Q .non H', rt := Q } (start N vs) H) : FnG G (k + 1) f fd ps sp := by
  obtain ⟨oc, od, kV, doc, pm, an, cdv, ct, osl, rfl, lk, hcd⟩ := F.ex
  refine ⟨len, fun A outer s H args us vs Q E room grd e0 bnd rel given => ?_⟩
  have sameLen := len _ _ _ _ given
  have inNow : G.K.In s.heap := e0.mod.kin.keeps fun b o e => (e0.bs b o e).1
  have noLim : s.heap.NoLimit := e0.mod.nolimit.keeps fun b o e => (e0.bs b o e).1
  have kinds : ∀ y ∈ ps.zip us, (defScope st).names.lookup y.1 = some .local ∨ ((defScope st).names.lookup y.1 = some .cell ∧ ((cellsFrom (s.heap.objs.size + 1) (defScope st).names []).lookup y.1).isSome = true) := by
    rintro ⟨nm, v⟩ hy
    have q := S.par nm (List.of_mem_zip hy).1
    exact q.imp id fun z => ⟨z, PySem.W.cellsFrom_some _ _ _ (.inl z)⟩
  refine codeAny_call_function room.depth (inNow _ _ lk) rfl S.co S.gen rfl (PySem.W.codeRec_of inNow hcd) (bnd _ _ _ _ ?_)
  refine wpAny_newFunctionEnv_cells S.kind kinds ?_
  intro env he s1 x1
  subst he
  refine ⟨noLim.keeps x1.toInCall.keep, codeAny_func ?_⟩
  obtain ⟨t, ht, hq⟩ := hbody cdv A outer s H vs Q E (room.deeper _) grd given
  have I0 := inv_start (CX := L2.CX G.P G.w) (E := E) (qual := qual) (f := f) (cd := cdv) S room.hd e0 sameLen rel x1
  refine wpAny_mono (ht.run [] s1 (start N vs) H _ I0 hq) ?_ fun _ _ z => z
  intro fl s' hs
  cases fl with
  | brk => obtain ⟨_, _, _, z⟩ := hs; exact z.elim
  | cont => obtain ⟨_, _, _, z⟩ := hs; exact z.elim
  | next => obtain ⟨σ', H', J, z⟩ := hs; exact ⟨.non, H', J.os, J.bare, J.base, J.hok, rfl, z⟩
  | ret u => obtain ⟨v, σ', H', J, rv, z⟩ := hs; exact ⟨v, H', J.os, J.bare, J.base, J.hok, rv, z⟩
end Mn
end

section
set_option Elab.async false
set_option linter.all false
set_option maxRecDepth 100000
set_option autoImplicit false
set_option maxHeartbeats 1000000
namespace Mn
open PySem PySem.Spec PyProof.Rows L2

def simple : Expr → Bool
  | .Starred .. => false
  | .Slice .. => false
  | .Set .. => false
  | _ => true
def tplain : Expr → Bool
  | .UnaryOp .Not _ _ => false
  | .BoolOp .. => false
  | .IfExp .. => false
  | .Compare .. => false
  | _ => true
def nocomp : Expr → Bool
  | .ListComp .. => false
  | .SetComp .. => false
  | .DictComp .. => false
  | _ => true
theorem simple_star {e : Expr} (h : simple e = true) (es : List Expr) (env : PySem.Env) : starEach (e :: es) env = (false, eval e env) :: starEach es env := by
  cases e <;> first | rfl | cases h
theorem simple_ix {e : Expr} (h : simple e = true) : PlainIx e := by
  intro o i
  cases e <;> first | rfl | cases h
theorem simple_beh {e : Expr} (h : simple e = true) (op : CmpOp) : behindInMarks op e = false := by
  cases e <;> first | rfl | cases h
theorem simple_fold {e : Expr} (h : simple e = true) (env : PySem.Env) (x : Value) : foldedSetIterable e env x = pure x := by
  cases e <;> first | rfl | cases h
theorem tplain_true {e : Expr} (h : tplain e = true) (env : PySem.Env) (whole : Sem Value) : isTrue e env whole = (do let v ← whole; standAt e.pos; holding [v] (truthy v)) := by
  cases e with
  | UnaryOp op _ _ => cases op <;> first | rfl | cases h
  | _ => first | rfl | cases h
theorem nocomp_sw {e : Expr} (h : nocomp e = true) (tg : Option Expr) (l : Nat) (env : PySem.Env) : swapsWith e tg l env = pure false := by
  cases e <;> first | rfl | cases h

abbrev cl (G : Gx) (n : Nat) : Nat → List D → Mu → R D := callN G.Pg G.wf n
abbrev eW (W : WX) (σ : L2.St) : XK := fun cls dd H' => W cls dd σ H'
def AdE (G : Gx) (n : Nat) (c : CE) (t : WX → TE) : Prop :=
  ∀ (W : WX) (σ : L2.St) (H : Hp) (Q : VK) (ι : List Addr) (env : Sl) (m : Mu), RS G ι H env σ → RM G.K ι H m →
    Po G ι H (eW W σ) (evE (cl G n) c env m) (fun d _ ι' H' => ∀ v, RV G.K ι' H' d v → Q v H') → t W σ H Q
def AdEs (G : Gx) (n : Nat) (cs : CEs) (t : WX → TA) : Prop :=
  ∀ (W : WX) (σ : L2.St) (H : Hp) (Q : List V → Hp → Prop) (ι : List Addr) (env : Sl) (m : Mu), RS G ι H env σ → RM G.K ι H m →
    Po G ι H (eW W σ) (evEs (cl G n) cs env m) (fun ds _ ι' H' => ∀ vs, RVs G.K ι' H' ds vs → Q vs H') → t W σ H Q
def AdT (G : Gx) (n : Nat) (c : CE) (t : WX → TT) : Prop :=
  ∀ (W : WX) (σ : L2.St) (H : Hp) (Q : Bool → Hp → Prop) (ι : List Addr) (env : Sl) (m : Mu), RS G ι H env σ → RM G.K ι H m →
    Po G ι H (eW W σ) (evE (cl G n) c env m) (fun d _ ι' H' => ∃ b, d = .bl b ∧ Q b H') → t W σ H Q
def AdO (G : Gx) (n : Nat) (c : Option CE) (t : WX → TO) : Prop :=
  ∀ (W : WX) (σ : L2.St) (H : Hp) (Q : Option Int → Hp → Prop) (ι : List Addr) (env : Sl) (m : Mu), RS G ι H env σ → RM G.K ι H m →
    Po G ι H (eW W σ) (evO (cl G n) c env m) (fun d _ ι' H' => Q d H') → t W σ H Q
section
variable (S : Sig) (N : List Str) (sc : Scope)
def SE (e : Expr) (c : CE) : Prop := ∀ (G : Gx) (n : Nat), SigOk S G → FnsOk G n → ∃ t : WX → TE, (∀ X W, Gd G N sc n X → Takes X W → PE X e (t W)) ∧ AdE G n c t
def SEs (es : List Expr) (cs : CEs) : Prop := ∀ (G : Gx) (n : Nat), SigOk S G → FnsOk G n → ∃ t : WX → TA,
  (∀ X W, Gd G N sc n X → Takes X W → PA X es (t W)) ∧ AdEs G n cs t
def ST (e : Expr) (c : CE) : Prop := ∀ (G : Gx) (n : Nat), SigOk S G → FnsOk G n → ∃ t : WX → TT, (∀ X W, Gd G N sc n X → Takes X W → PT X e (t W)) ∧ AdT G n c t
def SW (e : Expr) (c : CE) : Prop := ∀ (G : Gx) (n : Nat), SigOk S G → FnsOk G n → ∃ t : WX → TT, (∀ X W, Gd G N sc n X → Takes X W → PW X e (t W)) ∧ AdT G n c t
def SO (e : Option Expr) (c : Option CE) : Prop := ∀ (G : Gx) (n : Nat), SigOk S G → FnsOk G n → ∃ t : WX → TO, (∀ X W, Gd G N sc n X → Takes X W → PO X e (t W)) ∧ AdO G n c t
end
section
variable {S : Sig} {N : List Str} {sc : Scope} {a b c : Expr} {ca cb cc : CE} {pos : Pos}

theorem se_var {i : Nat} {x : Str} (hN : N[i]? = some x) (hv : sc.names.lookup x = some .local ∨ sc.names.lookup x = some .cell ∨ sc.names.lookup x = some .free) (h1 : (x == ("__debug__" : Str)) = false) (h2 : (x == ("__classdict__" : Str)) = false) :
    SE S N sc (.Name x pos) (.var i) := by
  intro G n _ _
  refine ⟨fun _ => tVar i, fun X W g _ => pe_var (by rw [g.nm]; exact hN) ?_ h1 h2, fun W σ H Q ι env m rs rm h => ?_⟩
  · rcases hv with z | z | z
    · exact .inl (g.lcl x z)
    · exact .inr (.inl (g.cel x z).1)
    · rcases g.free x z with q | q
      · exact .inr (.inl q)
      · exact .inr (.inr q)
  · unfold evE at h
    cases e : env[i]? with
    | none => rw [e] at h; exact (show False from h).elim
    | some o =>
      rw [e] at h
      cases o with
      | none => exact (show False from h).elim
      | some d =>
        obtain ⟨v, q1, q2⟩ := rs.at_ i d e
        exact ⟨v, q1, h.ok .refl rm v q2⟩
theorem ad_con {G : Gx} {n : Nat} {d : D} {v : V} (hv : ∀ ι H, RV G.K ι H d v) : AdE G n (.con d) (fun _ => tC v) := fun W σ H Q ι env m rs rm h => by
  unfold evE at h
  exact h.ok .refl rm v (hv ι H)
theorem se_int {i : Int} {j : Nat} : SE S N sc (.Constant (.int i) j pos) (.con (.int i)) := fun G n _ _ => ⟨_, fun _ _ _ _ => pe_int, ad_con fun _ _ => .int i⟩
theorem se_bl {i : Bool} {j : Nat} : SE S N sc (.Constant (.bool i) j pos) (.con (.bl i)) := fun G n _ _ => ⟨_, fun _ _ _ _ => pe_bl, ad_con fun _ _ => .bl i⟩
theorem se_non {j : Nat} : SE S N sc (.Constant .none j pos) (.con .non) := fun G n _ _ => ⟨_, fun _ _ _ _ => pe_non, ad_con fun _ _ => .non⟩
theorem se_str {x : Str} {j : Nat} : SE S N sc (.Constant (.str x) j pos) (.con (.str x)) := fun G n _ _ => ⟨_, fun _ _ _ _ => pe_str, ad_con fun _ _ => .str x⟩
theorem se_glob {x : Str} {d : D} (hm : (x, d) ∈ S.consts) (hg : sc.names.lookup x = some .globalImplicit) (h1 : (x == ("__debug__" : Str)) = false) : SE S N sc (.Name x pos) (.con d) := by
  intro G n so _
  obtain ⟨v, u, e, r, h⟩ := so.consts _ hm
  exact ⟨_, fun X W g _ => pe_glob (v := v) (g.gl x hg) (by rw [g.mg]; exact e) r h1, ad_con h⟩

theorem ses_nil : SEs S N sc [] .nil := fun G n _ _ => ⟨fun _ => tNil, fun _ _ _ _ => pa_nil, fun W σ H Q ι env m rs rm h => by
  unfold evEs at h
  exact h.ok .refl rm [] .nil⟩
theorem ses_cons {es : List Expr} {ces : CEs} (ha : SE S N sc a ca) (hs : simple a = true) (hr : SEs S N sc es ces) : SEs S N sc (a :: es) (.cons ca ces) := by
  intro G n so fo
  obtain ⟨ta, pa, aa⟩ := ha G n so fo
  obtain ⟨tr, pr, ar⟩ := hr G n so fo
  refine ⟨fun W => tCons (ta W) (tr W), fun X W g tk => pa_cons (pa X W g tk) (pr X W g tk) (simple_star hs es X.env), fun W σ H Q ι env m rs rm h => ?_⟩
  unfold evEs at h
  refine aa W σ H _ ι env m rs rm (h.bind.imp fun d m1 ι1 H1 x1 rm1 h1 v rv => ?_)
  refine ar W σ H1 _ ι1 env m1 (rs.mono x1) rm1 (h1.bind.imp fun ds m2 ι2 H2 x2 rm2 h2 vs rvs => ?_)
  exact h2.ok .refl rm2 (v :: vs) (.cons (rv.mono x2) rvs)

/-- a rule for a two-place operation on values -/
def OpS (G : Gx) (f : D → D → Mu → R D) (r : R2) : Prop := ∀ (d e : D) (x y : V) (m : Mu) (ι : List Addr) (H : Hp) (Q : VK) (E : XK), RM G.K ι H m → RV G.K ι H d x → RV G.K ι H e y →
  Po G ι H E (f d e m) (fun d _ ι' H' => ∀ v, RV G.K ι' H' d v → Q v H') → r x y H Q
theorem ad_op {G : Gx} {n : Nat} {f : D → D → Mu → R D} {r : R2} {ce : CE} {ta tb : WX → TE} (aa : AdE G n ca ta) (ab : AdE G n cb tb)
    (he : ∀ env m, evE (cl G n) ce env m = (evE (cl G n) ca env m).bind fun x m => (evE (cl G n) cb env m).bind fun y m => f x y m) (hf : OpS G f r) : AdE G n ce (fun W => tOp r (ta W) (tb W)) := by
  intro W σ H Q ι env m rs rm h
  rw [he] at h
  refine aa W σ H _ ι env m rs rm (h.bind.imp fun d m1 ι1 H1 x1 rm1 h1 v rv => ?_)
  refine ab W σ H1 _ ι1 env m1 (rs.mono x1) rm1 (h1.bind.imp fun e m2 ι2 H2 x2 rm2 h2 w rw => ?_)
  exact hf d e v w m2 ι2 H2 Q _ rm2 (rv.mono x2) rw h2
theorem se_op {op : Operator} {o : Op} (ha : SE S N sc a ca) (hb : SE S N sc b cb) (hr : ∀ (G : Gx) (n : Nat), ∃ r : R2, (∀ X, Gd G N sc n X → OpR X (binaryOp op) r) ∧ OpS G (opD o) r) : SE S N sc (.BinOp a op b pos) (.op o ca cb) := by
  intro G n so fo
  obtain ⟨ta, pa, aa⟩ := ha G n so fo
  obtain ⟨tb, pb, ab⟩ := hb G n so fo
  obtain ⟨r, hr, hs⟩ := hr G n
  exact ⟨fun W => tOp r (ta W) (tb W), fun X W g tk => pe_op (hr X g) (pa X W g tk) (pb X W g tk), ad_op aa ab (fun _ _ => by rw [evE]) hs⟩

theorem st_val (ha : SE S N sc a ca) (hp : tplain a = true) : ST S N sc a ca := by
  intro G n so fo
  obtain ⟨ta, pa, aa⟩ := ha G n so fo
  refine ⟨fun W => tB (ta W), fun X W g tk => pt_val (pa X W g tk) (tplain_true hp X.env), fun W σ H Q ι env m rs rm h => ?_⟩
  refine aa W σ H _ ι env m rs rm (h.imp fun d m1 ι1 H1 x1 rm1 h1 v rv => ?_)
  obtain ⟨b, rfl, q⟩ := h1
  cases rv
  exact ⟨b, rfl, q⟩
theorem st_not (ha : ST S N sc a ca) : ST S N sc (.UnaryOp .Not a pos) (.not ca) := by
  intro G n so fo
  obtain ⟨ta, pa, aa⟩ := ha G n so fo
  refine ⟨fun W => tNot (ta W), fun X W g tk => pt_not (pa X W g tk), fun W σ H Q ι env m rs rm h => ?_⟩
  unfold evE at h
  refine aa W σ H _ ι env m rs rm (h.bind.imp fun d m1 ι1 H1 x1 rm1 h1 => ?_)
  cases d with
  | bl k =>
    obtain ⟨b, e, q⟩ := h1.ok .refl rm1
    cases e
    exact ⟨k, rfl, q⟩
  | _ => exact (show False from h1).elim
theorem st_sw (h : SW S N sc a ca) : ST S N sc a ca := by
  intro G n so fo
  obtain ⟨t, p, aa⟩ := h G n so fo
  exact ⟨t, fun X W g tk => (p X W g tk).pt, aa⟩
theorem sw_and1 (ha : ST S N sc a ca) : SW S N sc (.BoolOp .And [a] pos) ca := by
  intro G n so fo
  obtain ⟨t, p, aa⟩ := ha G n so fo
  exact ⟨t, fun X W g tk => pw_and1 (p X W g tk), aa⟩
theorem sw_or1 (ha : ST S N sc a ca) : SW S N sc (.BoolOp .Or [a] pos) ca := by
  intro G n so fo
  obtain ⟨t, p, aa⟩ := ha G n so fo
  exact ⟨t, fun X W g tk => pw_or1 (p X W g tk), aa⟩
theorem sw_and {rest : List Expr} (ha : ST S N sc a ca) (hb : SW S N sc (.BoolOp .And (b :: rest) pos) cb) : SW S N sc (.BoolOp .And (a :: b :: rest) pos) (.and ca cb) := by
  intro G n so fo
  obtain ⟨ta, pa, aa⟩ := ha G n so fo
  obtain ⟨tb, pb, ab⟩ := hb G n so fo
  refine ⟨fun W => tAnd (ta W) (tb W), fun X W g tk => pw_and (pa X W g tk) (pb X W g tk), fun W σ H Q ι env m rs rm h => ?_⟩
  unfold evE at h
  refine aa W σ H _ ι env m rs rm (h.bind.imp fun d m1 ι1 H1 x1 rm1 h1 => ?_)
  cases d with
  | bl k =>
    refine ⟨k, rfl, ?_⟩
    cases k with
    | true => exact iteT (ab W σ H1 _ ι1 env m1 (rs.mono x1) rm1 h1)
    | false =>
      obtain ⟨b, e, q⟩ := h1.ok .refl rm1
      cases e
      exact iteF q
  | _ => exact (show False from h1).elim
theorem sw_or {rest : List Expr} (ha : ST S N sc a ca) (hb : SW S N sc (.BoolOp .Or (b :: rest) pos) cb) : SW S N sc (.BoolOp .Or (a :: b :: rest) pos) (.or ca cb) := by
  intro G n so fo
  obtain ⟨ta, pa, aa⟩ := ha G n so fo
  obtain ⟨tb, pb, ab⟩ := hb G n so fo
  refine ⟨fun W => tOr (ta W) (tb W), fun X W g tk => pw_or (pa X W g tk) (pb X W g tk), fun W σ H Q ι env m rs rm h => ?_⟩
  unfold evE at h
  refine aa W σ H _ ι env m rs rm (h.bind.imp fun d m1 ι1 H1 x1 rm1 h1 => ?_)
  cases d with
  | bl k =>
    refine ⟨k, rfl, ?_⟩
    cases k with
    | false => exact iteF (ab W σ H1 _ ι1 env m1 (rs.mono x1) rm1 h1)
    | true =>
      obtain ⟨b, e, q⟩ := h1.ok .refl rm1
      cases e
      exact iteT q
  | _ => exact (show False from h1).elim

theorem se_one {op : BoolOp} (ha : SE S N sc a ca) : SE S N sc (.BoolOp op [a] pos) ca := by
  intro G n so fo
  obtain ⟨t, p, aa⟩ := ha G n so fo
  exact ⟨t, fun X W g tk => pe_one (p X W g tk), aa⟩
theorem se_and {rest : List Expr} (ha : SE S N sc a ca) (hb : SE S N sc (.BoolOp .And (b :: rest) pos) cb) : SE S N sc (.BoolOp .And (a :: b :: rest) pos) (.and ca cb) := by
  intro G n so fo
  obtain ⟨ta, pa, aa⟩ := ha G n so fo
  obtain ⟨tb, pb, ab⟩ := hb G n so fo
  refine ⟨fun W => tAndV (ta W) (tb W), fun X W g tk => pe_and (pa X W g tk) (pb X W g tk), fun W σ H Q ι env m rs rm h => ?_⟩
  unfold evE at h
  refine aa W σ H _ ι env m rs rm (h.bind.imp fun d m1 ι1 H1 x1 rm1 h1 v rv => ?_)
  cases d with
  | bl k =>
    cases rv
    refine ⟨k, rfl, ?_⟩
    cases k with
    | true => exact iteT (ab W σ H1 _ ι1 env m1 (rs.mono x1) rm1 h1)
    | false => exact iteF (h1.ok .refl rm1 _ (.bl false))
  | _ => exact (show False from h1).elim
theorem se_or {rest : List Expr} (ha : SE S N sc a ca) (hb : SE S N sc (.BoolOp .Or (b :: rest) pos) cb) : SE S N sc (.BoolOp .Or (a :: b :: rest) pos) (.or ca cb) := by
  intro G n so fo
  obtain ⟨ta, pa, aa⟩ := ha G n so fo
  obtain ⟨tb, pb, ab⟩ := hb G n so fo
  refine ⟨fun W => tOrV (ta W) (tb W), fun X W g tk => pe_or (pa X W g tk) (pb X W g tk), fun W σ H Q ι env m rs rm h => ?_⟩
  unfold evE at h
  refine aa W σ H _ ι env m rs rm (h.bind.imp fun d m1 ι1 H1 x1 rm1 h1 v rv => ?_)
  cases d with
  | bl k =>
    cases rv
    refine ⟨k, rfl, ?_⟩
    cases k with
    | false => exact iteF (ab W σ H1 _ ι1 env m1 (rs.mono x1) rm1 h1)
    | true => exact iteT (h1.ok .refl rm1 _ (.bl true))
  | _ => exact (show False from h1).elim
theorem se_not (ha : SE S N sc a ca) : SE S N sc (.UnaryOp .Not a pos) (.not ca) := by
  intro G n so fo
  obtain ⟨ta, pa, aa⟩ := ha G n so fo
  refine ⟨fun W => tNotV (ta W), fun X W g tk => pe_not (pa X W g tk), fun W σ H Q ι env m rs rm h => ?_⟩
  unfold evE at h
  refine aa W σ H _ ι env m rs rm (h.bind.imp fun d m1 ι1 H1 x1 rm1 h1 v rv => ?_)
  cases d with
  | bl k =>
    cases rv
    exact ⟨k, rfl, h1.ok .refl rm1 _ (.bl _)⟩
  | _ => exact (show False from h1).elim
theorem se_neg (ha : SE S N sc a ca) : SE S N sc (.UnaryOp .USub a pos) (.neg ca) := by
  intro G n so fo
  obtain ⟨ta, pa, aa⟩ := ha G n so fo
  refine ⟨fun W => tUn (rU fun i => .int (-i)) (ta W), fun X W g tk => pe_un un_neg (pa X W g tk), fun W σ H Q ι env m rs rm h => ?_⟩
  unfold evE at h
  refine aa W σ H _ ι env m rs rm (h.bind.imp fun d m1 ι1 H1 x1 rm1 h1 v rv => ?_)
  cases d with
  | int k =>
    cases rv
    exact ⟨k, rfl, h1.ok .refl rm1 _ (.int _)⟩
  | _ => exact (show False from h1).elim
theorem se_ite (hc : ST S N sc c cc) (ha : SE S N sc a ca) (hb : SE S N sc b cb) : SE S N sc (.IfExp c a b pos) (.ite cc ca cb) := by
  intro G n so fo
  obtain ⟨tc, pc, ac⟩ := hc G n so fo
  obtain ⟨ta, pa, aa⟩ := ha G n so fo
  obtain ⟨tb, pb, ab⟩ := hb G n so fo
  refine ⟨fun W => tIf (tc W) (ta W) (tb W), fun X W g tk => pe_ifExp (pc X W g tk) (pa X W g tk) (pb X W g tk), fun W σ H Q ι env m rs rm h => ?_⟩
  unfold evE at h
  refine ac W σ H _ ι env m rs rm (h.bind.imp fun d m1 ι1 H1 x1 rm1 h1 => ?_)
  cases d with
  | bl k =>
    refine ⟨k, rfl, ?_⟩
    cases k with
    | true => exact iteT (aa W σ H1 _ ι1 env m1 (rs.mono x1) rm1 h1)
    | false => exact iteF (ab W σ H1 _ ι1 env m1 (rs.mono x1) rm1 h1)
  | _ => exact (show False from h1).elim

theorem sz_le {n : Nat} (h : szOk n = true) : n ≤ sizeLine := Nat.le_trans (of_decide_eq_true (szOk_eq n ▸ h)) (by decide)
theorem sz_lt {n : Nat} (h : szOk n = true) : n < sizeLine := Nat.lt_of_le_of_lt (of_decide_eq_true (szOk_eq n ▸ h)) (by decide)
theorem po_newT {G : Gx} {ι : List Addr} {H : Hp} {E : XK} {ds : List D} {xs : List V} {m : Mu} {Q : VK} (rm : RM G.K ι H m) (rv : RVs G.K ι H ds xs)
    (h : Po G ι H E (newT ds m) (fun d _ ι' H' => ∀ v, RV G.K ι' H' d v → Q v H')) : xs.length ≤ sizeLine ∧ ∀ p, H p = none → Q (.ref p) (upd H p (.tup xs)) := by
  unfold newT at h
  by_cases hz : szOk ds.length = true
  · rw [if_pos hz] at h
    refine ⟨by rw [← rv.length]; exact sz_le hz, fun p hp => ?_⟩
    exact h.ok (.same (same_upd hp)) (rm.newT hp) _ (.newT hp rv)
  · rw [if_neg hz] at h
    exact (show False from h).elim
theorem po_newL {G : Gx} {ι : List Addr} {H : Hp} {E : XK} {ds : List D} {xs : List V} {m : Mu} {Q : VK} (rm : RM G.K ι H m) (rv : RVs G.K ι H ds xs)
    (h : Po G ι H E (newL ds m) (fun d _ ι' H' => ∀ v, RV G.K ι' H' d v → Q v H')) : xs.length ≤ sizeLine ∧ ∀ p, H p = none → Q (.ref p) (upd H p (.lst xs)) := by
  unfold newL at h
  by_cases hz : szOk ds.length = true
  · rw [if_pos hz] at h
    refine ⟨by rw [← rv.length]; exact sz_le hz, fun p hp => ?_⟩
    exact h.ok (.new hp p) (rm.newL hp rv) _ (.newL rm)
  · rw [if_neg hz] at h
    exact (show False from h).elim
theorem se_tup {es : List Expr} {ces : CEs} {k : Nat} (hs : SEs S N sc es ces) : SE S N sc (.Tuple es k pos) (.tup ces) := by
  intro G n so fo
  obtain ⟨ta, pa, aa⟩ := hs G n so fo
  refine ⟨fun W => tTup (ta W), fun X W g tk => pe_tup (pa X W g tk), fun W σ H Q ι env m rs rm h => ?_⟩
  unfold evE at h
  exact aa W σ H _ ι env m rs rm (h.bind.imp fun d m1 ι1 H1 x1 rm1 h1 vs rvs => po_newT rm1 rvs h1)
theorem se_lst {es : List Expr} {ces : CEs} (hs : SEs S N sc es ces) : SE S N sc (.List es pos) (.lst ces) := by
  intro G n so fo
  obtain ⟨ta, pa, aa⟩ := hs G n so fo
  refine ⟨fun W => tLst (ta W), fun X W g tk => pe_lst (pa X W g tk), fun W σ H Q ι env m rs rm h => ?_⟩
  unfold evE at h
  exact aa W σ H _ ι env m rs rm (h.bind.imp fun d m1 ι1 H1 x1 rm1 h1 vs rvs => po_newL rm1 rvs h1)

theorem backTo_plain {es : List Expr} {env : PySem.Env} {pos : Pos} (h : ∀ e ∈ es, simple e = true) : (backTo pos (starEach es env)).any (·.1) = false := by
  have q : ∀ es : List Expr, (∀ e ∈ es, simple e = true) → (starEach es env).any (·.1) = false := by
    intro es
    induction es with
    | nil => intro _; rfl
    | cons e es ih =>
      intro h
      rw [simple_star (h e List.mem_cons_self)]
      simpa using ih fun e he => h e (List.mem_cons_of_mem _ he)
  cases es with
  | nil => rfl
  | cons e es =>
    have := q _ h
    unfold backTo
    simpa using this
theorem se_call {x : Str} {p : Pos} {es : List Expr} {ces : CEs} {i ar : Nat} (hm : (x, i, ar) ∈ S.fns) (hg : sc.names.lookup x = some .globalImplicit) (h1 : (x == ("__debug__" : Str)) = false) (hs : SEs S N sc (a :: es) ces) (h0 : simple a = true) (hp : ∀ e ∈ es, simple e = true) :
    SE S N sc (.Call (.Name x p) (a :: es) [] pos) (.call i ces) := by
  intro G n so fo
  obtain ⟨ta, pa, aa⟩ := hs G n so fo
  obtain ⟨fn, e1, e2, e3⟩ := so.fns _ hm
  obtain ⟨f, fd, hmg, hk, hb, F⟩ := fo i fn e1
  refine ⟨fun W => tCallG (spN G n i) W (ta W), fun X W g tk => ?_, fun W σ H Q ι env m rs rm h => ?_⟩
  · have hmg' : G.mg x = some (.ref f) := by rw [← hmg, e2]
    exact pe_callG g F (g.gl x hg) hmg' hk hb tk (pa X W g tk) h1 (simple_star h0 es X.env) (backTo_plain hp)
  · unfold evE at h
    refine aa W σ H _ ι env m rs rm (h.bind.imp fun ds m1 ι1 H1 x1 rm1 h1 vs rvs => ?_)
    exact ⟨ds, ι1, m1, rvs, rm1, h1⟩
end
end Mn
end

section
set_option Elab.async false
set_option linter.all false
set_option maxRecDepth 100000
set_option autoImplicit false
set_option maxHeartbeats 1000000
namespace Mn
open PySem PySem.Spec PyProof.Rows L2

theorem opS_or {G : Gx} {f : D → D → Mu → R D} {r r' : R2} (h : ∀ (d e : D) (x y : V) (m : Mu) (ι : List Addr) (H : Hp) (Q : VK) (E : XK), RM G.K ι H m → RV G.K ι H d x → RV G.K ι H e y →
    Po G ι H E (f d e m) (fun d _ ι' H' => ∀ v, RV G.K ι' H' d v → Q v H') → r x y H Q ∨ r' x y H Q) : OpS G f (fun x y H Q => r x y H Q ∨ r' x y H Q) := h
section
variable {X : Cx} {G : Gx} {N : List Str} {sc : Scope} {n : Nat}
theorem room64 (g : Gd G N sc n X) : X.A.units + 64 < cLine := g.room.units
theorem room65 (g : Gd G N sc n X) : X.A.units + 65 < cLine := by have := g.room.un; omega
theorem room1 (g : Gd G N sc n X) : X.A.units + 1 < cLine := by have := g.room.un; omega

def rAddX (K : PySem.W.Frag) : R2 := fun x y H Q => rI0 (fun i j => .int (i + j)) x y H Q ∨
  ((∃ i j, x = .str i ∧ y = .str j ∧ i.length + j.length ≤ sizeLine ∧ Q (.str (i ++ j)) H) ∨ (rCatA K x y H Q ∨ rCat x y H Q))
theorem op_addX : OpR X (binaryOp .Add) (rAddX X.K) := op_add.or (op_add_str.or (op_catA.or op_cat))
theorem ops_add (G : Gx) : OpS G (opD .add) (rAddX G.K) := by
  intro d e x y m ι H Q E rm rx ry h
  cases rx with
  | int i =>
    cases ry with
    | int j => exact .inl ⟨i, j, rfl, rfl, h.ok .refl rm _ (.int _)⟩
    | _ => exact (show False from h).elim
  | str i =>
    cases ry with
    | str j =>
      by_cases hz : szOk (i.length + j.length) = true
      · have h' : Po G ι H E (if szOk (i.length + j.length) then R.ok (D.str (i ++ j)) m else R.no) _ := h
        rw [if_pos hz] at h'
        exact .inr (.inl ⟨i, j, rfl, rfl, sz_le hz, h'.ok .refl rm _ (.str _)⟩)
      · have h' : Po G ι H E (if szOk (i.length + j.length) then R.ok (D.str (i ++ j)) m else R.no) _ := h
        rw [if_neg hz] at h'
        exact (show False from h').elim
    | _ => exact (show False from h).elim
  | @tup ds a xs h1 h2 =>
    cases ry with
    | @tup es b ys h3 h4 =>
      have h' : Po G ι H E (newT (ds ++ es) m) _ := h
      refine .inr (.inr (.inl ⟨a, b, xs, ys, rfl, rfl, h1, h3, ?_⟩))
      have hz := (po_newT rm (h2.append h4) h').1
      rw [List.length_append] at hz
      unfold newT at h'
      by_cases hk : szOk (ds ++ es).length = true
      · rw [if_pos hk] at h'
        refine ⟨hz, fun e0 => ?_, fun _ e0 => ?_, fun _ _ p hp => ?_⟩
        · subst e0
          have : ds = [] := by cases h2; rfl
          subst this
          exact h'.ok .refl rm _ (.tup h3 h4)
        · subst e0
          have : es = [] := by cases h4; rfl
          subst this
          rw [List.append_nil] at h'
          exact h'.ok .refl rm _ (.tup h1 h2)
        · exact h'.ok (.same (same_upd hp)) (rm.newT hp) _ (.newT hp (h2.append h4))
      · rw [if_neg hk] at h'
        exact (show False from h').elim
    | _ => exact (show False from h).elim
  | @loc l a ha =>
    cases ry with
    | @loc k b hb =>
      have h' : Po G ι H E (match m[l]?, m[k]? with | some (.lst xs), some (.lst ys) => newL (xs ++ ys) m | _, _ => .no) _ := h
      split at h'
      · rename_i xs ys e1 e2
        obtain ⟨a', q1, us, q2, q3⟩ := rm.at_ e1
        obtain ⟨b', q4, ws, q5, q6⟩ := rm.at_ e2
        rw [ha] at q1; cases q1
        rw [hb] at q4; cases q4
        have := po_newL rm (q3.append q6) h'
        rw [List.length_append] at this
        exact .inr (.inr (.inr ⟨_, _, us, ws, rfl, rfl, q2, q5, this⟩))
      · exact (show False from h').elim
    | _ => exact (show False from h).elim
  | non => cases ry <;> exact (show False from h).elim
  | bl b => cases ry <;> exact (show False from h).elim
theorem ops_sub (G : Gx) : OpS G (opD .sub) (rI0 fun i j => .int (i - j)) := by
  intro d e x y m ι H Q E rm rx ry h
  cases rx with
  | int i =>
    cases ry with
    | int j => exact ⟨i, j, rfl, rfl, h.ok .refl rm _ (.int _)⟩
    | _ => exact (show False from h).elim
  | _ => cases ry <;> exact (show False from h).elim
theorem op_fdivX : OpR X (binaryOp .FloorDiv) (rI (fun _ j => j ≠ 0 ∧ j.natAbs.log2 < 9000) fun i j => .int (i.fdiv j)) :=
  opI fun i j _ _ _ _ _ hc q => floordiv_int hc.1 q (.inl (PyProof.noPylong_of_log2 hc.2))
theorem ops_fdiv (G : Gx) : OpS G (opD .fdiv) (rI (fun _ j => j ≠ 0 ∧ j.natAbs.log2 < 9000) fun i j => .int (i.fdiv j)) := by
  intro d e x y m ι H Q E rm rx ry h
  cases rx with
  | int i =>
    cases ry with
    | int j =>
      have h' : Po G ι H E (if divOk j then R.ok (D.int (i.fdiv j)) m else R.no) _ := h
      by_cases hz : divOk j = true
      · rw [if_pos hz] at h'
        have hz2 := Bool.and_eq_true_iff.mp (divOk_eq j ▸ hz)
        exact ⟨i, j, rfl, rfl, ⟨of_decide_eq_true hz2.1, of_decide_eq_true hz2.2⟩, h'.ok .refl rm _ (.int _)⟩
      · rw [if_neg hz] at h'
        exact (show False from h').elim
    | _ => exact (show False from h).elim
  | _ => cases ry <;> exact (show False from h).elim
theorem ops_mod (G : Gx) : OpS G (opD .mod) (rI (fun _ j => j ≠ 0) fun i j => .int (i.fmod j)) := by
  intro d e x y m ι H Q E rm rx ry h
  cases rx with
  | int i =>
    cases ry with
    | int j =>
      have h' : Po G ι H E (if decide (j ≠ 0) then R.ok (D.int (i.fmod j)) m else R.no) _ := h
      by_cases hz : decide (j ≠ 0) = true
      · rw [if_pos hz] at h'
        exact ⟨i, j, rfl, rfl, of_decide_eq_true hz, h'.ok .refl rm _ (.int _)⟩
      · rw [if_neg hz] at h'
        exact (show False from h').elim
    | _ => exact (show False from h).elim
  | _ => cases ry <;> exact (show False from h).elim
theorem ops_pow (G : Gx) : OpS G (opD .pow) (rI CPow fun i j => .int (i ^ j.toNat)) := by
  intro d e x y m ι H Q E rm rx ry h
  cases rx with
  | int i =>
    cases ry with
    | int j =>
      have h' : Po G ι H E (if powOk i j then R.ok (D.int (i ^ j.toNat)) m else R.no) _ := h
      by_cases hz : powOk i j = true
      · rw [if_pos hz] at h'
        have hz2 := Bool.and_eq_true_iff.mp (powOk_eq i j ▸ hz)
        have hz3 := Bool.and_eq_true_iff.mp hz2.2
        exact ⟨i, j, rfl, rfl, ⟨of_decide_eq_true hz2.1, of_decide_eq_true hz3.1, of_decide_eq_true hz3.2⟩, h'.ok .refl rm _ (.int _)⟩
      · rw [if_neg hz] at h'
        exact (show False from h').elim
    | _ => exact (show False from h).elim
  | _ => cases ry <;> exact (show False from h).elim

/-- a comparison's rule: from what the evaluator tells -/
def CpS (G : Gx) (f : D → D → Mu → Option Bool) (r : R2) : Prop := ∀ (d e : D) (x y : V) (m : Mu) (ι : List Addr) (H : Hp) (Q : VK) (b : Bool), RM G.K ι H m → RV G.K ι H d x → RV G.K ι H e y →
  f d e m = some b → Q (.bl b) H → r x y H Q
theorem dp_of {ι : List Addr} {H : Hp} {m : Mu} {d : D} {v : V} {x : PyData} (rm : RM G.K ι H m) (h : tree m d = some x) (r : RV G.K ι H d v) : Dp G.K H v x := rm.dp 60 d x v h r
theorem eqD_of {ι : List Addr} {H : Hp} {m : Mu} {d e : D} {x y : V} {b : Bool} (rm : RM G.K ι H m) (rx : RV G.K ι H d x) (ry : RV G.K ι H e y) (h : eqD m d e = some b) :
    ∃ p q, Dp G.K H x p ∧ Dp G.K H y q ∧ SeqAt.shaped p = true ∧ SeqAt.shaped q = true ∧ PyData.eqv p q = b := by
  unfold eqD at h
  split at h
  · rename_i p q e1 e2
    split at h
    · rename_i hz
      have hz2 := Bool.and_eq_true_iff.mp hz
      exact ⟨p, q, dp_of rm e1 rx, dp_of rm e2 ry, hz2.1, hz2.2, Option.some.inj h⟩
    · cases h
  · cases h
def rEqC (K : PySem.W.Frag) : R2 := fun x y H Q => rEqD K x y H Q ∨ rEq x y H Q
def rNeC (K : PySem.W.Frag) : R2 := fun x y H Q => rNeD K x y H Q ∨ rNe x y H Q
theorem op_eqC {X : Cx} (hu : X.A.units + 64 < cLine) : OpR X (compareOp .Eq) (rEqC X.K) := fun pins s σ H x y v u Q I rx ry h => h.elim (op_eqD hu pins s σ H x y v u Q I rx ry) (op_eq pins s σ H x y v u Q I rx ry)
theorem op_neC {X : Cx} (hu : X.A.units + 64 < cLine) : OpR X (compareOp .NotEq) (rNeC X.K) := fun pins s σ H x y v u Q I rx ry h => h.elim (op_neD hu pins s σ H x y v u Q I rx ry) (op_ne pins s σ H x y v u Q I rx ry)
theorem dec_strV {x y : Str} : decide (V.str x = V.str y) = decide (x = y) := by
  by_cases h : x = y
  · subst h; simp
  · rw [decide_eq_false h, decide_eq_false fun z => h (V.str.inj z)]
theorem eqC_cases {m : Mu} {d e : D} {b : Bool} (h : eqC m d e = some b) : (∃ x y, d = .str x ∧ e = .str y ∧ decide (x = y) = b) ∨ eqD m d e = some b := by
  unfold eqC at h
  split at h
  · exact .inl ⟨_, _, rfl, rfl, Option.some.inj h⟩
  · exact .inr h
theorem cps_eq (G : Gx) : CpS G (cmpD .eq) (rEqC G.K) := by
  intro d e x y m ι H Q b rm rx ry h q
  rcases eqC_cases (show eqC m d e = some b by cases d <;> cases e <;> exact h) with ⟨s, t, rfl, rfl, hb⟩ | h
  · cases rx; cases ry
    exact .inr ⟨rfl, by rw [dec_strV, hb]; exact q⟩
  · obtain ⟨p, q', h1, h2, h3, h4, h5⟩ := eqD_of rm rx ry h
    exact .inl ⟨p, q', h1, h2, h3, h4, by rw [h5]; exact q⟩
theorem cps_ne (G : Gx) : CpS G (cmpD .ne) (rNeC G.K) := by
  intro d e x y m ι H Q b rm rx ry h q
  have h' : (eqC m d e).map (!·) = some b := by cases d <;> cases e <;> exact h
  cases h0 : eqC m d e with
  | none => rw [h0] at h'; cases h'
  | some c =>
    rw [h0] at h'
    cases h'
    rcases eqC_cases h0 with ⟨s, t, rfl, rfl, hb⟩ | h0
    · cases rx; cases ry
      exact .inr ⟨rfl, by rw [dec_strV, hb]; exact q⟩
    · obtain ⟨p, q', h1, h2, h3, h4, h5⟩ := eqD_of rm rx ry h0
      exact .inl ⟨p, q', h1, h2, h3, h4, by rw [h5]; exact q⟩
theorem room_tup {X : Cx} {d : PyData} {ds : List PyData} (sd : SeqAt.shaped d = true) (hu : X.A.units + 65 < cLine) : X.A.units + 1 + min (PyData.depthAll ds) d.depth < cLine := room_in_shaped sd hu
def rInT (K : PySem.W.Frag) : R2 := fun x y H Q => ∃ d ds, Dp K H x d ∧ Dp K H y (.tuple ds) ∧ SeqAt.shaped d = true ∧ SeqAt.shaped (.tuple ds) = true ∧ Q (.bl (ds.any fun z => PyData.eqv z d)) H
def rNotInT (K : PySem.W.Frag) : R2 := fun x y H Q => ∃ d ds, Dp K H x d ∧ Dp K H y (.tuple ds) ∧ SeqAt.shaped d = true ∧ SeqAt.shaped (.tuple ds) = true ∧ Q (.bl (!ds.any fun z => PyData.eqv z d)) H
theorem op_inT {X : Cx} (hu : X.A.units + 65 < cLine) : OpR X (compareOp .In) (rInT X.K) := by
  intro pins s σ H x y v u Q I rx ry h
  obtain ⟨d, ds, hd, he, sd, se, q⟩ := h
  obtain ⟨as, r1⟩ := Dp.reads I d x v hd rx
  obtain ⟨bs, r2⟩ := Dp.reads I (.tuple ds) y u he ry
  exact SeqAt.in_tuple_reads r2 r1 (SeqAt.canLay_of_shaped se) (SeqAt.canLay_of_shaped sd) (room_tup sd hu) ⟨.bl _, H, I, rfl, q⟩
theorem op_notInT {X : Cx} (hu : X.A.units + 65 < cLine) : OpR X (compareOp .NotIn) (rNotInT X.K) := by
  intro pins s σ H x y v u Q I rx ry h
  obtain ⟨d, ds, hd, he, sd, se, q⟩ := h
  obtain ⟨as, r1⟩ := Dp.reads I d x v hd rx
  obtain ⟨bs, r2⟩ := Dp.reads I (.tuple ds) y u he ry
  exact SeqAt.notIn_tuple_reads r2 r1 (SeqAt.canLay_of_shaped se) (SeqAt.canLay_of_shaped sd) (room_tup sd hu) ⟨.bl _, H, I, rfl, q⟩
def rInA (K : PySem.W.Frag) : R2 := fun x y H Q => rInD K x y H Q ∨ rInT K x y H Q
def rNotInA (K : PySem.W.Frag) : R2 := fun x y H Q => rNotInD K x y H Q ∨ rNotInT K x y H Q
theorem inD_of {ι : List Addr} {H : Hp} {m : Mu} {d e : D} {x y : V} {b : Bool} (rm : RM G.K ι H m) (rx : RV G.K ι H d x) (ry : RV G.K ι H e y) (h : inD m d e = some b) :
    ∃ p qs, Dp G.K H x p ∧ (Dp G.K H y (.list qs) ∧ SeqAt.shaped (.list qs) = true ∨ Dp G.K H y (.tuple qs) ∧ SeqAt.shaped (.tuple qs) = true) ∧ SeqAt.shaped p = true ∧ (qs.any fun z => PyData.eqv z p) = b := by
  unfold inD at h
  split at h
  · rename_i p q e1 e2
    split at h
    · rename_i hz
      have hz2 := Bool.and_eq_true_iff.mp hz
      exact ⟨p, _, dp_of rm e1 rx, .inl ⟨dp_of rm e2 ry, hz2.2⟩, hz2.1, Option.some.inj h⟩
    · cases h
  · rename_i p q e1 e2
    split at h
    · rename_i hz
      have hz2 := Bool.and_eq_true_iff.mp hz
      exact ⟨p, _, dp_of rm e1 rx, .inr ⟨dp_of rm e2 ry, hz2.2⟩, hz2.1, Option.some.inj h⟩
    · cases h
  · cases h
theorem cps_in (G : Gx) : CpS G (cmpD .inn) (rInA G.K) := by
  intro d e x y m ι H Q b rm rx ry h q
  obtain ⟨p, q', h1, h2, h3, h5⟩ := inD_of rm rx ry (show inD m d e = some b by cases d <;> cases e <;> exact h)
  rcases h2 with ⟨h2, h4⟩ | ⟨h2, h4⟩
  · exact .inl ⟨p, q', h1, h2, h3, h4, by rw [h5]; exact q⟩
  · exact .inr ⟨p, q', h1, h2, h3, h4, by rw [h5]; exact q⟩
theorem cps_notin (G : Gx) : CpS G (cmpD .notin) (rNotInA G.K) := by
  intro d e x y m ι H Q b rm rx ry h q
  have h' : (inD m d e).map (!·) = some b := by cases d <;> cases e <;> exact h
  cases h0 : inD m d e with
  | none => rw [h0] at h'; cases h'
  | some c =>
    rw [h0] at h'
    obtain ⟨p, q', h1, h2, h3, h5⟩ := inD_of rm rx ry h0
    cases h'
    rcases h2 with ⟨h2, h4⟩ | ⟨h2, h4⟩
    · refine .inl ⟨p, q', h1, h2, h3, h4, ?_⟩
      rw [h5]; exact q
    · refine .inr ⟨p, q', h1, h2, h3, h4, ?_⟩
      rw [h5]; exact q
theorem cps_lt (G : Gx) : CpS G (cmpD .lt) (rI0 fun i j => .bl (decide (i < j))) := by
  intro d e x y m ι H Q b rm rx ry h q
  cases rx with
  | int i => cases ry with
    | int j => cases h; exact ⟨i, j, rfl, rfl, q⟩
    | _ => cases h
  | _ => cases ry <;> cases h
theorem cps_le (G : Gx) : CpS G (cmpD .le) (rI0 fun i j => .bl (decide (i ≤ j))) := by
  intro d e x y m ι H Q b rm rx ry h q
  cases rx with
  | int i => cases ry with
    | int j => cases h; exact ⟨i, j, rfl, rfl, q⟩
    | _ => cases h
  | _ => cases ry <;> cases h
theorem cps_gt (G : Gx) : CpS G (cmpD .gt) (rI0 fun i j => .bl (decide (j < i))) := by
  intro d e x y m ι H Q b rm rx ry h q
  cases rx with
  | int i => cases ry with
    | int j => cases h; exact ⟨i, j, rfl, rfl, q⟩
    | _ => cases h
  | _ => cases ry <;> cases h
theorem cps_ge (G : Gx) : CpS G (cmpD .ge) (rI0 fun i j => .bl (decide (j ≤ i))) := by
  intro d e x y m ι H Q b rm rx ry h q
  cases rx with
  | int i => cases ry with
    | int j => cases h; exact ⟨i, j, rfl, rfl, q⟩
    | _ => cases h
  | _ => cases ry <;> cases h
def rIsX : R2 := fun x y H Q => (y = .non ∧ Q (.bl (decide (x = .non))) H) ∨ rIsB x y H Q
def rNotX : R2 := fun x y H Q => (y = .non ∧ Q (.bl (!decide (x = .non))) H) ∨ rNotB x y H Q
theorem op_isX : OpR X (compareOp .Is) rIsX := op_isN.or op_isBl
theorem op_notX : OpR X (compareOp .IsNot) rNotX := op_notN.or op_notBl
theorem cps_is (G : Gx) : CpS G (cmpD .is) rIsX := by
  intro d e x y m ι H Q b rm rx ry h q
  cases ry with
  | non =>
    refine .inl ⟨rfl, ?_⟩
    cases rx <;> cases h <;> exact q
  | bl j =>
    cases rx with
    | bl i => cases h; exact .inr ⟨i, j, rfl, rfl, q⟩
    | _ => cases h
  | _ => cases rx <;> cases h
theorem cps_isnt (G : Gx) : CpS G (cmpD .isnt) rNotX := by
  intro d e x y m ι H Q b rm rx ry h q
  cases ry with
  | non =>
    refine .inl ⟨rfl, ?_⟩
    cases rx <;> cases h <;> exact q
  | bl j =>
    cases rx with
    | bl i => cases h; exact .inr ⟨i, j, rfl, rfl, q⟩
    | _ => cases h
  | _ => cases rx <;> cases h
end
/-- the comparisons -/
inductive CmpK : CmpOp → Cp → Prop where
  | eq : CmpK .Eq .eq
  | ne : CmpK .NotEq .ne
  | lt : CmpK .Lt .lt
  | le : CmpK .LtE .le
  | gt : CmpK .Gt .gt
  | ge : CmpK .GtE .ge
  | is : CmpK .Is .is
  | isnt : CmpK .IsNot .isnt
  | inn : CmpK .In .inn
  | notin : CmpK .NotIn .notin
theorem CmpK.rule {op : CmpOp} {o : Cp} (k : CmpK op o) (G : Gx) (N : List Str) (sc : Scope) (n : Nat) : ∃ r : R2, (∀ X, Gd G N sc n X → OpR X (compareOp op) r) ∧ CpS G (cmpD o) r := by
  cases k with
  | eq => exact ⟨rEqC G.K, fun X g => by rw [← g.K]; exact op_eqC (room64 g), cps_eq G⟩
  | ne => exact ⟨rNeC G.K, fun X g => by rw [← g.K]; exact op_neC (room64 g), cps_ne G⟩
  | lt => exact ⟨_, fun X g => op_lt, cps_lt G⟩
  | le => exact ⟨_, fun X g => op_le, cps_le G⟩
  | gt => exact ⟨_, fun X g => op_gt, cps_gt G⟩
  | ge => exact ⟨_, fun X g => op_ge, cps_ge G⟩
  | is => exact ⟨_, fun X g => op_isX, cps_is G⟩
  | isnt => exact ⟨_, fun X g => op_notX, cps_isnt G⟩
  | inn => exact ⟨rInA G.K, fun X g => by rw [← g.K]; exact (op_inD (room65 g)).or (op_inT (room65 g)), cps_in G⟩
  | notin => exact ⟨rNotInA G.K, fun X g => by rw [← g.K]; exact (op_notInD (room65 g)).or (op_notInT (room65 g)), cps_notin G⟩
section
variable {S : Sig} {N : List Str} {sc : Scope} {a b c : Expr} {ca cb cc : CE} {pos : Pos}
theorem ad_cmp {G : Gx} {n : Nat} {o : Cp} {r : R2} {ta tb : WX → TE} (aa : AdE G n ca ta) (ab : AdE G n cb tb) (hr : CpS G (cmpD o) r) : AdE G n (.cmp o ca cb) (fun W => tOp r (ta W) (tb W)) := by
  intro W σ H Q ι env m rs rm h
  unfold evE at h
  refine aa W σ H _ ι env m rs rm (h.bind.imp fun d m1 ι1 H1 x1 rm1 h1 v rv => ?_)
  refine ab W σ H1 _ ι1 env m1 (rs.mono x1) rm1 (h1.bind.imp fun e m2 ι2 H2 x2 rm2 h2 w rw => ?_)
  obtain ⟨y, e1, e2⟩ := h2.opt rm2
  cases e3 : cmpD o d e m2 with
  | none => rw [e3] at e1; cases e1
  | some k =>
    rw [e3] at e1
    cases e1
    exact hr d e v w m2 ι2 H2 Q k rm2 (rv.mono x2) rw e3 (e2 _ (.bl k))
theorem se_cmp {op : CmpOp} {o : Cp} (k : CmpK op o) (ha : SE S N sc a ca) (hb : SE S N sc b cb) (hs : simple b = true) : SE S N sc (.Compare a [op] [b] pos) (.cmp o ca cb) := by
  intro G n so fo
  obtain ⟨ta, pa, aa⟩ := ha G n so fo
  obtain ⟨tb, pb, ab⟩ := hb G n so fo
  obtain ⟨r, hr, hq⟩ := k.rule G N sc n
  exact ⟨fun W => tOp r (ta W) (tb W), fun X W g tk => pe_cmpR (hr X g) (pa X W g tk) (pb X W g tk) (simple_beh hs op), ad_cmp aa ab hq⟩
theorem st_of_pt {t : WX → TE} {G : Gx} {n : Nat} {ce : CE} (h : AdE G n ce t) : AdT G n ce (fun W => tTest (t W)) := by
  intro W σ H Q ι env m rs rm q
  refine h W σ H _ ι env m rs rm (q.imp fun d m1 ι1 H1 x1 rm1 h1 v rv => ?_)
  obtain ⟨b, rfl, z⟩ := h1
  cases rv
  exact ⟨b, rfl, z⟩
theorem st_cmp {op : CmpOp} {o : Cp} (k : CmpK op o) (ha : SE S N sc a ca) (hb : SE S N sc b cb) (hs : simple b = true) : ST S N sc (.Compare a [op] [b] pos) (.cmp o ca cb) := by
  intro G n so fo
  obtain ⟨ta, pa, aa⟩ := ha G n so fo
  obtain ⟨tb, pb, ab⟩ := hb G n so fo
  obtain ⟨r, hr, hq⟩ := k.rule G N sc n
  exact ⟨fun W => tTest (tOp r (ta W) (tb W)), fun X W g tk => pt_cmpR (hr X g) (pa X W g tk) (pb X W g tk) (simple_beh hs op), st_of_pt (ad_cmp aa ab hq)⟩
theorem ad_chain {G : Gx} {n : Nat} {o o' : Cp} {r r' : R2} {ta tb tc : WX → TE} (aa : AdE G n ca ta) (ab : AdE G n cb tb) (ac : AdE G n cc tc) (hr : CpS G (cmpD o) r) (hr' : CpS G (cmpD o') r') :
    AdE G n (.chain o o' ca cb cc) (fun W => tChain r r' (ta W) (tb W) (tc W)) := by
  intro W σ H Q ι env m rs rm h
  unfold evE at h
  refine aa W σ H _ ι env m rs rm (h.bind.imp fun d m1 ι1 H1 x1 rm1 h1 v rv => ?_)
  refine ab W σ H1 _ ι1 env m1 (rs.mono x1) rm1 (h1.bind.imp fun e m2 ι2 H2 x2 rm2 h2 w rw => ?_)
  cases e3 : cmpD o d e m2 with
  | none => rw [e3] at h2; exact (show False from h2).elim
  | some k =>
    rw [e3] at h2
    refine hr d e v w m2 ι2 H2 _ k rm2 (rv.mono x2) rw e3 ⟨k, rfl, ?_⟩
    cases k with
    | false => exact iteF (h2.ok .refl rm2 _ (.bl _))
    | true =>
      refine iteT (ac W σ H2 _ ι2 env m2 ((rs.mono x1).mono x2) rm2 (h2.bind.imp fun f m3 ι3 H3 x3 rm3 h3 u ru => ?_))
      obtain ⟨y, e4, e5⟩ := h3.opt rm3
      cases e6 : cmpD o' e f m3 with
      | none => rw [e6] at e4; cases e4
      | some k' =>
        rw [e6] at e4
        cases e4
        exact hr' e f w u m3 ι3 H3 Q k' rm3 (rw.mono x3) ru e6 (e5 _ (.bl k'))
end
end Mn
end

section
set_option Elab.async false
set_option linter.all false
set_option maxRecDepth 100000
set_option autoImplicit false
set_option maxHeartbeats 1000000
namespace Mn
open PySem PySem.Spec PyProof.Rows L2
section
variable {S : Sig} {N : List Str} {sc : Scope} {a b c e : Expr} {ca cb cc : CE} {pos : Pos}
theorem se_chain {op op' : CmpOp} {o o' : Cp} (k : CmpK op o) (k' : CmpK op' o') (ha : SE S N sc a ca) (hb : SE S N sc b cb) (hc : SE S N sc c cc) (hs : simple c = true) : SE S N sc (.Compare a [op, op'] [b, c] pos) (.chain o o' ca cb cc) := by
  intro G n so fo
  obtain ⟨ta, pa, aa⟩ := ha G n so fo
  obtain ⟨tb, pb, ab⟩ := hb G n so fo
  obtain ⟨tc, pc, ac⟩ := hc G n so fo
  obtain ⟨r, hr, hq⟩ := k.rule G N sc n
  obtain ⟨r', hr', hq'⟩ := k'.rule G N sc n
  exact ⟨fun W => tChain r r' (ta W) (tb W) (tc W), fun X W g tk => pe_chain (hr X g) (hr' X g) (pa X W g tk) (pb X W g tk) (pc X W g tk) (simple_beh hs op'), ad_chain aa ab ac hq hq'⟩
theorem st_chain {op op' : CmpOp} {o o' : Cp} (k : CmpK op o) (k' : CmpK op' o') (ha : SE S N sc a ca) (hb : SE S N sc b cb) (hc : SE S N sc c cc) (hs : simple c = true) : ST S N sc (.Compare a [op, op'] [b, c] pos) (.chain o o' ca cb cc) := by
  intro G n so fo
  obtain ⟨ta, pa, aa⟩ := ha G n so fo
  obtain ⟨tb, pb, ab⟩ := hb G n so fo
  obtain ⟨tc, pc, ac⟩ := hc G n so fo
  obtain ⟨r, hr, hq⟩ := k.rule G N sc n
  obtain ⟨r', hr', hq'⟩ := k'.rule G N sc n
  exact ⟨fun W => tTest (tChain r r' (ta W) (tb W) (tc W)), fun X W g tk => pt_chain (hr X g) (hr' X g) (pa X W g tk) (pb X W g tk) (pc X W g tk) (simple_beh hs op'), st_of_pt (ad_chain aa ab ac hq hq')⟩

theorem at_of {K : PySem.W.Frag} {ι : List Addr} {H : Hp} {ds : List D} {xs : List V} {i : Int} {d : D} (r : RVs K ι H ds xs) (h : atI ds i = some d) : ∃ x, atI xs i = some x ∧ RV K ι H d x := by
  unfold atI at h ⊢
  rw [← r.length]
  cases e : ixN ds.length i with
  | none => rw [e] at h; cases h
  | some j =>
    rw [e] at h
    obtain ⟨x, h1, h2⟩ := r.get (i := j) h
    exact ⟨x, h1, h2⟩
theorem ops_idx (G : Gx) : OpS G (fun x y m => R.opt (idxI x y m) m) (rIx G.K) := by
  intro d e x y m ι H Q E rm rx ry h
  obtain ⟨z, e1, e2⟩ := h.opt rm
  cases ry with
  | int i =>
    cases rx with
    | tup h1 h2 =>
      obtain ⟨v, q1, q2⟩ := at_of h2 (show atI _ i = some z from e1)
      exact .inr (.inl ⟨_, _, i, v, rfl, rfl, h1, q1, e2 v q2⟩)
    | str s =>
      have e1 : (if szOk s.length then (L2.atI s.cps.toList i).map fun c => D.str ⟨#[c]⟩ else none) = some z := e1
      by_cases hz : szOk s.length = true
      · rw [if_pos hz] at e1
        cases e3 : L2.atI s.cps.toList i with
        | none => rw [e3] at e1; cases e1
        | some c =>
          rw [e3] at e1
          cases e1
          exact .inr (.inr ⟨s, i, c, rfl, rfl, sz_le hz, e3, e2 _ (.str _)⟩)
      · rw [if_neg hz] at e1; cases e1
    | @loc l a ha =>
      have e1 : ((listAt m l).bind fun ds => L2.atI ds i) = some z := e1
      cases q1 : listAt m l with
      | none => rw [q1] at e1; cases e1
      | some ds =>
        rw [q1] at e1
        obtain ⟨a', xs, q3, q4, q5⟩ := rm.list q1
        rw [ha] at q3; cases q3
        obtain ⟨v, q6, q7⟩ := at_of q5 e1
        exact .inl ⟨_, _, i, v, rfl, rfl, q4, q6, e2 v q7⟩
    | _ => cases e1
  | _ => cases e1
theorem se_idx (ha : SE S N sc a ca) (hb : SE S N sc b cb) (hs : simple b = true) : SE S N sc (.Subscript a b pos) (.idxI ca cb) := by
  intro G n so fo
  obtain ⟨ta, pa, aa⟩ := ha G n so fo
  obtain ⟨tb, pb, ab⟩ := hb G n so fo
  refine ⟨fun W => tOp (rIx G.K) (ta W) (tb W), fun X W g tk => pe_ix (by rw [← g.K]; exact ix_seq) (pa X W g tk) (pb X W g tk) (simple_ix hs), ad_op aa ab (fun env m => by rw [evE]) (ops_idx G)⟩
theorem val_of {K : PySem.W.Frag} {ι : List Addr} {H : Hp} {k : Str} : ∀ {kvs : List (Str × D)} {vs : List (L2.Key × V)} {d : D}, vs.map (·.1) = kvs.map (fun p => Sum.inr p.1) → RVs K ι H (kvs.map (·.2)) (vs.map (·.2)) → getD' kvs k = some d →
    ∃ v, valV vs (Sum.inr k) = some v ∧ RV K ι H d v
  | [], _, _, _, _, h => by cases h
  | p :: kvs, [], _, h, _, _ => by cases h
  | p :: kvs, q :: vs, d, h1, h2, h => by
    simp only [List.map_cons, List.cons.injEq] at h1
    simp only [List.map_cons] at h2
    cases h2 with
    | cons r1 r2 =>
      by_cases e : p.1 = k
      · have : d = p.2 := by
          unfold getD' at h
          rw [List.find?_cons_of_pos (by simpa using e)] at h
          exact (Option.some.inj h).symm
        subst this
        exact ⟨q.2, valV_pos (by rw [h1.1, e]), r1⟩
      · have h' : getD' kvs k = some d := by
          unfold getD' at h ⊢
          rw [List.find?_cons_of_neg (by simpa using e)] at h
          exact h
        obtain ⟨v, z1, z2⟩ := val_of h1.2 r2 h'
        refine ⟨v, ?_, z2⟩
        rw [valV_neg (by rw [h1.1]; intro z; exact e (Sum.inr.inj z))]
        exact z1
theorem se_dget (ha : SE S N sc a ca) (hb : SE S N sc b cb) (hs : simple b = true) : SE S N sc (.Subscript a b pos) (.idxK ca cb) := by
  intro G n so fo
  obtain ⟨ta, pa, aa⟩ := ha G n so fo
  obtain ⟨tb, pb, ab⟩ := hb G n so fo
  refine ⟨fun W => tDGet (ta W) (tb W), fun X W g tk => pe_dget (room1 g) (pa X W g tk) (pb X W g tk) (simple_ix hs), fun W σ H Q ι env m rs rm h => ?_⟩
  unfold evE at h
  refine aa W σ H _ ι env m rs rm (h.bind.imp fun d m1 ι1 H1 x1 rm1 h1 v rv => ?_)
  refine ab W σ H1 _ ι1 env m1 (rs.mono x1) rm1 (h1.bind.imp fun e m2 ι2 H2 x2 rm2 h2 w rw => ?_)
  obtain ⟨z, e1, e2⟩ := h2.opt rm2
  cases rw with
  | str k =>
    cases rv.mono x2 with
    | @loc l p hp =>
      have e1 : (match m2[l]? with | some (.dic kvs) => getD' kvs k | _ => none) = some z := e1
      split at e1
      · rename_i kvs q
        obtain ⟨p', q1, vs, q2, q3, q4⟩ := rm2.at_ q
        rw [hp] at q1; cases q1
        obtain ⟨u, q5, q6⟩ := val_of q3 q4 e1
        exact ⟨p, u, rfl, by rw [← q5]; exact DGet.k (k := Sum.inr k) q2, e2 u q6⟩
      · cases e1
    | _ => cases e1
  | _ => cases e1

theorem so_none : SO S N sc none none := fun G n _ _ => ⟨fun _ => tNoPart, fun _ _ _ _ => po_none, fun W σ H Q ι env m rs rm h => by
  unfold evO at h
  exact h.ok .refl rm⟩
theorem so_some (ha : SE S N sc a ca) : SO S N sc (some a) (some ca) := by
  intro G n so fo
  obtain ⟨ta, pa, aa⟩ := ha G n so fo
  refine ⟨fun W => tPart (ta W), fun X W g tk => po_some (pa X W g tk), fun W σ H Q ι env m rs rm h => ?_⟩
  unfold evO at h
  refine aa W σ H _ ι env m rs rm (h.bind.imp fun d m1 ι1 H1 x1 rm1 h1 v rv => ?_)
  cases d with
  | int i =>
    cases rv
    exact ⟨i, rfl, h1.ok .refl rm1⟩
  | _ => exact (show False from h1).elim
def rSlX (K : PySem.W.Frag) : V → Option Int → Option Int → Hp → VK → Prop := fun x lo hi H Q => rSlA K x lo hi H Q ∨ (rSlL K x lo hi H Q ∨ rSlS x lo hi H Q)
theorem sl_X {X : Cx} : SlR X (rSlX X.K) := sl_tupA.or (sl_list.or sl_str)
theorem cut_whole {α : Type} (xs : List α) (lo hi : Option Int) (h : HT.sIx xs.length 0 lo = 0 ∧ HT.sIx xs.length xs.length hi = xs.length) : cutD xs lo hi = xs := by
  unfold cutD
  rw [h.1, h.2]
  simp
theorem sl_of {G : Gx} {ι : List Addr} {H : Hp} {E : XK} {Q : VK} {d : D} {v : V} {lo hi : Option Int} {m : Mu} (rm : RM G.K ι H m) (rv : RV G.K ι H d v)
    (h : Po G ι H E (slD d lo hi m) (fun d _ ι' H' => ∀ v, RV G.K ι' H' d v → Q v H')) : rSlX G.K v lo hi H Q := by
  cases rv with
  | @tup ds a xs h1 h2 =>
    have h' : Po G ι H E (R.ok (D.tup (cutD ds lo hi)) m) _ := h
    refine .inl ⟨a, xs, rfl, h1, fun hw => ?_, fun _ p hp => ?_⟩
    · rw [← h2.length] at hw
      rw [cut_whole _ _ _ hw] at h'
      exact h'.ok .refl rm _ (.tup h1 h2)
    · exact h'.ok (.same (same_upd hp)) (rm.newT hp) _ (.newT hp (h2.cut lo hi))
  | str z =>
    have h' : Po G ι H E (if szOk z.length then R.ok (D.str (L2.cutS z lo hi)) m else R.no) _ := h
    by_cases hz : szOk z.length = true
    · rw [if_pos hz] at h'
      exact .inr (.inr ⟨z, rfl, sz_le hz, h'.ok .refl rm _ (.str _)⟩)
    · rw [if_neg hz] at h'
      exact (show False from h').elim
  | @loc l a ha =>
    have h' : Po G ι H E (match listAt m l with | some ds => newL (cutD ds lo hi) m | none => .no) (fun d _ ι' H' => ∀ v, RV G.K ι' H' d v → Q v H') := h
    have : ∃ ds, listAt m l = some ds ∧ Po G ι H E (newL (cutD ds lo hi) m) (fun d _ ι' H' => ∀ v, RV G.K ι' H' d v → Q v H') := by
      cases e : listAt m l with
      | none => rw [e] at h'; exact (show False from h').elim
      | some ds => rw [e] at h'; exact ⟨_, rfl, h'⟩
    obtain ⟨ds, q1, q2⟩ := this
    obtain ⟨a', xs, q3, q4, q5⟩ := rm.list q1
    rw [ha] at q3; cases q3
    exact .inr (.inl ⟨_, _, rfl, q4, (po_newL rm (q5.cut lo hi) q2).2⟩)
  | _ => exact (show False from h).elim
theorem se_sl {lo hi : Option Expr} {cl ch : Option CE} {p2 : Pos} (ha : SE S N sc a ca) (hl : SO S N sc lo cl) (hh : SO S N sc hi ch) : SE S N sc (.Subscript a (.Slice lo hi none p2) pos) (.sl ca cl ch) := by
  intro G n so fo
  obtain ⟨ta, pa, aa⟩ := ha G n so fo
  obtain ⟨tl, pl, al⟩ := hl G n so fo
  obtain ⟨th, ph, ah⟩ := hh G n so fo
  refine ⟨fun W => tSl (rSlX G.K) (ta W) (tl W) (th W), fun X W g tk => pe_slice (by rw [← g.K]; exact sl_X) (pa X W g tk) (pl X W g tk) (ph X W g tk), fun W σ H Q ι env m rs rm h => ?_⟩
  unfold evE at h
  refine aa W σ H _ ι env m rs rm (h.bind.imp fun d m1 ι1 H1 x1 rm1 h1 v rv => ?_)
  refine al W σ H1 _ ι1 env m1 (rs.mono x1) rm1 (h1.bind.imp fun l m2 ι2 H2 x2 rm2 h2 => ?_)
  refine ah W σ H2 _ ι2 env m2 ((rs.mono x1).mono x2) rm2 (h2.bind.imp fun u m3 ι3 H3 x3 rm3 h3 => ?_)
  exact sl_of rm3 ((rv.mono x2).mono x3) h3

/-- a call's rule -/
def ClS (G : Gx) (f : List D → Mu → R D) (r : List V → Hp → VK → Prop) : Prop := ∀ (ds : List D) (xs : List V) (m : Mu) (ι : List Addr) (H : Hp) (Q : VK) (E : XK), RM G.K ι H m → RVs G.K ι H ds xs →
  Po G ι H E (f ds m) (fun d _ ι' H' => ∀ v, RV G.K ι' H' d v → Q v H') → r xs H Q
theorem ad_blt {G : Gx} {n : Nat} {f : Bf} {ces : CEs} {ta : WX → TA} {r : List V → Hp → VK → Prop} (aa : AdEs G n ces ta) (hr : ClS G (bltD f) r) : AdE G n (.blt f ces) (fun W => tCB r (ta W)) := by
  intro W σ H Q ι env m rs rm h
  unfold evE at h
  refine aa W σ H _ ι env m rs rm (h.bind.imp fun ds m1 ι1 H1 x1 rm1 h1 vs rvs => ?_)
  exact hr ds vs m1 ι1 H1 Q _ rm1 rvs h1
theorem se_blt {x : Str} {p : Pos} {es : List Expr} {ces : CEs} {f : Bf} {id : String} (hn : x ∈ S.nones) (hg : sc.names.lookup x = some .globalImplicit) (hv : bootBuiltins x = some (.builtin id)) (hx : x ≠ "__name__") (hd : (x == ("__debug__" : Str)) = false)
    (hs : SEs S N sc (a :: es) ces) (h0 : simple a = true) (hp : ∀ e ∈ es, simple e = true)
    (hr : ∀ (G : Gx) (n : Nat), ∃ r, (∀ X, Gd G N sc n X → CallR X (.builtin id) r) ∧ ClS G (bltD f) r) : SE S N sc (.Call (.Name x p) (a :: es) [] pos) (.blt f ces) := by
  intro G n so fo
  obtain ⟨ta, pa, aa⟩ := hs G n so fo
  obtain ⟨r, hr, hq⟩ := hr G n
  exact ⟨fun W => tCB r (ta W), fun X W g tk => pe_callB (hr X g) (g.gl x hg) (by rw [g.mg]; exact so.nones x hn) hv (pa X W g tk) hx hd (simple_star h0 es X.env) (backTo_plain hp), ad_blt aa hq⟩
theorem se_bty {x : Str} {p : Pos} {es : List Expr} {ces : CEs} {f : Bf} {T : String} (hn : x ∈ S.nones) (hg : sc.names.lookup x = some .globalImplicit) (hv : bootBuiltins x = some (.type T)) (hx : x ≠ "__name__") (hd : (x == ("__debug__" : Str)) = false)
    (hs : SEs S N sc (a :: es) ces) (h0 : simple a = true) (hp : ∀ e ∈ es, simple e = true)
    (hr : ∀ (G : Gx) (n : Nat), ∃ r, (∀ X, Gd G N sc n X → CallR X (.type T) r) ∧ ClS G (bltD f) r) : SE S N sc (.Call (.Name x p) (a :: es) [] pos) (.blt f ces) := by
  intro G n so fo
  obtain ⟨ta, pa, aa⟩ := hs G n so fo
  obtain ⟨r, hr, hq⟩ := hr G n
  exact ⟨fun W => tCB r (ta W), fun X W g tk => pe_callTy (hr X g) (g.gl x hg) (by rw [g.mg]; exact so.nones x hn) hv (pa X W g tk) hx hd (simple_star h0 es X.env) (backTo_plain hp), ad_blt aa hq⟩
end
section
variable {G : Gx} {X : Cx}
theorem rvs1 {K : PySem.W.Frag} {ι : List Addr} {H : Hp} {d : D} {xs : List V} (h : RVs K ι H [d] xs) : ∃ x, xs = [x] ∧ RV K ι H d x := by
  cases h with
  | cons h t => cases t; exact ⟨_, rfl, h⟩
theorem rvs2 {K : PySem.W.Frag} {ι : List Addr} {H : Hp} {d e : D} {xs : List V} (h : RVs K ι H [d, e] xs) : ∃ x y, xs = [x, y] ∧ RV K ι H d x ∧ RV K ι H e y := by
  cases h with
  | cons h t =>
    cases t with
    | cons h2 t => cases t; exact ⟨_, _, rfl, h, h2⟩
theorem cls_len : ClS G (bltD .len) (fun xs H Q => ∃ x n, xs = [x] ∧ LenV G.K x H n ∧ Q (.int n) H) := by
  intro ds xs m ι H Q E rm rs h
  match ds, rs, h with
  | [], _, h => exact (show False from h).elim
  | [d], rs, h =>
    obtain ⟨x, rfl, rx⟩ := rvs1 rs
    cases rx with
    | str z =>
      have h' : Po G ι H E (if szOk z.length then R.ok (D.int z.length) m else R.no) _ := h
      by_cases hz : szOk z.length = true
      · rw [if_pos hz] at h'
        exact ⟨_, z.length, rfl, ⟨sz_le hz, rfl⟩, h'.ok .refl rm _ (.int _)⟩
      · rw [if_neg hz] at h'
        exact (show False from h').elim
    | @tup ds a xs h1 h2 =>
      have h' : Po G ι H E (R.ok (D.int ds.length) m) _ := h
      refine ⟨_, ds.length, rfl, .inr ⟨xs, h1, h2.length⟩, h'.ok .refl rm _ (.int _)⟩
    | @loc l a ha =>
      have h' : Po G ι H E (match listAt m l with | some ds => R.ok (D.int ds.length) m | none => R.no) _ := h
      cases e : listAt m l with
      | none => rw [e] at h'; exact (show False from h').elim
      | some ds =>
        rw [e] at h'
        obtain ⟨a', xs, q3, q4, q5⟩ := rm.list e
        rw [ha] at q3; cases q3
        exact ⟨_, ds.length, rfl, .inl ⟨xs, q4, q5.length⟩, h'.ok .refl rm _ (.int _)⟩
    | _ => exact (show False from h).elim
  | .str _ :: _ :: _, _, h => exact (show False from h).elim
  | .non :: _ :: _, _, h => exact (show False from h).elim
  | .bl _ :: _ :: _, _, h => exact (show False from h).elim
  | .int _ :: _ :: _, _, h => exact (show False from h).elim
  | .tup _ :: _ :: _, _, h => exact (show False from h).elim
  | .loc _ :: _ :: _, _, h => exact (show False from h).elim
theorem cls_abs : ClS G (bltD .abs) (fun xs H Q => ∃ i, xs = [.int i] ∧ Q (.int (if i < 0 then -i else i)) H) := by
  intro ds xs m ι H Q E rm rs h
  match ds, rs, h with
  | [.int i], rs, h =>
    obtain ⟨x, rfl, rx⟩ := rvs1 rs
    cases rx
    exact ⟨i, rfl, h.ok .refl rm _ (.int _)⟩
  | [], _, h => exact (show False from h).elim
  | .str _ :: _, _, h => exact (show False from h).elim
  | .non :: _, _, h => exact (show False from h).elim
  | .bl _ :: _, _, h => exact (show False from h).elim
  | .int _ :: _ :: _, _, h => exact (show False from h).elim
  | .tup _ :: _, _, h => exact (show False from h).elim
  | .loc _ :: _, _, h => exact (show False from h).elim
theorem cls_int : ClS G (bltD .int) (fun xs H Q => (∃ i, xs = [.int i] ∧ Q (.int i) H) ∨ ∃ k, xs = [.bl k] ∧ Q (.int (if k then 1 else 0)) H) := by
  intro ds xs m ι H Q E rm rs h
  match ds, rs, h with
  | [.int i], rs, h =>
    obtain ⟨x, rfl, rx⟩ := rvs1 rs
    cases rx
    exact .inl ⟨i, rfl, h.ok .refl rm _ (.int _)⟩
  | [.bl i], rs, h =>
    obtain ⟨x, rfl, rx⟩ := rvs1 rs
    cases rx
    exact .inr ⟨i, rfl, h.ok .refl rm _ (.int _)⟩
  | [], _, h => exact (show False from h).elim
  | .str _ :: _, _, h => exact (show False from h).elim
  | .non :: _, _, h => exact (show False from h).elim
  | .bl _ :: _ :: _, _, h => exact (show False from h).elim
  | .int _ :: _ :: _, _, h => exact (show False from h).elim
  | .tup _ :: _, _, h => exact (show False from h).elim
  | .loc _ :: _, _, h => exact (show False from h).elim
theorem cls_str : ClS G (bltD .str) (fun xs H Q => ∃ i, xs = [.int i] ∧ i.natAbs.log2 < 1920 ∧ Q (.str (toString i)) H) := by
  intro ds xs m ι H Q E rm rs h
  match ds, rs, h with
  | [.int i], rs, h =>
    obtain ⟨x, rfl, rx⟩ := rvs1 rs
    cases rx
    have h' : Po G ι H E (if txtOk i then R.ok (D.str (toString i)) m else R.no) _ := h
    by_cases hz : txtOk i = true
    · rw [if_pos hz] at h'
      exact ⟨i, rfl, of_decide_eq_true (txtOk_eq i ▸ hz), h'.ok .refl rm _ (.str _)⟩
    · rw [if_neg hz] at h'
      exact (show False from h').elim
  | [], _, h => exact (show False from h).elim
  | .str _ :: _, _, h => exact (show False from h).elim
  | .non :: _, _, h => exact (show False from h).elim
  | .bl _ :: _, _, h => exact (show False from h).elim
  | .int _ :: _ :: _, _, h => exact (show False from h).elim
  | .tup _ :: _, _, h => exact (show False from h).elim
  | .loc _ :: _, _, h => exact (show False from h).elim
theorem cls_max : ClS G (bltD .max2) (fun xs H Q => ∃ i j, xs = [.int i, .int j] ∧ Q (.int (if j > i then j else i)) H) := by
  intro ds xs m ι H Q E rm rs h
  match ds, rs, h with
  | [.int i, .int j], rs, h =>
    obtain ⟨x, y, rfl, rx, ry⟩ := rvs2 rs
    cases rx
    cases ry
    exact ⟨i, j, rfl, h.ok .refl rm _ (.int _)⟩
  | [], _, h => exact (show False from h).elim
  | .str _ :: _, _, h => exact (show False from h).elim
  | .non :: _, _, h => exact (show False from h).elim
  | .bl _ :: _, _, h => exact (show False from h).elim
  | .tup _ :: _, _, h => exact (show False from h).elim
  | .loc _ :: _, _, h => exact (show False from h).elim
  | [.int _], _, h => exact (show False from h).elim
  | .int _ :: .str _ :: _, _, h => exact (show False from h).elim
  | .int _ :: .non :: _, _, h => exact (show False from h).elim
  | .int _ :: .bl _ :: _, _, h => exact (show False from h).elim
  | .int _ :: .tup _ :: _, _, h => exact (show False from h).elim
  | .int _ :: .loc _ :: _, _, h => exact (show False from h).elim
  | .int _ :: .int _ :: _ :: _, _, h => exact (show False from h).elim
theorem cls_min : ClS G (bltD .min2) (fun xs H Q => ∃ i j, xs = [.int i, .int j] ∧ Q (.int (if j < i then j else i)) H) := by
  intro ds xs m ι H Q E rm rs h
  match ds, rs, h with
  | [.int i, .int j], rs, h =>
    obtain ⟨x, y, rfl, rx, ry⟩ := rvs2 rs
    cases rx
    cases ry
    exact ⟨i, j, rfl, h.ok .refl rm _ (.int _)⟩
  | [], _, h => exact (show False from h).elim
  | .str _ :: _, _, h => exact (show False from h).elim
  | .non :: _, _, h => exact (show False from h).elim
  | .bl _ :: _, _, h => exact (show False from h).elim
  | .tup _ :: _, _, h => exact (show False from h).elim
  | .loc _ :: _, _, h => exact (show False from h).elim
  | [.int _], _, h => exact (show False from h).elim
  | .int _ :: .str _ :: _, _, h => exact (show False from h).elim
  | .int _ :: .non :: _, _, h => exact (show False from h).elim
  | .int _ :: .bl _ :: _, _, h => exact (show False from h).elim
  | .int _ :: .tup _ :: _, _, h => exact (show False from h).elim
  | .int _ :: .loc _ :: _, _, h => exact (show False from h).elim
  | .int _ :: .int _ :: _ :: _, _, h => exact (show False from h).elim
theorem cls_list : ClS G (bltD .list) (fun xs H Q => ∃ p ys, xs = [.ref p] ∧ (SqL G.K H p ys ∨ SqT G.K H p ys) ∧ ∀ l, H l = none → Q (.ref l) (upd H l (.lst ys))) := by
  intro ds xs m ι H Q E rm rs h
  match ds, rs, h with
  | [], _, h => exact (show False from h).elim
  | [d], rs, h =>
    obtain ⟨x, rfl, rx⟩ := rvs1 rs
    have h' : Po G ι H E (match seqAt m d with | some ds => newL ds m | none => .no) (fun d _ ι' H' => ∀ v, RV G.K ι' H' d v → Q v H') := h
    cases e : seqAt m d with
    | none => rw [e] at h'; exact (show False from h').elim
    | some es =>
      rw [e] at h'
      obtain ⟨a, ys, rfl, q1, q2⟩ := rm.seq rx e
      exact ⟨a, ys, rfl, q1, (po_newL rm q2 h').2⟩
  | _ :: _ :: _, _, h => exact (show False from h).elim
theorem cls_tuple : ClS G (bltD .tuple) (fun xs H Q => ∃ p ys, xs = [.ref p] ∧ ((SqL G.K H p ys ∧ ∀ l, H l = none → Q (.ref l) (upd H l (.tup ys))) ∨ (SqT G.K H p ys ∧ Q (.ref p) H))) := by
  intro ds xs m ι H Q E rm rs h
  match ds, rs, h with
  | [.tup es], rs, h =>
    obtain ⟨x, rfl, rx⟩ := rvs1 rs
    cases rx with
    | tup h1 h2 => exact ⟨_, _, rfl, .inr ⟨h1, h.ok .refl rm _ (.tup h1 h2)⟩⟩
  | [.loc l], rs, h =>
    obtain ⟨x, rfl, rx⟩ := rvs1 rs
    cases rx with
    | loc ha =>
      have h' : Po G ι H E (match listAt m l with | some ds => newT ds m | none => .no) (fun d _ ι' H' => ∀ v, RV G.K ι' H' d v → Q v H') := h
      cases e : listAt m l with
      | none => rw [e] at h'; exact (show False from h').elim
      | some es =>
        rw [e] at h'
        obtain ⟨a', ys, q3, q4, q5⟩ := rm.list e
        rw [ha] at q3; cases q3
        exact ⟨_, ys, rfl, .inl ⟨q4, (po_newT rm q5 h').2⟩⟩
  | [], _, h => exact (show False from h).elim
  | .str _ :: _, _, h => exact (show False from h).elim
  | .non :: _, _, h => exact (show False from h).elim
  | .bl _ :: _, _, h => exact (show False from h).elim
  | .int _ :: _, _, h => exact (show False from h).elim
  | .tup _ :: _ :: _, _, h => exact (show False from h).elim
  | .loc _ :: _ :: _, _, h => exact (show False from h).elim
theorem bls_of {K : PySem.W.Frag} {ι : List Addr} {H : Hp} : ∀ {ds : List D} {xs : List V} {bs : List Bool}, RVs K ι H ds xs → bls ds = some bs → xs = bs.map V.bl
  | [], _, _, .nil, h => by cases h; rfl
  | .bl b :: r, _, _, .cons (.bl _) t, h => by
    have h' : (bls r).map (b :: ·) = some _ := h
    cases e : bls r with
    | none => rw [e] at h'; cases h'
    | some cs =>
      rw [e] at h'
      cases h'
      rw [bls_of t e]
      rfl
theorem cls_all : ClS G (bltD .all) (rAll G.K) := by
  intro ds xs m ι H Q E rm rs h
  match ds, rs, h with
  | [.loc l], rs, h =>
    obtain ⟨x, rfl, rx⟩ := rvs1 rs
    cases rx with
    | loc ha =>
      have h' : Po G ι H E (match listAt m l with | some ds => (match bls ds with | some bs => .ok (.bl (bs.all id)) m | none => .no) | none => .no) (fun d _ ι' H' => ∀ v, RV G.K ι' H' d v → Q v H') := h
      cases e : listAt m l with
      | none => rw [e] at h'; exact (show False from h').elim
      | some es =>
        rw [e] at h'
        obtain ⟨a', ys, q3, q4, q5⟩ := rm.list e
        rw [ha] at q3; cases q3
        cases e2 : bls es with
        | none => simp only [e2] at h'; exact (show False from h').elim
        | some bs =>
          simp only [e2] at h'
          have := bls_of q5 e2
          subst this
          exact ⟨_, bs, rfl, q4, h'.ok .refl rm _ (.bl _)⟩
  | [], _, h => exact (show False from h).elim
  | .str _ :: _, _, h => exact (show False from h).elim
  | .non :: _, _, h => exact (show False from h).elim
  | .bl _ :: _, _, h => exact (show False from h).elim
  | .int _ :: _, _, h => exact (show False from h).elim
  | .tup _ :: _, _, h => exact (show False from h).elim
  | .loc _ :: _ :: _, _, h => exact (show False from h).elim
theorem cls_any : ClS G (bltD .any) (rAny G.K) := by
  intro ds xs m ι H Q E rm rs h
  match ds, rs, h with
  | [.loc l], rs, h =>
    obtain ⟨x, rfl, rx⟩ := rvs1 rs
    cases rx with
    | loc ha =>
      have h' : Po G ι H E (match listAt m l with | some ds => (match bls ds with | some bs => .ok (.bl (bs.any id)) m | none => .no) | none => .no) (fun d _ ι' H' => ∀ v, RV G.K ι' H' d v → Q v H') := h
      cases e : listAt m l with
      | none => rw [e] at h'; exact (show False from h').elim
      | some es =>
        rw [e] at h'
        obtain ⟨a', ys, q3, q4, q5⟩ := rm.list e
        rw [ha] at q3; cases q3
        cases e2 : bls es with
        | none => simp only [e2] at h'; exact (show False from h').elim
        | some bs =>
          simp only [e2] at h'
          have := bls_of q5 e2
          subst this
          exact ⟨_, bs, rfl, q4, h'.ok .refl rm _ (.bl _)⟩
  | [], _, h => exact (show False from h).elim
  | .str _ :: _, _, h => exact (show False from h).elim
  | .non :: _, _, h => exact (show False from h).elim
  | .bl _ :: _, _, h => exact (show False from h).elim
  | .int _ :: _, _, h => exact (show False from h).elim
  | .tup _ :: _, _, h => exact (show False from h).elim
  | .loc _ :: _ :: _, _, h => exact (show False from h).elim
/-- repr -/
theorem call_reprX (hg : X.A.guards = some []) (hu : X.A.units + 64 < cLine) : CallR X (.builtin "repr") (fun xs H Q => ∃ a d, xs = [.ref a] ∧ Dp X.K H (.ref a) d ∧ d.showable = true ∧ d.hasDict = false ∧ d.depth ≤ 60 ∧ d.shown.length ≤ sizeLine ∧ Q (.str d.shown) H) := by
  intro pins s σ H xs us Q I r h
  obtain ⟨a, d, rfl, hd, h1, h2, h3, h4, q⟩ := h
  obtain ⟨u, rfl, ru⟩ := vals1 r
  obtain ⟨as, hr⟩ := Dp.reads I d _ u hd ru
  cases ru
  exact repr_of_reads' hr h1 (PyData.noDict_hsm h2) hg (by omega) (fun _ _ e => e) (fun h' u tk hk => ⟨.str _, H, I.kept (t' := tk) hk, ⟨u, rfl⟩, q⟩) h4
end
end Mn
end

section
set_option Elab.async false
set_option linter.all false
set_option maxRecDepth 100000
set_option autoImplicit false
set_option maxHeartbeats 1000000
namespace Mn
open PySem PySem.Spec PyProof.Rows L2 HT
section
variable {prog : Program} {w : World} {A : Around} {E : Value → Shared → Prop} {s : Shared}
theorem places_back (n : Nat) : Builtin.Slice.slicePlaces ((n : Int) - 1) (-1) (-1) = n := by
  unfold Builtin.Slice.slicePlaces
  have h1 : ¬ ((-1 : Int) > 0) := by omega
  simp only [h1, if_false]
  by_cases h : (n : Int) - 1 > -1
  · rw [if_pos h]
    rw [show (-(-1) : Int) = 1 by decide, Int.ediv_one]
    omega
  · rw [if_neg h]
    omega
theorem sliceApplied_back {sl : Addr} {vs : Value} {n : Nat} {Q : Int × Int × Nat → Shared → Prop} (hs : s.heap.IsSliceOf sl .none .none vs) (ps : IsPart vs (some (-1)))
    (h : Q ((n : Int) - 1, -1, n) s) : wpAny (model prog w) A (Builtin.Slice.sliceApplied (.ref sl) (pure (n : Int))) Q E s := by
  obtain ⟨os, hos, hcs, hds⟩ := id hs
  unfold Builtin.Slice.sliceApplied Builtin.Slice.sliceFields
  refine wpAny_bind (wpAny_bind (wpAny_field hos hds (x := .none) rfl (wpAny_bind (wpAny_field hos hds (x := .none) rfl (wpAny_bind (wpAny_field hos hds (x := vs) rfl (wpAny_pure ?_)))))))
  refine wpAny_bind (slicePart_ ps ?_)
  show wpAny _ _ (if ((-1 : Int) == 0) = true then _ else _) _ _ s
  rw [if_neg (by decide)]
  refine wpAny_bind (slicePart_none (wpAny_bind (slicePart_none (wpAny_bind (wpAny_pure ?_)))))
  show wpAny _ _ (pure ((n : Int) - 1, (-1 : Int), Builtin.Slice.slicePlaces ((n : Int) - 1) (-1) (-1))) _ _ s
  rw [places_back]
  exact wpAny_pure h
theorem fm_congr {α β : Type} {f g : α → Option β} : ∀ (l : List α), (∀ x ∈ l, f x = g x) → l.filterMap f = l.filterMap g
  | [], _ => rfl
  | x :: l, h => by
    rw [List.filterMap_cons, List.filterMap_cons, h x List.mem_cons_self, fm_congr l fun y hy => h y (List.mem_cons_of_mem _ hy)]
theorem pick_back (xs : Array Value) : ((List.range xs.size).filterMap fun (k : Nat) => xs[((xs.size : Int) - 1 + (k : Int) * (-1)).toNat]?).toArray = xs.toList.reverse.toArray := by
  congr 1
  have e : ∀ k ∈ List.range xs.size, xs[((xs.size : Int) - 1 + (k : Int) * (-1)).toNat]? = xs[xs.size - 1 - k]? := fun k hk => by
    have := List.mem_range.mp hk
    congr 1
    omega
  have e2 : ((List.range xs.size).filterMap fun (k : Nat) => xs[((xs.size : Int) - 1 + (k : Int) * (-1)).toNat]?) = (List.range xs.size).filterMap fun k => xs[xs.size - 1 - k]? := by
    exact fm_congr _ e
  rw [e2]
  have h := PySem.W.krv_all xs
  rw [← h, ← List.filterMap_reverse, ← PySem.W.krv_range, List.filterMap_map]
  rfl
theorem getItem_tuple_back {t sl : Addr} {items : Array Value} {vs : Value} {Q : Value → Shared → Prop} (ht : IsTup s.heap t items) (hs : s.heap.IsSliceOf sl .none .none vs) (ps : IsPart vs (some (-1)))
    (h : Q (.ref s.heap.objs.size) { s with heap := s.heap.push { cls := .type "tuple", data := .seq items.toList.reverse.toArray } }) (hsz : items.size ≤ sizeLine) : wpAny (model prog w) A (getItem (.ref t) (.ref sl)) Q E s := by
  have hok : sizeOk (.seq items.toList.reverse.toArray) := by
    show items.toList.reverse.toArray.size ≤ sizeLine
    simpa using hsz
  obtain ⟨os, hos, hcs, hds⟩ := id hs
  have hTs : s.TypeIs (.ref sl) "slice" := ⟨os, hos, hcs⟩
  unfold getItem
  try with_reducible refine wpAny_holding ?_
  first | refine wpAny_bind (wpAny_pure ?_) | skip
  refine wpAny_bind (wpAny_sequenceKey ht.typeIs (by decide) ?_)
  refine wpAny_bind (wpAny_callSpecial?_slot (name := Str.ofString "__getitem__") ht.typeIs PyProof.Rows.slot_tuple_getitem
    (wpAny_call_entry PyProof.Rows.slot_tuple_getitem ht.typeIs entry_tuple_getitem ?_ (args_tuple_getitem _ _)))
  show wpAny _ _ (Builtin.Tuple.tupleItemsOf (.ref t) >>= _) _ _ s
  refine wpAny_bind (tupleItemsOf_ ht ?_)
  refine wpAny_bind (wpAny_typeOf hTs ?_)
  rw [if_pos (by decide)]
  refine wpAny_bind (sliceApplied_back hs ps ?_)
  have hno : ¬ ((((items.size : Int) - 1) == 0 && (-1 : Int) == 1 && items.size == items.size) = true) := by
    intro q
    rw [Bool.and_eq_true, Bool.and_eq_true] at q
    exact absurd q.1.2 (by decide)
  show wpAny _ _ (if (((items.size : Int) - 1) == 0 && (-1 : Int) == 1 && items.size == items.size) = true then _ else _) _ _ s
  rw [if_neg hno, pick_back]
  first
    | exact wpAny_bind (m := Builtin.Tuple.tupleExact _) (wpAny_newObj_type (wpAny_pure ⟨_, rfl, wpAny_pure h⟩) hok)
    | exact wpAny_bind (m := Builtin.Tuple.tupleExact _) (wpAny_newObj_type (wpAny_bind (wpAny_pure (wpAny_pure ⟨_, rfl, wpAny_pure h⟩))) hok)
    | exact wpAny_bind (wpAny_bind (m := Builtin.Tuple.tupleExact _) (wpAny_newObj_type (wpAny_pure (wpAny_pure ⟨_, rfl, wpAny_pure h⟩)) hok))
    | exact wpAny_bind (wpAny_bind (m := Builtin.Tuple.tupleExact _) (wpAny_newObj_type (wpAny_pure ⟨_, rfl, wpAny_pure h⟩) hok))
theorem str_back (z : Str) : (Builtin.Str.strSliceIndices none none (-1) z.length).filterMap (z.cps[·]?) = z.cps.toList.reverse := by
  have e : Builtin.Str.strSliceIndices none none (-1) z.length = (List.range z.length).map fun k => z.length - 1 - k := by
    unfold Builtin.Str.strSliceIndices
    exact PySem.W.krv_sliceRange z.length
  rw [e, PySem.W.krv_range, List.filterMap_reverse]
  congr 1
  exact PySem.W.krv_all z.cps
end
section
variable {X : Cx}
def tRevX (K : PySem.W.Frag) (te : TE) : TE := fun σ H Q => te σ H fun x H1 =>
  (∃ a xs, x = .ref a ∧ SqL K H1 a xs ∧ ∀ p, H1 p = none → Q (.ref p) (upd H1 p (.lst xs.reverse))) ∨
  ((∃ a xs, x = .ref a ∧ SqT K H1 a xs ∧ ∀ p, H1 p = none → Q (.ref p) (upd H1 p (.tup xs.reverse))) ∨
   ∃ z, x = .str z ∧ z.length ≤ sizeLine ∧ Q (.str ⟨z.cps.toList.reverse.toArray⟩) H1)
theorem pe_revX {e : Expr} {te : TE} {k : Nat} {p1 p2 p3 pos : Pos} (he : PE X e te) : PE X (.Subscript e (.Slice none none (some (.UnaryOp .USub (.Constant (.int 1) k p1) p2)) p3) pos) (tRevX X.K te) := by
  refine ⟨fun pins s σ H Q I h => ?_⟩
  refine Subscript_ (thn (he.run pins s σ H _ I h) fun v s1 ⟨x, H1, I1, r1, q1⟩ => ?_)
  have hst : PO X (some (.UnaryOp .USub (.Constant (.int 1) k p1) p2)) (tPart (tUn (rU fun i => .int (-i)) (tC (.int 1)))) := po_some (pe_un un_neg pe_int)
  refine wpAny_Slice (thn (po_none.run pins s1 σ H1 (fun o H2 => o = none ∧ H2 = H1) I1 ⟨rfl, rfl⟩) fun vl s2 ⟨l, H2, I2, pl, el, e2⟩ => ?_)
  subst el e2
  refine thn (po_none.run pins s2 σ H2 (fun o H3 => o = none ∧ H3 = H2) I2 ⟨rfl, rfl⟩) fun vu s3 ⟨u, H3, I3, pu, eu, e3⟩ => ?_
  subst eu e3
  refine thn (hst.run pins s3 σ H3 (fun o H4 => o = some (-1) ∧ H4 = H3) I3 ⟨1, rfl, -1, rfl, rfl, rfl⟩) fun vs s4 ⟨o, H4, I4, ps, eo, e4⟩ => ?_
  subst eo e4
  have I5 : Inv X pins σ H4 { s4 with heap := s4.heap.push { cls := .type "slice", data := .fields #[vl, vu, vs] } } := I4.kept (t' := s4.toks) fun b ob q => Heap.get?_push_of_some _ q
  cases pl
  cases pu
  rcases q1 with ⟨a, xs, rfl, hx, q⟩ | ⟨a, xs, rfl, hx, q⟩ | ⟨z, rfl, hz, q⟩
  · cases r1
    obtain ⟨its, r, ht, hz⟩ := I5.list hx
    have hlen := r.length
    refine tail_any (ops := [.ref a, .ref s4.heap.objs.size]) ht.isList.typeIs (PySem.slot_list_getitem.lookup) ?_ (by with_unfolding_all rfl)
    refine wpAny_getItem_list_slice ht.isList (Heap.IsSliceOf.new _ .none .none vs) .none .none ps (by decide) ?_ (by rw [List.size_toArray]; omega)
    rw [PySem.W.krv_pick]
    refine ⟨.ref _, _, I5.laid (t' := s4.toks) (o := .lst xs.reverse) (fun b ob q => Heap.get?_push_of_some _ q) (Nat.le_refl _) ?_, rfl, q _ (I5.hok.fresh (Nat.le_refl _))⟩
    exact ⟨by rw [List.length_reverse]; exact hz, _, 0, r.reverse, Heap.get?_push_size _ rfl⟩
  · cases r1
    obtain ⟨its, r, ht, hz⟩ := I5.tuple hx
    have hlen := r.length
    refine tail_any (ops := [.ref a, .ref s4.heap.objs.size]) ht.typeIs (PyProof.Rows.slot_tuple_getitem.lookup) ?_ (by with_unfolding_all rfl)
    refine getItem_tuple_back ht (Heap.IsSliceOf.new _ .none .none vs) ps ?_ (by rw [List.size_toArray]; omega)
    refine ⟨.ref _, _, I5.laid (t' := s4.toks) (o := .tup xs.reverse) (fun b ob q => Heap.get?_push_of_some _ q) (Nat.le_refl _) ?_, rfl, q _ (I5.hok.fresh (Nat.le_refl _))⟩
    exact ⟨by rw [List.length_reverse]; exact hz, _, r.reverse, IsTup.new _ _⟩
  · obtain ⟨t, rfl⟩ := r1
    obtain ⟨vt, rfl, evt⟩ := IsPart.raw ps
    cases vt with
    | none => cases evt
    | some vt =>
      obtain ⟨vi, vk⟩ := vt
      have evi : vi = -1 := by cases evt; rfl
      subst evi
      refine tail_any (ops := [.str z t, .ref s4.heap.objs.size]) (typeIs_str _ _ _) (PySem.F.slot_str_getitem.lookup) ?_ (by with_unfolding_all rfl)
      refine wpAny_getItem_str_slice (l := none) (u := none) (st := some (-1, vk)) ⟨_, Heap.get?_push_size _ rfl, rfl, rfl⟩ rfl ?_
      show Made.post (if ((-1 : Int) == 1 && (Builtin.Str.strSliceIndices none none (-1) z.length).length == z.length) = true then Made.val (.str z t)
        else Made.str ⟨((Builtin.Str.strSliceIndices none none (-1) z.length).filterMap (z.cps[·]?)).toArray⟩) (EP X pins σ Q) _
      rw [if_neg (by
        intro hh
        rw [Bool.and_eq_true] at hh
        exact absurd hh.1 (by decide)), str_back]
      refine ⟨?_, .str _, H4, I5.tok _, ⟨_, rfl⟩, q⟩
      show z.cps.toList.reverse.toArray.size ≤ sizeLine
      have : z.cps.size ≤ sizeLine := hz
      simpa using this
end
end Mn
end

section
set_option Elab.async false
set_option linter.all false
set_option maxRecDepth 100000
set_option autoImplicit false
set_option maxHeartbeats 1000000
namespace Mn
open PySem PySem.Spec PyProof.Rows L2

theorem tuple_mul0 (l : Addr) (items : Array Value) (n : Nat) (dd : Option Addr) (sl : Array (Option Value)) (x : Int) (u : Tok) (c0 : (decide (x < -(2 ^ 63)) || decide (x ≥ 2 ^ 63)) = false) (c1 : (items.isEmpty || x == 1) = false) (c2 : (decide (x ≤ 0) || items.isEmpty) = true) :
    Meets (Builtin.«tuple.__mul__» ⟨[.ref l, .int x u], []⟩) (fun _ R s => s.heap.get? l = some { cls := .type "tuple", dict := dd, data := .seq items n, slots := sl } ∧
      R (.ok (.ret (Value.ref s.heap.objs.size))) { s with heap := s.heap.push { cls := Value.type "tuple", data := Data.seq #[] }, toks := s.toks }) :=
  .of_wp fun prog w A R s h => by
    obtain ⟨hp, g, d, tk, os⟩ := s
    obtain ⟨hl, h⟩ := h
    have f1 := AutoSeq1.idx_int
    have hsz : ((#[] : Array Value)).size ≤ sizeLine := Nat.zero_le _
    wp_walk using wpAny_loadPart' hl
    repeat (first
      | (refine wpAny_ite_false (decide_eq_false (by rw [c0]; exact Bool.false_ne_true)) ?_; wp_walk using wpAny_loadPart' hl)
      | (refine wpAny_ite_false (decide_eq_false (by rw [c1]; exact Bool.false_ne_true)) ?_; wp_walk using wpAny_loadPart' hl)
      | (refine wpAny_ite_true (decide_eq_true c2) ?_; wp_walk using wpAny_loadPart' hl)
      | (refine wpAny_ite_false (decide_eq_false (Nat.not_lt.mpr hsz)) ?_; wp_walk using wpAny_loadPart' hl))
    exact ⟨_, rfl, h⟩
theorem tuple_mul1 (l : Addr) (items : Array Value) (n : Nat) (dd : Option Addr) (sl : Array (Option Value)) (x : Int) (u : Tok) (c0 : (decide (x < -(2 ^ 63)) || decide (x ≥ 2 ^ 63)) = false) (c1 : (items.isEmpty || x == 1) = true) :
    Meets (Builtin.«tuple.__mul__» ⟨[.ref l, .int x u], []⟩) (fun _ R s => s.heap.get? l = some { cls := .type "tuple", dict := dd, data := .seq items n, slots := sl } ∧ R (.ok (.ret (Value.ref l))) s) :=
  .of_wp fun prog w A R s h => by
    obtain ⟨hp, g, d, tk, os⟩ := s
    obtain ⟨hl, h⟩ := h
    have f1 := AutoSeq1.idx_int
    wp_walk using wpAny_loadPart' hl
    repeat (first
      | (refine wpAny_ite_false (decide_eq_false (by rw [c0]; exact Bool.false_ne_true)) ?_; wp_walk using wpAny_loadPart' hl)
      | (refine wpAny_ite_true (decide_eq_true c1) ?_; wp_walk using wpAny_loadPart' hl))
    exact ⟨_, rfl, h⟩
def rRepT0 (K : PySem.W.Frag) : R2 := fun x y H Q => ∃ l k xs, x = .ref l ∧ y = .int k ∧ SqT K H l xs ∧ xs ≠ [] ∧ k ≤ 0 ∧ -1000 ≤ k ∧ ∀ p, H p = none → Q (.ref p) (upd H p (.tup []))
def rRepT1 (K : PySem.W.Frag) : R2 := fun x y H Q => ∃ l k xs, x = .ref l ∧ y = .int k ∧ SqT K H l xs ∧ (xs = [] ∨ k = 1) ∧ -1000 ≤ k ∧ k ≤ 1000 ∧ Q (.ref l) H
section
variable {X : Cx}
theorem op_repT0 : OpR X (binaryOp .Mult) (rRepT0 X.K) := by
  intro pins s σ H x y v u Q I rx ry h
  obtain ⟨l, k, xs, rfl, rfl, hT, hne, h1, h2, q⟩ := h
  cases rx
  obtain ⟨t, rfl⟩ := ry
  obtain ⟨its, r, ⟨⟨cls, dd, data, sl⟩, ho, hc, n, hd⟩, hs⟩ := I.tuple hT
  simp only at hc hd
  subst hc hd
  have hi : its.toArray.isEmpty = false := by
    cases its with
    | nil => cases r; exact absurd rfl hne
    | cons a b => rfl
  have c0 : (decide (k < -(2 ^ 63)) || decide (k ≥ 2 ^ 63)) = false := by
    rw [decide_eq_false (by omega), decide_eq_false (by omega)] <;> rfl
  have c1 : (its.toArray.isEmpty || k == 1) = false := by
    rw [hi, Bool.false_or]
    exact beq_eq_false_iff_ne.mpr (by omega)
  have c2 : (decide (k ≤ 0) || its.toArray.isEmpty) = true := by
    rw [decide_eq_true h1]
    rfl
  refine wpAny_binaryOp_repeat_ref (T := "tuple") (U := "int") (by decide) ⟨_, ho, rfl⟩ (fun s' => typeIs_int s' k t) noFill_tuple_mul F.fills_int_mul F.slot_int_rmul repeat_tuple F.slot_int_index.lookup
    (call_meets F.slot_int_rmul (typeIs_int s k t) F.entry_int_rmul (F.args_int_rmul_2 _ _) (int_rmul_tuple k t l its.toArray n dd sl)
      ⟨ho, rfl, ⟨_, ho, rfl⟩, call_meets F.slot_tuple_mul ⟨_, ho, rfl⟩ F.entry_tuple_mul (F.args_tuple_mul_2 _ _) (tuple_mul0 l its.toArray n dd sl k t c0 c1 c2) ⟨ho, ?_⟩⟩)
  exact ⟨.ref s.heap.objs.size, _, I.laid (t' := s.toks) (o := .tup []) (fun b ob z => Heap.get?_push_of_some _ z) (Nat.le_refl _) ⟨Nat.zero_le _, [], .nil, IsTup.new _ _⟩, rfl, q _ (I.hok.fresh (Nat.le_refl _))⟩
theorem op_repT1 : OpR X (binaryOp .Mult) (rRepT1 X.K) := by
  intro pins s σ H x y v u Q I rx ry h
  obtain ⟨l, k, xs, rfl, rfl, hT, hk, h1, h2, q⟩ := h
  cases rx
  obtain ⟨t, rfl⟩ := ry
  obtain ⟨its, r, ⟨⟨cls, dd, data, sl⟩, ho, hc, n, hd⟩, hs⟩ := I.tuple hT
  simp only at hc hd
  subst hc hd
  have c0 : (decide (k < -(2 ^ 63)) || decide (k ≥ 2 ^ 63)) = false := by
    rw [decide_eq_false (by omega), decide_eq_false (by omega)] <;> rfl
  have c1 : (its.toArray.isEmpty || k == 1) = true := by
    rcases hk with rfl | rfl
    · cases r; rfl
    · simp
  refine wpAny_binaryOp_repeat_ref (T := "tuple") (U := "int") (by decide) ⟨_, ho, rfl⟩ (fun s' => typeIs_int s' k t) noFill_tuple_mul F.fills_int_mul F.slot_int_rmul repeat_tuple F.slot_int_index.lookup
    (call_meets F.slot_int_rmul (typeIs_int s k t) F.entry_int_rmul (F.args_int_rmul_2 _ _) (int_rmul_tuple k t l its.toArray n dd sl)
      ⟨ho, rfl, ⟨_, ho, rfl⟩, call_meets F.slot_tuple_mul ⟨_, ho, rfl⟩ F.entry_tuple_mul (F.args_tuple_mul_2 _ _) (tuple_mul1 l its.toArray n dd sl k t c0 c1) ⟨ho, ?_⟩⟩)
  exact ⟨.ref l, H, I, rfl, q⟩
def rMulX (K : PySem.W.Frag) : R2 := fun x y H Q => rI CMulW (fun i j => .int (i * j)) x y H Q ∨ (rRepT K x y H Q ∨ (rRepT0 K x y H Q ∨ (rRepT1 K x y H Q ∨ rRep x y H Q)))
theorem op_mulX : OpR X (binaryOp .Mult) (rMulX X.K) := op_mulW.or (op_repT.or (op_repT0.or (op_repT1.or op_rep)))
end
theorem ops_mul (G : Gx) : OpS G (opD .mul) (rMulX G.K) := by
  intro d e x y m ι H Q E rm rx ry h
  cases rx with
  | int i =>
    cases ry with
    | int j =>
      have h' : Po G ι H E (if mulOk i j then R.ok (D.int (i * j)) m else R.no) _ := h
      by_cases hz : mulOk i j = true
      · rw [if_pos hz] at h'
        exact .inl ⟨i, j, rfl, rfl, (show i.natAbs.log2 + j.natAbs.log2 < 1000000 from of_decide_eq_true (mulOk_eq i j ▸ hz)), h'.ok .refl rm _ (.int _)⟩
      · rw [if_neg hz] at h'
        exact (show False from h').elim
    | _ => exact (show False from h).elim
  | @tup ds a xs h1 h2 =>
    cases ry with
    | int k =>
      have h' : Po G ι H E (if repOk k ds.length then newT (repD k ds) m else R.no) (fun d _ ι' H' => ∀ v, RV G.K ι' H' d v → Q v H') := h
      by_cases hz : repOk k ds.length = true
      · rw [if_pos hz] at h'
        have z1 := Bool.and_eq_true_iff.mp (repOk_eq k ds.length ▸ hz)
        have z2 := Bool.and_eq_true_iff.mp z1.2
        have k1 := of_decide_eq_true z1.1
        have k2 := of_decide_eq_true z2.1
        have k3 := of_decide_eq_true z2.2
        have hn := po_newT rm (RVs.rep h2 k.toNat) h'
        by_cases e0 : xs = []
        · subst e0
          have : ds = [] := by cases h2; rfl
          subst this
          unfold newT at h'
          have e2 : repD k ([] : List D) = [] := by unfold repD; simp
          rw [e2, if_pos (show szOk ([] : List D).length = true by rw [szOk_eq]; decide)] at h'
          exact .inr (.inr (.inr (.inl ⟨a, k, [], rfl, rfl, h1, .inl rfl, k1, k2, h'.ok .refl rm _ (.tup h1 h2)⟩)))
        · by_cases e1 : k = 1
          · subst e1
            unfold newT at h'
            have e2 : repD 1 ds = ds := by unfold repD; simp
            rw [e2] at h'
            by_cases hs : szOk ds.length = true
            · rw [if_pos hs] at h'
              exact .inr (.inr (.inr (.inl ⟨a, 1, xs, rfl, rfl, h1, .inr rfl, k1, k2, h'.ok .refl rm _ (.tup h1 h2)⟩)))
            · rw [if_neg hs] at h'
              exact (show False from h').elim
          · by_cases e3 : k ≤ 0
            · have e4 : k.toNat = 0 := by omega
              rw [e4] at hn
              exact .inr (.inr (.inl ⟨a, k, xs, rfl, rfl, h1, e0, e3, k1, hn.2⟩))
            · exact .inr (.inl ⟨a, k, xs, rfl, rfl, h1, e0, by omega, k2, by rw [← h2.length]; exact k3, hn.2⟩)
      · rw [if_neg hz] at h'
        exact (show False from h').elim
    | _ => exact (show False from h).elim
  | @loc l a ha =>
    cases ry with
    | int k =>
      have h' : Po G ι H E (match m[l]? with | some (.lst xs) => if repOk k xs.length then newL (repD k xs) m else .no | _ => .no) (fun d _ ι' H' => ∀ v, RV G.K ι' H' d v → Q v H') := h
      split at h'
      · rename_i ds e1
        obtain ⟨a', q1, xs, q2, q3⟩ := rm.at_ e1
        rw [ha] at q1; cases q1
        by_cases hz : repOk k ds.length = true
        · rw [if_pos hz] at h'
          have z1 := Bool.and_eq_true_iff.mp (repOk_eq k ds.length ▸ hz)
          have z2 := Bool.and_eq_true_iff.mp z1.2
          have k1 := of_decide_eq_true z1.1
          have k2 := of_decide_eq_true z2.1
          have k3 := of_decide_eq_true z2.2
          have hn := po_newL rm (RVs.rep q3 k.toNat) h'
          refine .inr (.inr (.inr (.inr ⟨_, k, xs, rfl, rfl, q2, by omega, by omega, ?_, hn.2⟩)))
          have := hn.1
          rw [PyProof.Rows.lm_len_rep_flat, Nat.mul_comm] at this
          exact this
        · rw [if_neg hz] at h'
          exact (show False from h').elim
      · exact (show False from h').elim
    | _ => exact (show False from h).elim
  | non => cases ry <;> exact (show False from h).elim
  | bl b => cases ry <;> exact (show False from h).elim
  | str b => cases ry <;> exact (show False from h).elim
inductive OpK : Operator → Op → Prop where
  | add : OpK .Add .add
  | sub : OpK .Sub .sub
  | mul : OpK .Mult .mul
  | fdiv : OpK .FloorDiv .fdiv
  | mod : OpK .Mod .mod
  | pow : OpK .Pow .pow
theorem OpK.rule {op : Operator} {o : Op} (k : OpK op o) (G : Gx) (N : List Str) (sc : Scope) (n : Nat) : ∃ r : R2, (∀ X, Gd G N sc n X → OpR X (binaryOp op) r) ∧ OpS G (opD o) r := by
  cases k with
  | add => exact ⟨rAddX G.K, fun X g => by rw [← g.K]; exact op_addX, ops_add G⟩
  | sub => exact ⟨_, fun X g => op_sub, ops_sub G⟩
  | mul => exact ⟨rMulX G.K, fun X g => by rw [← g.K]; exact op_mulX, ops_mul G⟩
  | fdiv => exact ⟨_, fun X g => op_fdivX, ops_fdiv G⟩
  | mod => exact ⟨_, fun X g => op_modN, ops_mod G⟩
  | pow => exact ⟨_, fun X g => op_pow, ops_pow G⟩
section
variable {S : Sig} {N : List Str} {sc : Scope} {a b c e : Expr} {ca cb cc : CE} {pos : Pos}
theorem se_bin {op : Operator} {o : Op} (k : OpK op o) (ha : SE S N sc a ca) (hb : SE S N sc b cb) : SE S N sc (.BinOp a op b pos) (.op o ca cb) := se_op ha hb fun G n => k.rule G N sc n

def rReprX (K : PySem.W.Frag) : List V → Hp → VK → Prop := fun xs H Q => ∃ x d, xs = [x] ∧ Dp K H x d ∧ d.showable = true ∧ d.hasDict = false ∧ d.depth ≤ 60 ∧ d.shown.length ≤ sizeLine ∧ Q (.str d.shown) H
theorem call_reprY {X : Cx} (hg : X.A.guards = some []) (hu : X.A.units + 64 < cLine) : CallR X (.builtin "repr") (rReprX X.K) := by
  intro pins s σ H xs us Q I r h
  obtain ⟨x, d, rfl, hd, h1, h2, h3, h4, q⟩ := h
  obtain ⟨u, rfl, ru⟩ := vals1 r
  cases hd with
  | non =>
    cases ru
    exact PySem.P.repr_of_none ⟨.str _, H, I.tok _, ⟨_, rfl⟩, q⟩
  | bl b =>
    cases ru
    refine PySem.P.repr_of_bool ⟨.str _, H, I.tok _, ⟨_, rfl⟩, ?_⟩
    cases b <;> exact q
  | int i =>
    obtain ⟨t, rfl⟩ := ru
    exact PySem.P.repr_of_int (of_decide_eq_true h1) ⟨.str _, H, I.tok _, ⟨_, rfl⟩, q⟩
  | str z =>
    obtain ⟨t, rfl⟩ := ru
    exact PySem.P.repr_of_str ⟨.str _, H, I.tok _, ⟨_, rfl⟩, q⟩ h4
  | lst z1 z2 => exact call_reprX hg hu pins s σ H _ _ Q I (.cons ru .nil) ⟨_, _, rfl, .lst z1 z2, h1, h2, h3, h4, q⟩
  | tup z1 z2 => exact call_reprX hg hu pins s σ H _ _ Q I (.cons ru .nil) ⟨_, _, rfl, .tup z1 z2, h1, h2, h3, h4, q⟩
theorem cls_repr {G : Gx} : ClS G (bltD .repr) (rReprX G.K) := by
  intro ds xs m ι H Q E rm rs h
  match ds, rs, h with
  | [], _, h => exact (show False from h).elim
  | [d], rs, h =>
    obtain ⟨x, rfl, rx⟩ := rvs1 rs
    have h' : Po G ι H E (match shownD m d with | some x => .ok (.str x) m | none => .no) (fun d _ ι' H' => ∀ v, RV G.K ι' H' d v → Q v H') := h
    cases e : shownD m d with
    | none => rw [e] at h'; exact (show False from h').elim
    | some z =>
      rw [e] at h'
      unfold shownD at e
      cases e2 : tree m d with
      | none => rw [e2] at e; cases e
      | some p =>
        rw [e2] at e
        have e : (if p.showable && (!p.hasDict && (decide (p.depth ≤ 60) && szOk p.shown.length)) then some p.shown else none) = some z := e
        by_cases hz : (p.showable && (!p.hasDict && (decide (p.depth ≤ 60) && szOk p.shown.length))) = true
        · rw [if_pos hz] at e
          cases e
          have z1 := Bool.and_eq_true_iff.mp hz
          have z2 := Bool.and_eq_true_iff.mp z1.2
          have z3 := Bool.and_eq_true_iff.mp z2.2
          exact ⟨x, p, rfl, dp_of rm e2 rx, z1.1, by simpa using z2.1, of_decide_eq_true z3.1, sz_le z3.2, h'.ok .refl rm _ (.str _)⟩
        · rw [if_neg hz] at e
          cases e
  | _ :: _ :: _, _, h => exact (show False from h).elim

inductive BltK : Str → String → Bf → Nat → Prop where
  | len : BltK "len" "len" .len 1
  | abs : BltK "abs" "abs" .abs 1
  | repr : BltK "repr" "repr" .repr 1
  | all : BltK "all" "all" .all 1
  | any : BltK "any" "any" .any 1
  | max : BltK "max" "max" .max2 2
  | min : BltK "min" "min" .min2 2
inductive BtyK : Str → String → Bf → Prop where
  | int : BtyK "int" "int" .int
  | str : BtyK "str" "str" .str
  | list : BtyK "list" "list" .list
  | tuple : BtyK "tuple" "tuple" .tuple
theorem BltK.facts {x : Str} {id : String} {f : Bf} {k : Nat} (h : BltK x id f k) : bootBuiltins x = some (.builtin id) ∧ x ≠ "__name__" ∧ (x == ("__debug__" : Str)) = false := by
  cases h <;> exact ⟨by decide +kernel, by decide, by decide⟩
theorem BtyK.facts {x : Str} {id : String} {f : Bf} (h : BtyK x id f) : bootBuiltins x = some (.type id) ∧ x ≠ "__name__" ∧ (x == ("__debug__" : Str)) = false := by
  cases h <;> exact ⟨by decide +kernel, by decide, by decide⟩
theorem BltK.rule {x : Str} {id : String} {f : Bf} {k : Nat} (h : BltK x id f k) (N : List Str) (sc : Scope) (G : Gx) (n : Nat) : ∃ r, (∀ X, Gd G N sc n X → CallR X (.builtin id) r) ∧ ClS G (bltD f) r := by
  cases h with
  | len => exact ⟨_, fun X g => by rw [← g.K]; exact call_len, cls_len⟩
  | abs => exact ⟨_, fun X g => call_abs, cls_abs⟩
  | repr => exact ⟨rReprX G.K, fun X g => by rw [← g.K]; exact call_reprY g.guards (room64 g), cls_repr⟩
  | all => exact ⟨rAll G.K, fun X g => by rw [← g.K]; exact cr_all g.calm, cls_all⟩
  | any => exact ⟨rAny G.K, fun X g => by rw [← g.K]; exact cr_any g.calm, cls_any⟩
  | max => exact ⟨_, fun X g => call_max2 g.calm, cls_max⟩
  | min => exact ⟨_, fun X g => call_min2 g.calm, cls_min⟩
theorem BtyK.rule {x : Str} {id : String} {f : Bf} (h : BtyK x id f) (N : List Str) (sc : Scope) (G : Gx) (n : Nat) : ∃ r, (∀ X, Gd G N sc n X → CallR X (.type id) r) ∧ ClS G (bltD f) r := by
  cases h with
  | int => exact ⟨_, fun X g => call_int1, cls_int⟩
  | str => exact ⟨_, fun X g => call_str_int, cls_str⟩
  | list => exact ⟨_, fun X g => by rw [← g.K]; exact call_list_of, cls_list⟩
  | tuple => exact ⟨_, fun X g => by rw [← g.K]; exact call_tuple_of, cls_tuple⟩
theorem se_bltK {x : Str} {p : Pos} {es : List Expr} {ces : CEs} {f : Bf} {id : String} {k : Nat} (h : BltK x id f k) (hn : x ∈ S.nones) (hg : sc.names.lookup x = some .globalImplicit)
    (hs : SEs S N sc (a :: es) ces) (h0 : simple a = true) (hp : ∀ e ∈ es, simple e = true) : SE S N sc (.Call (.Name x p) (a :: es) [] pos) (.blt f ces) :=
  se_blt hn hg h.facts.1 h.facts.2.1 h.facts.2.2 hs h0 hp (h.rule N sc)
theorem se_btyK {x : Str} {p : Pos} {es : List Expr} {ces : CEs} {f : Bf} {id : String} (h : BtyK x id f) (hn : x ∈ S.nones) (hg : sc.names.lookup x = some .globalImplicit)
    (hs : SEs S N sc (a :: es) ces) (h0 : simple a = true) (hp : ∀ e ∈ es, simple e = true) : SE S N sc (.Call (.Name x p) (a :: es) [] pos) (.blt f ces) :=
  se_bty hn hg h.facts.1 h.facts.2.1 h.facts.2.2 hs h0 hp (h.rule N sc)

inductive TyK : Str → String → Ty → Prop where
  | int : TyK "int" "int" .int
  | bool : TyK "bool" "bool" .bool
  | str : TyK "str" "str" .str
  | tuple : TyK "tuple" "tuple" .tuple
  | list : TyK "list" "list" .list
theorem TyK.facts {x : Str} {id : String} {t : Ty} (h : TyK x id t) : bootBuiltins x = some (.type id) ∧ x ≠ "__name__" ∧ (x == ("__debug__" : Str)) = false := by
  cases h <;> exact ⟨by decide +kernel, by decide, by decide⟩
theorem isi_of {G : Gx} {ι : List Addr} {H : Hp} {m : Mu} {d : D} {v : V} {x : Str} {id : String} {t : Ty} {b : Bool} (k : TyK x id t) (rm : RM G.K ι H m) (rv : RV G.K ι H d v) (h : isiD t d m = some b) :
    ∃ T, TyX G.K H v T ∧ PySem.W.kitOne G.K T (.type id) = some b := by
  cases rv with
  | non => exact ⟨_, .base .non, by cases k <;> cases h <;> first | rfl | decide +kernel⟩
  | bl c => exact ⟨_, .base (.bl c), by cases k <;> cases h <;> first | rfl | decide +kernel⟩
  | int c => exact ⟨_, .base (.int c), by cases k <;> cases h <;> first | rfl | decide +kernel⟩
  | str c => exact ⟨_, .base (.str c), by cases k <;> cases h <;> first | rfl | decide +kernel⟩
  | @tup ds a xs h1 h2 =>
    have ty : TyX G.K H (.ref a) (.type "tuple") := by
      rcases h1 with (h1 | ⟨o, h1⟩) | ⟨o, its, n, h1, h3, _⟩
      · exact .base (.tup h1)
      · exact .fTuple h1
      · exact .kTuple h1 h3
    exact ⟨_, ty, by cases k <;> cases h <;> first | rfl | decide +kernel⟩
  | @loc l a ha =>
    have h : (match m[l]? with | some (.lst _) => some t.isList | _ => none) = some b := h
    split at h
    · rename_i ds e
      obtain ⟨a', q1, xs, q2, q3⟩ := rm.at_ e
      rw [ha] at q1; cases q1
      exact ⟨_, .base (.lst q2), by cases k <;> cases h <;> first | rfl | decide +kernel⟩
    · cases h
theorem se_isi {x : Str} {p p2 : Pos} {id : String} {t : Ty} (k : TyK x id t) (hn : x ∈ S.nones) (hn2 : ("isinstance" : Str) ∈ S.nones) (hg : sc.names.lookup x = some .globalImplicit) (hg2 : sc.names.lookup ("isinstance" : Str) = some .globalImplicit)
    (ha : SE S N sc a ca) (hs : simple a = true) : SE S N sc (.Call (.Name "isinstance" p) [a, .Name x p2] [] pos) (.isi ca t) := by
  intro G n so fo
  obtain ⟨ta, pa, aa⟩ := ha G n so fo
  obtain ⟨f1, f2, f3⟩ := k.facts
  refine ⟨fun W => tCB (rIsi G.K) (tCons (ta W) (tCons (tC (.ty id)) tNil)), fun X W g tk => ?_, fun W σ H Q ι env m rs rm h => ?_⟩
  · refine pe_callB (by rw [← g.K]; exact call_isi) (g.gl _ hg2) (by rw [g.mg]; exact so.nones _ hn2) (by decide +kernel) (pa_cons (pa X W g tk) (pa_cons (pe_bltn (v := .ty id) (g.gl x hg) (by rw [g.mg]; exact so.nones x hn) f1 rfl f2 f3) pa_nil) (simple_star hs _ X.env)) (by decide) (by decide) (simple_star hs _ X.env) (backTo_plain fun e he => ?_)
    rcases List.mem_cons.mp he with rfl | he
    · rfl
    · cases he
  · unfold evE at h
    refine aa W σ H _ ι env m rs rm (h.bind.imp fun d m1 ι1 H1 x1 rm1 h1 v rv => ?_)
    obtain ⟨z, e1, e2⟩ := h1.opt rm1
    cases e3 : isiD t d m1 with
    | none => rw [e3] at e1; cases e1
    | some b =>
      rw [e3] at e1
      cases e1
      obtain ⟨T, q1, q2⟩ := isi_of k rm1 rv e3
      exact ⟨v, .ty id, T, .type id, b, rfl, .ty id, q1, q2, e2 _ (.bl b)⟩

theorem se_rev {k : Nat} {p1 p2 p3 : Pos} (ha : SE S N sc a ca) : SE S N sc (.Subscript a (.Slice none none (some (.UnaryOp .USub (.Constant (.int 1) k p1) p2)) p3) pos) (.rev ca) := by
  intro G n so fo
  obtain ⟨ta, pa, aa⟩ := ha G n so fo
  refine ⟨fun W => tRevX G.K (ta W), fun X W g tk => by rw [← g.K]; exact pe_revX (pa X W g tk), fun W σ H Q ι env m rs rm h => ?_⟩
  unfold evE at h
  refine aa W σ H _ ι env m rs rm (h.bind.imp fun d m1 ι1 H1 x1 rm1 h1 v rv => ?_)
  cases rv with
  | tup q1 q2 => exact .inr (.inl ⟨_, _, rfl, q1, fun p hp => (show Po G ι1 H1 _ (R.ok (D.tup _) m1) _ from h1).ok (.same (same_upd hp)) (rm1.newT hp) _ (.newT hp q2.reverse)⟩)
  | str z =>
    have h' : Po G ι1 H1 (eW W σ) (if szOk z.length then R.ok (D.str ⟨z.cps.toList.reverse.toArray⟩) m1 else R.no) (fun d _ ι' H' => ∀ v, RV G.K ι' H' d v → Q v H') := h1
    by_cases hz : szOk z.length = true
    · rw [if_pos hz] at h'
      exact .inr (.inr ⟨z, rfl, sz_le hz, h'.ok .refl rm1 _ (.str _)⟩)
    · rw [if_neg hz] at h'
      exact (show False from h').elim
  | @loc l p hp =>
    have h' : Po G ι1 H1 (eW W σ) (match listAt m1 l with | some ds => newL ds.reverse m1 | none => .no) (fun d _ ι' H' => ∀ v, RV G.K ι' H' d v → Q v H') := h1
    cases e : listAt m1 l with
    | none => rw [e] at h'; exact (show False from h').elim
    | some ds =>
      rw [e] at h'
      obtain ⟨a', xs, q3, q4, q5⟩ := rm1.list e
      rw [hp] at q3; cases q3
      exact .inl ⟨_, xs, rfl, q4, (po_newL rm1 q5.reverse h').2⟩
  | _ => exact (show False from h1).elim

def abase : Expr → Bool
  | .Call .. => false
  | _ => true
theorem abase_of {o : Expr} (h : abase o = true) (m : Str) (env : PySem.Env) : attributeBase o m env (eval o env) = eval o env := by
  cases o <;> first | rfl | cases h
theorem append_of {G : Gx} {ι : List Addr} {H : Hp} {m : Mu} {d e : D} {v w : V} {E : XK} {Q : VK} (rm : RM G.K ι H m) (rv : RV G.K ι H d v) (rw : RV G.K ι H e w)
    (h : Po G ι H E (appD d e m) (fun d _ ι' H' => ∀ v, RV G.K ι' H' d v → Q v H')) : rAppend v [w] H Q := by
  cases rv with
  | @loc l a ha =>
    have h' : Po G ι H E (match m[l]? with | some (.lst ds) => if szOk ds.length then R.ok D.non (m.set l (.lst (ds ++ [e]))) else .no | _ => .no) (fun d _ ι' H' => ∀ v, RV G.K ι' H' d v → Q v H') := h
    split at h'
    · rename_i ds q
      obtain ⟨a', q1, xs, q2, q3⟩ := rm.at_ q
      rw [ha] at q1; cases q1
      by_cases hz : szOk ds.length = true
      · rw [if_pos hz] at h'
        have x1 : Ext G.K ι H ι (upd H a (.lst (xs ++ [w]))) := .write ⟨_, q2, .inl ⟨_, rfl⟩⟩
        refine ⟨_, xs, w, rfl, rfl, q2, by rw [← q3.length]; exact sz_lt hz, h'.ok x1 (rm.write q ha rfl rfl ⟨_, upd_same, (q3.mono x1).append (.cons (rw.mono x1) .nil)⟩) _ .non⟩
      · rw [if_neg hz] at h'
        exact (show False from h').elim
    · exact (show False from h').elim
  | _ => exact (show False from h).elim
theorem few_of {es : List Expr} {env : PySem.Env} {pos : Pos} (h : ∀ e ∈ es, simple e = true) (hl : es.length < 29) : ((backTo pos (starEach es env)).all (fun x => !x.1) && (backToKw pos (keywordEach [] env)).all (fun x => x.1.isSome)
      && decide (es.length + ([] : List Keyword).length + (if ([] : List Keyword).isEmpty then 0 else 1) < 30)) = true := by
  have h1 := backTo_plain (env := env) (pos := pos) h
  have h2 : (backTo pos (starEach es env)).all (fun x => !x.1) = true := by
    rw [List.all_eq_true]
    intro x hx
    cases e : x.1 with
    | false => rfl
    | true =>
      have : (backTo pos (starEach es env)).any (·.1) = true := List.any_eq_true.mpr ⟨x, hx, e⟩
      rw [h1] at this
      cases this
  rw [h2]
  have h3 : decide (es.length + ([] : List Keyword).length + (if ([] : List Keyword).isEmpty then 0 else 1) < 30) = true := decide_eq_true (by simp; omega)
  rw [h3]
  rfl
theorem se_app {apos : Pos} (ha : SE S N sc a ca) (hb : SE S N sc b cb) (h1 : abase a = true) (h2 : simple b = true) (hl : (apos.endLine == pos.line) = true) : SE S N sc (.Call (.Attribute a "append" apos) [b] [] pos) (.app ca cb) := by
  intro G n so fo
  obtain ⟨ta, pa, aa⟩ := ha G n so fo
  obtain ⟨tb, pb, ab⟩ := hb G n so fo
  refine ⟨fun W => tBM G.K "list" rAppend (ta W) (tCons (tb W) tNil), fun X W g tk => ?_, fun W σ H Q ι env m rs rm h => ?_⟩
  · rw [← g.K]
    have hq : ∀ e ∈ [b], simple e = true := fun e he => by
      rcases List.mem_cons.mp he with rfl | he
      · exact h2
      · cases he
    exact pe_bm PySem.F.plainAttrs_list PySem.F.slot_list_append PySem.F.type_list_append mt_append (pa X W g tk) (pa_cons (pb X W g tk) pa_nil (simple_star h2 _ X.env)) (abase_of h1 _ _) (few_of hq (by simp)) hl (simple_star h2 _ X.env) (backTo_plain fun e he => nomatch he)
  · unfold evE at h
    refine aa W σ H _ ι env m rs rm (h.bind.imp fun d m1 ι1 H1 x1 rm1 h1 v rv => ?_)
    by_cases hz : isL d m1 = true
    · rw [if_pos hz] at h1
      refine ⟨?_, ab W σ H1 _ ι1 env m1 (rs.mono x1) rm1 (h1.bind.imp fun e m2 ι2 H2 x2 rm2 h2 w rw => append_of rm2 (rv.mono x2) rw h2)⟩
      cases rv with
      | @loc l p hp =>
        have hz : (match m1[l]? with | some (.lst _) => true | _ => false) = true := hz
        split at hz
        · rename_i ds q
          obtain ⟨a', q1, xs, q2, q3⟩ := rm1.at_ q
          rw [hp] at q1; cases q1
          exact .inl ⟨rfl, xs, .of q2⟩
        · cases hz
      | _ => cases hz
    · rw [if_neg hz] at h1
      exact (show False from h1).elim
def rInsert : V → List V → Hp → VK → Prop := fun x vs H Q => ∃ (l : Addr) (xs : List V) (i : Int) (y : V), x = .ref l ∧ vs = [.int i, y] ∧ H l = some (.lst xs) ∧ xs.length < sizeLine ∧ 0 ≤ i ∧ i < 2 ^ 63 ∧ Q .non (upd H l (.lst (xs.take i.toNat ++ [y] ++ xs.drop i.toNat)))
theorem insert_of {G : Gx} {ι : List Addr} {H : Hp} {m : Mu} {d j e : D} {v u w : V} {E : XK} {Q : VK} (rm : RM G.K ι H m) (rv : RV G.K ι H d v) (ru : RV G.K ι H j u) (rw : RV G.K ι H e w)
    (h : Po G ι H E (insD d j e m) (fun d _ ι' H' => ∀ v, RV G.K ι' H' d v → Q v H')) : rInsert v [u, w] H Q := by
  cases rv with
  | @loc l a ha =>
    cases ru with
    | int i =>
      have h' : Po G ι H E (match m[l]? with | some (.lst ds) => if szOk ds.length && (decide (0 ≤ i) && boundOk i) then R.ok D.non (m.set l (.lst (ds.take i.toNat ++ [e] ++ ds.drop i.toNat))) else .no | _ => .no) (fun d _ ι' H' => ∀ v, RV G.K ι' H' d v → Q v H') := h
      split at h'
      · rename_i ds q
        obtain ⟨a', q1, xs, q2, q3⟩ := rm.at_ q
        rw [ha] at q1; cases q1
        by_cases hz : (szOk ds.length && (decide (0 ≤ i) && boundOk i)) = true
        · rw [if_pos hz] at h'
          have z1 := Bool.and_eq_true_iff.mp hz
          have z2 := Bool.and_eq_true_iff.mp z1.2
          have z3 := z2.2
          rw [boundOk_eq] at z3
          have z4 := of_decide_eq_true (Bool.and_eq_true_iff.mp z3).2
          have z5 := of_decide_eq_true z2.1
          have x1 : Ext G.K ι H ι (upd H a (.lst (xs.take i.toNat ++ [w] ++ xs.drop i.toNat))) := .write ⟨_, q2, .inl ⟨_, rfl⟩⟩
          refine ⟨_, xs, i, w, rfl, rfl, q2, by rw [← q3.length]; exact sz_lt z1.1, z5, by omega, h'.ok x1 (rm.write q ha rfl rfl ⟨_, upd_same, (((q3.mono x1).take _).append (.cons (rw.mono x1) .nil)).append ((q3.mono x1).drop _)⟩) _ .non⟩
        · rw [if_neg hz] at h'
          exact (show False from h').elim
      · exact (show False from h').elim
    | _ => exact (show False from h).elim
  | _ =>
    cases ru <;> exact (show False from h).elim
theorem se_ins {apos : Pos} {ci : CE} {i : Expr} (ha : SE S N sc a ca) (hi : SE S N sc i ci) (hb : SE S N sc b cb) (h1 : abase a = true) (h0 : simple i = true) (h2 : simple b = true) (hl : (apos.endLine == pos.line) = true) : SE S N sc (.Call (.Attribute a "insert" apos) [i, b] [] pos) (.ins ca ci cb) := by
  intro G n so fo
  obtain ⟨ta, pa, aa⟩ := ha G n so fo
  obtain ⟨ti, pi, ai⟩ := hi G n so fo
  obtain ⟨tb, pb, ab⟩ := hb G n so fo
  refine ⟨fun W => tBM G.K "list" rInsert (ta W) (tCons (ti W) (tCons (tb W) tNil)), fun X W g tk => ?_, fun W σ H Q ι env m rs rm h => ?_⟩
  · rw [← g.K]
    have hq : ∀ e ∈ [i, b], simple e = true := fun e he => by
      rcases List.mem_cons.mp he with rfl | he
      · exact h0
      · rcases List.mem_cons.mp he with rfl | he
        · exact h2
        · cases he
    have hq2 : ∀ e ∈ [b], simple e = true := fun e he => hq e (List.mem_cons_of_mem _ he)
    exact pe_bm PySem.F.plainAttrs_list PySem.F.slot_list_insert PySem.F.type_list_insert mt_insert (pa X W g tk) (pa_cons (pi X W g tk) (pa_cons (pb X W g tk) pa_nil (simple_star h2 _ X.env)) (simple_star h0 _ X.env)) (abase_of h1 _ _) (few_of hq (by simp)) hl (simple_star h0 _ X.env) (backTo_plain hq2)
  · unfold evE at h
    refine aa W σ H _ ι env m rs rm (h.bind.imp fun d m1 ι1 H1 x1 rm1 h1 v rv => ?_)
    by_cases hz : isL d m1 = true
    · rw [if_pos hz] at h1
      refine ⟨?_, ai W σ H1 _ ι1 env m1 (rs.mono x1) rm1 (h1.bind.imp fun j m2 ι2 H2 x2 rm2 h2 u ru => ab W σ H2 _ ι2 env m2 ((rs.mono x1).mono x2) rm2 (h2.bind.imp fun e m3 ι3 H3 x3 rm3 h3 w rw => insert_of rm3 ((rv.mono x2).mono x3) (ru.mono x3) rw h3))⟩
      cases rv with
      | @loc l p hp =>
        have hz : (match m1[l]? with | some (.lst _) => true | _ => false) = true := hz
        split at hz
        · rename_i ds q
          obtain ⟨a', q1, xs, q2, q3⟩ := rm1.at_ q
          rw [hp] at q1; cases q1
          exact .inl ⟨rfl, xs, .of q2⟩
        · cases hz
      | _ => cases hz
    · rw [if_neg hz] at h1
      exact (show False from h1).elim
theorem extend_of {G : Gx} {ι : List Addr} {H : Hp} {m : Mu} {d e : D} {v w : V} {E : XK} {Q : VK} (rm : RM G.K ι H m) (rv : RV G.K ι H d v) (rw : RV G.K ι H e w)
    (h : Po G ι H E (extD d e m) (fun d _ ι' H' => ∀ v, RV G.K ι' H' d v → Q v H')) : rExtend v [w] H Q := by
  cases rv with
  | @loc l a ha =>
    cases rw with
    | @loc k b hb =>
      have h' : Po G ι H E (match m[l]?, m[k]? with | some (.lst ds), some (.lst es) => if szOk (ds.length + es.length) then R.ok D.non (m.set l (.lst (ds ++ es))) else .no | _, _ => .no) (fun d _ ι' H' => ∀ v, RV G.K ι' H' d v → Q v H') := h
      split at h'
      · rename_i ds es q p
        obtain ⟨a', q1, xs, q2, q3⟩ := rm.at_ q
        rw [ha] at q1; cases q1
        obtain ⟨b', p1, zs, p2, p3⟩ := rm.at_ p
        rw [hb] at p1; cases p1
        by_cases hz : szOk (ds.length + es.length) = true
        · rw [if_pos hz] at h'
          have x1 : Ext G.K ι H ι (upd H a (.lst (xs ++ zs))) := .write ⟨_, q2, .inl ⟨_, rfl⟩⟩
          refine ⟨_, _, xs, zs, rfl, rfl, q2, p2, by rw [← q3.length, ← p3.length]; exact Nat.le_of_lt (sz_lt hz), h'.ok x1 (rm.write q ha rfl rfl ⟨_, upd_same, (q3.mono x1).append (p3.mono x1)⟩) _ .non⟩
        · rw [if_neg hz] at h'
          exact (show False from h').elim
      · exact (show False from h').elim
    | _ => exact (show False from h).elim
  | _ => exact (show False from h).elim
theorem se_ext {apos : Pos} (ha : SE S N sc a ca) (hb : SE S N sc b cb) (h1 : abase a = true) (h2 : simple b = true) (hl : (apos.endLine == pos.line) = true) : SE S N sc (.Call (.Attribute a "extend" apos) [b] [] pos) (.ext ca cb) := by
  intro G n so fo
  obtain ⟨ta, pa, aa⟩ := ha G n so fo
  obtain ⟨tb, pb, ab⟩ := hb G n so fo
  refine ⟨fun W => tBM G.K "list" rExtend (ta W) (tCons (tb W) tNil), fun X W g tk => ?_, fun W σ H Q ι env m rs rm h => ?_⟩
  · rw [← g.K]
    have hq : ∀ e ∈ [b], simple e = true := fun e he => by
      rcases List.mem_cons.mp he with rfl | he
      · exact h2
      · cases he
    exact pe_bm PySem.F.plainAttrs_list PySem.F.slot_list_extend PySem.F.type_list_extend mt_extend (pa X W g tk) (pa_cons (pb X W g tk) pa_nil (simple_star h2 _ X.env)) (abase_of h1 _ _) (few_of hq (by simp)) hl (simple_star h2 _ X.env) (backTo_plain fun e he => nomatch he)
  · unfold evE at h
    refine aa W σ H _ ι env m rs rm (h.bind.imp fun d m1 ι1 H1 x1 rm1 h1 v rv => ?_)
    by_cases hz : isL d m1 = true
    · rw [if_pos hz] at h1
      refine ⟨?_, ab W σ H1 _ ι1 env m1 (rs.mono x1) rm1 (h1.bind.imp fun e m2 ι2 H2 x2 rm2 h2 w rw => extend_of rm2 (rv.mono x2) rw h2)⟩
      cases rv with
      | @loc l p hp =>
        have hz : (match m1[l]? with | some (.lst _) => true | _ => false) = true := hz
        split at hz
        · rename_i ds q
          obtain ⟨a', q1, xs, q2, q3⟩ := rm1.at_ q
          rw [hp] at q1; cases q1
          exact .inl ⟨rfl, xs, .of q2⟩
        · cases hz
      | _ => cases hz
    · rw [if_neg hz] at h1
      exact (show False from h1).elim
theorem last_rv {K : PySem.W.Frag} {ι : List Addr} {H : Hp} {ds : List D} {xs : List V} {d : D} (r : RVs K ι H ds xs) (h : ds.getLast? = some d) : ∃ x, xs[xs.length - 1]? = some x ∧ RV K ι H d x := by
  rw [List.getLast?_eq_getElem?] at h
  obtain ⟨x, e, q⟩ := r.get h
  exact ⟨x, by rw [← r.length]; exact e, q⟩
theorem dropLast_rv {K : PySem.W.Frag} {ι : List Addr} {H : Hp} {ds : List D} {xs : List V} (r : RVs K ι H ds xs) : RVs K ι H ds.dropLast xs.dropLast := by
  rw [List.dropLast_eq_take, List.dropLast_eq_take, r.length]
  exact r.take _
theorem se_pop {apos : Pos} (ha : SE S N sc a ca) (h1 : abase a = true) (hl : (apos.endLine == pos.line) = true) : SE S N sc (.Call (.Attribute a "pop" apos) [] [] pos) (.pop ca) := by
  intro G n so fo
  obtain ⟨ta, pa, aa⟩ := ha G n so fo
  refine ⟨fun W => tBM0 G.K "list" rPop (ta W), fun X W g tk => ?_, fun W σ H Q ι env m rs rm h => ?_⟩
  · rw [← g.K]
    exact pe_bm0 PySem.F.plainAttrs_list PySem.F.slot_list_pop PySem.F.type_list_pop mt_pop (pa X W g tk) (abase_of h1 _ _) hl
  · unfold evE at h
    refine aa W σ H _ ι env m rs rm (h.bind.imp fun d m1 ι1 H1 x1 rm1 h1 v rv => ?_)
    cases rv with
    | @loc l p hp =>
      have h' : Po G ι1 H1 (eW W σ) (match m1[l]? with | some (.lst ds) => (match ds.getLast? with | some v => R.ok v (m1.set l (.lst ds.dropLast)) | none => .no) | _ => .no) (fun d _ ι' H' => ∀ v, RV G.K ι' H' d v → Q v H') := h1
      split at h'
      · rename_i ds q
        obtain ⟨a', q1, xs, q2, q3⟩ := rm1.at_ q
        rw [hp] at q1; cases q1
        cases e : ds.getLast? with
        | none => rw [e] at h'; exact (show False from h').elim
        | some z =>
          rw [e] at h'
          obtain ⟨y, e1, ry⟩ := last_rv q3 e
          have x1 : Ext G.K ι1 H1 ι1 (upd H1 p (.lst xs.dropLast)) := .write ⟨_, q2, .inl ⟨_, rfl⟩⟩
          exact ⟨.inl ⟨rfl, xs, .of q2⟩, p, xs, y, rfl, rfl, q2, e1, h'.ok x1 (rm1.write q hp rfl rfl ⟨_, upd_same, (dropLast_rv q3).mono x1⟩) _ (ry.mono x1)⟩
      · exact (show False from h').elim
    | _ => exact (show False from h1).elim
theorem se_upper {apos : Pos} (ha : SE S N sc a ca) (h1 : abase a = true) (hl : (apos.endLine == pos.line) = true) : SE S N sc (.Call (.Attribute a "upper" apos) [] [] pos) (.upper ca) := by
  intro G n so fo
  obtain ⟨ta, pa, aa⟩ := ha G n so fo
  refine ⟨_, fun X W g tk => pe_upper (pa X W g tk) (abase_of h1 _ _) hl, fun W σ H Q ι env m rs rm h => ?_⟩
  unfold evE at h
  refine aa W σ H _ ι env m rs rm (h.bind.imp fun d m1 ι1 H1 x1 rm1 h1 v rv => ?_)
  cases rv with
  | str z =>
    have h' : Po G ι1 H1 (eW W σ) (if szOk z.length then R.ok (D.str (Txt.upper z)) m1 else .no) (fun d _ ι' H' => ∀ v, RV G.K ι' H' d v → Q v H') := h1
    by_cases hz : szOk z.length = true
    · rw [if_pos hz] at h'
      exact ⟨⟨z, rfl⟩, z, rfl, rfl, Nat.le_trans (of_decide_eq_true (szOk_eq _ ▸ hz)) (by decide), h'.ok .refl rm1 _ (.str _)⟩
    · rw [if_neg hz] at h'
      exact (show False from h').elim
  | _ => exact (show False from h1).elim
end
end Mn
end

section
set_option Elab.async false
set_option linter.all false
set_option maxRecDepth 100000
set_option autoImplicit false
set_option maxHeartbeats 1000000
namespace Mn
open PySem PySem.Spec PyProof.Rows L2 HT
section
variable {X : Cx}
theorem pick_one (its : List Value) : slicePick its.toArray none none (some 1) = its.toArray := by
  have h : slicePick its.toArray none none (some 1) = slicePick its.toArray none none none := rfl
  rw [h, slicePick_cut]
  congr 1
  show (its.drop 0).take (its.length - 0) = its
  simp
def tStp (K : PySem.W.Frag) (te ts : TE) : TE := fun σ H Q => te σ H fun x H1 => ts σ H1 fun y H2 => ∃ a xs, x = .ref a ∧ SqL K H2 a xs ∧
  ((y = .int (-1) ∧ ∀ p, H2 p = none → Q (.ref p) (upd H2 p (.lst xs.reverse))) ∨ (y = .int 1 ∧ ∀ p, H2 p = none → Q (.ref p) (upd H2 p (.lst xs))))
theorem pe_stp {e s : Expr} {te ts : TE} {p3 pos : Pos} (he : PE X e te) (hs : PE X s ts) : PE X (.Subscript e (.Slice none none (some s) p3) pos) (tStp X.K te ts) := by
  refine ⟨fun pins s σ H Q I h => ?_⟩
  refine Subscript_ (thn (he.run pins s σ H _ I h) fun v s1 ⟨x, H1, I1, r1, q1⟩ => ?_)
  refine wpAny_Slice (thn (po_none.run pins s1 σ H1 (fun o H2 => o = none ∧ H2 = H1) I1 ⟨rfl, rfl⟩) fun vl s2 ⟨l, H2, I2, pl, el, e2⟩ => ?_)
  subst el e2
  refine thn (po_none.run pins s2 σ H2 (fun o H3 => o = none ∧ H3 = H2) I2 ⟨rfl, rfl⟩) fun vu s3 ⟨u, H3, I3, pu, eu, e3⟩ => ?_
  subst eu e3
  rw [evalPart_some]
  refine thn (hs.run pins s3 σ H3 _ I3 q1) fun vs s4 ⟨y, H4, I4, rs, q⟩ => ?_
  obtain ⟨a, xs, ex, hx, q⟩ := q
  subst ex
  have I5 : Inv X pins σ H4 { s4 with heap := s4.heap.push { cls := .type "slice", data := .fields #[vl, vu, vs] } } := I4.kept (t' := s4.toks) fun b ob q => Heap.get?_push_of_some _ q
  cases pl
  cases pu
  cases r1
  obtain ⟨its, r, ht, hz⟩ := I5.list hx
  have hlen := r.length
  rcases q with ⟨ey, q⟩ | ⟨ey, q⟩
  · subst ey
    obtain ⟨t, rfl⟩ := rs
    refine tail_any (ops := [.ref a, .ref s4.heap.objs.size]) ht.isList.typeIs (PySem.slot_list_getitem.lookup) ?_ (by with_unfolding_all rfl)
    refine wpAny_getItem_list_slice ht.isList (Heap.IsSliceOf.new _ .none .none _) .none .none (.int (-1) t) (by decide) ?_ (by rw [List.size_toArray]; omega)
    rw [PySem.W.krv_pick]
    refine ⟨.ref _, _, I5.laid (t' := s4.toks) (o := .lst xs.reverse) (fun b ob q => Heap.get?_push_of_some _ q) (Nat.le_refl _) ?_, rfl, q _ (I5.hok.fresh (Nat.le_refl _))⟩
    exact ⟨by rw [List.length_reverse]; exact hz, _, 0, r.reverse, Heap.get?_push_size _ rfl⟩
  · subst ey
    obtain ⟨t, rfl⟩ := rs
    refine tail_any (ops := [.ref a, .ref s4.heap.objs.size]) ht.isList.typeIs (PySem.slot_list_getitem.lookup) ?_ (by with_unfolding_all rfl)
    refine wpAny_getItem_list_slice ht.isList (Heap.IsSliceOf.new _ .none .none _) .none .none (.int 1 t) (by decide) ?_ (by rw [List.size_toArray]; omega)
    rw [pick_one]
    refine ⟨.ref _, _, I5.laid (t' := s4.toks) (o := .lst xs) (fun b ob q => Heap.get?_push_of_some _ q) (Nat.le_refl _) ?_, rfl, q _ (I5.hok.fresh (Nat.le_refl _))⟩
    exact ⟨hz, _, 0, r, Heap.get?_push_size _ rfl⟩
end
section
variable {S : Sig} {N : List Str} {sc : Scope} {a b : Expr} {ca cb : CE} {pos p3 : Pos}
theorem se_stp (ha : SE S N sc a ca) (hb : SE S N sc b cb) : SE S N sc (.Subscript a (.Slice none none (some b) p3) pos) (.stp ca cb) := by
  intro G n so fo
  obtain ⟨ta, pa, aa⟩ := ha G n so fo
  obtain ⟨tb, pb, ab⟩ := hb G n so fo
  refine ⟨fun W => tStp G.K (ta W) (tb W), fun X W g tk => by rw [← g.K]; exact pe_stp (pa X W g tk) (pb X W g tk), fun W σ H Q ι env m rs rm h => ?_⟩
  unfold evE at h
  refine aa W σ H _ ι env m rs rm (h.bind.imp fun d m1 ι1 H1 x1 rm1 h1 v rv => ?_)
  refine ab W σ H1 _ ι1 env m1 (rs.mono x1) rm1 (h1.bind.imp fun e m2 ι2 H2 x2 rm2 h2 w rw => ?_)
  cases rw with
  | int i =>
    have rv2 := rv.mono x2
    cases rv2 with
    | @loc l p hp =>
      have h2 : Po G ι2 H2 (eW W σ) (if i = -1 then (match listAt m2 l with | some ds => newL ds.reverse m2 | none => .no) else if i = 1 then (match listAt m2 l with | some ds => newL ds m2 | none => .no) else .no) (fun d _ ι' H' => ∀ v, RV G.K ι' H' d v → Q v H') := h2
      cases e : listAt m2 l with
      | none =>
        rw [e] at h2
        split at h2
        · exact (show False from h2).elim
        · split at h2 <;> exact (show False from h2).elim
      | some ds =>
        rw [e] at h2
        obtain ⟨a', xs, q3, q4, q5⟩ := rm2.list e
        rw [hp] at q3; cases q3
        by_cases h0 : i = -1
        · rw [if_pos h0] at h2
          exact ⟨_, xs, rfl, q4, .inl ⟨by rw [h0], (po_newL rm2 q5.reverse h2).2⟩⟩
        · rw [if_neg h0] at h2
          by_cases h1 : i = 1
          · rw [if_pos h1] at h2
            exact ⟨_, xs, rfl, q4, .inr ⟨by rw [h1], (po_newL rm2 q5 h2).2⟩⟩
          · rw [if_neg h1] at h2
            exact (show False from h2).elim
    | _ =>
      exfalso
      have h2 : Po G ι2 H2 (eW W σ) (if i = -1 then .no else if i = 1 then .no else .no) (fun d _ ι' H' => ∀ v, RV G.K ι' H' d v → Q v H') := h2
      split at h2
      · exact h2
      · split at h2 <;> exact h2
  | _ => exact (show False from h2).elim
end
end Mn
end

section
set_option Elab.async false
set_option linter.all false
set_option maxRecDepth 100000
set_option autoImplicit false
set_option maxHeartbeats 1000000
namespace Mn
open PySem PySem.Spec PyProof.Rows L2
section
variable {S : Sig} {N : List Str} {sc : Scope} {a b c e : Expr} {ca cb cc : CE} {pos : Pos}

def keyEs : List (Str × Nat × Pos) → List (Option Expr)
  | [] => []
  | (k, j, p) :: r => some (.Constant (.str k) j p) :: keyEs r
def kTrs (ks : List (Str × Nat × Pos)) (ts : List TE) : List (TE × TE) := (ks.map fun k => tC (.str k.1)).zip ts
def SDs (S : Sig) (N : List Str) (sc : Scope) (es : List Expr) (cs : CEs) : Prop := ∀ (G : Gx) (n : Nat), SigOk S G → FnsOk G n → ∃ t : WX → List TE,
  (∀ X W, Gd G N sc n X → Takes X W → ∀ (pos : Pos) (ks : List (Str × Nat × Pos)), ks.length = es.length → PPs X pos (keyEs ks) es (kTrs ks (t W))) ∧
  ∀ (ks : List (Str × Nat × Pos)), ks.length = es.length → ∀ (W : WX) (σ : L2.St) (H : Hp) (Q : List (V × V) → Hp → Prop) (ι : List Addr) (env : Sl) (m : Mu), RS G ι H env σ → RM G.K ι H m →
    Po G ι H (eW W σ) (evEs (cl G n) cs env m) (fun ds _ ι' H' => ∀ vs, RVs G.K ι' H' ds vs → ds.length = ks.length → Q ((ks.map fun k => V.str k.1).zip vs) H') → tPairs (kTrs ks (t W)) σ H Q
theorem sds_nil : SDs S N sc [] .nil := by
  intro G n _ _
  refine ⟨fun _ => [], fun X W _ _ pos ks h => ?_, fun ks hk W σ H Q ι env m rs rm h => ?_⟩
  · cases ks with
    | nil => exact pps_nil
    | cons k ks => cases h
  · cases ks with
    | nil =>
      unfold evEs at h
      exact h.ok .refl rm [] .nil rfl
    | cons k ks => cases hk
theorem sds_cons {es : List Expr} {ces : CEs} (ha : SE S N sc a ca) (hr : SDs S N sc es ces) : SDs S N sc (a :: es) (.cons ca ces) := by
  intro G n so fo
  obtain ⟨ta, pa, aa⟩ := ha G n so fo
  obtain ⟨tr, pr, ar⟩ := hr G n so fo
  refine ⟨fun W => ta W :: tr W, fun X W g tk pos ks hk => ?_, fun ks hk W σ H Q ι env m rs rm h => ?_⟩
  · cases ks with
    | nil => cases hk
    | cons k ks => exact pps_cons pe_str (pa X W g tk) (pr X W g tk pos ks (by simpa using hk))
  · cases ks with
    | nil => cases hk
    | cons k ks =>
      unfold evEs at h
      refine aa W σ H _ ι env m rs rm (h.bind.imp fun d m1 ι1 H1 x1 rm1 h1 v rv => ?_)
      refine ar ks (by simpa using hk) W σ H1 _ ι1 env m1 (rs.mono x1) rm1 (h1.bind.imp fun ds m2 ι2 H2 x2 rm2 h2 vs rvs hl => ?_)
      exact h2.ok .refl rm2 (v :: vs) (.cons (rv.mono x2) rvs) (by simp [hl])
theorem merge_nodup : ∀ {more kvs : List (L2.Key × V)}, (∀ p ∈ more, ∀ q ∈ kvs, p.1 ≠ q.1) → (more.map (·.1)).Nodup → mergeK kvs more = kvs ++ more
  | [], kvs, _, _ => by simp [mergeK]
  | p :: r, kvs, h, nd => by
    have e : putK kvs p.1 p.2 = kvs ++ [p] := by
      unfold putK
      rw [if_neg]
      intro z
      obtain ⟨q, hq, e⟩ := List.any_eq_true.mp z
      exact h p List.mem_cons_self q hq (of_decide_eq_true e).symm
    show mergeK (putK kvs p.1 p.2) r = _
    rw [e, merge_nodup (more := r) (kvs := kvs ++ [p]) (fun a ha q hq => ?_) (List.nodup_cons.mp nd).2]
    · simp
    · rcases List.mem_append.mp hq with hq | hq
      · exact h a (List.mem_cons_of_mem _ ha) q hq
      · have : q = p := by simpa using hq
        subst this
        intro z
        have z2 := List.mem_map_of_mem (f := fun x : L2.Key × V => x.1) ha
        rw [show a.1 = q.1 from z] at z2
        exact (List.nodup_cons.mp nd).1 z2
theorem zip_kvs {K : PySem.W.Frag} {ι : List Addr} {H : Hp} : ∀ {ks : List Str} {ds : List D} {vs : List V}, ds.length = ks.length → RVs K ι H ds vs →
    (((ks.map fun k => (Sum.inr k : L2.Key)).zip vs).map (·.1) = (ks.zip ds).map fun p => Sum.inr p.1) ∧ RVs K ι H ((ks.zip ds).map (·.2)) (((ks.map fun k => (Sum.inr k : L2.Key)).zip vs).map (·.2)) ∧
      (ks.map V.str).zip vs = ((ks.map fun k => (Sum.inr k : L2.Key)).zip vs).map fun kv => (kV kv.1, kv.2)
  | [], _, _, h, r => by
    cases r with
    | nil => exact ⟨rfl, .nil, rfl⟩
    | cons _ _ => cases h
  | k :: ks, _, _, h, r => by
    cases r with
    | nil => cases h
    | cons r1 r2 =>
      obtain ⟨z1, z2, z3⟩ := zip_kvs (ks := ks) (by simpa using h) r2
      refine ⟨by simp [z1], .cons r1 z2, ?_⟩
      simp only [List.map_cons, List.zip_cons_cons, z3]
      rfl
theorem se_dict {ks : List (Str × Nat × Pos)} {es : List Expr} {ces : CEs} (hs : SDs S N sc es ces) (hl : ks.length = es.length) (h0 : ks ≠ []) (h15 : ks.length ≤ 15) :
    SE S N sc (.Dict (keyEs ks) es pos) (.dict (ks.map (·.1)) ces) := by
  intro G n so fo
  obtain ⟨t, pt, at_⟩ := hs G n so fo
  have kl : ∀ ks : List (Str × Nat × Pos), (keyEs ks).length = ks.length := fun ks => by
    induction ks with
    | nil => rfl
    | cons k ks ih => simp [keyEs, ih]
  have ka : ∀ ks : List (Str × Nat × Pos), (keyEs ks).all (·.isSome) = true := fun ks => by
    induction ks with
    | nil => rfl
    | cons k ks ih => simp [keyEs, ih]
  refine ⟨fun W => tDisp (kTrs ks (t W)), fun X W g tk => pe_disp (pt X W g tk pos ks hl) (ka ks) (by rw [kl, hl]) (by
    intro z
    have := kl ks
    rw [z] at this
    exact h0 (List.eq_nil_of_length_eq_zero this.symm)) (by rw [kl]; exact h15), fun W σ H Q ι env m rs rm h p hp => ?_⟩
  unfold evE at h
  have x0 : Ext G.K ι H (ι ++ [p]) (upd H p (.dK [])) := .new hp p
  have rm0 : RM G.K (ι ++ [p]) (upd H p (.dK [])) (m ++ [.dic []]) := rm.new hp ⟨[], upd_same, rfl, .nil⟩
  refine at_ ks hl W σ _ _ (ι ++ [p]) env (m ++ [.dic []]) (rs.mono x0) rm0 ((h.mono x0).bind.imp fun ds m1 ι1 H1 x1 rm1 h1 vs rvs hlen => ?_)
  split at h1
  · rename_i q
    by_cases hz : (decide (ds.length = (ks.map (·.1)).length) && (decide ((ks.map (·.1)).length ≤ 15) && decide (ks.map (·.1)).Nodup)) = true
    · rw [if_pos hz] at h1
      have z1 := Bool.and_eq_true_iff.mp hz
      have z2 := Bool.and_eq_true_iff.mp z1.2
      have nd : (ks.map (·.1)).Nodup := of_decide_eq_true z2.2
      have hl2 : ds.length = (ks.map (·.1)).length := of_decide_eq_true z1.1
      obtain ⟨p', q1, ws, q2, q3, q4⟩ := rm1.at_ q
      have hpm : ι1[m.length]? = some p := x1.pre _ _ (by rw [← rm.len]; simp)
      rw [hpm] at q1; cases q1
      have ews : ws = [] := by
        cases ws with
        | nil => rfl
        | cons _ _ => cases q3
      subst ews
      obtain ⟨y1, y2, y3⟩ := zip_kvs (ks := ks.map (·.1)) hl2 rvs
      refine ⟨q2, ((ks.map (·.1)).map fun k => (Sum.inr k : L2.Key)).zip vs, ?_, ?_, ?_⟩
      · rw [← y3]
        simp [List.map_map]
        rfl
      · rw [List.length_zip]
        simp
        omega
      · have nd2 : ((((ks.map (·.1)).map fun k => (Sum.inr k : L2.Key)).zip vs).map (·.1)).Nodup := by
          rw [y1]
          have e1 : ((ks.map (·.1)).zip ds).map (fun p => (Sum.inr p.1 : L2.Key)) = (ks.map (·.1)).map fun k => (Sum.inr k : L2.Key) := by
            have e0 : ((ks.map (·.1)).zip ds).map Prod.fst = ks.map (·.1) := List.map_fst_zip (by omega)
            rw [show (fun p : Str × D => (Sum.inr p.1 : L2.Key)) = (fun k => Sum.inr k) ∘ Prod.fst from rfl, ← List.map_map, e0]
          rw [e1]
          exact nd.map _ fun a b hab z => hab (Sum.inr.inj z)
        rw [merge_nodup (fun _ _ q hq => absurd hq (by simp)) nd2, List.nil_append]
        have x2 : Ext G.K ι1 H1 ι1 (upd H1 p (.dK (((ks.map (·.1)).map fun k => (Sum.inr k : L2.Key)).zip vs))) := .write ⟨_, q2, .inr ⟨_, rfl⟩⟩
        exact h1.ok x2 (rm1.write q hpm rfl rfl ⟨_, upd_same, y1, y2.mono x2⟩) _ (.loc hpm)
    · rw [if_neg hz] at h1
      exact (show False from h1).elim
  · exact (show False from h1).elim

structure JW (G : Gx) (ι0 : List Addr) (H0 : Hp) (w : Wk) (J : It) : Prop where
  item : ∀ (i : Nat) (m : Mu) (ι : List Addr) (H : Hp) (d : D), Ext G.K ι0 H0 ι H → RM G.K ι H m → w.item i m = some d →
    J.go i H ∧ ∀ x H', J.yld i H x H' → Ext G.K ι H ι H' ∧ RM G.K ι H' m ∧ RV G.K ι H' d x
  stop : ∀ (i : Nat) (m : Mu) (ι : List Addr) (H : Hp), Ext G.K ι0 H0 ι H → RM G.K ι H m → w.stops i m = true → J.stop i H
def AdI (G : Gx) (n : Nat) (c : CI) (t : WX → TI) : Prop :=
  ∀ (W : WX) (σ : L2.St) (H : Hp) (R : It → Hp → Prop) (ι : List Addr) (env : Sl) (m : Mu), RS G ι H env σ → RM G.K ι H m →
    Po G ι H (eW W σ) (evI (cl G n) c env m) (fun wn m' ι' H' => ∀ J, JW G ι' H' wn.1 J → R J H') → t W σ H R
def SI (S : Sig) (N : List Str) (sc : Scope) (tg it : Expr) (c : CI) : Prop := ∀ (G : Gx) (n : Nat), SigOk S G → FnsOk G n → ∃ t : WX → TI, (∀ X W, Gd G N sc n X → Takes X W → PI X tg it (t W)) ∧ AdI G n c t
/-- a source: a list at its address, a tuple -/
def SrcA (G : Gx) (ι : List Addr) (H : Hp) (s : Src) (v : V) : Prop :=
  match s with
  | .st ds => ∃ a xs, v = .ref a ∧ SqT G.K H a xs ∧ RVs G.K ι H ds xs
  | .dy l => ∃ a, v = .ref a ∧ ι[l]? = some a
theorem src_of {G : Gx} {ι : List Addr} {H : Hp} {m : Mu} {d : D} {v : V} {p : Src × Nat} (rm : RM G.K ι H m) (rv : RV G.K ι H d v) (h : srcOf d m = some p) :
    SrcA G ι H p.1 v ∧ ∃ ds, p.1.all m = some ds ∧ p.2 = ds.length := by
  cases rv with
  | tup h1 h2 => cases h; exact ⟨⟨_, _, rfl, h1, h2⟩, _, rfl, rfl⟩
  | @loc l a ha =>
    have h : (listAt m l).map (fun ds => (Src.dy l, ds.length)) = some p := h
    cases e : listAt m l with
    | none => rw [e] at h; cases h
    | some ds =>
      rw [e] at h
      cases h
      exact ⟨⟨_, rfl, ha⟩, ds, e, rfl⟩
  | _ => cases h
theorem srcL {G : Gx} {ι ι0 : List Addr} {H H0 : Hp} {m : Mu} {l : Nat} {a : Addr} {ds : List D} (x : Ext G.K ι0 H0 ι H) (rm : RM G.K ι H m) (ha : ι0[l]? = some a) (h : Src.all (.dy l) m = some ds) : ∃ xs, SqL G.K H a xs ∧ RVs G.K ι H ds xs := by
  obtain ⟨a', xs, q1, q2, q3⟩ := rm.list (show listAt m l = some ds from h)
  rw [x.pre _ _ ha] at q1; cases q1
  exact ⟨xs, q2, q3⟩
theorem jw_seqL {G : Gx} {ι : List Addr} {H : Hp} {l : Nat} {a : Addr} (ha : ι[l]? = some a) : JW G ι H (.seq (.dy l)) (Itl G.K a) where
  item := by
    intro i m ι' H' d x rm h
    have h : (Src.all (.dy l) m).bind (fun ds => ds[i]?) = some d := h
    cases e : Src.all (.dy l) m with
    | none => rw [e] at h; cases h
    | some ds =>
      rw [e] at h
      obtain ⟨xs, q1, q2⟩ := srcL x rm ha e
      obtain ⟨v, q3, q4⟩ := q2.get h
      refine ⟨⟨xs, v, q1, q3⟩, fun y H'' hy => ?_⟩
      obtain ⟨rfl, hy⟩ := hy
      have := hy xs q1
      rw [q3] at this; cases this
      exact ⟨.refl, rm, q4⟩
  stop := by
    intro i m ι' H' x rm h
    have h : (match Src.all (.dy l) m with | some ds => decide (ds.length ≤ i) | none => false) = true := h
    cases e : Src.all (.dy l) m with
    | none => rw [e] at h; cases h
    | some ds =>
      rw [e] at h
      obtain ⟨xs, q1, q2⟩ := srcL x rm ha e
      exact ⟨xs, q1, by rw [← q2.length]; exact of_decide_eq_true h⟩
theorem sqT_inj {K : PySem.W.Frag} {H : Hp} {a : Addr} {xs : List V} (h : SqT K H a xs) : True := trivial
theorem jw_seqT {G : Gx} {ι : List Addr} {H : Hp} {ds : List D} {a : Addr} {xs : List V} (h1 : SqT G.K H a xs) (h2 : RVs G.K ι H ds xs) : JW G ι H (.seq (.st ds)) (Itt G.K a) where
  item := by
    intro i m ι' H' d x rm h
    have h : ds[i]? = some d := h
    obtain ⟨v, q3, q4⟩ := h2.get h
    have h1' := x.tup _ _ h1
    refine ⟨⟨xs, v, h1', q3⟩, fun y H'' hy => ?_⟩
    obtain ⟨rfl, hy⟩ := hy
    have := hy xs h1'
    rw [q3] at this; cases this
    exact ⟨.refl, rm, q4.mono x⟩
  stop := by
    intro i m ι' H' x rm h
    have h : decide (ds.length ≤ i) = true := h
    exact ⟨xs, x.tup _ _ h1, by rw [← h2.length]; exact of_decide_eq_true h⟩
theorem pi_or {X : Cx} {tg it : Expr} {w1 w2 : TI} (h1 : PI X tg it w1) (h2 : PI X tg it w2) : PI X tg it (fun σ H R => w1 σ H R ∨ w2 σ H R) :=
  ⟨fun pins s σ H R I h => h.elim (fun q => h1.run pins s σ H R I q) fun q => h2.run pins s σ H R I q⟩
theorem si_seq {tg : Expr} (ha : SE S N sc a ca) : SI S N sc tg a (.seq ca) := by
  intro G n so fo
  obtain ⟨ta, pa, aa⟩ := ha G n so fo
  refine ⟨fun W σ H R => iList G.K (ta W) σ H R ∨ iTup G.K (ta W) σ H R, fun X W g tk => ?_, fun W σ H R ι env m rs rm h => ?_⟩
  · rw [← g.K]
    exact pi_or (pi_list (pa X W g tk)) (pi_tup (pa X W g tk))
  · unfold evI at h
    have left : (∀ d m1, evE (cl G n) ca env m = .ok d m1 → ∃ l, d = .loc l) → iList G.K (ta W) σ H R := fun hd => by
      refine aa W σ H _ ι env m rs rm ?_
      cases e : evE (cl G n) ca env m with
      | no => rw [e] at h; exact h
      | ex c fs m1 => rw [e] at h; exact h
      | ok d m1 =>
        obtain ⟨l, rfl⟩ := hd d m1 e
        rw [e] at h
        intro ι1 H1 x1 rm1 v rv
        obtain ⟨z, e1, e2⟩ := (h.mono x1).opt rm1
        cases e3 : srcOf (.loc l) m1 with
        | none => rw [e3] at e1; cases e1
        | some p =>
          rw [e3] at e1
          cases e1
          obtain ⟨q1, ds, q2, q3⟩ := src_of rm1 rv e3
          cases rv with
          | loc hl =>
            have e3' : (listAt m1 l).map (fun ds => (Src.dy l, ds.length)) = some p := e3
            cases e4 : listAt m1 l with
            | none => rw [e4] at e3'; cases e3'
            | some es =>
              rw [e4] at e3'
              cases e3'
              obtain ⟨a', xs, q4, q5, q6⟩ := rm1.list e4
              rw [hl] at q4; cases q4
              exact ⟨_, rfl, ⟨xs, q5⟩, e2 _ (jw_seqL hl)⟩
    have right : (∃ ds m1, evE (cl G n) ca env m = .ok (.tup ds) m1) → iTup G.K (ta W) σ H R := fun ⟨ds, m1, e⟩ => by
      refine aa W σ H _ ι env m rs rm ?_
      rw [e] at h ⊢
      intro ι1 H1 x1 rm1 v rv
      have h' : Po G ι H (eW W σ) (Mn.R.opt ((srcOf (.tup ds) m1).map fun p => (Wk.seq p.1, p.2)) m1) (fun wn m' ι' H' => ∀ (J : It), JW G ι' H' wn.1 J → R J H') := h
      obtain ⟨z, e1, e2⟩ := (h'.mono x1).opt rm1
      cases e1
      cases rv with
      | tup h1 h2 => exact ⟨_, rfl, ⟨_, h1⟩, e2 _ (jw_seqT h1 h2)⟩
    cases e : evE (cl G n) ca env m with
    | no => rw [e] at h; exact (show False from h).elim
    | ex c fs m1 => exact .inl (left fun d m2 z => by rw [e] at z; cases z)
    | ok d m1 =>
      cases d with
      | tup ds => exact .inr (right ⟨ds, m1, e⟩)
      | loc l => exact .inl (left fun d m2 z => by rw [e] at z; cases z; exact ⟨l, rfl⟩)
      | _ => rw [e] at h; exact (show False from h).elim
theorem jw_rng {G : Gx} {ι : List Addr} {H : Hp} {lo : Int} {n : Nat} : JW G ι H (.rngN lo 1 n) (Itr lo n) where
  item := by
    intro i m ι' H' d x rm h
    have h : (if i < n then some (D.int (lo + (i : Nat) * 1)) else none) = some d := h
    by_cases hi : i < n
    · rw [if_pos hi] at h
      cases h
      refine ⟨hi, fun y H'' hy => ?_⟩
      obtain ⟨rfl, rfl⟩ := hy
      refine ⟨.refl, rm, ?_⟩
      rw [Int.mul_one]
      exact .int _
    · rw [if_neg hi] at h; cases h
  stop := by
    intro i m ι' H' x rm h
    exact (show n ≤ i from of_decide_eq_true h)
theorem si_rng1 {tg : Expr} {p : Pos} (hn : ("range" : Str) ∈ S.nones) (hg : sc.names.lookup ("range" : Str) = some .globalImplicit) (ha : SE S N sc a ca) (h0 : simple a = true) : SI S N sc tg (.Call (.Name "range" p) [a] [] pos) (.rng1 ca) := by
  intro G n so fo
  obtain ⟨ta, pa, aa⟩ := ha G n so fo
  refine ⟨fun W => iRng1 (tCons (ta W) tNil), fun X W g tk => pi_range1 (g.gl _ hg) (by rw [g.mg]; exact so.nones _ hn) (pa_cons (pa X W g tk) pa_nil (simple_star h0 _ X.env)) (simple_star h0 _ X.env), fun W σ H R ι env m rs rm h => ?_⟩
  unfold evI at h
  refine aa W σ H _ ι env m rs rm (h.bind.imp fun d m1 ι1 H1 x1 rm1 h1 v rv => ?_)
  cases rv with
  | int j =>
    have h1 : Po G ι1 H1 (eW W σ) (if boundOk j then Mn.R.ok (Wk.rngN 0 1 j.toNat, j.toNat) m1 else .no) _ := h1
    by_cases hz : boundOk j = true
    · rw [if_pos hz] at h1
      have z := Bool.and_eq_true_iff.mp (boundOk_eq j ▸ hz)
      exact ⟨j, rfl, of_decide_eq_true z.1, of_decide_eq_true z.2, h1.ok .refl rm1 _ jw_rng⟩
    · rw [if_neg hz] at h1
      exact (show False from h1).elim
  | _ => exact (show False from h1).elim
theorem si_rng2 {tg : Expr} {p : Pos} (hn : ("range" : Str) ∈ S.nones) (hg : sc.names.lookup ("range" : Str) = some .globalImplicit) (ha : SE S N sc a ca) (hb : SE S N sc b cb) (h0 : simple a = true) (h1 : simple b = true) :
    SI S N sc tg (.Call (.Name "range" p) [a, b] [] pos) (.rng2 ca cb) := by
  intro G n so fo
  obtain ⟨ta, pa, aa⟩ := ha G n so fo
  obtain ⟨tb, pb, ab⟩ := hb G n so fo
  refine ⟨fun W => iRng2 (tCons (ta W) (tCons (tb W) tNil)), fun X W g tk => pi_range2 (g.gl _ hg) (by rw [g.mg]; exact so.nones _ hn) (pa_cons (pa X W g tk) (pa_cons (pb X W g tk) pa_nil (simple_star h1 _ X.env)) (simple_star h0 _ X.env))
    (by rw [simple_star h0, simple_star h1]; rfl) (simple_star h1 _ X.env), fun W σ H R ι env m rs rm h => ?_⟩
  unfold evI at h
  refine aa W σ H _ ι env m rs rm (h.bind.imp fun d m1 ι1 H1 x1 rm1 h1 v rv => ?_)
  refine ab W σ H1 _ ι1 env m1 (rs.mono x1) rm1 (h1.bind.imp fun e m2 ι2 H2 x2 rm2 h2 w rw => ?_)
  cases rv with
  | int i =>
    cases rw with
    | int j =>
      have h2 : Po G ι2 H2 (eW W σ) (if boundOk i && boundOk j then Mn.R.ok (Wk.rngN i 1 (j - i).toNat, (j - i).toNat) m2 else .no) _ := h2
      by_cases hz : (boundOk i && boundOk j) = true
      · rw [if_pos hz] at h2
        have z := Bool.and_eq_true_iff.mp hz
        have z1 := Bool.and_eq_true_iff.mp (boundOk_eq i ▸ z.1)
        have z2 := Bool.and_eq_true_iff.mp (boundOk_eq j ▸ z.2)
        exact ⟨i, j, rfl, ⟨of_decide_eq_true z1.1, of_decide_eq_true z1.2, of_decide_eq_true z2.1, of_decide_eq_true z2.2⟩, h2.ok .refl rm2 _ jw_rng⟩
      · rw [if_neg hz] at h2
        exact (show False from h2).elim
    | _ => exact (show False from h2).elim
  | _ => cases rw <;> exact (show False from h2).elim
end
end Mn
end

section
set_option Elab.async false
set_option linter.all false
set_option maxRecDepth 100000
set_option autoImplicit false
set_option maxHeartbeats 1000000
namespace Mn
open PySem PySem.Spec PyProof.Rows L2
theorem meets_enumerate_newT {v : Value} {o : Obj} {H : Heap → Prop} (B : Begins v o H) :
    Meets (Builtin.«enumerate.__new__» ⟨[.type "enumerate", v], []⟩) (fun _ R s => H s.heap ∧
      R (.ok (.ret (.ref (s.heap.push o).objs.size))) { s with heap := (s.heap.push o).push { cls := .type "enumerate", data := .fields #[.none, .bool false, .ref s.heap.objs.size, rawInt 0, .none, .none] } }) :=
  .of_wp fun prog w A R s h => by
    obtain ⟨hp, g, d, tk, os⟩ := s; obtain ⟨h1, h⟩ := h
    have hsub := sub_enumerate
    have q1 : ∀ {A' : Around} {E : Value → Shared → Prop} {Q : Value → Shared → Prop}, Q (.ref hp.objs.size) ⟨hp.push o, g, d, tk, os⟩ → wpAny (model prog w) A' (pyIter v) Q E ⟨hp, g, d, tk, os⟩ :=
      fun q => B.iter prog w _ _ ⟨hp, g, d, tk, os⟩ _ h1 q
    wp_walk using q1
    refine wpAny_stack_any fun st => wpAny_pure ?_
    split
    · rename_i c _ _ _ _ _
      cases (c == Value.type "enumerate")
      · wp_walk using q1
        exact ⟨_, rfl, h⟩
      · wp_walk using q1
        exact ⟨_, rfl, h⟩
    · wp_walk using q1
      exact ⟨_, rfl, h⟩
section
variable {prog : Program} {w : World} {A : Around} {E : Value → Shared → Prop} {s : Shared}
theorem call_enumT {v : Value} {o : Obj} {H : Heap → Prop} {Q : Value → Shared → Prop} (B : Begins v o H) (h1 : H s.heap)
    (h : ∀ h', IsEnum h' (s.heap.objs.size + 1) s.heap.objs.size 0 .none → h'.get? s.heap.objs.size = some o → h'.objs.size = s.heap.objs.size + 2 →
      (∀ b o, s.heap.get? b = some o → h'.get? b = some o) → Q (.ref (s.heap.objs.size + 1)) { s with heap := h' }) :
    wpAny (model prog w) A (call (.type "enumerate") [v]) Q E s := by
  refine callType_new F.called_enumerate (by decide) (F.typeCall_enumerate_1 _) (F.newCall_enumerate_1 _) (fun obj => F.args_object_init_2 obj _) F.entry_enumerate_new
    (meets_enumerate_newT B) ⟨h1, ?_⟩
  have hz : (s.heap.push o).objs.size = s.heap.objs.size + 1 := Heap.size_push ..
  show _ ∧ _
  rw [hz]
  have he : IsEnum ((s.heap.push o).push { cls := .type "enumerate", data := .fields #[.none, .bool false, .ref s.heap.objs.size, rawInt 0, .none, .none] }) (s.heap.objs.size + 1) s.heap.objs.size 0 .none := by
    have := Heap.get?_push_size (s.heap.push o) (o := { cls := .type "enumerate", data := .fields #[.none, .bool false, .ref s.heap.objs.size, rawInt 0, .none, .none] }) rfl
    rw [hz] at this; exact this
  refine ⟨⟨_, he, rfl⟩, h _ he (Heap.get?_push_of_some _ (Heap.get?_push_size _ B.free)) (by rw [Heap.size_push, hz]) fun b o x => Heap.get?_push_of_some _ (Heap.get?_push_of_some _ x)⟩
end
def IteT (K : PySem.W.Frag) (a : Addr) : It :=
  ⟨fun i H => ∃ (xs : List V) (x : V), SqT K H a xs ∧ xs[i]? = some x, fun i H v H' => ∃ T x, v = .ref T ∧ H T = none ∧ H' = upd H T (.tup [.int (i : Nat), x]) ∧ ∀ xs, SqT K H a xs → xs[i]? = some x, fun i H => ∃ xs : List V, SqT K H a xs ∧ xs.length ≤ i⟩
theorem next_enumT_end {prog : Program} {w : World} {A : Around} {E : Value → Shared → Prop} {s : Shared} {e it a : Addr} {k : Nat} {i : Int} {items : Array Value} {old : Value} {Q : Option Value → Shared → Prop} (hh : A.in1.handled = none)
    (he : IsEnum s.heap e it i old) (hit : s.heap.IsTupleIter it a k) (ht : s.heap.IsTuple a items) (hx : items[k]? = none)
    (hQ : ∀ h', Heap.ExtBut it s.heap h' → Q none { s with heap := h' }) : wpAny (model prog w) A (pyNext (.ref e)) Q E s := by
  have hT : s.TypeIs (.ref e) "enumerate" := ⟨_, he, rfl⟩
  unfold pyNext
  refine wpAny_bind (wpAny_attempt (wpAny_callSpecial?_slot (name := Str.ofString "__next__") hT F.slot_enumerate_next
    (wpAny_call_entry F.slot_enumerate_next hT F.entry_enumerate_next ?_ (F.args_enumerate_next_1 _))))
  show wpAny _ _ (field (.ref e) 2 >>= _) _ _ _
  refine wpAny_bind (wpAny_field he rfl (x := .ref it) rfl ?_)
  refine wpAny_bind (wpAny_nextOf_tuple_end hh hit ht hx fun h' x he' hx' => ?_)
  obtain ⟨o, ho, hc⟩ := hx'
  refine wpAny_bind (wpAny_isInstance (T := "StopIteration") (b := true) ⟨o, ho, hc⟩ isSubtype_stop ?_)
  exact wpAny_pure (hQ _ he')
theorem turn_enumT {P : Program} {w : World} {K : PySem.W.Frag} {elts : List Expr} {kk : Nat} {tpos : Pos} (a e it : Addr) (hea : e ≠ a) (hia : a ≠ it) :
    Turn P w K (.Tuple elts kk tpos) (IteT K a) [e, it] e (fun i h => (∃ old, IsEnum h e it ((i : Nat) : Int) old) ∧ h.IsTupleIter it a i ∧ e ≠ it) where
  mem := by simp
  obj := fun i h st b hb => by
    obtain ⟨⟨old, he⟩, ⟨o, ho, hc, hd⟩, _⟩ := st
    have e' : b = e ∨ b = it := by simpa using hb
    rcases e' with z | z
    · rw [z]; exact ⟨_, he, fun v q => nomatch q⟩
    · rw [z]; exact ⟨o, ho, fun v q => by rw [hd] at q; cases q⟩
  keep := fun i h h' st k => let ⟨⟨old, he⟩, hi, hne⟩ := st; ⟨⟨old, k e (by simp) _ he⟩, hi.at fun o q => k it (by simp) o q, hne⟩
  item := by
    intro X hP hw hK hc i pins s σ H E I hf st hg
    subst hP hw hK
    obtain ⟨⟨old, he⟩, hit, hne⟩ := st
    obtain ⟨xs, x, hq, hx⟩ := hg
    obtain ⟨its, rv, p, hz⟩ := I.tuple hq
    obtain ⟨u, hu, ru⟩ := rv.get hx
    have hel : e < s.heap.objs.size := Heap.lt_size he
    have hil : it < s.heap.objs.size := by obtain ⟨_, q, _⟩ := hit; exact Heap.lt_size q
    have hlt : i < its.toArray.size := by
      have := (List.getElem?_eq_some_iff.mp hu).1
      simpa using this
    refine wpAny_pyNext_enum_itemD (Draws.tuple (prog := X.prog) (w := X.w) (A := X.A.in1) (show X.A.in1.handled = none from I.ok.hd hc) it a hia its.toArray) he ⟨hit, p⟩ hlt hne (by simp [hne, hea]) fun y h' tk hy ho hit' hT hsz hk => ?_
    have hyu : y = u := by
      have : its.toArray[i]? = some u := by simpa using hu
      rw [this] at hy; exact (Option.some.inj hy).symm
    subst hyu
    refine ⟨_, rfl, wpAny_letOwnedTupleGo_enum (s := { s with heap := h', toks := tk + 1 }) ho fun h'' he' sb => ?_⟩
    have hT2 : h''.get? s.heap.objs.size = some { cls := .type "tuple", data := .seq #[.int i tk, y] } := (sb.2 _ (Nat.ne_of_gt hel)).trans hT
    have new : ObjOk X.prog X.w (upd H s.heap.objs.size (.tup [.int (i : Nat), x])) h'' s.heap.objs.size (.tup [.int (i : Nat), x]) :=
      ⟨by show 2 ≤ sizeLine; decide, [.int i tk, y], .cons ⟨_, rfl⟩ (.cons ru .nil), ⟨_, hT2, rfl, _, rfl⟩⟩
    have I1 : Inv X pins σ (upd H s.heap.objs.size (.tup [.int (i : Nat), x])) { s with heap := h'', toks := tk + 1 } :=
      I.turnedNew (ch := [e, it]) (fun b ob hb q => (sb.2 b (fun z => hb (by simp [z]))).trans (hk b ob (fun z => hb (by simp [z])) (fun z => hb (by simp [z])) q)) hf (Nat.le_refl _) new
    refine ⟨.ref s.heap.objs.size, _, I1, rfl, ⟨_, x, rfl, I.hok.fresh (Nat.le_refl _), rfl, fun ys hy => by rw [I.tuple_inj hy hq]; exact hx⟩, ⟨⟨y, ?_⟩, hit'.1.at fun o q => (sb.2 it (Ne.symm hne)).trans q, hne⟩, fun b hb => ?_⟩
    · have e1 : ((i + 1 : Nat) : Int) = (i : Int) + 1 := by omega
      rw [e1]; exact he'
    · have hb' : b < s.heap.objs.size := by
        have e' : b = e ∨ b = it := by simpa using hb
        rcases e' with z | z
        · rw [z]; exact hel
        · rw [z]; exact hil
      rw [upd_ne (Nat.ne_of_lt hb')]
      exact (hf b hb).1
  done := by
    intro X hP hw hK hc i pins s σ H E I hf st hg
    subst hP hw hK
    obtain ⟨⟨old, he⟩, hit, hne⟩ := st
    obtain ⟨xs, hq, hx⟩ := hg
    obtain ⟨its, rv, p, hz⟩ := I.tuple hq
    obtain ⟨f0, f1, f2, f3, f4, f5⟩ := hf it (by simp)
    have hl := rv.length
    exact next_enumT_end (show X.A.in1.handled = none from I.ok.hd hc) he hit p (by simp; omega) fun h' eb => ⟨rfl, I.turned (t' := s.toks) (fun b o hb q => eb b o hb q) f0 f1 f3 f4 f5⟩
  self := fun A i s Q E st h => let ⟨⟨_, he⟩, _⟩ := st; wpAny_pyIter_enum he h
def iEnumA (K : PySem.W.Frag) (ta : TA) : TI := fun σ H R => ta σ H fun vs H1 => ∃ a xs, vs = [.ref a] ∧ ((SqL K H1 a xs ∧ R (Ite K a) H1) ∨ (SqT K H1 a xs ∧ R (IteT K a) H1))
theorem pi_enumA {X : Cx} {e : Expr} {ta : TA} {p pos tpos : Pos} {elts : List Expr} {kk : Nat} (hg : Gl X "enumerate") (hm : X.mg "enumerate" = none) (ha : PA X [e] ta) (hs : starEach [e] X.env = [(false, eval e X.env)] := by rfl) :
    PI X (.Tuple elts kk tpos) (.Call (.Name "enumerate" p) [e] [] pos) (iEnumA X.K ta) := by
  refine ⟨fun pins s σ H R I h => ?_⟩
  refine Call_ (ld_blt I hg hm boot_enumerate (PyProof.Rows.callWith_type1 (thn (ha.run pos pins s σ H _ I h) fun us s1 ⟨vs, H1, I1, r1, q1⟩ => ?_) hs rfl))
  obtain ⟨a, xs, ex, q⟩ := q1
  subst ex
  cases r1 with
  | cons r rr =>
    cases rr
    cases r
    have fp : ∀ b ∈ [s1.heap.objs.size + 1, s1.heap.objs.size], s1.heap.objs.size ≤ b := fun b hb => by
      have e' : b = s1.heap.objs.size + 1 ∨ b = s1.heap.objs.size := by simpa using hb
      rcases e' with z | z
      · rw [z]; exact Nat.le_add_right _ _
      · rw [z]; exact Nat.le_refl _
    rcases q with ⟨hq, q⟩ | ⟨hq, q⟩
    · obtain ⟨its, rv, p', hz⟩ := I1.list hq
      refine call_enumerate_list p'.isList fun h' he hit hsz hk => wpAny_pyIter_enum he ?_
      have I2 : Inv X pins σ H1 { s1 with heap := h' } := I1.kept (t' := s1.toks) hk
      exact ⟨s1.heap.objs.size + 1, [s1.heap.objs.size + 1, s1.heap.objs.size], _, _, H1, rfl, I2, turn_enum a (s1.heap.objs.size + 1) s1.heap.objs.size, ⟨⟨.none, he⟩, hit, Nat.succ_ne_self _⟩, fun b hb => I1.fpOk (fp b hb) (I1.hok.fresh (fp b hb)), q⟩
    · obtain ⟨its, rv, p', hz⟩ := I1.tuple hq
      have la : a < s1.heap.objs.size := p'.lt
      refine call_enumT (begins_tuple a its.toArray) p' fun h' he hit hsz hk => wpAny_pyIter_enum he ?_
      have I2 : Inv X pins σ H1 { s1 with heap := h' } := I1.kept (t' := s1.toks) hk
      exact ⟨s1.heap.objs.size + 1, [s1.heap.objs.size + 1, s1.heap.objs.size], _, _, H1, rfl, I2, turn_enumT a (s1.heap.objs.size + 1) s1.heap.objs.size (Nat.ne_of_gt (Nat.lt_succ_of_lt la)) (Nat.ne_of_lt la), ⟨⟨.none, he⟩, ⟨_, hit, rfl, rfl⟩, Nat.succ_ne_self _⟩, fun b hb => I1.fpOk (fp b hb) (I1.hok.fresh (fp b hb)), q⟩
end Mn
end

section
set_option Elab.async false
set_option linter.all false
set_option maxRecDepth 100000
set_option autoImplicit false
set_option maxHeartbeats 1000000
namespace Mn
open PySem PySem.Spec PyProof.Rows L2
section
variable {S : Sig} {N : List Str} {sc : Scope} {a b c e : Expr} {ca cb cc : CE} {pos : Pos}
theorem yld_pair {G : Gx} {ι : List Addr} {H : Hp} {m : Mu} {d e : D} {x y : V} {T : Addr} (rm : RM G.K ι H m) (r1 : RV G.K ι H d x) (r2 : RV G.K ι H e y) (hT : H T = none) :
    Ext G.K ι H ι (upd H T (.tup [x, y])) ∧ RM G.K ι (upd H T (.tup [x, y])) m ∧ RV G.K ι (upd H T (.tup [x, y])) (.tup [d, e]) (.ref T) :=
  ⟨.same (same_upd hT), rm.newT hT, .newT hT (.cons r1 (.cons r2 .nil))⟩
theorem jw_enumL {G : Gx} {ι : List Addr} {H : Hp} {l : Nat} {a : Addr} (ha : ι[l]? = some a) : JW G ι H (.enum (.dy l)) (Ite G.K a) where
  item := by
    intro i m ι' H' d x rm h
    have h : (Src.all (.dy l) m).bind (fun ds => ds[i]?.map fun d => D.tup [.int i, d]) = some d := h
    cases e : Src.all (.dy l) m with
    | none => rw [e] at h; cases h
    | some ds =>
      rw [e] at h
      obtain ⟨xs, q1, q2⟩ := srcL x rm ha e
      cases e2 : ds[i]? with
      | none => simp only [Option.bind_some, e2] at h; cases h
      | some z =>
        simp only [Option.bind_some, e2, Option.map_some, Option.some.injEq] at h
        subst h
        obtain ⟨v, q3, q4⟩ := q2.get e2
        refine ⟨⟨xs, v, q1, q3⟩, fun y H'' hy => ?_⟩
        obtain ⟨T, z', rfl, hT, rfl, hy⟩ := hy
        have := hy xs q1
        rw [q3] at this; cases this
        exact yld_pair rm (.int _) q4 hT
  stop := by
    intro i m ι' H' x rm h
    have h : (match Src.all (.dy l) m with | some ds => decide (ds.length ≤ i) | none => false) = true := h
    cases e : Src.all (.dy l) m with
    | none => rw [e] at h; cases h
    | some ds =>
      rw [e] at h
      obtain ⟨xs, q1, q2⟩ := srcL x rm ha e
      exact ⟨xs, q1, by rw [← q2.length]; exact of_decide_eq_true h⟩
theorem jw_enumT {G : Gx} {ι : List Addr} {H : Hp} {ds : List D} {a : Addr} {xs : List V} (h1 : SqT G.K H a xs) (h2 : RVs G.K ι H ds xs) : JW G ι H (.enum (.st ds)) (IteT G.K a) where
  item := by
    intro i m ι' H' d x rm h
    have h : (ds[i]?.map fun d => D.tup [.int i, d]) = some d := h
    cases e2 : ds[i]? with
    | none => rw [e2] at h; cases h
    | some z =>
      simp only [e2, Option.map_some, Option.some.injEq] at h
      subst h
      obtain ⟨v, q3, q4⟩ := h2.get e2
      have k1 := x.tup _ _ h1
      refine ⟨⟨xs, v, k1, q3⟩, fun y H'' hy => ?_⟩
      obtain ⟨T, z', rfl, hT, rfl, hy⟩ := hy
      have := hy xs k1
      rw [q3] at this; cases this
      exact yld_pair rm (.int _) (q4.mono x) hT
  stop := by
    intro i m ι' H' x rm h
    have h : decide (ds.length ≤ i) = true := h
    exact ⟨xs, x.tup _ _ h1, by rw [← h2.length]; exact of_decide_eq_true h⟩
theorem si_enum {p tpos : Pos} {elts : List Expr} {kk : Nat} (hn : ("enumerate" : Str) ∈ S.nones) (hg : sc.names.lookup ("enumerate" : Str) = some .globalImplicit) (ha : SE S N sc a ca) (h0 : simple a = true) :
    SI S N sc (.Tuple elts kk tpos) (.Call (.Name "enumerate" p) [a] [] pos) (.enum ca) := by
  intro G n so fo
  obtain ⟨ta, pa, aa⟩ := ha G n so fo
  refine ⟨fun W => iEnumA G.K (tCons (ta W) tNil), fun X W g tk => by rw [← g.K]; exact pi_enumA (g.gl _ hg) (by rw [g.mg]; exact so.nones _ hn) (pa_cons (pa X W g tk) pa_nil (simple_star h0 _ X.env)) (simple_star h0 _ X.env), fun W σ H R ι env m rs rm h => ?_⟩
  unfold evI at h
  refine aa W σ H _ ι env m rs rm (h.bind.imp fun d m1 ι1 H1 x1 rm1 h1 v rv => ?_)
  obtain ⟨z, e1, e2⟩ := h1.opt rm1
  cases e3 : srcOf d m1 with
  | none => rw [e3] at e1; cases e1
  | some p =>
    rw [e3] at e1
    obtain ⟨q1, ds, q2, q3⟩ := src_of rm1 rv e3
    obtain ⟨s, k⟩ := p
    cases s with
    | st es =>
      cases e1
      obtain ⟨a0, xs, rfl, z1, z2⟩ := q1
      exact ⟨a0, xs, rfl, .inr ⟨z1, e2 _ (jw_enumT z1 z2)⟩⟩
    | dy l =>
      cases e1
      obtain ⟨a0, rfl, ha0⟩ := q1
      obtain ⟨xs, q4, q5⟩ := srcL .refl rm1 ha0 q2
      exact ⟨a0, xs, rfl, .inl ⟨q4, e2 _ (jw_enumL ha0)⟩⟩
theorem jw_zipL {G : Gx} {ι : List Addr} {H : Hp} {l k : Nat} {a b : Addr} (ha : ι[l]? = some a) (hb : ι[k]? = some b) : JW G ι H (.zip (.dy l) (.dy k)) (Itz G.K a b) where
  item := by
    intro i m ι' H' d x rm h
    have h : (Src.all (.dy l) m).bind (fun xs => (Src.all (.dy k) m).bind fun ys => xs[i]?.bind fun x => ys[i]?.map fun y => D.tup [x, y]) = some d := h
    cases e : Src.all (.dy l) m with
    | none => rw [e] at h; cases h
    | some ds =>
      cases e' : Src.all (.dy k) m with
      | none => rw [e, e'] at h; cases h
      | some es =>
        rw [e, e'] at h
        obtain ⟨xs, q1, q2⟩ := srcL x rm ha e
        obtain ⟨ys, q1', q2'⟩ := srcL x rm hb e'
        cases e2 : ds[i]? with
        | none => simp only [Option.bind_some, e2] at h; cases h
        | some z =>
          cases e3 : es[i]? with
          | none => simp only [Option.bind_some, e2, e3] at h; cases h
          | some z' =>
            simp only [Option.bind_some, e2, e3, Option.map_some, Option.some.injEq] at h
            subst h
            obtain ⟨v, q3, q4⟩ := q2.get e2
            obtain ⟨w, q5, q6⟩ := q2'.get e3
            refine ⟨⟨xs, ys, v, w, q1, q1', q3, q5⟩, fun y H'' hy => ?_⟩
            obtain ⟨T, u1, u2, rfl, hT, rfl, hy1, hy2⟩ := hy
            have z1 := hy1 xs q1
            rw [q3] at z1; cases z1
            have z2 := hy2 ys q1'
            rw [q5] at z2; cases z2
            exact yld_pair rm q4 q6 hT
  stop := by
    intro i m ι' H' x rm h
    have h : (match Src.all (.dy l) m, Src.all (.dy k) m with | some xs, some ys => decide (xs.length ≤ i) || decide (ys.length ≤ i) | _, _ => false) = true := h
    cases e : Src.all (.dy l) m with
    | none => rw [e] at h; cases h
    | some ds =>
      cases e' : Src.all (.dy k) m with
      | none => rw [e, e'] at h; cases h
      | some es =>
        rw [e, e'] at h
        obtain ⟨xs, q1, q2⟩ := srcL x rm ha e
        obtain ⟨ys, q1', q2'⟩ := srcL x rm hb e'
        refine ⟨xs, ys, q1, q1', ?_⟩
        rw [← q2.length, ← q2'.length]
        exact (Bool.or_eq_true_iff.mp h).imp of_decide_eq_true of_decide_eq_true
theorem jw_zipT {G : Gx} {ι : List Addr} {H : Hp} {ds es : List D} {a b : Addr} {xs ys : List V} (h1 : SqT G.K H a xs) (h2 : RVs G.K ι H ds xs) (h3 : SqT G.K H b ys) (h4 : RVs G.K ι H es ys) : JW G ι H (.zip (.st ds) (.st es)) (RZ.ItzT G.K a b) where
  item := by
    intro i m ι' H' d x rm h
    have h : ds[i]?.bind (fun x => es[i]?.map fun y => D.tup [x, y]) = some d := h
    cases e2 : ds[i]? with
    | none => rw [e2] at h; cases h
    | some z =>
      cases e3 : es[i]? with
      | none => rw [e2, e3] at h; cases h
      | some z' =>
        simp only [Option.bind_some, e2, e3, Option.map_some, Option.some.injEq] at h
        subst h
        obtain ⟨v, q3, q4⟩ := h2.get e2
        obtain ⟨w, q5, q6⟩ := h4.get e3
        have k1 := x.tup _ _ h1
        have k2 := x.tup _ _ h3
        refine ⟨⟨xs, ys, v, w, k1, k2, q3, q5⟩, fun y H'' hy => ?_⟩
        obtain ⟨T, u1, u2, rfl, hT, rfl, hy1, hy2⟩ := hy
        have z1 := hy1 xs k1
        rw [q3] at z1; cases z1
        have z2 := hy2 ys k2
        rw [q5] at z2; cases z2
        exact yld_pair rm (q4.mono x) (q6.mono x) hT
  stop := by
    intro i m ι' H' x rm h
    have h : (decide (ds.length ≤ i) || decide (es.length ≤ i)) = true := h
    refine ⟨xs, ys, x.tup _ _ h1, x.tup _ _ h3, ?_⟩
    rw [← h2.length, ← h4.length]
    exact (Bool.or_eq_true_iff.mp h).imp of_decide_eq_true of_decide_eq_true
theorem si_zip {p tpos : Pos} {elts : List Expr} {kk : Nat} (hn : ("zip" : Str) ∈ S.nones) (hg : sc.names.lookup ("zip" : Str) = some .globalImplicit) (ha : SE S N sc a ca) (hb : SE S N sc b cb) (h0 : simple a = true) (h1 : simple b = true) :
    SI S N sc (.Tuple elts kk tpos) (.Call (.Name "zip" p) [a, b] [] pos) (.zip ca cb) := by
  intro G n so fo
  obtain ⟨ta, pa, aa⟩ := ha G n so fo
  obtain ⟨tb, pb, ab⟩ := hb G n so fo
  refine ⟨fun W => RZ.iZipA G.K (tCons (ta W) (tCons (tb W) tNil)), fun X W g tk => ?_, fun W σ H R ι env m rs rm h => ?_⟩
  · rw [← g.K]
    exact RZ.pi_zipA (g.gl _ hg) (by rw [g.mg]; exact so.nones _ hn) (pa_cons (pa X W g tk) (pa_cons (pb X W g tk) pa_nil (simple_star h1 _ X.env)) (simple_star h0 _ X.env)) (simple_star h0 _ X.env) (backTo_plain fun e he => by
      rcases List.mem_cons.mp he with rfl | he
      · exact h1
      · cases he)
  unfold evI at h
  refine aa W σ H _ ι env m rs rm (h.bind.imp fun d m1 ι1 H1 x1 rm1 h1 v rv => ?_)
  refine ab W σ H1 _ ι1 env m1 (rs.mono x1) rm1 (h1.bind.imp fun e m2 ι2 H2 x2 rm2 h2 w rw => ?_)
  obtain ⟨z, e1, e2⟩ := h2.opt rm2
  cases e3 : srcOf d m2 with
  | none => rw [e3] at e1; cases e1
  | some p =>
    cases e4 : srcOf e m2 with
    | none => rw [e3, e4] at e1; cases e1
    | some p' =>
      rw [e3, e4] at e1
      obtain ⟨q1, ds, q2, q3⟩ := src_of rm2 (rv.mono x2) e3
      obtain ⟨q1', es, q2', q3'⟩ := src_of rm2 rw e4
      obtain ⟨s, k⟩ := p
      obtain ⟨s', k'⟩ := p'
      cases s with
      | st as =>
        cases s' with
        | dy l => cases e1
        | st bs =>
          cases e1
          obtain ⟨a0, xs, rfl, z1, z2⟩ := q1
          obtain ⟨b0, ys, rfl, z3, z4⟩ := q1'
          exact ⟨a0, b0, xs, ys, rfl, .inr ⟨z1, z3, e2 _ (jw_zipT z1 z2 z3 z4)⟩⟩
      | dy l =>
        cases s' with
        | st bs => cases e1
        | dy l' =>
          cases e1
          obtain ⟨a0, rfl, ha0⟩ := q1
          obtain ⟨b0, rfl, hb0⟩ := q1'
          obtain ⟨xs, q4, q5⟩ := srcL .refl rm2 ha0 q2
          obtain ⟨ys, q4', q5'⟩ := srcL .refl rm2 hb0 q2'
          exact ⟨a0, b0, xs, ys, rfl, .inl ⟨q4, q4', e2 _ (jw_zipL ha0 hb0)⟩⟩
theorem jw_revL {G : Gx} {ι : List Addr} {H : Hp} {l n : Nat} {a : Addr} (ha : ι[l]? = some a) : JW G ι H (.rev (.dy l) n) (Itv G.K a n) where
  item := by
    intro i m ι' H' d x rm h
    have h : (Src.all (.dy l) m).bind (fun ds => if i < n then ds[n - 1 - i]? else none) = some d := h
    cases e : Src.all (.dy l) m with
    | none => rw [e] at h; cases h
    | some ds =>
      rw [e] at h
      obtain ⟨xs, q1, q2⟩ := srcL x rm ha e
      have h : (if i < n then ds[n - 1 - i]? else none) = some d := h
      by_cases hi : i < n
      · rw [if_pos hi] at h
        obtain ⟨v, q3, q4⟩ := q2.get h
        refine ⟨⟨hi, xs, v, q1, q3⟩, fun y H'' hy => ?_⟩
        obtain ⟨rfl, hy⟩ := hy
        have := hy xs q1
        rw [q3] at this; cases this
        exact ⟨.refl, rm, q4⟩
      · rw [if_neg hi] at h; cases h
  stop := by
    intro i m ι' H' x rm h
    exact (show n ≤ i from of_decide_eq_true h)
theorem jw_revT {G : Gx} {ι : List Addr} {H : Hp} {ds : List D} {n : Nat} {a : Addr} {xs : List V} (h1 : SqT G.K H a xs) (h2 : RVs G.K ι H ds xs) : JW G ι H (.rev (.st ds) n) (RT.ItvT G.K a n) where
  item := by
    intro i m ι' H' d x rm h
    have h : (if i < n then ds[n - 1 - i]? else none) = some d := h
    by_cases hi : i < n
    · rw [if_pos hi] at h
      obtain ⟨v, q3, q4⟩ := h2.get h
      have k1 := x.tup _ _ h1
      refine ⟨⟨hi, xs, v, k1, q3⟩, fun y H'' hy => ?_⟩
      obtain ⟨rfl, hy⟩ := hy
      have := hy xs k1
      rw [q3] at this; cases this
      exact ⟨.refl, rm, q4.mono x⟩
    · rw [if_neg hi] at h; cases h
  stop := by
    intro i m ι' H' x rm h
    exact (show n ≤ i from of_decide_eq_true h)
theorem si_rev {tg : Expr} {p : Pos} (hn : ("reversed" : Str) ∈ S.nones) (hg : sc.names.lookup ("reversed" : Str) = some .globalImplicit) (ha : SE S N sc a ca) (h0 : simple a = true) : SI S N sc tg (.Call (.Name "reversed" p) [a] [] pos) (.rev ca) := by
  intro G n so fo
  obtain ⟨ta, pa, aa⟩ := ha G n so fo
  refine ⟨fun W => RT.iRevA G.K (ta W), fun X W g tk => by rw [← g.K]; exact RT.pi_revA (g.gl _ hg) (by rw [g.mg]; exact so.nones _ hn) (pa X W g tk) (simple_star h0 _ X.env), fun W σ H R ι env m rs rm h => ?_⟩
  unfold evI at h
  refine aa W σ H _ ι env m rs rm (h.bind.imp fun d m1 ι1 H1 x1 rm1 h1 v rv => ?_)
  obtain ⟨z, e1, e2⟩ := h1.opt rm1
  cases e3 : srcOf d m1 with
  | none => rw [e3] at e1; cases e1
  | some p =>
    rw [e3] at e1
    obtain ⟨q1, ds, q2, q3⟩ := src_of rm1 rv e3
    obtain ⟨s, k⟩ := p
    cases s with
    | st es =>
      cases e1
      obtain ⟨a0, xs, rfl, z1, z2⟩ := q1
      cases q2
      have q3 : k = ds.length := q3
      subst q3
      refine ⟨a0, xs, rfl, .inr ⟨z1, ?_⟩⟩
      have := e2 _ (jw_revT z1 z2)
      rw [z2.length] at this
      exact this
    | dy l =>
      cases e1
      obtain ⟨a0, rfl, ha0⟩ := q1
      obtain ⟨xs, q4, q5⟩ := srcL .refl rm1 ha0 q2
      have q3 : k = ds.length := q3
      subst q3
      refine ⟨a0, xs, rfl, .inl ⟨q4, ?_⟩⟩
      have := e2 _ (jw_revL (n := ds.length) ha0)
      rw [q5.length] at this
      exact this
theorem jw_rngC {G : Gx} {ι : List Addr} {H : Hp} {lo c : Int} {n : Nat} : JW G ι H (.rngN lo c n) (Itc lo c n) where
  item := by
    intro i m ι' H' d x rm h
    have h : (if i < n then some (D.int (lo + (i : Nat) * c)) else none) = some d := h
    by_cases hi : i < n
    · rw [if_pos hi] at h
      cases h
      refine ⟨hi, fun y H'' hy => ?_⟩
      obtain ⟨rfl, rfl⟩ := hy
      exact ⟨.refl, rm, .int _⟩
    · rw [if_neg hi] at h; cases h
  stop := by
    intro i m ι' H' x rm h
    exact (show n ≤ i from of_decide_eq_true h)
theorem si_revr {tg : Expr} {p p2 pos2 : Pos} (hn : ("reversed" : Str) ∈ S.nones) (hn2 : ("range" : Str) ∈ S.nones) (hg : sc.names.lookup ("reversed" : Str) = some .globalImplicit) (hg2 : sc.names.lookup ("range" : Str) = some .globalImplicit) (ha : SE S N sc a ca) (h0 : simple a = true) :
    SI S N sc tg (.Call (.Name "reversed" p) [.Call (.Name "range" p2) [a] [] pos2] [] pos) (.revr ca) := by
  intro G n so fo
  obtain ⟨ta, pa, aa⟩ := ha G n so fo
  refine ⟨fun W => iRevR (tRg1 (ta W)), fun X W g tk => pi_revR (g.gl _ hg) (by rw [g.mg]; exact so.nones _ hn) (prg_1 (g.gl _ hg2) (by rw [g.mg]; exact so.nones _ hn2) (pa X W g tk) (simple_star h0 _ X.env)) rfl, fun W σ H R ι env m rs rm h => ?_⟩
  unfold evI at h
  refine aa W σ H _ ι env m rs rm (h.bind.imp fun d m1 ι1 H1 x1 rm1 h1 v rv => ?_)
  cases rv with
  | int j =>
    have h1 : Po G ι1 H1 (eW W σ) (if boundOk j then Mn.R.ok (Wk.rngN (j.toNat - 1) (-1) j.toNat, j.toNat) m1 else .no) _ := h1
    by_cases hz : boundOk j = true
    · rw [if_pos hz] at h1
      have z := Bool.and_eq_true_iff.mp (boundOk_eq j ▸ hz)
      refine ⟨j, rfl, by omega, by omega, of_decide_eq_true z.1, of_decide_eq_true z.2, ?_⟩
      have := h1.ok .refl rm1 _ jw_rngC
      rw [show (0 : Int) + (((j - 0).toNat : Nat) : Int) - 1 = (j.toNat : Int) - 1 by rw [Int.sub_zero]; omega, Int.sub_zero]
      exact this
    · rw [if_neg hz] at h1
      exact (show False from h1).elim
  | _ => exact (show False from h1).elim
end

theorem wipe_get (σ : L2.St) (j : Nat) : ∀ own : List Nat, (wipe σ own)[j]? = if j ∈ own then σ[j]?.map (fun _ => none) else σ[j]?
  | [] => by simp [wipe]
  | i :: own => by
    unfold wipe
    have ih := wipe_get σ j own
    by_cases h : j = i
    · subst h
      rw [if_pos List.mem_cons_self]
      by_cases hl : j < (wipe σ own).length
      · rw [List.getElem?_set_self hl]
        rw [L2.wipe_length] at hl
        rw [List.getElem?_eq_getElem hl]
        rfl
      · rw [List.getElem?_eq_none (by rw [List.length_set]; omega)]
        rw [L2.wipe_length] at hl
        rw [List.getElem?_eq_none (by omega)]
        rfl
    · rw [List.getElem?_set_ne (Ne.symm h), ih]
      by_cases h2 : j ∈ own
      · rw [if_pos h2, if_pos (List.mem_cons_of_mem _ h2)]
      · rw [if_neg h2, if_neg (by simp [h, h2])]
theorem wipe_in {σ : L2.St} {i : Nat} {v : Option V} {own : List Nat} (h : i ∈ own) : wipe (σ.set i v) own = wipe σ own := by
  apply List.ext_getElem?
  intro j
  rw [wipe_get, wipe_get]
  by_cases hj : j ∈ own
  · rw [if_pos hj, if_pos hj]
    by_cases e : j = i
    · subst e
      by_cases hl : j < σ.length
      · rw [List.getElem?_set_self hl, List.getElem?_eq_getElem hl]
        rfl
      · rw [List.getElem?_eq_none (by rw [List.length_set]; omega), List.getElem?_eq_none (by omega)]
    · rw [List.getElem?_set_ne (Ne.symm e)]
  · rw [if_neg hj, if_neg hj, List.getElem?_set_ne]
    intro e
    subst e
    exact hj h
theorem wipe_idem (σ : L2.St) (own : List Nat) : wipe (wipe σ own) own = wipe σ own := by
  apply List.ext_getElem?
  intro j
  rw [wipe_get, wipe_get]
  by_cases hj : j ∈ own
  · rw [if_pos hj, if_pos hj, Option.map_map]
    rfl
  · rw [if_neg hj, if_neg hj]
def gdS (sc : Scope) (x : Str) : Bool := decide (sc.names.lookup x = some .local) || decide (sc.names.lookup x = some .cell)
/-- a target of names: one name, or a tuple of names -/
def AdG (G : Gx) (tg : List Nat) (g : TG) : Prop := ∀ (d : D) (v : V) (σ : L2.St) (H : Hp) (Q : L2.St → Hp → Prop) (ι : List Addr) (env env' : Sl) (m : Mu), RS G ι H env σ → RM G.K ι H m → RV G.K ι H d v →
  bindT tg d m env = some env' → (∀ σ', RS G ι H env' σ' → (∀ own : List Nat, (∀ i ∈ tg, i ∈ own) → wipe σ' own = wipe σ own) → Q σ' H) → g v σ H Q
def ST1 (N : List Str) (sc : Scope) (tgE : Expr) (tg : List Nat) : Prop := ∀ (G : Gx) (n : Nat), ∃ g : TG, (∀ X, Gd G N sc n X → PG X tgE g) ∧ AdG G tg g
section
variable {N : List Str} {sc : Scope}
theorem pg_nameX {G : Gx} {n : Nat} {X : Cx} {x : Str} {i : Nat} {pos : Pos} (g : Gd G N sc n X) (hN : N[i]? = some x) (hk : gdS sc x = true) : PG X (.Name x pos) (gName i) := by
  rcases Bool.or_eq_true_iff.mp hk with z | z
  · have z := of_decide_eq_true z
    exact pg_name (by rw [g.nm]; exact g.nd) (by rw [g.nm]; exact hN) (.inl (g.lcl x z)) (.inr (g.lcl x z))
  · have z := of_decide_eq_true z
    exact pg_name (by rw [g.nm]; exact g.nd) (by rw [g.nm]; exact hN) (.inr (g.cel x z).1) (.inl (g.cel x z).2)
theorem st_name {x : Str} {i : Nat} {pos : Pos} (hN : N[i]? = some x) (hk : gdS sc x = true) : ST1 N sc (.Name x pos) [i] := by
  intro G n
  refine ⟨gName i, fun X g => pg_nameX g hN hk, fun d v σ H Q ι env env' m rs rm rv h q => ?_⟩
  cases h
  exact q _ (rs.set i rv) fun own ho => wipe_in (ho i (by simp))
/-- several names -/
def AdGs (G : Gx) (tg : List Nat) (g : TGs) : Prop := ∀ (ds : List D) (vs : List V) (σ : L2.St) (H : Hp) (Q : L2.St → Hp → Prop) (ι : List Addr) (env env' : Sl), RS G ι H env σ → RVs G.K ι H ds vs →
  setAll tg ds env = some env' → (∀ σ', RS G ι H env' σ' → (∀ own : List Nat, (∀ i ∈ tg, i ∈ own) → wipe σ' own = wipe σ own) → Q σ' H) → g vs σ H Q
def STs (N : List Str) (sc : Scope) (es : List Expr) (tg : List Nat) : Prop := ∀ (G : Gx) (n : Nat), ∃ g : TGs, (∀ X, Gd G N sc n X → PGs X es g ∧ (assignEach es X.env).length = tg.length ∧ (assignEach es X.env).findIdx? (·.1) = none) ∧ AdGs G tg g
theorem sts_nil : STs N sc [] [] := by
  intro G n
  refine ⟨gNil, fun X g => ⟨pgs_nil, rfl, rfl⟩, fun ds vs σ H Q ι env env' rs rv h q => ?_⟩
  cases ds with
  | nil =>
    cases h
    cases rv
    exact ⟨rfl, q _ rs fun _ _ => rfl⟩
  | cons _ _ => cases h
theorem sts_cons {x : Str} {i : Nat} {pos : Pos} {es : List Expr} {tg : List Nat} (hN : N[i]? = some x) (hk : gdS sc x = true) (hr : STs N sc es tg) : STs N sc (.Name x pos :: es) (i :: tg) := by
  intro G n
  obtain ⟨g0, h0, a0⟩ := hr G n
  refine ⟨gCons (gName i) g0, fun X g => ?_, fun ds vs σ H Q ι env env' rs rv h q => ?_⟩
  · obtain ⟨k1, k2, k3⟩ := h0 X g
    refine ⟨pgs_cons (pg_nameX g hN hk) k1 rfl, ?_, ?_⟩
    · show ((false, assign (.Name x pos) X.env) :: assignEach es X.env).length = tg.length + 1
      rw [List.length_cons, k2]
    · show ((false, assign (.Name x pos) X.env) :: assignEach es X.env).findIdx? (·.1) = none
      rw [List.findIdx?_cons, k3]
      rfl
  · cases ds with
    | nil => cases h
    | cons d ds =>
      cases rv with
      | @cons _ _ v vs r1 r2 =>
        have h : setAll tg ds (env.set i (some d)) = some env' := h
        exact ⟨v, vs, rfl, a0 ds vs _ H Q ι _ env' (rs.set i r1) r2 h fun σ' r' w' => q σ' r' fun own ho => by
          rw [w' own fun j hj => ho j (List.mem_cons_of_mem _ hj)]
          exact wipe_in (ho i (by simp))⟩
theorem setAll_len : ∀ {tg : List Nat} {ds : List D} {σ σ' : Sl}, setAll tg ds σ = some σ' → ds.length = tg.length
  | [], [], _, _, _ => rfl
  | _ :: tg, _ :: ds, _, _, h => by
    have := setAll_len (tg := tg) (ds := ds) h
    simp [this]
  | [], _ :: _, _, _, h => nomatch h
  | _ :: _, [], _, _, h => nomatch h
theorem st_tup {es : List Expr} {tg : List Nat} {k : Nat} {pos : Pos} (hr : STs N sc es tg) (h2 : ∀ i, tg ≠ [i]) : ST1 N sc (.Tuple es k pos) tg := by
  intro G n
  obtain ⟨g0, h0, a0⟩ := hr G n
  refine ⟨gTup G.K tg.length g0, fun X g => ?_, fun d v σ H Q ι env env' m rs rm rv h q => ?_⟩
  · obtain ⟨k1, k2, k3⟩ := h0 X g
    rw [← g.K]
    exact pg_tup g.calm k1 k2 k3
  · have h' : ∃ ds, d = .tup ds ∧ setAll tg ds env = some env' := by
      unfold bindT at h
      split at h
      · rename_i i
        exact absurd rfl (h2 i)
      · split at h
        · exact ⟨_, rfl, h⟩
        · cases h
    obtain ⟨ds, rfl, h'⟩ := h'
    cases rv with
    | @tup _ a xs z1 z2 =>
      exact ⟨a, xs, rfl, z1, by rw [← z2.length]; exact setAll_len h', a0 ds xs σ H Q ι env env' rs z2 h' q⟩
end
end Mn
end

section
set_option Elab.async false
set_option linter.all false
set_option maxRecDepth 100000
set_option autoImplicit false
set_option maxHeartbeats 1000000
namespace Mn
open PySem PySem.Spec PyProof.Rows L2
section
variable {S : Sig} {N : List Str} {sc : Scope} {a b c e : Expr} {ca cb cc : CE} {pos : Pos}
theorem lookup_relabel (env : PySem.Env) (x : Str) : ∀ (names : List (Str × NameKind)) (k : NameKind), names.lookup x = some k →
    ((names.map fun (n, k) => if (k == NameKind.free && env.scope.kind == .function && env.kindOf n == some .cell) then (n, NameKind.cell) else (n, k)).lookup x = some k) ∨
    (k = .free ∧ (names.map fun (n, k) => if (k == NameKind.free && env.scope.kind == .function && env.kindOf n == some .cell) then (n, NameKind.cell) else (n, k)).lookup x = some .cell)
  | [], _, h => by cases h
  | (n, k0) :: r, k, h => by
    have ih := lookup_relabel env x r k
    show (List.lookup x ((if (k0 == NameKind.free && env.scope.kind == .function && env.kindOf n == some .cell) = true then (n, NameKind.cell) else (n, k0)) :: _) = _) ∨ (_ ∧ List.lookup x ((if (k0 == NameKind.free && env.scope.kind == .function && env.kindOf n == some .cell) = true then (n, NameKind.cell) else (n, k0)) :: _) = _)
    cases hx : x == n with
    | true =>
      simp only [List.lookup_cons, hx] at h
      cases h
      by_cases hc : (k0 == NameKind.free && env.scope.kind == .function && env.kindOf n == some .cell) = true
      · rw [if_pos hc]
        refine .inr ⟨?_, by simp [List.lookup_cons, hx]⟩
        have := (Bool.and_eq_true_iff.mp (Bool.and_eq_true_iff.mp hc).1).1
        exact eq_of_beq this
      · rw [if_neg hc]
        exact .inl (by simp [List.lookup_cons, hx])
    | false =>
      simp only [List.lookup_cons, hx] at h
      by_cases hc : (k0 == NameKind.free && env.scope.kind == .function && env.kindOf n == some .cell) = true
      · rw [if_pos hc]; simp only [List.lookup_cons, hx]; exact ih h
      · rw [if_neg hc]; simp only [List.lookup_cons, hx]; exact ih h
theorem relabel_at {scope : Scope} {env : PySem.Env} {x : Str} {k : NameKind} (h : scope.names.lookup x = some k) : (relabel scope env).names.lookup x = some k ∨ (k = .free ∧ (relabel scope env).names.lookup x = some .cell) :=
  lookup_relabel env x scope.names k h
theorem gd_blk {G : Gx} {n : Nat} {X : Cx} {scope : Scope} (g : Gd G N sc n X) (hk : scope.kind = .function) (s : Shared) (H : Hp) (C : Addr) (cl : List (Str × Addr)) (fp : List Addr) : Gd G N scope n (X.blk s H scope (compEnvC scope cl C X.env) fp) where
  prog := g.prog
  wd := g.wd
  K := g.K
  mg := g.mg
  base := g.base
  nm := g.nm
  nd := g.nd
  kind := hk
  lcl := fun x h => by
    rcases relabel_at (env := X.env) h with z | ⟨z, _⟩
    · exact z
    · cases z
  cel := fun x h => by
    refine ⟨?_, ?_⟩
    · rcases relabel_at (env := X.env) h with z | ⟨z, _⟩
      · exact z
      · cases z
    · show (scope.names.lookup x == some .cell) = true
      rw [h]; rfl
  free := fun x h => by
    rcases relabel_at (env := X.env) h with z | ⟨_, z⟩
    · exact .inr z
    · exact .inl z
  gl := fun x h => by
    rcases relabel_at (env := X.env) h with z | ⟨z, _⟩
    · exact z
    · cases z
  calm := g.calm
  room := g.room
  guards := g.guards
theorem blkOk_gd {G : Gx} {n : Nat} {X : Cx} {scope : Scope} {own : List (Str × Nat)} (g : Gd G N sc n X) (h : blkC N sc scope own = true) : BlkOk X.N X.env.scope scope own := by
  have b := blkOk_by h
  rw [g.nm]
  exact ⟨b.kind, b.uniq, b.ix, fun y hy e => (b.free y hy e).elim (fun z => .inl (g.cel y.1 z).1) fun z => g.free y.1 z, b.own⟩

abbrev W0 : WX := fun _ _ _ _ => False
def SCnd (S : Sig) (N : List Str) (sc : Scope) (ifs : List Expr) (c : Option CE) : Prop := ∀ (G : Gx) (n : Nat), SigOk S G → FnsOk G n → ∃ t : TT, (∀ X, Gd G N sc n X → PTs X ifs t) ∧
  ∀ (σ : L2.St) (H : Hp) (Q : Bool → Hp → Prop) (ι : List Addr) (env : Sl) (m : Mu) (E : XK), RS G ι H env σ → RM G.K ι H m → Po G ι H E (evC (cl G n) c env m) (fun b _ ι' H' => Q b H') → t σ H Q
theorem scnd_none : SCnd S N sc [] none := by
  intro G n _ _
  refine ⟨tYes, fun X g => pts_nil, fun σ H Q ι env m E rs rm h => ?_⟩
  unfold evC at h
  exact h.ok .refl rm
theorem takes_no {X : Cx} : Takes X W0 := takes0
theorem scnd_some (ha : ST S N sc a ca) : SCnd S N sc [a] (some ca) := by
  intro G n so fo
  obtain ⟨t, p, aa⟩ := ha G n so fo
  refine ⟨t W0, fun X g => pts_one (p X W0 g takes_no), fun σ H Q ι env m E rs rm h => ?_⟩
  unfold evC at h
  refine aa W0 σ H _ ι env m rs rm (h.bind.nox.imp fun d m1 ι1 H1 x1 rm1 h1 => ?_)
  cases d with
  | bl b => exact ⟨b, rfl, h1.ok .refl rm1⟩
  | _ => exact (show False from h1).elim

theorem ad_comp {G : Gx} {n : Nat} {it : CI} {tg : List Nat} {own : List (Str × Nat)} {cnd : Option CE} {wi : WX → TI} {g : TG} {tt : TT} {te : WX → TE} (ai : AdI G n it wi) (ag : AdG G tg g)
    (at_ : ∀ (σ : L2.St) (H : Hp) (Q : Bool → Hp → Prop) (ι : List Addr) (env : Sl) (m : Mu) (E : XK), RS G ι H env σ → RM G.K ι H m → Po G ι H E (evC (cl G n) cnd env m) (fun b _ ι' H' => Q b H') → tt σ H Q)
    (ae : AdE G n ca te) (hsub : ∀ i ∈ tg, i ∈ own.map (·.2)) : AdE G n (.comp it tg (own.map (·.2)) cnd ca) (fun W => tLc (wi W) g tt (te W0) (own.map (·.2))) := by
  intro W σ H Q ι env m rs rm h
  unfold evE at h
  refine ai W σ H _ ι env m rs rm (h.bind.imp fun wn m1 ι1 H1 x1 rm1 h1 J hJ Dd hD => ?_)
  have x2 : Ext G.K ι1 H1 (ι1 ++ [Dd]) (upd H1 Dd (.lst [])) := .new hD Dd
  have rm2 : RM G.K (ι1 ++ [Dd]) (upd H1 Dd (.lst [])) (m1 ++ [.lst []]) := rm1.newL hD .nil
  have h2 := (h1.bind).mono x2
  generalize hbody : (fun (d : D) (_ : Unit) (m2 : Mu) =>
        match bindT tg d m2 (wipeD env (own.map (·.2))) with
        | none => (Mn.R.no : Mn.R Unit)
        | some σ' => (evC (cl G n) cnd σ' m2).bind fun b m3 =>
            if b then (Mn.R.nox (evE (cl G n) ca σ' m3)).bind fun y m4 => (appD (.loc m1.length) y m4).bind fun _ m5 => .ok () m5
            else .ok () m3) = body at h2
  refine ⟨fun i k H' => ∃ (m' : Mu) (ι' : List Addr), Ext G.K (ι1 ++ [Dd]) (upd H1 Dd (.lst [])) ι' H' ∧ RM G.K ι' H' m' ∧
    Po G ι' H' (fun _ _ _ => False) (turns wn.1 body k i () m') (fun _ _ ι'' H'' => Ext G.K (ι1 ++ [Dd]) (upd H1 Dd (.lst [])) ι'' H'' → Q (.ref Dd) H''), ⟨wn.2, m1 ++ [.lst []], ι1 ++ [Dd], .refl, rm2, ?_⟩, ?_⟩
  · refine (h2.nox (e' := fun _ _ _ => False)).imp fun u m6 ι6 H6 x6 rm6 h6 x7 => ?_
    exact h6.ok .refl rm6 _ (.loc (x7.pre _ _ (by rw [← rm1.len]; simp)))
  · rintro i k H' ⟨m', ι', x', rm', hk⟩
    cases k with
    | zero =>
      unfold turns at hk
      by_cases hs : wn.1.stops i m' = true
      · rw [if_pos hs] at hk
        exact .inl ⟨hJ.stop i m' ι' H' (x2.trans x') rm' hs, hk.ok .refl rm' x'⟩
      · rw [if_neg hs] at hk
        exact (show False from hk).elim
    | succ k =>
      unfold turns at hk
      cases e : wn.1.item i m' with
      | none => rw [e] at hk; exact (show False from hk).elim
      | some d =>
        rw [e] at hk
        obtain ⟨j1, j2⟩ := hJ.item i m' ι' H' d (x2.trans x') rm' e
        refine .inr ⟨j1, fun H'' => ∃ (m'' : Mu) (ι'' : List Addr), Ext G.K (ι1 ++ [Dd]) (upd H1 Dd (.lst [])) ι'' H'' ∧ RM G.K ι'' H'' m'' ∧
          Po G ι'' H'' (fun _ _ _ => False) (turns wn.1 body k (i + 1) () m'') (fun _ _ ι'' H'' => Ext G.K (ι1 ++ [Dd]) (upd H1 Dd (.lst [])) ι'' H'' → Q (.ref Dd) H''), fun H'' hn => ⟨k, Nat.lt_succ_self k, hn⟩, fun x H2 hy => ?_⟩
        obtain ⟨y1, y2, y3⟩ := j2 x H2 hy
        have hk2 : Po G ι' H2 (fun _ _ _ => False) (body d () m') (fun a' m'' ι'' H'' => Po G ι'' H'' (fun _ _ _ => False) (turns wn.1 body k (i + 1) a' m'') (fun _ _ ι'' H'' => Ext G.K (ι1 ++ [Dd]) (upd H1 Dd (.lst [])) ι'' H'' → Q (.ref Dd) H'')) := (Po.bind hk).mono y1
        rw [← hbody] at hk2
        simp only at hk2
        have rsw : RS G ι' H2 (wipeD env (own.map (·.2))) (wipe σ (own.map (·.2))) := ((((rs.mono x1).mono x2).mono x').mono y1).wipe _
        cases eb : bindT tg d m' (wipeD env (own.map (·.2))) with
        | none => rw [eb] at hk2; exact (show False from hk2).elim
        | some env' =>
          rw [eb] at hk2
          refine ag d x _ H2 _ ι' _ env' m' rsw y2 y3 eb fun σ' rs' hw => ⟨?_, ?_⟩
          · rw [hw _ hsub, wipe_idem]
          · refine at_ σ' H2 _ ι' env' m' _ rs' y2 (hk2.bind.imp fun bb m3 ι3 H3 x3 rm3 h3 => ?_)
            have xx3 : Ext G.K (ι1 ++ [Dd]) (upd H1 Dd (.lst [])) ι3 H3 := (x'.trans y1).trans x3
            cases bb with
            | false =>
              refine iteF ⟨m3, ι3, xx3, rm3, ?_⟩
              have h3 : Po G ι3 H3 (fun _ _ _ => False) (Mn.R.ok () m3) _ := h3
              have z := h3.ok .refl rm3
              rw [hbody] at z
              exact z
            | true =>
              refine iteT ?_
              have h3 : Po G ι3 H3 (fun _ _ _ => False) ((Mn.R.nox (evE (cl G n) ca env' m3)).bind fun y m4 => (appD (.loc m1.length) y m4).bind fun _ m5 => .ok () m5) _ := h3
              refine ae W0 σ' H3 _ ι3 env' m3 (rs'.mono x3) rm3 (h3.bind.nox.imp fun y m4 ι4 H4 x4 rm4 h4 w rw => ?_)
              have xx4 := xx3.trans x4
              have hl : ι4[m1.length]? = some Dd := xx4.pre _ _ (by rw [← rm1.len]; simp)
              obtain ⟨l, acc, y', e1, e2, e3, e4, e5⟩ := append_of (Q := fun _ H5 => ∃ (m'' : Mu) (ι'' : List Addr), Ext G.K (ι1 ++ [Dd]) (upd H1 Dd (.lst [])) ι'' H5 ∧ RM G.K ι'' H5 m'' ∧
                Po G ι'' H5 (fun _ _ _ => False) (turns wn.1 body k (i + 1) () m'') (fun _ _ ι'' H'' => Ext G.K (ι1 ++ [Dd]) (upd H1 Dd (.lst [])) ι'' H'' → Q (.ref Dd) H'')) rm4 (.loc hl) rw
                (h4.bind.imp fun u m5 ι5 H5 x5 rm5 h5 _ _ => ⟨m5, ι5, xx4.trans x5, rm5, by
                  have z := h5.ok .refl rm5
                  rw [hbody] at z
                  exact z⟩)
              cases e1
              cases e2
              exact ⟨acc, e3, e4, e5⟩
theorem se_comp {tgE it : Expr} {ifs : List Expr} {scope : Scope} {own : List (Str × Nat)} {tg : List Nat} {ci : CI} {cnd : Option CE} (hi : SI S N sc tgE it ci) (hb : blkC N sc scope own = true) (hg : ST1 N scope tgE tg) (hsub : ∀ i ∈ tg, i ∈ own.map (·.2))
    (hc : SCnd S N scope ifs cnd) (he : SE S N scope e ca) (hf : simple it = true) : SE S N sc (.ListComp e [⟨tgE, it, ifs, 0⟩] scope pos) (.comp ci tg (own.map (·.2)) cnd ca) := by
  intro G n so fo
  obtain ⟨wi, pi, ai⟩ := hi G n so fo
  obtain ⟨g, pg, ag⟩ := hg G n
  obtain ⟨tt, pt, at_⟩ := hc G n so fo
  obtain ⟨te, pe, ae⟩ := he G n so fo
  have hk := (blkOk_by hb).kind
  exact ⟨_, fun X W gd tk => pe_lc gd.calm (by rw [gd.nm]; exact gd.nd) (pi X W gd tk) (blkOk_gd gd hb) (fun s H C cl fp => pg _ (gd_blk gd hk s H C cl fp)) (fun s H C cl fp => pt _ (gd_blk gd hk s H C cl fp))
    (fun s H C cl fp => pe _ W0 (gd_blk gd hk s H C cl fp) takes_no) (simple_fold hf X.env), ad_comp ai ag at_ ae hsub⟩
end
end Mn
end

section
set_option Elab.async false
set_option linter.all false
set_option maxRecDepth 100000
set_option autoImplicit false
set_option maxHeartbeats 1000000
namespace Mn
open PySem PySem.Spec PyProof.Rows L2

def FinS (G : Gx) (D0 : Ends) (r : Sl ⊕ D) (ι' : List Addr) (H' : Hp) : Prop :=
  match r with
  | .inl env' => ∀ σ', RS G ι' H' env' σ' → D0.nx σ' H'
  | .inr d => ∀ v, RV G.K ι' H' d v → D0.rt v H'
def AdS (G : Gx) (n : Nat) (c : CS) (t : XK → TS) : Prop :=
  ∀ (E : XK) (D0 : Ends) (σ : L2.St) (H : Hp) (ι : List Addr) (env : Sl) (m : Mu), RS G ι H env σ → RM G.K ι H m →
    Po G ι H E (evS (cl G n) G.wf c env m) (fun r _ ι' H' => FinS G D0 r ι' H') → t E D0 σ H
def AdSs (G : Gx) (n : Nat) (c : CSs) (t : XK → TS) : Prop :=
  ∀ (E : XK) (D0 : Ends) (σ : L2.St) (H : Hp) (ι : List Addr) (env : Sl) (m : Mu), RS G ι H env σ → RM G.K ι H m →
    Po G ι H E (evSs (cl G n) G.wf c env m) (fun r _ ι' H' => FinS G D0 r ι' H') → t E D0 σ H
abbrev wE (E : XK) : WX := fun cls d _ H => E cls d H
def SS (S : Sig) (N : List Str) (sc : Scope) (st : Stmt) (c : CS) : Prop := ∀ (G : Gx) (n : Nat), SigOk S G → FnsOk G n → ∃ t : XK → TS, (∀ X E, GdS G N sc n X → Takes X (wE E) → PS X st (t E)) ∧ AdS G n c t
def SSs (S : Sig) (N : List Str) (sc : Scope) (st : List Stmt) (c : CSs) : Prop := ∀ (G : Gx) (n : Nat), SigOk S G → FnsOk G n → ∃ t : XK → TS, (∀ X E, GdS G N sc n X → Takes X (wE E) → PSs X st (t E)) ∧ AdSs G n c t
section
variable {S : Sig} {N : List Str} {sc : Scope} {a b c e : Expr} {ca cb cc : CE} {pos : Pos}
theorem sss_nil : SSs S N sc [] .nil := fun G n _ _ => ⟨fun _ => tNext, fun _ _ _ _ => pss_nil, fun E D0 σ H ι env m rs rm h => by
  unfold evSs at h
  exact h.ok .refl rm σ rs⟩
theorem sss_cons {st : Stmt} {sts : List Stmt} {cs : CS} {css : CSs} (h1 : SS S N sc st cs) (h2 : SSs S N sc sts css) : SSs S N sc (st :: sts) (.cons cs css) := by
  intro G n so fo
  obtain ⟨t1, p1, a1⟩ := h1 G n so fo
  obtain ⟨t2, p2, a2⟩ := h2 G n so fo
  refine ⟨fun E => tSeq (t1 E) (t2 E), fun X E g tk => pss_cons (p1 X E g tk) (p2 X E g tk), fun E D0 σ H ι env m rs rm h => ?_⟩
  unfold evSs at h
  refine a1 E _ σ H ι env m rs rm (h.bind.imp fun r m1 ι1 H1 x1 rm1 h1 => ?_)
  cases r with
  | inl env' => exact fun σ' rs' => a2 E D0 σ' H1 ι1 env' m1 rs' rm1 h1
  | inr d => exact h1.ok .refl rm1
theorem ss_pass : SS S N sc (.Pass pos) .pass := fun G n _ _ => ⟨fun _ => tNext, fun _ _ _ _ => ps_pass, fun E D0 σ H ι env m rs rm h => by
  unfold evS at h
  exact h.ok .refl rm σ rs⟩
theorem ss_ret (ha : SE S N sc a ca) : SS S N sc (.Return (some a) pos) (.ret ca) := by
  intro G n so fo
  obtain ⟨ta, pa, aa⟩ := ha G n so fo
  refine ⟨fun E => tRet (ta (wE E)), fun X E g tk => ps_ret (pa X _ g.toGd tk), fun E D0 σ H ι env m rs rm h => ?_⟩
  unfold evS at h
  exact aa (wE E) σ H _ ι env m rs rm (h.bind.imp fun d m1 ι1 H1 x1 rm1 h1 v rv => h1.ok .refl rm1 v rv)
theorem ss_retN : SS S N sc (.Return none pos) .retN := fun G n _ _ => ⟨fun _ => tRetN, fun _ _ _ _ => ps_retN, fun E D0 σ H ι env m rs rm h => by
  unfold evS at h
  exact h.ok .refl rm .non .non⟩
theorem ss_ex (ha : SE S N sc a ca) (hn : nocomp a = true) : SS S N sc (.Expr a pos) (.ex ca) := by
  intro G n so fo
  obtain ⟨ta, pa, aa⟩ := ha G n so fo
  refine ⟨fun E => tDrop (ta (wE E)), fun X E g tk => ps_expr (pa X _ g.toGd tk) (nocomp_sw hn _ _ _), fun E D0 σ H ι env m rs rm h => ?_⟩
  unfold evS at h
  exact aa (wE E) σ H _ ι env m rs rm (h.bind.imp fun d m1 ι1 H1 x1 rm1 h1 v rv => h1.ok .refl rm1 σ ((rs.mono x1)))
theorem ss_if {p q : List Stmt} {cp cq : CSs} (hc : ST S N sc c cc) (hp : SSs S N sc p cp) (hq : SSs S N sc q cq) : SS S N sc (.If c p q pos) (.ite cc cp cq) := by
  intro G n so fo
  obtain ⟨tc, pc, ac⟩ := hc G n so fo
  obtain ⟨t1, p1, a1⟩ := hp G n so fo
  obtain ⟨t2, p2, a2⟩ := hq G n so fo
  refine ⟨fun E => tIfS (tc (wE E)) (t1 E) (t2 E), fun X E g tk => ps_if (pc X _ g.toGd tk) (p1 X E g tk) (p2 X E g tk), fun E D0 σ H ι env m rs rm h => ?_⟩
  unfold evS at h
  refine ac (wE E) σ H _ ι env m rs rm (h.bind.imp fun d m1 ι1 H1 x1 rm1 h1 => ?_)
  cases d with
  | bl k =>
    refine ⟨k, rfl, ?_⟩
    cases k with
    | true => exact iteT (a1 E D0 σ H1 ι1 env m1 (rs.mono x1) rm1 h1)
    | false => exact iteF (a2 E D0 σ H1 ι1 env m1 (rs.mono x1) rm1 h1)
  | _ => exact (show False from h1).elim

theorem ad_asg {G : Gx} {n : Nat} {t : CT} {ta : WX → TE} {g : XK → TG} (aa : AdE G n ca ta)
    (ag : ∀ (E : XK) (d : D) (v : V) (σ : L2.St) (H : Hp) (Q : L2.St → Hp → Prop) (ι : List Addr) (env : Sl) (m : Mu), RS G ι H env σ → RM G.K ι H m → RV G.K ι H d v →
      Po G ι H E (stT (cl G n) t d env m) (fun env' _ ι' H' => ∀ σ', RS G ι' H' env' σ' → Q σ' H') → g E v σ H Q) : AdS G n (.asg t ca) (fun E => tAsg (ta (wE E)) (g E)) := by
  intro E D0 σ H ι env m rs rm h
  unfold evS at h
  refine aa (wE E) σ H _ ι env m rs rm (h.bind.imp fun d m1 ι1 H1 x1 rm1 h1 v rv => ?_)
  exact ag E d v σ H1 _ ι1 env m1 (rs.mono x1) rm1 rv (h1.bind.imp fun env' m2 ι2 H2 x2 rm2 h2 σ' rs' => h2.ok .refl rm2 σ' rs')
theorem ag_name {G : Gx} {n i : Nat} (E : XK) (d : D) (v : V) (σ : L2.St) (H : Hp) (Q : L2.St → Hp → Prop) (ι : List Addr) (env : Sl) (m : Mu) (rs : RS G ι H env σ) (rm : RM G.K ι H m) (rv : RV G.K ι H d v)
    (h : Po G ι H E (stT (cl G n) (.name i) d env m) (fun env' _ ι' H' => ∀ σ', RS G ι' H' env' σ' → Q σ' H')) : gName i v σ H Q := by
  unfold stT at h
  exact h.ok .refl rm _ (rs.set i rv)
theorem hf_of {G : Gx} {n : Nat} {X : Cx} {x : Str} (g : Gd G N sc n X) (hk : gdS sc x = true) : Loc X.env.scope x ∧ (X.fn x = true ∨ X.env.scope.names.lookup x = some .local) := by
  rcases Bool.or_eq_true_iff.mp hk with z | z
  · have z := of_decide_eq_true z
    exact ⟨.inl (g.lcl x z), .inr (g.lcl x z)⟩
  · have z := of_decide_eq_true z
    exact ⟨.inr (g.cel x z).1, .inl (g.cel x z).2⟩
theorem ss_set {x : Str} {i : Nat} {p : Pos} (hN : N[i]? = some x) (hk : gdS sc x = true) (ha : SE S N sc a ca) (hn : nocomp a = true) : SS S N sc (.Assign [.Name x p] a pos) (.asg (.name i) ca) := by
  intro G n so fo
  obtain ⟨ta, pa, aa⟩ := ha G n so fo
  exact ⟨_, fun X E g tk => ps_set (by rw [g.nm]; exact g.nd) (by rw [g.nm]; exact hN) (hf_of g.toGd hk).1 (pa X _ g.toGd tk) (nocomp_sw hn _ _ _) (hf_of g.toGd hk).2, ad_asg (g := fun _ => gName i) aa ag_name⟩
/-- a comprehension given to a cell -/
theorem ss_setC {x : Str} {i : Nat} {p : Pos} (hN : N[i]? = some x) (hk : sc.names.lookup x = some .cell) (ha : SE S N sc a ca) : SS S N sc (.Assign [.Name x p] a pos) (.asg (.name i) ca) := by
  intro G n so fo
  obtain ⟨ta, pa, aa⟩ := ha G n so fo
  have hk2 : gdS sc x = true := by unfold gdS; rw [hk]; rfl
  refine ⟨_, fun X E g tk => ps_set (by rw [g.nm]; exact g.nd) (by rw [g.nm]; exact hN) (hf_of g.toGd hk2).1 (pa X _ g.toGd tk) ?_ (hf_of g.toGd hk2).2, ad_asg (g := fun _ => gName i) aa ag_name⟩
  have hkk : X.env.kindOf x = some .cell := (g.cel x hk).1
  have hcl : (NameKind.cell == NameKind.local) = false := by decide
  unfold swapsWith
  cases a <;> simp [hkk, hcl]
/-- .. to a local name -/
theorem ss_setL {x : Str} {i : Nat} {p spos : Pos} {tgE it : Expr} {ifs : List Expr} {scope : Scope} {own : List (Str × Nat)} {tg : List Nat} {ci : CI} {cnd : Option CE} (hN : N[i]? = some x) (hk : sc.names.lookup x = some .local) (hl : (p.line == pos.line) = true)
    (hany : (scope.names.any fun (n, k) => n == x && (k == .local || k == .cell)) = false)
    (hi : SI S N sc tgE it ci) (hb : blkC N sc scope own = true) (hg : ST1 N scope tgE tg) (hsub : ∀ i ∈ tg, i ∈ own.map (·.2))
    (hc : SCnd S N scope ifs cnd) (he : SE S N scope e ca) (hf : simple it = true) : SS S N sc (.Assign [.Name x p] (.ListComp e [⟨tgE, it, ifs, 0⟩] scope pos) spos) (.asg (.name i) (.comp ci tg (own.map (·.2)) cnd ca)) := by
  intro G n so fo
  obtain ⟨wi, pi, ai⟩ := hi G n so fo
  obtain ⟨g, pg, ag⟩ := hg G n
  obtain ⟨tt, pt, at_⟩ := hc G n so fo
  obtain ⟨te, pe, ae⟩ := he G n so fo
  have hkk := (blkOk_by hb).kind
  exact ⟨_, fun X E gd tk => ps_setLc gd.calm (by rw [gd.nm]; exact gd.nd) (by rw [gd.nm]; exact hN) (gd.lcl x hk) (sw_true gd.kind (gd.lcl x hk) hl hany) (pi X _ gd.toGd tk) (blkOk_gd gd.toGd hb)
    (fun s H C cl fp => pg _ (gd_blk gd.toGd hkk s H C cl fp)) (fun s H C cl fp => pt _ (gd_blk gd.toGd hkk s H C cl fp)) (fun s H C cl fp => pe _ W0 (gd_blk gd.toGd hkk s H C cl fp) takes_no) (simple_fold hf X.env),
    ad_asg (g := fun _ => gName i) (ad_comp ai ag at_ ae hsub) ag_name⟩
/-- names in a tuple, of a tuple or a list -/
def gBoth (K : PySem.W.Frag) (n : Nat) (t : TGs) : TG := fun v σ H Q => gTup K n t v σ H Q ∨ gLst K n t v σ H Q
theorem pg_both {X : Cx} {es : List Expr} {k n : Nat} {t : TGs} {pt : Pos} (hc : X.calm = true) (h : PGs X es t) (hn : (assignEach es X.env).length = n) (hst : (assignEach es X.env).findIdx? (·.1) = none) : PG X (.Tuple es k pt) (gBoth X.K n t) :=
  ⟨fun pins s σ H v u Q I r hw => hw.elim ((pg_tup hc h hn hst).run pins s σ H v u Q I r) ((pg_lst hc h hn hst).run pins s σ H v u Q I r)⟩
theorem ss_names {es : List Expr} {tg : List Nat} {k : Nat} {pt : Pos} (hr : STs N sc es tg) (ha : SE S N sc a ca) (hn : nocomp a = true) (hw : ∀ (env : PySem.Env), (∀ x, sc.names.lookup x = some .cell → env.kindOf x = some .cell) → swappedStores [.Tuple es k pt] a env = pure none) : SS S N sc (.Assign [.Tuple es k pt] a pos) (.asg (.names tg) ca) := by
  intro G n so fo
  obtain ⟨ta, pa, aa⟩ := ha G n so fo
  obtain ⟨g0, h0, a0⟩ := hr G n
  refine ⟨_, fun X E g tk => ps_asg (pa X _ g.toGd tk) (g := gBoth G.K tg.length g0) ?_ (by cases a <;> first | rfl | (exact absurd hn (by decide)) | (cases hn)) (hw X.env fun x hx => (g.cel x hx).1) rfl, ad_asg (g := fun _ => gBoth G.K tg.length g0) aa fun E d v σ H Q ι env m rs rm rv h => ?_⟩
  · obtain ⟨k1, k2, k3⟩ := h0 X g.toGd
    rw [← g.K]
    exact pg_both g.calm k1 k2 k3
  · unfold stT at h
    cases e : seqAt m d with
    | none => simp only [e] at h; exact (show False from h).elim
    | some ds =>
      simp only [e] at h
      obtain ⟨env', e1, e2⟩ := h.opt rm
      obtain ⟨p, xs, rfl, z1, z2⟩ := rm.seq rv e
      have hl : xs.length = tg.length := by rw [← z2.length]; exact setAll_len e1
      have hq := a0 ds xs σ H Q ι env env' rs z2 e1 fun σ' rs' _ => e2 σ' rs'
      rcases z1 with z1 | z1
      · exact .inr ⟨p, xs, rfl, z1, hl, hq⟩
      · exact .inl ⟨p, xs, rfl, z1, hl, hq⟩
/-- a, b = x, y of local names: stored from the right -/
theorem ss_par {x y : Str} {i j : Nat} {px py pt pt2 : Pos} {kt k2 : Nat} (hi : N[i]? = some x) (hj : N[j]? = some y) (hij : i ≠ j) (hx : sc.names.lookup x = some .local) (hy : sc.names.lookup y = some .local) (ha : SE S N sc a ca) (hb : SE S N sc b cb) (h0 : simple a = true) (h1 : simple b = true)
    (hw : ∀ (env : PySem.Env), env.scope.kind = .function → env.kindOf x = some .local → env.kindOf y = some .local → swappedStores [.Tuple [.Name x px, .Name y py] kt pt] (.Tuple [a, b] k2 pt2) env = pure (some [x, y])) :
    SS S N sc (.Assign [.Tuple [.Name x px, .Name y py] kt pt] (.Tuple [a, b] k2 pt2) pos) (.par i j ca cb) := by
  intro G n so fo
  obtain ⟨ta, pa, aa⟩ := ha G n so fo
  obtain ⟨tb, pb, ab⟩ := hb G n so fo
  refine ⟨fun E => tPar i j (tCons (ta (wE E)) (tCons (tb (wE E)) tNil)), fun X E g tk => ps_par g.calm (by rw [g.nm]; exact g.nd) (by rw [g.nm]; exact hi) (by rw [g.nm]; exact hj) hij (g.lcl x hx) (g.lcl y hy)
    (pa_cons (pa X _ g.toGd tk) (pa_cons (pb X _ g.toGd tk) pa_nil (simple_star h1 _ _)) (simple_star h0 _ _)) (hw X.env g.kind (g.lcl x hx) (g.lcl y hy)) rfl, fun E D0 σ H ι env m rs rm h => ?_⟩
  unfold evS at h
  refine aa (wE E) σ H _ ι env m rs rm (h.bind.imp fun d m1 ι1 H1 x1 rm1 h1 v rv => ?_)
  refine ab (wE E) σ H1 _ ι1 env m1 (rs.mono x1) rm1 (h1.bind.imp fun e m2 ι2 H2 x2 rm2 h2 w rw => ?_)
  exact ⟨v, w, rfl, h2.ok .refl rm2 _ ((((rs.mono x1).mono x2).set i (rv.mono x2)).set j rw)⟩

def rSetX : TSet := fun o i v H Q => rSetL o i v H Q ∨ rSetD o i v H Q
theorem set_X {X : Cx} (hu : X.A.units + 1 < cLine) : PSet X rSetX := by
  intro pins s σ H o i v ov iv u Q I ro ri rv h
  rcases h with h | h
  · exact set_list pins s σ H o i v ov iv u Q I ro ri rv h
  · exact set_dict hu pins s σ H o i v ov iv u Q I ro ri rv h
theorem put_of {K : PySem.W.Frag} {ι : List Addr} {H : Hp} {k : Str} {d : D} {v : V} (rv : RV K ι H d v) : ∀ {kvs : List (Str × D)} {vs : List (L2.Key × V)}, vs.map (·.1) = kvs.map (fun p => Sum.inr p.1) → RVs K ι H (kvs.map (·.2)) (vs.map (·.2)) →
    (vs.any fun kv => decide (kv.1 = Sum.inr k)) = (kvs.any fun kv => decide (kv.1 = k)) ∧
    (vs.map (fun kv => if kv.1 = Sum.inr k then (kv.1, v) else kv)).map (·.1) = (kvs.map (fun kv => if kv.1 = k then (kv.1, d) else kv)).map (fun p => Sum.inr p.1) ∧
    RVs K ι H ((kvs.map (fun kv => if kv.1 = k then (kv.1, d) else kv)).map (·.2)) ((vs.map (fun kv => if kv.1 = Sum.inr k then (kv.1, v) else kv)).map (·.2))
  | [], [], _, _ => ⟨rfl, rfl, .nil⟩
  | p :: kvs, [], h, _ => by cases h
  | [], q :: vs, h, _ => by cases h
  | p :: kvs, q :: vs, h1, h2 => by
    simp only [List.map_cons, List.cons.injEq] at h1
    simp only [List.map_cons] at h2
    cases h2 with
    | cons r1 r2 =>
      obtain ⟨z1, z2, z3⟩ := put_of (k := k) rv h1.2 r2
      by_cases e : p.1 = k
      · have e' : q.1 = Sum.inr k := by rw [h1.1, e]
        refine ⟨by simp [e, e'], ?_, ?_⟩
        · simp only [List.map_cons, if_pos e, if_pos e', List.cons.injEq]
          exact ⟨h1.1, z2⟩
        · simp only [List.map_cons, if_pos e, if_pos e']
          exact .cons rv z3
      · have e' : ¬ q.1 = Sum.inr k := by rw [h1.1]; exact fun z => e (Sum.inr.inj z)
        refine ⟨by simp only [List.any_cons, decide_eq_false e, decide_eq_false e', z1], ?_, ?_⟩
        · simp only [List.map_cons, if_neg e, if_neg e', List.cons.injEq]
          exact ⟨h1.1, z2⟩
        · simp only [List.map_cons, if_neg e, if_neg e']
          exact .cons r1 z3
theorem putAt_of {G : Gx} {ι : List Addr} {H : Hp} {m m' : Mu} {o i d : D} {vo vi v : V} {Q : Hp → Prop} (rm : RM G.K ι H m) (ro : RV G.K ι H o vo) (ri : RV G.K ι H i vi) (rv : RV G.K ι H d v) (h : putAt o i d m = some m')
    (q : ∀ H', Ext G.K ι H ι H' → RM G.K ι H' m' → Q H') : rSetX vo vi v H Q := by
  cases ri with
  | int k =>
    cases ro with
    | @loc l a ha =>
      have h : (match m[l]? with | some (.lst ds) => (L2.ixN ds.length k).map fun j => m.set l (.lst (ds.set j d)) | _ => none) = some m' := h
      split at h
      · rename_i ds e
        obtain ⟨a', q1, xs, q2, q3⟩ := rm.at_ e
        rw [ha] at q1; cases q1
        cases e2 : ixN ds.length k with
        | none => rw [e2] at h; cases h
        | some j =>
          rw [e2] at h
          cases h
          have x1 : Ext G.K ι H ι (upd H a (.lst (xs.set j v))) := .write ⟨_, q2, .inl ⟨_, rfl⟩⟩
          exact .inl ⟨a, xs, k, j, rfl, rfl, q2, by rw [← q3.length]; exact e2, q _ x1 (rm.write e ha rfl rfl ⟨_, upd_same, (q3.set j rv).mono x1⟩)⟩
      · cases h
    | _ => cases h
  | str k =>
    cases ro with
    | @loc l a ha =>
      have h : (match m[l]? with | some (.dic kvs) => if szOk kvs.length then some (m.set l (.dic (putD kvs k d))) else none | _ => none) = some m' := h
      split at h
      · rename_i kvs e
        obtain ⟨a', q1, vs, q2, q3, q4⟩ := rm.at_ e
        rw [ha] at q1; cases q1
        by_cases hz : szOk kvs.length = true
        · rw [if_pos hz] at h
          cases h
          obtain ⟨z1, z2, z3⟩ := put_of (k := k) rv q3 q4
          have hlen : vs.length = kvs.length := by
            have := congrArg List.length q3
            simpa using this
          have x1 : Ext G.K ι H ι (upd H a (.dK (putK vs (Sum.inr k) v))) := .write ⟨_, q2, .inr ⟨_, rfl⟩⟩
          have y1 : (putK vs (Sum.inr k) v).map (·.1) = (putD kvs k d).map (fun p => Sum.inr p.1) := by
            unfold putK putD
            rw [z1]
            by_cases hc : (kvs.any fun kv => decide (kv.1 = k)) = true
            · rw [if_pos hc, if_pos hc]; exact z2
            · rw [if_neg hc, if_neg hc]; simp [q3]
          have y2 : RVs G.K ι H ((putD kvs k d).map (·.2)) ((putK vs (Sum.inr k) v).map (·.2)) := by
            unfold putK putD
            rw [z1]
            by_cases hc : (kvs.any fun kv => decide (kv.1 = k)) = true
            · rw [if_pos hc, if_pos hc]; exact z3
            · rw [if_neg hc, if_neg hc]
              simp only [List.map_append, List.map_cons, List.map_nil]
              exact q4.append (.cons rv .nil)
          exact .inr ⟨a, _, rfl, DPut.k (k := Sum.inr k) q2 (by rw [hlen]; exact sz_lt hz), q _ x1 (rm.write e ha rfl rfl ⟨_, upd_same, y1, y2.mono x1⟩)⟩
        · rw [if_neg hz] at h
          cases h
      · cases h
    | _ => cases h
  | _ => cases ro <;> cases h
theorem ss_sub {o i v : Expr} {co cx cv : CE} {p : Pos} (ho : SE S N sc o co) (hi : SE S N sc i cx) (hv : SE S N sc v cv) (hs : simple i = true) : SS S N sc (.Assign [.Subscript o i p] v pos) (.asg (.sub co cx) cv) := by
  intro G n so fo
  obtain ⟨to, po, ao⟩ := ho G n so fo
  obtain ⟨ti, pi, ai⟩ := hi G n so fo
  obtain ⟨tv, pv, av⟩ := hv G n so fo
  refine ⟨_, fun X E g tk => ps_asg (pv X _ g.toGd tk) (g := gSub (to (wE E)) (ti (wE E)) rSetX) (pg_sub (po X _ g.toGd tk) (pi X _ g.toGd tk) (set_X (room1 g.toGd)) ?_) ?_ ?_ rfl, ad_asg (g := fun E => gSub (to (wE E)) (ti (wE E)) rSetX) av fun E d v σ H Q ι env m rs rm rv h => ?_⟩
  · intro u
    cases i <;> first | rfl | cases hs
  · cases v <;> rfl
  · cases v <;> rfl
  · unfold stT at h
    refine ao (wE E) σ H _ ι env m rs rm (h.bind.imp fun x m1 ι1 H1 x1 rm1 h1 w1 r1 => ?_)
    refine ai (wE E) σ H1 _ ι1 env m1 (rs.mono x1) rm1 (h1.bind.imp fun y m2 ι2 H2 x2 rm2 h2 w2 r2 => ?_)
    cases e : putAt x y d m2 with
    | none => rw [e] at h2; exact (show False from h2).elim
    | some m' =>
      rw [e] at h2
      have h2 : Po G ι2 H2 E (Mn.R.ok env m') (fun env' _ ι' H' => ∀ σ', RS G ι' H' env' σ' → Q σ' H') := h2
      exact putAt_of rm2 (r1.mono x2) r2 ((rv.mono x1).mono x2) e fun H3 x3 rm3 => h2.ok x3 rm3 σ (((rs.mono x1).mono x2).mono x3)

theorem ss_while {body : List Stmt} {cb : CSs} (hc : ST S N sc c cc) (hb : SSs S N sc body cb) : SS S N sc (.While c body [] pos) (.whl cc cb) := by
  intro G n so fo
  obtain ⟨tc, pc, ac⟩ := hc G n so fo
  obtain ⟨tb, pb, ab⟩ := hb G n so fo
  refine ⟨fun E => tWhile (tc (wE E)) (tb E), fun X E g tk => ps_while g.own (pc X _ g.toGd tk) (pb X E g tk), fun E D0 σ H ι env m rs rm h => ?_⟩
  unfold evS at h
  refine ⟨fun k σ' H' => ∃ (env' : Sl) (m' : Mu) (ι' : List Addr), RS G ι' H' env' σ' ∧ RM G.K ι' H' m' ∧
    Po G ι' H' E (whileN (evE (cl G n) cc) (evSs (cl G n) G.wf cb) k env' m') (fun r _ ι' H' => FinS G D0 r ι' H'), ⟨G.wf, env, m, ι, rs, rm, h⟩, ?_⟩
  rintro k σ' H' ⟨env', m', ι', rs', rm', hk⟩
  cases k with
  | zero =>
    unfold whileN at hk
    exact (show False from hk).elim
  | succ k =>
    unfold whileN at hk
    refine ac (wE E) σ' H' _ ι' env' m' rs' rm' (hk.bind.imp fun d m1 ι1 H1 x1 rm1 h1 => ?_)
    cases d with
    | bl b =>
      refine ⟨b, rfl, ?_⟩
      cases b with
      | false => exact iteF (h1.ok .refl rm1 σ' (rs'.mono x1))
      | true =>
        refine iteT ⟨fun σ2 H2 => ∃ (env' : Sl) (m' : Mu) (ι' : List Addr), RS G ι' H2 env' σ2 ∧ RM G.K ι' H2 m' ∧
          Po G ι' H2 E (whileN (evE (cl G n) cc) (evSs (cl G n) G.wf cb) k env' m') (fun r _ ι' H' => FinS G D0 r ι' H'), fun σ2 H2 hn => ⟨k, Nat.lt_succ_self k, hn⟩, ?_⟩
        refine ab E _ σ' H1 ι1 env' m1 (rs'.mono x1) rm1 (h1.bind.imp fun r m2 ι2 H2 x2 rm2 h2 => ?_)
        cases r with
        | inl env2 => exact fun σ2 rs2 => ⟨env2, m2, ι2, rs2, rm2, h2⟩
        | inr v => exact h2.ok .refl rm2
    | _ => exact (show False from h1).elim
theorem ss_for {tgE it : Expr} {tg : List Nat} {ci : CI} {body : List Stmt} {cb : CSs} (hi : SI S N sc tgE it ci) (hg : ST1 N sc tgE tg) (hb : SSs S N sc body cb) (hf : simple it = true) : SS S N sc (.For tgE it body [] pos) (.for_ ci tg cb) := by
  intro G n so fo
  obtain ⟨wi, pi, ai⟩ := hi G n so fo
  obtain ⟨g, pg, ag⟩ := hg G n
  obtain ⟨tb, pb, ab⟩ := hb G n so fo
  refine ⟨fun E => tFor (wi (wE E)) g (tb E), fun X E gd tk => ps_for gd.own gd.calm (pi X _ gd.toGd tk) (pg X gd.toGd) (pb X E gd tk) (simple_fold hf X.env), fun E D0 σ H ι env m rs rm h => ?_⟩
  unfold evS at h
  refine ai (wE E) σ H _ ι env m rs rm (h.bind.imp fun wn m1 ι1 H1 x1 rm1 h1 J hJ => ?_)
  generalize hbody : (fun (d : D) (σ : Sl) (m2 : Mu) =>
        match bindT tg d m2 σ with
        | none => (Mn.R.no : Mn.R (Sl ⊕ D))
        | some σ' => evSs (cl G n) G.wf cb σ' m2) = bd at h1
  refine ⟨fun i k σ' H' => ∃ (env' : Sl) (m' : Mu) (ι' : List Addr), Ext G.K ι1 H1 ι' H' ∧ RS G ι' H' env' σ' ∧ RM G.K ι' H' m' ∧
    Po G ι' H' E (turnsS wn.1 bd k i env' m') (fun r _ ι' H' => FinS G D0 r ι' H'), ⟨wn.2, env, m1, ι1, .refl, rs.mono x1, rm1, h1⟩, ?_⟩
  rintro i k σ' H' ⟨env', m', ι', x', rs', rm', hk⟩
  cases k with
  | zero =>
    unfold turnsS at hk
    by_cases hs : wn.1.stops i m' = true
    · rw [if_pos hs] at hk
      exact .inl ⟨hJ.stop i m' ι' H' x' rm' hs, hk.ok .refl rm' σ' rs'⟩
    · rw [if_neg hs] at hk
      exact (show False from hk).elim
  | succ k =>
    unfold turnsS at hk
    cases e : wn.1.item i m' with
    | none => rw [e] at hk; exact (show False from hk).elim
    | some d =>
      rw [e] at hk
      obtain ⟨j1, j2⟩ := hJ.item i m' ι' H' d x' rm' e
      refine .inr ⟨j1, fun σ2 H2 => ∃ (env' : Sl) (m' : Mu) (ι' : List Addr), Ext G.K ι1 H1 ι' H2 ∧ RS G ι' H2 env' σ2 ∧ RM G.K ι' H2 m' ∧
        Po G ι' H2 E (turnsS wn.1 bd k (i + 1) env' m') (fun r _ ι' H' => FinS G D0 r ι' H'), fun σ2 H2 hn => ⟨k, Nat.lt_succ_self k, hn⟩, fun x H2 hy => ?_⟩
      obtain ⟨y1, y2, y3⟩ := j2 x H2 hy
      have hk2 := (Po.bind hk).mono y1
      generalize hkont : (fun (r : Sl ⊕ D) (m' : Mu) (ι' : List Addr) (H' : Hp) => Po G ι' H' E
          (match r with
          | .inl σ' => turnsS wn.1 bd k (i + 1) σ' m'
          | .inr v => Mn.R.ok (.inr v) m') (fun r _ ι' H' => FinS G D0 r ι' H')) = kont at hk2
      have hk3 : Po G ι' H2 E (bd d env' m') kont := hk2
      rw [← hbody] at hk3
      simp only at hk3
      cases eb : bindT tg d m' env' with
      | none => rw [eb] at hk3; exact (show False from hk3).elim
      | some env2 =>
        rw [eb] at hk3
        refine ag d x σ' H2 _ ι' env' env2 m' (rs'.mono y1) y2 y3 eb fun σ2 rs2 _ => ?_
        refine ab E _ σ2 H2 ι' env2 m' rs2 y2 (hk3.imp fun r m3 ι3 H3 x3 rm3 h3 => ?_)
        rw [← hkont] at h3
        cases r with
        | inl env3 => exact fun σ3 rs3 => ⟨env3, m3, ι3, (x'.trans y1).trans x3, rs3, rm3, h3⟩
        | inr v => exact h3.ok .refl rm3
end

theorem fn_level {S : Sig} {G : Gx} {n i : Nat} {fn : Fn} {f : Addr} {x qual : Str} {st : Stmt} {fd : FuncData} (so : SigOk S G) (fo : FnsOk G n) (hi : G.Pg[i]? = some fn) (F : Fun G.K x qual st f fd) (sc : FnScope fn.N fn.ps (defScope st))
    (hps : fn.ps.length ≤ fn.N.length) (hb : SSs S fn.N (defScope st) (defBody st) fn.body) : FnG G (n + 1) f fd fn.ps (spN G (n + 1) i) := by
  have hlen : ∀ vs H Q E, spN G (n + 1) i vs H Q E → vs.length = fn.ps.length := by
    rintro vs H Q E ⟨ds, ι, m, rv, rm, h⟩
    unfold callN at h
    rw [hi] at h
    by_cases hl : ds.length = fn.ps.length
    · rw [← rv.length]; exact hl
    · simp only [if_neg hl] at h
      exact (show False from h).elim
  refine fn_ofG F sc hlen fun cdv A outer s H vs Q E hr hg hsp => ?_
  obtain ⟨t, pt, at_⟩ := hb G n so fo
  have gd : GdS G fn.N (defScope st) n (cxOf (L2.CX G.P G.w) G.P G.w G.K G.mg G.base fn.N qual (defScope st) f cdv A outer s H E) := by
    refine ⟨⟨rfl, rfl, rfl, rfl, rfl, rfl, sc.nd, sc.kind, fun _ h => h, fun _ h => ⟨h, rfl⟩, fun y h => .inr h, fun _ h => h, rfl, hr, hg⟩, passes_of rfl, rfl, rfl⟩
  refine ⟨t E, pt _ E gd (takes_of rfl rfl rfl rfl), ?_⟩
  obtain ⟨ds, ι, m, rv, rm, h⟩ := hsp
  unfold callN at h
  rw [hi] at h
  have hl : ds.length = fn.ps.length := by
    by_cases hl : ds.length = fn.ps.length
    · exact hl
    · simp only [if_neg hl] at h
      exact (show False from h).elim
  simp only [if_pos hl] at h
  have rs : RS G ι H (ds.map some ++ List.replicate (fn.N.length - ds.length) none) (L2.start fn.N vs) := by
    have hvl := rv.length
    refine ⟨by unfold L2.start; simp [hvl], fun j d e => ?_⟩
    by_cases hj : j < ds.length
    · rw [List.getElem?_append_left (by simpa using hj), List.getElem?_map] at e
      cases e2 : ds[j]? with
      | none => rw [e2] at e; cases e
      | some d' =>
        rw [e2] at e
        cases e
        obtain ⟨v, q1, q2⟩ := rv.get e2
        refine ⟨v, ?_, q2⟩
        unfold L2.start
        rw [List.getElem?_append_left (by rw [List.length_map, ← hvl]; exact hj), List.getElem?_map, q1]
        rfl
    · rw [List.getElem?_append_right (by simpa using hj), List.getElem?_replicate] at e
      split at e <;> cases e
  refine at_ E _ _ H ι _ m rs rm (h.bind.imp fun r m1 ι1 H1 x1 rm1 h1 => ?_)
  cases r with
  | inl env' => exact fun σ' _ => h1.ok .refl rm1 _ .non
  | inr d => exact fun v rv' => h1.ok .refl rm1 v rv'
end Mn
end

section
set_option Elab.async false
set_option linter.all false
set_option maxRecDepth 100000
set_option autoImplicit false
set_option maxHeartbeats 4000000
namespace Mn
open PySem PySem.Spec PyProof.Rows L2

theorem pe_false {X : Cx} {e : Expr} : PE X e (fun _ _ _ => False) := ⟨fun pins s σ H Q I h => (show False from h).elim⟩
theorem pt_false {X : Cx} {e : Expr} : PT X e (fun _ _ _ => False) := ⟨fun pins s σ H Q I h => (show False from h).elim⟩
theorem ps_false {X : Cx} {e : Stmt} : PS X e (fun _ _ _ => False) := ⟨fun pins s σ H Q I h => (show False from h).elim⟩
section
variable {S : Sig} {N : List Str} {sc : Scope} {a b c e : Expr} {ca cb cc : CE} {pos : Pos}
theorem se_no : SE S N sc e .no := fun G n _ _ => ⟨_, fun _ _ _ _ => pe_false, fun W σ H Q ι env m rs rm h => by
  unfold evE at h; exact h⟩
theorem ss_no {st : Stmt} : SS S N sc st .no := fun G n _ _ => ⟨_, fun _ _ _ _ => ps_false, fun E D0 σ H ι env m rs rm h => by
  unfold evS at h; exact h⟩
/-- each by each -/
inductive P2 (S : Sig) (N : List Str) (sc : Scope) : List Expr → CEs → Prop where
  | nil : P2 S N sc [] .nil
  | cons {e : Expr} {c : CE} {es : List Expr} {cs : CEs} (h : SE S N sc e c) (r : P2 S N sc es cs) : P2 S N sc (e :: es) (.cons c cs)
theorem ses_of {es : List Expr} {cs : CEs} (h : P2 S N sc es cs) (hs : es.all simple = true) : SEs S N sc es cs := by
  induction h with
  | nil => exact ses_nil
  | cons h r ih =>
    rw [List.all_cons] at hs
    have z := Bool.and_eq_true_iff.mp hs
    exact ses_cons h z.1 (ih z.2)
theorem sds_of {es : List Expr} {cs : CEs} (h : P2 S N sc es cs) : SDs S N sc es cs := by
  induction h with
  | nil => exact sds_nil
  | cons h r ih => exact sds_cons h ih
end

mutual
def eqB : D → D → Bool
  | .non, e => match e with | .non => true | _ => false
  | .bl x, e => match e with | .bl y => x == y | _ => false
  | .int x, e => match e with | .int y => decide (x = y) | _ => false
  | .str x, e => match e with | .str y => decide (x = y) | _ => false
  | .tup xs, e => match e with | .tup ys => eqBs xs ys | _ => false
  | .loc x, e => match e with | .loc y => decide (x = y) | _ => false
def eqBs : List D → List D → Bool
  | [], ys => match ys with | [] => true | _ => false
  | x :: xs, ys => match ys with | y :: ys => eqB x y && eqBs xs ys | _ => false
end
mutual
theorem eqB_ok : ∀ {x y : D}, eqB x y = true → x = y
  | .non, y, h => by cases y <;> first | rfl | cases h
  | .bl b, y, h => by
    cases y with
    | bl c => exact congrArg _ (eq_of_beq h)
    | _ => cases h
  | .int b, y, h => by
    cases y with
    | int c => exact congrArg _ (of_decide_eq_true h)
    | _ => cases h
  | .str b, y, h => by
    cases y with
    | str c => exact congrArg _ (of_decide_eq_true h)
    | _ => cases h
  | .loc b, y, h => by
    cases y with
    | loc c => exact congrArg _ (of_decide_eq_true h)
    | _ => cases h
  | .tup b, y, h => by
    cases y with
    | tup c => exact congrArg _ (eqBs_ok h)
    | _ => cases h
theorem eqBs_ok : ∀ {x y : List D}, eqBs x y = true → x = y
  | [], y, h => by cases y <;> first | rfl | cases h
  | x :: xs, y, h => by
    cases y with
    | nil => cases h
    | cons y ys =>
      have z := Bool.and_eq_true_iff.mp h
      rw [eqB_ok z.1, eqBs_ok z.2]
end
def isKind (sc : Scope) (x : Str) (k : NameKind) : Bool := decide (sc.names.lookup x = some k)
def isVar (sc : Scope) (x : Str) : Bool := isKind sc x .local || (isKind sc x .cell || isKind sc x .free)
def okName (x : Str) : Bool := !(x == ("__debug__" : Str)) && !(x == ("__classdict__" : Str))
def isGlob (sc : Scope) (x : Str) : Bool := isKind sc x .globalImplicit && !(x == ("__debug__" : Str))
def conB (S : Sig) (sc : Scope) (d : D) (e : Expr) : Bool :=
  match e with
  | .Constant k _ _ =>
    match k, d with
    | .none, .non => true
    | .bool x, .bl y => x == y
    | .int x, .int y => decide (x = y)
    | .str x, .str y => decide (x = y)
    | _, _ => false
  | .Name x _ => isGlob sc x && S.consts.any fun p => decide (p.1 = x) && eqB p.2 d
  | _ => false
theorem conB_ok {S : Sig} {N : List Str} {sc : Scope} {d : D} {e : Expr} (h : conB S sc d e = true) : SE S N sc e (.con d) ∧ tplain e = true := by
  unfold conB at h
  split at h
  · split at h
    · exact ⟨se_non, rfl⟩
    · rw [eq_of_beq h]; exact ⟨se_bl, rfl⟩
    · rw [of_decide_eq_true h]; exact ⟨se_int, rfl⟩
    · rw [of_decide_eq_true h]; exact ⟨se_str, rfl⟩
    · cases h
  · rename_i x _
    have z := Bool.and_eq_true_iff.mp h
    have z1 := Bool.and_eq_true_iff.mp z.1
    obtain ⟨p, hp, hq⟩ := List.any_eq_true.mp z.2
    have z2 := Bool.and_eq_true_iff.mp hq
    have e1 := of_decide_eq_true z2.1
    have e2 := eqB_ok z2.2
    have : p = (x, d) := by cases p; cases e1; cases e2; rfl
    rw [this] at hp
    exact ⟨se_glob hp (of_decide_eq_true z1.1) (by simpa using z1.2), rfl⟩
  · cases h
def opB (o : Op) (p : Operator) : Bool :=
  match o, p with
  | .add, .Add | .sub, .Sub | .mul, .Mult | .fdiv, .FloorDiv | .mod, .Mod | .pow, .Pow => true
  | _, _ => false
theorem opB_ok {o : Op} {p : Operator} (h : opB o p = true) : OpK p o := by
  cases o <;> cases p <;> first | (cases h; done) | constructor
def cpB (o : Cp) (p : CmpOp) : Bool :=
  match o, p with
  | .eq, .Eq | .ne, .NotEq | .lt, .Lt | .le, .LtE | .gt, .Gt | .ge, .GtE | .is, .Is | .isnt, .IsNot | .inn, .In | .notin, .NotIn => true
  | _, _ => false
theorem cpB_ok {o : Cp} {p : CmpOp} (h : cpB o p = true) : CmpK p o := by
  cases o <;> cases p <;> first | (cases h; done) | constructor
def bltB (f : Bf) (x : Str) : Bool :=
  match f with
  | .len => decide (x = "len") | .abs => decide (x = "abs") | .repr => decide (x = "repr") | .all => decide (x = "all") | .any => decide (x = "any")
  | .max2 => decide (x = "max") | .min2 => decide (x = "min") | _ => false
theorem bltB_ok {f : Bf} {x : Str} (h : bltB f x = true) : ∃ id k, BltK x id f k := by
  cases f <;> first | (cases h; done) | (have z := of_decide_eq_true h; subst z; exact ⟨_, _, by constructor⟩)
def btyB (f : Bf) (x : Str) : Bool :=
  match f with
  | .int => decide (x = "int") | .str => decide (x = "str") | .list => decide (x = "list") | .tuple => decide (x = "tuple") | _ => false
theorem btyB_ok {f : Bf} {x : Str} (h : btyB f x = true) : ∃ id, BtyK x id f := by
  cases f <;> first | (cases h; done) | (have z := of_decide_eq_true h; subst z; exact ⟨_, by constructor⟩)
def tyB (f : Ty) (x : Str) : Bool :=
  match f with
  | .int => decide (x = "int") | .bool => decide (x = "bool") | .str => decide (x = "str") | .list => decide (x = "list") | .tuple => decide (x = "tuple")
theorem tyB_ok {f : Ty} {x : Str} (h : tyB f x = true) : ∃ id, TyK x id f := by
  cases f <;> (have z := of_decide_eq_true h; subst z; exact ⟨_, by constructor⟩)
def keysB : List (Option Expr) → List Str → Option (List (Str × Nat × Pos))
  | [], [] => some []
  | some (.Constant (.str k) j p) :: r, x :: xs => if k = x then (keysB r xs).map ((k, j, p) :: ·) else none
  | _, _ => none
theorem keysB_ok : ∀ {es : List (Option Expr)} {xs : List Str} {ks : List (Str × Nat × Pos)}, keysB es xs = some ks → es = keyEs ks ∧ xs = ks.map (·.1) := by
  intro es xs ks h
  induction es, xs using keysB.induct generalizing ks with
  | case1 => unfold keysB at h; cases h; exact ⟨rfl, rfl⟩
  | case2 j p r x xs ih =>
    unfold keysB at h
    rw [if_pos rfl] at h
    cases e : keysB r xs with
    | none => rw [e] at h; cases h
    | some ks' =>
      rw [e] at h; cases h
      obtain ⟨z1, z2⟩ := ih e
      exact ⟨by rw [z1]; rfl, by rw [z2]; rfl⟩
  | case3 k j p r x xs hne => unfold keysB at h; rw [if_neg hne] at h; cases h
  | case4 es xs h1 h2 =>
    unfold keysB at h
    split at h
    · exact (h1 rfl rfl).elim
    · exact (h2 _ _ _ _ _ _ rfl rfl).elim
    · cases h
def namesB (N : List Str) (sc : Scope) : List Nat → List Expr → Bool
  | [], es => match es with | [] => true | _ => false
  | i :: is, es => match es with | .Name x _ :: es => decide (N[i]? = some x) && (gdS sc x && namesB N sc is es) | _ => false
theorem namesB_ok {N : List Str} {sc : Scope} : ∀ {is : List Nat} {es : List Expr}, namesB N sc is es = true → STs N sc es is
  | [], es, h => by
    cases es with
    | nil => exact sts_nil
    | cons _ _ => cases h
  | i :: is, es, h => by
    unfold namesB at h
    split at h
    · have z := Bool.and_eq_true_iff.mp h
      have z2 := Bool.and_eq_true_iff.mp z.2
      exact sts_cons (of_decide_eq_true z.1) z2.1 (namesB_ok z2.2)
    · cases h
def tgB (N : List Str) (sc : Scope) (is : List Nat) (e : Expr) : Bool :=
  match e with
  | .Name x _ => (match is with | [i] => decide (N[i]? = some x) && gdS sc x | _ => false)
  | .Tuple es _ _ => !decide (is.length = 1) && namesB N sc is es
  | _ => false
theorem tgB_ok {N : List Str} {sc : Scope} {is : List Nat} {e : Expr} (h : tgB N sc is e = true) : ST1 N sc e is := by
  unfold tgB at h
  split at h
  · split at h
    · have z := Bool.and_eq_true_iff.mp h
      exact st_name (of_decide_eq_true z.1) z.2
    · cases h
  · have z := Bool.and_eq_true_iff.mp h
    refine st_tup (namesB_ok z.2) fun i e => ?_
    rw [e] at z
    exact absurd z.1 (by simp)
  · cases h
def ownOf (N : List Str) (own : List Nat) : List (Str × Nat) := own.map fun i => (N[i]?.getD "", i)
theorem ownOf_map (N : List Str) (own : List Nat) : (ownOf N own).map (·.2) = own := by
  unfold ownOf
  rw [List.map_map]
  conv => rhs; rw [← List.map_id own]
  rfl
def subB (xs ys : List Nat) : Bool := xs.all fun i => decide (i ∈ ys)
theorem subB_ok {xs ys : List Nat} (h : subB xs ys = true) : ∀ i ∈ xs, i ∈ ys := fun i hi => of_decide_eq_true (List.all_eq_true.mp h i hi)

section
variable (S : Sig) (N : List Str)
def hasNone (x : Str) : Bool := decide (x ∈ S.nones)
def argsB (es : List Expr) : Bool := es.all simple
def fnB (f : Nat) (x : Str) : Bool := S.fns.any fun p => decide (p.1 = x) && decide (p.2.1 = f)
mutual
def chk : CE → Bool → Scope → Expr → Bool
  | .no, t, _, _ => !t
  | .var i, _, sc, e => match e with | .Name x _ => decide (N[i]? = some x) && (isVar sc x && okName x) | _ => false
  | .con d, _, sc, e => conB S sc d e
  | .op o a b, _, sc, e => match e with | .BinOp x p y _ => opB o p && (chk a false sc x && chk b false sc y) | _ => false
  | .neg a, _, sc, e => match e with | .UnaryOp .USub x _ => chk a false sc x | _ => false
  | .cmp o a b, _, sc, e => match e with | .Compare x [p] [y] _ => cpB o p && (simple y && (chk a false sc x && chk b false sc y)) | _ => false
  | .chain o o' a b c, _, sc, e => match e with | .Compare x [p, p'] [y, z] _ => (cpB o p && cpB o' p') && (simple z && (chk a false sc x && (chk b false sc y && chk c false sc z))) | _ => false
  | .and a b, t, sc, e => match e with
    | .BoolOp .And [x, y] _ => chk a t sc x && chk b t sc y
    | .BoolOp .And (x :: y :: z :: r) p => chk a t sc x && chk b t sc (.BoolOp .And (y :: z :: r) p)
    | _ => false
  | .or a b, t, sc, e => match e with
    | .BoolOp .Or [x, y] _ => chk a t sc x && chk b t sc y
    | .BoolOp .Or (x :: y :: z :: r) p => chk a t sc x && chk b t sc (.BoolOp .Or (y :: z :: r) p)
    | _ => false
  | .not a, t, sc, e => match e with | .UnaryOp .Not x _ => chk a t sc x | _ => false
  | .ite c a b, t, sc, e => match e with | .IfExp z x y _ => !t && (chk c true sc z && (chk a false sc x && chk b false sc y)) | _ => false
  | .tup es, _, sc, e => match e with | .Tuple xs _ _ => argsB xs && chkEs es sc xs | _ => false
  | .lst es, _, sc, e => match e with | .List xs _ => argsB xs && chkEs es sc xs | _ => false
  | .dict ks es, _, sc, e => match e with
    | .Dict keys vs _ => (match keysB keys ks with | some ks' => decide (ks'.length = vs.length) && (!decide (ks' = []) && decide (ks'.length ≤ 15)) && chkEs es sc vs | none => false)
    | _ => false
  | .idxI a b, _, sc, e => match e with | .Subscript x y _ => simple y && (chk a false sc x && chk b false sc y) | _ => false
  | .idxK a b, _, sc, e => match e with | .Subscript x y _ => simple y && (chk a false sc x && chk b false sc y) | _ => false
  | .sl a lo hi, _, sc, e => match e with | .Subscript x (.Slice l h none _) _ => chk a false sc x && (chkO lo sc l && chkO hi sc h) | _ => false
  | .rev a, _, sc, e => match e with | .Subscript x (.Slice none none (some (.UnaryOp .USub (.Constant (.int 1) _ _) _)) _) _ => chk a false sc x | _ => false
  | .stp a k, _, sc, e => match e with | .Subscript x (.Slice none none (some y) _) _ => chk a false sc x && chk k false sc y | _ => false
  | .call f es, _, sc, e => match e with | .Call (.Name x _) (y :: ys) [] _ => (isGlob sc x && fnB S f x) && (argsB (y :: ys) && chkEs es sc (y :: ys)) | _ => false
  | .blt f es, _, sc, e => match e with | .Call (.Name x _) (y :: ys) [] _ => (isGlob sc x && (hasNone S x && (bltB f x || btyB f x))) && (argsB (y :: ys) && chkEs es sc (y :: ys)) | _ => false
  | .isi a ty, _, sc, e => match e with
    | .Call (.Name y _) [z, .Name x _] [] _ => (decide (y = "isinstance") && (isGlob sc y && hasNone S y)) && ((tyB ty x && (isGlob sc x && hasNone S x)) && (simple z && chk a false sc z))
    | _ => false
  | .app a b, _, sc, e => match e with | .Call (.Attribute x at_ ap) [y] [] p => (decide (at_ = "append") && (abase x && (simple y && (ap.endLine == p.line)))) && (chk a false sc x && chk b false sc y) | _ => false
  | .ins a i b, _, sc, e => match e with | .Call (.Attribute x at_ ap) [z, y] [] p => (decide (at_ = "insert") && (abase x && ((simple z && simple y) && (ap.endLine == p.line)))) && (chk a false sc x && (chk i false sc z && chk b false sc y)) | _ => false
  | .ext a b, _, sc, e => match e with | .Call (.Attribute x at_ ap) [y] [] p => (decide (at_ = "extend") && (abase x && (simple y && (ap.endLine == p.line)))) && (chk a false sc x && chk b false sc y) | _ => false
  | .pop a, _, sc, e => match e with | .Call (.Attribute x at_ ap) [] [] p => (decide (at_ = "pop") && (abase x && (ap.endLine == p.line))) && chk a false sc x | _ => false
  | .upper a, _, sc, e => match e with | .Call (.Attribute x at_ ap) [] [] p => (decide (at_ = "upper") && (abase x && (ap.endLine == p.line))) && chk a false sc x | _ => false
  | .comp it tg own c e0, _, sc, e => match e with
    | .ListComp x [⟨tgE, itE, ifs, 0⟩] scope _ => (blkC N sc scope (ownOf N own) && (simple itE && (tgB N scope tg tgE && subB tg own))) && (chkI it sc tgE itE && (chkC c scope ifs && chk e0 false scope x))
    | _ => false
def chkEs : CEs → Scope → List Expr → Bool
  | .nil, _, es => match es with | [] => true | _ => false
  | .cons c cs, sc, es => match es with | e :: es => chk c false sc e && chkEs cs sc es | _ => false
def chkO : Option CE → Scope → Option Expr → Bool
  | none, _, e => match e with | none => true | _ => false
  | some c, sc, e => match e with | some e => chk c false sc e | _ => false
def chkC : Option CE → Scope → List Expr → Bool
  | none, _, e => match e with | [] => true | _ => false
  | some c, sc, e => match e with | [e] => chk c true sc e | _ => false
def chkI : CI → Scope → Expr → Expr → Bool
  | .seq a, sc, _, e => chk a false sc e
  | .rng1 a, sc, _, e => match e with | .Call (.Name y _) [x] [] _ => (decide (y = "range") && (isGlob sc y && hasNone S y)) && (simple x && chk a false sc x) | _ => false
  | .rng2 a b, sc, _, e => match e with | .Call (.Name y _) [x, z] [] _ => (decide (y = "range") && (isGlob sc y && hasNone S y)) && ((simple x && simple z) && (chk a false sc x && chk b false sc z)) | _ => false
  | .enum a, sc, tg, e => match tg with
    | .Tuple _ _ _ => (match e with | .Call (.Name y _) [x] [] _ => (decide (y = "enumerate") && (isGlob sc y && hasNone S y)) && (simple x && chk a false sc x) | _ => false)
    | _ => false
  | .zip a b, sc, tg, e => match tg with
    | .Tuple _ _ _ => (match e with | .Call (.Name y _) [x, z] [] _ => (decide (y = "zip") && (isGlob sc y && hasNone S y)) && ((simple x && simple z) && (chk a false sc x && chk b false sc z)) | _ => false)
    | _ => false
  | .rev a, sc, _, e => match e with | .Call (.Name y _) [x] [] _ => (decide (y = "reversed") && (isGlob sc y && hasNone S y)) && (simple x && chk a false sc x) | _ => false
  | .revr a, sc, _, e => match e with
    | .Call (.Name y _) [.Call (.Name y2 _) [x] [] _] [] _ => ((decide (y = "reversed") && (isGlob sc y && hasNone S y)) && (decide (y2 = "range") && (isGlob sc y2 && hasNone S y2))) && (simple x && chk a false sc x)
    | _ => false
end

def SX (sc : Scope) (t : Bool) (e : Expr) (c : CE) : Prop :=
  match t with
  | false => SE S N sc e c
  | true => ST S N sc e c ∧ (∀ op vs p, e = .BoolOp op vs p → SW S N sc e c)
variable {S N}
theorem sx_val {sc : Scope} {t : Bool} {e : Expr} {c : CE} (h : SE S N sc e c) (hp : tplain e = true) : SX S N sc t e c := by
  cases t with
  | false => exact h
  | true => exact ⟨st_val h hp, fun op vs p he => by rw [he] at hp; cases hp⟩
theorem isVar_ok {sc : Scope} {x : Str} (h : isVar sc x = true) : sc.names.lookup x = some .local ∨ sc.names.lookup x = some .cell ∨ sc.names.lookup x = some .free := by
  rcases Bool.or_eq_true_iff.mp h with z | z
  · exact .inl (of_decide_eq_true z)
  · rcases Bool.or_eq_true_iff.mp z with z | z
    · exact .inr (.inl (of_decide_eq_true z))
    · exact .inr (.inr (of_decide_eq_true z))
theorem glob_ok {sc : Scope} {x : Str} (h : isGlob sc x = true) : sc.names.lookup x = some .globalImplicit ∧ (x == ("__debug__" : Str)) = false := by
  have z := Bool.and_eq_true_iff.mp h
  exact ⟨of_decide_eq_true z.1, by simpa using z.2⟩
theorem bi_ok {sc : Scope} {x y : Str} (h : (decide (y = x) && (isGlob sc y && hasNone S y)) = true) : y = x ∧ x ∈ S.nones ∧ sc.names.lookup x = some .globalImplicit := by
  have z := Bool.and_eq_true_iff.mp h
  have z2 := Bool.and_eq_true_iff.mp z.2
  have e := of_decide_eq_true z.1
  subst e
  exact ⟨rfl, of_decide_eq_true z2.2, (glob_ok z2.1).1⟩
theorem all_tail {y : Expr} {ys : List Expr} (h : argsB (y :: ys) = true) : simple y = true ∧ ∀ e ∈ ys, simple e = true := by
  unfold argsB at h
  rw [List.all_cons] at h
  have z := Bool.and_eq_true_iff.mp h
  exact ⟨z.1, List.all_eq_true.mp z.2⟩
mutual
theorem chk_ok : ∀ (c : CE) (t : Bool) (sc : Scope) (e : Expr), chk S N c t sc e = true → SX S N sc t e c
  | .no, t, sc, e, h => by
    cases t with
    | false => exact se_no
    | true => cases h
  | .var i, t, sc, e, h => by
    unfold chk at h
    split at h
    · have z := Bool.and_eq_true_iff.mp h
      have z2 := Bool.and_eq_true_iff.mp z.2
      have z3 := Bool.and_eq_true_iff.mp z2.2
      exact sx_val (se_var (of_decide_eq_true z.1) (isVar_ok z2.1) (by simpa using z3.1) (by simpa using z3.2)) rfl
    · cases h
  | .con d, t, sc, e, h => by
    unfold chk at h
    have z := conB_ok (N := N) h
    exact sx_val z.1 z.2
  | .op o a b, t, sc, e, h => by
    unfold chk at h
    split at h
    · have z := Bool.and_eq_true_iff.mp h
      have z2 := Bool.and_eq_true_iff.mp z.2
      exact sx_val (se_bin (opB_ok z.1) (chk_ok a false sc _ z2.1) (chk_ok b false sc _ z2.2)) rfl
    · cases h
  | .neg a, t, sc, e, h => by
    unfold chk at h
    split at h
    · exact sx_val (se_neg (chk_ok a false sc _ h)) rfl
    · cases h
  | .cmp o a b, t, sc, e, h => by
    unfold chk at h
    split at h
    · have z := Bool.and_eq_true_iff.mp h
      have z2 := Bool.and_eq_true_iff.mp z.2
      have z3 := Bool.and_eq_true_iff.mp z2.2
      have q1 := chk_ok a false sc _ z3.1
      have q2 := chk_ok b false sc _ z3.2
      cases t with
      | false => exact se_cmp (cpB_ok z.1) q1 q2 z2.1
      | true => exact ⟨st_cmp (cpB_ok z.1) q1 q2 z2.1, fun _ _ _ he => by cases he⟩
    · cases h
  | .chain o o' a b c, t, sc, e, h => by
    unfold chk at h
    split at h
    · have z := Bool.and_eq_true_iff.mp h
      have z0 := Bool.and_eq_true_iff.mp z.1
      have z2 := Bool.and_eq_true_iff.mp z.2
      have z3 := Bool.and_eq_true_iff.mp z2.2
      have z4 := Bool.and_eq_true_iff.mp z3.2
      have q1 := chk_ok a false sc _ z3.1
      have q2 := chk_ok b false sc _ z4.1
      have q3 := chk_ok c false sc _ z4.2
      cases t with
      | false => exact se_chain (cpB_ok z0.1) (cpB_ok z0.2) q1 q2 q3 z2.1
      | true => exact ⟨st_chain (cpB_ok z0.1) (cpB_ok z0.2) q1 q2 q3 z2.1, fun _ _ _ he => by cases he⟩
    · cases h
  | .and a b, t, sc, e, h => by
    unfold chk at h
    split at h
    · have z := Bool.and_eq_true_iff.mp h
      have q1 := chk_ok a t sc _ z.1
      have q2 := chk_ok b t sc _ z.2
      cases t with
      | false => exact se_and q1 (se_one q2)
      | true => exact ⟨st_sw (sw_and q1.1 (sw_and1 q2.1)), fun _ _ _ _ => sw_and q1.1 (sw_and1 q2.1)⟩
    · have z := Bool.and_eq_true_iff.mp h
      have q1 := chk_ok a t sc _ z.1
      have q2 := chk_ok b t sc _ z.2
      cases t with
      | false => exact se_and q1 q2
      | true => exact ⟨st_sw (sw_and q1.1 (q2.2 _ _ _ rfl)), fun _ _ _ _ => sw_and q1.1 (q2.2 _ _ _ rfl)⟩
    · cases h
  | .or a b, t, sc, e, h => by
    unfold chk at h
    split at h
    · have z := Bool.and_eq_true_iff.mp h
      have q1 := chk_ok a t sc _ z.1
      have q2 := chk_ok b t sc _ z.2
      cases t with
      | false => exact se_or q1 (se_one q2)
      | true => exact ⟨st_sw (sw_or q1.1 (sw_or1 q2.1)), fun _ _ _ _ => sw_or q1.1 (sw_or1 q2.1)⟩
    · have z := Bool.and_eq_true_iff.mp h
      have q1 := chk_ok a t sc _ z.1
      have q2 := chk_ok b t sc _ z.2
      cases t with
      | false => exact se_or q1 q2
      | true => exact ⟨st_sw (sw_or q1.1 (q2.2 _ _ _ rfl)), fun _ _ _ _ => sw_or q1.1 (q2.2 _ _ _ rfl)⟩
    · cases h
  | .not a, t, sc, e, h => by
    unfold chk at h
    split at h
    · have q := chk_ok a t sc _ h
      cases t with
      | false => exact se_not q
      | true => exact ⟨st_not q.1, fun _ _ _ he => by cases he⟩
    · cases h
  | .ite c a b, t, sc, e, h => by
    unfold chk at h
    split at h
    · have z := Bool.and_eq_true_iff.mp h
      have z2 := Bool.and_eq_true_iff.mp z.2
      have z3 := Bool.and_eq_true_iff.mp z2.2
      cases t with
      | false => exact se_ite (chk_ok c true sc _ z2.1).1 (chk_ok a false sc _ z3.1) (chk_ok b false sc _ z3.2)
      | true => exact absurd z.1 (by decide)
    · cases h
  | .tup es, t, sc, e, h => by
    unfold chk at h
    split at h
    · have z := Bool.and_eq_true_iff.mp h
      exact sx_val (se_tup (ses_of (chkEs_ok es sc _ z.2) z.1)) rfl
    · cases h
  | .lst es, t, sc, e, h => by
    unfold chk at h
    split at h
    · have z := Bool.and_eq_true_iff.mp h
      exact sx_val (se_lst (ses_of (chkEs_ok es sc _ z.2) z.1)) rfl
    · cases h
  | .dict ks es, t, sc, e, h => by
    unfold chk at h
    split at h
    · split at h
      · rename_i ks' hk
        have z := Bool.and_eq_true_iff.mp h
        have z2 := Bool.and_eq_true_iff.mp z.1
        have z3 := Bool.and_eq_true_iff.mp z2.2
        obtain ⟨e1, e2⟩ := keysB_ok hk
        rw [e1, e2]
        exact sx_val (se_dict (sds_of (chkEs_ok es sc _ z.2)) (of_decide_eq_true z2.1) (by simpa using z3.1) (of_decide_eq_true z3.2)) rfl
      · cases h
    · cases h
  | .idxI a b, t, sc, e, h => by
    unfold chk at h
    split at h
    · have z := Bool.and_eq_true_iff.mp h
      have z2 := Bool.and_eq_true_iff.mp z.2
      exact sx_val (se_idx (chk_ok a false sc _ z2.1) (chk_ok b false sc _ z2.2) z.1) rfl
    · cases h
  | .idxK a b, t, sc, e, h => by
    unfold chk at h
    split at h
    · have z := Bool.and_eq_true_iff.mp h
      have z2 := Bool.and_eq_true_iff.mp z.2
      exact sx_val (se_dget (chk_ok a false sc _ z2.1) (chk_ok b false sc _ z2.2) z.1) rfl
    · cases h
  | .sl a lo hi, t, sc, e, h => by
    unfold chk at h
    split at h
    · have z := Bool.and_eq_true_iff.mp h
      have z2 := Bool.and_eq_true_iff.mp z.2
      exact sx_val (se_sl (chk_ok a false sc _ z.1) (chkO_ok lo sc _ z2.1) (chkO_ok hi sc _ z2.2)) rfl
    · cases h
  | .rev a, t, sc, e, h => by
    unfold chk at h
    split at h
    · exact sx_val (se_rev (chk_ok a false sc _ h)) rfl
    · cases h
  | .stp a k, t, sc, e, h => by
    unfold chk at h
    split at h
    · have z := Bool.and_eq_true_iff.mp h
      exact sx_val (se_stp (chk_ok a false sc _ z.1) (chk_ok k false sc _ z.2)) rfl
    · cases h
  | .call f es, t, sc, e, h => by
    unfold chk at h
    split at h
    · have z := Bool.and_eq_true_iff.mp h
      have z1 := Bool.and_eq_true_iff.mp z.1
      have z2 := Bool.and_eq_true_iff.mp z.2
      obtain ⟨g1, g2⟩ := glob_ok z1.1
      obtain ⟨⟨x', i', ar⟩, hp, hq⟩ := List.any_eq_true.mp z1.2
      have z3 := Bool.and_eq_true_iff.mp hq
      have e1 := of_decide_eq_true z3.1
      have e2 := of_decide_eq_true z3.2
      dsimp only at e1 e2
      subst e1; subst e2
      exact sx_val (se_call hp g1 g2 (ses_of (chkEs_ok es sc _ z2.2) z2.1) (all_tail z2.1).1 (all_tail z2.1).2) rfl
    · cases h
  | .blt f es, t, sc, e, h => by
    unfold chk at h
    split at h
    · have z := Bool.and_eq_true_iff.mp h
      have z1 := Bool.and_eq_true_iff.mp z.1
      have z2 := Bool.and_eq_true_iff.mp z.2
      have z3 := Bool.and_eq_true_iff.mp z1.2
      obtain ⟨g1, g2⟩ := glob_ok z1.1
      have hn := of_decide_eq_true z3.1
      rcases Bool.or_eq_true_iff.mp z3.2 with q | q
      · obtain ⟨id, k, K⟩ := bltB_ok q
        exact sx_val (se_bltK K hn g1 (ses_of (chkEs_ok es sc _ z2.2) z2.1) (all_tail z2.1).1 (all_tail z2.1).2) rfl
      · obtain ⟨id, K⟩ := btyB_ok q
        exact sx_val (se_btyK K hn g1 (ses_of (chkEs_ok es sc _ z2.2) z2.1) (all_tail z2.1).1 (all_tail z2.1).2) rfl
    · cases h
  | .isi a ty, t, sc, e, h => by
    unfold chk at h
    split at h
    · have z := Bool.and_eq_true_iff.mp h
      have z1 := Bool.and_eq_true_iff.mp z.2
      have z2 := Bool.and_eq_true_iff.mp z1.1
      have z3 := Bool.and_eq_true_iff.mp z2.2
      have z4 := Bool.and_eq_true_iff.mp z1.2
      obtain ⟨q1, q2, q3⟩ := bi_ok z.1
      obtain ⟨id, K⟩ := tyB_ok z2.1
      subst q1
      exact sx_val (se_isi K (of_decide_eq_true z3.2) q2 (glob_ok z3.1).1 q3 (chk_ok a false sc _ z4.2) z4.1) rfl
    · cases h
  | .app a b, t, sc, e, h => by
    unfold chk at h
    split at h
    · have z := Bool.and_eq_true_iff.mp h
      have z1 := Bool.and_eq_true_iff.mp z.1
      have z2 := Bool.and_eq_true_iff.mp z1.2
      have z3 := Bool.and_eq_true_iff.mp z2.2
      have z4 := Bool.and_eq_true_iff.mp z.2
      have q1 := of_decide_eq_true z1.1
      subst q1
      exact sx_val (se_app (chk_ok a false sc _ z4.1) (chk_ok b false sc _ z4.2) z2.1 z3.1 z3.2) rfl
    · cases h
  | .ins a i b, t, sc, e, h => by
    unfold chk at h
    split at h
    · have z := Bool.and_eq_true_iff.mp h
      have z1 := Bool.and_eq_true_iff.mp z.1
      have z2 := Bool.and_eq_true_iff.mp z1.2
      have z3 := Bool.and_eq_true_iff.mp z2.2
      have z5 := Bool.and_eq_true_iff.mp z3.1
      have z4 := Bool.and_eq_true_iff.mp z.2
      have z6 := Bool.and_eq_true_iff.mp z4.2
      have q1 := of_decide_eq_true z1.1
      subst q1
      exact sx_val (se_ins (chk_ok a false sc _ z4.1) (chk_ok i false sc _ z6.1) (chk_ok b false sc _ z6.2) z2.1 z5.1 z5.2 z3.2) rfl
    · cases h
  | .ext a b, t, sc, e, h => by
    unfold chk at h
    split at h
    · have z := Bool.and_eq_true_iff.mp h
      have z1 := Bool.and_eq_true_iff.mp z.1
      have z2 := Bool.and_eq_true_iff.mp z1.2
      have z3 := Bool.and_eq_true_iff.mp z2.2
      have z4 := Bool.and_eq_true_iff.mp z.2
      have q1 := of_decide_eq_true z1.1
      subst q1
      exact sx_val (se_ext (chk_ok a false sc _ z4.1) (chk_ok b false sc _ z4.2) z2.1 z3.1 z3.2) rfl
    · cases h
  | .pop a, t, sc, e, h => by
    unfold chk at h
    split at h
    · have z := Bool.and_eq_true_iff.mp h
      have z1 := Bool.and_eq_true_iff.mp z.1
      have z2 := Bool.and_eq_true_iff.mp z1.2
      have q1 := of_decide_eq_true z1.1
      subst q1
      exact sx_val (se_pop (chk_ok a false sc _ z.2) z2.1 z2.2) rfl
    · cases h
  | .upper a, t, sc, e, h => by
    unfold chk at h
    split at h
    · have z := Bool.and_eq_true_iff.mp h
      have z1 := Bool.and_eq_true_iff.mp z.1
      have z2 := Bool.and_eq_true_iff.mp z1.2
      have q1 := of_decide_eq_true z1.1
      subst q1
      exact sx_val (se_upper (chk_ok a false sc _ z.2) z2.1 z2.2) rfl
    · cases h
  | .comp it tg own c e0, t, sc, e, h => by
    unfold chk at h
    split at h
    · have z := Bool.and_eq_true_iff.mp h
      have z1 := Bool.and_eq_true_iff.mp z.1
      have z2 := Bool.and_eq_true_iff.mp z1.2
      have z3 := Bool.and_eq_true_iff.mp z2.2
      have z4 := Bool.and_eq_true_iff.mp z.2
      have z5 := Bool.and_eq_true_iff.mp z4.2
      refine sx_val ?_ rfl
      rw [show CE.comp it tg own c e0 = CE.comp it tg ((ownOf N own).map (·.2)) c e0 from by rw [ownOf_map]]
      exact se_comp (chkI_ok it sc _ _ z4.1) z1.1 (tgB_ok z3.1) (by rw [ownOf_map]; exact subB_ok z3.2) (chkC_ok c _ _ z5.1) (chk_ok e0 false _ _ z5.2) z2.1
    · cases h
theorem chkEs_ok : ∀ (cs : CEs) (sc : Scope) (es : List Expr), chkEs S N cs sc es = true → P2 S N sc es cs
  | .nil, sc, es, h => by
    unfold chkEs at h
    split at h
    · exact .nil
    · cases h
  | .cons c cs, sc, es, h => by
    unfold chkEs at h
    split at h
    · have z := Bool.and_eq_true_iff.mp h
      exact .cons (chk_ok c false sc _ z.1) (chkEs_ok cs sc _ z.2)
    · cases h
theorem chkO_ok : ∀ (c : Option CE) (sc : Scope) (e : Option Expr), chkO S N c sc e = true → SO S N sc e c
  | none, sc, e, h => by
    unfold chkO at h
    split at h
    · exact so_none
    · cases h
  | some c, sc, e, h => by
    unfold chkO at h
    split at h
    · exact so_some (chk_ok c false sc _ h)
    · cases h
theorem chkC_ok : ∀ (c : Option CE) (sc : Scope) (e : List Expr), chkC S N c sc e = true → SCnd S N sc e c
  | none, sc, e, h => by
    unfold chkC at h
    split at h
    · exact scnd_none
    · cases h
  | some c, sc, e, h => by
    unfold chkC at h
    split at h
    · exact scnd_some (chk_ok c true sc _ h).1
    · cases h
theorem chkI_ok : ∀ (c : CI) (sc : Scope) (tg e : Expr), chkI S N c sc tg e = true → SI S N sc tg e c
  | .seq a, sc, tg, e, h => by
    unfold chkI at h
    exact si_seq (chk_ok a false sc _ h)
  | .rng1 a, sc, tg, e, h => by
    unfold chkI at h
    split at h
    · have z := Bool.and_eq_true_iff.mp h
      have z2 := Bool.and_eq_true_iff.mp z.2
      obtain ⟨q1, q2, q3⟩ := bi_ok z.1
      subst q1
      exact si_rng1 q2 q3 (chk_ok a false sc _ z2.2) z2.1
    · cases h
  | .rng2 a b, sc, tg, e, h => by
    unfold chkI at h
    split at h
    · have z := Bool.and_eq_true_iff.mp h
      have z2 := Bool.and_eq_true_iff.mp z.2
      have z3 := Bool.and_eq_true_iff.mp z2.1
      have z4 := Bool.and_eq_true_iff.mp z2.2
      obtain ⟨q1, q2, q3⟩ := bi_ok z.1
      subst q1
      exact si_rng2 q2 q3 (chk_ok a false sc _ z4.1) (chk_ok b false sc _ z4.2) z3.1 z3.2
    · cases h
  | .enum a, sc, tg, e, h => by
    unfold chkI at h
    split at h
    · split at h
      · have z := Bool.and_eq_true_iff.mp h
        have z2 := Bool.and_eq_true_iff.mp z.2
        obtain ⟨q1, q2, q3⟩ := bi_ok z.1
        subst q1
        exact si_enum q2 q3 (chk_ok a false sc _ z2.2) z2.1
      · cases h
    · cases h
  | .zip a b, sc, tg, e, h => by
    unfold chkI at h
    split at h
    · split at h
      · have z := Bool.and_eq_true_iff.mp h
        have z2 := Bool.and_eq_true_iff.mp z.2
        have z3 := Bool.and_eq_true_iff.mp z2.1
        have z4 := Bool.and_eq_true_iff.mp z2.2
        obtain ⟨q1, q2, q3⟩ := bi_ok z.1
        subst q1
        exact si_zip q2 q3 (chk_ok a false sc _ z4.1) (chk_ok b false sc _ z4.2) z3.1 z3.2
      · cases h
    · cases h
  | .rev a, sc, tg, e, h => by
    unfold chkI at h
    split at h
    · have z := Bool.and_eq_true_iff.mp h
      have z2 := Bool.and_eq_true_iff.mp z.2
      obtain ⟨q1, q2, q3⟩ := bi_ok z.1
      subst q1
      exact si_rev q2 q3 (chk_ok a false sc _ z2.2) z2.1
    · cases h
  | .revr a, sc, tg, e, h => by
    unfold chkI at h
    split at h
    · have z := Bool.and_eq_true_iff.mp h
      have z1 := Bool.and_eq_true_iff.mp z.1
      have z2 := Bool.and_eq_true_iff.mp z.2
      obtain ⟨q1, q2, q3⟩ := bi_ok z1.1
      obtain ⟨q4, q5, q6⟩ := bi_ok z1.2
      subst q1; subst q4
      exact si_revr q2 q5 q3 q6 (chk_ok a false sc _ z2.2) z2.1
    · cases h
end
end
end Mn
end

section
set_option Elab.async false
set_option linter.all false
set_option maxRecDepth 100000
set_option autoImplicit false
set_option maxHeartbeats 4000000
namespace Mn
open PySem PySem.Spec PyProof.Rows L2

/-- the check of a def's frame -/
def nodupB : List Str → Bool
  | [] => true
  | x :: xs => !decide (x ∈ xs) && nodupB xs
theorem nodupB_ok : ∀ {xs : List Str}, nodupB xs = true → xs.Nodup
  | [], _ => .nil
  | x :: xs, h => by
    have z := Bool.and_eq_true_iff.mp h
    exact List.nodup_cons.mpr ⟨by simpa using z.1, nodupB_ok z.2⟩
def scopeB (N ps : List Str) (sc : Scope) : Bool :=
  (decide (sc.kind = .function) && (!sc.isCoroutine && !sc.isGenerator)) && ((nodupB N && decide (N.take ps.length = ps)) && (ps.all (fun x => isKind sc x .local || isKind sc x .cell) && sc.names.all fun y => !decide (y.2 = .free)))
theorem scopeB_ok {N ps : List Str} {sc : Scope} (h : scopeB N ps sc = true) : FnScope N ps sc := by
  have z := Bool.and_eq_true_iff.mp h
  have z1 := Bool.and_eq_true_iff.mp z.1
  have z2 := Bool.and_eq_true_iff.mp z1.2
  have z3 := Bool.and_eq_true_iff.mp z.2
  have z4 := Bool.and_eq_true_iff.mp z3.1
  have z5 := Bool.and_eq_true_iff.mp z3.2
  refine ⟨of_decide_eq_true z1.1, by simpa using z2.1, by simpa using z2.2, nodupB_ok z4.1, of_decide_eq_true z4.2, fun x hx => ?_, fun y hy => ?_⟩
  · rcases Bool.or_eq_true_iff.mp (List.all_eq_true.mp z5.1 x hx) with q | q
    · exact .inl (of_decide_eq_true q)
    · exact .inr (of_decide_eq_true q)
  · simpa using List.all_eq_true.mp z5.2 y hy

abbrev frmE : Str := "FormError"
section
variable {X : Cx} {e : Expr} {es : List Expr} {ta : TA} {p1 p2 pos : Pos} {B : Addr} {b : Str}
structure BaseI (K : PySem.W.Frag) (B : Addr) : Prop where
  rd : PySem.W.readsIn K B (.type "type") = true
  ga : PySem.W.specialIn K (.ref B) "__getattribute__" = some (some (.builtin "type.__getattribute__"))
  at_ : PySem.W.findCls K (.ref B) (.type "type") "__init__" = some (.val (.builtin "ValueError.__init__"))
theorem pe_binit {xs : Str} {p3 p4 : Pos} {txt : Str} {kk : Nat} (hg : Gl X frmE) (hm : X.mg frmE = some (.ref B)) (T : BaseI X.K B) (ha : PA X [.Name xs p3, .Constant (.str txt) kk p4] ta) (hl : (p2.endLine == pos.line) = true)
    :
    PE X (.Call (.Attribute (.Name frmE p1) "__init__" p2) [.Name xs p3, .Constant (.str txt) kk p4] [] pos) (tVeI X.K ta) := by
  have hc : eval (.Call (.Attribute (.Name frmE p1) "__init__" p2) [.Name xs p3, .Constant (.str txt) kk p4] [] pos) X.env = (do
      let ov ← eval (.Name frmE p1) X.env
      standAt p2.atName
      let (f, first) ← holding [ov] (getMethod ov "__init__" (do return (← importBound (.Name frmE p1) X.env).getD true))
      callWith pos f first (backTo pos (starEach [.Name xs p3, .Constant (.str txt) kk p4] X.env)) (backToKw pos (keywordEach [] X.env))) := by
    have hp : methodCallPos true (.Name frmE p1) X.env p2 pos = pure pos := by
      unfold methodCallPos
      rw [hl]; rfl
    have hf : methodCallForm 2 (backTo pos (starEach [.Name xs p3, .Constant (.str txt) kk p4] X.env)) (backToKw pos (keywordEach [] X.env)) = true := by
      rfl
    show (do
      let ov ← eval (.Name frmE p1) X.env
      standAt p2.atName
      methodCall (.Name frmE p1) "__init__" p2 pos X.env ov 2 (backTo pos (starEach [.Name xs p3, .Constant (.str txt) kk p4] X.env)) (backToKw pos (keywordEach [] X.env))) = _
    unfold methodCall
    simp only [hf, hp, pure_bind]
    rfl
  refine ⟨fun pins s σ H Q I h => ?_⟩
  refine PySem.W.methodCall_KW (ld_glob I hg hm ?_) hc
  refine PySem.W.method_cls I.kIn T.ga (PySem.W.cls_value I.kIn T.rd T.at_ (by decide +kernel) ?_)
  show wpAny _ _ (callWith pos (Value.builtin "ValueError.__init__") [] (backTo pos (starEach [.Name xs p3, .Constant (.str txt) kk p4] X.env)) []) _ _ _
  refine PyProof.Rows.callWith_method1 (thn (ha.run pos pins _ σ H _ (I.tok _) h) fun us s1 ⟨vs, H1, I1, r1, a, C, ws, ev, hl, T, ea, q⟩ => ?_) (by rfl) (by rfl)
  subst ev
  cases r1 with
  | @cons _ u0 _ ur ra rw' =>
    obtain rfl : u0 = Value.ref a := ra
    have hlen : ur.length ≤ sizeLine := by
      rw [← Paired.length rw', sizeLine_eq]
      omega
    exact oinit_ok T I1 ea hlen fun s' J => ⟨.non, H1, J, rfl, q⟩
end

def asgsB : List Str → List Stmt → Bool
  | [], [] => true
  | f :: fs, .Assign [.Attribute (.Name s _) g _] (.Name x _) _ :: r => decide (s = "self") && (decide (g = f) && (decide (x = f) && asgsB fs r))
  | _, _ => false
abbrev selfN (fns : List Str) : List Str := ("self" : Str) :: fns
def plainN (x : Str) : Bool := !(x == ("__debug__" : Str)) && !(x == ("__classdict__" : Str))
def initB (fns : List Str) (st : Stmt) : Bool :=
  (decide (fns ≠ []) && decide (fns.length ≤ 100)) && (((selfN fns).all (fun x => isKind (defScope st) x .local && plainN x) && (isGlob (defScope st) frmE && plainN frmE)) && match defBody st with
  | .Expr (.Call (.Attribute (.Name b' _) m p2) [.Name s _, .Constant (.str _) _ _] [] p5) _ :: r => (decide (b' = frmE) && p2.endLine == p5.line) && (decide (m = "__init__") && (decide (s = "self") && asgsB fns r))
  | _ => false)
section
variable {X : Cx} {C : Addr} {fns : List Str}
/-- behind k fields -/
def Fld (C : Addr) (a : Addr) (fns : List Str) (ys : List V) (k : Nat) (H0 H : Hp) : Prop :=
  (k = 0 ∧ H = H0 ∧ H a = some (exo a C none)) ∨ (0 < k ∧ ∃ d, d ≠ a ∧ H0 d = none ∧ H a = some (exo a C (some d)) ∧ H d = some (exd d ((fns.zip ys).take k).reverse) ∧ ∀ b, b ≠ a → b ≠ d → H b = H0 b)
theorem asgs_ok (hN : X.N = selfN fns) (hnd : X.N.Nodup) (loc : ∀ x ∈ selfN fns, X.env.scope.names.lookup x = some .local) (pl : ∀ x ∈ selfN fns, plainN x = true) (T : OexC X.K C) (no : ∀ f ∈ fns, PySem.W.findIn X.K (.ref C) f = some none) (hl : fns.length ≤ 100) :
    ∀ (fs : List Str) (rest : List Stmt) (k : Nat), k ≤ fns.length → fns.drop k = fs → asgsB fs rest = true → ∃ t : TS, PSs X rest t ∧
      ∀ (a : Addr) (ys : List V) (D : Ends) (σ : L2.St) (H0 H : Hp), ys.length = fns.length → σ[0]? = some (some (.ref a)) → (∀ (j : Nat) (y : V), ys[j]? = some y → σ[j + 1]? = some (some y)) → Fld C a fns ys k H0 H →
        (∀ H', Fld C a fns ys fns.length H0 H' → D.nx σ H') → t D σ H := by
  intro fs
  induction fs with
  | nil =>
    intro rest k hk2 hk h
    cases rest with
    | cons _ _ => cases h
    | nil =>
      refine ⟨tNext, pss_nil, fun a ys D σ H0 H hy h0 hs hf hq => hq H ?_⟩
      have hkl : fns.length ≤ k := by
        have := congrArg List.length hk
        simp at this; omega
      rw [show fns.length = k by omega]
      exact hf
  | cons f fs ih =>
    intro rest k hk2 hk h
    unfold asgsB at h
    split at h
    · rename_i h0
      cases h0
    · rename_i g0 fs0 s p1 g p2 x p3 p4 r h0
      cases h0
      have z := Bool.and_eq_true_iff.mp h
      have z1 := Bool.and_eq_true_iff.mp z.2
      have z2 := Bool.and_eq_true_iff.mp z1.2
      obtain rfl := of_decide_eq_true z.1
      obtain rfl := of_decide_eq_true z1.1
      obtain rfl := of_decide_eq_true z2.1
      have hkl : k < fns.length := by
        have := congrArg List.length hk
        simp at this; omega
      have hat : fns[k]? = some x := by
        have : (fns.drop k)[0]? = some x := by rw [hk]; rfl
        rwa [List.getElem?_drop] at this
      have hmem : x ∈ fns := List.mem_of_getElem? hat
      have hm2 : x ∈ selfN fns := List.mem_cons_of_mem _ hmem
      have hdrop : fns.drop (k + 1) = fs := by rw [← List.drop_drop, hk]; rfl
      obtain ⟨t, pt, at_⟩ := ih r (k + 1) (by omega) hdrop z2.2
      have pn := Bool.and_eq_true_iff.mp (pl x hm2)
      have ps := Bool.and_eq_true_iff.mp (pl "self" List.mem_cons_self)
      have e1 : PE X (.Name "self" p1) (tVar 0) := pe_var (by rw [hN]; rfl) (.inl (loc _ List.mem_cons_self)) (by simpa using ps.1) (by simpa using ps.2)
      have e2 : PE X (.Name x p3) (tVar (k + 1)) := pe_var (by rw [hN]; exact hat) (.inl (loc _ hm2)) (by simpa using pn.1) (by simpa using pn.2)
      refine ⟨tSeq (tOst X.K x (tVar 0) (tVar (k + 1))) t, pss_cons (ps_ost e1 e2) pt, fun a ys D σ H0 H hy h0 hs hf hq => ?_⟩
      obtain ⟨y, hyk⟩ : ∃ y, ys[k]? = some y := ⟨_, List.getElem?_eq_getElem (by omega)⟩
      have hz : (fns.zip ys)[k]? = some (x, y) := List.getElem?_zip_eq_some.mpr ⟨hat, hyk⟩
      have hl0 : k < σ.length := by
        have := (List.getElem?_eq_some_iff.mp (hs k y hyk)).1
        omega
      refine ⟨y, hs k y hyk, .ref a, h0, a, C, rfl, T, no x hmem, ?_⟩
      rcases hf with ⟨rfl, rfl, h2⟩ | ⟨hk0, d, f1, f2, f3, f4, f5⟩
      · refine .inl ⟨h2, fun dx n1 n2 => at_ a ys D σ H _ hy h0 hs (.inr ⟨by omega, dx, n2, n1, upd_same, ?_, fun b hb1 hb2 => ?_⟩) hq⟩
        · rw [upd_ne n2, upd_same, List.take_add_one, hz]; rfl
        · rw [upd_ne hb1, upd_ne hb2]
      · refine .inr ⟨d, _, f3, f4, ?_, ?_⟩
        · rw [List.length_reverse, List.length_take, List.length_zip]; omega
        · refine at_ a ys D σ H0 _ hy h0 hs (.inr ⟨by omega, d, f1, f2, ?_, ?_, fun b hb1 hb2 => ?_⟩) hq
          · rw [upd_ne (Ne.symm f1)]; exact f3
          · rw [upd_same, List.take_add_one, hz]
            simp
          · rw [upd_ne hb2]; exact f5 b hb1 hb2
    · cases h
end
/-- __init__ keeps its promise -/
theorem init_fn {P : Program} {w : World} {K : PySem.W.Frag} {mg : Str → Option Value} {base : Heap} {C B : Addr} {fns : List Str} {qual : Str} {st : Stmt} {f : Addr} {fd : FuncData} (F : Fun K "__init__" qual st f fd) (hsc : scopeB (selfN fns) (selfN fns) (defScope st) = true)
    (h : initB fns st = true) (T : OexC K C) (TB : BaseI K B) (hb : mg frmE = some (.ref B)) (no : ∀ f ∈ fns, PySem.W.findIn K (.ref C) f = some none) : FnOk P w K mg base (L2.CX P w) 2 f fd (selfN fns) (spI C fns) := by
  have S := scopeB_ok hsc
  have z := Bool.and_eq_true_iff.mp h
  have za := Bool.and_eq_true_iff.mp z.1
  have zb := Bool.and_eq_true_iff.mp z.2
  have zc := Bool.and_eq_true_iff.mp zb.1
  have zd := Bool.and_eq_true_iff.mp zc.2
  have hne : fns ≠ [] := of_decide_eq_true za.1
  have hl : fns.length ≤ 100 := of_decide_eq_true za.2
  have loc : ∀ x ∈ selfN fns, (defScope st).names.lookup x = some .local := fun x hx => of_decide_eq_true (Bool.and_eq_true_iff.mp (List.all_eq_true.mp zc.1 x hx)).1
  have pl : ∀ x ∈ selfN fns, plainN x = true := fun x hx => (Bool.and_eq_true_iff.mp (List.all_eq_true.mp zc.1 x hx)).2
  have plb := Bool.and_eq_true_iff.mp zd.2
  have gl := glob_ok zd.1
  have hbody := zb.2
  refine F.okX (k := 1) S (fun vs H Q E hs => ?_) fun cdv A outer s H vs Q E hr hs => ?_
  · obtain ⟨a, ys, rfl, hy, _⟩ := hs
    simp [hy]
  · obtain ⟨a, ys, rfl, hy, ha, hq⟩ := hs
    split at hbody
    · rename_i b' p1 m p2 s' p3 txt kk p4 p5 p6 r hst
      have y1 := Bool.and_eq_true_iff.mp hbody
      have y2 := Bool.and_eq_true_iff.mp y1.2
      have y3 := Bool.and_eq_true_iff.mp y2.2
      have y0 := Bool.and_eq_true_iff.mp y1.1
      obtain rfl := of_decide_eq_true y0.1
      obtain rfl := of_decide_eq_true y2.1
      obtain rfl := of_decide_eq_true y3.1
      rw [hst]
      obtain ⟨t, pt, at_⟩ := asgs_ok (X := cxOf (L2.CX P w) P w K mg base (selfN fns) qual (defScope st) f cdv A outer s H E) (C := C) (fns := fns) rfl S.nd loc pl T no hl fns r 0 (Nat.zero_le _) rfl y3.2
      have ps := Bool.and_eq_true_iff.mp (pl "self" List.mem_cons_self)
      refine ⟨tSeq (tDrop (tVeI K (tCons (tVar 0) (tCons (tC (.str txt)) tNil)))) t, pss_cons (ps_expr (pe_binit (X := cxOf (L2.CX P w) P w K mg base (selfN fns) qual (defScope st) f cdv A outer s H E) gl.1 hb TB (pa_cons (pe_var rfl (.inl (loc _ List.mem_cons_self)) (by simpa using ps.1) (by simpa using ps.2)) (pa_cons pe_str pa_nil)) y0.2)) pt, ?_⟩
      have hstart : ∀ (j : Nat) (v : V), (V.ref a :: ys)[j]? = some v → (L2.start (selfN fns) (.ref a :: ys))[j]? = some (some v) := by
        intro j v e
        unfold L2.start
        have hj := (List.getElem?_eq_some_iff.mp e).1
        rw [List.getElem?_append_left (by simpa using hj), List.getElem?_map, e]; rfl
      refine ⟨.ref a, hstart 0 _ rfl, a, C, [.str txt], rfl, by simp, T, ha, ?_⟩
      refine at_ a ys _ _ H H hy (hstart 0 _ rfl) (fun j y e => hstart (j + 1) y e) (.inl ⟨rfl, rfl, ha⟩) fun H' hf => ?_
      rcases hf with ⟨h0, _, _⟩ | ⟨_, d, e1, e2, e3, e4, e5⟩
      · exact absurd (List.length_eq_zero_iff.mp h0) hne
      · refine hq H' d e1 e2 e3 ?_ e5
        rw [e4, List.take_of_length_le (by rw [List.length_zip]; omega)]
    · cases hbody
section
variable {X : Cx} {x : Str} {C : Addr} {e : Expr} {es : List Expr} {ta : TA} {p pos : Pos}
theorem pmk_dead (T : OexC X.K C) (hg : Gl X x) (hm : X.mg x = some (.ref C)) (ha : PA X (e :: es) ta) (hdb : (x == ("__debug__" : Str)) = false)
    (he : starEach (e :: es) X.env = (false, eval e X.env) :: starEach es X.env) (hpl : (backTo pos (starEach es X.env)).any (·.1) = false) :
    PMk X (.Call (.Name x p) (e :: es) [] pos) (fun σ H _ => ta σ H fun _ _ => False) := by
  intro pins s σ H Q I h
  refine wpAny_Call_Name_kw (ld_glob I hg hm ?_ hdb)
  exact PySem.W.callWith_K (h₀ := X.base) I.ok.mod.kin T.kC (thn (ha.run pos pins s σ H _ I h) fun us s1 ⟨vs, H1, I1, r1, q1⟩ => q1.elim) he hpl
end
theorem zip_fst {α β : Type} : ∀ {xs : List α} {ys : List β}, xs.length = ys.length → (xs.zip ys).map (·.1) = xs
  | [], [], _ => rfl
  | x :: xs, y :: ys, h => by simp only [List.zip_cons_cons, List.map_cons, zip_fst (xs := xs) (ys := ys) (by simpa using h)]
theorem zip_snd {α β : Type} : ∀ {xs : List α} {ys : List β}, xs.length = ys.length → (xs.zip ys).map (·.2) = ys
  | [], [], _ => rfl
  | x :: xs, y :: ys, h => by simp only [List.zip_cons_cons, List.map_cons, zip_snd (xs := xs) (ys := ys) (by simpa using h)]
section
variable {S : Sig} {N : List Str} {sc : Scope}
theorem ss_raise {c : Str} {fns : List Str} {e : Expr} {es : List Expr} {ces : CEs} {p pos pos2 : Pos} (hmem : (c, fns) ∈ S.ecl) (hg : sc.names.lookup c = some .globalImplicit) (hdb : (c == ("__debug__" : Str)) = false)
    (ha : SEs S N sc (e :: es) ces) (h0 : simple e = true) (hp : ∀ e ∈ es, simple e = true) : SS S N sc (.Raise (some (.Call (.Name c p) (e :: es) [] pos)) none pos2) (.raise c fns ces) := by
  intro G n so fo
  obtain ⟨ta, pa, aa⟩ := ha G n so fo
  obtain ⟨C, hC, T, _, _⟩ := so.ecl _ hmem
  obtain ⟨fI, fd, i1, i2, i3, i4⟩ := T.init
  by_cases hn : 4 ≤ n
  · refine ⟨fun E => fun D σ H => tMkO C (spI C fns) [] (ta (wE E)) σ H (fun cls d H' => E cls d H'), fun X E g tk => ?_, fun E D0 σ H ι env m rs rm h => ?_⟩
    · have hK := g.K
      refine ps_raise (W := wE E) g.calm tk ?_
      have T' : OexC X.K C := by rw [hK]; exact T.oex
      refine pmk_oex (fI := fI) (k := 2) (ds := []) T' (by rw [hK]; exact i1) (by rw [hK]; exact i2) (CX := L2.CX X.prog X.w) (by rw [g.prog, g.wd, hK, g.mg, g.base]; exact i4) (g.room.mono (by omega)) (by rw [hK]; exact i3) .nil passL (g.gl c hg) (by rw [g.mg]; exact hC) (pa X _ g.toGd tk) hdb (simple_star h0 es X.env) (backTo_plain hp)
    · unfold evS at h
      refine aa (wE E) σ H _ ι env m rs rm (h.bind.imp fun ds m1 ι1 H1 x1 rm1 h1 vs rvs => ?_)
      have hpr : cl G n 1000000 [] m1 = .ok .non m1 := by
        obtain ⟨k, rfl⟩ : ∃ k, n = k + 1 := ⟨n - 1, by omega⟩
        unfold cl callN
        have : G.Pg[1000000]? = none := List.getElem?_eq_none so.small
        simp only [this]
        rw [if_pos (by rw [decide_eq_true (show 3 ≤ k by omega)]; rfl)]
      rw [hpr] at h1
      have h2 : Po G ι1 H1 E (if decide (ds.length = fns.length) = true then R.ex c (fns.zip ds).reverse m1 else (.no : R (Sl ⊕ D))) _ := h1
      by_cases hl : ds.length = fns.length
      · rw [if_pos (decide_eq_true hl)] at h2
        have hvl := rvs.length
        have hsz := T.sz
        simp only at hsz
        refine ⟨by omega, fun a ha => ⟨a, vs, by simp, by omega, upd_same, fun H' d hd e1 e2 e3 e4 => ⟨rfl, d, _, e2, e3, ?_, ?_⟩⟩⟩
        · rw [upd_ne hd] at e1; exact e1
        · have hd1 : H1 d = none := by rw [upd_ne hd] at e1; exact e1
          have eH : upd (del H' a) d (.xd (fns.zip vs).reverse) = upd H1 d (.xd (fns.zip vs).reverse) := by
            funext b
            by_cases hbd : b = d
            · rw [hbd, upd_same, upd_same]
            · rw [upd_ne hbd, upd_ne hbd]
              by_cases hba : b = a
              · rw [hba, del_same, ha]
              · rw [del_ne hba, e4 b hba hbd, upd_ne hba]
          rw [eH]
          refine h2 ι1 _ (.same (same_upd hd1)) (rm1.newT hd1) (.ref C) (some d) ⟨C, rfl, hC, d, (fns.zip vs).reverse, rfl, upd_same, ?_, ?_⟩
          · rw [List.map_reverse, List.map_reverse, zip_fst (by omega), zip_fst (by omega)]
          · rw [List.map_reverse, List.map_reverse, zip_snd (by omega), zip_snd (by omega)]
            exact (rvs.mono (.same (same_upd hd1))).reverse
      · rw [if_neg (by simpa using hl)] at h2
        exact (show False from h2).elim
  · refine ⟨fun E => fun D σ H => ta (wE E) σ H fun _ _ => False, fun X E g tk => ?_, fun E D0 σ H ι env m rs rm h => ?_⟩
    · refine ps_raise (W := wE E) g.calm tk (pmk_dead (by rw [g.K]; exact T.oex) (g.gl c hg) (by rw [g.mg]; exact hC) (pa X _ g.toGd tk) hdb (simple_star h0 es X.env) (backTo_plain hp))
    · unfold evS at h
      refine aa (wE E) σ H _ ι env m rs rm (h.bind.imp fun ds m1 ι1 H1 x1 rm1 h1 vs rvs => ?_)
      have hpr : cl G n 1000000 [] m1 = .no := by
        unfold cl
        cases n with
        | zero => rfl
        | succ k =>
          unfold callN
          have : G.Pg[1000000]? = none := List.getElem?_eq_none so.small
          simp only [this]
          rw [if_neg (by rw [decide_eq_false (show ¬ 3 ≤ k by omega)]; decide)]
      rw [hpr] at h1
      exact (show False from h1)
end
end Mn
end

section
set_option Elab.async false
set_option linter.all false
set_option maxRecDepth 100000
set_option autoImplicit false
set_option maxHeartbeats 4000000
namespace Mn
open PySem PySem.Spec PyProof.Rows L2

mutual
def litB : D → Expr → Bool
  | .int i, .Constant (.int j) _ _ => decide (i = j)
  | .bl i, .Constant (.bool j) _ _ => decide (i = j)
  | .str i, .Constant (.str j) _ _ => decide (i = j)
  | .non, .Constant .none _ _ => true
  | .tup ds, .Tuple es _ _ => decide (ds.length ≤ 100) && litsB ds es
  | _, _ => false
def litsB : List D → List Expr → Bool
  | [], [] => true
  | d :: ds, e :: es => simple e && (litB d e && litsB ds es)
  | _, _ => false
end
def LitE (K : PySem.W.Frag) (d : D) (e : Expr) : Prop := ∃ t : TE, (∀ X, PE X e t) ∧ ∀ σ H Q (ι : List Addr), (∀ H' v, Same H H' → RV K ι H' d v → Q v H') → t σ H Q
def LitEs (K : PySem.W.Frag) (ds : List D) (es : List Expr) : Prop := ∃ t : TA, (∀ X, PA X es t) ∧ ∀ σ H Q (ι : List Addr), (∀ H' vs, Same H H' → RVs K ι H' ds vs → Q vs H') → t σ H Q
theorem same_refl {H : Hp} : Same H H := fun _ _ e => e
theorem same_trans {H H1 H2 : Hp} (a : Same H H1) (b : Same H1 H2) : Same H H2 := fun x o e => b x o (a x o e)
theorem litsB_len : ∀ {ds : List D} {es : List Expr}, litsB ds es = true → ds.length = es.length
  | [], [], _ => rfl
  | d :: ds, e :: es, h => by
    simp only [litsB, Bool.and_eq_true] at h
    simp only [List.length_cons, litsB_len h.2.2]
  | [], _ :: _, h => by simp [litsB] at h
  | _ :: _, [], h => by simp [litsB] at h
mutual
theorem lit_ok {K : PySem.W.Frag} : ∀ (d : D) (e : Expr), litB d e = true → LitE K d e
  | .int i, e, h => by
    cases e with
    | Constant c k p =>
      cases c with
      | int j =>
        have h := of_decide_eq_true (show decide (i = j) = true by simpa only [litB] using h)
        subst h
        exact ⟨tC (.int i), fun X => pe_int, fun σ H Q ι q => q H _ same_refl (.int i)⟩
      | _ => simp [litB] at h
    | _ => simp [litB] at h
  | .bl i, e, h => by
    cases e with
    | Constant c k p =>
      cases c with
      | bool j =>
        have h := of_decide_eq_true (show decide (i = j) = true by simpa only [litB] using h)
        subst h
        exact ⟨tC (.bl i), fun X => pe_bl, fun σ H Q ι q => q H _ same_refl (.bl i)⟩
      | _ => simp [litB] at h
    | _ => simp [litB] at h
  | .str i, e, h => by
    cases e with
    | Constant c k p =>
      cases c with
      | str j =>
        have h := of_decide_eq_true (show decide (i = j) = true by simpa only [litB] using h)
        subst h
        exact ⟨tC (.str i), fun X => pe_str, fun σ H Q ι q => q H _ same_refl (.str i)⟩
      | _ => simp [litB] at h
    | _ => simp [litB] at h
  | .non, e, h => by
    cases e with
    | Constant c k p =>
      cases c with
      | none => exact ⟨tC .non, fun X => pe_non, fun σ H Q ι q => q H _ same_refl .non⟩
      | _ => simp [litB] at h
    | _ => simp [litB] at h
  | .tup ds, e, h => by
    cases e with
    | Tuple es k p =>
      simp only [litB, Bool.and_eq_true] at h
      obtain ⟨t, pt, at_⟩ := lits_ok (K := K) ds es h.2
      have hl := of_decide_eq_true h.1
      refine ⟨tTup t, fun X => pe_tup (pt X), fun σ H Q ι q => at_ σ H _ ι fun H' vs s rv => ⟨?_, fun p hp => q _ _ (same_trans s (same_upd hp)) (.newT hp rv)⟩⟩
      have := rv.length
      rw [sizeLine_eq]; omega
    | _ => simp [litB] at h
  | .loc n, e, h => by cases e <;> simp [litB] at h
theorem lits_ok {K : PySem.W.Frag} : ∀ (ds : List D) (es : List Expr), litsB ds es = true → LitEs K ds es
  | [], es, h => by
    cases es with
    | nil => exact ⟨tNil, fun X => pa_nil, fun σ H Q ι q => q H [] same_refl .nil⟩
    | cons _ _ => simp [litsB] at h
  | d :: ds, es, h => by
    cases es with
    | nil => simp [litsB] at h
    | cons e es =>
      simp only [litsB, Bool.and_eq_true] at h
      obtain ⟨t1, p1, a1⟩ := lit_ok (K := K) d e h.2.1
      obtain ⟨t2, p2, a2⟩ := lits_ok (K := K) ds es h.2.2
      refine ⟨tCons t1 t2, fun X => pa_cons (p1 X) (p2 X) (simple_star h.1 es X.env), fun σ H Q ι q => a1 σ H _ ι fun H1 v s1 r1 => a2 σ H1 _ ι fun H2 vs s2 r2 => q _ _ (same_trans s1 s2) (.cons (r1.mono (.same s2)) r2)⟩
end
section
variable {X : Cx} {a C : Addr} {oe : Obj} {cls : Value} {d : Option Addr} {pn : List (Addr × Obj)}
structure KitC (K : PySem.W.Frag) (C : Addr) : Prop where
  xf : XfC K C
  cl : (PySem.W.clsIn K C).isSome = true
  ca : PySem.W.findIn K (.ref C) "__class__" = some (some (.builtin "object.__class__"))
  cn : PySem.W.specialIn K (.builtin "object.__class__") "__get__" = some (some (.builtin "getset_descriptor.__get__"))
  ct : PySem.W.takesIn K (.builtin "object.__class__") = some true
  cm : PySem.W.mroIn K C (.type "object") = some true
def rIsExc (K : PySem.W.Frag) (a : Addr) (cls : Value) (d : Option Addr) : List V → Hp → VK → Prop := fun xs H Q => ∃ (C dd : Addr) (fs : List (Str × V)) (b : Bool), cls = .ref C ∧ d = some dd ∧ H dd = some (.xd fs) ∧ KitC K C ∧
  ((∃ (c : V) (cv : Value), xs = [.ref a, c] ∧ (∀ u, RelV c u → u = cv) ∧ PySem.W.kitOne K (.ref C) cv = some b) ∨
    ∃ (tp : Addr) (cs : List V) (us : List Value), xs = [.ref a, .ref tp] ∧ H tp = some (.tup cs) ∧ (∀ us', Vals cs us' → us' = us) ∧ PySem.W.kitAny K (.ref C) us = some b) ∧ Q (.bl b) H
theorem call_isX (hz : Zc cls d oe) (hf : ∃ vs, oe.data = .fields vs) : CallR (X.suite a ((a, oe) :: pn)) (.builtin "isinstance") (rIsExc X.K a cls d) := by
  intro pins s σ H xs us Q I r h
  obtain ⟨C, dd, fs, b, ec, ed, ea, T, hx, q⟩ := h
  subst ec
  subst ed
  obtain ⟨ha, _⟩ := I.pin (a, oe) (List.mem_append_left _ List.mem_cons_self)
  obtain ⟨vs, hd⟩ := hf
  have hox : ObjOk X.prog X.w H s.heap dd (.xd fs) := I.hok dd _ ea
  obtain ⟨mA, hns, hr⟩ := hox
  obtain ⟨od, ho, hl⟩ := lookIn_ns hns
  have J : PySem.W.InstAt s.heap a oe C (some od) := ⟨ha, hz.1, by unfold PySem.W.notCls; rw [hd] <;> rfl, by rw [hz.2]; exact ho⟩
  have Z := PySem.W.kitx_exc (x := a) (ox := oe) (od := some od) T.cl T.xf.ga T.xf.gg T.xf.exC T.ca T.cn T.ct T.cm
  rcases hx with ⟨c, cv, rfl, hcv, e⟩ | ⟨tp, cs, ws, rfl, hT, hws, e⟩
  · obtain ⟨u1, u2, rfl, r1, r2⟩ := vals2 r
    obtain rfl : u1 = Value.ref a := r1
    have e2 := hcv _ r2
    subst e2
    exact PySem.W.kia_one Z I.kIn J e (fun z => nomatch z) fun tk => ⟨.bl b, H, I.tok tk, rfl, q⟩
  · obtain ⟨u1, u2, rfl, r1, r2⟩ := vals2 r
    obtain rfl : u1 = Value.ref a := r1
    cases (show u2 = Value.ref tp from r2)
    obtain ⟨_, its, rv, o, h1, h2, n, h3⟩ := (show ObjOk X.prog X.w H s.heap tp (.tup cs) from I.hok tp _ hT)
    have e3 := hws _ rv
    subst e3
    obtain ⟨oc, od2, dt, sl⟩ := o
    simp only at h2 h3
    subst h2 h3
    exact PySem.W.kia_tup Z I.kIn J h1 e (fun z => nomatch z) fun tk => ⟨.bl b, H, I.tok tk, rfl, q⟩
end
section
variable (S : Sig) (N : List Str) (sc : Scope)
def SB (body : List Stmt) (b : Option Nat) (c : CE) : Prop := ∀ (G : Gx) (n : Nat), SigOk S G → FnsOk G n → ∃ tb : WX → TS, (∀ X W, GdS G N sc n X → Takes X W → PSs X body (tb W)) ∧
  ∀ (W : WX) (D0 : Ends) (σ : L2.St) (H : Hp) (ι : List Addr) (env : Sl) (m : Mu), RS G ι H env σ → RM G.K ι H m →
    Po G ι H (eW W σ) (evE (cl G n) c env m) (fun d _ ι' H' => ∀ σ', RS G ι' H' (setO b d env) σ' → D0.nx σ' H') → tb W D0 σ H
end
section
variable {S : Sig} {N : List Str} {sc : Scope} {a b c e : Expr} {ca cb cc ce : CE} {pos : Pos}
theorem sb_set {x : Str} {i : Nat} {p : Pos} (hN : N[i]? = some x) (hk : gdS sc x = true) (ha : SE S N sc a ca) (hn : nocomp a = true) : SB S N sc [.Assign [.Name x p] a pos] (some i) ca := by
  intro G n so fo
  obtain ⟨ta, pa, aa⟩ := ha G n so fo
  refine ⟨fun W => tAsg (ta W) (gName i), fun X W g tk => pss_one (ps_set (by rw [g.nm]; exact g.nd) (by rw [g.nm]; exact hN) (hf_of g.toGd hk).1 (pa X W g.toGd tk) (nocomp_sw hn _ _ _) (hf_of g.toGd hk).2), fun W D0 σ H ι env m rs rm h => ?_⟩
  exact aa W σ H _ ι env m rs rm (h.imp fun d m1 ι1 H1 x1 rm1 h1 v rv => h1 _ ((rs.mono x1).set i rv))
theorem sb_ex (ha : SE S N sc a ca) (hn : nocomp a = true) : SB S N sc [.Expr a pos] none ca := by
  intro G n so fo
  obtain ⟨ta, pa, aa⟩ := ha G n so fo
  refine ⟨fun W => tDrop (ta W), fun X W g tk => pss_one (ps_expr (pa X W g.toGd tk) (nocomp_sw hn _ _ _)), fun W D0 σ H ι env m rs rm h => ?_⟩
  exact aa W σ H _ ι env m rs rm (h.imp fun d m1 ι1 H1 x1 rm1 h1 v rv => h1 _ (rs.mono x1))
theorem sb_if {x : Str} {i : Nat} {p p' pos1 pos2 : Pos} (hN : N[i]? = some x) (hk : gdS sc x = true) (hc : ST S N sc c cc) (ha : SE S N sc a ca) (hn : nocomp a = true) (hb : SE S N sc b cb) (hn2 : nocomp b = true) :
    SB S N sc [.If c [.Assign [.Name x p] a pos1] [.Assign [.Name x p'] b pos2] pos] (some i) (.ite cc ca cb) := by
  intro G n so fo
  obtain ⟨tc, pc, ac⟩ := hc G n so fo
  obtain ⟨t1, p1, a1⟩ := sb_set (pos := pos1) (p := p) hN hk ha hn G n so fo
  obtain ⟨t2, p2, a2⟩ := sb_set (pos := pos2) (p := p') hN hk hb hn2 G n so fo
  refine ⟨fun W => tIfS (tc W) (t1 W) (t2 W), fun X W g tk => pss_one (ps_if (pc X W g.toGd tk) (p1 X W g tk) (p2 X W g tk)), fun W D0 σ H ι env m rs rm h => ?_⟩
  unfold evE at h
  refine ac W σ H _ ι env m rs rm (h.bind.imp fun d m1 ι1 H1 x1 rm1 h1 => ?_)
  cases d with
  | bl k =>
    refine ⟨k, rfl, ?_⟩
    cases k with
    | true => exact iteT (a1 W D0 σ H1 ι1 env m1 (rs.mono x1) rm1 h1)
    | false => exact iteF (a2 W D0 σ H1 ι1 env m1 (rs.mono x1) rm1 h1)
  | _ => exact (show False from h1).elim
theorem exc_cls {G : Gx} {ι : List Addr} {H : Hp} {c : Str} {fs : List (Str × D)} {cls : Value} {dd : Option Addr} {C : Addr} (h : EXC G ι H c fs cls dd) (hC : G.mg c = some (.ref C)) :
    cls = .ref C ∧ ∃ (d0 : Addr) (fv : List (Str × V)), dd = some d0 ∧ H d0 = some (.xd fv) ∧ fv.map (·.1) = fs.map (·.1) ∧ RVs G.K ι H (fs.map (·.2)) (fv.map (·.2)) := by
  obtain ⟨C', e1, e2, d0, fv, e3, e4, e5, e6⟩ := h
  rw [hC] at e2
  cases e2
  exact ⟨e1, d0, fv, e3, e4, e5, e6⟩
/-- the end of try, an exception met -/
theorem try_met {G : Gx} {n : Nat} {E : XK} {D0 : Ends} {σ : L2.St} {H : Hp} {ι : List Addr} {env : Sl} {m : Mu} {bo : Option Nat} {hn : Str} {cs : List Str} {i : Nat} {hd : Hd} {u : Option Nat} {W : WX} (rs : RS G ι H env σ)
    (h : Po G ι H E (evS (cl G n) G.wf (.tryE bo ce hn cs i hd u) env m) (fun r _ ι' H' => FinS G D0 r ι' H'))
    (hW : ∀ c fs m1 d ι' H', c ∈ cs → uOk u env = true → Ext G.K ι H ι' H' → hval hd c fs = some d → (∀ ι2 H2, Ext G.K ι' H' ι2 H2 → RM G.K ι2 H2 m1 → ∀ σ', RS G ι2 H2 (unsetD u (env.set i (some d))) σ' → D0.nx σ' H2) → RM G.K ι' H' m1 → ∀ cls dd, EXC G ι' H' c fs cls dd → W cls dd σ H') :
    Po G ι H (eW W σ) (evE (cl G n) ce env m) (fun d _ ι' H' => ∀ σ', RS G ι' H' (setO bo d env) σ' → D0.nx σ' H') := by
  unfold evS at h
  cases e : evE (cl G n) ce env m with
  | ok d m1 =>
    rw [e] at h
    intro ι' H' x1 rm1 σ' rs'
    exact h ι' H' x1 rm1 σ' rs'
  | no => rw [e] at h; exact h
  | ex c fs m1 =>
    rw [e] at h
    intro ι' H' x1 rm1 cls dd ex
    have h' : Po G ι H E (if decide (c ∈ cs) && uOk u env then (match hval hd c fs with | some d => .ok (.inl (unsetD u (env.set i (some d)))) m1 | none => .no) else .no : R (Sl ⊕ D)) (fun r _ ι' H' => FinS G D0 r ι' H') := h
    by_cases hcu : (decide (c ∈ cs) && uOk u env) = true
    · rw [if_pos hcu] at h'
      have hcu := Bool.and_eq_true_iff.mp hcu
      have hc := of_decide_eq_true hcu.1
      cases e2 : hval hd c fs with
      | none => rw [e2] at h'; exact (show False from h').elim
      | some d =>
        rw [e2] at h'
        exact hW c fs m1 d ι' H' hc hcu.2 x1 e2 (fun ι2 H2 x2 rm2 σ' rs' => h' ι2 H2 (x1.trans x2) rm2 σ' rs') rm1 cls dd ex
    · rw [if_neg hcu] at h'
      exact (show False from h').elim
/-- except H: x = written value -/
theorem ss_tryV {body : List Stmt} {bo : Option Nat} {hn : Str} {cs : List Str} {i : Nat} {x : Str} {d : D} {v : Expr} {np p1 p2 p3 p4 : Pos} (hb : SB S N sc body bo ce) (hsub : (hn, cs) ∈ S.sub) (hcs : ∀ c ∈ cs, ∃ fns, (c, fns) ∈ S.ecl)
    (hg : sc.names.lookup hn = some .globalImplicit) (hdb : (hn == ("__debug__" : Str)) = false) (hN : N[i]? = some x) (hk : gdS sc x = true) (hl : litB d v = true) (hnc : nocomp v = true) :
    SS S N sc (.Try body [.ExceptHandler (some (.Name hn np)) none [.Assign [.Name x p1] v p2] p3] [] [] p4) (.tryE bo ce hn cs i (.val d) none) := by
  intro G n so fo
  obtain ⟨tb, pb, ab⟩ := hb G n so fo
  obtain ⟨B, hB⟩ := so.subs _ hsub
  obtain ⟨tl, pl, al⟩ := lit_ok (K := G.K) d v hl
  refine ⟨fun E => fun D σ H => tb (wOnly G.K (.ref B) (fun _ _ _ => tAsg tl (gName i)) (wE E) D) D σ H, fun X E g tk => ?_, fun E D0 σ H ι env m rs rm h => ?_⟩
  · rw [← g.K]
    refine ps_try_only (c := .ref B) g.stk g.frm ⟨g.gl hn hg, hdb, .inl (by rw [g.mg]; exact hB)⟩ tk (fun W pn xe tk' ow => ?_) fun a oe cls d' pn hz hf => ?_
    · exact pb (X.tr pn xe) W ⟨⟨g.prog, g.wd, g.K, g.mg, g.base, g.nm, g.nd, g.kind, g.lcl, g.cel, g.free, g.gl, g.calm, g.room, g.guards⟩, ow, g.stk, g.frm⟩ tk'
    · exact pss_one (ps_set (by rw [g.nm]; exact g.nd) (by rw [g.nm]; exact hN) (hf_of g.toGd hk).1 (pl _) (nocomp_sw hnc _ _ _) (hf_of g.toGd hk).2)
  · refine ab _ D0 σ H ι env m rs rm (try_met rs h fun c fs m1 d1 ι' H' hc _ x1 e2 q rm1 cls dd ex => ?_)
    obtain ⟨fns, hm⟩ := hcs c hc
    obtain ⟨C, hC, T, hs, _⟩ := so.ecl _ hm
    obtain ⟨rfl, d0, fv, rfl, e4, e5, e6⟩ := exc_cls ex hC
    obtain ⟨B', hB', ee⟩ := hs _ hsub
    have hBB : B' = B := by
      have := hB'.symm.trans hB
      cases this; rfl
    subst hBB
    cases e2
    refine ⟨true, by rw [ee]; exact congrArg some (decide_eq_true hc), fun _ a ha => ?_, fun z => by cases z⟩
    exact al σ H' _ ι' fun H2 v2 s2 rv => q ι' H2 (.same s2) (rm1.same s2) _ ((rs.mono (x1.trans (.same s2))).set i rv)
theorem get_lookup {K : PySem.W.Frag} {ι : List Addr} {H : Hp} {f : Str} {d : D} : ∀ {fs : List (Str × D)} {fv : List (Str × V)}, fv.map (·.1) = fs.map (·.1) → RVs K ι H (fs.map (·.2)) (fv.map (·.2)) → getD' fs f = some d → ∃ v, fv.lookup f = some v ∧ RV K ι H d v
  | [], _, _, _, h => by simp [getD'] at h
  | (k, d0) :: fs, [], h, _, _ => by simp at h
  | (k, d0) :: fs, (k2, v0) :: fv, h1, h2, h => by
    simp only [List.map_cons, List.cons.injEq] at h1
    obtain ⟨e1, e2⟩ := h1
    subst e1
    simp only [List.map_cons] at h2
    cases h2 with
    | cons r rr =>
      by_cases hk : k2 = f
      · subst hk
        have : getD' ((k2, d0) :: fs) k2 = some d0 := by simp [getD']
        rw [this] at h; cases h
        exact ⟨v0, by simp [List.lookup], r⟩
      · have h' : getD' fs f = some d := by
          unfold getD' at h ⊢
          rw [List.find?_cons_of_neg (by simpa using hk)] at h
          exact h
        obtain ⟨v, l, rv⟩ := get_lookup e2 rr h'
        refine ⟨v, ?_, rv⟩
        have hb : (f == k2) = false := by simpa using Ne.symm hk
        simp [List.lookup, hb, l]
def namB (sc : Scope) : List Str → List Expr → Bool
  | [], [] => true
  | x :: xs, .Name y _ :: r => decide (x = y) && (isGlob sc y && namB sc xs r)
  | _, _ => false
def attB (ev : Str) : List Str → List Expr → Bool
  | [], [] => true
  | f :: fs, .Attribute (.Name y _) g _ :: r => decide (y = ev) && (decide (f = g) && attB ev fs r)
  | _, _ => false
/-- classes by name, as a row of values -/
theorem nam_ok {G : Gx} {C : Addr} :
    ∀ (xs : List Str) (es : List Expr), namB sc xs es = true → (∀ x ∈ xs, ∃ B : Addr, G.mg x = some (.ref B) ∧ PySem.W.kitOne G.K (.ref C) (.ref B) = some false) → ∃ (Bs : List Addr), PySem.W.kitAny G.K (.ref C) (Bs.map Value.ref) = some false ∧ xs.map G.mg = Bs.map fun B => some (Value.ref B)
  | [], es, h, _ => ⟨[], rfl, rfl⟩
  | x :: xs, es, h, hi => by
    cases es with
    | nil => simp [namB] at h
    | cons e es =>
      cases e with
      | Name y p =>
        simp only [namB, Bool.and_eq_true] at h
        obtain ⟨Bs, h1, h2⟩ := nam_ok xs es h.2.2 fun z hz => hi z (List.mem_cons_of_mem _ hz)
        obtain ⟨B, b1, b2⟩ := hi x List.mem_cons_self
        exact ⟨B :: Bs, by simp only [List.map_cons]; unfold PySem.W.kitAny; rw [b2]; exact h1, by simp only [List.map_cons, b1, h2]⟩
      | _ => simp [namB] at h
def tNams : List Addr → TA
  | [] => tNil
  | B :: Bs => tCons (tC (.ref B)) (tNams Bs)
theorem pa_namsS {G : Gx} {n : Nat} {X : Cx} {a : Addr} {pn : List (Addr × Obj)} (g : Gd G N sc n X) : ∀ (xs : List Str) (es : List Expr) (Bs : List Addr), namB sc xs es = true → xs.map G.mg = Bs.map (fun B => some (Value.ref B)) → PA (X.suite a pn) es (tNams Bs)
  | [], es, Bs, h, hm => by
    cases es with
    | nil => cases Bs with
      | nil => exact pa_nil
      | cons _ _ => simp at hm
    | cons _ _ => simp [namB] at h
  | x :: xs, es, Bs, h, hm => by
    cases es with
    | nil => simp [namB] at h
    | cons e es =>
      cases e with
      | Name y p =>
        simp only [namB, Bool.and_eq_true] at h
        have hxy := of_decide_eq_true h.1
        subst hxy
        cases Bs with
        | nil => simp at hm
        | cons B Bs =>
          simp only [List.map_cons, List.cons.injEq] at hm
          have gl := glob_ok h.2.1
          exact pa_cons (pe_glob (v := .ref B) (g.gl x gl.1) (by show X.mg _ = _; rw [g.mg]; exact hm.1) rfl gl.2) (pa_namsS g xs es Bs h.2.2 hm.2) rfl
      | _ => simp [namB] at h
theorem tNams_ok : ∀ (Bs : List Addr) (σ : L2.St) (H : Hp) (Q : List V → Hp → Prop), Q (Bs.map V.ref) H → tNams Bs σ H Q
  | [], σ, H, Q, h => h
  | B :: Bs, σ, H, Q, h => tNams_ok Bs σ H _ h
def tAtts (a : Addr) (cls : Value) (d : Option Addr) (C : Addr) (u : Nat) : List Str → TA
  | [] => tNil
  | f :: fs => tCons (tXf a cls d C f (tVar u)) (tAtts a cls d C u fs)
theorem tAtts_ok {K : PySem.W.Frag} {a C d0 : Addr} {u : Nat} {σ : L2.St} {H : Hp} {ι : List Addr} {vs : List (Str × D)} {fv : List (Str × V)} (h0 : σ[u]? = some (some (.ref a))) (hd : H d0 = some (.xd fv)) (h1 : fv.map (·.1) = vs.map (·.1)) (h2 : RVs K ι H (vs.map (·.2)) (fv.map (·.2))) :
    ∀ (fs : List Str) (ds : List D) (Q : List V → Hp → Prop), fs.mapM (fun f => getD' vs f) = some ds → (∀ ws, RVs K ι H ds ws → Q ws H) → tAtts a (.ref C) (some d0) C u fs σ H Q
  | [], ds, Q, h, q => by
    simp at h; subst h
    exact q [] .nil
  | f :: fs, ds, Q, h, q => by
    rw [mapM_cons'] at h
    cases e1 : getD' vs f with
    | none => rw [e1] at h; cases h
    | some d =>
      rw [e1] at h
      cases e2 : fs.mapM (fun f => getD' vs f) with
      | none => rw [e2] at h; cases h
      | some ds' =>
        rw [e2] at h; cases h
        obtain ⟨v, l, rv⟩ := get_lookup h1 h2 e1
        exact ⟨.ref a, h0, rfl, rfl, d0, fv, v, rfl, hd, l, tAtts_ok h0 hd h1 h2 fs ds' _ e2 fun ws rw' => q _ (.cons rv rw')⟩
theorem pa_atts {X : Cx} {a C : Addr} {oe : Obj} {cls : Value} {dd : Option Addr} {pn : List (Addr × Obj)} {u : Nat} {ev : Str} (T : XfC X.K C) (hz : Zc cls dd oe) (hf : ∃ vs, oe.data = .fields vs) (he : ∀ p, PE (X.suite a ((a, oe) :: pn)) (.Name ev p) (tVar u)) :
    ∀ (fs : List Str) (es : List Expr), attB ev fs es = true → (∀ f ∈ fs, PySem.W.findIn X.K (.ref C) f = some none) → PA (X.suite a ((a, oe) :: pn)) es (tAtts a cls dd C u fs)
  | [], es, h, _ => by
    cases es with
    | nil => exact pa_nil
    | cons _ _ => simp [attB] at h
  | f :: fs, es, h, hno => by
    cases es with
    | nil => simp [attB] at h
    | cons e es =>
      cases e with
      | Attribute o g p =>
        cases o with
        | Name y p2 =>
          simp only [attB, Bool.and_eq_true] at h
          have h1 := of_decide_eq_true h.1
          have h2 := of_decide_eq_true h.2.1
          subst h1 h2
          exact pa_cons (pe_xf T (hno f List.mem_cons_self) hz hf (he p2)) (pa_atts T hz hf he fs es h.2.2 fun z hz' => hno z (List.mem_cons_of_mem _ hz')) rfl
        | _ => simp [attB] at h
      | _ => simp [attB] at h
theorem mapM_len' {α β : Type} {f : α → Option β} : ∀ {xs : List α} {ys : List β}, xs.mapM f = some ys → ys.length = xs.length
  | [], ys, h => by simp at h; subst h; rfl
  | x :: xs, ys, h => by
    rw [mapM_cons'] at h
    cases e1 : f x with
    | none => rw [e1] at h; cases h
    | some y =>
      rw [e1] at h
      cases e2 : xs.mapM f with
      | none => rw [e2] at h; cases h
      | some zs => rw [e2] at h; cases h; simp [mapM_len' e2]
theorem iteT' {c : Bool} {A B : Prop} (hc : c = true) (h : A) : if c = true then A else B := by rw [if_pos hc]; exact h
theorem iteF' {c : Bool} {A B : Prop} (hc : c = false) (h : B) : if c = true then A else B := by rw [hc, if_neg Bool.false_ne_true]; exact h
theorem vals_refs : ∀ (Bs : List Addr) (us : List Value), Vals (Bs.map V.ref) us → us = Bs.map Value.ref
  | [], us, h => by cases h; rfl
  | B :: Bs, us, h => by
    cases h with
    | cons r rr => rw [show _ = Value.ref B from r, vals_refs Bs _ rr]; rfl
theorem rs_un {G : Gx} {ι ι' : List Addr} {H H' : Hp} {env : Sl} {σ σ' : L2.St} {i u : Nat} {d : D} {v : V} (rs : RS G ι H env σ) (x : Ext G.K ι H ι' H') (hiu : i ≠ u) (rv : RV G.K ι' H' d v) (hl : σ'.length = σ.length)
    (hi : i < σ.length → σ'[i]? = some (some v)) (ho : ∀ j, j ≠ i → j ≠ u → σ'[j]? = σ[j]?) : RS G ι' H' ((env.set i (some d)).set u none) σ' := by
  refine ⟨by simp [hl, rs.len], fun j d' e => ?_⟩
  by_cases hju : j = u
  · subst hju
    have hlt : j < (env.set i (some d)).length := by
      have := (List.getElem?_eq_some_iff.mp e).1
      simpa using this
    rw [List.getElem?_set_self hlt] at e
    cases e
  · rw [List.getElem?_set_ne (Ne.symm hju)] at e
    by_cases hji : j = i
    · subst hji
      have hlt : j < env.length := by
        have := (List.getElem?_eq_some_iff.mp e).1
        simpa using this
      rw [List.getElem?_set_self hlt] at e
      cases e
      exact ⟨v, hi (by rw [← rs.len]; exact hlt), rv⟩
    · rw [List.getElem?_set_ne (Ne.symm hji)] at e
      obtain ⟨w, e2, r2⟩ := rs.at_ j d' e
      exact ⟨w, by rw [ho j hji hju]; exact e2, r2.mono x⟩
theorem set_at' {α : Type} {l : List (Option α)} {i j : Nat} {v : α} (hne : i ≠ j) (h : j < l.length) (x : α) : ((l.set j (some x)).set i (some v))[j]? = some (some x) := by
  rw [List.getElem?_set_ne hne, List.getElem?_set_self h]
theorem ss_tryO {body : List Stmt} {bo : Option Nat} {hn ev c1 x : Str} {cs no fs fns1 : List Str} {i u : Nat} {k0 : D} {v0 : Expr} {attrs nos : List Expr} {kt kk k6 : Nat} {np p1 p2 p3 p4 p5 p6 p7 p8 p9 p10 q1 q2 r1 r2 r3 r4 r5 r6 r7 r8 r9 r10 r11 r12 : Pos}
    (hb : SB S N sc body bo ce) (hsub : (hn, cs) ∈ S.sub) (hcs : ∀ c ∈ cs, ∃ fns, (c, fns) ∈ S.ecl) (hc1 : (c1, fns1) ∈ S.ecl) (hi1 : c1 ∈ S.icl) (hno : ∀ y ∈ no, y ∈ S.icl) (hn1 : c1 ∉ no) (hfs : ∀ f ∈ fs, f ∈ fns1) (hfl : fs.length ≤ 100)
    (hg : sc.names.lookup hn = some .globalImplicit) (hdb : (hn == ("__debug__" : Str)) = false) (hN : N[i]? = some x) (hk : gdS sc x = true) (hNu : N[u]? = some ev) (hku : sc.names.lookup ev = some .local) (hev : plainN ev = true) (hiu : i ≠ u) (hl : litB k0 v0 = true) (hnc : nocomp v0 = true)
    (hgi : sc.names.lookup ("isinstance" : Str) = some .globalImplicit) (hni : ("isinstance" : Str) ∈ S.nones) (hgv : sc.names.lookup ("ValueError" : Str) = some .globalImplicit) (hnv : ("ValueError" : Str) ∈ S.nones)
    (hg1 : sc.names.lookup c1 = some .globalImplicit) (hd1 : (c1 == ("__debug__" : Str)) = false) (hnl : no.length ≤ 100) (hnos : namB sc no nos = true) (hat : attB ev fs attrs = true) :
    SS S N sc (.Try body [.ExceptHandler (some (.Name hn np)) (some ev) [.Assign [.Name x p1] v0 p2,
      .If (.BoolOp .And [.Call (.Name "isinstance" r1) [.Name ev r2, .Name c1 r3] [] r4, .Call (.Name "isinstance" r5) [.Name ev r6, .Name "ValueError" r7] [] r8] q1)
        [.If (.UnaryOp .Not (.Call (.Name "isinstance" r9) [.Name ev r10, .Tuple nos kt r11] [] r12) q2) [.Assign [.Name x p5] (.Tuple (.Constant (.str "refused") k6 p6 :: attrs) kk p7) p8] [] p9] [] p10] p3] [] [] p4)
      (.tryE bo ce hn cs i (.own k0 c1 no fs) (some u)) := by
  intro G n so fo
  obtain ⟨tb, pb, ab⟩ := hb G n so fo
  obtain ⟨B, hB⟩ := so.subs _ hsub
  obtain ⟨tl, pl, al⟩ := lit_ok (K := G.K) k0 v0 hl
  obtain ⟨C1, hC1, T1, _, hk1⟩ := so.ecl _ hc1
  obtain ⟨Bs, hB1, hB2⟩ := nam_ok (sc := sc) (G := G) (C := C1) no nos hnos fun y hy => by
    obtain ⟨B, b1, b2⟩ := hk1 y (hno y hy)
    exact ⟨B, b1, by rw [b2]; exact congrArg some (decide_eq_false fun z => hn1 (by rw [show c1 = y from z]; exact hy))⟩
  let tI : Addr → Value → Option Addr → TA → TT := fun a cls dd ta => tB (tCB (rIsExc G.K a cls dd) (tCons (tVar u) ta))
  let ts : Addr → Value → Option Addr → TS := fun a cls dd => tSeq (tAsg tl (gName i)) (tIfS (tAnd (tI a cls dd (tCons (tC (.ref C1)) tNil)) (tI a cls dd (tCons (tC (.ty "ValueError")) tNil)))
    (tIfS (tNot (tI a cls dd (tCons (tTup (tNams Bs)) tNil))) (tAsg (tTup (tCons (tC (.str "refused")) (tAtts a cls dd C1 u fs))) (gName i)) tNext) tNext)
  refine ⟨fun E => fun D σ H => tb (wAs G.K (.ref B) u ts (wE E) D) D σ H, fun X E g tk => ?_, fun E D0 σ H ι env m rs rm h => ?_⟩
  · have hK := g.K
    rw [← hK]
    have pv := Bool.and_eq_true_iff.mp hev
    refine ps_try_as (c := .ref B) (ts := ts) g.stk g.frm (by rw [g.nm]; exact g.nd) (by rw [g.nm]; exact hNu) (g.lcl ev hku) ⟨g.gl hn hg, hdb, .inl (by rw [g.mg]; exact hB)⟩ tk (fun W pn xe tk' ow => ?_) fun a oe cls d' pn hz hf => ?_
    · exact pb (X.tr pn xe) W ⟨⟨g.prog, g.wd, g.K, g.mg, g.base, g.nm, g.nd, g.kind, g.lcl, g.cel, g.free, g.gl, g.calm, g.room, g.guards⟩, ow, g.stk, g.frm⟩ tk'
    · have hev : ∀ p, PE (X.suite a ((a, oe) :: pn)) (.Name ev p) (tVar u) := fun p => pe_var (by show X.N[u]? = _; rw [g.nm]; exact hNu) (.inl (g.lcl ev hku)) (by simpa using pv.1) (by simpa using pv.2)
      have his : ∀ {e2 : Expr} {te : TE} {pa pb2 pc : Pos}, PE (X.suite a ((a, oe) :: pn)) e2 te → simple e2 = true → PT (X.suite a ((a, oe) :: pn)) (.Call (.Name "isinstance" pa) [.Name ev pb2, e2] [] pc) (tI a cls d' (tCons te tNil)) := by
        intro e2 te pa pb2 pc h2 hs2
        refine pt_val (pe_callB (by rw [← hK]; exact call_isX hz hf) (g.gl _ hgi) (by show X.mg _ = none; rw [g.mg]; exact so.nones _ hni) (by decide +kernel) (pa_cons (hev pb2) (pa_cons h2 pa_nil (simple_star hs2 _ X.env)) rfl) (by decide) (by decide) rfl (backTo_plain fun e he => ?_)) (tplain_true rfl X.env)
        rcases List.mem_cons.mp he with rfl | he
        · exact hs2
        · cases he
      have hset : ∀ {v : Expr} {te : TE} {pa pb2 : Pos}, PE (X.suite a ((a, oe) :: pn)) v te → nocomp v = true → PS (X.suite a ((a, oe) :: pn)) (.Assign [.Name x pa] v pb2) (tAsg te (gName i)) := fun hv hc => ps_set (by show X.N.Nodup; rw [g.nm]; exact g.nd) (by show X.N[i]? = _; rw [g.nm]; exact hN) (hf_of g.toGd hk).1 hv (nocomp_sw hc _ _ _) (hf_of g.toGd hk).2
      have gS : Gd G N sc n (X.suite a ((a, oe) :: pn)) → True := fun _ => trivial
      have pnams : PA (X.suite a ((a, oe) :: pn)) nos (tNams Bs) := pa_namsS g.toGd no nos Bs hnos hB2
      refine pss_cons (hset (pl _) hnc) (pss_one (ps_if (pw_and (his (pe_glob (v := .ref C1) (g.gl c1 hg1) (by show X.mg _ = _; rw [g.mg]; exact hC1) rfl hd1) rfl) (pw_and1 (his (pe_bltn (v := .ty "ValueError") (g.gl _ hgv) (by show X.mg _ = none; rw [g.mg]; exact so.nones _ hnv) (by decide +kernel) rfl (by decide) (by decide)) rfl))).pt
        (pss_one (ps_if (pt_not (his (pe_tup pnams) rfl)) (pss_one (hset (pe_tup (pa_cons pe_str (pa_atts (by rw [hK]; exact T1.xf) hz hf hev fs attrs hat fun f hf' => by rw [hK]; exact T1.no f (hfs f hf')) rfl)) rfl)) pss_nil)) pss_nil))
  · refine ab _ D0 σ H ι env m rs rm (try_met rs h fun c fs' m1 d1 ι' H' hc huo x1 e2 q rm1 cls dd ex => ?_)
    obtain ⟨fns, hm⟩ := hcs c hc
    obtain ⟨C, hC, T, hs, hks⟩ := so.ecl _ hm
    obtain ⟨rfl, d0, fv, rfl, e4, e5, e6⟩ := exc_cls ex hC
    obtain ⟨B', hB', ee⟩ := hs _ hsub
    have hBB : B' = B := by
      have := hB'.symm.trans hB
      cases this; rfl
    subst hBB
    obtain ⟨B1, hB1', ek⟩ := hks c1 hi1
    have hBC : B1 = C1 := by
      have := hB1'.symm.trans hC1
      cases this; rfl
    subst hBC
    have hul : u < σ.length := by
      rw [← rs.len]
      exact of_decide_eq_true (show decide (u < env.length) = true from huo)
    have kit : KitC G.K C := ⟨T.xf, T.cl, T.ca, T.cn, T.ct, T.cm⟩
    refine ⟨true, by rw [ee]; exact congrArg some (decide_eq_true hc), fun _ a ha => ?_, fun z => by cases z⟩
    refine al _ H' _ ι' fun H2 v2 s2 rv => ?_
    have hd2 : H2 d0 = some (.xd fv) := s2 _ _ e4
    have hu2 : ((σ.set u (some (V.ref a))).set i (some v2))[u]? = some (some (V.ref a)) := set_at' hiu hul _
    refine ⟨.ref a, hu2, C, d0, fv, decide (c = c1), rfl, rfl, hd2, kit, .inl ⟨.ref B1, .ref B1, rfl, fun u hu => hu, ek⟩, decide (c = c1), rfl, ?_⟩
    by_cases hcc : c = c1
    · subst hcc
      have hCC : C = B1 := by
        have := hC.symm.trans hC1
        cases this; rfl
      subst hCC
      refine iteT' (decide_eq_true rfl) ?_
      refine ⟨.ref a, hu2, C, d0, fv, true, rfl, rfl, hd2, kit, .inl ⟨.ty "ValueError", .type "ValueError", rfl, fun u hu => hu, T.ve⟩, true, rfl, ?_⟩
      refine iteT ?_
      refine ⟨.ref a, hu2, tNams_ok Bs _ _ _ ⟨?_, fun p hp => ?_⟩⟩
      · rw [List.length_map, sizeLine_eq]
        have h1 := congrArg List.length hB2
        rw [List.length_map, List.length_map] at h1
        omega
      · have hdp : d0 ≠ p := fun z => by rw [z, hp] at hd2; cases hd2
        have hd3 : upd H2 p (.tup (Bs.map V.ref)) d0 = some (.xd fv) := by rw [upd_ne hdp]; exact hd2
        refine ⟨C, d0, fv, false, rfl, rfl, hd3, kit, .inr ⟨p, Bs.map V.ref, Bs.map Value.ref, rfl, upd_same, fun us h => vals_refs Bs us h, hB1⟩, false, rfl, ?_⟩
        refine iteT ?_
        have hv : (if decide (c = c) then (fs.mapM fun f => getD' fs' f).map fun ds => D.tup (.str "refused" :: ds) else some k0) = some d1 := e2
        rw [if_pos (decide_eq_true rfl)] at hv
        cases e7 : fs.mapM (fun f => getD' fs' f) with
        | none => rw [e7] at hv; cases hv
        | some ds =>
          rw [e7] at hv
          cases hv
          have sx : Same H' (upd H2 p (.tup (Bs.map V.ref))) := same_trans s2 (same_upd hp)
          refine tAtts_ok (ι := ι') hu2 hd3 e5 (e6.mono (.same sx)) fs ds _ e7 fun ws rw' => ⟨?_, fun p2 hp2 => ?_⟩
          · rw [sizeLine_eq, List.length_cons, ← rw'.length, mapM_len' e7]
            omega
          · have sy := same_trans sx (same_upd (o := .tup (V.str "refused" :: ws)) hp2)
            refine q ι' _ (.same sy) (rm1.same sy) _ (rs_un rs (x1.trans (.same sy)) hiu (.newT hp2 (.cons (.str _) rw')) (by simp) (fun hi => ?_) fun j hj1 hj2 => ?_)
            · rw [List.getElem?_set_ne (Ne.symm hiu), List.getElem?_set_self (by simpa using hi)]
            · rw [List.getElem?_set_ne (Ne.symm hj2), List.getElem?_set_ne (Ne.symm hj1), List.getElem?_set_ne (Ne.symm hj1), List.getElem?_set_ne (Ne.symm hj2)]
    · have hv : (if decide (c = c1) then (fs.mapM fun f => getD' fs' f).map fun ds => D.tup (.str "refused" :: ds) else some k0) = some d1 := e2
      rw [if_neg (by simpa using hcc)] at hv
      cases hv
      refine iteF' (decide_eq_false hcc) ?_
      refine iteF ?_
      refine q ι' _ (.same s2) (rm1.same s2) _ (rs_un rs (x1.trans (.same s2)) hiu rv (by simp) (fun hi => ?_) fun j hj1 hj2 => ?_)
      · rw [List.getElem?_set_ne (Ne.symm hiu), List.getElem?_set_self (by simpa using hi)]
      · rw [List.getElem?_set_ne (Ne.symm hj2), List.getElem?_set_ne (Ne.symm hj1), List.getElem?_set_ne (Ne.symm hj2)]
end
section
variable (S : Sig) (N : List Str)
def eclB (c : Str) (fn : List Str) : Bool := S.ecl.any fun p => decide (p.1 = c) && decide (p.2 = fn)
def subsB (h : Str) (cs : List Str) : Bool := (S.sub.any fun q => decide (q.1 = h) && decide (q.2 = cs)) && cs.all fun c => S.ecl.any fun p => decide (p.1 = c)
def bodyB (sc : Scope) (b : Option Nat) (e : CE) (body : List Stmt) : Bool :=
  match b, body with
  | some i, [.Assign [.Name x _] v _] => (decide (N[i]? = some x) && gdS sc x) && (chk S N e false sc v && nocomp v)
  | none, [.Expr v _] => chk S N e false sc v && nocomp v
  | some i, [.If c [.Assign [.Name x _] a _] [.Assign [.Name y _] b _] _] => match e with
    | .ite cc ca cb => ((decide (N[i]? = some x) && gdS sc x) && (decide (x = y) && chk S N cc true sc c)) && ((chk S N ca false sc a && nocomp a) && (chk S N cb false sc b && nocomp b))
    | _ => false
  | _, _ => false
def hdB (sc : Scope) (i : Nat) (hd : Hd) (u : Option Nat) (on : Option Str) (suite : List Stmt) : Bool :=
  match hd, u, on, suite with
  | .val d, none, none, [.Assign [.Name x _] v _] => (decide (N[i]? = some x) && gdS sc x) && (litB d v && nocomp v)
  | .own k0 c1 no fs, some u, some ev, [.Assign [.Name x _] v0 _, .If (.BoolOp .And [.Call (.Name n1 _) [.Name e1 _, .Name cc _] [] _, .Call (.Name n2 _) [.Name e2 _, .Name vv _] [] _] _)
        [.If (.UnaryOp .Not (.Call (.Name n3 _) [.Name e3 _, .Tuple nos _ _] [] _) _) [.Assign [.Name x2 _] (.Tuple (.Constant (.str rf) _ _ :: attrs) _ _) _] [] _] [] _] =>
    ((decide (N[i]? = some x) && (gdS sc x && decide (x2 = x))) && (decide (N[u]? = some ev) && (isKind sc ev .local && (plainN ev && !decide (i = u))))) &&
    (((decide (n1 = "isinstance") && (decide (n2 = "isinstance") && decide (n3 = "isinstance"))) && (decide (e1 = ev) && (decide (e2 = ev) && decide (e3 = ev)))) &&
    (((decide (cc = c1) && (decide (vv = "ValueError") && decide (rf = "refused"))) && (litB k0 v0 && nocomp v0)) &&
    (((isGlob sc "isinstance" && hasNone S "isinstance") && ((isGlob sc "ValueError" && hasNone S "ValueError") && isGlob sc c1)) &&
    (((decide (no.length ≤ 100) && namB sc no nos) && (decide (fs.length ≤ 100) && attB ev fs attrs)) &&
    ((decide (c1 ∈ S.icl) && ((no.all fun y => decide (y ∈ S.icl)) && !decide (c1 ∈ no))) && (S.ecl.any fun p => decide (p.1 = c1) && fs.all fun f => decide (f ∈ p.2)))))))
  | _, _, _, _ => false
def raiseB (sc : Scope) (c : Str) (fn : List Str) (es : CEs) (st : Stmt) : Bool :=
  match st with
  | .Raise (some (.Call (.Name x _) (y :: ys) [] _)) none _ => (decide (x = c) && (isGlob sc c && eclB S c fn)) && (argsB (y :: ys) && chkEs S N es sc (y :: ys))
  | _ => false
def tryB (sc : Scope) (b : Option Nat) (e : CE) (h : Str) (cs : List Str) (i : Nat) (hd : Hd) (u : Option Nat) (st : Stmt) : Bool :=
  match st with
  | .Try body [.ExceptHandler (some (.Name hn _)) on suite _] [] [] _ => (decide (hn = h) && (isGlob sc h && subsB S h cs)) && (bodyB S N sc b e body && hdB S N sc i hd u on suite)
  | _ => false
end
section
variable {S : Sig} {N : List Str}
theorem eclB_ok {c : Str} {fn : List Str} (h : eclB S c fn = true) : (c, fn) ∈ S.ecl := by
  obtain ⟨⟨a, b⟩, h1, h2⟩ := List.any_eq_true.mp h
  have z := Bool.and_eq_true_iff.mp h2
  have e1 : a = c := of_decide_eq_true z.1
  have e2 : b = fn := of_decide_eq_true z.2
  rw [← e1, ← e2]; exact h1
theorem subsB_ok {h : Str} {cs : List Str} (hh : subsB S h cs = true) : (h, cs) ∈ S.sub ∧ ∀ c ∈ cs, ∃ fns, (c, fns) ∈ S.ecl := by
  have z := Bool.and_eq_true_iff.mp hh
  constructor
  · obtain ⟨⟨a, b⟩, h1, h2⟩ := List.any_eq_true.mp z.1
    have z := Bool.and_eq_true_iff.mp h2
    have e1 : a = h := of_decide_eq_true z.1
    have e2 : b = cs := of_decide_eq_true z.2
    rw [← e1, ← e2]; exact h1
  · intro c hc
    obtain ⟨⟨a, b⟩, h1, h2⟩ := List.any_eq_true.mp (List.all_eq_true.mp z.2 c hc)
    have e1 : a = c := of_decide_eq_true h2
    exact ⟨b, e1 ▸ h1⟩
theorem bodyB_ok {sc : Scope} {b : Option Nat} {e : CE} {body : List Stmt} (h : bodyB S N sc b e body = true) : SB S N sc body b e := by
  unfold bodyB at h
  split at h
  · have z := Bool.and_eq_true_iff.mp h
    have z1 := Bool.and_eq_true_iff.mp z.1
    have z2 := Bool.and_eq_true_iff.mp z.2
    exact sb_set (of_decide_eq_true z1.1) z1.2 (chk_ok _ false _ _ z2.1) z2.2
  · have z := Bool.and_eq_true_iff.mp h
    exact sb_ex (chk_ok _ false _ _ z.1) z.2
  · split at h
    · have z := Bool.and_eq_true_iff.mp h
      have z1 := Bool.and_eq_true_iff.mp z.1
      have z2 := Bool.and_eq_true_iff.mp z.2
      have y1 := Bool.and_eq_true_iff.mp z1.1
      have y2 := Bool.and_eq_true_iff.mp z1.2
      have y3 := Bool.and_eq_true_iff.mp z2.1
      have y4 := Bool.and_eq_true_iff.mp z2.2
      obtain rfl := of_decide_eq_true y2.1
      exact sb_if (of_decide_eq_true y1.1) y1.2 (chk_ok _ true _ _ y2.2).1 (chk_ok _ false _ _ y3.1) y3.2 (chk_ok _ false _ _ y4.1) y4.2
    · cases h
  · cases h
theorem raiseB_ok {sc : Scope} {c : Str} {fn : List Str} {es : CEs} {st : Stmt} (h : raiseB S N sc c fn es st = true) : SS S N sc st (.raise c fn es) := by
  unfold raiseB at h
  split at h
  · have z := Bool.and_eq_true_iff.mp h
    have z1 := Bool.and_eq_true_iff.mp z.1
    have z2 := Bool.and_eq_true_iff.mp z1.2
    have z3 := Bool.and_eq_true_iff.mp z.2
    obtain rfl := of_decide_eq_true z1.1
    have g := glob_ok z2.1
    have ha := List.all_eq_true.mp (show argsB _ = true from z3.1)
    exact ss_raise (eclB_ok z2.2) g.1 g.2 (ses_of (chkEs_ok _ _ _ z3.2) z3.1) (ha _ List.mem_cons_self) fun e he => ha e (List.mem_cons_of_mem _ he)
  · cases h
theorem tryB_ok {sc : Scope} {b : Option Nat} {e : CE} {h : Str} {cs : List Str} {i : Nat} {hd : Hd} {u : Option Nat} {st : Stmt} (hh : tryB S N sc b e h cs i hd u st = true) : SS S N sc st (.tryE b e h cs i hd u) := by
  unfold tryB at hh
  split at hh
  · have z := Bool.and_eq_true_iff.mp hh
    have z1 := Bool.and_eq_true_iff.mp z.1
    have z2 := Bool.and_eq_true_iff.mp z1.2
    have z3 := Bool.and_eq_true_iff.mp z.2
    obtain rfl := of_decide_eq_true z1.1
    have g := glob_ok z2.1
    obtain ⟨hs1, hs2⟩ := subsB_ok z2.2
    have hb := bodyB_ok z3.1
    have hq := z3.2
    unfold hdB at hq
    split at hq
    · have y := Bool.and_eq_true_iff.mp hq
      have y1 := Bool.and_eq_true_iff.mp y.1
      have y2 := Bool.and_eq_true_iff.mp y.2
      exact ss_tryV hb hs1 hs2 g.1 g.2 (of_decide_eq_true y1.1) y1.2 y2.1 y2.2
    · rename_i k0 c1 no fs u ev x p1 v0 p2 n1 p3 e1 p4 cc p5 p6 n2 p7 e2 p8 vv p9 p10 p11 n3 p12 e3 p13 nos kt p14 p15 p16 x2 p17 rf k6 p18 attrs kk p19 p20 p21 p22
      simp only [Bool.and_eq_true, decide_eq_true_eq, Bool.not_eq_true', decide_eq_false_iff_not] at hq
      obtain ⟨⟨⟨a1, a2, rfl⟩, a3, a4, a5, a6⟩, ⟨⟨rfl, rfl, rfl⟩, rfl, rfl, rfl⟩, ⟨⟨rfl, rfl, rfl⟩, b1, b2⟩, ⟨⟨c2, c3⟩, ⟨c4, c5⟩, c6⟩, ⟨⟨d1, d2⟩, d3, d4⟩, ⟨f1, f2, f3⟩, f4⟩ := hq
      obtain ⟨⟨c1', fns1⟩, h1, h2⟩ := List.any_eq_true.mp f4
      simp only [Bool.and_eq_true, decide_eq_true_eq] at h2
      obtain ⟨rfl, h3⟩ := h2
      have g1 := glob_ok c2
      have g2 := glob_ok c4
      have g3 := glob_ok c6
      exact ss_tryO hb hs1 hs2 h1 f1 (fun y hy => of_decide_eq_true (List.all_eq_true.mp f2 y hy)) f3 (fun f hf => of_decide_eq_true (List.all_eq_true.mp h3 f hf)) d3 g.1 g.2 a1 a2 a3 (of_decide_eq_true a4) a5 a6 b1 b2 g1.1 (of_decide_eq_true c3) g2.1 (of_decide_eq_true c5) g3.1 g3.2 d1 d2 d4
    · cases hq
  · cases hh
end
end Mn
end

section
set_option Elab.async false
set_option linter.all false
set_option maxRecDepth 100000
set_option autoImplicit false
set_option maxHeartbeats 4000000
namespace Mn
open PySem PySem.Spec PyProof.Rows L2
section
variable (S : Sig) (N : List Str)
/-- a tuple of targets that is stored left to right -/
def ltrB (sc : Scope) (ts : List Expr) (v : Expr) : Bool :=
  match v with
  | .Tuple vs _ _ => vs.all (foldedForSure 8) || ts.any fun | .Name x _ => isKind sc x .cell | _ => false
  | _ => true
theorem filterMap_lt {α β : Type} {f : α → Option β} : ∀ {xs : List α} {x : α}, x ∈ xs → f x = none → (xs.filterMap f).length < xs.length
  | y :: ys, x, h, e => by
    rcases List.mem_cons.mp h with rfl | h
    · rw [List.filterMap_cons, e]
      exact Nat.lt_succ_of_le (List.length_filterMap_le f ys)
    · have ih := filterMap_lt h e
      rw [List.filterMap_cons]
      split
      · exact Nat.lt_succ_of_lt ih
      · exact Nat.succ_lt_succ ih
theorem ltrB_ok {sc : Scope} {ts : List Expr} {v : Expr} {k : Nat} {pt : Pos} (h : ltrB sc ts v = true) (env : PySem.Env) (hc : ∀ x, sc.names.lookup x = some .cell → env.kindOf x = some .cell) : swappedStores [.Tuple ts k pt] v env = pure none := by
  unfold ltrB at h
  split at h
  · rename_i vs k2 p2
    unfold swappedStores
    simp only [pure_bind]
    generalize hA : (!(ts.length == 2 || ts.length == 3) || vs.length != ts.length || env.blockKind != .function) = A
    cases A with
    | true => rfl
    | false =>
      generalize hB : (vs.any fun | .Starred .. => true | _ => false) = B
      cases B with
      | true => rfl
      | false =>
        simp only [Bool.false_eq_true, if_false, pure_bind]
        generalize hn : List.filterMap _ ts = names
        generalize hC : (names.length != ts.length || names.eraseDups.length != names.length) = C
        cases C with
        | true => rfl
        | false =>
          simp only [Bool.false_eq_true, if_false, pure_bind]
          rcases Bool.or_eq_true_iff.mp h with z | z
          · rw [if_pos z]
          · obtain ⟨e, he, hq⟩ := List.any_eq_true.mp z
            exfalso
            cases e with
            | Name x p =>
              have hk := hc x (of_decide_eq_true hq)
              have hl : names.length < ts.length := by
                rw [← hn]
                refine filterMap_lt he ?_
                simp only [hk]
                rfl
              have h1 := (Bool.or_eq_false_iff.mp hC).1
              have h2 : names.length = ts.length := by simpa using h1
              omega
            | _ => cases hq
  · unfold swappedStores
    cases v <;> first | rfl | (rename_i hne; exact (hne _ _ _ rfl).elim)
def starB : Expr → Bool
  | .Starred .. => true
  | _ => false
theorem star_not {a : Expr} (h : simple a = true) : starB a = false := by
  cases a <;> first | rfl | cases h
/-- a pair of local names, stored from the right -/
def rtlB (x y : Str) (px py : Pos) (a b : Expr) : Bool :=
  (!(x == y) && (px.line == py.line)) && ((simple a && simple b) && (!(foldedForSure 8 a && foldedForSure 8 b) && !(constantsAlone 8 a && constantsAlone 8 b)))
theorem rtlB_ok {x y : Str} {px py pt pt2 : Pos} {kt k2 : Nat} {a b : Expr} (h : rtlB x y px py a b = true) (env : PySem.Env) (h1 : env.scope.kind = .function) (h2 : env.kindOf x = some .local) (h3 : env.kindOf y = some .local) :
    swappedStores [.Tuple [.Name x px, .Name y py] kt pt] (.Tuple [a, b] k2 pt2) env = pure (some [x, y]) := by
  unfold rtlB at h
  have z := Bool.and_eq_true_iff.mp h
  have z1 := Bool.and_eq_true_iff.mp z.1
  have z2 := Bool.and_eq_true_iff.mp z.2
  have z3 := Bool.and_eq_true_iff.mp z2.1
  have z4 := Bool.and_eq_true_iff.mp z2.2
  have n1 : (x == y) = false := by simpa using z1.1
  have n2 : (py.line == px.line) = true := by
    have := eq_of_beq z1.2
    rw [this]; exact beq_self_eq_true _
  have hb : env.blockKind = .function := by unfold Env.blockKind; rw [h1]; rfl
  have f1 : (foldedForSure 8 a && foldedForSure 8 b) = false := by revert z4; cases (foldedForSure 8 a && foldedForSure 8 b) <;> simp
  have f2 : (constantsAlone 8 a && constantsAlone 8 b) = false := by revert z4; cases (constantsAlone 8 a && constantsAlone 8 b) <;> simp
  have kl : (some NameKind.local == some NameKind.local) = true := by decide
  have l1 : ((Expr.Name x px).pos.line) = px.line := rfl
  have hb2 : (env.blockKind != ScopeKind.function) = false := by rw [hb]; decide
  have yx : (y == x) = false := by
    cases e : y == x with
    | false => rfl
    | true => rw [eq_of_beq e] at n1; simp at n1
  unfold swappedStores
  simp only [pure_bind, List.length_cons, List.length_nil, hb2, List.any_cons, List.any_nil, List.head?_cons, Option.map_some, Option.getD_some, List.filterMap_cons, List.filterMap_nil, h2, h3, l1, kl, n2, beq_self_eq_true, Bool.and_self, if_true, List.all_cons, List.all_nil, Bool.and_true, f1, f2]
  rw [if_neg (by decide), if_neg (fun hh => by
    rcases Bool.or_eq_true_iff.mp hh with q | q
    · exact Bool.noConfusion ((star_not z3.1).symm.trans (show starB a = true from q))
    · rcases Bool.or_eq_true_iff.mp q with q | q
      · exact Bool.noConfusion ((star_not z3.2).symm.trans (show starB b = true from q))
      · cases q), if_neg (by simp [List.eraseDups_cons, yx]), if_neg (by decide), if_neg (by decide)]

def isTup : Expr → Bool
  | .Tuple .. => true
  | _ => false
mutual
def chkS : CS → Scope → Stmt → Bool
  | .no, _, _ => true
  | .asg t e, sc, st => match st with
    | .Assign [.Name x p] v _ =>
      match t with
      | .name i => decide (N[i]? = some x) && (match nocomp v with
        | true => gdS sc x && chk S N e false sc v
        | false => (isKind sc x .cell && chk S N e false sc v) || (match v with
          | .ListComp y [⟨tgE, itE, ifs, 0⟩] scope pos => isKind sc x .local && ((p.line == pos.line) && (!(scope.names.any fun (n, k) => n == x && (k == .local || k == .cell)) && (match e with
            | .comp it tg own c e0 => (blkC N sc scope (ownOf N own) && (simple itE && (tgB N scope tg tgE && subB tg own))) && (chkI S N it sc tgE itE && (chkC S N c scope ifs && chk S N e0 false scope y))
            | _ => false)))
          | _ => false))
      | _ => false
    | .Assign [.Tuple ts _ _] v _ =>
      match t with
      | .names is => (namesB N sc is ts && (nocomp v && ltrB sc ts v)) && chk S N e false sc v
      | _ => false
    | .Assign [.Subscript x y _] v _ =>
      match t with
      | .sub o i => simple y && (chk S N o false sc x && (chk S N i false sc y && chk S N e false sc v))
      | _ => false
    | _ => false
  | .par i j a b, sc, st => match st with
    | .Assign [.Tuple [.Name x px, .Name y py] _ _] (.Tuple [va, vb] _ _) _ =>
      (decide (N[i]? = some x) && (decide (N[j]? = some y) && !decide (i = j))) && ((isKind sc x .local && isKind sc y .local) && (rtlB x y px py va vb && (chk S N a false sc va && chk S N b false sc vb)))
    | _ => false
  | .ex e, sc, st => match st with | .Expr v _ => nocomp v && chk S N e false sc v | _ => false
  | .ret e, sc, st => match st with | .Return (some v) _ => chk S N e false sc v | _ => false
  | .retN, sc, st => match st with | .Return none _ => true | _ => false
  | .pass, sc, st => match st with | .Pass _ => true | _ => false
  | .ite c t f, sc, st => match st with | .If x p q _ => chk S N c true sc x && (chkSs t sc p && chkSs f sc q) | _ => false
  | .whl c b, sc, st => match st with | .While x p [] _ => chk S N c true sc x && chkSs b sc p | _ => false
  | .raise c fn es, sc, st => raiseB S N sc c fn es st
  | .tryE b e h cs i hd u, sc, st => tryB S N sc b e h cs i hd u st
  | .for_ it t b, sc, st => match st with | .For tg e p [] _ => (simple e && tgB N sc t tg) && (chkI S N it sc tg e && chkSs b sc p) | _ => false
def chkSs : CSs → Scope → List Stmt → Bool
  | .nil, _, sts => match sts with | [] => true | _ => false
  | .cons s ss, sc, sts => match sts with | st :: sts => chkS s sc st && chkSs ss sc sts | _ => false
end
variable {S N}
mutual
theorem chkS_ok : ∀ (s : CS) (sc : Scope) (st : Stmt), chkS S N s sc st = true → SS S N sc st s
  | .no, sc, st, h => ss_no
  | .asg t e, sc, st, h => by
    unfold chkS at h
    split at h
    · split at h
      · have z := Bool.and_eq_true_iff.mp h
        have hN := of_decide_eq_true z.1
        have z2 := z.2
        split at z2
        · rename_i hn
          have z3 := Bool.and_eq_true_iff.mp z2
          exact ss_set hN z3.1 (chk_ok _ false _ _ z3.2) hn
        · rcases Bool.or_eq_true_iff.mp z2 with q | q
          · have z3 := Bool.and_eq_true_iff.mp q
            exact ss_setC hN (of_decide_eq_true z3.1) (chk_ok _ false _ _ z3.2)
          · split at q
            · have z3 := Bool.and_eq_true_iff.mp q
              have z4 := Bool.and_eq_true_iff.mp z3.2
              have z5 := Bool.and_eq_true_iff.mp z4.2
              have z6 := z5.2
              split at z6
              · rename_i it tg own c e0
                have y := Bool.and_eq_true_iff.mp z6
                have y1 := Bool.and_eq_true_iff.mp y.1
                have y2 := Bool.and_eq_true_iff.mp y1.2
                have y3 := Bool.and_eq_true_iff.mp y2.2
                have y4 := Bool.and_eq_true_iff.mp y.2
                have y5 := Bool.and_eq_true_iff.mp y4.2
                rw [show CE.comp it tg own c e0 = CE.comp it tg ((ownOf N own).map (·.2)) c e0 from by rw [ownOf_map]]
                exact ss_setL hN (of_decide_eq_true z3.1) z4.1 (by simpa using z5.1) (chkI_ok it sc _ _ y4.1) y1.1 (tgB_ok y3.1) (by rw [ownOf_map]; exact subB_ok y3.2) (chkC_ok c _ _ y5.1) (chk_ok e0 false _ _ y5.2) y2.1
              · cases z6
            · cases q
      · cases h
    · split at h
      · have z := Bool.and_eq_true_iff.mp h
        have z1 := Bool.and_eq_true_iff.mp z.1
        have z2 := Bool.and_eq_true_iff.mp z1.2
        exact ss_names (namesB_ok z1.1) (chk_ok _ false _ _ z.2) z2.1 (ltrB_ok z2.2)
      · cases h
    · split at h
      · have z := Bool.and_eq_true_iff.mp h
        have z1 := Bool.and_eq_true_iff.mp z.2
        have z2 := Bool.and_eq_true_iff.mp z1.2
        exact ss_sub (chk_ok _ false _ _ z1.1) (chk_ok _ false _ _ z2.1) (chk_ok _ false _ _ z2.2) z.1
      · cases h
    · cases h
  | .par i j a b, sc, st, h => by
    unfold chkS at h
    split at h
    · have z := Bool.and_eq_true_iff.mp h
      have z1 := Bool.and_eq_true_iff.mp z.1
      have z2 := Bool.and_eq_true_iff.mp z1.2
      have z3 := Bool.and_eq_true_iff.mp z.2
      have z4 := Bool.and_eq_true_iff.mp z3.1
      have z5 := Bool.and_eq_true_iff.mp z3.2
      have z6 := Bool.and_eq_true_iff.mp z5.2
      have z7 := z5.1
      unfold rtlB at z7
      have z7 := Bool.and_eq_true_iff.mp z7
      have z8 := Bool.and_eq_true_iff.mp (Bool.and_eq_true_iff.mp z7.2).1
      exact ss_par (of_decide_eq_true z1.1) (of_decide_eq_true z2.1) (by simpa using z2.2) (of_decide_eq_true z4.1) (of_decide_eq_true z4.2) (chk_ok a false _ _ z6.1) (chk_ok b false _ _ z6.2) z8.1 z8.2 (rtlB_ok z5.1)
    · cases h
  | .ex e, sc, st, h => by
    unfold chkS at h
    split at h
    · have z := Bool.and_eq_true_iff.mp h
      exact ss_ex (chk_ok e false _ _ z.2) z.1
    · cases h
  | .ret e, sc, st, h => by
    unfold chkS at h
    split at h
    · exact ss_ret (chk_ok e false _ _ h)
    · cases h
  | .retN, sc, st, h => by
    unfold chkS at h
    split at h
    · exact ss_retN
    · cases h
  | .pass, sc, st, h => by
    unfold chkS at h
    split at h
    · exact ss_pass
    · cases h
  | .ite c t f, sc, st, h => by
    unfold chkS at h
    split at h
    · have z := Bool.and_eq_true_iff.mp h
      have z1 := Bool.and_eq_true_iff.mp z.2
      exact ss_if (chk_ok c true _ _ z.1).1 (chkSs_ok t _ _ z1.1) (chkSs_ok f _ _ z1.2)
    · cases h
  | .whl c b, sc, st, h => by
    unfold chkS at h
    split at h
    · have z := Bool.and_eq_true_iff.mp h
      exact ss_while (chk_ok c true _ _ z.1).1 (chkSs_ok b _ _ z.2)
    · cases h
  | .raise c fn es, sc, st, h => by
    unfold chkS at h
    exact raiseB_ok h
  | .tryE b e hn cs i hd u, sc, st, h => by
    unfold chkS at h
    exact tryB_ok h
  | .for_ it t b, sc, st, h => by
    unfold chkS at h
    split at h
    · have z := Bool.and_eq_true_iff.mp h
      have z1 := Bool.and_eq_true_iff.mp z.1
      have z2 := Bool.and_eq_true_iff.mp z.2
      exact ss_for (chkI_ok it _ _ _ z2.1) (tgB_ok z1.2) (chkSs_ok b _ _ z2.2) z1.1
    · cases h
theorem chkSs_ok : ∀ (s : CSs) (sc : Scope) (st : List Stmt), chkSs S N s sc st = true → SSs S N sc st s
  | .nil, sc, st, h => by
    unfold chkSs at h
    split at h
    · exact sss_nil
    · cases h
  | .cons s ss, sc, st, h => by
    unfold chkSs at h
    split at h
    · have z := Bool.and_eq_true_iff.mp h
      exact sss_cons (chkS_ok s _ _ z.1) (chkSs_ok ss _ _ z.2)
    · cases h
end
def chkFn (S : Sig) (fn : Fn) (st : Stmt) : Bool :=
  scopeB fn.N fn.ps (defScope st) && (decide (fn.ps.length ≤ fn.N.length) && chkSs S fn.N fn.body (defScope st) (defBody st))
theorem chkFn_ok {S : Sig} {G : Gx} {n i : Nat} {fn : Fn} {f : Addr} {x qual : Str} {st : Stmt} {fd : FuncData} (so : SigOk S G) (fo : FnsOk G n) (hi : G.Pg[i]? = some fn) (F : Fun G.K x qual st f fd) (h : chkFn S fn st = true) : FnG G (n + 1) f fd fn.ps (spN G (n + 1) i) := by
  have z := Bool.and_eq_true_iff.mp h
  have z1 := Bool.and_eq_true_iff.mp z.2
  exact fn_level so fo hi F (scopeB_ok z.1) (of_decide_eq_true z1.1) (chkSs_ok _ _ _ z1.2)
end
end Mn
end

section
set_option Elab.async false
set_option linter.all false
set_option maxRecDepth 100000
set_option autoImplicit false
set_option maxHeartbeats 4000000
namespace Mn
open PySem PySem.Spec PyProof.Rows L2

/-- the heap in which the script alone may be told -/
def hSc (K : PySem.W.Frag) (a : Addr) (o : Obj) (xs : List V) : Hp := fun b => if b = a ∧ K.lookup a = none then some (.frz o (.lst xs)) else none
section
variable {P : Program} {w : World} {K : PySem.W.Frag} {mg mb : Str → Option Value} {a : Addr} {s : Shared} {vs : List Value} {ns : List Int}
theorem hSc_at {o : Obj} {xs : List V} {b : Addr} {u : HO} (h : hSc K a o xs b = some u) : b = a ∧ K.lookup a = none ∧ u = .frz o (.lst xs) := by
  unfold hSc at h
  by_cases c : b = a ∧ K.lookup a = none
  · rw [if_pos c] at h
    cases h
    exact ⟨c.1, c.2, rfl⟩
  · rw [if_neg c] at h
    cases h
theorem hSc_frz (KX : K.In s.heap) (ha : s.heap.get? a = some { cls := .type "list", data := .seq vs.toArray }) (hi : IntsAre vs ns) (hl : ns.length ≤ sizeLine) :
    FzL K (hSc K a { cls := .type "list", data := .seq vs.toArray } (ns.map V.int)) a (ns.map V.int) := by
  cases hk : K.lookup a with
  | none => exact .inl ⟨_, if_pos ⟨rfl, hk⟩⟩
  | some o =>
    have e := KX a o hk
    rw [ha] at e
    cases e
    exact .inr ⟨_, vs.toArray, _, hk, rfl, rfl, rfl, by rw [List.size_toArray, hi.length]; exact hl, by simpa using vals_ints hi⟩
theorem hSc_ok (ha : s.heap.get? a = some { cls := .type "list", data := .seq vs.toArray }) (hi : IntsAre vs ns) (hl : ns.length ≤ sizeLine) :
    HOk P w (hSc K a { cls := .type "list", data := .seq vs.toArray } (ns.map V.int)) s.heap := by
  intro b u h
  obtain ⟨rfl, _, rfl⟩ := hSc_at h
  exact ⟨ha, by rw [List.length_map]; exact hl, vs, _, vals_ints hi, ha⟩
theorem ints_rv {K : PySem.W.Frag} {ι : List Addr} {H : Hp} : ∀ ns : List Int, RVs K ι H (ns.map D.int) (ns.map V.int)
  | [] => .nil
  | n :: ns => .cons (.int n) (ints_rv ns)
/-- the script in the store -/
theorem hSc_rm (KX : K.In s.heap) (ha : s.heap.get? a = some { cls := .type "list", data := .seq vs.toArray }) (hi : IntsAre vs ns) (hl : ns.length ≤ sizeLine) :
    RM K [a] (hSc K a { cls := .type "list", data := .seq vs.toArray } (ns.map V.int)) [.frz (ns.map D.int)] := by
  refine ⟨rfl, fun n c b h1 h2 => ?_, fun i j c c' b h1 h2 h3 => ?_⟩
  · cases n with
    | succ n => simp at h1
    | zero =>
      cases h1
      cases h2
      refine ⟨ns.map V.int, hSc_frz KX ha hi hl, ?_⟩
      exact ints_rv ns
  · cases i with
    | succ i => simp at h1
    | zero =>
      cases h1
      cases h3
theorem hid_ns (ha : s.heap.get? a = some { cls := .type "list", data := .seq vs.toArray }) {xs : List V} {b : Addr} {m : Str → Option Value} (n : s.heap.Ns b m) : (hidT s.heap (hSc K a { cls := .type "list", data := .seq vs.toArray } xs)).Ns b m := by
  obtain ⟨o, es, ep, e, d, r⟩ := n
  refine ⟨o, es, ep, hidT_get e ?_, d, r⟩
  cases q : hSc K a { cls := .type "list", data := .seq vs.toArray } xs b with
  | none => rfl
  | some u =>
    obtain ⟨rfl, _, _⟩ := hSc_at q
    rw [ha] at e
    cases e
    have d' : Data.seq vs.toArray _ = Data.dict es ep := d
    cases d'
theorem hid_in (KX : K.In s.heap) {o : Obj} {xs : List V} : K.In (hidT s.heap (hSc K a o xs)) := by
  intro b ob e
  refine hidT_get (KX b ob e) ?_
  cases q : hSc K a o xs b with
  | none => rfl
  | some u =>
    obtain ⟨rfl, z, _⟩ := hSc_at q
    rw [z] at e
    cases e
/-- what the model's run of the law gives -/
theorem run_law {k : Nat} {fa : Addr} {fd : FuncData} {x : Str} (F : Gx → Sp) {mk : Heap → Gx} (hP : ∀ b, (mk b).P = P ∧ (mk b).w = w ∧ (mk b).K = K ∧ (mk b).mg = mg ∧ (mk b).base = b)
    (KX : K.In s.heap) (hns : s.heap.Ns mainGlobals mg) (hb : s.heap.Ns builtinsNs mb) (hbb : ∀ x : Str, x ≠ "__name__" → mb x = bootBuiltins x) (hlim : s.heap.NoLimit) (hg : s.gens = #[])
    (ha : s.heap.get? a = some { cls := .type "list", data := .seq vs.toArray }) (hi : IntsAre vs ns) (hl : ns.length ≤ sizeLine) (hr : Room k callerA)
    (hF : ∀ base : Heap, K.In base → base.Ns mainGlobals mg → FnG (mk base) k fa fd [x] (F (mk base))) (hbind : ∀ (s : Shared) (u : Value), K.In s.heap → BindsTo s fd ⟨[u], []⟩ [(x, u)])
    (hsp : ∀ (b : Heap) (H : Hp), RM K [a] H [.frz (ns.map D.int)] → F (mk b) [.ref a] H (fun v _ => v = .bl true) fun _ _ _ => False) :
    codeAny (model P w) callerA (.call (.ref fa) ⟨[.ref a], []⟩) (fun r s' => r = .ok (.ret (.bool true)) ∧ OldK s.heap s'.heap ∧ s'.os = s.os ∧ AllBare s'.gens) s := by
  obtain ⟨oS, eS⟩ : ∃ o : Obj, o = { cls := .type "list", data := .seq vs.toArray } := ⟨_, rfl⟩
  obtain ⟨H, eH⟩ : ∃ H : Hp, H = hSc K a oS (ns.map V.int) := ⟨_, rfl⟩
  have ok : HOk P w H s.heap := by rw [eH, eS]; exact hSc_ok ha hi hl
  have rm : RM K [a] H [.frz (ns.map D.int)] := by rw [eH, eS]; exact hSc_rm KX ha hi hl
  have hns' : ∀ {b : Addr} {m : Str → Option Value}, s.heap.Ns b m → (hidT s.heap H).Ns b m := fun n => by rw [eH, eS]; exact hid_ns ha n
  have hin : K.In (hidT s.heap H) := by rw [eH]; exact hid_in KX
  have lim : (hidT s.heap H).NoLimit := hlim.imp fun _ z => ⟨hns' z.1, z.2⟩
  have md : Mod K mg (hidT s.heap H) := ⟨hin, hns' hns, ⟨mb, hns' hb, hbb⟩, lim⟩
  have env : Env0 P w K mg (hidT s.heap H) callerA [] s H :=
    ⟨rfl, md, fun b o e => of_hidT e, Nat.le_of_eq (hidT_size _ _), trivial, fun b hb => (List.not_mem_nil hb).elim, ok, .of_eq hg⟩
  obtain ⟨p1, p2, p3, p4, p5⟩ := hP (hidT s.heap H)
  have F1 := hF _ hin (hns' hns)
  have env' : Env0 (mk (hidT s.heap H)).P (mk (hidT s.heap H)).w (mk (hidT s.heap H)).K (mk (hidT s.heap H)).mg (mk (hidT s.heap H)).base callerA [] s H := by rw [p1, p2, p3, p4, p5]; exact env
  have go := F1.run callerA [] s H ⟨[.ref a], []⟩ [.ref a] [.ref a] _ _ hr rfl env' (hbind s (.ref a) KX) (.cons rfl .nil) (hsp _ H rm)
  rw [p1, p2] at go
  refine codeAny_mono go fun r s' h => ?_
  cases r with
  | error e =>
    obtain ⟨_, _, _, _, _, _, _, _, _, _, _, _, z⟩ := (show CX P w [] H s (fun _ _ _ => False) e s' from h)
    exact z.elim
  | ok fl =>
    cases fl with
    | ret u =>
      obtain ⟨v, H', os, bare, un, okk, rv, q⟩ := h
      obtain rfl : v = .bl true := q
      obtain rfl : u = Value.bool true := rv
      refine ⟨rfl, OldK.of_keep fun b o e => ?_, os, bare⟩
      cases q : H b with
      | none => exact un.keep b o e q (fun z => (List.not_mem_nil (show b ∈ ([] : List Addr) from z)).elim) (by simp)
      | some u =>
        rw [eH] at q
        obtain ⟨rfl, z1, rfl⟩ := hSc_at q
        rw [← eH] at q
        obtain ⟨e1, _⟩ := okk b _ (un.frzs b _ _ q)
        rw [eS] at e1
        rw [ha] at e
        cases e
        exact e1
    | next => exact (show False from h).elim
    | brk => exact (show False from h).elim
    | cont => exact (show False from h).elim
end
/-- the goal that the head leaves -/
theorem walk_G {l : PySem.W.OpenLaw} {n k : Nat} {q : Program} {loose : List Str} {XP : (Str → Option Value) → Heap → Prop} {YP : World → Heap → Prop} {d : DefRec} {K : Params → PySem.W.Frag} {Pg : Pg} {ix : Nat} {x : Str}
    (hn : l.most = some n) (hn2 : n ≤ sizeLine) (hdf : d.params.defaults = []) (hr : Room k callerA) (hY : ∀ (w : World) (h : Heap), YP w h → (K w.params).In h)
    (F : ∀ (w : World) (mg : Str → Option Value) (fa : Addr) (h : Heap), (K w.params).In h → h.Ns mainGlobals mg → mg d.name = some (.ref fa) →
      ∃ fd : FuncData, (∀ (s : Shared) (u : Value), (K w.params).In s.heap → BindsTo s fd ⟨[u], []⟩ [(x, u)]) ∧
        ∀ base : Heap, (K w.params).In base → base.Ns mainGlobals mg → ∀ wf : Nat, FnG ⟨l.prog, w, K w.params, mg, base, Pg, wf⟩ k fa fd [x] (spN ⟨l.prog, w, K w.params, mg, base, Pg, wf⟩ k ix))
    (hpure : ∀ ns : List Int, ns.length ≤ n → (∀ z ∈ ns, Builtin.Int.intBits z ≤ 1048576) → ∃ (wf : Nat) (m : Mu), callN Pg wf k ix [.loc 0] [.frz (ns.map D.int)] = .ok (.bl true) m) :
    PySem.W.WalkO q loose XP YP l.row.toRowW d [] (fun f vs => PySem.call f vs) := by
  refine Att.attach_callB hn hdf fun w s₀ s₁ mg mb fa o pm cd doc a vs ns G Y ho hd hcd hmg hobj hints hlen hbits hg => ?_
  have KX := hY w _ Y
  obtain ⟨fd, hb, hF⟩ := F w mg fa _ KX G.T.g hmg
  obtain ⟨wf, m', e⟩ := hpure ns hlen hbits
  refine run_law (mk := fun b => ⟨l.prog, w, K w.params, mg, b, Pg, wf⟩) (fun g => spN g k ix) (fun b => ⟨rfl, rfl, rfl, rfl, rfl⟩) KX G.T.g G.T.b G.T.builtins G.T.nolimit hg hobj hints (Nat.le_trans hlen hn2) hr (fun base h1 h2 => hF base h1 h2 wf) hb fun b H rm => ?_
  refine ⟨[.loc 0], [a], [.frz (ns.map D.int)], .cons (.loc rfl) .nil, rm, ?_⟩
  show Po _ _ _ _ (callN Pg wf k ix [.loc 0] [.frz (ns.map D.int)]) _
  rw [e]
  intro ι' H' _ _ v rv
  cases rv
  rfl
end Mn
end

section
set_option Elab.async false
set_option linter.all false
set_option maxRecDepth 100000
set_option autoImplicit false
set_option maxHeartbeats 4000000
namespace Mn
open PySem PySem.Spec PyProof.Rows L2
structure DOk (K : PySem.W.Frag) (mg : Str → Option Value) (st : Stmt) (fn : Fn) : Prop where
  ex : ∃ f fd, mg fn.name = some (.ref f) ∧ Fun K fn.name fn.name st f fd ∧ Binds K fd fn.ps []
section
variable {K : PySem.W.Frag} {mg : Str → Option Value} {h : Heap}
theorem dok_mk {st : Stmt} {fn : Fn} {f : Addr} {oc : Value} {od an : Option Addr} {osl : Array (Option Value)} {kV doc pm cdv ct : Value} (X : K.In h) (G : h.Ns mainGlobals mg)
    (a : PySem.W.nsIn K mainGlobals fn.name = some (some (.ref f)))
    (l : K.lookup f = some ⟨oc, od, .func (PySem.W.fnOf fn.name fn.name (defArgs st) (defBody st) (defScope st) .none kV doc pm an cdv ct), osl⟩)
    (c : PySem.W.codeIn K cdv fn.name = true) (k : PySem.W.keepIn K (.ref f) = true)
    (b : ∀ (kV doc pm : Value) (an : Option Addr) (cdv ct : Value) (us : List Value), us.length = fn.ps.length → bindArgs (PySem.W.fnOf fn.name fn.name (defArgs st) (defBody st) (defScope st) .none kV doc pm an cdv ct) ⟨us, []⟩ = pure (fn.ps.zip us)) :
    DOk K mg st fn := by
  have F := fun_mk (st := st) l c k
  exact ⟨f, _, PySem.W.mg_of X G a, F, F.binds b⟩
/-- the defs, each with its text -/
inductive Tops (K : PySem.W.Frag) (mg : Str → Option Value) (S : Sig) : Pg → Prop where
  | nil : Tops K mg S []
  | cons {fn : Fn} {P : Pg} (st : Stmt) (h : DOk K mg st fn) (c : chkFn S fn st = true) (t : Tops K mg S P) : Tops K mg S (fn :: P)
theorem Tops.get {S : Sig} : ∀ {P : Pg} {i : Nat} {fn : Fn}, Tops K mg S P → P[i]? = some fn → ∃ st, DOk K mg st fn ∧ chkFn S fn st = true
  | _, _, _, .nil, e => by simp at e
  | _, 0, _, .cons st h c t, e => by
    simp at e; subst e; exact ⟨st, h, c⟩
  | _, i + 1, _, .cons st h c t, e => t.get (i := i) (by simpa using e)
def sigB (S : Sig) (P : Pg) : Bool := decide (P.length ≤ 1000000) && S.fns.all fun p => match P[p.2.1]? with | some fn => decide (fn.name = p.1) && decide (fn.ps.length = p.2.2) | none => false
theorem sigB_ok {S : Sig} {P : Pg} (h : sigB S P = true) : ∀ p ∈ S.fns, ∃ fn, P[p.2.1]? = some fn ∧ fn.name = p.1 ∧ fn.ps.length = p.2.2 := by
  intro p hp
  have z := List.all_eq_true.mp (Bool.and_eq_true_iff.mp h).2 p hp
  cases e : P[p.2.1]? with
  | none => rw [e] at z; cases z
  | some fn =>
    rw [e] at z
    have z := Bool.and_eq_true_iff.mp z
    exact ⟨fn, rfl, of_decide_eq_true z.1, of_decide_eq_true z.2⟩
theorem spN0 {G : Gx} {i : Nat} {vs : List V} {H : Hp} {Q : VK} {E : XK} (h : spN G 0 i vs H Q E) : False := by
  obtain ⟨ds, ι, m, _, _, z⟩ := h
  unfold callN at z
  exact z
theorem fns_all {G : Gx} {S : Sig} (so : SigOk S G) (T : Tops G.K G.mg S G.Pg) : ∀ n, FnsOk G n
  | 0, i, fn, e => by
    obtain ⟨st, ⟨f, fd, h1, F, b⟩, c⟩ := T.get e
    exact ⟨f, fd, h1, F.kp, b, ⟨fun _ _ _ _ h => (spN0 h).elim, fun _ _ _ _ _ _ _ _ _ _ _ _ _ _ h => (spN0 h).elim⟩⟩
  | n + 1, i, fn, e => by
    obtain ⟨st, ⟨f, fd, h1, F, b⟩, c⟩ := T.get e
    exact ⟨f, fd, h1, F.kp, b, chkFn_ok so (fns_all so T n) e F c⟩
def ExcOk (S : Sig) (G : Gx) : Prop := (∀ p ∈ S.ecl, ∃ C : Addr, G.mg p.1 = some (.ref C) ∧ ClsT G p.2 C ∧
    (∀ q ∈ S.sub, ∃ B : Addr, G.mg q.1 = some (.ref B) ∧ PySem.W.exmOne G.K (.ref C) (.ref B) = some (decide (p.1 ∈ q.2))) ∧
    (∀ x ∈ S.icl, ∃ B : Addr, G.mg x = some (.ref B) ∧ PySem.W.kitOne G.K (.ref C) (.ref B) = some (decide (p.1 = x)))) ∧ ∀ q ∈ S.sub, ∃ B : Addr, G.mg q.1 = some (.ref B)
theorem exc_no {S : Sig} {G : Gx} (h1 : S.ecl = []) (h2 : S.sub = []) : ExcOk S G := ⟨fun p h => (by rw [h1] at h; cases h), fun q h => (by rw [h2] at h; cases h)⟩
/-- the law's def -/
theorem law_def {P : Program} {w : World} {S : Sig} {Q : Pg} {ix : Nat} {x : Str} {fn : Fn} (n : Nat) (T : Tops K mg S Q) (he : Q[ix]? = some fn) (hx : fn.ps = [x]) (nones : ∀ x ∈ S.nones, mg x = none)
    (consts : ∀ p ∈ S.consts, ∃ v u, mg p.1 = some u ∧ RelV v u ∧ ∀ ι H, RV K ι H p.2 v) (hs : sigB S Q = true) (hex : ∀ base wf, ExcOk S ⟨P, w, K, mg, base, Q, wf⟩) {fa : Addr} (hfa : mg fn.name = some (.ref fa)) :
    ∃ fd : FuncData, (∀ (s : Shared) (u : Value), K.In s.heap → BindsTo s fd ⟨[u], []⟩ [(x, u)]) ∧ ∀ base : Heap, K.In base → base.Ns mainGlobals mg → ∀ wf : Nat, FnG ⟨P, w, K, mg, base, Q, wf⟩ (n + 1) fa fd [x] (spN ⟨P, w, K, mg, base, Q, wf⟩ (n + 1) ix) := by
  obtain ⟨st, ⟨f, fd, h1, F, b⟩, c⟩ := T.get he
  rw [hfa] at h1
  cases h1
  refine ⟨fd, fun s u hk => ?_, fun base _ _ wf => ?_⟩
  · have := b s [u] hk (by rw [hx]; rfl)
    rw [hx] at this
    exact this
  · have so : SigOk S ⟨P, w, K, mg, base, Q, wf⟩ := ⟨nones, consts, sigB_ok hs, of_decide_eq_true (Bool.and_eq_true_iff.mp hs).1, (hex base wf).1, (hex base wf).2⟩
    have z := chkFn_ok (G := ⟨P, w, K, mg, base, Q, wf⟩) so (fns_all so T n) he F c
    rw [hx] at z
    exact z
/-- a constant of whole numbers -/
theorem con_ints {x : Str} {is : List Int} {p : Addr} {od : Option Addr} {its : Array Value} {k : Nat} {sl : Array (Option Value)} (X : K.In h) (G : h.Ns mainGlobals mg)
    (a : PySem.W.nsIn K mainGlobals x = some (some (.ref p))) (l : K.lookup p = some ⟨.type "tuple", od, .seq its k, sl⟩) (v : Vals (is.map V.int) its.toList) (hl : is.length ≤ 1000) :
    ∃ v u, mg x = some u ∧ RelV v u ∧ ∀ ι H, RV K ι H (.tup (is.map D.int)) v := by
  have hz : its.size ≤ sizeLine := by
    have := v.length
    rw [List.length_map] at this
    have e : its.toList.length = its.size := by simp
    have h2 : (1000 : Nat) ≤ sizeLine := by decide
    omega
  exact ⟨.ref p, .ref p, PySem.W.mg_of X G a, rfl, fun ι H => .tup (.inr ⟨_, its, k, l, rfl, rfl, hz, v⟩) (ints_rv is)⟩
/-- a tuple that stands in the module's values -/
theorem rv_tup {ds : List D} {xs : List V} {p : Addr} {od : Option Addr} {its : Array Value} {k : Nat} {sl : Array (Option Value)}
    (l : K.lookup p = some ⟨.type "tuple", od, .seq its k, sl⟩) (v : Vals xs its.toList) (hl : xs.length ≤ 1000) (r : ∀ ι H, RVs K ι H ds xs) : ∀ ι H, RV K ι H (.tup ds) (.ref p) := by
  have hz : its.size ≤ sizeLine := by
    have := v.length
    have e : its.toList.length = its.size := by simp
    have h2 : (1000 : Nat) ≤ sizeLine := by decide
    omega
  exact fun ι H => .tup (.inr ⟨_, its, k, l, rfl, rfl, hz, v⟩) (r ι H)
theorem con_tup {x : Str} {ds : List D} {xs : List V} {p : Addr} {od : Option Addr} {its : Array Value} {k : Nat} {sl : Array (Option Value)} (X : K.In h) (G : h.Ns mainGlobals mg)
    (a : PySem.W.nsIn K mainGlobals x = some (some (.ref p))) (l : K.lookup p = some ⟨.type "tuple", od, .seq its k, sl⟩) (v : Vals xs its.toList) (hl : xs.length ≤ 1000) (r : ∀ ι H, RVs K ι H ds xs) :
    ∃ v u, mg x = some u ∧ RelV v u ∧ ∀ ι H, RV K ι H (.tup ds) v :=
  ⟨.ref p, .ref p, PySem.W.mg_of X G a, rfl, rv_tup l v hl r⟩
theorem con_int {x : Str} {i : Int} {t : Tok} (X : K.In h) (G : h.Ns mainGlobals mg) (a : PySem.W.nsIn K mainGlobals x = some (some (.int i t))) : ∃ v u, mg x = some u ∧ RelV v u ∧ ∀ ι H, RV K ι H (.int i) v :=
  ⟨.int i, .int i t, PySem.W.mg_of X G a, ⟨t, rfl⟩, fun _ _ => .int i⟩
theorem con_str {x : Str} {i : Str} {t : Tok} (X : K.In h) (G : h.Ns mainGlobals mg) (a : PySem.W.nsIn K mainGlobals x = some (some (.str i t))) : ∃ v u, mg x = some u ∧ RelV v u ∧ ∀ ι H, RV K ι H (.str i) v :=
  ⟨.str i, .str i t, PySem.W.mg_of X G a, ⟨t, rfl⟩, fun _ _ => .str i⟩
def clsIni (s : Stmt) : Stmt := match s with
  | .ClassDef _ _ _ (b :: _) _ _ _ _ _ _ _ => b
  | s => s
theorem cls_mk {P : Program} {w : World} {Q : Pg} {fns : List Str} {C fI B N0 : Addr} {st : Stmt} {nm qn qual : Str} {bs bm : List Value} {sn : List Str} {sub : List Value} {ab : Bool} {col : Option Bool} {dd : Option Addr} {m0 m1 m2 m3 m5 : Option Value}
    {oc : Value} {od an : Option Addr} {osl : Array (Option Value)} {kV doc pm cdv ct : Value} (X : K.In h) (G : h.Ns mainGlobals mg)
    (xL : K.lookup C = some (excClassObj nm qn C N0 bs bm true sn sub ab col dd m0 m1 m2 m3 m5 "ValueError.__new__")) (hbm : PySem.HandSPX.refsVE bm = true)
    (sa : PySem.W.findIn K (.ref C) "__setattr__" = some (some (.builtin "object.__setattr__"))) (ga : PySem.W.findIn K (.ref C) "__getattribute__" = some (some (.builtin "BaseException.__getattribute__"))) (gg : PySem.W.findIn K (.ref C) "__getattr__" = some none)
    (iC : PySem.W.findIn K (.ref C) "__init__" = some (some (.ref fI))) (tI : PySem.W.typeIn K (.ref fI) = some (.type "function"))
    (l : K.lookup fI = some ⟨oc, od, .func (PySem.W.fnOf "__init__" qual (defArgs st) (defBody st) (defScope st) .none kV doc pm an cdv ct), osl⟩) (c : PySem.W.codeIn K cdv qual = true) (k : PySem.W.keepIn K (.ref fI) = true)
    (kC : PySem.W.keepIn K (.ref C) = true) (eC : PySem.W.subIn K (.ref C) (.type "BaseException") = some true) (tC : PySem.W.typeIn K (.ref C) = some (.type "type")) (hC : PySem.W.hasDictIn K C = true) (cC : PySem.W.isClsIn K C = true)
    (ca : PySem.W.findIn K (.ref C) "__class__" = some (some (.builtin "object.__class__"))) (cn : PySem.W.specialIn K (.builtin "object.__class__") "__get__" = some (some (.builtin "getset_descriptor.__get__"))) (ct' : PySem.W.takesIn K (.builtin "object.__class__") = some true)
    (cm : PySem.W.mroIn K C (.type "object") = some true) (ve : PySem.W.kitOne K (.ref C) (.type "ValueError") = some true) (no : ∀ f ∈ fns, PySem.W.findIn K (.ref C) f = some none)
    (gB : PySem.W.nsIn K mainGlobals frmE = some (some (.ref B))) (rB : PySem.W.readsIn K B (.type "type") = true) (aB : PySem.W.specialIn K (.ref B) "__getattribute__" = some (some (.builtin "type.__getattribute__")))
    (fB : PySem.W.findCls K (.ref B) (.type "type") "__init__" = some (.val (.builtin "ValueError.__init__")))
    (s1 : scopeB (selfN fns) (selfN fns) (defScope st) = true) (s2 : initB fns st = true) (sz : fns.length ≤ 100)
    (b : ∀ (kV doc pm : Value) (an : Option Addr) (cdv ct : Value) (us : List Value), us.length = (selfN fns).length → bindArgs (PySem.W.fnOf "__init__" qual (defArgs st) (defBody st) (defScope st) .none kV doc pm an cdv ct) ⟨us, []⟩ = pure ((selfN fns).zip us)) :
    ∀ base wf, ClsT ⟨P, w, K, mg, base, Q, wf⟩ fns C := by
  intro base wf
  have F := fun_mk (st := st) l c k
  have T : OexC K C := { cls := ⟨nm, qn, N0, bs, bm, sn, sub, ab, col, dd, m0, m1, m2, m3, m5, xL, hbm⟩, sa := sa, exC := eC, tyC := tC, kC := kC }
  exact { sz := sz, oex := T, no := no, xf := ⟨ga, gg, eC, hC⟩, cl := cC, ca := ca, cn := cn, ct := ct', cm := cm, ve := ve,
          init := ⟨fI, _, iC, tI, F.binds b, init_fn F s1 s2 T ⟨rB, aB, fB⟩ (PySem.W.mg_of X G gB) no⟩ }
/-- .. asked by an except clause, by isinstance -/
theorem exm_mk {C B : Addr} {b : Bool} (h1 : PySem.W.subIn K (.ref B) (.type "BaseException") = some true) (h2 : PySem.W.hasDictIn K B = true) (h3 : PySem.W.typeIn K (.ref B) = some (.type "type")) (h4 : PySem.W.subIn K (.ref C) (.ref B) = some b) :
    PySem.W.exmOne K (.ref C) (.ref B) = some b := PySem.W.exm_ref h1 h2 h3 h4
theorem kit_mk {C B : Addr} {b : Bool} (h1 : PySem.W.isClsIn K B = true) (h2 : PySem.W.typeIn K (.ref B) = some (.type "type")) (h3 : PySem.W.subIn K (.ref C) (.ref B) = some b) (hb : C = B → b = true) : PySem.W.kitOne K (.ref C) (.ref B) = some b := by
  unfold PySem.W.kitOne
  by_cases e : C = B
  · subst e
    rw [hb rfl, if_pos (by simp)]
  · rw [if_neg (by simpa using e)]
    show (if ((PySem.W.clsIn K B).isSome && PySem.W.typeIn K (.ref B) == some (.type "type")) = true then PySem.W.subIn K (.ref C) (.ref B) else none) = _
    have h1' : (PySem.W.clsIn K B).isSome = true := h1
    rw [h1', h2]
    exact h3
theorem kit_ve {C : Addr} (h : PySem.W.subIn K (.ref C) (.type "ValueError") = some true) : PySem.W.kitOne K (.ref C) (.type "ValueError") = some true := by
  unfold PySem.W.kitOne
  rw [if_neg (by simp)]
  show (if PySem.W.kitMeta "ValueError" = true then PySem.W.subIn K (.ref C) (.type "ValueError") else none) = _
  rw [if_pos (by decide +kernel)]
  exact h
theorem kit_self {C : Addr} : PySem.W.kitOne K (.ref C) (.ref C) = some true := by
  unfold PySem.W.kitOne
  rw [if_pos (by simp)]
theorem kit_ne {C B : Addr} (h1 : PySem.W.isClsIn K B = true) (h2 : PySem.W.typeIn K (.ref B) = some (.type "type")) (h3 : PySem.W.subIn K (.ref C) (.ref B) = some false) (h4 : PySem.W.subIn K (.ref C) (.ref C) = some true) : PySem.W.kitOne K (.ref C) (.ref B) = some false :=
  kit_mk h1 h2 h3 fun e => by rw [← e, h4] at h3; cases h3
end
end Mn
end

section
set_option Elab.async false
set_option linter.all false
set_option maxRecDepth 100000
set_option autoImplicit false
namespace Mn
open PySem
section
variable {α β : Type}
/-- the evaluation ends well, and Q holds behind it -/
def R.to (r : R α) (Q : α → Mu → Prop) : Prop := match r with | .ok a m => Q a m | _ => False
@[simp] theorem to_ok {a : α} {m : Mu} {Q : α → Mu → Prop} : (R.ok a m).to Q = Q a m := (rfl)
@[simp] theorem to_no {Q : α → Mu → Prop} : (R.no : R α).to Q = False := (rfl)
@[simp] theorem to_bind {r : R α} {f : α → Mu → R β} {Q : β → Mu → Prop} : (r.bind f).to Q = r.to fun a m => (f a m).to Q := by cases r <;> rfl
@[simp] theorem to_opt {o : Option α} {m : Mu} {Q : α → Mu → Prop} : (R.opt o m).to Q = ∃ a, o = some a ∧ Q a m := by
  cases o with
  | none => simp [R.opt, R.to]
  | some a => simp [R.opt, R.to]
@[simp] theorem to_nox {r : R α} {Q : α → Mu → Prop} : r.nox.to Q = r.to Q := by cases r <;> rfl
theorem R.to.mono {r : R α} {Q Q' : α → Mu → Prop} (h : r.to Q) (f : ∀ a m, Q a m → Q' a m) : r.to Q' := by
  cases r with
  | ok a m => exact f a m h
  | ex => exact h
  | no => exact h
theorem R.to.get {r : R α} {Q : α → Mu → Prop} (h : r.to Q) : ∃ a m, r = .ok a m ∧ Q a m := by
  cases r with
  | ok a m => exact ⟨a, m, rfl, h⟩
  | ex => exact h.elim
  | no => exact h.elim
end
theorem ex_map {α β : Type} {o : Option α} {f : α → β} {P : β → Prop} : (∃ b, o.map f = some b ∧ P b) = ∃ a, o = some a ∧ P (f a) := by
  cases o <;> simp
/-- a truth decides -/
def D.ift (d : D) (p q : Prop) : Prop := match d with | .bl true => p | .bl false => q | _ => False
/-- either way by a truth -/
def Br (b : Bool) (p q : Prop) : Prop := (b = true → p) ∧ (b = false → q)
@[simp] theorem br_true {p q : Prop} : Br true p q = p := by simp [Br]
@[simp] theorem br_false {p q : Prop} : Br false p q = q := by simp [Br]
@[simp] theorem br_not {b : Bool} {p q : Prop} : Br (!b) p q = Br b q p := by cases b <;> simp
theorem br_b {b : Bool} {p q : Prop} (h1 : b = true → p) (h2 : b = false → q) : Br b p q := ⟨h1, h2⟩
theorem br_of {c : Prop} [Decidable c] {p q : Prop} (h1 : c → p) (h2 : ¬ c → q) : Br (decide c) p q := ⟨fun h => h1 (of_decide_eq_true h), fun h => h2 (of_decide_eq_false h)⟩
theorem br_t {b : Bool} {p q : Prop} (hb : b = true) (h1 : p) : Br b p q := by rw [hb, br_true]; exact h1
theorem br_f {b : Bool} {p q : Prop} (hb : b = false) (h1 : q) : Br b p q := by rw [hb, br_false]; exact h1
@[simp] theorem ift_bl {b : Bool} {p q : Prop} : (D.bl b).ift p q = Br b p q := by cases b <;> simp [D.ift]
def OB (o : Option Bool) (p : Bool → Prop) : Prop := match o with | some b => p b | none => False
@[simp] theorem ob_some {b : Bool} {p : Bool → Prop} : OB (some b) p = p b := (rfl)
@[simp] theorem ob_none {p : Bool → Prop} : OB none p = False := (rfl)
theorem ob_eq {o : Option Bool} {p : Bool → Prop} : OB o p = ∃ b, o = some b ∧ p b := by
  cases o with
  | none => simp
  | some b => simp only [ob_some, Option.some.injEq, eq_iff_iff]; exact ⟨fun h => ⟨b, rfl, h⟩, fun ⟨_, e, h⟩ => e ▸ h⟩
def OX {α : Type} (o : Option α) (p : α → Prop) : Prop := match o with | some b => p b | none => False
@[simp] theorem ox_some {α : Type} {b : α} {p : α → Prop} : OX (some b) p = p b := (rfl)
theorem ox_eq {α : Type} {o : Option α} {p : α → Prop} : (∃ b, o = some b ∧ p b) = OX o p := by
  cases o with
  | none => simp [OX]
  | some b => simp [OX]
def D.asb (d : D) (p : Bool → Prop) : Prop := match d with | .bl b => p b | _ => False
@[simp] theorem asb_bl {b : Bool} {p : Bool → Prop} : (D.bl b).asb p = p b := (rfl)
section
variable {cl : Nat → List D → Mu → R D} {wf : Nat} {σ : Sl} {m : Mu}
section
variable {Q : D → Mu → Prop}
@[simp] theorem ev_var {i : Nat} : (evE cl (.var i) σ m).to Q = ∃ d, σ[i]? = some (some d) ∧ Q d m := by
  simp only [evE]
  split
  · rename_i d h; simp [h]
  · rename_i h; simp only [to_no, eq_iff_iff, false_iff]; rintro ⟨d, e, _⟩; exact h d e
@[simp] theorem ev_con {d : D} : (evE cl (.con d) σ m).to Q = Q d m := by simp only [evE, to_ok]
@[simp] theorem ev_op {o : Op} {a b : CE} : (evE cl (.op o a b) σ m).to Q = (evE cl a σ m).to fun x m => (evE cl b σ m).to fun y m => (opD o x y m).to Q := by simp only [evE, to_bind]
@[simp] theorem ev_neg {a : CE} : (evE cl (.neg a) σ m).to Q = (evE cl a σ m).to fun x m => ∃ i, x = .int i ∧ Q (.int (-i)) m := by
  simp only [evE, to_bind]
  congr; funext x m; cases x <;> simp
@[simp] theorem ev_cmp {o : Cp} {a b : CE} : (evE cl (.cmp o a b) σ m).to Q = (evE cl a σ m).to fun x m => (evE cl b σ m).to fun y m => OB (cmpD o x y m) fun k => Q (.bl k) m := by
  simp only [evE, to_bind, to_opt]
  congr; funext x m; congr; funext y m
  cases cmpD o x y m <;> simp
@[simp] theorem ev_chain {o o' : Cp} {a b c : CE} : (evE cl (.chain o o' a b c) σ m).to Q = (evE cl a σ m).to fun x m => (evE cl b σ m).to fun y m => OB (cmpD o x y m) fun k =>
    Br k ((evE cl c σ m).to fun z m => OB (cmpD o' y z m) fun k => Q (.bl k) m) (Q (.bl false) m) := by
  simp only [evE, to_bind]
  congr; funext x m; congr; funext y m
  cases cmpD o x y m with
  | none => simp
  | some k => cases k <;> simp only [to_bind, to_opt, ex_map, ob_eq, br_true, br_false] <;> simp [ob_eq]
@[simp] theorem ev_and {a b : CE} : (evE cl (.and a b) σ m).to Q = (evE cl a σ m).to fun x m => x.ift ((evE cl b σ m).to Q) (Q (.bl false) m) := by
  simp only [evE, to_bind]
  congr; funext x m; cases x with
  | bl b => cases b <;> simp [D.ift]
  | _ => rfl
@[simp] theorem ev_or {a b : CE} : (evE cl (.or a b) σ m).to Q = (evE cl a σ m).to fun x m => x.ift (Q (.bl true) m) ((evE cl b σ m).to Q) := by
  simp only [evE, to_bind]
  congr; funext x m; cases x with
  | bl b => cases b <;> simp [D.ift]
  | _ => rfl
@[simp] theorem ev_not {a : CE} : (evE cl (.not a) σ m).to Q = (evE cl a σ m).to fun x m => x.asb fun k => Q (.bl !k) m := by
  simp only [evE, to_bind]
  congr; funext x m; cases x <;> simp [D.asb]
@[simp] theorem ev_ite {c a b : CE} : (evE cl (.ite c a b) σ m).to Q = (evE cl c σ m).to fun x m => x.ift ((evE cl a σ m).to Q) ((evE cl b σ m).to Q) := by
  simp only [evE, to_bind]
  congr; funext x m; cases x with
  | bl b => cases b <;> simp [D.ift]
  | _ => rfl
@[simp] theorem ev_tup {es : CEs} : (evE cl (.tup es) σ m).to Q = (evEs cl es σ m).to fun ds m => szOk ds.length = true ∧ Q (.tup ds) m := by
  simp only [evE, to_bind, newT]
  congr; funext x m; split <;> simp [*]
@[simp] theorem ev_lst {es : CEs} : (evE cl (.lst es) σ m).to Q = (evEs cl es σ m).to fun ds m => (newL ds m).to Q := by simp only [evE, to_bind]
theorem to_newL {ds : List D} : (newL ds m).to Q = (szOk ds.length = true ∧ Q (.loc m.length) (m ++ [.lst ds])) := by
  unfold newL; split <;> simp [*]
theorem to_newT {ds : List D} : (newT ds m).to Q = (szOk ds.length = true ∧ Q (.tup ds) m) := by
  unfold newT; split <;> simp [*]
@[simp] theorem ev_idxI {a b : CE} : (evE cl (.idxI a b) σ m).to Q = (evE cl a σ m).to fun x m => (evE cl b σ m).to fun y m => ∃ d, idxI x y m = some d ∧ Q d m := by simp only [evE, to_bind, to_opt]
@[simp] theorem ev_idxK {a b : CE} : (evE cl (.idxK a b) σ m).to Q = (evE cl a σ m).to fun x m => (evE cl b σ m).to fun y m => ∃ d, idxK x y m = some d ∧ Q d m := by simp only [evE, to_bind, to_opt]
@[simp] theorem ev_sl {a : CE} {lo hi : Option CE} : (evE cl (.sl a lo hi) σ m).to Q = (evE cl a σ m).to fun x m => (evO cl lo σ m).to fun l m => (evO cl hi σ m).to fun h m => (slD x l h m).to Q := by simp only [evE, to_bind]
@[simp] theorem evO_none {Q : Option Int → Mu → Prop} : (evO cl none σ m).to Q = Q none m := by simp only [evO, to_ok]
@[simp] theorem evO_some {e : CE} {Q : Option Int → Mu → Prop} : (evO cl (some e) σ m).to Q = (evE cl e σ m).to fun x m => ∃ i, x = .int i ∧ Q (some i) m := by
  simp only [evO, to_bind]
  congr; funext x m; cases x <;> simp
@[simp] theorem ev_rev {a : CE} : (evE cl (.rev a) σ m).to Q = (evE cl a σ m).to fun x m => (revD x m).to Q := by simp only [evE, to_bind]
@[simp] theorem ev_stp {a k : CE} : (evE cl (.stp a k) σ m).to Q = (evE cl a σ m).to fun x m => (evE cl k σ m).to fun y m => (stpD x y m).to Q := by simp only [evE, to_bind]
@[simp] theorem ev_call {f : Nat} {es : CEs} : (evE cl (.call f es) σ m).to Q = (evEs cl es σ m).to fun ds m => (cl f ds m).to Q := by simp only [evE, to_bind]
@[simp] theorem ev_blt {f : Bf} {es : CEs} : (evE cl (.blt f es) σ m).to Q = (evEs cl es σ m).to fun ds m => (bltD f ds m).to Q := by simp only [evE, to_bind]
@[simp] theorem ev_isi {a : CE} {t : Ty} : (evE cl (.isi a t) σ m).to Q = (evE cl a σ m).to fun x m => OB (isiD t x m) fun k => Q (.bl k) m := by
  simp only [evE, to_bind, to_opt]
  congr; funext x m; cases isiD t x m <;> simp
@[simp] theorem ev_app {a b : CE} : (evE cl (.app a b) σ m).to Q = (evE cl a σ m).to fun x m => isL x m = true ∧ (evE cl b σ m).to fun y m => (appD x y m).to Q := by
  simp only [evE, to_bind]
  congr; funext x m; split <;> simp [*]
@[simp] theorem ev_ins {a i b : CE} : (evE cl (.ins a i b) σ m).to Q = (evE cl a σ m).to fun x m => isL x m = true ∧ (evE cl i σ m).to fun j m => (evE cl b σ m).to fun y m => (insD x j y m).to Q := by
  simp only [evE, to_bind]
  congr; funext x m; split <;> simp [*]
@[simp] theorem ev_ext {a b : CE} : (evE cl (.ext a b) σ m).to Q = (evE cl a σ m).to fun x m => isL x m = true ∧ (evE cl b σ m).to fun y m => (extD x y m).to Q := by
  simp only [evE, to_bind]
  congr; funext x m; split <;> simp [*]
@[simp] theorem ev_pop {a : CE} : (evE cl (.pop a) σ m).to Q = (evE cl a σ m).to fun x m => (popD x m).to Q := by simp only [evE, to_bind]
@[simp] theorem ev_upper {a : CE} : (evE cl (.upper a) σ m).to Q = (evE cl a σ m).to fun x m => ∃ z, x = .str z ∧ szOk z.length = true ∧ Q (.str (Txt.upper z)) m := by
  simp only [evE, to_bind]
  congr; funext x m; cases x <;> simp
  split <;> simp [*]
end
@[simp] theorem evEs_nil {Q : List D → Mu → Prop} : (evEs cl .nil σ m).to Q = Q [] m := by simp only [evEs, to_ok]
@[simp] theorem evEs_cons {e : CE} {es : CEs} {Q : List D → Mu → Prop} : (evEs cl (.cons e es) σ m).to Q = (evE cl e σ m).to fun d m => (evEs cl es σ m).to fun ds m => Q (d :: ds) m := by simp only [evEs, to_bind, to_ok]
section
variable {Q : Sl ⊕ D → Mu → Prop}
@[simp] theorem ss_nil : (evSs cl wf .nil σ m).to Q = Q (.inl σ) m := by simp only [evSs, to_ok]
/-- behind a statement: on, or out -/
def nxt (q : Sl → Mu → Prop) (Q : Sl ⊕ D → Mu → Prop) : Sl ⊕ D → Mu → Prop := fun r m => match r with | .inl σ => q σ m | .inr d => Q (.inr d) m
@[simp] theorem nxt_l {q : Sl → Mu → Prop} : nxt q Q (.inl σ) m = q σ m := (rfl)
@[simp] theorem nxt_r {q : Sl → Mu → Prop} {d : D} : nxt q Q (.inr d) m = Q (.inr d) m := (rfl)
@[simp] theorem ss_cons {s : CS} {ss : CSs} : (evSs cl wf (.cons s ss) σ m).to Q = (evS cl wf s σ m).to (nxt (fun σ m => (evSs cl wf ss σ m).to Q) Q) := by
  simp only [evSs, to_bind]
  congr; funext r m; cases r <;> rfl
@[simp] theorem s_name {i : Nat} {e : CE} : (evS cl wf (.asg (.name i) e) σ m).to Q = (evE cl e σ m).to fun d m => Q (.inl (σ.set i (some d))) m := by simp only [evS, stT, to_bind, to_ok]
@[simp] theorem seqAt_tup {ds : List D} : seqAt m (.tup ds) = some ds := (rfl)
@[simp] theorem s_names {is : List Nat} {e : CE} : (evS cl wf (.asg (.names is) e) σ m).to Q = (evE cl e σ m).to fun d m => OX (seqAt m d) fun ds => ∃ σ', setAll is ds σ = some σ' ∧ Q (.inl σ') m := by
  simp only [evS, stT, to_bind, to_ok]
  congr; funext d m
  cases seqAt m d with
  | none => simp [OX]
  | some ds => simp [to_opt]
@[simp] theorem s_sub {o i e : CE} : (evS cl wf (.asg (.sub o i) e) σ m).to Q = (evE cl e σ m).to fun d m => (evE cl o σ m).to fun x m => (evE cl i σ m).to fun y m => ∃ m', putAt x y d m = some m' ∧ Q (.inl σ) m' := by
  simp only [evS, stT, to_bind, to_ok]
  congr; funext d m; congr; funext x m; congr; funext y m
  cases putAt x y d m <;> simp
@[simp] theorem s_par {i j : Nat} {a b : CE} : (evS cl wf (.par i j a b) σ m).to Q = (evE cl a σ m).to fun x m => (evE cl b σ m).to fun y m => Q (.inl ((σ.set i (some x)).set j (some y))) m := by simp only [evS, to_bind, to_ok]
@[simp] theorem s_ex {e : CE} : (evS cl wf (.ex e) σ m).to Q = (evE cl e σ m).to fun _ m => Q (.inl σ) m := by simp only [evS, to_bind, to_ok]
@[simp] theorem s_ret {e : CE} : (evS cl wf (.ret e) σ m).to Q = (evE cl e σ m).to fun d m => Q (.inr d) m := by simp only [evS, to_bind, to_ok]
@[simp] theorem s_retN : (evS cl wf .retN σ m).to Q = Q (.inr .non) m := by simp only [evS, to_ok]
@[simp] theorem s_pass : (evS cl wf .pass σ m).to Q = Q (.inl σ) m := by simp only [evS, to_ok]
@[simp] theorem s_ite {c : CE} {t f : CSs} : (evS cl wf (.ite c t f) σ m).to Q = (evE cl c σ m).to fun x m => x.ift ((evSs cl wf t σ m).to Q) ((evSs cl wf f σ m).to Q) := by
  simp only [evS, to_bind]
  congr; funext x m; cases x with
  | bl b => cases b <;> simp [D.ift]
  | _ => rfl
/-- while by a word that counts down -/
theorem s_whl {c : CE} {b : CSs} (I : Nat → Sl → Mu → Prop) (k : Nat) (hk : k < wf) (h0 : I k σ m)
    (hs : ∀ (k : Nat) (σ : Sl) (m : Mu), I k σ m → (evE cl c σ m).to fun x m => x.ift ((evSs cl wf b σ m).to (nxt (fun σ' m' => ∃ k', k' < k ∧ I k' σ' m') Q)) (Q (.inl σ) m)) :
    (evS cl wf (.whl c b) σ m).to Q := by
  simp only [evS]
  have go : ∀ (n k : Nat), k < n → ∀ σ m, I k σ m → (whileN (evE cl c) (evSs cl wf b) n σ m).to Q := by
    intro n
    induction n with
    | zero => intro k h; omega
    | succ n ih =>
      intro k h σ m hi
      unfold whileN
      rw [to_bind]
      refine (hs k σ m hi).mono fun x m hx => ?_
      cases x with
      | bl t =>
        cases t with
        | false => exact hx
        | true =>
          simp only [D.ift] at hx
          rw [to_bind]
          refine hx.mono fun r m hr => ?_
          cases r with
          | inl σ' =>
            obtain ⟨k', h1, h2⟩ := hr
            exact ih k' (by omega) σ' m h2
          | inr d => exact hr
      | _ => exact hx.elim
  exact go wf k hk σ m h0
end
def Wk.gives (w : Wk) (its : List D) (m : Mu) : Prop := (∀ i, i < its.length → w.item i m = its[i]?) ∧ w.stops its.length m = true
/-- for by a word of the turn -/
theorem to_turnsS {w : Wk} {body : D → Sl → Mu → R (Sl ⊕ D)} {its : List D} {Q : Sl ⊕ D → Mu → Prop} (I : Nat → Sl → Mu → Prop) (hg : ∀ i σ m, I i σ m → w.gives its m)
    (hs : ∀ i d σ m, its[i]? = some d → I i σ m → (body d σ m).to (nxt (fun σ' m' => I (i + 1) σ' m') Q)) (he : ∀ σ m, I its.length σ m → Q (.inl σ) m) :
    ∀ (k i : Nat) (σ : Sl) (m : Mu), i + k = its.length → I i σ m → (turnsS w body k i σ m).to Q
  | 0, i, σ, m, e, h => by
    have e : i = its.length := by omega
    subst e
    unfold turnsS
    rw [(hg _ _ _ h).2]
    exact he σ m h
  | k + 1, i, σ, m, e, h => by
    unfold turnsS
    have hi : i < its.length := by omega
    have e2 : its[i]? = some its[i] := List.getElem?_eq_getElem hi
    rw [(hg _ _ _ h).1 i hi, e2]
    simp only [to_bind]
    refine (hs i _ σ m e2 h).mono fun r m' hr => ?_
    cases r with
    | inl σ' => exact to_turnsS I hg hs he k (i + 1) σ' m' (by omega) hr
    | inr d => exact hr
theorem s_for {it : CI} {t : List Nat} {b : CSs} {Q : Sl ⊕ D → Mu → Prop} (its : List D) (I : Nat → Sl → Mu → Prop)
    (h0 : (evI cl it σ m).to fun wn m => wn.2 = its.length ∧ I 0 σ m ∧ ∀ i σ m, I i σ m → wn.1.gives its m)
    (hs : ∀ i d σ m, its[i]? = some d → I i σ m → ∃ σ', bindT t d m σ = some σ' ∧ (evSs cl wf b σ' m).to (nxt (fun σ' m' => I (i + 1) σ' m') Q))
    (he : ∀ σ m, I its.length σ m → Q (.inl σ) m) : (evS cl wf (.for_ it t b) σ m).to Q := by
  simp only [evS, to_bind]
  refine h0.mono fun wn m1 h => ?_
  obtain ⟨h1, h2, h3⟩ := h
  refine to_turnsS I h3 (fun i d σ m e hi => ?_) he wn.2 0 σ m1 (by omega) h2
  obtain ⟨σ', e1, e2⟩ := hs i d σ m e hi
  simp only [e1]
  exact e2
/-- for in two: what it walks, then the turns -/
def FT (cl : Nat → List D → Mu → R D) (wf : Nat) (t : List Nat) (b : CSs) (w : Wk) (n : Nat) (σ : Sl) (m : Mu) (Q : Sl ⊕ D → Mu → Prop) : Prop :=
  (turnsS w (fun d σ m2 => match bindT t d m2 σ with | none => .no | some σ' => evSs cl wf b σ' m2) n 0 σ m).to Q
theorem s_forE {it : CI} {t : List Nat} {b : CSs} {Q : Sl ⊕ D → Mu → Prop} : (evS cl wf (.for_ it t b) σ m).to Q = (evI cl it σ m).to fun wn m1 => FT cl wf t b wn.1 wn.2 σ m1 Q := by
  simp only [evS, to_bind]; rfl
theorem ft_of {t : List Nat} {b : CSs} {w : Wk} {n : Nat} {Q : Sl ⊕ D → Mu → Prop} (its : List D) (I : Nat → Sl → Mu → Prop) (hn : n = its.length) (hi : I 0 σ m) (hg : ∀ i σ m, I i σ m → w.gives its m)
    (hs : ∀ i d σ m, its[i]? = some d → I i σ m → ∃ σ', bindT t d m σ = some σ' ∧ (evSs cl wf b σ' m).to (nxt (fun σ' m' => I (i + 1) σ' m') Q))
    (he : ∀ σ m, I its.length σ m → Q (.inl σ) m) : FT cl wf t b w n σ m Q := by
  refine to_turnsS I hg (fun i d σ m e hi => ?_) he n 0 σ m (by omega) hi
  obtain ⟨σ', e1, e2⟩ := hs i d σ m e hi
  simp only [e1]
  exact e2
/-- .. over what stands in a name -/
theorem s_forV {it : CI} {t : List Nat} {b : CSs} {Q : Sl ⊕ D → Mu → Prop} (w : Wk) (its : List D) (I : Nat → Sl → Mu → Prop)
    (h0 : (evI cl it σ m).to fun wn m1 => wn.1 = w ∧ wn.2 = its.length ∧ m1 = m) (hi : I 0 σ m) (hg : ∀ i σ m, I i σ m → w.gives its m)
    (hs : ∀ i d σ m, its[i]? = some d → I i σ m → ∃ σ', bindT t d m σ = some σ' ∧ (evSs cl wf b σ' m).to (nxt (fun σ' m' => I (i + 1) σ' m') Q))
    (he : ∀ σ m, I its.length σ m → Q (.inl σ) m) : (evS cl wf (.for_ it t b) σ m).to Q :=
  s_for its I (h0.mono fun wn m1 h => by
    obtain ⟨h1, h2, h3⟩ := h
    subst h3
    exact ⟨h2, hi, fun i σ m z => by rw [h1]; exact hg i σ m z⟩) hs he
@[simp] theorem evI_seq {e : CE} {Q : Wk × Nat → Mu → Prop} : (evI cl (.seq e) σ m).to Q = (evE cl e σ m).to fun x m => OX (srcOf x m) fun p => Q (.seq p.1, p.2) m := by
  simp only [← ox_eq]
  simp only [evI, to_bind, to_opt]
  congr; funext x m; cases srcOf x m <;> simp
@[simp] theorem evI_rng1 {e : CE} {Q : Wk × Nat → Mu → Prop} : (evI cl (.rng1 e) σ m).to Q = (evE cl e σ m).to fun x m => ∃ j, x = .int j ∧ boundOk j = true ∧ Q (.rngN 0 1 j.toNat, j.toNat) m := by
  simp only [evI, to_bind]
  congr; funext x m; cases x <;> simp
  split <;> simp [*]
@[simp] theorem evI_rng2 {a b : CE} {Q : Wk × Nat → Mu → Prop} : (evI cl (.rng2 a b) σ m).to Q = (evE cl a σ m).to fun x m => (evE cl b σ m).to fun y m => ∃ i j, x = .int i ∧ y = .int j ∧ (boundOk i && boundOk j) = true ∧ Q (.rngN i 1 (j - i).toNat, (j - i).toNat) m := by
  simp only [evI, to_bind]
  congr; funext x m; congr; funext y m; cases x <;> cases y <;> first | (simp; done) | skip
  split
  · subst_vars; split
    · simp_all
    · simp_all
  · simp_all
@[simp] theorem evI_enum {e : CE} {Q : Wk × Nat → Mu → Prop} : (evI cl (.enum e) σ m).to Q = (evE cl e σ m).to fun x m => OX (srcOf x m) fun p => Q (.enum p.1, p.2) m := by
  simp only [← ox_eq]
  simp only [evI, to_bind, to_opt]
  congr; funext x m; cases srcOf x m <;> simp
@[simp] theorem evI_rev {e : CE} {Q : Wk × Nat → Mu → Prop} : (evI cl (.rev e) σ m).to Q = (evE cl e σ m).to fun x m => OX (srcOf x m) fun p => Q (.rev p.1 p.2, p.2) m := by
  simp only [← ox_eq]
  simp only [evI, to_bind, to_opt]
  congr; funext x m; cases srcOf x m <;> simp
end
def Kp (x : Nat → Prop) (m m' : Mu) : Prop := m.length ≤ m'.length ∧ ∀ l, l < m.length → ¬ x l → m'[l]? = m[l]?
abbrev nox : Nat → Prop := fun _ => False
section
variable {x y : Nat → Prop} {m m1 m2 : Mu}
theorem Kp.refl : Kp x m m := ⟨Nat.le_refl _, fun _ _ _ => rfl⟩
theorem Kp.trans (a : Kp x m m1) (b : Kp x m1 m2) : Kp x m m2 := ⟨Nat.le_trans a.1 b.1, fun l h hx => (b.2 l (Nat.lt_of_lt_of_le h a.1) hx).trans (a.2 l h hx)⟩
theorem Kp.weak (a : Kp x m m1) (h : ∀ l, x l → y l) : Kp y m m1 := ⟨a.1, fun l hl hy => a.2 l hl fun z => hy (h l z)⟩
theorem Kp.of (a : Kp nox m m1) : Kp x m m1 := a.weak fun _ z => z.elim
theorem Kp.new {c : Mu} : Kp x m (m ++ c) := ⟨by simp, fun l h _ => List.getElem?_append_left h⟩
theorem Kp.at_ (a : Kp x m m1) {l : Nat} {c : Cell} (h : m[l]? = some c) (hx : ¬ x l) : m1[l]? = some c := by
  rw [a.2 l (List.getElem?_eq_some_iff.mp h).1 hx]; exact h
/-- what was made since may change -/
theorem Kp.fresh (a : Kp x m m1) (b : Kp y m1 m2) (h : ∀ l, y l → m.length ≤ l ∨ x l) : Kp x m m2 := by
  refine ⟨Nat.le_trans a.1 b.1, fun l hl hx => ?_⟩
  rw [b.2 l (Nat.lt_of_lt_of_le hl a.1) fun z => (h l z).elim (fun q => by omega) hx]
  exact a.2 l hl hx
/-- a cell made since is written -/
theorem Kp.set (a : Kp x m m1) {l : Nat} {c : Cell} (h : m.length ≤ l ∨ x l) : Kp x m (m1.set l c) := by
  refine ⟨by simpa using a.1, fun k hk hx => ?_⟩
  have hne : l ≠ k := by
    rintro rfl
    rcases h with h | h
    · omega
    · exact hx h
  rw [List.getElem?_set_ne hne]
  exact a.2 k hk hx
end
end Mn
end

section
set_option Elab.async false
set_option linter.all false
set_option maxRecDepth 100000
set_option autoImplicit false
namespace Mn
open PySem
section
variable {cl : Nat → List D → Mu → R D} {wf : Nat} {σ : Sl} {m : Mu}
theorem appD_at {l : Nat} {ds : List D} {v : D} {Q : D → Mu → Prop} (h : m[l]? = some (.lst ds)) (hs : ds.length ≤ 1000000) (q : Q .non (m.set l (.lst (ds ++ [v])))) : (appD (.loc l) v m).to Q := by
  have hz : szOk ds.length = true := by rw [szOk_eq]; exact decide_eq_true hs
  unfold appD
  simp only [h, hz, if_true]
  exact q
theorem isL_at {l : Nat} {ds : List D} (h : m[l]? = some (.lst ds)) : isL (.loc l) m = true := by
  unfold isL; simp only [h]
theorem to_turns {w : Wk} {body : D → Unit → Mu → R Unit} {its : List D} {Q : Unit → Mu → Prop} (I : Nat → Mu → Prop) (hg : ∀ i m, I i m → w.gives its m)
    (hs : ∀ i d m, its[i]? = some d → I i m → (body d () m).to (fun _ m' => I (i + 1) m')) (he : ∀ m, I its.length m → Q () m) :
    ∀ (k i : Nat) (m : Mu), i + k = its.length → I i m → (turns w body k i () m).to Q
  | 0, i, m, e, h => by
    have e : i = its.length := by omega
    subst e
    unfold turns
    rw [(hg _ _ h).2]
    exact he m h
  | k + 1, i, m, e, h => by
    unfold turns
    have hi : i < its.length := by omega
    have e2 : its[i]? = some its[i] := List.getElem?_eq_getElem hi
    rw [(hg _ _ h).1 i hi, e2]
    simp only [to_bind]
    refine (hs i _ m e2 h).mono fun r m' hr => ?_
    exact to_turns I hg hs he k (i + 1) m' (by omega) hr
theorem ev_comp {it : CI} {tg own : List Nat} {e : CE} {Q : D → Mu → Prop} (x : Nat → Prop) (J : Mu → Prop) (L : Nat) (its : List D) (P : Nat → D → D → Prop)
    (hx : ∀ l, x l → l < L) (hn : ∀ m2 c, J m2 → J (m2 ++ [c])) (hw : ∀ m2 l c, J m2 → L ≤ l → J (m2.set l c)) (hL : ∀ m2, J m2 → L ≤ m2.length) (hsz : its.length ≤ 1000000)
    (h1 : (evI cl it σ m).to fun wn m1 => wn.2 = its.length ∧ J m1 ∧ ∀ m2, J m2 → wn.1.gives its m2)
    (h2 : ∀ i d m2, its[i]? = some d → J m2 → ∃ σ', bindT tg d m2 (wipeD σ own) = some σ' ∧ (evE cl e σ' m2).to fun y m3 => P i d y ∧ J m3 ∧ Kp x m2 m3)
    (h3 : ∀ l ys m', J m' → L ≤ l → m'[l]? = some (.lst ys) → ys.length = its.length → (∀ i d y, its[i]? = some d → ys[i]? = some y → P i d y) → Q (.loc l) m') :
    (evE cl (.comp it tg own none e) σ m).to Q := by
  simp only [evE, to_bind, to_nox]
  refine h1.mono fun wn m1 hh => ?_
  obtain ⟨e1, j1, g1⟩ := hh
  refine to_turns (its := its) (fun i m2 => J m2 ∧ L ≤ m1.length ∧ ∃ ys, m2[m1.length]? = some (.lst ys) ∧ ys.length = i ∧ ∀ k d y, its[k]? = some d → ys[k]? = some y → P k d y)
    (fun i m2 hi => g1 m2 hi.1) (fun i d m2 hd hi => ?_) (fun m2 hi => ?_) wn.2 0 _ (by omega) ⟨hn _ _ j1, hL _ j1, [], by simp, rfl, fun k d y _ z => by simp at z⟩
  · obtain ⟨hj, hL1, ys, q1, q2, q3⟩ := hi
    obtain ⟨σ', b1, b2⟩ := h2 i d m2 hd hj
    simp only [b1, evC, to_bind, to_ok, if_true, to_nox]
    refine b2.mono fun y m3 hy => ?_
    obtain ⟨p1, p2, p3⟩ := hy
    have hlt : i < its.length := (List.getElem?_eq_some_iff.mp hd).1
    have q4 : m3[m1.length]? = some (.lst ys) := p3.at_ q1 fun z => by have := hx _ z; omega
    refine appD_at q4 (by omega) ⟨hw _ _ _ p2 hL1, hL1, ys ++ [y], ?_, by simp [q2], fun k d' y' hk hy' => ?_⟩
    · rw [List.getElem?_set_self (List.getElem?_eq_some_iff.mp q4).1]
    · by_cases hki : k < ys.length
      · rw [List.getElem?_append_left hki] at hy'
        exact q3 k d' y' hk hy'
      · have hk2 : k = i := by
          have := (List.getElem?_eq_some_iff.mp hy').1
          simp at this; omega
        subst hk2
        rw [List.getElem?_append_right (by omega)] at hy'
        simp [q2] at hy'
        rw [hd] at hk; cases hk
        rw [← hy']; exact p1
  · obtain ⟨hj, hL1, ys, q1, q2, q3⟩ := hi
    simp only [to_ok]
    exact h3 _ ys m2 hj hL1 q1 q2 q3
/-- .. whose items are made by a function -/
theorem ev_compF {it : CI} {tg own : List Nat} {e : CE} {Q : D → Mu → Prop} (its : List D) (f : D → D) (hsz : its.length ≤ 1000000)
    (h1 : (evI cl it σ m).to fun wn m1 => wn.2 = its.length ∧ Kp nox m m1 ∧ ∀ m2, Kp nox m m2 → wn.1.gives its m2)
    (h2 : ∀ d m2, d ∈ its → Kp nox m m2 → ∃ σ', bindT tg d m2 (wipeD σ own) = some σ' ∧ (evE cl e σ' m2).to fun y m3 => y = f d ∧ Kp nox m2 m3)
    (h3 : ∀ l m', Kp nox m m' → m.length ≤ l → m'[l]? = some (.lst (its.map f)) → Q (.loc l) m') :
    (evE cl (.comp it tg own none e) σ m).to Q := by
  refine ev_comp nox (Kp nox m) m.length its (fun _ d y => y = f d) (fun _ z => z.elim) (fun m2 c h => h.trans .new) (fun m2 l c h hl => h.set (.inl hl)) (fun m2 h => h.1) hsz h1
    (fun i d m2 hd hk => ?_) fun l ys m' hk hl hy hlen hp => ?_
  · obtain ⟨σ', b1, b2⟩ := h2 d m2 (List.mem_of_getElem? hd) hk
    exact ⟨σ', b1, b2.mono fun y m3 z => ⟨z.1, hk.trans z.2, z.2⟩⟩
  · have e : ys = its.map f := by
      apply List.ext_getElem?
      intro i
      rw [List.getElem?_map]
      cases e1 : its[i]? with
      | none =>
        have : its.length ≤ i := by simpa using e1
        simp; omega
      | some d =>
        have hi : i < ys.length := by rw [hlen]; exact (List.getElem?_eq_some_iff.mp e1).1
        have e2 : ys[i]? = some ys[i] := List.getElem?_eq_getElem hi
        rw [e2, hp i d _ e1 e2]; rfl
    exact h3 l m' hk hl (by rw [← e]; exact hy)
/-- .. over the images of a list -/
theorem ev_compM {α : Type} {it : CI} {tg own : List Nat} {e : CE} {Q : D → Mu → Prop} (as : List α) (g f : α → D) (hsz : as.length ≤ 1000000)
    (h1 : (evI cl it σ m).to fun wn m1 => wn.2 = as.length ∧ Kp nox m m1 ∧ ∀ m2, Kp nox m m2 → wn.1.gives (as.map g) m2)
    (h2 : ∀ a m2, a ∈ as → Kp nox m m2 → ∃ σ', bindT tg (g a) m2 (wipeD σ own) = some σ' ∧ (evE cl e σ' m2).to fun y m3 => y = f a ∧ Kp nox m2 m3)
    (h3 : ∀ l m', Kp nox m m' → m.length ≤ l → m'[l]? = some (.lst (as.map f)) → Q (.loc l) m') :
    (evE cl (.comp it tg own none e) σ m).to Q := by
  refine ev_comp nox (Kp nox m) m.length (as.map g) (fun i _ y => ∃ a, as[i]? = some a ∧ y = f a) (fun _ z => z.elim) (fun m2 c h => h.trans .new) (fun m2 l c h hl => h.set (.inl hl)) (fun m2 h => h.1) (by simpa using hsz) (by simpa using h1)
    (fun i d m2 hd hk => ?_) fun l ys m' hk hl hy hlen hp => ?_
  · rw [List.getElem?_map] at hd
    cases e1 : as[i]? with
    | none => rw [e1] at hd; cases hd
    | some a =>
      rw [e1] at hd; cases hd
      obtain ⟨σ', b1, b2⟩ := h2 a m2 (List.mem_of_getElem? e1) hk
      exact ⟨σ', b1, b2.mono fun y m3 z => ⟨⟨a, rfl, z.1⟩, hk.trans z.2, z.2⟩⟩
  · have e : ys = as.map f := by
      rw [List.length_map] at hlen
      apply List.ext_getElem?
      intro i
      rw [List.getElem?_map]
      cases e1 : as[i]? with
      | none =>
        have : as.length ≤ i := by simpa using e1
        simp; omega
      | some a =>
        have hi : i < ys.length := by rw [hlen]; exact (List.getElem?_eq_some_iff.mp e1).1
        have e2 : ys[i]? = some ys[i] := List.getElem?_eq_getElem hi
        obtain ⟨b, hb1, hb2⟩ := hp i (g a) _ (by rw [List.getElem?_map, e1]; rfl) e2
        rw [e1] at hb1; cases hb1
        rw [e2, hb2]; rfl
    exact h3 l m' hk hl (by rw [← e]; exact hy)
theorem gives_st (ds : List D) (m : Mu) : (Wk.seq (.st ds)).gives ds m := ⟨fun i _ => rfl, by simp [Wk.stops, Src.all]⟩
theorem gives_dy {l : Nat} {ds : List D} (h : listAt m l = some ds) : (Wk.seq (.dy l)).gives ds m := ⟨fun i _ => by simp [Wk.item, Src.all, h], by simp [Wk.stops, Src.all, h]⟩
def enumD (ds : List D) : List D := ds.mapIdx fun i d => .tup [.int i, d]
theorem gives_enum {l : Nat} {ds : List D} (h : listAt m l = some ds) : (Wk.enum (.dy l)).gives (enumD ds) m :=
  ⟨fun i hi => by simp [Wk.item, Src.all, h, enumD], by simp [Wk.stops, Src.all, h, enumD]⟩
theorem gives_enumT (ds : List D) (m : Mu) : (Wk.enum (.st ds)).gives (enumD ds) m :=
  ⟨fun i hi => by simp [Wk.item, Src.all, enumD], by simp [Wk.stops, Src.all, enumD]⟩
def rngD (n : Nat) : List D := (List.range n).map fun (i : Nat) => .int (i : Int)
theorem gives_rng (n : Nat) (m : Mu) : (Wk.rngN 0 1 n).gives (rngD n) m := by
  refine ⟨fun i hi => ?_, by simp [Wk.stops, rngD]⟩
  have : i < n := by simpa [rngD] using hi
  simp [Wk.item, rngD, this, List.getElem?_range]
theorem gives_rev (ds : List D) (m : Mu) : (Wk.rev (.st ds) ds.length).gives ds.reverse m := by
  refine ⟨fun i hi => ?_, by simp [Wk.stops]⟩
  have hi : i < ds.length := by simpa using hi
  simp only [Wk.item, Src.all, Option.bind_some, if_pos hi]
  rw [List.getElem?_reverse hi]
@[simp] theorem srcOf_tup {ds : List D} : srcOf (.tup ds) m = some (.st ds, ds.length) := (rfl)
theorem srcOf_loc {l : Nat} {ds : List D} (h : listAt m l = some ds) : srcOf (.loc l) m = some (.dy l, ds.length) := by simp [srcOf, h]
theorem listAt_lst {l : Nat} {ds : List D} (h : m[l]? = some (.lst ds)) : listAt m l = some ds := by simp [listAt, h]
theorem listAt_frz {l : Nat} {ds : List D} (h : m[l]? = some (.frz ds)) : listAt m l = some ds := by simp [listAt, h]
end
section
variable {m : Mu} {Q : D → Mu → Prop} {i j : Int}
@[simp] theorem op_add : (opD .add (.int i) (.int j) m).to Q = Q (.int (i + j)) m := (rfl)
@[simp] theorem op_sub : (opD .sub (.int i) (.int j) m).to Q = Q (.int (i - j)) m := (rfl)
@[simp] theorem op_mul : (opD .mul (.int i) (.int j) m).to Q = (mulOk i j = true ∧ Q (.int (i * j)) m) := by simp only [opD]; split <;> simp [*]
@[simp] theorem op_div : (opD .fdiv (.int i) (.int j) m).to Q = (divOk j = true ∧ Q (.int (i.fdiv j)) m) := by simp only [opD]; split <;> simp [*]
@[simp] theorem op_mod : (opD .mod (.int i) (.int j) m).to Q = (j ≠ 0 ∧ Q (.int (i.fmod j)) m) := by simp only [opD]; split <;> simp_all
@[simp] theorem op_pow : (opD .pow (.int i) (.int j) m).to Q = (powOk i j = true ∧ Q (.int (i ^ j.toNat)) m) := by simp only [opD]; split <;> simp [*]
@[simp] theorem op_addT {xs ys : List D} : (opD .add (.tup xs) (.tup ys) m).to Q = (szOk (xs.length + ys.length) = true ∧ Q (.tup (xs ++ ys)) m) := by
  simp only [opD, to_newT, List.length_append]
@[simp] theorem op_addS {x y : Str} : (opD .add (.str x) (.str y) m).to Q = (szOk (x.length + y.length) = true ∧ Q (.str (x ++ y)) m) := by simp only [opD]; split <;> simp [*]
theorem op_addL {a b : Nat} {xs ys : List D} (h1 : m[a]? = some (.lst xs)) (h2 : m[b]? = some (.lst ys)) : (opD .add (.loc a) (.loc b) m).to Q = (szOk (xs.length + ys.length) = true ∧ Q (.loc m.length) (m ++ [.lst (xs ++ ys)])) := by
  simp only [opD, h1, h2, to_newL, List.length_append]
theorem rep_iff {k : Int} {n : Nat} : repOk k n = true ↔ -1000 ≤ k ∧ k ≤ 1000 ∧ n ≤ 1000 := by
  rw [repOk_eq]; simp [Bool.and_eq_true]
@[simp] theorem op_mulT {xs : List D} {k : Int} : (opD .mul (.tup xs) (.int k) m).to Q = ((-1000 ≤ k ∧ k ≤ 1000 ∧ xs.length ≤ 1000) ∧ szOk (repD k xs).length = true ∧ Q (.tup (repD k xs)) m) := by
  simp only [opD]
  split
  · rename_i h; rw [rep_iff] at h; simp [to_newT, h]
  · rename_i h; rw [rep_iff] at h; simp only [to_no, eq_iff_iff, false_iff]; intro z; exact h z.1
theorem op_mulL {a : Nat} {xs : List D} {k : Int} (h1 : m[a]? = some (.lst xs)) : (opD .mul (.loc a) (.int k) m).to Q = ((-1000 ≤ k ∧ k ≤ 1000 ∧ xs.length ≤ 1000) ∧ szOk (repD k xs).length = true ∧ Q (.loc m.length) (m ++ [.lst (repD k xs)])) := by
  simp only [opD, h1]
  split
  · rename_i h; rw [rep_iff] at h; simp [to_newL, h]
  · rename_i h; rw [rep_iff] at h; simp only [to_no, eq_iff_iff, false_iff]; intro z; exact h z.1
@[simp] theorem cmp_lt : cmpD .lt (.int i) (.int j) m = some (decide (i < j)) := (rfl)
@[simp] theorem cmp_le : cmpD .le (.int i) (.int j) m = some (decide (i ≤ j)) := (rfl)
@[simp] theorem cmp_gt : cmpD .gt (.int i) (.int j) m = some (decide (j < i)) := (rfl)
@[simp] theorem cmp_ge : cmpD .ge (.int i) (.int j) m = some (decide (j ≤ i)) := (rfl)
theorem eqv_int : PyData.eqv (.int i) (.int j) = decide (i = j) := by simp [PyData.eqv]; rfl
theorem shaped_int : SeqAt.shaped (.int i) = true := by simp [SeqAt.shaped, PyData.canLay0, PyData.depth]
@[simp] theorem eqD_int : eqD m (.int i) (.int j) = some (decide (i = j)) := by
  simp only [eqD, tree, reify, shaped_int, Bool.and_self, if_true, eqv_int]
@[simp] theorem cmp_eq {a b : D} : cmpD .eq a b m = eqC m a b := (rfl)
@[simp] theorem cmp_ne {a b : D} : cmpD .ne a b m = (eqC m a b).map (!·) := (rfl)
@[simp] theorem eqC_str {x y : Str} : eqC m (.str x) (.str y) = some (decide (x = y)) := (rfl)
@[simp] theorem eqC_int : eqC m (.int i) (.int j) = some (decide (i = j)) := eqD_int (m := m)
@[simp] theorem eqC_tup {xs : List D} {d : D} : eqC m (.tup xs) d = eqD m (.tup xs) d := by cases d <;> rfl
@[simp] theorem eqC_loc {a : Nat} {d : D} : eqC m (.loc a) d = eqD m (.loc a) d := by cases d <;> rfl
@[simp] theorem blt_abs : (bltD .abs [.int i] m).to Q = Q (.int i.natAbs) m := by
  have e : (if i < 0 then -i else i) = (i.natAbs : Int) := by split <;> omega
  simp only [bltD, to_ok, e]
@[simp] theorem blt_intb {b : Bool} : (bltD .int [.bl b] m).to Q = Q (.int (if b then 1 else 0)) m := (rfl)
@[simp] theorem blt_lenT {ds : List D} : (bltD .len [.tup ds] m).to Q = Q (.int ds.length) m := (rfl)
theorem blt_lenL {l : Nat} {ds : List D} (h : listAt m l = some ds) : (bltD .len [.loc l] m).to Q = Q (.int ds.length) m := by simp [bltD, seqAt, h]
@[simp] theorem blt_max : (bltD .max2 [.int i, .int j] m).to Q = Q (.int (max i j)) m := by
  have e : (if j > i then j else i) = max i j := by split <;> omega
  simp only [bltD, to_ok, e]
@[simp] theorem blt_tupT {ds : List D} : (bltD .tuple [.tup ds] m).to Q = Q (.tup ds) m := (rfl)
theorem blt_tupL {l : Nat} {ds : List D} (h : listAt m l = some ds) : (bltD .tuple [.loc l] m).to Q = (szOk ds.length = true ∧ Q (.tup ds) m) := by simp [bltD, h, to_newT]
theorem blt_list {d : D} {ds : List D} (h : seqAt m d = some ds) : (bltD .list [d] m).to Q = (szOk ds.length = true ∧ Q (.loc m.length) (m ++ [.lst ds])) := by
  cases d <;> simp_all [bltD, seqAt, to_newL]
end
/-- less than 2^b by its amount -/
def Bd (b : Nat) (i : Int) : Prop := i.natAbs < 2 ^ b
theorem log_lt {b : Nat} {i : Int} (hb : 0 < b) (h : Bd b i) : i.natAbs.log2 < b := by
  by_cases z : i.natAbs = 0
  · rw [z]; simpa using hb
  · exact (Nat.log2_lt z).mpr h
theorem mul_ok {b c : Nat} {i j : Int} (h1 : Bd b i) (h2 : Bd c j) (h : b + c ≤ 900000) : mulOk i j = true := by
  have e1 : i.natAbs.log2 ≤ b := by
    by_cases z : i.natAbs = 0
    · rw [z]; simp
    · exact Nat.le_of_lt ((Nat.log2_lt z).mpr h1)
  have e2 : j.natAbs.log2 ≤ c := by
    by_cases z : j.natAbs = 0
    · rw [z]; simp
    · exact Nat.le_of_lt ((Nat.log2_lt z).mpr h2)
  rw [mulOk_eq]
  exact decide_eq_true (by omega)
theorem div_ok {b : Nat} {j : Int} (h0 : j ≠ 0) (h2 : Bd b j) (h : b ≤ 9000) : divOk j = true := by
  have z : j.natAbs ≠ 0 := by omega
  have e2 : j.natAbs.log2 < 9000 := Nat.lt_of_lt_of_le ((Nat.log2_lt z).mpr h2) h
  rw [divOk_eq, decide_eq_true h0, decide_eq_true e2]; rfl
theorem Bd.mono {b c : Nat} {i : Int} (h : Bd b i) (hc : b ≤ c) : Bd c i := Nat.lt_of_lt_of_le h (Nat.pow_le_pow_right (by omega) hc)
theorem Bd.mul {b c : Nat} {i j : Int} (h1 : Bd b i) (h2 : Bd c j) : Bd (b + c) (i * j) := by
  unfold Bd at *
  rw [Int.natAbs_mul, Nat.pow_add]
  exact Nat.mul_lt_mul'' h1 h2
theorem Bd.add {b : Nat} {i j : Int} (h1 : Bd b i) (h2 : Bd b j) : Bd (b + 1) (i + j) := by
  unfold Bd at *
  rw [Nat.pow_succ]
  omega
theorem Bd.neg {b : Nat} {i : Int} (h1 : Bd b i) : Bd b (-i) := by unfold Bd at *; simpa using h1
@[simp] theorem sz_iff {n : Nat} : szOk n = true ↔ n ≤ 1000000 := by simp [szOk_eq]
theorem sz_ok {n : Nat} (h : n ≤ 1000000) : szOk n = true := by rw [szOk_eq]; exact decide_eq_true h
end Mn
end

section
set_option Elab.async false
set_option linter.all false
set_option maxRecDepth 100000
set_option autoImplicit false
namespace Mn
open PySem
section
variable {cl : Nat → List D → Mu → R D} {wf : Nat} {σ : Sl} {m : Mu}
@[simp] theorem evI_zip {a b : CE} {Q : Wk × Nat → Mu → Prop} : (evI cl (.zip a b) σ m).to Q = (evE cl a σ m).to fun x m => (evE cl b σ m).to fun y m => OX (srcOf x m) fun p => OX (srcOf y m) fun q => zipOk p.1 q.1 = true ∧ Q (.zip p.1 q.1, min p.2 q.2) m := by
  simp only [← ox_eq]
  simp only [evI, to_bind, to_opt]
  congr; funext x m; congr; funext y m
  cases h : srcOf x m with
  | none => simp
  | some p =>
    cases h2 : srcOf y m with
    | none => simp
    | some q => cases h3 : zipOk p.1 q.1 <;> simp [h3]
@[simp] theorem zipOk_st {xs ys : List D} : zipOk (.st xs) (.st ys) = true := (rfl)
@[simp] theorem zipOk_dy {i j : Nat} : zipOk (.dy i) (.dy j) = true := (rfl)
@[simp] theorem evI_revr {e : CE} {Q : Wk × Nat → Mu → Prop} : (evI cl (.revr e) σ m).to Q = (evE cl e σ m).to fun x m => ∃ j, x = .int j ∧ boundOk j = true ∧ Q (.rngN (j.toNat - 1) (-1) j.toNat, j.toNat) m := by
  simp only [evI, to_bind]
  congr; funext x m; cases x <;> simp
  split <;> simp [*]
theorem gives_zip (xs ys : List D) (m : Mu) : (Wk.zip (.st xs) (.st ys)).gives ((xs.zip ys).map fun p => .tup [p.1, p.2]) m := by
  refine ⟨fun i hi => ?_, ?_⟩
  · simp only [Wk.item, Src.all, Option.bind_some]
    have hi : i < xs.length ∧ i < ys.length := by simp at hi; omega
    rw [List.getElem?_map, List.getElem?_eq_getElem hi.1, List.getElem?_eq_getElem hi.2]
    have : i < (xs.zip ys).length := by simp; omega
    rw [List.getElem?_eq_getElem this]
    simp
  · simp [Wk.stops, Src.all]
    omega
/-- the numbers of a range, from the last one on -/
def rvrD (n : Nat) : List D := (List.range n).map fun (i : Nat) => .int ((n - 1 - i : Nat) : Int)
theorem gives_rvr (n : Nat) (m : Mu) : (Wk.rngN ((n : Int) - 1) (-1) n).gives (rvrD n) m := by
  refine ⟨fun i hi => ?_, by simp [Wk.stops, rvrD]⟩
  have : i < n := by simpa [rvrD] using hi
  simp [Wk.item, rvrD, this, List.getElem?_range]
  omega
/-- a turn of a loop that appends has ended -/
def AppTo (S : Sl → Prop) (L : Nat) (ys : List D) (v : D) (m' : Mu) : Sl → Mu → Prop := fun σ m3 => S σ ∧ ∃ m2, Kp nox m' m2 ∧ m3 = m2.set L (.lst (ys ++ [v]))
theorem app_end {L : Nat} {ys : List D} {v v' : D} {m' m2 : Mu} {S : Sl → Prop} (h : m'[L]? = some (.lst ys)) (k : Kp nox m' m2) (hl : ys.length ≤ 1000000) (hv : v = v') (s : S σ) :
    (appD (.loc L) v' m2).to fun _ m3 => AppTo S L ys v m' σ m3 :=
  appD_at (k.at_ h id) hl ⟨s, m2, k, by rw [hv]⟩
theorem isL_end {L : Nat} {ys : List D} {m' m2 : Mu} (h : m'[L]? = some (.lst ys)) (k : Kp nox m' m2) : isL (.loc L) m2 = true := isL_at (k.at_ h id)
/-- a loop that appends, a thing a turn -/
theorem forApp {t : List Nat} {b : CSs} {w : Wk} {n : Nat} {Q : Sl ⊕ D → Mu → Prop} (L : Nat) (its ys : List D) (G : Nat → D) (S : Sl → Prop) (hn : n = its.length) (hL : m[L]? = some (.lst ys)) (h0 : S σ)
    (hg : ∀ m', Kp (· = L) m m' → w.gives its m')
    (hs : ∀ i d σ' m' Ys v (S' : Sl → Prop), its[i]? = some d → S σ' → Kp (· = L) m m' → m'[L]? = some (.lst Ys) → Ys.length = ys.length + i → v = G i → (∀ σ, S σ → S' σ) →
      ∃ σ2, bindT t d m' σ' = some σ2 ∧ (evSs cl wf b σ2 m').to (nxt (AppTo S' L Ys v m') Q))
    (he : ∀ σ' m', S σ' → Kp (· = L) m m' → m'[L]? = some (.lst (ys ++ (List.range its.length).map G)) → Q (.inl σ') m') : FT cl wf t b w n σ m Q := by
  refine ft_of its (fun i σ' m' => S σ' ∧ Kp (· = L) m m' ∧ m'[L]? = some (.lst (ys ++ (List.range i).map G))) hn ⟨h0, .refl, by simpa using hL⟩ (fun i σ m' h => hg m' h.2.1) (fun i d σ' m' hd h => ?_) fun σ' m' h => he σ' m' h.1 h.2.1 h.2.2
  obtain ⟨σ2, e, b2⟩ := hs i d σ' m' _ _ S hd h.1 h.2.1 h.2.2 (by simp) rfl fun _ z => z
  refine ⟨σ2, e, b2.mono fun r m3 hr => ?_⟩
  cases r with
  | inr d => exact hr
  | inl σ3 =>
    obtain ⟨s3, m2, k2, rfl⟩ := hr
    refine ⟨s3, (h.2.1.trans k2.of).set (.inr rfl), ?_⟩
    have hl := (List.getElem?_eq_some_iff.mp (k2.at_ h.2.2 id)).1
    rw [List.getElem?_set_self hl, List.range_succ, List.map_append, ← List.append_assoc]
    rfl
/-- a comprehension whose word counts the turns -/
theorem ev_compI {it : CI} {tg own : List Nat} {e : CE} {Q : D → Mu → Prop} (x : Nat → Prop) (J : Nat → Mu → Prop) (L : Nat) (its : List D) (P : Nat → D → D → Prop)
    (hx : ∀ l, x l → l < L) (hn : ∀ i m2 c, J i m2 → J i (m2 ++ [c]))
    (hw : ∀ i m2 l ys y, i < its.length → J (i + 1) m2 → L ≤ l → m2[l]? = some (.lst ys) → ys.length = i → (∀ k d y, its[k]? = some d → ys[k]? = some y → P k d y) → J (i + 1) (m2.set l (.lst (ys ++ [y]))))
    (hL : ∀ i m2, J i m2 → L ≤ m2.length) (hsz : its.length ≤ 1000000)
    (h1 : (evI cl it σ m).to fun wn m1 => wn.2 = its.length ∧ J 0 m1 ∧ ∀ i m2, J i m2 → wn.1.gives its m2)
    (h2 : ∀ i d m2, its[i]? = some d → J i m2 → ∃ σ', bindT tg d m2 (wipeD σ own) = some σ' ∧ (evE cl e σ' m2).to fun y m3 => P i d y ∧ J (i + 1) m3 ∧ Kp x m2 m3)
    (h3 : ∀ l ys m', J its.length m' → L ≤ l → m'[l]? = some (.lst ys) → ys.length = its.length → (∀ i d y, its[i]? = some d → ys[i]? = some y → P i d y) → Q (.loc l) m') :
    (evE cl (.comp it tg own none e) σ m).to Q := by
  simp only [evE, to_bind, to_nox]
  refine h1.mono fun wn m1 hh => ?_
  obtain ⟨e1, j1, g1⟩ := hh
  refine to_turns (its := its) (fun i m2 => J i m2 ∧ L ≤ m1.length ∧ ∃ ys, m2[m1.length]? = some (.lst ys) ∧ ys.length = i ∧ ∀ k d y, its[k]? = some d → ys[k]? = some y → P k d y)
    (fun i m2 hi => g1 i m2 hi.1) (fun i d m2 hd hi => ?_) (fun m2 hi => ?_) wn.2 0 _ (by omega) ⟨hn _ _ _ j1, hL _ _ j1, [], by simp, rfl, fun k d y _ z => by simp at z⟩
  · obtain ⟨hj, hL1, ys, q1, q2, q3⟩ := hi
    obtain ⟨σ', b1, b2⟩ := h2 i d m2 hd hj
    simp only [b1, evC, to_bind, to_ok, if_true, to_nox]
    refine b2.mono fun y m3 hy => ?_
    obtain ⟨p1, p2, p3⟩ := hy
    have hlt : i < its.length := (List.getElem?_eq_some_iff.mp hd).1
    have q4 : m3[m1.length]? = some (.lst ys) := p3.at_ q1 fun z => by have := hx _ z; omega
    refine appD_at q4 (by omega) ⟨hw _ _ _ _ _ hlt p2 hL1 q4 q2 q3, hL1, ys ++ [y], ?_, by simp [q2], fun k d' y' hk hy' => ?_⟩
    · rw [List.getElem?_set_self (List.getElem?_eq_some_iff.mp q4).1]
    · by_cases hki : k < ys.length
      · rw [List.getElem?_append_left hki] at hy'
        exact q3 k d' y' hk hy'
      · have hk2 : k = i := by
          have := (List.getElem?_eq_some_iff.mp hy').1
          simp at this; omega
        subst hk2
        rw [List.getElem?_append_right (by omega)] at hy'
        simp [q2] at hy'
        rw [hd] at hk; cases hk
        rw [← hy']; exact p1
  · obtain ⟨hj, hL1, ys, q1, q2, q3⟩ := hi
    simp only [to_ok]
    exact h3 _ ys m2 hj hL1 q1 q2 q3
theorem Kp.cell {m0 m1 : Mu} {c : Cell} (h : Kp (· = m0.length) (m0 ++ [c]) m1) : Kp nox m0 m1 := by
  refine (Kp.new (x := nox) (c := [c])).fresh h fun l hl => .inl (by omega)
end
end Mn
end

section
set_option Elab.async false
set_option linter.all false
set_option maxRecDepth 100000
set_option autoImplicit false
namespace Mn
open PySem
section
variable {α β : Type} {X : Str → List (Str × D) → Mu → Prop}
/-- the evaluation is refused, and X holds of the exception -/
def R.rx (r : R α) (X : Str → List (Str × D) → Mu → Prop) : Prop := match r with | .ex c fs m => X c fs m | _ => False
theorem rx_ex {c : Str} {fs : List (Str × D)} {m : Mu} : (R.ex c fs m : R α).rx X = X c fs m := (rfl)
theorem rx_l {r : R α} {f : α → Mu → R β} (h : r.rx X) : (r.bind f).rx X := by
  cases r with
  | ex c fs m => exact h
  | ok a m => exact h.elim
  | no => exact h.elim
theorem rx_r {r : R α} {f : α → Mu → R β} (h : r.to fun a m => (f a m).rx X) : (r.bind f).rx X := by
  cases r with
  | ok a m => exact h
  | ex c fs m => exact h.elim
  | no => exact h.elim
theorem R.rx.mono {r : R α} {X' : Str → List (Str × D) → Mu → Prop} (h : r.rx X) (f : ∀ c fs m, X c fs m → X' c fs m) : r.rx X' := by
  cases r with
  | ex c fs m => exact f c fs m h
  | ok a m => exact h.elim
  | no => exact h.elim
end
section
variable {cl : Nat → List D → Mu → R D} {wf : Nat} {σ : Sl} {m : Mu} {X : Str → List (Str × D) → Mu → Prop}
theorem rx_tup {es : CEs} (h : (evEs cl es σ m).rx X) : (evE cl (.tup es) σ m).rx X := by simp only [evE]; exact rx_l h
theorem rx_call {f : Nat} {es : CEs} (h : (evEs cl es σ m).to fun ds m => (cl f ds m).rx X) : (evE cl (.call f es) σ m).rx X := by simp only [evE]; exact rx_r h
theorem rx_cons1 {e : CE} {es : CEs} (h : (evE cl e σ m).rx X) : (evEs cl (.cons e es) σ m).rx X := by simp only [evEs]; exact rx_l h
theorem rx_cons2 {e : CE} {es : CEs} (h : (evE cl e σ m).to fun _ m => (evEs cl es σ m).rx X) : (evEs cl (.cons e es) σ m).rx X := by simp only [evEs]; exact rx_r (h.mono fun d m' h' => rx_l h')
theorem rx_s1 {s : CS} {ss : CSs} (h : (evS cl wf s σ m).rx X) : (evSs cl wf (.cons s ss) σ m).rx X := by simp only [evSs]; exact rx_l h
theorem rx_s2 {s : CS} {ss : CSs} (h : (evS cl wf s σ m).to (nxt (fun σ' m' => (evSs cl wf ss σ' m').rx X) fun _ _ => False)) : (evSs cl wf (.cons s ss) σ m).rx X := by
  simp only [evSs]
  refine rx_r (h.mono fun r m' h' => ?_)
  cases r with
  | inl σ' => exact h'
  | inr d => exact h'.elim
theorem rx_ite {c : CE} {t f : CSs} (h : (evE cl c σ m).to fun x m => x.ift ((evSs cl wf t σ m).rx X) ((evSs cl wf f σ m).rx X)) : (evS cl wf (.ite c t f) σ m).rx X := by
  simp only [evS]
  refine rx_r (h.mono fun x m' h' => ?_)
  cases x with
  | bl b => cases b <;> exact h'
  | _ => exact h'.elim
theorem rx_raise {c : Str} {fn : List Str} {es : CEs} (h : (evEs cl es σ m).to fun ds m => (cl 1000000 [] m).to fun _ m => ds.length = fn.length ∧ X c (fn.zip ds).reverse m) : (evS cl wf (.raise c fn es) σ m).rx X := by
  simp only [evS]
  refine rx_r (h.mono fun ds m' h' => rx_r (h'.mono fun _ m'' h'' => ?_))
  rw [if_pos (decide_eq_true h''.1)]
  exact h''.2
theorem rx_ret {e : CE} (h : (evE cl e σ m).rx X) : (evS cl wf (.ret e) σ m).rx X := by simp only [evS]; exact rx_l h
theorem rx_asg {t : CT} {e : CE} (h : (evE cl e σ m).rx X) : (evS cl wf (.asg t e) σ m).rx X := by simp only [evS]; exact rx_l h
theorem rx_exS {e : CE} (h : (evE cl e σ m).rx X) : (evS cl wf (.ex e) σ m).rx X := by simp only [evS]; exact rx_l h
/-- a loop that is left by an exception -/
theorem rx_turnsS {w : Wk} {body : D → Sl → Mu → R (Sl ⊕ D)} {its : List D} (I : Nat → Sl → Mu → Prop) (hg : ∀ i σ m, I i σ m → w.gives its m) (j : Nat) (hj : j < its.length)
    (hs : ∀ i d σ m, i < j → its[i]? = some d → I i σ m → (body d σ m).to (nxt (fun σ' m' => I (i + 1) σ' m') fun _ _ => False)) (he : ∀ d σ m, its[j]? = some d → I j σ m → (body d σ m).rx X) :
    ∀ (k i : Nat) (σ : Sl) (m : Mu), i ≤ j → i + k = its.length → I i σ m → (turnsS w body k i σ m).rx X
  | 0, i, σ, m, hij, e, h => by omega
  | k + 1, i, σ, m, hij, e, h => by
    unfold turnsS
    have hi : i < its.length := by omega
    have e2 : its[i]? = some its[i] := List.getElem?_eq_getElem hi
    rw [(hg _ _ _ h).1 i hi, e2]
    by_cases hh : i = j
    · subst hh
      exact rx_l (he _ σ m e2 h)
    · refine rx_r ((hs i _ σ m (by omega) e2 h).mono fun r m' hr => ?_)
      cases r with
      | inl σ' => exact rx_turnsS I hg j hj hs he k (i + 1) σ' m' (by omega) (by omega) hr
      | inr d => exact hr.elim
theorem rx_for {it : CI} {t : List Nat} {b : CSs} (its : List D) (I : Nat → Sl → Mu → Prop) (j : Nat) (hj : j < its.length)
    (h0 : (evI cl it σ m).to fun wn m => wn.2 = its.length ∧ I 0 σ m ∧ ∀ i σ m, I i σ m → wn.1.gives its m)
    (hs : ∀ i d σ m, i < j → its[i]? = some d → I i σ m → ∃ σ', bindT t d m σ = some σ' ∧ (evSs cl wf b σ' m).to (nxt (fun σ' m' => I (i + 1) σ' m') fun _ _ => False))
    (he : ∀ d σ m, its[j]? = some d → I j σ m → ∃ σ', bindT t d m σ = some σ' ∧ (evSs cl wf b σ' m).rx X) : (evS cl wf (.for_ it t b) σ m).rx X := by
  simp only [evS]
  refine rx_r (h0.mono fun wn m1 h => ?_)
  obtain ⟨h1, h2, h3⟩ := h
  refine rx_turnsS I h3 j hj (fun i d σ m hij e hi => ?_) (fun d σ m e hi => ?_) wn.2 0 σ m1 (Nat.zero_le _) (by omega) h2
  · obtain ⟨σ', e1, e2⟩ := hs i d σ m hij e hi
    simp only [e1]
    exact e2
  · obtain ⟨σ', e1, e2⟩ := he d σ m e hi
    simp only [e1]
    exact e2
theorem s_tryOk {b : Option Nat} {e : CE} {h : Str} {cs : List Str} {i : Nat} {hd : Hd} {u : Option Nat} {Q : Sl ⊕ D → Mu → Prop} (hh : (evE cl e σ m).to fun d m => Q (.inl (setO b d σ)) m) : (evS cl wf (.tryE b e h cs i hd u) σ m).to Q := by
  simp only [evS]
  obtain ⟨d, m', e1, q⟩ := hh.get
  rw [e1]; exact q
theorem s_tryEx {b : Option Nat} {e : CE} {h : Str} {cs : List Str} {i : Nat} {hd : Hd} {u : Option Nat} {Q : Sl ⊕ D → Mu → Prop}
    (hh : (evE cl e σ m).rx fun c fs m => c ∈ cs ∧ uOk u σ = true ∧ ∃ d, hval hd c fs = some d ∧ Q (.inl (unsetD u (σ.set i (some d)))) m) : (evS cl wf (.tryE b e h cs i hd u) σ m).to Q := by
  simp only [evS]
  cases e1 : evE cl e σ m with
  | ok d m' => rw [e1] at hh; exact hh.elim
  | no => rw [e1] at hh; exact hh.elim
  | ex c fs m' =>
    rw [e1] at hh
    obtain ⟨h1, h2, d, h3, h4⟩ := hh
    simp only
    rw [if_pos (by rw [decide_eq_true h1, h2]; rfl), h3]
    exact h4
end
/-- the room that a raise wants -/
theorem probe_ok {P : Pg} {wf n : Nat} {m : Mu} {Q : D → Mu → Prop} (hP : P[1000000]? = none) (hn : 4 ≤ n) (q : Q .non m) : (callN P wf n 1000000 [] m).to Q := by
  obtain ⟨k, rfl⟩ : ∃ k, n = k + 1 := ⟨n - 1, by omega⟩
  unfold callN
  rw [hP]
  simp only
  rw [if_pos (by rw [decide_eq_true (show 3 ≤ k by omega)]; rfl)]
  exact q
end Mn
end

section
set_option Elab.async false
set_option linter.all false
set_option maxRecDepth 100000
set_option autoImplicit false
namespace Mn
open PySem
section
variable {cl : Nat → List D → Mu → R D} {wf : Nat} {σ : Sl} {m : Mu}
theorem take_s {α : Type} {l : List α} {i : Nat} {a : α} (h : l[i]? = some a) : l.take (i + 1) = l.take i ++ [a] := by
  rw [List.take_add_one, h]; rfl
theorem ev_compC {α : Type} {it : CI} {tg own : List Nat} {c e : CE} {Q : D → Mu → Prop} (as : List α) (g f : α → D) (p : α → Bool) (hsz : as.length ≤ 1000000)
    (h1 : (evI cl it σ m).to fun wn m1 => wn.2 = as.length ∧ Kp nox m m1 ∧ ∀ m2, Kp nox m m2 → wn.1.gives (as.map g) m2)
    (h2 : ∀ a m2, a ∈ as → Kp nox m m2 → ∃ σ', bindT tg (g a) m2 (wipeD σ own) = some σ' ∧ (evE cl c σ' m2).to fun x m3 => x = .bl (p a) ∧ Kp nox m2 m3 ∧ (p a = true → (evE cl e σ' m3).to fun y m4 => y = f a ∧ Kp nox m3 m4))
    (h3 : ∀ l m', Kp nox m m' → m.length ≤ l → m'[l]? = some (.lst ((as.filter p).map f)) → Q (.loc l) m') :
    (evE cl (.comp it tg own (some c) e) σ m).to Q := by
  simp only [evE, to_bind, to_nox]
  refine h1.mono fun wn m1 hh => ?_
  obtain ⟨e1, j1, g1⟩ := hh
  refine to_turns (its := as.map g) (fun i m2 => Kp nox m m2 ∧ m.length ≤ m1.length ∧ m2[m1.length]? = some (.lst (((as.take i).filter p).map f)))
    (fun i m2 hi => g1 m2 hi.1) (fun i d m2 hd hi => ?_) (fun m2 hi => ?_) wn.2 0 _ (by rw [List.length_map]; omega) ⟨j1.trans .new, j1.1, by simp⟩
  · obtain ⟨k1, hL, q1⟩ := hi
    rw [List.getElem?_map] at hd
    cases ea : as[i]? with
    | none => rw [ea] at hd; cases hd
    | some a =>
      rw [ea] at hd; cases hd
      obtain ⟨σ', b1, b2⟩ := h2 a m2 (List.mem_of_getElem? ea) k1
      simp only [b1, evC, to_bind, to_ok, to_nox]
      refine b2.mono fun x m3 hx => ?_
      obtain ⟨rfl, k3, hx⟩ := hx
      simp only [to_ok]
      have q3 := k3.at_ q1 id
      have hlen : ((as.take i).filter p).length ≤ i := Nat.le_trans (List.length_filter_le _ _) (by rw [List.length_take]; omega)
      have hi := (List.getElem?_eq_some_iff.mp ea).1
      cases hp : p a with
      | false =>
        simp only [Bool.false_eq_true, if_false, to_ok]
        refine ⟨k1.trans k3, hL, ?_⟩
        rw [take_s ea, List.filter_append, List.filter_cons_of_neg (by rw [hp]; decide), List.filter_nil, List.append_nil]
        exact q3
      | true =>
        simp only [if_true, to_bind, to_nox]
        refine (hx hp).mono fun y m4 hy => ?_
        obtain ⟨rfl, k4⟩ := hy
        have q4 := k4.at_ q3 id
        refine appD_at q4 (by rw [List.length_map]; omega) ?_
        simp only [to_ok]
        refine ⟨((k1.trans k3).trans k4).set (.inl hL), hL, ?_⟩
        rw [List.getElem?_set_self (List.getElem?_eq_some_iff.mp q4).1, take_s ea, List.filter_append, List.filter_cons_of_pos (by rw [hp]), List.filter_nil, List.map_append]
        rfl
  · obtain ⟨k1, hL, q1⟩ := hi
    simp only [to_ok]
    rw [List.length_map, List.take_length] at q1
    exact h3 _ m2 k1 hL q1
end
end Mn
end

section
set_option Elab.async false
set_option linter.all false
set_option maxRecDepth 100000
set_option autoImplicit false
namespace Mn
namespace K78
open PySem
abbrev f_common_divisor : Nat := 0
abbrev f_fraction_of : Nat := 1
abbrev f_fraction_times : Nat := 2
abbrev f_fraction_over : Nat := 3
abbrev f_cut_off : Nat := 4
abbrev f_bottom_for : Nat := 5
abbrev f_tops_by : Nat := 6
abbrev f_poly_made : Nat := 7
abbrev f_poly_sum : Nat := 8
abbrev f_poly_times : Nat := 9
abbrev f_poly_scaled : Nat := 10
abbrev f_lead_turned : Nat := 11
abbrev f_ptimes : Nat := 12
abbrev f_left_without : Nat := 13
abbrev f_with_sign : Nat := 14
abbrev f_pcorner : Nat := 15
abbrev f_pback_of : Nat := 16
abbrev f__law_feed : Nat := 17
abbrev f__law_draw : Nat := 18
abbrev f__law_of : Nat := 19
abbrev f__law_gcd : Nat := 20
abbrev f__law_fraction : Nat := 21
abbrev f__law_cut : Nat := 22
abbrev f__law_plus : Nat := 23
abbrev f__law_product : Nat := 24
abbrev f__law_parts : Nat := 25
abbrev f__law_poly : Nat := 26
abbrev f__law_unit : Nat := 27
abbrev f__law_tables : Nat := 28
abbrev f__law_row : Nat := 29
abbrev f__law_table : Nat := 30
abbrev f__law_orders : Nat := 31
abbrev f__law_corner : Nat := 32
abbrev f__law_with_back : Nat := 33
abbrev f__law_refused : Nat := 34
abbrev f__law_right : Nat := 35
abbrev f_law : Nat := 36
def b_common_divisor_1 : CSs := (.cons (.asg (.name 2) (.op .mod (.var 0) (.var 1))) (.cons (.asg (.name 0) (.var 1)) (.cons (.asg (.name 1) (.var 2)) .nil)))
def p_common_divisor : Fn := ⟨"common_divisor", ["one", "other"], ["one", "other", "left"], (.cons (.asg (.name 0) (.blt .abs (.cons (.var 0) .nil))) (.cons (.asg (.name 1) (.blt .abs (.cons (.var 1) .nil))) (.cons (.whl (.cmp .gt (.var 1) (.con (.int 0))) b_common_divisor_1) (.cons (.ret (.var 0)) .nil))))⟩
def p_fraction_of : Fn := ⟨"fraction_of", ["top", "bottom"], ["top", "bottom", "common"], (.cons (.asg (.name 2) (.call f_common_divisor (.cons (.var 0) (.cons (.var 1) .nil)))) (.cons (.ite (.cmp .lt (.var 1) (.con (.int 0))) (.cons (.asg (.name 2) (.neg (.var 2))) .nil) .nil) (.cons (.ret (.tup (.cons (.op .fdiv (.var 0) (.var 2)) (.cons (.op .fdiv (.var 1) (.var 2)) .nil)))) .nil)))⟩
def p_fraction_times : Fn := ⟨"fraction_times", ["one", "other"], ["one", "other"], (.cons (.ret (.call f_fraction_of (.cons (.op .mul (.idxI (.var 0) (.con (.int 0))) (.idxI (.var 1) (.con (.int 0)))) (.cons (.op .mul (.idxI (.var 0) (.con (.int 1))) (.idxI (.var 1) (.con (.int 1)))) .nil)))) .nil)⟩
def p_fraction_over : Fn := ⟨"fraction_over", ["one", "other"], ["one", "other"], (.cons (.ret (.call f_fraction_of (.cons (.op .mul (.idxI (.var 0) (.con (.int 0))) (.idxI (.var 1) (.con (.int 1)))) (.cons (.op .mul (.idxI (.var 0) (.con (.int 1))) (.idxI (.var 1) (.con (.int 0)))) .nil)))) .nil)⟩
def b_cut_off_1 : CSs := (.cons (.asg (.name 1) (.op .sub (.var 1) (.con (.int 1)))) .nil)
def p_cut_off : Fn := ⟨"cut_off", ["parts"], ["parts", "many"], (.cons (.asg (.name 1) (.blt .len (.cons (.var 0) .nil))) (.cons (.whl (.and (.cmp .gt (.var 1) (.con (.int 0))) (.cmp .eq (.idxI (.var 0) (.op .sub (.var 1) (.con (.int 1)))) (.con (.tup [(.int 0), (.int 1)])))) b_cut_off_1) (.cons (.ret (.blt .tuple (.cons (.sl (.var 0) none (some (.var 1))) .nil))) .nil)))⟩
def b_bottom_for_1 : CSs := (.cons (.asg (.name 1) (.op .mul (.var 1) (.idxI (.call f_fraction_of (.cons (.var 1) (.cons (.var 3) .nil))) (.con (.int 1))))) .nil)
def p_bottom_for : Fn := ⟨"bottom_for", ["parts"], ["parts", "found", "top", "bottom"], (.cons (.asg (.name 1) (.con (.int 1))) (.cons (.for_ (.seq (.var 0)) [2, 3] b_bottom_for_1) (.cons (.ret (.var 1)) .nil)))⟩
def p_tops_by : Fn := ⟨"tops_by", ["poly", "bottom"], ["poly", "bottom", "top", "own"], (.cons (.ret (.comp (.seq (.var 0)) [2, 3] [2, 3] none (.op .mul (.var 2) (.op .fdiv (.var 1) (.var 3))))) .nil)⟩
def p_poly_made : Fn := ⟨"poly_made", ["tops", "bottom"], ["tops", "bottom", "top"], (.cons (.ret (.call f_cut_off (.cons (.comp (.seq (.var 0)) [2] [2] none (.call f_fraction_of (.cons (.var 2) (.cons (.var 1) .nil)))) .nil))) .nil)⟩
def b_poly_sum_1 : CSs := (.cons (.asg (.sub (.var 3) (.var 5)) (.op .add (.idxI (.var 3) (.var 5)) (.var 6))) .nil)
def b_poly_sum_2 : CSs := (.cons (.for_ (.enum (.call f_tops_by (.cons (.var 4) (.cons (.var 2) .nil)))) [5, 6] b_poly_sum_1) .nil)
def p_poly_sum : Fn := ⟨"poly_sum", ["one", "other"], ["one", "other", "bottom", "found", "poly", "power", "top"], (.cons (.ite (.or (.cmp .eq (.var 0) (.tup .nil)) (.cmp .eq (.var 1) (.tup .nil))) (.cons (.ret (.op .add (.var 0) (.var 1))) .nil) .nil) (.cons (.asg (.name 2) (.call f_bottom_for (.cons (.op .add (.var 0) (.var 1)) .nil))) (.cons (.asg (.name 3) (.op .mul (.lst (.cons (.con (.int 0)) .nil)) (.blt .max2 (.cons (.blt .len (.cons (.var 0) .nil)) (.cons (.blt .len (.cons (.var 1) .nil)) .nil))))) (.cons (.for_ (.seq (.tup (.cons (.var 0) (.cons (.var 1) .nil)))) [4] b_poly_sum_2) (.cons (.ret (.call f_poly_made (.cons (.var 3) (.cons (.var 2) .nil)))) .nil)))))⟩
def b_poly_times_1 : CSs := (.cons (.asg (.sub (.var 2) (.op .add (.var 6) (.var 8))) (.op .add (.idxI (.var 2) (.op .add (.var 6) (.var 8))) (.op .mul (.var 7) (.var 9)))) .nil)
def b_poly_times_2 : CSs := (.cons (.for_ (.enum (.var 3)) [8, 9] b_poly_times_1) .nil)
def p_poly_times : Fn := ⟨"poly_times", ["one", "other"], ["one", "other", "found", "others", "here", "there", "power", "top", "more", "another"], (.cons (.ite (.or (.cmp .eq (.var 0) (.tup .nil)) (.cmp .eq (.var 1) (.tup .nil))) (.cons (.ret (.tup .nil)) .nil) .nil) (.cons (.par 4 5 (.call f_bottom_for (.cons (.var 0) .nil)) (.call f_bottom_for (.cons (.var 1) .nil))) (.cons (.asg (.name 2) (.op .mul (.lst (.cons (.con (.int 0)) .nil)) (.op .sub (.op .add (.blt .len (.cons (.var 0) .nil)) (.blt .len (.cons (.var 1) .nil))) (.con (.int 1))))) (.cons (.asg (.name 3) (.call f_tops_by (.cons (.var 1) (.cons (.var 5) .nil)))) (.cons (.for_ (.enum (.call f_tops_by (.cons (.var 0) (.cons (.var 4) .nil)))) [6, 7] b_poly_times_2) (.cons (.ret (.call f_poly_made (.cons (.var 2) (.cons (.op .mul (.var 4) (.var 5)) .nil)))) .nil))))))⟩
def p_poly_scaled : Fn := ⟨"poly_scaled", ["poly", "fraction"], ["poly", "fraction", "one"], (.cons (.ite (.cmp .eq (.var 1) (.con (.tup [(.int 0), (.int 1)]))) (.cons (.ret (.tup .nil)) .nil) .nil) (.cons (.ret (.blt .tuple (.cons (.comp (.seq (.var 0)) [2] [2] none (.call f_fraction_times (.cons (.var 2) (.cons (.var 1) .nil)))) .nil))) .nil))⟩
def p_lead_turned : Fn := ⟨"lead_turned", ["poly"], ["poly"], (.cons (.ret (.call f_fraction_over (.cons (.con (.tup [(.int 1), (.int 1)])) (.cons (.idxI (.var 0) (.neg (.con (.int 1)))) .nil)))) .nil)⟩
def b_ptimes_1 : CSs := (.cons (.asg (.name 6) (.call f_poly_sum (.cons (.var 6) (.cons (.call f_poly_times (.cons (.var 7) (.cons (.idxI (.var 8) (.var 5)) .nil))) .nil)))) .nil)
def b_ptimes_2 : CSs := (.cons (.asg (.name 6) (.tup .nil)) (.cons (.for_ (.zip (.var 3) (.idxI (.var 1) (.con (.int 1)))) [7, 8] b_ptimes_1) (.cons (.ex (.app (.var 4) (.var 6))) .nil)))
def b_ptimes_3 : CSs := (.cons (.asg (.name 4) (.lst .nil)) (.cons (.for_ (.rng1 (.idxI (.var 1) (.con (.int 0)))) [5] b_ptimes_2) (.cons (.ex (.app (.var 2) (.blt .tuple (.cons (.var 4) .nil)))) .nil)))
def p_ptimes : Fn := ⟨"ptimes", ["one", "other"], ["one", "other", "rows", "row", "made", "column", "found", "poly", "below"], (.cons (.asg (.name 2) (.lst .nil)) (.cons (.for_ (.seq (.idxI (.var 0) (.con (.int 1)))) [3] b_ptimes_3) (.cons (.ret (.tup (.cons (.idxI (.var 1) (.con (.int 0))) (.cons (.blt .tuple (.cons (.var 2) .nil)) .nil)))) .nil)))⟩
def b_left_without_1 : CSs := (.cons (.ite (.cmp .ne (.var 4) (.var 1)) (.cons (.ex (.app (.var 3) (.op .add (.sl (.var 5) none (some (.var 2))) (.sl (.var 5) (some (.op .add (.var 2) (.con (.int 1)))) none)))) .nil) .nil) .nil)
def p_left_without : Fn := ⟨"left_without", ["table", "at", "column"], ["table", "at", "column", "rows", "number", "row"], (.cons (.asg (.name 3) (.lst .nil)) (.cons (.for_ (.enum (.idxI (.var 0) (.con (.int 1)))) [4, 5] b_left_without_1) (.cons (.ret (.tup (.cons (.op .sub (.idxI (.var 0) (.con (.int 0))) (.con (.int 1))) (.cons (.blt .tuple (.cons (.var 3) .nil)) .nil)))) .nil)))⟩
def p_with_sign : Fn := ⟨"with_sign", ["poly", "number"], ["poly", "number"], (.cons (.ret (.ite (.cmp .eq (.op .mod (.var 1) (.con (.int 2))) (.con (.int 0))) (.var 0) (.call f_poly_scaled (.cons (.var 0) (.cons (.con (.tup [(.int (-1)), (.int 1)])) .nil))))) .nil)⟩
def b_pcorner_1 : CSs := (.cons (.ite (.cmp .ne (.var 3) (.tup .nil)) (.cons (.asg (.name 4) (.call f_pcorner (.cons (.call f_left_without (.cons (.var 0) (.cons (.con (.int 0)) (.cons (.var 2) .nil)))) .nil))) (.cons (.asg (.name 1) (.call f_poly_sum (.cons (.var 1) (.cons (.call f_with_sign (.cons (.call f_poly_times (.cons (.var 3) (.cons (.var 4) .nil))) (.cons (.var 2) .nil))) .nil)))) .nil)) .nil) .nil)
def p_pcorner : Fn := ⟨"pcorner", ["table"], ["table", "found", "column", "poly", "rest"], (.cons (.ite (.cmp .eq (.idxI (.var 0) (.con (.int 0))) (.con (.int 0))) (.cons (.ret (.con (.tup [(.tup [(.int 1), (.int 1)])]))) .nil) .nil) (.cons (.asg (.name 1) (.tup .nil)) (.cons (.for_ (.enum (.idxI (.idxI (.var 0) (.con (.int 1))) (.con (.int 0)))) [2, 3] b_pcorner_1) (.cons (.ret (.var 1)) .nil))))⟩
def b_pback_of_1 : CSs := (.cons (.asg (.name 7) (.call f_pcorner (.cons (.call f_left_without (.cons (.var 0) (.cons (.var 6) (.cons (.var 4) .nil)))) .nil))) (.cons (.ex (.app (.var 5) (.call f_poly_scaled (.cons (.call f_with_sign (.cons (.var 7) (.cons (.op .add (.var 6) (.var 4)) .nil))) (.cons (.var 2) .nil))))) .nil))
def b_pback_of_2 : CSs := (.cons (.asg (.name 5) (.lst .nil)) (.cons (.for_ (.rng1 (.idxI (.var 0) (.con (.int 0)))) [6] b_pback_of_1) (.cons (.ex (.app (.var 3) (.blt .tuple (.cons (.var 5) .nil)))) .nil)))
def p_pback_of : Fn := ⟨"pback_of", ["table"], ["table", "corner", "by", "rows", "column", "made", "at", "rest"], (.cons (.asg (.name 1) (.call f_pcorner (.cons (.var 0) .nil))) (.cons (.ite (.cmp .ne (.blt .len (.cons (.var 1) .nil)) (.con (.int 1))) (.cons (.raise "NoBack" ["corner"] (.cons (.var 1) .nil)) .nil) .nil) (.cons (.asg (.name 2) (.call f_lead_turned (.cons (.var 1) .nil))) (.cons (.asg (.name 3) (.lst .nil)) (.cons (.for_ (.rng1 (.idxI (.var 0) (.con (.int 0)))) [4] b_pback_of_2) (.cons (.ret (.tup (.cons (.idxI (.var 0) (.con (.int 0))) (.cons (.blt .tuple (.cons (.var 3) .nil)) .nil)))) .nil))))))⟩
def p__law_feed : Fn := ⟨"_law_feed", ["_law_script"], ["_law_script"], (.cons (.ret (.dict ["cells", "at", "left", "turn"] (.cons (.op .add (.blt .list (.cons (.sl (.var 0) none (some (.con (.int 63)))) .nil)) (.op .mul (.lst (.cons (.con (.int 0)) .nil)) (.blt .int (.cons (.cmp .eq (.var 0) (.lst .nil)) .nil)))) (.cons (.con (.int 0)) (.cons (.con (.int 0)) (.cons (.con (.int 0)) .nil)))))) .nil)⟩
def p__law_draw : Fn := ⟨"_law_draw", ["_law_feed_here", "_law_many"], ["_law_feed_here", "_law_many", "_law_turn", "_law_cell", "_law_mixed", "_law_digit"], (.cons (.asg (.sub (.var 0) (.con (.str "turn"))) (.op .add (.idxK (.var 0) (.con (.str "turn"))) (.con (.int 1)))) (.cons (.ite (.cmp .gt (.idxK (.var 0) (.con (.str "left"))) (.con (.int 0))) (.cons (.asg (.name 5) (.op .mod (.idxK (.var 0) (.con (.str "left"))) (.var 1))) (.cons (.asg (.sub (.var 0) (.con (.str "left"))) (.op .fdiv (.idxK (.var 0) (.con (.str "left"))) (.var 1))) (.cons (.ret (.var 5)) .nil))) .nil) (.cons (.asg (.name 2) (.idxK (.var 0) (.con (.str "turn")))) (.cons (.asg (.name 3) (.idxI (.idxK (.var 0) (.con (.str "cells"))) (.op .mod (.idxK (.var 0) (.con (.str "at"))) (.blt .len (.cons (.idxK (.var 0) (.con (.str "cells"))) .nil))))) (.cons (.asg (.sub (.var 0) (.con (.str "at"))) (.op .add (.idxK (.var 0) (.con (.str "at"))) (.con (.int 1)))) (.cons (.ite (.and (.cmp .ge (.var 3) (.op .pow (.con (.int 10)) (.con (.int 18)))) (.cmp .le (.idxK (.var 0) (.con (.str "at"))) (.blt .len (.cons (.idxK (.var 0) (.con (.str "cells"))) .nil)))) (.cons (.asg (.sub (.var 0) (.con (.str "left"))) (.op .fdiv (.var 3) (.var 1))) (.cons (.ret (.op .mod (.var 3) (.var 1))) .nil)) .nil) (.cons (.asg (.name 4) (.op .mod (.op .pow (.op .add (.op .mod (.var 3) (.con (.int 2147483629))) (.op .mul (.con (.int 7919)) (.var 2))) (.con (.int 5))) (.con (.int 2147483647)))) (.cons (.asg (.name 4) (.op .mod (.op .pow (.op .add (.var 4) (.op .mul (.con (.int 104729)) (.var 2))) (.con (.int 3))) (.con (.int 2147483629)))) (.cons (.ret (.op .mod (.op .fdiv (.var 4) (.con (.int 64))) (.var 1))) .nil)))))))))⟩
def p__law_of : Fn := ⟨"_law_of", ["_law_feed_here", "_law_some"], ["_law_feed_here", "_law_some"], (.cons (.ret (.idxI (.var 1) (.call f__law_draw (.cons (.var 0) (.cons (.blt .len (.cons (.var 1) .nil)) .nil))))) .nil)⟩
def b__law_gcd_1 : CSs := (.cons (.par 0 1 (.var 1) (.op .mod (.var 0) (.var 1))) .nil)
def p__law_gcd : Fn := ⟨"_law_gcd", ["_law_one", "_law_other"], ["_law_one", "_law_other"], (.cons (.whl (.cmp .ne (.var 1) (.con (.int 0))) b__law_gcd_1) (.cons (.ret (.var 0)) .nil))⟩
def p__law_fraction : Fn := ⟨"_law_fraction", ["_law_top", "_law_bottom"], ["_law_top", "_law_bottom", "_law_shared"], (.cons (.asg (.name 2) (.call f__law_gcd (.cons (.blt .abs (.cons (.var 0) .nil)) (.cons (.var 1) .nil)))) (.cons (.ret (.tup (.cons (.op .fdiv (.var 0) (.var 2)) (.cons (.op .fdiv (.var 1) (.var 2)) .nil)))) .nil))⟩
def b__law_cut_1 : CSs := (.cons (.ex (.pop (.var 1))) .nil)
def p__law_cut : Fn := ⟨"_law_cut", ["_law_parts_here"], ["_law_parts_here", "_law_found"], (.cons (.asg (.name 1) (.blt .list (.cons (.var 0) .nil))) (.cons (.whl (.and (.cmp .ne (.var 1) (.lst .nil)) (.cmp .eq (.idxI (.idxI (.var 1) (.neg (.con (.int 1)))) (.con (.int 0))) (.con (.int 0)))) b__law_cut_1) (.cons (.ret (.blt .tuple (.cons (.var 1) .nil))) .nil)))⟩
def b__law_plus_1 : CSs := (.cons (.par 4 5 (.idxI (.op .add (.var 0) (.op .mul (.tup (.cons (.tup (.cons (.con (.int 0)) (.cons (.con (.int 1)) .nil))) .nil)) (.blt .len (.cons (.var 1) .nil)))) (.var 3)) (.idxI (.op .add (.var 1) (.op .mul (.tup (.cons (.tup (.cons (.con (.int 0)) (.cons (.con (.int 1)) .nil))) .nil)) (.blt .len (.cons (.var 0) .nil)))) (.var 3))) (.cons (.ex (.app (.var 2) (.call f__law_fraction (.cons (.op .add (.op .mul (.idxI (.var 4) (.con (.int 0))) (.idxI (.var 5) (.con (.int 1)))) (.op .mul (.idxI (.var 5) (.con (.int 0))) (.idxI (.var 4) (.con (.int 1))))) (.cons (.op .mul (.idxI (.var 4) (.con (.int 1))) (.idxI (.var 5) (.con (.int 1)))) .nil))))) .nil))
def p__law_plus : Fn := ⟨"_law_plus", ["_law_one", "_law_other"], ["_law_one", "_law_other", "_law_found", "_law_k", "_law_a", "_law_b"], (.cons (.asg (.name 2) (.lst .nil)) (.cons (.for_ (.rng1 (.blt .max2 (.cons (.blt .len (.cons (.var 0) .nil)) (.cons (.blt .len (.cons (.var 1) .nil)) .nil)))) [3] b__law_plus_1) (.cons (.ret (.call f__law_cut (.cons (.var 2) .nil))) .nil)))⟩
def b__law_product_1 : CSs := (.cons (.asg (.names [7, 8]) (.idxI (.var 2) (.op .add (.var 3) (.var 4)))) (.cons (.asg (.name 5) (.op .mul (.idxI (.idxI (.var 0) (.var 3)) (.con (.int 1))) (.idxI (.idxI (.var 1) (.var 4)) (.con (.int 1))))) (.cons (.asg (.name 6) (.op .mul (.op .mul (.idxI (.idxI (.var 0) (.var 3)) (.con (.int 0))) (.idxI (.idxI (.var 1) (.var 4)) (.con (.int 0)))) (.var 8))) (.cons (.asg (.sub (.var 2) (.op .add (.var 3) (.var 4))) (.tup (.cons (.op .add (.op .mul (.var 7) (.var 5)) (.var 6)) (.cons (.op .mul (.var 8) (.var 5)) .nil)))) .nil))))
def b__law_product_2 : CSs := (.cons (.for_ (.rng1 (.blt .len (.cons (.var 1) .nil))) [4] b__law_product_1) .nil)
def p__law_product : Fn := ⟨"_law_product", ["_law_one", "_law_other"], ["_law_one", "_law_other", "_law_found", "_law_k", "_law_j", "_law_more", "_law_part", "_law_top", "_law_bottom"], (.cons (.ite (.or (.cmp .eq (.var 0) (.tup .nil)) (.cmp .eq (.var 1) (.tup .nil))) (.cons (.ret (.tup .nil)) .nil) .nil) (.cons (.asg (.name 2) (.op .mul (.lst (.cons (.tup (.cons (.con (.int 0)) (.cons (.con (.int 1)) .nil))) .nil)) (.op .sub (.op .add (.blt .len (.cons (.var 0) .nil)) (.blt .len (.cons (.var 1) .nil))) (.con (.int 1))))) (.cons (.for_ (.rng1 (.blt .len (.cons (.var 0) .nil))) [3] b__law_product_2) (.cons (.ret (.call f__law_cut (.cons (.comp (.seq (.var 2)) [7, 8] [7, 8] none (.call f__law_fraction (.cons (.var 7) (.cons (.var 8) .nil)))) .nil))) .nil))))⟩
def b__law_parts_1 : CSs := (.cons (.asg (.name 6) (.op .sub (.call f__law_draw (.cons (.var 0) (.cons (.op .add (.op .mul (.con (.int 2)) (.var 2)) (.con (.int 1))) .nil))) (.var 2))) (.cons (.ex (.app (.var 4) (.call f__law_fraction (.cons (.var 6) (.cons (.call f__law_of (.cons (.var 0) (.cons (.var 3) .nil))) .nil))))) .nil))
def p__law_parts : Fn := ⟨"_law_parts", ["_law_feed_here", "_law_many", "_law_most", "_law_bottoms"], ["_law_feed_here", "_law_many", "_law_most", "_law_bottoms", "_law_found", "_law_k", "_law_top"], (.cons (.asg (.name 4) (.lst .nil)) (.cons (.for_ (.rng1 (.var 1)) [5] b__law_parts_1) (.cons (.ret (.var 4)) .nil)))⟩
def p__law_poly : Fn := ⟨"_law_poly", ["_law_feed_here", "_law_degree", "_law_most", "_law_bottoms"], ["_law_feed_here", "_law_degree", "_law_most", "_law_bottoms", "_law_found"], (.cons (.asg (.name 4) (.call f__law_parts (.cons (.var 0) (.cons (.call f__law_draw (.cons (.var 0) (.cons (.op .add (.var 1) (.con (.int 2))) .nil))) (.cons (.var 2) (.cons (.var 3) .nil)))))) (.cons (.ite (.and (.cmp .ne (.var 4) (.lst .nil)) (.cmp .eq (.idxI (.idxI (.var 4) (.neg (.con (.int 1)))) (.con (.int 0))) (.con (.int 0)))) (.cons (.asg (.sub (.var 4) (.neg (.con (.int 1)))) (.tup (.cons (.con (.int 1)) (.cons (.con (.int 1)) .nil)))) .nil) .nil) (.cons (.ret (.blt .tuple (.cons (.var 4) .nil))) .nil)))⟩
def b__law_unit_1 : CSs := (.cons (.ex (.app (.var 1) (.blt .tuple (.cons (.comp (.rng1 (.var 0)) [3] [3] none (.ite (.cmp .eq (.var 3) (.var 2)) (.tup (.cons (.tup (.cons (.con (.int 1)) (.cons (.con (.int 1)) .nil))) .nil)) (.tup .nil))) .nil)))) .nil)
def p__law_unit : Fn := ⟨"_law_unit", ["_law_n"], ["_law_n", "_law_rows", "_law_k", "_law_j"], (.cons (.asg (.name 1) (.lst .nil)) (.cons (.for_ (.rng1 (.var 0)) [2] b__law_unit_1) (.cons (.ret (.tup (.cons (.var 0) (.cons (.blt .tuple (.cons (.var 1) .nil)) .nil)))) .nil)))⟩
def b__law_tables_1 : CSs := (.cons (.asg (.name 4) (.comp (.rng1 (.idxI (.var 1) (.con (.int 0)))) [6] [6] none (.call f__law_plus (.cons (.idxI (.var 4) (.var 6)) (.cons (.call f__law_product (.cons (.idxI (.var 3) (.var 5)) (.cons (.idxI (.idxI (.idxI (.var 1) (.con (.int 1))) (.var 5)) (.var 6)) .nil))) .nil))))) .nil)
def b__law_tables_2 : CSs := (.cons (.asg (.name 4) (.op .mul (.lst (.cons (.tup .nil) .nil)) (.idxI (.var 1) (.con (.int 0))))) (.cons (.for_ (.rng1 (.idxI (.var 0) (.con (.int 0)))) [5] b__law_tables_1) (.cons (.ex (.app (.var 2) (.blt .tuple (.cons (.var 4) .nil)))) .nil)))
def p__law_tables : Fn := ⟨"_law_tables", ["_law_one", "_law_other"], ["_law_one", "_law_other", "_law_rows", "_law_row_here", "_law_made", "_law_k", "_law_j"], (.cons (.asg (.name 2) (.lst .nil)) (.cons (.for_ (.seq (.idxI (.var 0) (.con (.int 1)))) [3] b__law_tables_2) (.cons (.ret (.tup (.cons (.idxI (.var 1) (.con (.int 0))) (.cons (.blt .tuple (.cons (.var 2) .nil)) .nil)))) .nil)))⟩
def p__law_row : Fn := ⟨"_law_row", ["_law_feed_here", "_law_wide", "_law_small"], ["_law_feed_here", "_law_wide", "_law_small", "_law_degree", "_law_most", "_law_bottoms", "_law_k"], (.cons (.asg (.names [3, 4, 5]) (.idxI (.lst (.cons (.tup (.cons (.con (.int 2)) (.cons (.con (.int 9)) (.cons (.lst (.cons (.con (.int 1)) (.cons (.con (.int 1)) (.cons (.con (.int 2)) (.cons (.con (.int 3)) .nil))))) .nil)))) (.cons (.tup (.cons (.con (.int 1)) (.cons (.con (.int 3)) (.cons (.lst (.cons (.con (.int 1)) .nil)) .nil)))) .nil))) (.blt .int (.cons (.var 2) .nil)))) (.cons (.ret (.blt .tuple (.cons (.comp (.rng1 (.var 1)) [6] [6] none (.call f__law_poly (.cons (.var 0) (.cons (.var 3) (.cons (.var 4) (.cons (.var 5) .nil)))))) .nil))) .nil))⟩
def b__law_table_1 : CSs := (.cons (.asg (.name 5) (.call f__law_draw (.cons (.var 0) (.cons (.con (.int 8)) .nil)))) (.cons (.ite (.cmp .eq (.var 5) (.con (.int 0))) (.cons (.ex (.app (.var 3) (.op .mul (.tup (.cons (.tup .nil) .nil)) (.var 2)))) .nil) (.cons (.ite (.and (.cmp .eq (.var 5) (.con (.int 1))) (.cmp .ne (.var 3) (.lst .nil))) (.cons (.ex (.app (.var 3) (.call f__law_of (.cons (.var 0) (.cons (.var 3) .nil))))) .nil) (.cons (.ex (.app (.var 3) (.call f__law_row (.cons (.var 0) (.cons (.var 2) (.cons (.cmp .eq (.op .add (.var 1) (.var 2)) (.con (.int 6))) .nil)))))) .nil)) .nil)) .nil))
def p__law_table : Fn := ⟨"_law_table", ["_law_feed_here", "_law_many", "_law_wide"], ["_law_feed_here", "_law_many", "_law_wide", "_law_rows", "_law_k", "_law_way"], (.cons (.asg (.name 3) (.lst .nil)) (.cons (.for_ (.rng1 (.var 1)) [4] b__law_table_1) (.cons (.ret (.tup (.cons (.var 2) (.cons (.blt .tuple (.cons (.var 3) .nil)) .nil)))) .nil)))⟩
def b__law_orders_1 : CSs := (.cons (.ex (.app (.var 3) (.tup (.cons (.op .add (.op .add (.sl (.var 4) none (some (.var 6))) (.tup (.cons (.var 2) .nil))) (.sl (.var 4) (some (.var 6)) none)) (.cons (.op .mul (.var 5) (.idxI (.lst (.cons (.con (.int 1)) (.cons (.neg (.con (.int 1))) .nil))) (.op .mod (.op .sub (.var 2) (.var 6)) (.con (.int 2))))) .nil))))) .nil)
def b__law_orders_2 : CSs := (.cons (.for_ (.rng1 (.op .add (.var 2) (.con (.int 1)))) [6] b__law_orders_1) .nil)
def b__law_orders_3 : CSs := (.cons (.asg (.name 3) (.lst .nil)) (.cons (.for_ (.seq (.var 1)) [4, 5] b__law_orders_2) (.cons (.asg (.name 1) (.var 3)) .nil)))
def p__law_orders : Fn := ⟨"_law_orders", ["_law_n"], ["_law_n", "_law_found", "_law_k", "_law_longer", "_law_order", "_law_sign", "_law_at"], (.cons (.asg (.name 1) (.lst (.cons (.tup (.cons (.tup .nil) (.cons (.con (.int 1)) .nil))) .nil))) (.cons (.for_ (.rng1 (.var 0)) [2] b__law_orders_3) (.cons (.ret (.var 1)) .nil)))⟩
def b__law_corner_1 : CSs := (.cons (.asg (.name 4) (.call f__law_product (.cons (.var 4) (.cons (.idxI (.idxI (.idxI (.var 0) (.con (.int 1))) (.var 5)) (.idxI (.var 2) (.var 5))) .nil)))) .nil)
def b__law_corner_2 : CSs := (.cons (.asg (.name 4) (.tup (.cons (.tup (.cons (.var 3) (.cons (.con (.int 1)) .nil))) .nil))) (.cons (.for_ (.rng1 (.idxI (.var 0) (.con (.int 0)))) [5] b__law_corner_1) (.cons (.asg (.name 1) (.call f__law_plus (.cons (.var 1) (.cons (.var 4) .nil)))) .nil)))
def p__law_corner : Fn := ⟨"_law_corner", ["_law_table_here"], ["_law_table_here", "_law_found", "_law_order", "_law_sign", "_law_product_here", "_law_k"], (.cons (.asg (.name 1) (.tup .nil)) (.cons (.for_ (.seq (.call f__law_orders (.cons (.idxI (.var 0) (.con (.int 0))) .nil))) [2, 3] b__law_corner_2) (.cons (.ret (.var 1)) .nil)))⟩
def b__law_with_back_1 : CSs := (.cons (.asg (.name 4) (.op .add (.op .mul (.lst (.cons (.tup .nil) .nil)) (.var 3)) (.lst (.cons (.tup (.cons (.tup (.cons (.con (.int 1)) (.cons (.con (.int 1)) .nil))) .nil)) .nil)))) (.cons (.asg (.names [6, 7, 8]) (.idxI (.lst (.cons (.tup (.cons (.con (.int 2)) (.cons (.con (.int 3)) (.cons (.lst (.cons (.con (.int 1)) (.cons (.con (.int 1)) (.cons (.con (.int 2)) .nil)))) .nil)))) (.cons (.tup (.cons (.con (.int 1)) (.cons (.con (.int 1)) (.cons (.lst (.cons (.con (.int 1)) .nil)) .nil)))) .nil))) (.blt .int (.cons (.cmp .eq (.var 1) (.con (.int 3))) .nil)))) (.cons (.asg (.name 4) (.op .add (.var 4) (.comp (.rng1 (.op .sub (.op .sub (.var 1) (.var 3)) (.con (.int 1)))) [9] [9] none (.call f__law_poly (.cons (.var 0) (.cons (.var 6) (.cons (.var 7) (.cons (.var 8) .nil)))))))) (.cons (.asg (.name 5) (.tup (.cons (.tup (.cons (.call f__law_of (.cons (.var 0) (.cons (.lst (.cons (.con (.int 1)) (.cons (.neg (.con (.int 1))) (.cons (.con (.int 2)) (.cons (.con (.int 3)) .nil))))) .nil))) (.cons (.con (.int 1)) .nil))) .nil))) (.cons (.ex (.ins (.var 2) (.call f__law_draw (.cons (.var 0) (.cons (.op .add (.var 3) (.con (.int 1))) .nil))) (.blt .tuple (.cons (.comp (.seq (.var 4)) [10] [10] none (.call f__law_product (.cons (.var 10) (.cons (.var 5) .nil)))) .nil)))) .nil)))))
def p__law_with_back : Fn := ⟨"_law_with_back", ["_law_feed_here", "_law_n"], ["_law_feed_here", "_law_n", "_law_rows", "_law_k", "_law_row_here", "_law_by", "_law_degree", "_law_most", "_law_bottoms", "_law_j", "_law_one"], (.cons (.asg (.name 2) (.lst .nil)) (.cons (.for_ (.rng1 (.var 1)) [3] b__law_with_back_1) (.cons (.ret (.tup (.cons (.var 1) (.cons (.blt .tuple (.cons (.var 2) .nil)) .nil)))) .nil)))⟩
def p__law_refused : Fn := ⟨"_law_refused", ["_law_table_here"], ["_law_table_here", "_law_found", "e"], (.cons (.asg (.name 1) (.tup (.cons (.con (.str "none")) (.cons (.tup .nil) .nil)))) (.cons (.tryE (some 1) (.tup (.cons (.con (.str "told")) (.cons (.call f_pback_of (.cons (.var 0) .nil)) .nil))) "FormError" ["NoBack"] 1 (.own (.tup [(.str "other"), (.tup [])]) "NoBack" ["NoDeed", "NoLine", "NoPaper", "NoRow", "NoText"] ["corner"]) (some 2)) (.cons (.ret (.var 1)) .nil)))⟩
def p__law_right : Fn := ⟨"_law_right", ["_law_table_here"], ["_law_table_here", "_law_kept", "_law_due", "_law_found", "_law_ones"], (.cons (.asg (.name 1) (.blt .repr (.cons (.var 0) .nil))) (.cons (.asg (.name 2) (.call f__law_corner (.cons (.var 0) .nil))) (.cons (.ite (.or (.cmp .ne (.blt .repr (.cons (.call f_pcorner (.cons (.var 0) .nil)) .nil)) (.blt .repr (.cons (.var 2) .nil))) (.or (.cmp .ne (.blt .repr (.cons (.call f_pcorner (.cons (.var 0) .nil)) .nil)) (.blt .repr (.cons (.var 2) .nil))) (.cmp .ne (.blt .repr (.cons (.var 0) .nil)) (.var 1)))) (.cons (.ret (.con (.bl false))) .nil) .nil) (.cons (.asg (.name 3) (.call f__law_refused (.cons (.var 0) .nil))) (.cons (.ite (.or (.cmp .ne (.blt .repr (.cons (.call f__law_refused (.cons (.var 0) .nil)) .nil)) (.blt .repr (.cons (.var 3) .nil))) (.cmp .ne (.blt .repr (.cons (.var 0) .nil)) (.var 1))) (.cons (.ret (.con (.bl false))) .nil) .nil) (.cons (.ite (.cmp .ne (.blt .len (.cons (.var 2) .nil)) (.con (.int 1))) (.cons (.ret (.cmp .eq (.blt .repr (.cons (.var 3) .nil)) (.blt .repr (.cons (.tup (.cons (.con (.str "refused")) (.cons (.var 2) .nil))) .nil)))) .nil) .nil) (.cons (.ite (.or (.cmp .ne (.idxI (.var 3) (.con (.int 0))) (.con (.str "told"))) (.or (.not (.isi (.idxI (.var 3) (.con (.int 1))) .tuple)) (.cmp .ne (.blt .len (.cons (.idxI (.var 3) (.con (.int 1))) .nil)) (.con (.int 2))))) (.cons (.ret (.con (.bl false))) .nil) .nil) (.cons (.asg (.name 4) (.call f__law_unit (.cons (.idxI (.var 0) (.con (.int 0))) .nil))) (.cons (.ite (.cmp .ne (.blt .repr (.cons (.call f__law_tables (.cons (.idxI (.var 3) (.con (.int 1))) (.cons (.var 4) .nil))) .nil)) (.blt .repr (.cons (.idxI (.var 3) (.con (.int 1))) .nil))) (.cons (.ret (.con (.bl false))) .nil) .nil) (.cons (.ret (.and (.cmp .eq (.call f__law_tables (.cons (.idxI (.var 3) (.con (.int 1))) (.cons (.var 0) .nil))) (.var 4)) (.cmp .eq (.call f__law_tables (.cons (.var 0) (.cons (.idxI (.var 3) (.con (.int 1))) .nil))) (.var 4)))) .nil))))))))))⟩
def p_law : Fn := ⟨"law", ["_law_script"], ["_law_script", "_law_feed_here", "_law_n", "_law_one", "_law_other", "_law_both", "_law_due"], (.cons (.asg (.name 1) (.call f__law_feed (.cons (.var 0) .nil))) (.cons (.asg (.name 2) (.call f__law_of (.cons (.var 1) (.cons (.lst (.cons (.con (.int 2)) (.cons (.con (.int 2)) (.cons (.con (.int 1)) (.cons (.con (.int 3)) (.cons (.con (.int 2)) (.cons (.con (.int 0)) .nil))))))) .nil)))) (.cons (.asg (.name 3) (.ite (.cmp .gt (.var 2) (.con (.int 0))) (.call f__law_table (.cons (.var 1) (.cons (.var 2) (.cons (.var 2) .nil)))) (.tup (.cons (.con (.int 0)) (.cons (.tup .nil) .nil))))) (.cons (.asg (.name 4) (.call f__law_with_back (.cons (.var 1) (.cons (.var 2) .nil)))) (.cons (.ite (.or (.not (.call f__law_right (.cons (.var 3) .nil))) (.not (.call f__law_right (.cons (.var 4) .nil)))) (.cons (.ret (.con (.bl false))) .nil) .nil) (.cons (.asg (.name 5) (.stp (.lst (.cons (.var 3) (.cons (.var 4) .nil))) (.idxI (.lst (.cons (.con (.int 1)) (.cons (.neg (.con (.int 1))) .nil))) (.call f__law_draw (.cons (.var 1) (.cons (.con (.int 2)) .nil)))))) (.cons (.asg (.name 6) (.call f__law_product (.cons (.call f__law_corner (.cons (.var 3) .nil)) (.cons (.call f__law_corner (.cons (.var 4) .nil)) .nil)))) (.cons (.ite (.cmp .ne (.blt .repr (.cons (.call f_pcorner (.cons (.call f_ptimes (.cons (.idxI (.var 5) (.con (.int 0))) (.cons (.idxI (.var 5) (.con (.int 1))) .nil))) .nil)) .nil)) (.blt .repr (.cons (.var 6) .nil))) (.cons (.ret (.con (.bl false))) .nil) .nil) (.cons (.ret (.and (.call f__law_right (.cons (.tup (.cons (.con (.int 2)) (.cons (.tup (.cons (.tup (.cons (.tup (.cons (.tup (.cons (.con (.int 1)) (.cons (.con (.int 1)) .nil))) .nil)) (.cons (.tup .nil) .nil))) (.cons (.tup (.cons (.tup .nil) (.cons (.tup .nil) .nil))) .nil))) .nil))) .nil)) (.call f__law_right (.cons (.tup (.cons (.con (.int 1)) (.cons (.tup (.cons (.tup (.cons (.tup .nil) .nil)) .nil)) .nil))) .nil)))) .nil)))))))))⟩
def Pr : Pg := [p_common_divisor, p_fraction_of, p_fraction_times, p_fraction_over, p_cut_off, p_bottom_for, p_tops_by, p_poly_made, p_poly_sum, p_poly_times, p_poly_scaled, p_lead_turned, p_ptimes, p_left_without, p_with_sign, p_pcorner, p_pback_of, p__law_feed, p__law_draw, p__law_of, p__law_gcd, p__law_fraction, p__law_cut, p__law_plus, p__law_product, p__law_parts, p__law_poly, p__law_unit, p__law_tables, p__law_row, p__law_table, p__law_orders, p__law_corner, p__law_with_back, p__law_refused, p__law_right, p_law]
def Sg : Sig where
  nones := ["isinstance", "ValueError", "int", "list", "tuple", "len", "abs", "repr", "max", "range", "enumerate", "zip"]
  consts := [(("NOUGHT" : Str), (.tup [(.int 0), (.int 1)])), (("WHOLE" : Str), (.tup [(.int 1), (.int 1)])), (("LESS" : Str), (.tup [(.int (-1)), (.int 1)])), (("ONE" : Str), (.tup [(.tup [(.int 1), (.int 1)])]))]
  fns := [(("common_divisor" : Str), 0, 2), (("fraction_of" : Str), 1, 2), (("fraction_times" : Str), 2, 2), (("fraction_over" : Str), 3, 2), (("cut_off" : Str), 4, 1), (("bottom_for" : Str), 5, 1), (("tops_by" : Str), 6, 2), (("poly_made" : Str), 7, 2), (("poly_sum" : Str), 8, 2), (("poly_times" : Str), 9, 2), (("poly_scaled" : Str), 10, 2), (("lead_turned" : Str), 11, 1), (("ptimes" : Str), 12, 2), (("left_without" : Str), 13, 3), (("with_sign" : Str), 14, 2), (("pcorner" : Str), 15, 1), (("pback_of" : Str), 16, 1), (("_law_feed" : Str), 17, 1), (("_law_draw" : Str), 18, 2), (("_law_of" : Str), 19, 2), (("_law_gcd" : Str), 20, 2), (("_law_fraction" : Str), 21, 2), (("_law_cut" : Str), 22, 1), (("_law_plus" : Str), 23, 2), (("_law_product" : Str), 24, 2), (("_law_parts" : Str), 25, 4), (("_law_poly" : Str), 26, 4), (("_law_unit" : Str), 27, 1), (("_law_tables" : Str), 28, 2), (("_law_row" : Str), 29, 3), (("_law_table" : Str), 30, 3), (("_law_orders" : Str), 31, 1), (("_law_corner" : Str), 32, 1), (("_law_with_back" : Str), 33, 2), (("_law_refused" : Str), 34, 1), (("_law_right" : Str), 35, 1), (("law" : Str), 36, 1)]
  ecl := [(("NoBack" : Str), [("corner" : Str)])]
  sub := [(("FormError" : Str), [("NoBack" : Str)])]
  icl := [("NoBack" : Str), ("NoDeed" : Str), ("NoLine" : Str), ("NoPaper" : Str), ("NoRow" : Str), ("NoText" : Str)]
end K78
end Mn
end

section
set_option Elab.async false
set_option linter.all false
set_option maxRecDepth 100000
set_option autoImplicit false
section
namespace Mn
open PySem
def fin (Q : D → Mu → Prop) : Sl ⊕ D → Mu → Prop := fun r m => match r with | .inl _ => Q .non m | .inr d => Q d m
@[simp] theorem fin_l {Q : D → Mu → Prop} {σ : Sl} {m : Mu} : fin Q (.inl σ) m = Q .non m := (rfl)
@[simp] theorem fin_r {Q : D → Mu → Prop} {d : D} {m : Mu} : fin Q (.inr d) m = Q d m := (rfl)
theorem call_of {P : Pg} {wf n f : Nat} {fn : Fn} {ds : List D} {m : Mu} {Q : D → Mu → Prop} (hf : P[f]? = some fn) (hl : ds.length = fn.ps.length) (hn : 1 ≤ n)
    (h : ∀ k, n = k + 1 → (evSs (callN P wf k) wf fn.body (ds.map some ++ List.replicate (fn.N.length - ds.length) none) m).to (fin Q)) : (callN P wf n f ds m).to Q := by
  obtain ⟨k, rfl⟩ : ∃ k, n = k + 1 := ⟨n - 1, by omega⟩
  unfold callN
  simp only [hf, hl, if_true]
  rw [to_bind]
  have h1 := h k rfl
  rw [hl] at h1
  refine h1.mono fun r m hr => ?_
  cases r <;> exact hr
namespace K78
/-- the fuel of while -/
def Fu (wf : Nat) : Prop := 2 ^ 5000 ≤ wf
theorem Fu.lt {wf : Nat} (hw : Fu wf) {b : Int} (h : Bd 4000 b) : b.natAbs < wf := by
  have e : (2 : Nat) ^ 4000 ≤ 2 ^ 5000 := Nat.pow_le_pow_right (by decide) (by decide)
  exact Nat.lt_of_lt_of_le h (Nat.le_trans e hw)
variable {wf n : Nat} {m : Mu} {Q : D → Mu → Prop}
theorem common_divisor_ok (hw : Fu wf) (hn : 1 ≤ n) {a b : Int} (h2 : Bd 4000 b) (q : Q (.int (Int.gcd a b)) m) : (callN Pr wf n f_common_divisor [.int a, .int b] m).to Q := by
  refine call_of (fn := p_common_divisor) rfl rfl hn fun k _ => ?_
  simp [p_common_divisor]
  refine s_whl (fun k σ m' => m' = m ∧ ∃ (x y : Nat) (l : Option D), σ = [some (.int x), some (.int y), l] ∧ Nat.gcd x y = Int.gcd a b ∧ y = k) b.natAbs ?_ ⟨rfl, a.natAbs, b.natAbs, none, rfl, rfl, rfl⟩ ?_
  · exact hw.lt h2
  · rintro k σ m' ⟨rfl, x, y, l, rfl, hg, ek⟩
    subst ek
    simp [b_common_divisor_1]
    refine br_of (fun h => ⟨by omega, x % y, Nat.mod_lt _ (by omega), y, ⟨rfl, ?_⟩, ?_⟩) fun h => ?_
    · rw [Int.fmod_eq_emod_of_nonneg _ (by omega)]; rfl
    · rw [← hg, Nat.gcd_comm x y, Nat.gcd_rec y x, Nat.gcd_comm]
    · have : y = 0 := by omega
      subst this
      rw [Nat.gcd_zero_right] at hg
      rw [hg]; exact q
/-- a fraction as it stands -/
def fr (q : Rat) : D := .tup [.int q.num, .int q.den]
theorem fdiv_pos {g : Nat} {t : Int} (hg : 0 < g) (h : (g : Int) ∣ t) : t.fdiv g = t / g := Int.fdiv_eq_ediv_of_nonneg _ (by omega)
theorem fdiv_neg {g : Nat} {t : Int} (hg : 0 < g) (h : (g : Int) ∣ t) : t.fdiv (-(g : Int)) = -t / g := by
  obtain ⟨c, rfl⟩ := h
  rw [show (g : Int) * c = (-(g : Int)) * (-c) by rw [Int.neg_mul_neg], Int.mul_fdiv_cancel_left _ (by omega), Int.neg_mul_neg, ← Int.mul_neg, Int.mul_ediv_cancel_left _ (by omega)]
theorem fr_pos {t b : Int} (hb : 0 < b) : fr (Rat.divInt t b) = .tup [.int (t.fdiv (Int.gcd t b)), .int (b.fdiv (Int.gcd t b))] := by
  have hg : 0 < Int.gcd t b := Int.gcd_pos_of_ne_zero_right _ (by omega)
  rw [fdiv_pos hg (Int.gcd_dvd_left ..), fdiv_pos hg (Int.gcd_dvd_right ..)]
  unfold fr
  rw [Rat.num_divInt, Rat.den_divInt, if_neg (by omega), Int.sign_eq_one_of_pos hb, Int.one_mul, Int.gcd_comm b t, Int.natCast_ediv]
  rw [Int.natAbs_of_nonneg (by omega)]
theorem fr_neg {t b : Int} (hb : b < 0) : fr (Rat.divInt t b) = .tup [.int (t.fdiv (-(Int.gcd t b : Int))), .int (b.fdiv (-(Int.gcd t b : Int)))] := by
  have hg : 0 < Int.gcd t b := Int.gcd_pos_of_ne_zero_right _ (by omega)
  rw [fdiv_neg hg (Int.gcd_dvd_left ..), fdiv_neg hg (Int.gcd_dvd_right ..)]
  unfold fr
  rw [Rat.num_divInt, Rat.den_divInt, if_neg (by omega), Int.sign_eq_neg_one_of_neg hb, Int.gcd_comm b t, Int.natCast_ediv]
  rw [show ((b.natAbs : Nat) : Int) = -b by omega]
  simp
theorem gcd_bd {t b : Int} {k : Nat} (hb : b ≠ 0) (h : Bd k b) : Bd k (Int.gcd t b : Int) := by
  unfold Bd at *
  have h1 : Int.gcd t b ∣ b.natAbs := Nat.gcd_dvd_right _ _
  have h2 := Nat.le_of_dvd (by omega) h1
  rw [Int.natAbs_natCast]
  omega
theorem fraction_of_ok (hw : Fu wf) (hn : 2 ≤ n) {t b : Int} (hb : b ≠ 0) (h2 : Bd 4000 b) (q : Q (fr (Rat.divInt t b)) m) : (callN Pr wf n f_fraction_of [.int t, .int b] m).to Q := by
  refine call_of (fn := p_fraction_of) rfl rfl (by omega) fun k hk => ?_
  simp [p_fraction_of]
  refine common_divisor_ok hw (by omega) h2 ?_
  have hg : (Int.gcd t b : Int) ≠ 0 := by
    have := Int.gcd_pos_of_ne_zero_right t hb
    omega
  have g2 := div_ok hg (gcd_bd (t := t) hb h2) (by decide)
  have g3 : divOk (-(Int.gcd t b : Int)) = true := div_ok (by omega) (gcd_bd (t := t) hb h2).neg (by decide)
  refine br_of (fun h => ?_) fun h => ?_
  · simp [g3]
    rw [fr_neg h] at q
    exact q
  · simp [g2]
    rw [fr_pos (by omega)] at q
    exact q
theorem gcd_ok (hw : Fu wf) (hn : 1 ≤ n) {a b : Int} (ha : 0 ≤ a) (hb : 0 ≤ b) (h2 : Bd 4000 b) (q : Q (.int (Int.gcd a b)) m) : (callN Pr wf n f__law_gcd [.int a, .int b] m).to Q := by
  refine call_of (fn := p__law_gcd) rfl rfl hn fun k _ => ?_
  simp [p__law_gcd]
  refine s_whl (fun k σ m' => m' = m ∧ ∃ (x y : Nat), σ = [some (.int x), some (.int y)] ∧ Nat.gcd x y = Int.gcd a b ∧ y = k) b.natAbs ?_ ⟨rfl, a.natAbs, b.natAbs, ?_, rfl, rfl⟩ ?_
  · exact hw.lt h2
  · rw [Int.natAbs_of_nonneg ha, Int.natAbs_of_nonneg hb]
  · rintro k σ m' ⟨rfl, x, y, rfl, hg, ek⟩
    subst ek
    simp [b__law_gcd_1]
    by_cases h : y = 0
    · subst h
      simp
      rw [Nat.gcd_zero_right] at hg
      rw [hg]; exact q
    · simp [h]
      refine ⟨x % y, Nat.mod_lt _ (by omega), y, ⟨rfl, ?_⟩, ?_⟩
      · rw [Int.fmod_eq_emod_of_nonneg _ (by omega)]; rfl
      · rw [← hg, Nat.gcd_comm x y, Nat.gcd_rec y x, Nat.gcd_comm]
theorem law_fraction_ok (hw : Fu wf) (hn : 2 ≤ n) {t b : Int} (hb : 0 < b) (h2 : Bd 4000 b) (q : Q (fr (Rat.divInt t b)) m) : (callN Pr wf n f__law_fraction [.int t, .int b] m).to Q := by
  refine call_of (fn := p__law_fraction) rfl rfl (by omega) fun k hk => ?_
  simp [p__law_fraction]
  refine gcd_ok hw (by omega) (by omega) (by omega) h2 ?_
  have hg : (Int.gcd t b : Int) ≠ 0 := by
    have := Int.gcd_pos_of_ne_zero_right t (show b ≠ 0 by omega)
    omega
  have g2 := div_ok hg (gcd_bd (t := t) (by omega) h2) (by decide)
  have e : Int.gcd (t.natAbs : Int) b = Int.gcd t b := by simp [Int.gcd]
  simp [e, g2]
  rw [fr_pos (by omega)] at q
  exact q
end K78
end Mn
end

section
namespace Mn
open PySem
def Rf (k : Nat) (m : Mu) (d : D) (x : PyData) : Prop := ∀ n, k ≤ n → reify n m d = some x
def RfL (k : Nat) (m : Mu) (ds : List D) (xs : List PyData) : Prop := ∀ n, k ≤ n → ds.mapM (reify n m) = some xs
section
variable {m : Mu} {k k' : Nat} {d e : D} {x y : PyData} {ds : List D} {xs : List PyData}
theorem rf_non : Rf 1 m .non .none := fun n h => by obtain ⟨j, rfl⟩ : ∃ j, n = j + 1 := ⟨n - 1, by omega⟩; rfl
theorem rf_bl {b : Bool} : Rf 1 m (.bl b) (.bool b) := fun n h => by obtain ⟨j, rfl⟩ : ∃ j, n = j + 1 := ⟨n - 1, by omega⟩; rfl
theorem rf_int {i : Int} : Rf 1 m (.int i) (.int i) := fun n h => by obtain ⟨j, rfl⟩ : ∃ j, n = j + 1 := ⟨n - 1, by omega⟩; rfl
theorem rf_str {s : Str} : Rf 1 m (.str s) (.str s) := fun n h => by obtain ⟨j, rfl⟩ : ∃ j, n = j + 1 := ⟨n - 1, by omega⟩; rfl
theorem rf_tup (h : RfL k m ds xs) : Rf (k + 1) m (.tup ds) (.tuple xs) := fun n hn => by
  obtain ⟨j, rfl⟩ : ∃ j, n = j + 1 := ⟨n - 1, by omega⟩
  unfold reify
  rw [h j (by omega)]; rfl
theorem rf_lst {l : Nat} (hl : listAt m l = some ds) (h : RfL k m ds xs) : Rf (k + 1) m (.loc l) (.list xs) := fun n hn => by
  obtain ⟨j, rfl⟩ : ∃ j, n = j + 1 := ⟨n - 1, by omega⟩
  unfold listAt at hl
  split at hl
  · rename_i ds' e; cases hl; simp only [reify, e]; rw [h j (by omega)]; rfl
  · rename_i ds' e; cases hl; simp only [reify, e]; rw [h j (by omega)]; rfl
  · cases hl
theorem Rf.mono (h : Rf k m d x) (hk : k ≤ k') : Rf k' m d x := fun n hn => h n (by omega)
theorem RfL.mono (h : RfL k m ds xs) (hk : k ≤ k') : RfL k' m ds xs := fun n hn => h n (by omega)
theorem rfl_nil : RfL k m [] [] := fun n hn => by simp
theorem mapM_c {α β : Type} (f : α → Option β) (a : α) (l : List α) : (a :: l).mapM f = (f a).bind fun b => (l.mapM f).bind fun bs => some (b :: bs) := by
  rw [List.mapM_cons]; rfl
theorem rfl_cons (h : Rf k m d x) (t : RfL k m ds xs) : RfL k m (d :: ds) (x :: xs) := fun n hn => by
  rw [mapM_c, h n hn, t n hn]; rfl
theorem rfl_map {α : Type} {f : α → D} {g : α → PyData} : ∀ {l : List α}, (∀ a ∈ l, Rf k m (f a) (g a)) → RfL k m (l.map f) (l.map g)
  | [], _ => rfl_nil
  | a :: l, h => rfl_cons (h a (by simp)) (rfl_map fun b hb => h b (by simp [hb]))
def Shp (k : Nat) (x : PyData) : Prop := x.canLay0 = true ∧ x.depth ≤ k
def ShpL (k : Nat) (xs : List PyData) : Prop := PyData.canLayAll0 xs = true ∧ PyData.depthAll xs ≤ k
theorem shp_int {i : Int} : Shp 0 (.int i) := ⟨rfl, by simp [PyData.depth]⟩
theorem shp_tup (h : ShpL k xs) : Shp (k + 1) (.tuple xs) := ⟨by simpa only [PyData.canLay0] using h.1, by simp only [PyData.depth]; have := h.2; omega⟩
theorem shp_lst (h : ShpL k xs) : Shp (k + 1) (.list xs) := ⟨by simpa only [PyData.canLay0] using h.1, by simp only [PyData.depth]; have := h.2; omega⟩
theorem shpl_nil : ShpL k [] := ⟨rfl, by simp [PyData.depthAll]⟩
theorem shpl_cons (h : Shp k x) (t : ShpL k xs) : ShpL k (x :: xs) := ⟨by simp only [PyData.canLayAll0, h.1, t.1, Bool.and_self], by simp only [PyData.depthAll]; exact Nat.max_le.mpr ⟨h.2, t.2⟩⟩
theorem Shp.mono (h : Shp k x) (hk : k ≤ k') : Shp k' x := ⟨h.1, Nat.le_trans h.2 hk⟩
theorem shpl_map {α : Type} {g : α → PyData} : ∀ {l : List α}, (∀ a ∈ l, Shp k (g a)) → ShpL k (l.map g)
  | [], _ => shpl_nil
  | a :: l, h => shpl_cons (h a (by simp)) (shpl_map fun b hb => h b (by simp [hb]))
theorem eqD_tree (h1 : Rf k m d x) (h2 : Rf k' m e y) (s1 : Shp 64 x) (s2 : Shp 64 y) (l1 : k ≤ 60) (l2 : k' ≤ 60) : eqD m d e = some (PyData.eqv x y) := by
  have e1 : SeqAt.shaped x = true := by unfold SeqAt.shaped; rw [s1.1, decide_eq_true s1.2]; rfl
  have e2 : SeqAt.shaped y = true := by unfold SeqAt.shaped; rw [s2.1, decide_eq_true s2.2]; rfl
  simp only [eqD, tree, h1 60 l1, h2 60 l2, e1, e2, Bool.and_self, if_true]
end
section
variable {α : Type} {xs : List α} {i : Nat} {m : Mu} {ds : List D}
@[simp] theorem atI_nat : L2.atI xs (i : Int) = xs[i]? := by
  unfold L2.atI L2.ixN
  by_cases h : i < xs.length
  · rw [if_pos (by omega), if_pos (by omega)]; simp
  · rw [if_pos (by omega), if_neg (by omega)]; simp; omega
@[simp] theorem atI_0 : L2.atI xs 0 = xs[0]? := atI_nat (i := 0)
@[simp] theorem atI_1 : L2.atI xs 1 = xs[1]? := atI_nat (i := 1)
theorem atI_neg (h : 0 < xs.length) : L2.atI xs (-1) = xs.getLast? := by
  unfold L2.atI L2.ixN
  rw [if_neg (by omega), if_pos (by omega), List.getLast?_eq_getElem?]
  simp only [Option.bind_some]
  congr 1; omega
@[simp] theorem idx_tup {j : Int} : idxI (.tup ds) (.int j) m = L2.atI ds j := (rfl)
theorem idx_loc {j : Int} {l : Nat} (h : listAt m l = some ds) : idxI (.loc l) (.int j) m = L2.atI ds j := by simp [idxI, h]
end
namespace K78
variable {wf n : Nat} {m : Mu} {Q : D → Mu → Prop}
def frP (q : Rat) : PyData := .tuple [.int q.num, .int q.den]
def pD (p : List Rat) : D := .tup (p.map fr)
@[simp] theorem idx_fr0 {q : Rat} : idxI (fr q) (.int 0) m = some (.int q.num) := (rfl)
@[simp] theorem idx_fr1 {q : Rat} : idxI (fr q) (.int 1) m = some (.int q.den) := (rfl)
@[simp] theorem op_addP {p q : List Rat} : (opD .add (pD p) (pD q) m).to Q = (szOk (p.length + q.length) = true ∧ Q (pD (p ++ q)) m) := by simp [pD]
@[simp] theorem blt_lenP {p : List Rat} : (bltD .len [pD p] m).to Q = Q (.int p.length) m := by simp [pD]
theorem rf_fr {q : Rat} : Rf 2 m (fr q) (frP q) := rf_tup (rfl_cons rf_int (rfl_cons rf_int rfl_nil))
theorem shp_fr {q : Rat} : Shp 1 (frP q) := shp_tup (shpl_cons shp_int (shpl_cons shp_int shpl_nil))
theorem rfl_frs {p : List Rat} : RfL 2 m (p.map fr) (p.map frP) := rfl_map fun _ _ => rf_fr
theorem shpl_frs {p : List Rat} : ShpL 1 (p.map frP) := shpl_map fun _ _ => shp_fr
theorem fr0 : fr 0 = .tup [.int 0, .int 1] := rfl
theorem fr1 : fr 1 = .tup [.int 1, .int 1] := rfl
theorem eqv_fr {q r : Rat} : PyData.eqv (frP q) (frP r) = decide (q = r) := by
  simp only [frP, PyData.eqv, PyData.eqvAll, Bool.and_true]
  by_cases h : q = r
  · subst h; simp
  · rw [decide_eq_false h]
    by_cases h1 : q.num = r.num
    · have h2 : ¬ q.den = r.den := fun h2 => h (Rat.ext h1 h2)
      simp [h1, h2]; omega
    · simp [h1]
@[simp] theorem eqD_fr {q r : Rat} : eqD m (fr q) (fr r) = some (decide (q = r)) := by
  rw [eqD_tree rf_fr rf_fr (shp_fr.mono (by decide)) (shp_fr.mono (by decide)) (by decide) (by decide), eqv_fr]
@[simp] theorem eqC_fr {q r : Rat} : eqC m (fr q) (fr r) = some (decide (q = r)) := eqD_fr (m := m)
theorem eqvAll_nil {xs : List PyData} : PyData.eqvAll xs [] = decide (xs = []) := by cases xs <;> simp [PyData.eqvAll]
@[simp] theorem eqD_pnil {p : List Rat} : eqD m (pD p) (.tup []) = some (decide (p = [])) := by
  unfold pD
  rw [eqD_tree (rf_tup rfl_frs) (rf_tup (k := 1) rfl_nil) ((shp_tup shpl_frs).mono (by decide)) ((shp_tup (k := 1) shpl_nil).mono (by decide)) (by decide) (by decide)]
  simp only [PyData.eqv, eqvAll_nil]
  cases p <;> simp
@[simp] theorem eqC_pnil {p : List Rat} : eqC m (pD p) (.tup []) = some (decide (p = [])) := eqD_pnil (m := m)
theorem eqD_lnil {a b : Nat} {p : List Rat} (h : listAt m a = some (p.map fr)) (h2 : listAt m b = some []) : eqD m (.loc a) (.loc b) = some (decide (p = [])) := by
  rw [eqD_tree (rf_lst h rfl_frs) (rf_lst (k := 1) h2 rfl_nil) ((shp_lst shpl_frs).mono (by decide)) ((shp_lst (k := 1) shpl_nil).mono (by decide)) (by decide) (by decide)]
  simp only [PyData.eqv, eqvAll_nil]
  cases p <;> simp
def Bq (b : Nat) (q : Rat) : Prop := Bd b q.num ∧ Bd b q.den
theorem Bq.mono {b c : Nat} {q : Rat} (h : Bq b q) (hc : b ≤ c) : Bq c q := ⟨h.1.mono hc, h.2.mono hc⟩
theorem divInt_bd {b : Nat} {t d : Int} (h1 : Bd b t) (h2 : Bd b d) (hd : d ≠ 0) : Bq b (Rat.divInt t d) := by
  have hg : 0 < Int.gcd d t := Int.gcd_pos_of_ne_zero_left _ hd
  constructor
  · rw [Rat.num_divInt]
    unfold Bd at *
    have e : (d.sign * t / (Int.gcd d t : Int)).natAbs ≤ t.natAbs := by
      have h3 : (Int.gcd d t : Int) ∣ d.sign * t := Int.dvd_mul_of_dvd_right (Int.gcd_dvd_right ..)
      rw [Int.natAbs_ediv_of_dvd h3, Int.natAbs_mul]
      refine Nat.le_trans (Nat.div_le_self _ _) ?_
      have : d.sign.natAbs = 1 := by rw [Int.natAbs_sign, if_neg hd]
      rw [this]; omega
    omega
  · rw [Rat.den_divInt, if_neg hd]
    unfold Bd at *
    have := Nat.div_le_self d.natAbs (Int.gcd d t)
    rw [Int.natAbs_natCast]
    omega
theorem den_ne {q : Rat} : (q.den : Int) ≠ 0 := by have := q.den_nz; omega
theorem den_pos {q : Rat} : 0 < (q.den : Int) := by have := q.den_nz; omega
theorem add_eq (q r : Rat) : Rat.divInt (q.num * r.den + r.num * q.den) (q.den * r.den) = q + r := by
  rw [Rat.add_def', ← Rat.divInt_ofNat]; rfl
theorem mul_eq (q r : Rat) : Rat.divInt (q.num * r.num) (q.den * r.den) = q * r := by
  rw [Rat.mul_def', ← Rat.divInt_ofNat]; rfl
theorem Bq.add {b c : Nat} {q r : Rat} (h1 : Bq b q) (h2 : Bq c r) : Bq (b + c + 1) (q + r) := by
  rw [← add_eq]
  refine divInt_bd ((h1.1.mul h2.2).add ?_) ((h1.2.mul h2.2).mono (by omega)) (Int.mul_ne_zero den_ne den_ne)
  exact Nat.add_comm c b ▸ h2.1.mul h1.2
theorem Bq.mul {b c : Nat} {q r : Rat} (h1 : Bq b q) (h2 : Bq c r) : Bq (b + c) (q * r) := by
  rw [← mul_eq]
  exact divInt_bd (h1.1.mul h2.1) (h1.2.mul h2.2) (Int.mul_ne_zero den_ne den_ne)
theorem times_ok (hw : Fu wf) (hn : 3 ≤ n) {q r : Rat} {b c : Nat} (h1 : Bq b q) (h2 : Bq c r) (hb : b + c ≤ 4000) (k : Q (fr (q * r)) m) : (callN Pr wf n f_fraction_times [fr q, fr r] m).to Q := by
  refine call_of (fn := p_fraction_times) rfl rfl (by omega) fun k' hk => ?_
  simp [p_fraction_times, fr]
  refine ⟨mul_ok h1.1 h2.1 (by omega), mul_ok h1.2 h2.2 (by omega), ?_⟩
  refine fraction_of_ok hw (by omega) (Int.mul_ne_zero den_ne den_ne) ((h1.2.mul h2.2).mono hb) ?_
  rw [mul_eq]; exact k
end K78
end Mn
end

section
namespace Mn
open PySem
section
variable {α : Type} {xs : List α} {k : Nat} {m : Mu} {ds : List D} {Q : D → Mu → Prop}
theorem cut_to (h : k ≤ xs.length) : cutD xs none (some (k : Int)) = xs.take k := by
  unfold cutD
  rw [HT.sIx_none, HT.sIx_nat, Nat.min_eq_left h]; simp
theorem cut_min : cutD xs none (some (k : Int)) = xs.take k := by
  unfold cutD
  rw [HT.sIx_none, HT.sIx_nat, List.drop_zero, Nat.sub_zero]
  by_cases h : k ≤ xs.length
  · rw [Nat.min_eq_left h]
  · rw [Nat.min_eq_right (by omega), List.take_length, List.take_of_length_le (by omega)]
theorem cut_from : cutD xs (some (k : Int)) none = xs.drop k := by
  unfold cutD
  rw [HT.sIx_none, HT.sIx_nat]
  by_cases h : k ≤ xs.length
  · rw [Nat.min_eq_left h]
    rw [List.take_of_length_le]; simp
  · rw [Nat.min_eq_right (by omega), List.drop_length, List.drop_of_length_le (by omega)]; simp
theorem sIx_m1 (n d : Nat) : HT.sIx n d (some (-1)) = n - 1 := by
  show (if (-1 : Int) < 0 then ((-1 : Int) + (n : Int)).toNat else min (-1 : Int).toNat n) = n - 1
  rw [if_pos (by decide)]; omega
theorem cut_init : cutD xs none (some (-1)) = xs.dropLast := by
  unfold cutD
  rw [HT.sIx_none, List.drop_zero, Nat.sub_zero, sIx_m1, List.dropLast_eq_take]
theorem cut_last : cutD xs (some (-1)) none = xs.drop (xs.length - 1) := by
  unfold cutD
  rw [HT.sIx_none, sIx_m1, List.take_of_length_le]
  rw [List.length_drop]
  exact Nat.le_refl _
@[simp] theorem sl_tup {lo hi : Option Int} : (slD (.tup ds) lo hi m).to Q = Q (.tup (cutD ds lo hi)) m := (rfl)
theorem sl_loc {a : Nat} {lo hi : Option Int} (h : listAt m a = some ds) : (slD (.loc a) lo hi m).to Q = (szOk (cutD ds lo hi).length = true ∧ Q (.loc m.length) (m ++ [.lst (cutD ds lo hi)])) := by simp [slD, h, to_newL]
theorem at_new {c : Cell} : (m ++ [c])[m.length]? = some c := by simp
end
def cutN (p : List Rat) : Nat → Nat
  | 0 => 0
  | k + 1 => if p[k]? = some 0 then cutN p k else k + 1
def trim (p : List Rat) : List Rat := p.take (cutN p p.length)
def Can (p : List Rat) : Prop := p.getLast? ≠ some 0
theorem cutN_le (p : List Rat) : ∀ k, cutN p k ≤ k
  | 0 => Nat.le_refl _
  | k + 1 => by
    unfold cutN
    split
    · have := cutN_le p k; omega
    · omega
theorem trim_can {p : List Rat} (h : Can p) : trim p = p := by
  unfold trim
  cases e : p.length with
  | zero => have := List.length_eq_zero_iff.mp e; subst this; rfl
  | succ k =>
    unfold cutN
    unfold Can at h
    rw [List.getLast?_eq_getElem?, e, Nat.add_sub_cancel] at h
    rw [if_neg h, ← e, List.take_length]
theorem can_trim (p : List Rat) : Can (trim p) := by
  have go : ∀ k, k ≤ p.length → Can (p.take (cutN p k)) := by
    intro k
    induction k with
    | zero => intro _; unfold cutN Can; simp
    | succ k ih =>
      intro hk
      unfold cutN
      split
      · exact ih (by omega)
      · rename_i h
        unfold Can
        rw [List.getLast?_eq_getElem?, List.length_take, Nat.min_eq_left hk, Nat.add_sub_cancel, List.getElem?_take, if_pos (by omega)]
        exact h
  exact go _ (Nat.le_refl _)
theorem trim_len (p : List Rat) : (trim p).length ≤ p.length := by
  unfold trim; rw [List.length_take]; omega
theorem trim_mem {p : List Rat} {q : Rat} (h : q ∈ trim p) : q ∈ p := List.mem_of_mem_take h
namespace K78
variable {wf n : Nat} {m : Mu} {Q : D → Mu → Prop}
theorem fr_at {p : List Rat} {i : Nat} : (p.map fr)[i]? = (p[i]?).map fr := by rw [List.getElem?_map]
theorem cut_off_ok (hw : Fu wf) (hn : 1 ≤ n) {l : Nat} {p : List Rat} (hl : m[l]? = some (.lst (p.map fr))) (hp : p.length ≤ 1000) (q : ∀ m', Kp nox m m' → Q (pD (trim p)) m') : (callN Pr wf n f_cut_off [.loc l] m).to Q := by
  refine call_of (fn := p_cut_off) rfl rfl hn fun k _ => ?_
  simp [p_cut_off, blt_lenL (listAt_lst hl)]
  refine s_whl (fun k σ m' => m' = m ∧ σ = [some (.loc l), some (.int k)] ∧ k ≤ p.length ∧ cutN p k = cutN p p.length) p.length ?_ ⟨rfl, rfl, Nat.le_refl _, rfl⟩ ?_
  · have e : (1000 : Nat) < 2 ^ 5000 := Nat.lt_of_lt_of_le (by decide : 1000 < 2 ^ 10) (Nat.pow_le_pow_right (by decide) (by decide))
    exact Nat.lt_of_le_of_lt hp (Nat.lt_of_lt_of_le e hw)
  · rintro k σ m' ⟨rfl, rfl, hk, hc⟩
    have fin : cutN p k = k → (evSs (callN Pr wf ‹Nat›) wf (.cons (.ret (.blt .tuple (.cons (.sl (.var 0) none (some (.var 1))) .nil))) .nil) [some (.loc l), some (.int k)] m').to (fin Q) := by
      intro e
      simp [sl_loc (listAt_lst hl), cut_min, blt_tupL (listAt_lst at_new)]
      rw [← List.map_take]
      refine ⟨by omega, ?_⟩
      have : p.take k = trim p := by unfold trim; rw [← hc, e]
      rw [this]
      exact q _ .new
    cases k with
    | zero => simpa [b_cut_off_1] using fin rfl
    | succ j =>
      simp
      have ej : ((j : Int) + 1 - 1) = j := by omega
      have e2 : p[j]? = some p[j] := List.getElem?_eq_getElem hk
      simp [ej, idx_loc (listAt_lst hl), e2, ← fr0]
      refine br_of (fun h => ?_) fun h => ?_
      · simp [b_cut_off_1]
        refine ⟨j, by omega, rfl, by omega, ?_⟩
        rw [← hc]
        unfold cutN
        rw [e2, h, if_pos rfl]
        cases j <;> rfl
      · have := fin (by unfold cutN; rw [e2, if_neg (by simpa using h)])
        simpa using this
theorem frs_at {p : List Rat} {i : Nat} {d : D} (h : (p.map fr)[i]? = some d) : ∃ q, p[i]? = some q ∧ d = fr q := by
  rw [List.getElem?_map] at h
  cases e : p[i]? with
  | none => rw [e] at h; cases h
  | some q => rw [e] at h; exact ⟨q, rfl, (Option.some.inj h).symm⟩
theorem den_dvd (B : Int) (d : Nat) (hd : d ≠ 0) : (d : Int) ∣ B * ((mkRat B d).den : Int) := by
  rw [Rat.den_mkRat, if_neg hd]
  have h1 : d.gcd B.natAbs ∣ d := Nat.gcd_dvd_left _ _
  have h2 : (d.gcd B.natAbs : Int) ∣ B := Int.dvd_natAbs.mp (Int.natCast_dvd_natCast.mpr (Nat.gcd_dvd_right _ _))
  obtain ⟨c, hc⟩ := h2
  have hg : 0 < d.gcd B.natAbs := Nat.gcd_pos_of_pos_left _ (by omega)
  obtain ⟨e, he⟩ := h1
  have h3 : d / d.gcd B.natAbs = e := by
    conv => lhs; lhs; rw [he]
    exact Nat.mul_div_cancel_left _ hg
  rw [h3]
  refine ⟨c, ?_⟩
  have he' : (d : Int) = (d.gcd B.natAbs : Int) * e := by exact_mod_cast he
  generalize (d.gcd B.natAbs : Int) = g at *
  rw [he', hc]
  grind
/-- bottoms in one -/
theorem bottom_for_ok (hw : Fu wf) (hn : 3 ≤ n) {p : List Rat} {b : Nat} (hp : ∀ q ∈ p, Bq b q) (hb : 1 + p.length * b ≤ 4000) (q : ∀ B : Int, 0 < B → (∀ q ∈ p, (q.den : Int) ∣ B) → Bd (1 + p.length * b) B → Q (.int B) m) :
    (callN Pr wf n f_bottom_for [pD p] m).to Q := by
  refine call_of (fn := p_bottom_for) rfl rfl (by omega) fun k hk => ?_
  simp [p_bottom_for]
  refine s_forV (.seq (.st (p.map fr))) (p.map fr) (fun i σ m' => m' = m ∧ ∃ (B : Int) (x y : Option D), σ = [some (pD p), some (.int B), x, y] ∧ 0 < B ∧ (∀ j q, j < i → p[j]? = some q → (q.den : Int) ∣ B) ∧ Bd (1 + i * b) B) (by simp [pD]) ⟨rfl, 1, none, none, rfl, by decide, fun _ _ h => absurd h (by omega), by simp [Bd]⟩ (fun i σ m _ => gives_st _ _) ?_ ?_
  · rintro i d σ m' hd ⟨rfl, B, x, y, rfl, hB, hdv, hbd⟩
    obtain ⟨r, hr, rfl⟩ := frs_at hd
    have hrm : r ∈ p := List.mem_of_getElem? hr
    have hi : i < p.length := (List.getElem?_eq_some_iff.mp hr).1
    have hib : (i + 1) * b ≤ p.length * b := Nat.mul_le_mul_right _ hi
    have e1 : (i + 1) * b = i * b + b := Nat.succ_mul _ _
    have h2 := divInt_bd (hbd.mono (show 1 + i * b ≤ 4000 by omega)) ((hp r hrm).2.mono (show b ≤ 4000 by omega)) den_ne
    refine ⟨[some (pD p), some (.int B), some (.int r.num), some (.int r.den)], rfl, ?_⟩
    simp [b_bottom_for_1]
    refine fraction_of_ok hw (by omega) den_ne ((hp r hrm).2.mono (by omega)) ?_
    have hle : Bd b ((Rat.divInt B r.den).den : Int) := by
      have h3 := (hp r hrm).2
      rw [Rat.den_divInt, if_neg den_ne]
      unfold Bd at *
      have := Nat.div_le_self (r.den : Int).natAbs (Int.gcd r.den B)
      rw [Int.natAbs_natCast]
      omega
    simp [fr]
    refine ⟨mul_ok hbd hle (by omega), ?_, ?_, ?_⟩
    · exact Int.mul_pos hB den_pos
    · intro j s hj hs
      by_cases h : j < i
      · exact Int.dvd_mul_of_dvd_left (hdv j s h hs)
      · have : j = i := by omega
        subst this
        rw [hr] at hs; cases hs
        exact den_dvd B r.den r.den_nz
    · rw [e1, ← Nat.add_assoc]
      exact hbd.mul hle
  · rintro σ m' ⟨rfl, B, x, y, rfl, hB, hdv, hbd⟩
    simp
    rw [List.length_map] at hdv hbd
    refine q B hB (fun r hr => ?_) hbd
    obtain ⟨j, hj, e⟩ := List.getElem_of_mem hr
    exact hdv j r hj (by rw [List.getElem?_eq_getElem hj, e])
end K78
end Mn
end

section
namespace Mn
open PySem
/-- a list of numbers by a function of the place -/
def rl (N : Nat) (F : Nat → Int) : List D := (List.range N).map fun i => .int (F i)
@[simp] theorem rl_len {N : Nat} {F : Nat → Int} : (rl N F).length = N := by simp [rl]
theorem rl_at {N : Nat} {F : Nat → Int} {i : Nat} (h : i < N) : (rl N F)[i]? = some (.int (F i)) := by
  simp [rl, List.getElem?_map, List.getElem?_range h]
theorem rl_set {N : Nat} {F : Nat → Int} {k : Nat} {v : Int} : (rl N F).set k (.int v) = rl N fun i => if i = k then v else F i := by
  apply List.ext_getElem?
  intro i
  by_cases hi : i < N
  · rw [rl_at hi]
    by_cases hk : k = i
    · subst hk
      rw [List.getElem?_set_self (by simpa using hi), if_pos rfl]
    · rw [List.getElem?_set_ne hk, rl_at hi, if_neg (Ne.symm hk)]
  · rw [List.getElem?_eq_none (by simp; omega), List.getElem?_eq_none (by simp; omega)]
theorem rl_congr {N : Nat} {F G : Nat → Int} (h : ∀ i, i < N → F i = G i) : rl N F = rl N G := by
  apply List.ext_getElem?
  intro i
  by_cases hi : i < N
  · rw [rl_at hi, rl_at hi, h i hi]
  · rw [List.getElem?_eq_none (by simp; omega), List.getElem?_eq_none (by simp; omega)]
theorem rep_one {d : D} {N : Nat} : repD (N : Int) [d] = List.replicate N d := by
  simp only [repD, Int.toNat_natCast]
  induction N with
  | zero => rfl
  | succ n ih => rw [List.replicate_succ, List.flatten_cons, ih]; rfl
theorem rl_zero {N : Nat} : List.replicate N (D.int 0) = rl N fun _ => 0 := by
  apply List.ext_getElem?
  intro i
  by_cases hi : i < N
  · rw [rl_at hi, List.getElem?_replicate, if_pos hi]
  · rw [List.getElem?_eq_none (by simp; omega), List.getElem?_eq_none (by simp; omega)]
theorem putAt_l {l : Nat} {ds : List D} {k : Nat} {v : D} {m : Mu} (h : m[l]? = some (.lst ds)) (hk : k < ds.length) : putAt (.loc l) (.int k) v m = some (m.set l (.lst (ds.set k v))) := by
  have e : L2.ixN ds.length (k : Int) = some k := by
    unfold L2.ixN
    rw [if_pos (by omega), if_pos (by omega)]; simp
  simp [putAt, h, e]
theorem set_at {m : Mu} {l : Nat} {c c' : Cell} (h : m[l]? = some c) : (m.set l c')[l]? = some c' := List.getElem?_set_self (List.getElem?_eq_some_iff.mp h).1
namespace K78
variable {wf n : Nat} {m : Mu} {Q : D → Mu → Prop}
def tp (B : Int) (q : Rat) : Int := q.num * B.fdiv q.den
theorem fdiv_bd {b : Nat} {B d : Int} (h : Bd b B) (h0 : 0 < B) (hd : 0 < d) : Bd b (B.fdiv d) := by
  rw [Int.fdiv_eq_ediv_of_nonneg _ (by omega)]
  unfold Bd at *
  have := Int.ediv_le_self d (show 0 ≤ B by omega)
  have := Int.ediv_nonneg (show 0 ≤ B by omega) (show 0 ≤ d by omega)
  omega
theorem tp_bd {b c : Nat} {B : Int} {q : Rat} (h : Bd c B) (h0 : 0 < B) (hq : Bq b q) : Bd (b + c) (tp B q) := hq.1.mul (fdiv_bd h h0 den_pos)
theorem tp_eq {B : Int} {q : Rat} (h : (q.den : Int) ∣ B) : ((tp B q : Int) : Rat) = q * (B : Rat) := by
  obtain ⟨c, rfl⟩ := h
  unfold tp
  rw [Int.mul_fdiv_cancel_left _ den_ne, Rat.intCast_mul, Rat.intCast_mul]
  have h1 : (q.den : Rat) ≠ 0 := by
    have := q.den_nz
    exact fun z => this (Rat.natCast_eq_zero_iff.mp z)
  have h2 : q = (q.num : Rat) / (q.den : Rat) := by
    rw [← Rat.mkRat_eq_div, Rat.mkRat_self]
  have h3 : ((q.den : Int) : Rat) = (q.den : Rat) := Rat.intCast_natCast _
  rw [h3]
  conv => rhs; rw [h2]
  grind
theorem tops_by_ok (hn : 1 ≤ n) {p : List Rat} {b c : Nat} {B : Int} (hp : ∀ q ∈ p, Bq b q) (hB : Bd c B) (h0 : 0 < B) (hc : b + c ≤ 8000) (hl : p.length ≤ 1000)
    (q : ∀ l m', Kp nox m m' → m.length ≤ l → m'[l]? = some (.lst (p.map fun q => .int (tp B q))) → Q (.loc l) m') : (callN Pr wf n f_tops_by [pD p, .int B] m).to Q := by
  refine call_of (fn := p_tops_by) rfl rfl (by omega) fun k hk => ?_
  simp only [p_tops_by, ss_cons, ss_nil, s_ret]
  refine ev_compM p fr (fun q => .int (tp B q)) (by omega) ?_ ?_ ?_
  · simp [pD]
    exact ⟨.refl, fun m2 _ => gives_st _ _⟩
  · intro r m2 hr hk
    refine ⟨[some (pD p), some (.int B), some (.int r.num), some (.int r.den)], rfl, ?_⟩
    have h1 : divOk (r.den : Int) = true := div_ok den_ne ((hp r hr).2.mono (show b ≤ 8000 by omega)) (by decide)
    have h2 : mulOk r.num (B.fdiv r.den) = true := mul_ok (hp r hr).1 (fdiv_bd hB h0 den_pos) (by omega)
    simp [h1, h2, tp]
    exact .refl
  · intro l m' hk hl hm
    simpa using q l m' hk hl hm
theorem poly_made_ok (hw : Fu wf) (hn : 3 ≤ n) {l : Nat} {ts : List Int} {B : Int} (hm : m[l]? = some (.lst (ts.map D.int))) (hB : Bd 4000 B) (h0 : B ≠ 0) (hl : ts.length ≤ 1000)
    (q : ∀ m', Kp nox m m' → Q (pD (trim (ts.map fun t => Rat.divInt t B))) m') : (callN Pr wf n f_poly_made [.loc l, .int B] m).to Q := by
  refine call_of (fn := p_poly_made) rfl rfl (by omega) fun k hk => ?_
  simp only [p_poly_made, ss_cons, ss_nil, s_ret, ev_call, evEs_cons, evEs_nil]
  refine ev_compM ts D.int (fun t => fr (Rat.divInt t B)) (by omega) ?_ ?_ ?_
  · simp [srcOf_loc (listAt_lst hm)]
    exact ⟨.refl, fun m2 h => gives_dy (listAt_lst (h.at_ hm id))⟩
  · intro t m2 ht hk
    refine ⟨[some (.loc l), some (.int B), some (.int t)], rfl, ?_⟩
    simp
    exact fraction_of_ok hw (by omega) h0 hB ⟨rfl, .refl⟩
  · intro l' m' hk hl' hm'
    refine cut_off_ok hw (by omega) (p := ts.map fun t => Rat.divInt t B) (by rw [List.map_map]; exact hm') (by simpa using hl) fun m2 h2 => ?_
    exact q m2 (hk.trans h2)
end K78
end Mn
end

section
namespace Mn
open PySem
theorem enumD_len {ds : List D} : (enumD ds).length = ds.length := by simp [enumD]
theorem enumD_at {ds : List D} {i : Nat} {d : D} (h : (enumD ds)[i]? = some d) : ∃ e, ds[i]? = some e ∧ d = .tup [.int i, e] := by
  unfold enumD at h
  rw [List.getElem?_mapIdx] at h
  cases e : ds[i]? with
  | none => rw [e] at h; cases h
  | some x => rw [e] at h; exact ⟨x, rfl, (Option.some.inj h).symm⟩
theorem map_at {α : Type} {f : α → D} {p : List α} {i : Nat} {d : D} (h : (p.map f)[i]? = some d) : ∃ q, p[i]? = some q ∧ d = f q := by
  rw [List.getElem?_map] at h
  cases e : p[i]? with
  | none => rw [e] at h; cases h
  | some q => rw [e] at h; exact ⟨q, rfl, (Option.some.inj h).symm⟩
theorem getD_at {p : List Rat} {i : Nat} {q : Rat} (h : p[i]? = some q) : p.getD i 0 = q := by rw [List.getD_eq_getElem?_getD, h]; rfl
theorem getD_out {p : List Rat} {i : Nat} (h : p.length ≤ i) : p.getD i 0 = 0 := by rw [List.getD_eq_getElem?_getD, List.getElem?_eq_none h]; rfl
def addQ (p q : List Rat) : List Rat := (List.range (max p.length q.length)).map fun i => p.getD i 0 + q.getD i 0
theorem range_getD (p : List Rat) : ((List.range p.length).map fun i => p.getD i 0) = p := by
  apply List.ext_getElem?
  intro i
  rw [List.getElem?_map]
  by_cases h : i < p.length
  · rw [List.getElem?_range h, List.getElem?_eq_getElem h]
    simp [List.getD_eq_getElem?_getD, List.getElem?_eq_getElem h]
  · rw [List.getElem?_eq_none (by simp; omega), List.getElem?_eq_none (by omega)]; rfl
theorem addQ_nil (q : List Rat) : addQ [] q = q := by
  unfold addQ
  simp only [List.length_nil, Nat.zero_max]
  conv => rhs; rw [← range_getD q]
  refine List.map_congr_left fun i _ => ?_
  simp [Rat.zero_add, Rat.add_zero]
theorem addQ_nilR (p : List Rat) : addQ p [] = p := by
  unfold addQ
  simp only [List.length_nil, Nat.max_zero]
  conv => rhs; rw [← range_getD p]
  refine List.map_congr_left fun i _ => ?_
  simp [Rat.zero_add, Rat.add_zero]
theorem divInt_of {t B : Int} {q : Rat} (h : (t : Rat) = q * B) (hB : B ≠ 0) : Rat.divInt t B = q := by
  rw [Rat.divInt_eq_div, h]
  exact Rat.mul_div_cancel fun z => hB (Rat.intCast_eq_zero_iff.mp z)
theorem rl_eq {N : Nat} {F : Nat → Int} : rl N F = ((List.range N).map F).map D.int := by simp [rl]
namespace K78
variable {wf n : Nat} {m : Mu} {Q : D → Mu → Prop}
theorem sum_pass (hn : 1 ≤ n) {p q r : List Rat} {b c : Nat} {B : Int} {N l : Nat} {F : Nat → Int} {x y : Option D} {Q : Sl ⊕ D → Mu → Prop} {q0 : Sl → Mu → Prop} (hr : ∀ q ∈ r, Bq b q) (hB : Bd c B) (h0 : 0 < B) (hc : b + c ≤ 8000) (hl : r.length ≤ N) (hN : N ≤ 1000)
    (hm : m[l]? = some (.lst (rl N F)))
    (hq : ∀ m' x y, Kp (· = l) m m' → m'[l]? = some (.lst (rl N fun i => F i + if i < r.length then tp B (r.getD i 0) else 0)) → q0 [some (pD p), some (pD q), some (.int B), some (.loc l), some (pD r), x, y] m') :
    (evSs (callN Pr wf n) wf b_poly_sum_2 [some (pD p), some (pD q), some (.int B), some (.loc l), some (pD r), x, y] m).to (nxt q0 Q) := by
  simp only [b_poly_sum_2, ss_cons, ss_nil, s_forE]
  simp
  refine tops_by_ok hn hr hB h0 hc (by omega) fun l2 m1 k1 hl2 hm2 => ?_
  have hll : l < m.length := (List.getElem?_eq_some_iff.mp hm).1
  simp only [srcOf_loc (listAt_lst hm2), ox_some]
  refine ft_of (enumD (r.map fun q => .int (tp B q))) (fun j σ m' => m'[l2]? = some (.lst (r.map fun q => .int (tp B q))) ∧ Kp (· = l) m m' ∧ (∃ x y, σ = [some (pD p), some (pD q), some (.int B), some (.loc l), some (pD r), x, y]) ∧
    m'[l]? = some (.lst (rl N fun i => F i + if i < j then tp B (r.getD i 0) else 0))) (by simp [enumD_len]) ⟨hm2, k1.of, ⟨x, y, rfl⟩, ?_⟩ (fun j σ m' h => gives_enum (listAt_lst h.1)) ?_ ?_
  · rw [k1.at_ hm id]
    simp
  · rintro j d σ m' hd ⟨h4, h5, ⟨x, y, rfl⟩, h7⟩
    obtain ⟨e, he, rfl⟩ := enumD_at hd
    obtain ⟨s, hs, rfl⟩ := map_at he
    have hj : j < r.length := (List.getElem?_eq_some_iff.mp hs).1
    refine ⟨[some (pD p), some (pD q), some (.int B), some (.loc l), some (pD r), some (.int j), some (.int (tp B s))], rfl, ?_⟩
    simp [b_poly_sum_1, idx_loc (listAt_lst h7), rl_at (show j < N by omega)]
    refine ⟨_, putAt_l h7 (by simp; omega), ?_, h5.set (.inr rfl), ?_⟩
    · rw [List.getElem?_set_ne (by omega)]; exact h4
    · rw [set_at h7, rl_set]
      congr 2
      refine rl_congr fun i hi => ?_
      by_cases e : i = j
      · subst e
        simp [hs]
      · rw [if_neg e]
        by_cases h : i < j
        · rw [if_pos h, if_pos (by omega)]; simp
        · rw [if_neg h, if_neg (by omega)]
  · rintro σ m' ⟨h4, h5, ⟨x, y, rfl⟩, h7⟩
    simp
    rw [enumD_len, List.length_map] at h7
    exact hq m' x y h5 h7
theorem poly_sum_ok (hw : Fu wf) (hn : 5 ≤ n) {p q : List Rat} {b : Nat} (hp : ∀ r ∈ p, Bq b r) (hq : ∀ r ∈ q, Bq b r) (cp : Can p) (cq : Can q) (hb : 1 + (p.length + q.length) * b ≤ 4000) (lp : p.length ≤ 300) (lq : q.length ≤ 300)
    (k : ∀ m', Kp nox m m' → Q (pD (trim (addQ p q))) m') : (callN Pr wf n f_poly_sum [pD p, pD q] m).to Q := by
  refine call_of (fn := p_poly_sum) rfl rfl (by omega) fun k' hk => ?_
  have early : p = [] ∨ q = [] → Q (pD (p ++ q)) m := by
    intro h
    have e : pD (trim (addQ p q)) = pD (p ++ q) := by
      rcases h with rfl | rfl
      · rw [addQ_nil, trim_can cq]; rfl
      · rw [addQ_nilR, trim_can cp]; simp
    have := k m .refl
    rw [e] at this
    exact this
  simp [p_poly_sum]
  refine br_of (fun h => ⟨by omega, early (.inl h)⟩) fun hpn => br_of (fun h => ⟨by omega, early (.inr h)⟩) fun h2 => ⟨by omega, ?_⟩
  have hb4 : b ≤ 4000 := by
    have h1 : 0 < p.length := List.length_pos_iff.mpr hpn
    have := Nat.le_mul_of_pos_left b (show 0 < p.length + q.length by omega)
    omega
  have hpq : ∀ r ∈ p ++ q, Bq b r := fun r hr => (List.mem_append.mp hr).elim (hp r) (hq r)
  refine bottom_for_ok hw (by omega) hpq (by simpa using hb) fun B hB hdv hbd => ?_
  rw [List.length_append] at hbd
  have emax : max (p.length : Int) (q.length : Int) = ((max p.length q.length : Nat) : Int) := by omega
  simp [to_newL, op_mulL at_new, emax, rep_one, rl_zero]
  refine ⟨by omega, by omega, ?_⟩
  obtain ⟨N, eN⟩ : ∃ N, N = max p.length q.length := ⟨_, rfl⟩
  rw [← eN]
  refine s_forV (.seq (.st [pD p, pD q])) [pD p, pD q] (fun i σ m' => Kp nox m m' ∧ ∃ (F : Nat → Int) (x y z : Option D), σ = [some (pD p), some (pD q), some (.int B), some (.loc (m.length + 1)), x, y, z] ∧ m'[m.length + 1]? = some (.lst (rl N F)) ∧
    (∀ j, F j = (if 0 < i then tp B (p.getD j 0) else 0) + (if 1 < i then tp B (q.getD j 0) else 0))) ?_ ?_ (fun i σ m _ => gives_st _ _) ?_ ?_
  · simp
  · refine ⟨?_, fun _ => 0, none, none, none, rfl, ?_, by simp⟩
    · have := Kp.new (x := nox) (m := m) (c := [.lst [.int 0], .lst (rl N fun _ => 0)])
      simpa using this
    · rw [List.getElem?_append_right (by simp)]; simp
  · rintro i d σ m' hd ⟨k1, F, x, y, z, rfl, hl, hF⟩
    have tp0 : tp B 0 = 0 := by simp [tp]
    have hi : i = 0 ∨ i = 1 := by
      have := (List.getElem?_eq_some_iff.mp hd).1
      simp at this; omega
    rcases hi with rfl | rfl
    · cases hd
      refine ⟨_, rfl, ?_⟩
      refine sum_pass (by omega) hp hbd hB (by omega) (by omega) (by omega) hl fun m2 x y k2 h2 => ?_
      refine ⟨k1.fresh k2 (fun l e => .inl (by rw [e]; omega)), _, some (pD p), x, y, rfl, h2, fun j => ?_⟩
      rw [hF]
      by_cases h : j < p.length
      · simp [h]
      · rw [if_neg h, getD_out (by omega), tp0]; simp
    · cases hd
      refine ⟨_, rfl, ?_⟩
      refine sum_pass (by omega) hq hbd hB (by omega) (by omega) (by omega) hl fun m2 x y k2 h2 => ?_
      refine ⟨k1.fresh k2 (fun l e => .inl (by rw [e]; omega)), _, some (pD q), x, y, rfl, h2, fun j => ?_⟩
      rw [hF]
      by_cases h : j < q.length
      · simp [h]
      · rw [if_neg h, getD_out (p := q) (by omega), tp0]; simp
  · rintro σ m' ⟨k1, F, x, y, z, rfl, hl, hF⟩
    simp
    refine poly_made_ok hw (by omega) (ts := (List.range N).map F) (by rw [hl, rl_eq]) (hbd.mono (by omega)) (by omega) (by simp; omega) fun m2 k2 => ?_
    have e : ((List.range N).map F).map (fun t => Rat.divInt t B) = addQ p q := by
      unfold addQ
      rw [← eN, List.map_map]
      refine List.map_congr_left fun i _ => ?_
      refine divInt_of ?_ (by omega)
      rw [hF]
      have hd : ∀ r ∈ p ++ q, ((tp B r : Int) : Rat) = r * B := fun r hr => tp_eq (hdv r hr)
      have g : ∀ (r : List Rat), (∀ s ∈ r, s ∈ p ++ q) → ((tp B (r.getD i 0) : Int) : Rat) = r.getD i 0 * B := by
        intro r hr
        by_cases h : i < r.length
        · have e := List.getElem?_eq_getElem h
          rw [getD_at e]
          exact hd _ (hr _ (List.getElem_mem h))
        · rw [getD_out (by omega)]
          simp [tp]
      simp only [List.length_cons, List.length_nil, Nat.zero_add]
      rw [if_pos (by omega), if_pos (by omega), Rat.intCast_add, g p (fun s h => List.mem_append_left _ h), g q (fun s h => List.mem_append_right _ h), Rat.add_mul]
    rw [e]
    exact k m2 (k1.trans k2)
end K78
end Mn
end

section
namespace Mn
open PySem
/-- products by rows: the rows ahead of k -/
def cv (p q : List Rat) : Nat → Nat → Rat
  | 0, _ => 0
  | k + 1, i => cv p q k i + (if k ≤ i then p.getD k 0 * q.getD (i - k) 0 else 0)
def mulQ (p q : List Rat) : List Rat := (List.range (p.length + q.length - 1)).map (cv p q p.length)
def mulC (p q : List Rat) : List Rat := if p = [] ∨ q = [] then [] else trim (mulQ p q)
/-- .. and of the row k the places ahead of j -/
def cvj (p q : List Rat) (k j i : Nat) : Rat := cv p q k i + (if k ≤ i ∧ i - k < j then p.getD k 0 * q.getD (i - k) 0 else 0)
theorem cvj_0 {p q : List Rat} {k i : Nat} : cvj p q k 0 i = cv p q k i := by
  unfold cvj
  rw [if_neg (by omega), Rat.add_zero]
theorem cvj_end {p q : List Rat} {k i : Nat} : cvj p q k q.length i = cv p q (k + 1) i := by
  unfold cvj
  show _ = cv p q k i + _
  congr 1
  by_cases h : k ≤ i
  · by_cases h2 : i - k < q.length
    · rw [if_pos ⟨h, h2⟩, if_pos h]
    · rw [if_neg (by omega), if_pos h, getD_out (p := q) (by omega), Rat.mul_zero]
  · rw [if_neg (by omega), if_neg h]
theorem cvj_s {p q : List Rat} {k j i : Nat} : cvj p q k (j + 1) i = if i = k + j then cvj p q k j i + p.getD k 0 * q.getD j 0 else cvj p q k j i := by
  unfold cvj
  by_cases h : i = k + j
  · subst h
    rw [if_pos (by omega), if_pos rfl, if_neg (by omega), Rat.add_zero, Nat.add_sub_cancel_left]
  · rw [if_neg h]
    by_cases h2 : k ≤ i ∧ i - k < j
    · rw [if_pos (by omega), if_pos h2]
    · rw [if_neg (by omega), if_neg h2]
namespace K78
variable {wf n : Nat} {m : Mu} {Q : D → Mu → Prop}
theorem times_row {p q : List Rat} {b c : Nat} {H T : Int} {N lf lo : Nat} {F : Nat → Int} {k : Nat} {r : Rat} {cl : Nat → List D → Mu → R D} {x y : Option D} {Q : Sl ⊕ D → Mu → Prop} {q0 : Sl → Mu → Prop} {h4 h5 : Option D}
    (hp : ∀ s ∈ p, Bq b s) (hq : ∀ s ∈ q, Bq b s) (hH : Bd c H) (hT : Bd c T) (pH : 0 < H) (pT : 0 < T) (dH : ∀ s ∈ p, (s.den : Int) ∣ H) (dT : ∀ s ∈ q, (s.den : Int) ∣ T) (hc : b + c ≤ 8000) (hN : k + q.length ≤ N) (hr : p[k]? = some r)
    (hf : m[lf]? = some (.lst (rl N F))) (ho : m[lo]? = some (.lst (q.map fun s => .int (tp T s)))) (hne : lf ≠ lo) (hF : ∀ i, ((F i : Int) : Rat) = cv p q k i * ((H : Rat) * (T : Rat)))
    (hq0 : ∀ m' F' x y, Kp (· = lf) m m' → m'[lf]? = some (.lst (rl N F')) → (∀ i, ((F' i : Int) : Rat) = cv p q (k + 1) i * ((H : Rat) * (T : Rat))) →
      q0 [some (pD p), some (pD q), some (.loc lf), some (.loc lo), h4, h5, some (.int k), some (.int (tp H r)), x, y] m') :
    (evSs cl wf b_poly_times_2 [some (pD p), some (pD q), some (.loc lf), some (.loc lo), h4, h5, some (.int k), some (.int (tp H r)), x, y] m).to (nxt q0 Q) := by
  simp only [b_poly_times_2, ss_cons, ss_nil, s_forE]
  simp [srcOf_loc (listAt_lst ho)]
  have rm : r ∈ p := List.mem_of_getElem? hr
  obtain ⟨I, hI⟩ : ∃ I : Nat → Sl → Mu → Prop, I = (fun j σ m' => Kp (· = lf) m m' ∧ m'[lo]? = some (.lst (q.map fun s => .int (tp T s))) ∧ ∃ (F' : Nat → Int) (x y : Option D),
    σ = [some (pD p), some (pD q), some (.loc lf), some (.loc lo), h4, h5, some (.int k), some (.int (tp H r)), x, y] ∧ m'[lf]? = some (.lst (rl N F')) ∧ ∀ i, ((F' i : Int) : Rat) = cvj p q k j i * ((H : Rat) * (T : Rat))) := ⟨_, rfl⟩
  refine ft_of (enumD (q.map fun s => .int (tp T s))) I
    (by simp [enumD_len]) (by rw [hI]; exact ⟨.refl, ho, F, x, y, rfl, hf, fun i => by rw [hF, cvj_0]⟩) (fun j σ m' h => by rw [hI] at h; exact gives_enum (listAt_lst h.2.1)) ?_ ?_
  · intro j d σ m' hd h
    rw [hI] at h
    obtain ⟨k1, o1, F', x, y, rfl, f1, hF'⟩ := h
    obtain ⟨e, he, rfl⟩ := enumD_at hd
    obtain ⟨s, hs, rfl⟩ := map_at he
    have hj : j < q.length := (List.getElem?_eq_some_iff.mp hs).1
    have sm : s ∈ q := List.mem_of_getElem? hs
    refine ⟨[some (pD p), some (pD q), some (.loc lf), some (.loc lo), h4, h5, some (.int k), some (.int (tp H r)), some (.int j), some (.int (tp T s))], rfl, ?_⟩
    have e1 : ((k : Int) + (j : Int)) = ((k + j : Nat) : Int) := by omega
    have hkN : k + j < N := by omega
    have hm : mulOk (tp H r) (tp T s) = true := mul_ok (tp_bd hH pH (hp r rm)) (tp_bd hT pT (hq s sm)) (by omega)
    have hix : L2.atI (rl N F') ((k : Int) + (j : Int)) = some (.int (F' (k + j))) := by rw [e1, atI_nat, rl_at hkN]
    simp [b_poly_times_1, idx_loc (listAt_lst f1), hix, hm]
    refine ⟨_, by rw [e1]; exact putAt_l f1 (by simpa using hkN), ?_⟩
    rw [hI]
    refine ⟨k1.set (.inr rfl), ?_, ?_⟩
    · rw [List.getElem?_set_ne hne]; exact o1
    · refine ⟨fun i => if i = k + j then F' (k + j) + tp H r * tp T s else F' i, _, _, rfl, ?_, fun i => ?_⟩
      · rw [set_at f1, rl_set]
      · rw [cvj_s]
        show (((if i = k + j then F' (k + j) + tp H r * tp T s else F' i) : Int) : Rat) = _
        by_cases h : i = k + j
        · subst h
          rw [if_pos rfl, if_pos rfl, Rat.intCast_add, hF', Rat.intCast_mul, tp_eq (dH r rm), tp_eq (dT s sm), getD_at hr, getD_at hs]
          grind
        · rw [if_neg h, if_neg h, hF']
  · intro σ m' h
    rw [hI] at h
    obtain ⟨k1, o1, F', x, y, rfl, f1, hF'⟩ := h
    simp
    refine hq0 m' F' x y k1 f1 fun i => ?_
    rw [hF', enumD_len, List.length_map, cvj_end]
theorem poly_times_ok (hw : Fu wf) (hn : 5 ≤ n) {p q : List Rat} {b : Nat} (hp : ∀ r ∈ p, Bq b r) (hq : ∀ r ∈ q, Bq b r) (hb : 2 + (p.length + q.length) * b ≤ 4000) (lp : p.length ≤ 300) (lq : q.length ≤ 300)
    (k : ∀ m', Kp nox m m' → Q (pD (mulC p q)) m') : (callN Pr wf n f_poly_times [pD p, pD q] m).to Q := by
  refine call_of (fn := p_poly_times) rfl rfl (by omega) fun k' hk => ?_
  simp [p_poly_times]
  have early : p = [] ∨ q = [] → Q (.tup []) m := by
    intro h
    have := k m .refl
    unfold mulC at this
    rw [if_pos h] at this
    exact this
  refine br_of (fun h => early (.inl h)) fun hpn => br_of (fun h => early (.inr h)) fun hqn => ?_
  have h1 : 0 < p.length := List.length_pos_iff.mpr hpn
  have h2 : 0 < q.length := List.length_pos_iff.mpr hqn
  have hb4 := Nat.le_mul_of_pos_left b (show 0 < p.length + q.length by omega)
  have e0 : (p.length + q.length) * b = p.length * b + q.length * b := Nat.add_mul _ _ _
  refine bottom_for_ok hw (by omega) hp (by omega) fun H pH dH bH => ?_
  refine bottom_for_ok hw (by omega) hq (by omega) fun T pT dT bT => ?_
  obtain ⟨N, eN⟩ : ∃ N, N = p.length + q.length - 1 := ⟨_, rfl⟩
  have e1 : ((p.length : Int) + (q.length : Int) - 1) = (N : Int) := by omega
  simp [to_newL, e1, op_mulL at_new, rep_one, rl_zero]
  refine ⟨by omega, by omega, ?_⟩
  have f0 : (m ++ [.lst [.int 0], .lst (rl N fun _ => 0)])[m.length + 1]? = some (.lst (rl N fun _ => 0)) := by
    rw [List.getElem?_append_right (by omega)]; simp
  refine tops_by_ok (by omega) hq bT pT (by omega) (by omega) fun lo m1 k1 hlo o1 => ?_
  simp only [List.length_append, List.length_cons, List.length_nil] at hlo
  simp [s_forE]
  refine tops_by_ok (by omega) hp bH pH (by omega) (by omega) fun l1 m2 k2 hl1 t1 => ?_
  simp only [srcOf_loc (listAt_lst t1), ox_some]
  have lo1 : lo < m1.length := (List.getElem?_eq_some_iff.mp o1).1
  refine ft_of (enumD (p.map fun s => .int (tp H s))) (fun i σ m' => Kp nox m m' ∧ m'[l1]? = some (.lst (p.map fun s => .int (tp H s))) ∧ m'[lo]? = some (.lst (q.map fun s => .int (tp T s))) ∧ ∃ (F : Nat → Int) (x y z w : Option D),
    σ = [some (pD p), some (pD q), some (.loc (m.length + 1)), some (.loc lo), some (.int H), some (.int T), x, y, z, w] ∧ m'[m.length + 1]? = some (.lst (rl N F)) ∧ ∀ j, ((F j : Int) : Rat) = cv p q i j * ((H : Rat) * (T : Rat))) (by simp [enumD_len])
    ⟨?_, t1, k2.at_ o1 id, fun _ => 0, none, none, none, none, rfl, k2.at_ (k1.at_ f0 id) id, fun j => by simp [cv]⟩ (fun j σ m' h => gives_enum (listAt_lst h.2.1)) ?_ ?_
  · exact (Kp.new.trans k1).trans k2
  · rintro i d σ m' hd ⟨k3, t2, o2, F, x, y, z, w, rfl, f1, hF⟩
    obtain ⟨e, he, rfl⟩ := enumD_at hd
    obtain ⟨r, hr, rfl⟩ := map_at he
    have hi : i < p.length := (List.getElem?_eq_some_iff.mp hr).1
    refine ⟨[some (pD p), some (pD q), some (.loc (m.length + 1)), some (.loc lo), some (.int H), some (.int T), some (.int i), some (.int (tp H r)), z, w], rfl, ?_⟩
    refine times_row (b := b) (c := 4000) hp hq (bH.mono (by omega)) (bT.mono (by omega)) pH pT dH dT (by omega) (by omega) hr f1 o2 (by omega) hF fun m4 F' x y k4 f4 hF' => ?_
    refine ⟨k3.fresh k4 (fun l e => .inl (by rw [e]; omega)), k4.at_ t2 (by omega), k4.at_ o2 (by omega), F', _, _, x, y, rfl, f4, hF'⟩
  · rintro σ m' ⟨k3, t2, o2, F, x, y, z, w, rfl, f1, hF⟩
    have hHT : mulOk H T = true := mul_ok bH bT (by omega)
    simp [hHT]
    have b3 : Bd 4000 (H * T) := (bH.mul bT).mono (by omega)
    have hne : H * T ≠ 0 := Int.mul_ne_zero (by omega) (by omega)
    refine poly_made_ok hw (by omega) (ts := (List.range N).map F) (by rw [f1, rl_eq]) b3 hne (by simp; omega) fun m5 k5 => ?_
    have e : ((List.range N).map F).map (fun t => Rat.divInt t (H * T)) = mulQ p q := by
      unfold mulQ
      rw [← eN, List.map_map]
      refine List.map_congr_left fun i _ => ?_
      refine divInt_of ?_ hne
      rw [hF, enumD_len, List.length_map, Rat.intCast_mul]
    rw [e]
    have := k m5 (k3.trans k5)
    unfold mulC at this
    rw [if_neg (by rintro (h | h); exact hpn h; exact hqn h)] at this
    exact this
end K78
end Mn
end

section
namespace Mn
open PySem
theorem popD_at {l : Nat} {ds : List D} {v : D} {m : Mu} {Q : D → Mu → Prop} (h : m[l]? = some (.lst ds)) (hv : ds.getLast? = some v) (q : Q v (m.set l (.lst ds.dropLast))) : (popD (.loc l) m).to Q := by
  unfold popD
  simp only [h, hv]
  exact q
/-- the value by Horner -/
def hv (x : Rat) (p : List Rat) : Rat := p.foldr (fun c a => a * x + c) 0
theorem hv_drop {x : Rat} {p : List Rat} {k : Nat} {r : Rat} (h : p[k]? = some r) : hv x (p.drop k) = hv x (p.drop (k + 1)) * x + r := by
  have hk : k < p.length := (List.getElem?_eq_some_iff.mp h).1
  have e : p[k] = r := (List.getElem?_eq_some_iff.mp h).2
  rw [List.drop_eq_getElem_cons hk, e]
  rfl
def scQ (p : List Rat) (x : Rat) : List Rat := if x = 0 then [] else p.map (· * x)
namespace K78
variable {wf n : Nat} {m : Mu} {Q : D → Mu → Prop}
theorem bq0 {b : Nat} (h : 1 ≤ b) : Bq b 0 := Bq.mono (b := 1) ⟨by unfold Bd; decide, by unfold Bd; decide⟩ h
@[simp] theorem eqC_fr0 {q : Rat} : eqC m (fr q) (.tup [.int 0, .int 1]) = some (decide (q = 0)) := eqC_fr (m := m) (r := 0)
theorem poly_scaled_ok (hw : Fu wf) (hn : 4 ≤ n) {p : List Rat} {x : Rat} {b : Nat} (hp : ∀ r ∈ p, Bq b r) (hx : Bq b x) (hb : b + b ≤ 4000) (lp : p.length ≤ 300)
    (k : ∀ m', Kp nox m m' → Q (pD (scQ p x)) m') : (callN Pr wf n f_poly_scaled [pD p, fr x] m).to Q := by
  refine call_of (fn := p_poly_scaled) rfl rfl (by omega) fun k' hk => ?_
  simp [p_poly_scaled]
  refine br_of (fun h => ?_) fun h => ?_
  · have := k m .refl
    unfold scQ at this
    rw [if_pos h] at this
    exact this
  · refine ev_compM p fr (fun r => fr (r * x)) (by omega) ?_ ?_ ?_
    · simp [pD]
      exact ⟨.refl, fun m2 _ => gives_st _ _⟩
    · intro r m2 hr hk
      refine ⟨[some (pD p), some (fr x), some (fr r)], rfl, ?_⟩
      simp
      exact times_ok hw (by omega) (hp r hr) hx hb ⟨rfl, .refl⟩
    · intro l m' hk hl hm
      simp [blt_tupL (listAt_lst hm)]
      refine ⟨by omega, ?_⟩
      have := k m' hk
      unfold scQ at this
      rw [if_neg h] at this
      simpa [pD, Function.comp_def] using this
theorem law_cut_ok (hw : Fu wf) (hn : 1 ≤ n) {l : Nat} {p : List Rat} (hl : m[l]? = some (.lst (p.map fr))) (hp : p.length ≤ 1000) (q : ∀ m', Kp nox m m' → Q (pD (trim p)) m') : (callN Pr wf n f__law_cut [.loc l] m).to Q := by
  refine call_of (fn := p__law_cut) rfl rfl hn fun k' _ => ?_
  simp [p__law_cut]
  rw [blt_list (d := .loc l) (ds := p.map fr) (by simp [seqAt, listAt_lst hl])]
  refine ⟨sz_ok (by simp; omega), ?_⟩
  obtain ⟨I, hI⟩ : ∃ I : Nat → Sl → Mu → Prop, I = (fun k σ m' => Kp nox m m' ∧ σ = [some (.loc l), some (.loc m.length)] ∧ m'[m.length]? = some (.lst ((p.take k).map fr)) ∧ k ≤ p.length ∧ cutN p k = cutN p p.length) := ⟨_, rfl⟩
  refine s_whl I p.length ?_ (by rw [hI]; exact ⟨.new, rfl, by simp, Nat.le_refl _, rfl⟩) ?_
  · have e : (1000 : Nat) < 2 ^ 5000 := Nat.lt_of_lt_of_le (by decide : 1000 < 2 ^ 10) (Nat.pow_le_pow_right (by decide) (by decide))
    exact Nat.lt_of_le_of_lt hp (Nat.lt_of_lt_of_le e hw)
  · intro k σ m' h
    rw [hI] at h
    obtain ⟨k1, rfl, hm, hk, hc⟩ := h
    have fin : ∀ m2, Kp nox m m2 → m2[m.length]? = some (.lst ((p.take k).map fr)) → cutN p k = k → (bltD .tuple [.loc m.length] m2).to Q := by
      intro m2 k2 h2 e
      rw [blt_tupL (listAt_lst h2)]
      have : p.take k = trim p := by unfold trim; rw [← hc, e]
      rw [this]
      exact ⟨sz_ok (by have := trim_len p; simp; omega), q m2 k2⟩
    simp [to_newL]
    have lm : m.length < m'.length := (List.getElem?_eq_some_iff.mp hm).1
    have hm2 : (m' ++ [Cell.lst []])[m.length]? = some (.lst ((p.take k).map fr)) := by rw [List.getElem?_append_left lm]; exact hm
    have e0 : eqD (m' ++ [Cell.lst []]) (.loc m.length) (.loc m'.length) = some (decide (p.take k = [])) := eqD_lnil (listAt_lst hm2) (listAt_lst at_new)
    simp [e0]
    cases k with
    | zero =>
      simp
      exact fin _ (k1.trans .new) hm2 rfl
    | succ j =>
      have ne : ¬ (p.take (j + 1) = []) := by
        intro z
        have := congrArg List.length z
        rw [List.length_take, List.length_nil] at this
        omega
      have e2 : p[j]? = some p[j] := List.getElem?_eq_getElem hk
      have e3 : ((p.take (j + 1)).map fr).getLast? = some (fr p[j]) := by
        rw [List.getLast?_eq_getElem?, List.length_map, List.length_take, Nat.min_eq_left hk, Nat.add_sub_cancel, List.getElem?_map, List.getElem?_take, if_pos (by omega), e2]; rfl
      have e4 : L2.atI ((p.take (j + 1)).map fr) (-1) = some (fr p[j]) := by
        rw [atI_neg (by simp; omega)]; exact e3
      have ne2 : ¬ p = [] := by rintro rfl; simp at hk
      simp [ne2]
      have e5 : idxI (.loc m.length) (.int (-1)) (m' ++ [Cell.lst []]) = some (fr p[j]) := by rw [idx_loc (listAt_lst hm2)]; exact e4
      simp [e5, b__law_cut_1]
      have k2 : Kp nox m (m' ++ [Cell.lst []]) := k1.trans .new
      refine br_of (fun h => ?_) fun h => ?_
      · have h0 : p[j] = 0 := h
        refine popD_at hm2 e3 ?_
        refine ⟨j, by omega, ?_⟩
        rw [hI]
        refine ⟨k2.set (.inl (Nat.le_refl _)), rfl, ?_, by omega, ?_⟩
        · rw [set_at hm2]
          congr 2
          rw [← List.map_dropLast, List.dropLast_eq_take, List.length_take, Nat.min_eq_left hk, List.take_take]
          congr 2; omega
        · rw [← hc]
          conv => rhs; unfold cutN
          rw [e2, h0, if_pos rfl]
      · refine fin _ k2 hm2 ?_
        unfold cutN
        rw [e2, if_neg (fun z => h (Option.some.inj z))]
theorem pad_get {p : List Rat} {N i : Nat} (h : i < p.length + N) : (p.map fr ++ List.replicate N (fr 0))[i]? = some (fr (p.getD i 0)) := by
  by_cases hi : i < p.length
  · rw [List.getElem?_append_left (by simpa using hi), List.getElem?_map, List.getElem?_eq_getElem hi]
    simp [List.getD_eq_getElem?_getD, List.getElem?_eq_getElem hi]
  · rw [List.getElem?_append_right (by simp; omega), List.getElem?_replicate, if_pos (by simp; omega), getD_out (by omega)]
theorem rngD_at {N i : Nat} {d : D} (h : (rngD N)[i]? = some d) : i < N ∧ d = .int i := by
  unfold rngD at h
  rw [List.getElem?_map] at h
  by_cases hi : i < N
  · rw [List.getElem?_range hi] at h
    exact ⟨hi, (Option.some.inj h).symm⟩
  · rw [List.getElem?_eq_none (by simp; omega)] at h; cases h
theorem bound_ok {k : Nat} (h : k ≤ 1000000) : boundOk (k : Int) = true := by
  rw [boundOk_eq, decide_eq_true (by omega), decide_eq_true (by omega)]; rfl
theorem law_plus_ok (hw : Fu wf) (hn : 3 ≤ n) {p q : List Rat} {b : Nat} (hp : ∀ r ∈ p, Bq b r) (hq : ∀ r ∈ q, Bq b r) (hb1 : 1 ≤ b) (hb : b + b ≤ 4000) (lp : p.length ≤ 300) (lq : q.length ≤ 300)
    (k : ∀ m', Kp nox m m' → Q (pD (trim (addQ p q))) m') : (callN Pr wf n f__law_plus [pD p, pD q] m).to Q := by
  refine call_of (fn := p__law_plus) rfl rfl (by omega) fun k' hk => ?_
  obtain ⟨N, eN⟩ : ∃ N, N = max p.length q.length := ⟨_, rfl⟩
  have emax : max (p.length : Int) (q.length : Int) = (N : Int) := by omega
  simp [p__law_plus, to_newL, emax, s_forE, bound_ok (show N ≤ 1000000 by omega)]
  obtain ⟨I, hI⟩ : ∃ I : Nat → Sl → Mu → Prop, I = (fun i σ m' => Kp nox m m' ∧ (∃ x y z, σ = [some (pD p), some (pD q), some (.loc m.length), x, y, z]) ∧ m'[m.length]? = some (.lst (((List.range i).map fun j => p.getD j 0 + q.getD j 0).map fr))) := ⟨_, rfl⟩
  refine ft_of (rngD N) I (by simp [rngD]) (by rw [hI]; exact ⟨.new, ⟨_, _, _, rfl⟩, by simp⟩) (fun _ _ m _ => gives_rng N m) ?_ ?_
  · intro i d σ m' hd h
    rw [hI] at h
    obtain ⟨k1, ⟨x, y, z, rfl⟩, hm⟩ := h
    obtain ⟨hi, rfl⟩ := rngD_at hd
    refine ⟨[some (pD p), some (pD q), some (.loc m.length), some (.int i), y, z], rfl, ?_⟩
    have r1 : ∀ k : Nat, repD (k : Int) [fr 0] = List.replicate k (fr 0) := fun k => rep_one
    have gb : ∀ (r : List Rat), (∀ s ∈ r, Bq b s) → Bq b (r.getD i 0) := fun r hr => by
      by_cases h : i < r.length
      · have e := List.getElem?_eq_getElem h
        rw [getD_at e]
        exact hr _ (List.getElem_mem h)
      · rw [getD_out (by omega)]; exact bq0 hb1
    have g1 := gb p hp
    have g2 := gb q hq
    simp only [b__law_plus_1, ss_cons, ss_nil, s_par, s_ex, ev_idxI, ev_op, ev_var, ev_tup, evEs_cons, evEs_nil, ev_con, ev_blt, ev_app, ev_call]
    have h1 := pad_get (p := p) (N := q.length) (i := i) (by omega)
    have h2 := pad_get (p := q) (N := p.length) (i := i) (by omega)
    simp only [List.getD_eq_getElem?_getD] at h1 h2
    simp [← fr0, r1, pD, h1, h2, isL_at hm]
    rw [← List.getD_eq_getElem?_getD, ← List.getD_eq_getElem?_getD]
    refine ⟨by omega, by omega, by omega, by omega, by omega, by omega, mul_ok g1.1 g2.2 (by omega), mul_ok g2.1 g1.2 (by omega), mul_ok g1.2 g2.2 (by omega), ?_⟩
    refine law_fraction_ok hw (by omega) (Int.mul_pos den_pos den_pos) ((g1.2.mul g2.2).mono hb) ?_
    rw [add_eq]
    refine appD_at hm (by simp; omega) ?_
    rw [hI]
    refine ⟨k1.set (.inl (Nat.le_refl _)), ⟨_, _, _, rfl⟩, ?_⟩
    rw [set_at hm, List.range_succ]
    simp
  · intro σ m' h
    rw [hI] at h
    obtain ⟨k1, ⟨x, y, z, rfl⟩, hm⟩ := h
    simp
    refine law_cut_ok hw (by omega) hm (by simp [rngD]; omega) fun m2 k2 => ?_
    have := k m2 (k1.trans k2)
    unfold addQ at this
    rw [← eN] at this
    simpa [rngD] using this
end K78
end Mn
end

section
namespace Mn
open PySem
/-- a list of pairs by functions of the place -/
def rp (N : Nat) (T B : Nat → Int) : List D := (List.range N).map fun i => .tup [.int (T i), .int (B i)]
@[simp] theorem rp_len {N : Nat} {T B : Nat → Int} : (rp N T B).length = N := by simp [rp]
theorem rp_at {N : Nat} {T B : Nat → Int} {i : Nat} (h : i < N) : (rp N T B)[i]? = some (.tup [.int (T i), .int (B i)]) := by
  simp [rp, List.getElem?_map, List.getElem?_range h]
theorem rp_set {N : Nat} {T B : Nat → Int} {k : Nat} {v w : Int} : (rp N T B).set k (.tup [.int v, .int w]) = rp N (fun i => if i = k then v else T i) (fun i => if i = k then w else B i) := by
  apply List.ext_getElem?
  intro i
  by_cases hi : i < N
  · rw [rp_at hi]
    by_cases hk : k = i
    · subst hk
      rw [List.getElem?_set_self (by simpa using hi), if_pos rfl, if_pos rfl]
    · rw [List.getElem?_set_ne hk, rp_at hi, if_neg (Ne.symm hk), if_neg (Ne.symm hk)]
  · rw [List.getElem?_eq_none (by simp; omega), List.getElem?_eq_none (by simp; omega)]
theorem rp_zero {N : Nat} {v w : Int} : List.replicate N (D.tup [.int v, .int w]) = rp N (fun _ => v) (fun _ => w) := by
  apply List.ext_getElem?
  intro i
  by_cases hi : i < N
  · rw [rp_at hi, List.getElem?_replicate, if_pos hi]
  · rw [List.getElem?_eq_none (by simp; omega), List.getElem?_eq_none (by simp; omega)]
theorem num_q (r : Rat) : (r.num : Rat) = r * ((r.den : Int) : Rat) := by
  have h1 : (r.den : Rat) ≠ 0 := by
    have := r.den_nz
    exact fun z => this (Rat.natCast_eq_zero_iff.mp z)
  have h2 : r = (r.num : Rat) / (r.den : Rat) := by
    rw [← Rat.mkRat_eq_div, Rat.mkRat_self]
  have h3 : ((r.den : Int) : Rat) = (r.den : Rat) := Rat.intCast_natCast _
  rw [h3]
  conv => rhs; lhs; rw [h2]
  exact (Rat.div_mul_cancel h1).symm
namespace K78
variable {wf n : Nat} {m : Mu} {Q : D → Mu → Prop}
@[simp] theorem idx_pD {p : List Rat} {i : Nat} : idxI (pD p) (.int i) m = (p[i]?).map fr := by simp [pD]
theorem product_row (cl : Nat → List D → Mu → R D) {p q : List Rat} {b N lf k : Nat} {T B : Nat → Int} {r : Rat} {x0 x1 x2 x3 x4 : Option D} {Q : Sl ⊕ D → Mu → Prop} {q0 : Sl → Mu → Prop}
    (hp : ∀ s ∈ p, Bq b s) (hq : ∀ s ∈ q, Bq b s) (hN : k + q.length ≤ N) (hr : p[k]? = some r) (lq : q.length ≤ 300) (hb : 4 + (k + 1) * q.length * (b + b + 1) ≤ 400000)
    (hf : m[lf]? = some (.lst (rp N T B))) (hT : ∀ i, i < N → 0 < B i ∧ ((T i : Int) : Rat) = cv p q k i * ((B i : Int) : Rat) ∧ Bd (2 + k * q.length * (b + b + 1)) (T i) ∧ Bd (2 + k * q.length * (b + b + 1)) (B i))
    (hq0 : ∀ m' T' B' x0 x1 x2 x3 x4, Kp (· = lf) m m' → m'[lf]? = some (.lst (rp N T' B')) →
      (∀ i, i < N → 0 < B' i ∧ ((T' i : Int) : Rat) = cv p q (k + 1) i * ((B' i : Int) : Rat) ∧ Bd (2 + (k + 1) * q.length * (b + b + 1)) (T' i) ∧ Bd (2 + (k + 1) * q.length * (b + b + 1)) (B' i)) →
      q0 [some (pD p), some (pD q), some (.loc lf), some (.int k), x0, x1, x2, x3, x4] m') :
    (evSs cl wf b__law_product_2 [some (pD p), some (pD q), some (.loc lf), some (.int k), x0, x1, x2, x3, x4] m).to (nxt q0 Q) := by
  simp only [b__law_product_2, ss_cons, ss_nil, s_forE]
  simp [bound_ok (show q.length ≤ 1000000 by omega)]
  have rm : r ∈ p := List.mem_of_getElem? hr
  obtain ⟨I, hI⟩ : ∃ I : Nat → Sl → Mu → Prop, I = (fun j σ m' => Kp (· = lf) m m' ∧ ∃ (T' B' : Nat → Int) (x0 x1 x2 x3 x4 : Option D), σ = [some (pD p), some (pD q), some (.loc lf), some (.int k), x0, x1, x2, x3, x4] ∧ m'[lf]? = some (.lst (rp N T' B')) ∧
    ∀ i, i < N → 0 < B' i ∧ ((T' i : Int) : Rat) = cvj p q k j i * ((B' i : Int) : Rat) ∧ Bd (2 + (k * q.length + j) * (b + b + 1)) (T' i) ∧ Bd (2 + (k * q.length + j) * (b + b + 1)) (B' i)) := ⟨_, rfl⟩
  refine ft_of (rngD q.length) I (by simp [rngD]) (by rw [hI]; exact ⟨.refl, T, B, _, _, _, _, _, rfl, hf, fun i hi => by rw [cvj_0]; exact hT i hi⟩) (fun _ _ m _ => gives_rng _ m) ?_ ?_
  · intro j d σ m' hd h
    rw [hI] at h
    obtain ⟨k1, T', B', x0, x1, x2, x3, x4, rfl, f1, hT'⟩ := h
    obtain ⟨hj, rfl⟩ := rngD_at hd
    obtain ⟨s, hs⟩ : ∃ s, q[j]? = some s := ⟨_, List.getElem?_eq_getElem hj⟩
    have sm : s ∈ q := List.mem_of_getElem? hs
    refine ⟨[some (pD p), some (pD q), some (.loc lf), some (.int k), some (.int j), x1, x2, x3, x4], rfl, ?_⟩
    have hkN : k + j < N := by omega
    obtain ⟨c1, c2, c3, c4⟩ := hT' (k + j) hkN
    have e1 : ((k : Int) + (j : Int)) = ((k + j : Nat) : Int) := by omega
    have hix : L2.atI (rp N T' B') ((k : Int) + (j : Int)) = some (.tup [.int (T' (k + j)), .int (B' (k + j))]) := by rw [e1, atI_nat, rp_at hkN]
    have hbb : (k * q.length + j) * (b + b + 1) + (b + b + 1) ≤ (k + 1) * q.length * (b + b + 1) := by
      rw [← Nat.succ_mul]
      exact Nat.mul_le_mul_right _ (by rw [Nat.succ_mul]; omega)
    have hr2 := hp r rm
    have hs2 := hq s sm
    have m1 := hr2.2.mul hs2.2
    have m2 := hr2.1.mul hs2.1
    simp [b__law_product_1, idx_loc (listAt_lst f1), hix, hr, hs, setAll]
    refine ⟨mul_ok hr2.2 hs2.2 (by omega), mul_ok hr2.1 hs2.1 (by omega), mul_ok m2 c4 (by omega), mul_ok c3 m1 (by omega), mul_ok c4 m1 (by omega), ?_⟩
    refine ⟨_, by rw [e1]; exact putAt_l f1 (by simpa using hkN), ?_⟩
    rw [hI]
    refine ⟨k1.set (.inr rfl), fun i => if i = k + j then T' (k + j) * (r.den * s.den) + r.num * s.num * B' (k + j) else T' i, fun i => if i = k + j then B' (k + j) * (r.den * s.den) else B' i, _, _, _, _, _, rfl, ?_, ?_⟩
    · rw [set_at f1, rp_set]
    · intro i hi
      obtain ⟨d1, d2, d3, d4⟩ := hT' i hi
      have e3 : (k * q.length + (j + 1)) * (b + b + 1) = (k * q.length + j) * (b + b + 1) + (b + b + 1) := by rw [← Nat.succ_mul]; rfl
      rw [cvj_s, e3]
      show 0 < (if i = k + j then B' (k + j) * (r.den * s.den) else B' i) ∧ (((if i = k + j then T' (k + j) * (r.den * s.den) + r.num * s.num * B' (k + j) else T' i) : Int) : Rat) = _ * (((if i = k + j then B' (k + j) * (r.den * s.den) else B' i) : Int) : Rat) ∧
        Bd _ (if i = k + j then T' (k + j) * (r.den * s.den) + r.num * s.num * B' (k + j) else T' i) ∧ Bd _ (if i = k + j then B' (k + j) * (r.den * s.den) else B' i)
      by_cases h : i = k + j
      · subst h
        simp only [if_true]
        refine ⟨Int.mul_pos d1 (Int.mul_pos den_pos den_pos), ?_, ?_, ?_⟩
        · simp only [Rat.intCast_add, Rat.intCast_mul, d2, num_q r, num_q s, getD_at hr, getD_at hs]
          grind
        · exact (((d3.mul m1).mono (show _ ≤ 2 + (k * q.length + j) * (b + b + 1) + (b + b) by omega)).add ((m2.mul d4).mono (by omega))).mono (by omega)
        · exact (d4.mul m1).mono (by omega)
      · simp only [if_neg h]
        exact ⟨d1, d2, d3.mono (by omega), d4.mono (by omega)⟩
  · intro σ m' h
    rw [hI] at h
    obtain ⟨k1, T', B', x0, x1, x2, x3, x4, rfl, f1, hT'⟩ := h
    simp
    refine hq0 m' T' B' _ _ _ _ _ k1 f1 fun i hi => ?_
    obtain ⟨d1, d2, d3, d4⟩ := hT' i hi
    have e3 : (rngD q.length).length = q.length := by simp [rngD]
    rw [e3, cvj_end] at d2
    rw [e3, ← Nat.succ_mul] at d3 d4
    exact ⟨d1, d2, d3, d4⟩
theorem law_product_ok (hw : Fu wf) (hn : 3 ≤ n) {p q : List Rat} {b : Nat} (hp : ∀ r ∈ p, Bq b r) (hq : ∀ r ∈ q, Bq b r) (hb : 4 + p.length * q.length * (b + b + 1) ≤ 4000) (lp : p.length ≤ 300) (lq : q.length ≤ 300)
    (k : ∀ m', Kp nox m m' → Q (pD (mulC p q)) m') : (callN Pr wf n f__law_product [pD p, pD q] m).to Q := by
  refine call_of (fn := p__law_product) rfl rfl (by omega) fun k' hk => ?_
  simp [p__law_product]
  have early : p = [] ∨ q = [] → Q (.tup []) m := by
    intro h
    have := k m .refl
    unfold mulC at this
    rw [if_pos h] at this
    exact this
  refine br_of (fun h => early (.inl h)) fun hpn => br_of (fun h => early (.inr h)) fun hqn => ?_
  have h1 : 0 < p.length := List.length_pos_iff.mpr hpn
  have h2 : 0 < q.length := List.length_pos_iff.mpr hqn
  obtain ⟨N, eN⟩ : ∃ N, N = p.length + q.length - 1 := ⟨_, rfl⟩
  have e1 : ((p.length : Int) + (q.length : Int) - 1) = (N : Int) := by omega
  simp [to_newL, e1, op_mulL at_new, rep_one, rp_zero, s_forE, bound_ok (show p.length ≤ 1000000 by omega)]
  refine ⟨by omega, by omega, ?_⟩
  have f0 : (m ++ [.lst [.tup [.int 0, .int 1]], .lst (rp N (fun _ => 0) (fun _ => 1))])[m.length + 1]? = some (.lst (rp N (fun _ => 0) (fun _ => 1))) := by
    rw [List.getElem?_append_right (by omega)]; simp
  obtain ⟨I, hI⟩ : ∃ I : Nat → Sl → Mu → Prop, I = (fun i σ m' => Kp nox m m' ∧ ∃ (T B : Nat → Int) (x x0 x1 x2 x3 x4 : Option D), σ = [some (pD p), some (pD q), some (.loc (m.length + 1)), x, x0, x1, x2, x3, x4] ∧ m'[m.length + 1]? = some (.lst (rp N T B)) ∧
    ∀ j, j < N → 0 < B j ∧ ((T j : Int) : Rat) = cv p q i j * ((B j : Int) : Rat) ∧ Bd (2 + i * q.length * (b + b + 1)) (T j) ∧ Bd (2 + i * q.length * (b + b + 1)) (B j)) := ⟨_, rfl⟩
  refine ft_of (rngD p.length) I (by simp [rngD]) (by rw [hI]; exact ⟨.new, _, _, _, _, _, _, _, _, rfl, f0, fun j _ => ⟨by decide, by simp [cv], Bd.mono (b := 1) (by unfold Bd; decide) (by omega), Bd.mono (b := 1) (by unfold Bd; decide) (by omega)⟩⟩) (fun _ _ m _ => gives_rng _ m) ?_ ?_
  · intro i d σ m' hd h
    rw [hI] at h
    obtain ⟨k1, T, B, x, x0, x1, x2, x3, x4, rfl, f1, hT⟩ := h
    obtain ⟨hi, rfl⟩ := rngD_at hd
    obtain ⟨r, hr⟩ : ∃ r, p[i]? = some r := ⟨_, List.getElem?_eq_getElem hi⟩
    have hb2 : (i + 1) * q.length * (b + b + 1) ≤ p.length * q.length * (b + b + 1) := Nat.mul_le_mul_right _ (Nat.mul_le_mul_right _ hi)
    have hb3 : 4 + (i + 1) * q.length * (b + b + 1) ≤ 400000 := by omega
    refine ⟨[some (pD p), some (pD q), some (.loc (m.length + 1)), some (.int i), x0, x1, x2, x3, x4], rfl, ?_⟩
    refine product_row (b := b) (k := i) (N := N) (T := T) (B := B) _ hp hq (by omega) hr lq hb3 f1 hT fun m4 T' B' x0 x1 x2 x3 x4 k4 f4 hT' => ?_
    rw [hI]
    exact ⟨k1.fresh k4 (fun l e => .inl (by rw [e]; omega)), T', B', _, _, _, _, _, _, rfl, f4, hT'⟩
  · intro σ m' h
    rw [hI] at h
    obtain ⟨k1, T, B, x, x0, x1, x2, x3, x4, rfl, f1, hT⟩ := h
    have e3 : (rngD p.length).length = p.length := by simp [rngD]
    rw [e3] at hT
    simp
    refine ev_compM (List.range N) (fun i => .tup [.int (T i), .int (B i)]) (fun i => fr (cv p q p.length i)) (by simp; omega) ?_ ?_ ?_
    · simp [srcOf_loc (listAt_lst f1)]
      exact ⟨.refl, fun m2 h => gives_dy (listAt_lst (h.at_ f1 id))⟩
    · intro i m2 hi hk2
      have hi : i < N := by simpa using hi
      obtain ⟨d1, d2, d3, d4⟩ := hT i hi
      refine ⟨_, rfl, ?_⟩
      simp [wipeD]
      refine law_fraction_ok hw (by omega) d1 (d4.mono (by omega)) ⟨?_, .refl⟩
      rw [divInt_of d2 (by omega)]
    · intro l m2 hk2 hl hm2
      refine law_cut_ok hw (by omega) (p := mulQ p q) (by rw [hm2]; unfold mulQ; rw [← eN, List.map_map]; rfl) (by unfold mulQ; simp; omega) fun m3 k3 => ?_
      have := k m3 ((k1.trans hk2).trans k3)
      unfold mulC at this
      rw [if_neg (by rintro (h | h); exact hpn h; exact hqn h)] at this
      simpa using this
end K78
end Mn
end

section
namespace Mn
open PySem
/-- one fraction as a poly -/
def sg (a : Rat) : List Rat := if a = 0 then [] else [a]
theorem sg_len (a : Rat) : (sg a).length ≤ 1 := by unfold sg; split <;> simp
theorem sg_mem {a r : Rat} (h : r ∈ sg a) : r = a := by
  unfold sg at h
  split at h
  · cases h
  · simpa using h
theorem sg_mul (a b : Rat) : mulC (sg a) (sg b) = sg (a * b) := by
  by_cases ha : a = 0
  · subst ha; simp [mulC, sg]
  · by_cases hb : b = 0
    · subst hb; simp [mulC, sg]
    · have hab : ¬ a * b = 0 := by rw [Rat.mul_eq_zero]; rintro (h | h); exact ha h; exact hb h
      unfold mulC sg
      rw [if_neg ha, if_neg hb, if_neg hab, if_neg (by simp)]
      have e : mulQ [a] [b] = [a * b] := by simp [mulQ, cv, Rat.zero_add]
      rw [e]
      exact trim_can (by simpa [Can] using hab)
theorem sg_add (a b : Rat) : trim (addQ (sg a) (sg b)) = sg (a + b) := by
  by_cases ha : a = 0
  · subst ha
    have : sg 0 = [] := by simp [sg]
    rw [this, addQ_nil, Rat.zero_add]
    refine trim_can ?_
    unfold sg Can
    split
    · simp
    · rename_i h; simpa using h
  · by_cases hb : b = 0
    · subst hb
      have : sg 0 = [] := by simp [sg]
      rw [this, addQ_nilR, Rat.add_zero]
      refine trim_can ?_
      unfold sg Can
      rw [if_neg ha]; simpa using ha
    · have e : addQ (sg a) (sg b) = [a + b] := by
        unfold sg; rw [if_neg ha, if_neg hb]; simp [addQ]
      rw [e]
      unfold sg
      split
      · rename_i h
        rw [h]; simp [trim, cutN]
      · rename_i h
        exact trim_can (by simpa [Can] using h)
namespace K78
variable {wf n : Nat} {m : Mu} {Q : D → Mu → Prop}
theorem product_sg (hw : Fu wf) (hn : 3 ≤ n) {a b : Rat} {c : Nat} (ha : Bq c a) (hb : Bq c b) (hc : c + c + 5 ≤ 4000) (k : ∀ m', Kp nox m m' → Q (pD (sg (a * b))) m') : (callN Pr wf n f__law_product [pD (sg a), pD (sg b)] m).to Q := by
  have l1 := sg_len a
  have l2 := sg_len b
  have l3 : (sg a).length * (sg b).length ≤ 1 * 1 := Nat.mul_le_mul l1 l2
  have l4 : (sg a).length * (sg b).length * (c + c + 1) ≤ 1 * (c + c + 1) := Nat.mul_le_mul_right _ l3
  refine law_product_ok hw hn (b := c) (fun r hr => by rw [sg_mem hr]; exact ha) (fun r hr => by rw [sg_mem hr]; exact hb) (by omega) (by omega) (by omega) fun m' km => ?_
  rw [sg_mul]; exact k m' km
theorem plus_sg (hw : Fu wf) (hn : 3 ≤ n) {a b : Rat} {c : Nat} (ha : Bq c a) (hb : Bq c b) (hc : c + c + 5 ≤ 4000) (h1 : 1 ≤ c) (k : ∀ m', Kp nox m m' → Q (pD (sg (a + b))) m') : (callN Pr wf n f__law_plus [pD (sg a), pD (sg b)] m).to Q := by
  have l1 := sg_len a
  have l2 := sg_len b
  refine law_plus_ok hw hn (b := c) (fun r hr => by rw [sg_mem hr]; exact ha) (fun r hr => by rw [sg_mem hr]; exact hb) h1 (by omega) (by omega) (by omega) fun m' km => ?_
  rw [sg_add]; exact k m' km
theorem pD_sg (a : Rat) : (if a = 0 then D.tup [] else D.tup [fr a]) = pD (sg a) := by
  unfold sg pD
  split <;> rfl
theorem Bq.pow {c : Nat} {x : Rat} (h : Bq c x) : ∀ i : Nat, Bq (i * c + 1) (x ^ i)
  | 0 => by
    rw [Rat.pow_zero]
    exact Bq.mono (b := 1) ⟨by unfold Bd; decide, by unfold Bd; decide⟩ (by omega)
  | i + 1 => by
    rw [Rat.pow_succ]
    exact ((Bq.pow h i).mul h).mono (by rw [Nat.succ_mul]; omega)
end K78
end Mn
end

section
namespace Mn
open PySem
def Sw (W : Nat) (x : PyData) : Prop := x.showable = true ∧ x.hasDict = false ∧ x.shown.length ≤ W
def SwL (W : Nat) (xs : List PyData) : Prop := PyData.showableAll xs = true ∧ PyData.hasDictAll xs = false ∧ ∀ t ∈ PyData.shownAll xs, t.length ≤ W
section
variable {m : Mu} {k W n : Nat} {d : D} {x : PyData} {ds : List D} {xs : List PyData} {Q : D → Mu → Prop}
theorem Sw.mono {W' : Nat} (h : Sw W x) (hw : W ≤ W') : Sw W' x := ⟨h.1, h.2.1, Nat.le_trans h.2.2 hw⟩
theorem sum_le : ∀ {ts : List Nat} {W : Nat}, (∀ t ∈ ts, t ≤ W) → ts.sum ≤ ts.length * W
  | [], W, _ => by simp
  | t :: ts, W, h => by
    have h1 := h t (by simp)
    have h2 := sum_le (ts := ts) fun u hu => h u (by simp [hu])
    simp only [List.sum_cons, List.length_cons]
    rw [Nat.succ_mul]; omega
theorem shownAll_len : ∀ xs : List PyData, (PyData.shownAll xs).length = xs.length
  | [] => rfl
  | x :: xs => by simp only [PyData.shownAll, List.length_cons, shownAll_len xs]
theorem swl_sum (h : SwL W xs) (hn : xs.length ≤ n) : ((PyData.shownAll xs).map (·.length)).sum + 2 * (PyData.shownAll xs).length + 3 ≤ n * (W + 2) + 3 := by
  have h1 := sum_le (ts := (PyData.shownAll xs).map (·.length)) (W := W) (by
    intro t ht
    obtain ⟨u, hu, rfl⟩ := List.mem_map.mp ht
    exact h.2.2 u hu)
  rw [List.length_map, shownAll_len] at h1
  rw [shownAll_len]
  have h2 : xs.length * (W + 2) ≤ n * (W + 2) := Nat.mul_le_mul_right _ hn
  rw [Nat.mul_add] at h2
  omega
theorem sw_tup (h : SwL W xs) (hn : xs.length ≤ n) : Sw (n * (W + 2) + 3) (.tuple xs) :=
  ⟨by simpa only [PyData.showable] using h.1, by simpa only [PyData.hasDict] using h.2.1, Nat.le_trans (by simpa only [PyData.shown] using tupleText_len_le _) (swl_sum h hn)⟩
theorem sw_lst (h : SwL W xs) (hn : xs.length ≤ n) : Sw (n * (W + 2) + 3) (.list xs) :=
  ⟨by simpa only [PyData.showable] using h.1, by simpa only [PyData.hasDict] using h.2.1, Nat.le_trans (by simpa only [PyData.shown] using listText_len_le _) (swl_sum h hn)⟩
theorem swl_nil : SwL W [] := ⟨rfl, rfl, fun t h => by simp [PyData.shownAll] at h⟩
theorem swl_cons (h : Sw W x) (t : SwL W xs) : SwL W (x :: xs) :=
  ⟨by simp only [PyData.showableAll, h.1, t.1, Bool.and_self], by simp only [PyData.hasDictAll, h.2.1, t.2.1, Bool.or_self], fun u hu => by
    simp only [PyData.shownAll, List.mem_cons] at hu
    rcases hu with rfl | hu
    · exact h.2.2
    · exact t.2.2 u hu⟩
theorem swl_map {α : Type} {g : α → PyData} : ∀ {l : List α}, (∀ a ∈ l, Sw W (g a)) → SwL W (l.map g)
  | [], _ => swl_nil
  | a :: l, h => swl_cons (h a (by simp)) (swl_map fun b hb => h b (by simp [hb]))
theorem sw_int {i : Int} (h : Bd 1900 i) : Sw 600 (.int i) := by
  refine ⟨?_, rfl, ?_⟩
  · simp only [PyData.showable]
    exact decide_eq_true (Nat.lt_trans (log_lt (by decide) h) (by decide))
  · have h2 : i.natAbs < 10 ^ 590 := Nat.lt_of_lt_of_le h (by decide +kernel)
    have e := int_text_length_le10 (k := 590) (by decide) h2
    show (Str.ofString (toString i)).length ≤ 600
    rw [ofString_length]
    omega
theorem blt_repr (h1 : Rf k m d x) (h2 : Sw W x) (h3 : Shp k x) (hk : k ≤ 60) (hW : W ≤ 1000000) : (bltD .repr [d] m).to Q = Q (.str x.shown) m := by
  have e : shownD m d = some x.shown := by
    unfold shownD
    simp only [tree, h1 60 hk]
    rw [if_pos]
    rw [h2.1, h2.2.1, decide_eq_true (Nat.le_trans h3.2 hk), sz_ok (Nat.le_trans h2.2.2 hW)]
    rfl
  simp only [bltD, e, to_ok]
end
namespace K78
variable {wf n : Nat} {m : Mu} {Q : D → Mu → Prop}
theorem sw_fr {q : Rat} (h : Bq 1900 q) : Sw 1300 (frP q) := (sw_tup (n := 2) (swl_cons (sw_int h.1) (swl_cons (sw_int h.2) swl_nil)) (by simp)).mono (by decide)
def pP (p : List Rat) : PyData := .tuple (p.map frP)
theorem rf_pD {p : List Rat} : Rf 3 m (pD p) (pP p) := rf_tup rfl_frs
theorem shp_pP {p : List Rat} : Shp 2 (pP p) := shp_tup shpl_frs
theorem sw_pP {p : List Rat} (h : ∀ q ∈ p, Bq 1900 q) (hl : p.length ≤ 20) : Sw 30000 (pP p) := (sw_tup (n := 20) (swl_map fun q hq => sw_fr (h q hq)) (by simpa using hl)).mono (by decide)
end K78
end Mn
end

section
namespace Mn
open PySem
namespace K78
variable {wf n : Nat} {m : Mu} {Q : D → Mu → Prop}
theorem getD_bq {p : List Rat} {b i : Nat} (hp : ∀ r ∈ p, Bq b r) (h1 : 1 ≤ b) : Bq b (p.getD i 0) := by
  by_cases h : i < p.length
  · have e := List.getElem?_eq_getElem h
    rw [getD_at e]
    exact hp _ (List.getElem_mem h)
  · rw [getD_out (by omega)]; exact bq0 h1
theorem cv_bq {p q : List Rat} {b i : Nat} (hp : ∀ r ∈ p, Bq b r) (hq : ∀ r ∈ q, Bq b r) (h1 : 1 ≤ b) : ∀ k, Bq (1 + k * (b + b + 1)) (cv p q k i)
  | 0 => bq0 (by omega)
  | k + 1 => by
    unfold cv
    refine ((cv_bq hp hq h1 k).add (c := b + b) ?_).mono (by rw [Nat.succ_mul]; omega)
    split
    · exact (getD_bq hp h1).mul (getD_bq hq h1)
    · exact bq0 (by omega)
theorem addQ_bq {p q : List Rat} {b : Nat} (hp : ∀ r ∈ p, Bq b r) (hq : ∀ r ∈ q, Bq b r) (h1 : 1 ≤ b) : ∀ r ∈ trim (addQ p q), Bq (b + b + 1) r := by
  intro r hr
  have hr := trim_mem hr
  unfold addQ at hr
  obtain ⟨i, _, rfl⟩ := List.mem_map.mp hr
  exact (getD_bq hp h1).add (getD_bq hq h1)
theorem mulC_bq {p q : List Rat} {b : Nat} (hp : ∀ r ∈ p, Bq b r) (hq : ∀ r ∈ q, Bq b r) (h1 : 1 ≤ b) : ∀ r ∈ mulC p q, Bq (1 + p.length * (b + b + 1)) r := by
  intro r hr
  unfold mulC at hr
  split at hr
  · cases hr
  · have hr := trim_mem hr
    unfold mulQ at hr
    obtain ⟨i, _, rfl⟩ := List.mem_map.mp hr
    exact cv_bq hp hq h1 _
theorem mulC_len (p q : List Rat) : (mulC p q).length ≤ p.length + q.length := by
  unfold mulC
  split
  · simp
  · refine Nat.le_trans (trim_len _) ?_
    unfold mulQ; simp
theorem addQ_len (p q : List Rat) : (trim (addQ p q)).length ≤ max p.length q.length := by
  refine Nat.le_trans (trim_len _) ?_
  unfold addQ; simp
theorem hv_bq {p : List Rat} {x : Rat} {b c : Nat} (hp : ∀ r ∈ p, Bq b r) (hx : Bq c x) : Bq (1 + p.length * (c + b + 1)) (hv x p) := by
  induction p with
  | nil => exact bq0 (by omega)
  | cons r p ih =>
    have h1 := ih fun s hs => hp s (by simp [hs])
    show Bq _ (hv x p * x + r)
    refine ((h1.mul hx).add (hp r (by simp))).mono ?_
    rw [List.length_cons, Nat.succ_mul]; omega
/-- one times x, by the law's product and by the program -/
theorem cv_one {p : List Rat} {x : Rat} : ∀ {k i : Nat}, cv p [x] k i = if i < k then p.getD i 0 * x else 0
  | 0, i => by simp [cv]
  | k + 1, i => by
    unfold cv
    rw [cv_one]
    by_cases h1 : i < k
    · rw [if_pos h1, if_neg (show ¬ k ≤ i by omega), if_pos (show i < k + 1 by omega), Rat.add_zero]
    · rw [if_neg h1, Rat.zero_add]
      by_cases h2 : i = k
      · subst h2
        rw [if_pos (Nat.le_refl _), if_pos (by omega), Nat.sub_self]
        rfl
      · rw [if_neg (show ¬ i < k + 1 by omega)]
        by_cases h3 : k ≤ i
        · rw [if_pos h3, getD_out (p := [x]) (by simp; omega), Rat.mul_zero]
        · rw [if_neg h3]
theorem mulQ_one {p : List Rat} {x : Rat} : mulQ p [x] = p.map (· * x) := by
  unfold mulQ
  simp only [List.length_cons, List.length_nil, Nat.zero_add, Nat.add_sub_cancel]
  conv => rhs; rw [← range_getD p]
  rw [List.map_map]
  refine List.map_congr_left fun i hi => ?_
  rw [cv_one, if_pos (List.mem_range.mp hi)]; rfl
theorem scaled_eq {p : List Rat} {x : Rat} (cp : Can p) : mulC p (sg x) = scQ p x := by
  unfold scQ
  by_cases hx : x = 0
  · rw [if_pos hx]; unfold mulC sg; rw [if_pos hx, if_pos (.inr rfl)]
  · rw [if_neg hx]
    unfold mulC sg
    rw [if_neg hx]
    by_cases hp : p = []
    · subst hp; simp
    · rw [if_neg (by rintro (h | h); exact hp h; cases h), mulQ_one]
      refine trim_can ?_
      unfold Can at *
      rw [List.getLast?_map]
      cases e : p.getLast? with
      | none => simp
      | some r =>
        rw [e] at cp
        simp only [Option.map_some]
        intro z
        have z := Option.some.inj z
        rcases Rat.mul_eq_zero.mp z with h | h
        · exact cp (by rw [h])
        · exact hx h
theorem due_rep {p q : List Rat} {x : Rat} {l : Nat} (hp : ∀ r ∈ p, Bq 20 r) (hq : ∀ r ∈ q, Bq 20 r) (hx : Bq 20 x) (lp : p.length ≤ 8) (lq : q.length ≤ 8)
    (hd : m[l]? = some (.lst [pD (trim (addQ p q)), pD (mulC p q), pD (scQ p x), fr (hv x p), fr (hv x q)])) :
    (bltD .repr [.loc l] m).to Q = Q (.str (PyData.shown (.list [pP (trim (addQ p q)), pP (mulC p q), pP (scQ p x), frP (hv x p), frP (hv x q)]))) m := by
  have l1 := addQ_len p q
  have l2 := mulC_len p q
  have l3 : (scQ p x).length ≤ 20 := by unfold scQ; split <;> simp; omega
  have b1 : ∀ r ∈ trim (addQ p q), Bq 1900 r := fun r hr => (addQ_bq hp hq (by omega) r hr).mono (by omega)
  have b2 : ∀ r ∈ mulC p q, Bq 1900 r := fun r hr => (mulC_bq hp hq (by omega) r hr).mono (by omega)
  have b3 : ∀ r ∈ scQ p x, Bq 1900 r := by
    intro r hr
    unfold scQ at hr
    split at hr
    · cases hr
    · obtain ⟨s, hs, rfl⟩ := List.mem_map.mp hr
      exact ((hp s hs).mul hx).mono (by omega)
  have b4 : Bq 1900 (hv x p) := (hv_bq hp hx).mono (by omega)
  have b5 : Bq 1900 (hv x q) := (hv_bq hq hx).mono (by omega)
  refine blt_repr (rf_lst (k := 3) (listAt_lst hd) (rfl_cons rf_pD (rfl_cons rf_pD (rfl_cons rf_pD (rfl_cons (rf_fr.mono (by omega)) (rfl_cons (rf_fr.mono (by omega)) rfl_nil))))))
    (sw_lst (n := 5) (W := 30000) (swl_cons (sw_pP b1 (by omega)) (swl_cons (sw_pP b2 (by omega)) (swl_cons (sw_pP b3 l3) (swl_cons ((sw_fr b4).mono (by omega)) (swl_cons ((sw_fr b5).mono (by omega)) swl_nil))))) (by simp))
    ((shp_lst (k := 2) (shpl_cons shp_pP (shpl_cons shp_pP (shpl_cons shp_pP (shpl_cons (shp_fr.mono (by omega)) (shpl_cons (shp_fr.mono (by omega)) shpl_nil)))))).mono (by omega)) (by omega) (by omega)
theorem kept_rep {p q : List Rat} {x : Rat} (hp : ∀ r ∈ p, Bq 20 r) (hq : ∀ r ∈ q, Bq 20 r) (hx : Bq 20 x) (lp : p.length ≤ 8) (lq : q.length ≤ 8) :
    (bltD .repr [.tup [pD p, pD q, fr x]] m).to Q = Q (.str (PyData.shown (.tuple [pP p, pP q, frP x]))) m :=
  blt_repr (rf_tup (k := 3) (rfl_cons rf_pD (rfl_cons rf_pD (rfl_cons (rf_fr.mono (by omega)) rfl_nil))))
    (sw_tup (n := 3) (W := 30000) (swl_cons (sw_pP (fun r hr => (hp r hr).mono (by omega)) (by omega)) (swl_cons (sw_pP (fun r hr => (hq r hr).mono (by omega)) (by omega)) (swl_cons ((sw_fr (hx.mono (by omega))).mono (by omega)) swl_nil))) (by simp))
    ((shp_tup (k := 2) (shpl_cons shp_pP (shpl_cons shp_pP (shpl_cons (shp_fr.mono (by omega)) shpl_nil)))).mono (by omega)) (by omega) (by omega)
end K78
end Mn
end

section
namespace Mn
open PySem
/-- the feed as it stands -/
abbrev kvF (a b c d : D) : List (Str × D) := [("cells", a), ("at", b), ("left", c), ("turn", d)]
section
theorem s_ca : ¬ (("cells" : Str) = "at") := by decide +kernel
theorem s_cl : ¬ (("cells" : Str) = "left") := by decide +kernel
theorem s_ct : ¬ (("cells" : Str) = "turn") := by decide +kernel
theorem s_al : ¬ (("at" : Str) = "left") := by decide +kernel
theorem s_at : ¬ (("at" : Str) = "turn") := by decide +kernel
theorem s_lt : ¬ (("left" : Str) = "turn") := by decide +kernel
theorem s_la : ¬ (("left" : Str) = "at") := by decide +kernel
theorem s_ta : ¬ (("turn" : Str) = "at") := by decide +kernel
theorem s_tl : ¬ (("turn" : Str) = "left") := by decide +kernel
variable {a b c d v : D} {m : Mu} {f : Nat}
theorem gF_c : getD' (kvF a b c d) "cells" = some a := by simp [getD']
theorem gF_a : getD' (kvF a b c d) "at" = some b := by simp [getD', s_ca]
theorem gF_l : getD' (kvF a b c d) "left" = some c := by simp [getD', s_cl, s_al]
theorem gF_t : getD' (kvF a b c d) "turn" = some d := by simp [getD', s_ct, s_at, s_lt]
theorem pF_a : putD (kvF a b c d) "at" v = kvF a v c d := by simp [putD, s_ca, s_la, s_ta]
theorem pF_l : putD (kvF a b c d) "left" v = kvF a b v d := by simp [putD, s_cl, s_al, s_tl]
theorem pF_t : putD (kvF a b c d) "turn" v = kvF a b c v := by simp [putD, s_ct, s_at, s_lt]
theorem iF (h : m[f]? = some (.dic (kvF a b c d))) {k : Str} {v : D} (hk : getD' (kvF a b c d) k = some v) : idxK (.loc f) (.str k) m = some v := by
  simp only [idxK, h, hk]
theorem wF (h : m[f]? = some (.dic (kvF a b c d))) {k : Str} {v : D} {kvs : List (Str × D)} (hk : putD (kvF a b c d) k v = kvs) : putAt (.loc f) (.str k) v m = some (m.set f (.dic kvs)) := by
  simp only [putAt, h, hk]
  rw [if_pos (sz_ok (by simp))]
end
def Feed (f B : Nat) (m : Mu) : Prop := ∃ (c : Nat) (ns : List Int) (at_ left turn : Int), m[f]? = some (.dic (kvF (.loc c) (.int at_) (.int left) (.int turn))) ∧ m[c]? = some (.lst (ns.map D.int)) ∧ ns ≠ [] ∧ ns.length ≤ 100 ∧
  0 ≤ at_ ∧ 0 ≤ left ∧ 0 ≤ turn ∧ turn + B ≤ 1000000000
theorem Feed.mono {f B B' : Nat} {m : Mu} (h : Feed f B m) (hb : B' ≤ B) : Feed f B' m := by
  obtain ⟨c, ns, a, l, t, h1, h2, h3, h4, h5, h6, h7, h8⟩ := h
  exact ⟨c, ns, a, l, t, h1, h2, h3, h4, h5, h6, h7, by omega⟩
theorem Feed.keep {f B : Nat} {m m' : Mu} (h : Feed f B m) (k : Kp nox m m') : Feed f B m' := by
  obtain ⟨c, ns, a, l, t, h1, h2, h3, h4, h5, h6, h7, h8⟩ := h
  exact ⟨c, ns, a, l, t, k.at_ h1 id, k.at_ h2 id, h3, h4, h5, h6, h7, h8⟩
namespace K78
variable {wf n : Nat} {m : Mu} {Q : D → Mu → Prop}
theorem draw_ok (hn : 1 ≤ n) {f B : Nat} {many : Int} (hf : Feed f (B + 1) m) (h1 : 1 ≤ many) (hm : Bd 8000 many)
    (k : ∀ (d : Int) m', 0 ≤ d → d < many → Kp (· = f) m m' → Feed f B m' → Q (.int d) m') : (callN Pr wf n f__law_draw [.loc f, .int many] m).to Q := by
  refine call_of (fn := p__law_draw) rfl rfl (by omega) fun k' hk => ?_
  obtain ⟨c, ns, at_, left, turn, e1, e2, hne, hlen, h3, h4, h5, h6⟩ := hf
  have hcf : c ≠ f := by rintro rfl; rw [e1] at e2; cases e2
  have e1' : ∀ (m : Mu) x y z w, m[f]? = some (.dic (kvF x y z w)) → True := fun _ _ _ _ _ _ => trivial
  have fm : ∀ (a b : Int), 0 < b → 0 ≤ a.fmod b ∧ a.fmod b < b := fun a b hb => by
    rw [Int.fmod_eq_emod_of_nonneg _ (by omega)]
    exact ⟨Int.emod_nonneg _ (by omega), Int.emod_lt_of_pos _ hb⟩
  have hz : many ≠ 0 := by omega
  have hF : divOk many = true := div_ok hz hm (by omega)
  have hE : divOk 64 = true := by rw [divOk_eq]; decide +kernel
  have hP : powOk 10 18 = true := by rw [powOk_eq]; decide +kernel
  have bt : Bd 60 (turn + 1) := by
    have : (2 : Nat) ^ 60 = 1152921504606846976 := by decide
    unfold Bd; rw [this]; omega
  have hA : mulOk 7919 (turn + 1) = true := mul_ok (b := 60) (by unfold Bd; decide) bt (by omega)
  have hC : mulOk 104729 (turn + 1) = true := mul_ok (b := 60) (by unfold Bd; decide) bt (by omega)
  have pw : ∀ (i : Int) (j : Nat), 0 ≤ i → i < 18446744073709551616 → j ≤ 1000000 → powOk i (j : Int) = true := fun i j h0 h1 h2 => by
    have e : (2 : Nat) ^ 64 = 18446744073709551616 := by decide
    rw [powOk_eq, e, decide_eq_true (show (0 : Int) ≤ (j : Int) by omega), decide_eq_true (show (j : Int) ≤ 1000000 by omega), decide_eq_true (show i.natAbs < 18446744073709551616 by omega)]; rfl
  have hB : ∀ v : Int, powOk (v.fmod 2147483629 + 7919 * (turn + 1)) 5 = true := fun v => by
    have := fm v 2147483629 (by omega)
    exact pw _ 5 (by omega) (by omega) (by omega)
  have hD : ∀ v : Int, powOk (v.fmod 2147483647 + 104729 * (turn + 1)) 3 = true := fun v => by
    have := fm v 2147483647 (by omega)
    exact pw _ 3 (by omega) (by omega) (by omega)
  simp [p__law_draw]
  refine ⟨_, iF e1 gF_t, ?_⟩
  simp
  refine ⟨_, wF e1 pF_t, ?_⟩
  have a1 := set_at (c' := .dic (kvF (.loc c) (.int at_) (.int left) (.int (turn + 1)))) e1
  have a2 : (m.set f (.dic (kvF (.loc c) (.int at_) (.int left) (.int (turn + 1)))))[c]? = some (.lst (ns.map D.int)) := by rw [List.getElem?_set_ne (Ne.symm hcf)]; exact e2
  have a3 : Kp (· = f) m (m.set f (.dic (kvF (.loc c) (.int at_) (.int left) (.int (turn + 1))))) := Kp.refl.set (.inr rfl)
  generalize (m.set f (.dic (kvF (.loc c) (.int at_) (.int left) (.int (turn + 1))))) = m1 at a1 a2 a3
  refine ⟨_, iF a1 gF_l, ?_⟩
  simp
  have hl0 : 0 < ns.length := List.length_pos_iff.mpr hne
  refine br_of (fun hleft => ?_) fun hleft => ?_
  · refine ⟨_, iF a1 gF_l, ?_⟩
    simp [hz]
    refine ⟨_, iF a1 gF_l, ?_⟩
    simp [hF]
    refine ⟨_, wF a1 pF_l, ?_⟩
    refine k _ _ (fm left many (by omega)).1 (fm left many (by omega)).2 (a3.set (.inr rfl)) ⟨c, ns, at_, _, _, set_at a1, ?_, hne, hlen, h3, ?_, by omega, by omega⟩
    · rw [List.getElem?_set_ne (Ne.symm hcf)]; exact a2
    · rw [Int.fdiv_eq_ediv_of_nonneg _ (by omega)]; exact Int.ediv_nonneg h4 (by omega)
  · refine ⟨_, iF a1 gF_t, _, iF a1 gF_c, _, iF a1 gF_a, _, iF a1 gF_c, ?_⟩
    rw [blt_lenL (listAt_lst a2), List.length_map]
    have hi := fm at_ ns.length (by omega)
    obtain ⟨i, hi2⟩ : ∃ i : Nat, at_.fmod ns.length = i := ⟨(at_.fmod ns.length).toNat, by omega⟩
    have hil : i < ns.length := by omega
    have hix : idxI (.loc c) (.int (at_.fmod ns.length)) m1 = some (.int ns[i]) := by
      rw [idx_loc (listAt_lst a2), hi2, atI_nat, List.getElem?_map, List.getElem?_eq_getElem hil]; rfl
    rw [op_mod]
    refine ⟨by omega, _, hix, _, iF a1 gF_a, ?_⟩
    simp
    refine ⟨_, wF a1 pF_a, hP, ?_⟩
    have c1 := set_at (c' := .dic (kvF (.loc c) (.int (at_ + 1)) (.int left) (.int (turn + 1)))) a1
    have c2 : (m1.set f (.dic (kvF (.loc c) (.int (at_ + 1)) (.int left) (.int (turn + 1)))))[c]? = some (.lst (ns.map D.int)) := by rw [List.getElem?_set_ne (Ne.symm hcf)]; exact a2
    have c3 : Kp (· = f) m (m1.set f (.dic (kvF (.loc c) (.int (at_ + 1)) (.int left) (.int (turn + 1))))) := a3.set (.inr rfl)
    generalize (m1.set f (.dic (kvF (.loc c) (.int (at_ + 1)) (.int left) (.int (turn + 1))))) = m2 at c1 c2 c3
    have fd : Feed f B m2 := ⟨c, ns, _, _, _, c1, c2, hne, hlen, by omega, h4, by omega, by omega⟩
    generalize hv : ns[i] = v
    have last : ∀ u : Int, Q (.int (u.fmod many)) m2 := fun u => k _ _ (fm u many (by omega)).1 (fm u many (by omega)).2 c3 fd
    refine br_b (fun hge => ?_) fun _ => ?_
    · refine ⟨_, iF c1 gF_a, _, iF c1 gF_c, ?_⟩
      rw [blt_lenL (listAt_lst c2), List.length_map]
      simp
      refine br_b (fun _ => ?_) fun _ => ?_
      · have hv0 : 0 ≤ v := by
          have := of_decide_eq_true hge
          omega
        simp [hF]
        refine ⟨_, wF c1 pF_l, hz, ?_⟩
        refine k _ _ (fm v many (by omega)).1 (fm v many (by omega)).2 (c3.set (.inr rfl)) ⟨c, ns, _, _, _, set_at c1, ?_, hne, hlen, by omega, ?_, by omega, by omega⟩
        · rw [List.getElem?_set_ne (Ne.symm hcf)]; exact c2
        · rw [Int.fdiv_eq_ediv_of_nonneg _ (by omega)]; exact Int.ediv_nonneg hv0 (by omega)
      · simp [hA, hB, hC, hD, hE, hz]
        exact last _
    · simp [hA, hB, hC, hD, hE, hz]
      exact last _
end K78
end Mn
end

section
namespace Mn
open PySem
theorem Feed.ne {f B l : Nat} {m : Mu} {ds : List D} (h : Feed f B m) (hl : m[l]? = some (.lst ds)) : l ≠ f := by
  obtain ⟨c, ns, a, lf, t, h1, _⟩ := h
  rintro rfl
  rw [h1] at hl; cases hl
theorem Feed.set {f B l : Nat} {m : Mu} {ds : List D} (h : Feed f B m) (hl : ∀ ns : List Int, ns ≠ [] → m[l]? ≠ some (.lst (ns.map D.int))) (hf : l ≠ f) : Feed f B (m.set l (.lst ds)) := by
  obtain ⟨c, ns, a, lf, t, h1, h2, h3, h4, h5, h6, h7, h8⟩ := h
  have hc : l ≠ c := by
    rintro rfl
    exact hl ns h3 h2
  exact ⟨c, ns, a, lf, t, by rw [List.getElem?_set_ne hf]; exact h1, by rw [List.getElem?_set_ne hc]; exact h2, h3, h4, h5, h6, h7, h8⟩
theorem Feed.new {f B : Nat} {m c : Mu} (h : Feed f B m) : Feed f B (m ++ c) := h.keep .new
namespace K78
theorem frs_ne {p : List Rat} {ns : List Int} (h : ns ≠ []) : p.map fr ≠ ns.map D.int := by
  cases ns with
  | nil => exact absurd rfl h
  | cons n ns =>
    cases p with
    | nil => simp
    | cons q p => simp [fr]
theorem feed_frs {f B l : Nat} {m : Mu} {ds : List D} {p : List Rat} (h : Feed f B m) (hl : m[l]? = some (.lst (p.map fr))) : Feed f B (m.set l (.lst ds)) := by
  refine h.set (fun ns hn z => ?_) (h.ne hl)
  rw [hl] at z
  have z := Option.some.inj z
  injection z with z
  exact frs_ne hn z
variable {wf n : Nat} {m : Mu} {Q : D → Mu → Prop}
theorem of_ok (hn : 2 ≤ n) {f B l : Nat} {ds : List D} (hf : Feed f (B + 1) m) (hl : m[l]? = some (.lst ds)) (h0 : ds ≠ []) (hlen : ds.length ≤ 1000)
    (k : ∀ (i : Nat) (d : D) m', ds[i]? = some d → Kp (· = f) m m' → Feed f B m' → Q d m') : (callN Pr wf n f__law_of [.loc f, .loc l] m).to Q := by
  refine call_of (fn := p__law_of) rfl rfl (by omega) fun k' hk => ?_
  simp [p__law_of]
  rw [blt_lenL (listAt_lst hl)]
  have hp := List.length_pos_iff.mpr h0
  refine draw_ok (by omega) hf (by omega) ?_ fun d m' d0 d1 km fm => ?_
  · have e : (1000 : Nat) < 2 ^ 8000 := Nat.lt_of_lt_of_le (by decide : 1000 < 2 ^ 10) (Nat.pow_le_pow_right (by decide) (by decide))
    unfold Bd
    rw [Int.natAbs_natCast]
    omega
  · have hl' := km.at_ hl (hf.ne hl)
    obtain ⟨i, rfl⟩ : ∃ i : Nat, d = i := ⟨d.toNat, by omega⟩
    have hi : i < ds.length := by omega
    have e : ds[i]? = some ds[i] := List.getElem?_eq_getElem hi
    refine ⟨ds[i], ?_, k i _ m' e km fm⟩
    rw [idx_loc (listAt_lst hl'), atI_nat, e]
theorem parts_ok (hw : Fu wf) (hn : 3 ≤ n) {f B lb many most : Nat} {bs : List Int} (hf : Feed f (B + 2 * many) m) (hlb : m[lb]? = some (.lst (bs.map D.int))) (hb0 : bs ≠ []) (hbs : ∀ b ∈ bs, 0 < b ∧ b < 128) (hbl : bs.length ≤ 100) (hmany : many ≤ 100) (hmost : most ≤ 99)
    (k : ∀ (l : Nat) (p : List Rat) m', p.length = many → (∀ r ∈ p, Bq 7 r) → m.length ≤ l → m'[l]? = some (.lst (p.map fr)) → Kp (· = f) m m' → Feed f B m' → Q (.loc l) m') :
    (callN Pr wf n f__law_parts [.loc f, .int many, .int most, .loc lb] m).to Q := by
  refine call_of (fn := p__law_parts) rfl rfl (by omega) fun k' hk => ?_
  have b99 : mulOk 2 (most : Int) = true := mul_ok (b := 7) (c := 7) (by unfold Bd; decide) (by unfold Bd; rw [show (2 : Nat) ^ 7 = 128 by decide]; omega) (by omega)
  simp [p__law_parts, to_newL, s_forE, bound_ok (show many ≤ 1000000 by omega)]
  have lfm : f < m.length := by
    obtain ⟨c, ns, a, lf, t, h1, _⟩ := hf
    exact (List.getElem?_eq_some_iff.mp h1).1
  have lbm : lb < m.length := (List.getElem?_eq_some_iff.mp hlb).1
  have hlbf := hf.ne hlb
  obtain ⟨I, hI⟩ : ∃ I : Nat → Sl → Mu → Prop, I = (fun i σ m' => Kp (· = f) m m' ∧ Feed f (B + 2 * (many - i)) m' ∧ m'[lb]? = some (.lst (bs.map D.int)) ∧ ∃ (p : List Rat) (y z : Option D), σ = [some (.loc f), some (.int many), some (.int most), some (.loc lb), some (.loc m.length), y, z] ∧
    m'[m.length]? = some (.lst (p.map fr)) ∧ p.length = i ∧ ∀ r ∈ p, Bq 7 r) := ⟨_, rfl⟩
  refine ft_of (rngD many) I (by simp [rngD]) (by rw [hI]; exact ⟨.new, hf.new, by rw [List.getElem?_append_left lbm]; exact hlb, [], _, _, rfl, by simp, rfl, fun r hr => by cases hr⟩) (fun _ _ m _ => gives_rng _ m) ?_ ?_
  · intro i d σ m' hd h
    rw [hI] at h
    obtain ⟨k1, f1, b1, p, y, z, rfl, l1, hp, hq⟩ := h
    obtain ⟨hi, rfl⟩ := rngD_at hd
    refine ⟨[some (.loc f), some (.int many), some (.int most), some (.loc lb), some (.loc m.length), some (.int i), z], rfl, ?_⟩
    simp [b__law_parts_1, b99]
    have e2 : B + 2 * (many - i) = (B + 2 * (many - (i + 1)) + 1) + 1 := by omega
    rw [e2] at f1
    refine draw_ok (by omega) f1 (by omega) ?_ fun d m2 d0 d1 k2 f2 => ?_
    · exact Bd.mono (b := 8) (by unfold Bd; rw [show (2 : Nat) ^ 8 = 256 by decide]; omega) (by omega)
    have nf : m.length ≠ f := by omega
    have l2 := k2.at_ l1 nf
    have b2 := k2.at_ b1 hlbf
    refine ⟨isL_at l2, ?_⟩
    refine of_ok (by omega) f2 b2 (by simpa using hb0) (by simp; omega) fun j e m3 he k3 f3 => ?_
    obtain ⟨b, hb, rfl⟩ := map_at he
    have hbm := hbs b (List.mem_of_getElem? hb)
    have l3 := k3.at_ l2 nf
    have b3 := k3.at_ b2 hlbf
    have bb : Bd 7 b := by unfold Bd; rw [show (2 : Nat) ^ 7 = 128 by decide]; omega
    have tb : Bd 7 (d - most) := by unfold Bd; rw [show (2 : Nat) ^ 7 = 128 by decide]; omega
    refine law_fraction_ok hw (by omega) hbm.1 (bb.mono (by omega)) ?_
    refine appD_at l3 (by simp; omega) ?_
    rw [hI]
    refine ⟨((k1.trans k2).trans k3).set (.inl (Nat.le_refl _)), feed_frs f3 l3, ?_, p ++ [Rat.divInt (d - most) b], _, _, rfl, ?_, by simp [hp], ?_⟩
    · rw [List.getElem?_set_ne (by omega)]; exact b3
    · rw [set_at l3]; simp
    · intro r hr
      rcases List.mem_append.mp hr with hr | hr
      · exact hq r hr
      · rw [List.mem_singleton.mp hr]
        exact divInt_bd tb bb (by omega)
  · intro σ m' h
    rw [hI] at h
    obtain ⟨k1, f1, b1, p, y, z, rfl, l1, hp, hq⟩ := h
    have e3 : (rngD many).length = many := by simp [rngD]
    rw [e3] at hp f1
    simp
    exact k m.length p m' hp hq (Nat.le_refl _) l1 k1 (f1.mono (by omega))
theorem putAt_m1 {l : Nat} {ds : List D} {v : D} (h : m[l]? = some (.lst ds)) (h0 : 0 < ds.length) : putAt (.loc l) (.int (-1)) v m = some (m.set l (.lst (ds.set (ds.length - 1) v))) := by
  have e : L2.ixN ds.length (-1) = some (ds.length - 1) := by
    unfold L2.ixN
    rw [if_neg (by omega), if_pos (by omega)]
    congr 1; omega
  simp [putAt, h, e]
theorem poly_ok (hw : Fu wf) (hn : 4 ≤ n) {f B lb deg most : Nat} {bs : List Int} (hf : Feed f (B + 2 * deg + 3) m) (hlb : m[lb]? = some (.lst (bs.map D.int))) (hb0 : bs ≠ []) (hbs : ∀ b ∈ bs, 0 < b ∧ b < 128) (hbl : bs.length ≤ 100) (hdeg : deg ≤ 90) (hmost : most ≤ 99)
    (k : ∀ (p : List Rat) m', p.length ≤ deg + 1 → (∀ r ∈ p, Bq 7 r) → Can p → Kp (· = f) m m' → Feed f B m' → Q (pD p) m') :
    (callN Pr wf n f__law_poly [.loc f, .int deg, .int most, .loc lb] m).to Q := by
  refine call_of (fn := p__law_poly) rfl rfl (by omega) fun k' hk => ?_
  simp [p__law_poly]
  refine draw_ok (B := B + 2 * deg + 2) (by omega) hf (by omega) ?_ fun d m1 d0 d1 k1 f1 => ?_
  · exact Bd.mono (b := 8) (by unfold Bd; rw [show (2 : Nat) ^ 8 = 256 by decide]; omega) (by omega)
  obtain ⟨many, rfl⟩ : ∃ i : Nat, d = i := ⟨d.toNat, by omega⟩
  have hlb1 := k1.at_ hlb (hf.ne hlb)
  refine parts_ok (B := B) hw (by omega) (f1.mono (by omega)) hlb1 hb0 hbs hbl (by omega) hmost fun l p m2 hp hq hl l2 k2 f2 => ?_
  simp [to_newL]
  have lm : l < m2.length := (List.getElem?_eq_some_iff.mp l2).1
  have l3 : (m2 ++ [Cell.lst []])[l]? = some (.lst (p.map fr)) := by rw [List.getElem?_append_left lm]; exact l2
  have e0 : eqD (m2 ++ [Cell.lst []]) (.loc l) (.loc m2.length) = some (decide (p = [])) := eqD_lnil (listAt_lst l3) (listAt_lst at_new)
  simp [e0]
  have kk : Kp (· = f) m (m2 ++ [Cell.lst []]) := (k1.trans k2).trans .new
  have ff : Feed f B (m2 ++ [Cell.lst []]) := f2.new
  have lm1 := k1.1
  generalize (m2 ++ [Cell.lst []]) = m3 at l3 e0 kk ff
  have bound7 : ∀ {p : List Rat}, p.length ≤ 1000 → p.length ≤ 1000000 := fun h => by omega
  have done : ∀ (p' : List Rat) m4, m4[l]? = some (.lst (p'.map fr)) → p'.length ≤ deg + 1 → (∀ r ∈ p', Bq 7 r) → Can p' → Kp (· = f) m m4 → Feed f B m4 → (bltD .tuple [.loc l] m4).to Q := by
    intro p' m4 h4 hl' hq' hc' k4 f4
    rw [blt_tupL (listAt_lst h4)]
    exact ⟨sz_ok (by simp; omega), k p' m4 hl' hq' hc' k4 f4⟩
  refine br_of (fun hp0 => ?_) fun hp0 => ?_
  · subst hp0
    exact done [] m3 l3 (by simp) hq (by simp [Can]) kk ff
  · have hpos : 0 < p.length := List.length_pos_iff.mpr hp0
    obtain ⟨r, hr⟩ : ∃ r, p.getLast? = some r := by
      cases e : p.getLast? with
      | none => exact absurd (List.getLast?_eq_none_iff.mp e) hp0
      | some r => exact ⟨r, rfl⟩
    have e5 : idxI (.loc l) (.int (-1)) m3 = some (fr r) := by
      rw [idx_loc (listAt_lst l3), atI_neg (by simpa using hpos), List.getLast?_map, hr]; rfl
    simp [e5]
    refine br_of (fun hz => ?_) fun hz => ?_
    · refine ⟨_, putAt_m1 l3 (by simpa using hpos), ?_⟩
      have e6 : (p.map fr).set ((p.map fr).length - 1) (.tup [.int 1, .int 1]) = (p.dropLast ++ [1]).map fr := by
        rw [List.length_map, ← fr1, ← List.map_set]
        congr 1
        rw [List.dropLast_eq_take]
        rw [List.set_eq_take_append_cons_drop, if_pos (by omega), List.drop_of_length_le (by omega)]
      have hlf : l ≠ f := by
        have lfm : f < m.length := by
          obtain ⟨c, ns, a, lf, t, h1, _⟩ := hf
          exact (List.getElem?_eq_some_iff.mp h1).1
        omega
      refine done (p.dropLast ++ [1]) _ (by rw [set_at l3, e6]) (by simp; omega) ?_ (by simp [Can]) (kk.set (.inl (by omega))) ?_
      · intro s hs
        rcases List.mem_append.mp hs with hs | hs
        · exact hq s (List.dropLast_subset _ hs)
        · rw [List.mem_singleton.mp hs]
          exact Bq.mono (b := 1) ⟨by unfold Bd; decide, by unfold Bd; decide⟩ (by omega)
      · exact feed_frs ff l3
    · refine done p m3 l3 (by omega) hq ?_ kk ff
      unfold Can
      rw [hr]
      exact fun z => hz (Option.some.inj z)
end K78
end Mn
end

section
namespace Mn
open PySem
namespace K78
variable {wf n : Nat} {m : Mu} {Q : D → Mu → Prop}
/-- a poly as the law draws it -/
def Pl (b L : Nat) (p : List Rat) : Prop := p.length ≤ L ∧ (∀ r ∈ p, Bq b r) ∧ Can p
theorem Pl.mono {b c L M : Nat} {p : List Rat} (h : Pl b L p) (hb : b ≤ c) (hl : L ≤ M) : Pl c M p := ⟨by have := h.1; omega, fun r hr => (h.2.1 r hr).mono hb, h.2.2⟩
theorem bq_neg1 : Bq 1 (-1) := ⟨by unfold Bd; decide, by unfold Bd; decide⟩
theorem can_mulC (p q : List Rat) : Can (mulC p q) := by
  unfold mulC
  split
  · simp [Can]
  · exact can_trim _
theorem mul_one_pl {p : List Rat} {x : Rat} {b c L : Nat} (h : Pl b L p) (hx : Bq c x) : Pl (b + c) L (mulC p [x]) := by
  refine ⟨?_, ?_, can_mulC _ _⟩
  · unfold mulC
    split
    · simp
    · rw [mulQ_one]
      have := trim_len (p.map (· * x))
      rw [List.length_map] at this
      have := h.1; omega
  · intro r hr
    unfold mulC at hr
    split at hr
    · cases hr
    · rw [mulQ_one] at hr
      obtain ⟨s, hs, rfl⟩ := List.mem_map.mp (trim_mem hr)
      exact (h.2.1 s hs).mul hx
theorem stp_ok {a : Nat} {ds : List D} {i : Int} (h : m[a]? = some (.lst ds)) (hi : i = 1 ∨ i = -1) (hl : ds.length ≤ 1000) (k : ∀ l es m', Kp nox m m' → m'[l]? = some (.lst es) → (es = ds ∨ es = ds.reverse) → Q (.loc l) m') : (stpD (.loc a) (.int i) m).to Q := by
  rcases hi with rfl | rfl
  · simp [stpD, listAt_lst h, to_newL]
    exact ⟨by omega, k _ ds _ .new at_new (.inl rfl)⟩
  · simp [stpD, revD, listAt_lst h, to_newL]
    exact ⟨by omega, k _ _ _ .new at_new (.inr rfl)⟩
theorem bd_small {i : Int} (h0 : -1000 ≤ i) (h1 : i ≤ 1000) : Bd 8000 i := by
  refine Bd.mono (b := 10) ?_ (by omega)
  unfold Bd
  rw [show (2 : Nat) ^ 10 = 1024 by decide]; omega
theorem feed_lt {f B : Nat} (h : Feed f B m) : f < m.length := by
  obtain ⟨c, ns, a, lf, t, h1, _⟩ := h
  exact (List.getElem?_eq_some_iff.mp h1).1
def tl_two : CSs := (.cons (.ret (.stp (.lst (.cons (.var 2) (.cons (.var 3) .nil))) (.idxI (.lst (.cons (.con (.int 1)) (.cons (.neg (.con (.int 1))) .nil))) (.call f__law_draw (.cons (.var 0) (.cons (.con (.int 2)) .nil)))))) .nil)
theorem two_tail {k' : Nat} (hn : 2 ≤ k') {f B : Nat} {w : D} {p q : List Rat} (hf : Feed f (B + 1) m) (hp : Pl 20 6 p) (hq : Pl 20 6 q)
    (k : ∀ p q l m', Pl 20 6 p → Pl 20 6 q → m'[l]? = some (.lst [pD p, pD q]) → Kp (· = f) m m' → Feed f B m' → Q (.loc l) m') :
    (evSs (callN Pr wf k') wf tl_two [some (.loc f), some w, some (pD p), some (pD q)] m).to (fin Q) := by
  simp [tl_two, to_newL]
  have hlt := feed_lt hf
  have f1 : Feed f (B + 1) (m ++ [.lst [pD p, pD q], .lst [.int 1, .int (-1)]]) := hf.new
  have e1 : (m ++ [.lst [pD p, pD q], .lst [.int 1, .int (-1)]])[m.length]? = some (.lst [pD p, pD q]) := by
    rw [List.getElem?_append_right (Nat.le_refl _)]; simp
  have e2 : (m ++ [.lst [pD p, pD q], .lst [.int 1, .int (-1)]])[m.length + 1]? = some (.lst [.int 1, .int (-1)]) := by
    rw [List.getElem?_append_right (by omega)]; simp
  have k0 : Kp (· = f) m (m ++ [.lst [pD p, pD q], .lst [.int 1, .int (-1)]]) := .new
  generalize (m ++ [.lst [pD p, pD q], .lst [.int 1, .int (-1)]]) = m1 at f1 e1 e2 k0
  refine draw_ok (by omega) f1 (by omega) (bd_small (by omega) (by omega)) fun d m2 d0 d1 k2 f2 => ?_
  have e3 := k2.at_ e1 (by omega)
  have e4 := k2.at_ e2 (by omega)
  have hd : d = 0 ∨ d = 1 := by omega
  have go : ∀ i : Int, (i = 1 ∨ i = -1) → (stpD (.loc m.length) (.int i) m2).to Q := fun i hi => by
    refine stp_ok e3 hi (by simp) fun l es m3 k3 h3 he => ?_
    rcases he with rfl | rfl
    · exact k p q l m3 hp hq h3 ((k0.trans k2).trans k3.of) (f2.keep k3)
    · exact k q p l m3 hq hp h3 ((k0.trans k2).trans k3.of) (f2.keep k3)
  rcases hd with rfl | rfl
  · simp [idx_loc (listAt_lst e4)]
    exact go 1 (.inl rfl)
  · simp [idx_loc (listAt_lst e4)]
    exact go (-1) (.inr rfl)
theorem neg1_pD : D.tup [D.tup [D.int (-1), D.int 1]] = pD [-1] := rfl
end K78
end Mn
end

section
namespace Mn
open PySem
theorem ev_dict {cl : Nat → List D → Mu → R D} {σ : Sl} {m : Mu} {ks : List Str} {es : CEs} {Q : D → Mu → Prop}
    (h : (evEs cl es σ (m ++ [.dic []])).to fun ds m' => m'[m.length]? = some (.dic []) ∧ ds.length = ks.length ∧ ks.length ≤ 15 ∧ ks.Nodup ∧ Q (.loc m.length) (m'.set m.length (.dic (ks.zip ds)))) : (evE cl (.dict ks es) σ m).to Q := by
  simp only [evE, to_bind]
  refine h.mono fun ds m' hh => ?_
  obtain ⟨h1, h2, h3, h4, h5⟩ := hh
  simp only [h1]
  rw [if_pos]
  · exact h5
  · rw [decide_eq_true h2, decide_eq_true h3, decide_eq_true h4]; rfl
theorem listAt_lt {m : Mu} {s : Nat} {ds : List D} (h : listAt m s = some ds) : s < m.length := by
  unfold listAt at h
  split at h
  · rename_i e; exact (List.getElem?_eq_some_iff.mp e).1
  · rename_i e; exact (List.getElem?_eq_some_iff.mp e).1
  · cases h
theorem listAt_new {m c : Mu} {s : Nat} {ds : List D} (h : listAt m s = some ds) : listAt (m ++ c) s = some ds := by
  have := listAt_lt h
  unfold listAt at h ⊢
  rw [List.getElem?_append_left this]; exact h
theorem ints_rfl {m : Mu} (ns : List Int) : RfL 1 m (ns.map D.int) (ns.map PyData.int) := rfl_map fun _ _ => rf_int
theorem ints_shp (ns : List Int) : ShpL 0 (ns.map PyData.int) := shpl_map fun _ _ => shp_int
namespace K78
variable {wf n : Nat} {m : Mu} {Q : D → Mu → Prop}
theorem feed_ok (hn : 1 ≤ n) {ns : List Int} {s : Nat} (hs : listAt m s = some (ns.map D.int)) (hl : ns.length ≤ 63) (k : ∀ f m', Feed f 900000000 m' → Kp nox m m' → m.length ≤ f → Q (.loc f) m') : (callN Pr wf n f__law_feed [.loc s] m).to Q := by
  refine call_of (fn := p__law_feed) rfl rfl (by omega) fun k' hk => ?_
  simp only [p__law_feed, ss_cons, ss_nil, s_ret]
  have ls := listAt_lt hs
  refine ev_dict ?_
  have h1 : listAt (m ++ [Cell.dic []]) s = some (ns.map D.int) := listAt_new hs
  have e63 : cutD (ns.map D.int) none (some 63) = ns.map D.int := by
    have := cut_min (xs := ns.map D.int) (k := 63)
    rw [show ((63 : Nat) : Int) = 63 by rfl] at this
    rw [this, List.take_of_length_le (by simpa using hl)]
  simp [sl_loc h1, e63]
  refine ⟨by omega, ?_⟩
  have g2 : seqAt (m ++ [Cell.dic [], Cell.lst (ns.map D.int)]) (.loc (m.length + 1)) = some (ns.map D.int) := by
    simp only [seqAt]
    refine listAt_lst ?_
    rw [List.getElem?_append_right (by omega)]; simp
  rw [blt_list g2]
  refine ⟨sz_ok (by simp; omega), ?_⟩
  simp only [to_newL, List.length_append, List.append_assoc, List.cons_append, List.nil_append, List.length_cons, List.length_nil]
  refine ⟨sz_ok (by omega), sz_ok (by omega), ?_⟩
  generalize hM : (m ++ [Cell.dic [], Cell.lst (ns.map D.int), Cell.lst (ns.map D.int), Cell.lst [.int 0], Cell.lst []]) = M
  have at_ : ∀ j c, [Cell.dic [], Cell.lst (ns.map D.int), Cell.lst (ns.map D.int), Cell.lst [.int 0], Cell.lst []][j]? = some c → M[m.length + j]? = some c := fun j c h => by
    rw [← hM, List.getElem?_append_right (by omega), Nat.add_sub_cancel_left]; exact h
  have len : M.length = m.length + 5 := by rw [← hM]; simp
  have hsM : listAt M s = some (ns.map D.int) := by rw [← hM]; exact listAt_new hs
  have eq0 : eqD M (.loc s) (.loc (m.length + 4)) = some (decide (ns = [])) := by
    rw [eqD_tree (rf_lst hsM (ints_rfl ns)) (rf_lst (k := 1) (listAt_lst (at_ 4 _ rfl)) rfl_nil) ((shp_lst (ints_shp ns)).mono (by decide)) ((shp_lst (k := 1) shpl_nil).mono (by decide)) (by decide) (by decide)]
    simp only [PyData.eqv, eqvAll_nil]
    cases ns <;> simp
  have kM : Kp nox m M := by rw [← hM]; exact .new
  simp only [Nat.zero_add, Nat.reduceAdd]
  rw [eq0, ob_some, op_mulL (at_ 3 _ rfl)]
  obtain ⟨e, he⟩ : ∃ e : Nat, (if decide (ns = []) = true then (1 : Int) else 0) = e ∧ e ≤ 1 ∧ (ns = [] → e = 1) := by
    by_cases h : ns = []
    · exact ⟨1, by simp [h], by omega, fun _ => rfl⟩
    · exact ⟨0, by simp [h], by omega, fun z => absurd z h⟩
  rw [he.1, rep_one]
  have le1 := he.2.1
  refine ⟨⟨by omega, by omega, by simp⟩, sz_ok (by simp; omega), ?_⟩
  have x1 : (M ++ [Cell.lst (List.replicate e (D.int 0))])[m.length + 2]? = some (.lst (ns.map D.int)) := by rw [List.getElem?_append_left (by omega)]; exact at_ 2 _ rfl
  have x2 : (M ++ [Cell.lst (List.replicate e (D.int 0))])[M.length]? = some (.lst (List.replicate e (D.int 0))) := at_new
  rw [op_addL x1 x2]
  have eL : ns.map D.int ++ List.replicate e (D.int 0) = (ns ++ List.replicate e 0).map D.int := by simp
  refine ⟨sz_ok (by simp; omega), ?_, ⟨⟨s_ca, s_cl, s_ct⟩, ⟨s_al, s_at⟩, s_lt⟩, ?_⟩
  · rw [List.getElem?_append_left (by simp; omega), List.getElem?_append_left (by omega)]
    exact at_ 0 _ rfl
  · refine k _ _ ⟨(M ++ [Cell.lst (List.replicate e (D.int 0))]).length, ns ++ List.replicate e 0, 0, 0, 0, List.getElem?_set_self (by simp; omega), ?_, ?_, ?_, by omega, by omega, by omega, by omega⟩ (((kM.trans .new).trans .new).set (.inl (Nat.le_refl _))) (Nat.le_refl _)
    · rw [List.getElem?_set_ne (by simp; omega), at_new, eL]
    · intro z
      have h0 := List.append_eq_nil_iff.mp z
      have := he.2.2 h0.1
      rw [this] at h0
      exact absurd h0.2 (by decide)
    · simp; omega
end K78
end Mn
end

section
namespace Mn
open PySem
def KL (m m' : Mu) : Prop := ∀ l ds, listAt m l = some ds → listAt m' l = some ds
theorem mapM_keep {f g : D → Option PyData} (h : ∀ d x, f d = some x → g d = some x) : ∀ {ds : List D} {xs : List PyData}, ds.mapM f = some xs → ds.mapM g = some xs
  | [], xs, e => by simpa using e
  | d :: ds, xs, e => by
    rw [mapM_c] at e ⊢
    cases h1 : f d with
    | none => rw [h1] at e; cases e
    | some x =>
      rw [h1] at e
      cases h2 : ds.mapM f with
      | none => rw [h2] at e; cases e
      | some ys =>
        rw [h2] at e; cases e
        rw [h d x h1, mapM_keep h h2]; rfl
theorem reify_loc {n l : Nat} {m : Mu} : reify (n + 1) m (.loc l) = (listAt m l).bind fun ds => (ds.mapM (reify n m)).map PyData.list := by
  unfold reify listAt
  split <;> simp_all
theorem reify_keep {m m' : Mu} (h : KL m m') : ∀ (n : Nat) (d : D) (x : PyData), reify n m d = some x → reify n m' d = some x
  | 0, _, _, e => by cases e
  | n + 1, .non, _, e => e
  | n + 1, .bl _, _, e => e
  | n + 1, .int _, _, e => e
  | n + 1, .str _, _, e => e
  | n + 1, .tup ds, x, e => by
    unfold reify at e ⊢
    cases h1 : ds.mapM (reify n m) with
    | none => rw [h1] at e; cases e
    | some xs =>
      rw [h1] at e
      rw [mapM_keep (fun d x => reify_keep h n d x) h1]; exact e
  | n + 1, .loc l, x, e => by
    rw [reify_loc] at e ⊢
    cases h0 : listAt m l with
    | none => rw [h0] at e; cases e
    | some ds =>
      rw [h0] at e
      rw [h l ds h0]
      simp only [Option.bind_some] at e ⊢
      cases h1 : ds.mapM (reify n m) with
      | none => rw [h1] at e; cases e
      | some xs =>
        rw [h1] at e
        rw [mapM_keep (fun d x => reify_keep h n d x) h1]; exact e
theorem Rf.keep {m m' : Mu} {k : Nat} {d : D} {x : PyData} (r : Rf k m d x) (h : KL m m') : Rf k m' d x := fun n hn => reify_keep h n d x (r n hn)
theorem Kp.kl {x : Nat → Prop} {m m' : Mu} (k : Kp x m m') (h : ∀ l, x l → listAt m l = none) : KL m m' := by
  intro l ds e
  have hx : ¬ x l := fun z => by rw [h l z] at e; cases e
  unfold listAt at e ⊢
  split at e
  · rename_i ds' q; cases e; rw [k.at_ q hx]
  · rename_i ds' q; cases e; rw [k.at_ q hx]
  · cases e
end Mn
end

section
namespace Mn
open PySem
mutual
def msr : PyData → Nat
  | .none => 4
  | .bool _ => 5
  | .int _ => 600
  | .str x => 10 * x.length + 10
  | .list xs => msrs xs + 3
  | .tuple xs => msrs xs + 3
  | .dict _ => 0
def msrs : List PyData → Nat
  | [] => 0
  | x :: xs => msr x + 2 + msrs xs
end
mutual
/-- no dict; numbers and signs not too great -/
def good (b : Nat) : PyData → Prop
  | .none => True
  | .bool _ => True
  | .int i => Bd b i
  | .str x => ∀ c ∈ x.cps.toList, c < 128
  | .list xs => goods b xs
  | .tuple xs => goods b xs
  | .dict _ => False
def goods (b : Nat) : List PyData → Prop
  | [] => True
  | x :: xs => good b x ∧ goods b xs
end
mutual
theorem shown_msr {b : Nat} (hb : b ≤ 1900) : ∀ x : PyData, good b x → x.shown.length ≤ msr x
  | .none, _ => by simp only [msr]; show (PyData.shown .none).length ≤ 4; decide
  | .bool v, _ => by cases v <;> simp only [msr] <;> decide
  | .int i, h => by
    simp only [good] at h
    simp only [msr]
    exact (sw_int (h.mono hb)).2.2
  | .str x, h => by
    simp only [good] at h
    simp only [msr, PyData.shown]
    have e := StrLaws.reprText_len x (fun c hc => Nat.lt_of_lt_of_le (h c hc) (by decide))
    have e2 : x.length = x.cps.size := rfl
    omega
  | .list xs, h => by
    simp only [good] at h
    simp only [msr, PyData.shown]
    have h1 := shown_msrs hb xs h
    have h2 := listText_len_le (PyData.shownAll xs)
    omega
  | .tuple xs, h => by
    simp only [good] at h
    simp only [msr, PyData.shown]
    have h1 := shown_msrs hb xs h
    have h2 := tupleText_len_le (PyData.shownAll xs)
    omega
  | .dict _, h => by simp only [good] at h
theorem shown_msrs {b : Nat} (hb : b ≤ 1900) : ∀ xs : List PyData, goods b xs → ((PyData.shownAll xs).map (·.length)).sum + 2 * (PyData.shownAll xs).length ≤ msrs xs
  | [], _ => by simp [PyData.shownAll, msrs]
  | x :: xs, h => by
    simp only [goods] at h
    have h1 := shown_msr hb x h.1
    have h2 := shown_msrs hb xs h.2
    simp only [PyData.shownAll, List.map_cons, List.sum_cons, List.length_cons, msrs]
    omega
end
mutual
theorem good_sw {b : Nat} (hb : b ≤ 1900) : ∀ x : PyData, good b x → x.showable = true ∧ x.hasDict = false
  | .none, _ => ⟨rfl, rfl⟩
  | .bool v, _ => ⟨rfl, rfl⟩
  | .int i, h => by
    simp only [good] at h
    exact ⟨(sw_int (h.mono hb)).1, rfl⟩
  | .str x, h => ⟨rfl, rfl⟩
  | .list xs, h => by
    simp only [good] at h
    have := goods_sw hb xs h
    exact ⟨by simpa only [PyData.showable] using this.1, by simpa only [PyData.hasDict] using this.2⟩
  | .tuple xs, h => by
    simp only [good] at h
    have := goods_sw hb xs h
    exact ⟨by simpa only [PyData.showable] using this.1, by simpa only [PyData.hasDict] using this.2⟩
  | .dict _, h => by simp only [good] at h
theorem goods_sw {b : Nat} (hb : b ≤ 1900) : ∀ xs : List PyData, goods b xs → PyData.showableAll xs = true ∧ PyData.hasDictAll xs = false
  | [], _ => ⟨rfl, rfl⟩
  | x :: xs, h => by
    simp only [goods] at h
    have h1 := good_sw hb x h.1
    have h2 := goods_sw hb xs h.2
    exact ⟨by simp only [PyData.showableAll, h1.1, h2.1, Bool.and_self], by simp only [PyData.hasDictAll, h1.2, h2.2, Bool.or_self]⟩
end
end Mn
end

section
namespace Mn
open PySem
mutual
inductive TR (A : Nat → Prop) (m : Mu) : Nat → D → PyData → Prop
  | non {k : Nat} : TR A m k .non .none
  | bl {k : Nat} {b : Bool} : TR A m k (.bl b) (.bool b)
  | int {k : Nat} {i : Int} : TR A m k (.int i) (.int i)
  | str {k : Nat} {s : Str} : TR A m k (.str s) (.str s)
  | tup {k : Nat} {ds : List D} {xs : List PyData} (h : TRs A m k ds xs) : TR A m (k + 1) (.tup ds) (.tuple xs)
  | lst {k l : Nat} {ds : List D} {xs : List PyData} (e : m[l]? = some (Cell.lst ds)) (h : TRs A m k ds xs) (a : A l) : TR A m (k + 1) (.loc l) (.list xs)
inductive TRs (A : Nat → Prop) (m : Mu) : Nat → List D → List PyData → Prop
  | nil {k : Nat} : TRs A m k [] []
  | cons {k : Nat} {d : D} {x : PyData} {ds : List D} {xs : List PyData} (h : TR A m k d x) (t : TRs A m k ds xs) : TRs A m k (d :: ds) (x :: xs)
end
section
variable {A : Nat → Prop} {m m' : Mu} {x : Nat → Prop}
mutual
theorem TR.rf : ∀ {k : Nat} {d : D} {x : PyData}, TR A m k d x → Rf (k + 1) m d x
  | _, _, _, .non => rf_non.mono (by omega)
  | _, _, _, .bl => rf_bl.mono (by omega)
  | _, _, _, .int => rf_int.mono (by omega)
  | _, _, _, .str => rf_str.mono (by omega)
  | _, _, _, .tup h => rf_tup (TRs.rfl h)
  | _, _, _, .lst e h _ => rf_lst (listAt_lst e) (TRs.rfl h)
theorem TRs.rfl : ∀ {k : Nat} {ds : List D} {xs : List PyData}, TRs A m k ds xs → RfL (k + 1) m ds xs
  | _, _, _, .nil => rfl_nil
  | _, _, _, .cons h t => rfl_cons (TR.rf h) (TRs.rfl t)
end
mutual
theorem TR.keep (hk : ∀ (l : Nat) (ds : List D), A l → m[l]? = some (Cell.lst ds) → m'[l]? = some (Cell.lst ds)) : ∀ {k : Nat} {d : D} {x : PyData}, TR A m k d x → TR A m' k d x
  | _, _, _, .non => .non
  | _, _, _, .bl => .bl
  | _, _, _, .int => .int
  | _, _, _, .str => .str
  | _, _, _, .tup h => .tup (TRs.keep hk h)
  | _, _, _, .lst e h a => .lst (hk _ _ a e) (TRs.keep hk h) a
theorem TRs.keep (hk : ∀ (l : Nat) (ds : List D), A l → m[l]? = some (Cell.lst ds) → m'[l]? = some (Cell.lst ds)) : ∀ {k : Nat} {ds : List D} {xs : List PyData}, TRs A m k ds xs → TRs A m' k ds xs
  | _, _, _, .nil => .nil
  | _, _, _, .cons h t => .cons (TR.keep hk h) (TRs.keep hk t)
end
mutual
theorem TR.mono : ∀ {k k' : Nat} {d : D} {x : PyData}, TR A m k d x → k ≤ k' → TR A m k' d x
  | _, _, _, _, .non, _ => .non
  | _, _, _, _, .bl, _ => .bl
  | _, _, _, _, .int, _ => .int
  | _, _, _, _, .str, _ => .str
  | k + 1, k', _, _, .tup h, hk => by
    obtain ⟨j, rfl⟩ : ∃ j, k' = j + 1 := ⟨k' - 1, by omega⟩
    exact .tup (TRs.mono h (by omega))
  | k + 1, k', _, _, .lst e h a, hk => by
    obtain ⟨j, rfl⟩ : ∃ j, k' = j + 1 := ⟨k' - 1, by omega⟩
    exact .lst e (TRs.mono h (by omega)) a
theorem TRs.mono : ∀ {k k' : Nat} {ds : List D} {xs : List PyData}, TRs A m k ds xs → k ≤ k' → TRs A m k' ds xs
  | _, _, _, _, .nil, _ => .nil
  | _, _, _, _, .cons h t, hk => .cons (TR.mono h hk) (TRs.mono t hk)
end
end
end Mn
end

section
namespace Mn
open PySem
variable {A : Nat → Prop}
def D.isInt : D → Bool
  | .int _ => true
  | _ => false
def D.isTup : D → Bool
  | .tup _ => true
  | _ => false
section
variable {m : Mu} {k : Nat} {d : D} {x : PyData}
theorem TR.isiTup (h : TR A m k d x) : isiD .tuple d m = some d.isTup := by
  cases h <;> simp_all [isiD, D.isTup, Ty.isList]
theorem TR.isiInt (h : TR A m k d x) : isiD .int d m = some (match d with | .int _ => true | .bl _ => true | _ => false) := by
  cases h <;> simp_all [isiD, Ty.isList]
theorem TR.isiBl (h : TR A m k d x) : isiD .bool d m = some (match d with | .bl _ => true | _ => false) := by
  cases h <;> simp_all [isiD, Ty.isList]
end
namespace K78
variable {wf n : Nat} {m : Mu} {Q : D → Mu → Prop}
/-- a fraction in lowest terms -/
def isFr : D → Bool
  | .tup [.int a, .int b] => decide (0 < b) && decide (Int.gcd a b = 1)
  | _ => false
end K78
end Mn
end

section
namespace Mn
open PySem
variable {A : Nat → Prop}
namespace K78
variable {wf n : Nat} {m : Mu} {Q : D → Mu → Prop}
def D.ge1 : D → Bool
  | .int i => decide (1 ≤ i)
  | _ => false
theorem isFr_eq {i j : Int} (hj : 0 < j) : fr (Rat.divInt i j) = .tup [.int i, .int j] ↔ Int.gcd i j = 1 := by
  rw [fr_pos hj]
  constructor
  · intro h
    injection h with h
    injection h with h1 h2
    injection h2 with h2 _
    injection h2 with h2
    have hg : 0 < Int.gcd i j := Int.gcd_pos_of_ne_zero_right _ (by omega)
    rw [fdiv_pos hg (Int.gcd_dvd_right ..)] at h2
    have h3 := Int.ediv_mul_cancel (Int.gcd_dvd_right i j)
    rw [h2] at h3
    have h4 : (Int.gcd i j : Int) = 1 := Int.eq_of_mul_eq_mul_left (show j ≠ 0 by omega) (by rw [h3, Int.mul_one])
    omega
  · intro h
    rw [h]
    have e : ∀ a : Int, a.fdiv ((1 : Nat) : Int) = a := fun a => by rw [Int.fdiv_eq_ediv_of_nonneg _ (by omega)]; simp
    rw [e, e]
end K78
end Mn
end

section
namespace Mn
open PySem
variable {A : Nat → Prop}
theorem TRs.mem {m : Mu} {k b : Nat} : ∀ {ds : List D} {xs : List PyData}, TRs A m k ds xs → goods b xs → ∀ d ∈ ds, ∃ x, TR A m k d x ∧ good b x
  | _, _, .nil, _, d, hd => by cases hd
  | _, _, .cons h t, hg, d, hd => by
    simp only [goods] at hg
    rcases List.mem_cons.mp hd with rfl | hd
    · exact ⟨_, h, hg.1⟩
    · exact TRs.mem t hg.2 d hd
theorem Kp.lst {x : Nat → Prop} {m m' : Mu} (k : Kp x m m') (h : ∀ l, A l → x l → ∀ ds, m[l]? ≠ some (Cell.lst ds)) : ∀ (l : Nat) (ds : List D), A l → m[l]? = some (Cell.lst ds) → m'[l]? = some (Cell.lst ds) :=
  fun l ds a e => k.at_ e fun z => h l a z ds e
theorem bls_map {α : Type} (f : α → Bool) : ∀ l : List α, bls (l.map fun a => D.bl (f a)) = some (l.map f)
  | [] => rfl
  | a :: l => by simp [bls, bls_map f l]
namespace K78
variable {wf n : Nat} {m : Mu} {Q : D → Mu → Prop}
/-- a poly, by its look -/
def lastOk : Option D → Bool
  | none => true
  | some (.tup [.int a, _]) => decide (a ≠ 0)
  | some _ => false
def isPl : D → Bool
  | .tup ds => ds.all isFr && lastOk ds.getLast?
  | _ => false
theorem isPl_tup {ds : List D} : isPl (.tup ds) = (ds.all isFr && lastOk ds.getLast?) := rfl
theorem isFr_shape {d : D} (h : isFr d = true) : ∃ a b : Int, d = .tup [.int a, .int b] ∧ 0 < b ∧ Int.gcd a b = 1 := by
  unfold isFr at h
  split at h
  · have z := Bool.and_eq_true_iff.mp h
    exact ⟨_, _, rfl, of_decide_eq_true z.1, of_decide_eq_true z.2⟩
  · cases h
theorem eq_nought {a b : Int} (hb : 0 < b) (hg : Int.gcd a b = 1) : eqD m (.tup [.int a, .int b]) (.tup [.int 0, .int 1]) = some (decide (a = 0)) := by
  have t2 : ∀ a b : Int, Rf 2 m (.tup [.int a, .int b]) (.tuple [.int a, .int b]) := fun a b => rf_tup (rfl_cons rf_int (rfl_cons rf_int rfl_nil))
  have s2 : ∀ a b : Int, Shp 1 (.tuple [.int a, .int b]) := fun a b => shp_tup (shpl_cons shp_int (shpl_cons shp_int shpl_nil))
  rw [eqD_tree (t2 _ _) (t2 _ _) ((s2 _ _).mono (by decide)) ((s2 _ _).mono (by decide)) (by decide) (by decide)]
  congr 1
  rw [Bool.eq_iff_iff, decide_eq_true_eq]
  simp [PyData.eqv, PyData.eqvAll]
  rintro rfl
  rw [Int.gcd_zero_left] at hg
  omega
end K78
end Mn
end

section
namespace Mn
open PySem
variable {A : Nat → Prop}
mutual
theorem TR.shp {m : Mu} {b : Nat} : ∀ {k : Nat} {d : D} {x : PyData}, TR A m k d x → good b x → Shp k x
  | _, _, _, .non, _ => ⟨rfl, by simp [PyData.depth]⟩
  | _, _, _, .bl, _ => ⟨rfl, by simp [PyData.depth]⟩
  | _, _, _, .int, _ => ⟨rfl, by simp [PyData.depth]⟩
  | _, _, _, .str (s := s), h => by
    simp only [good] at h
    refine ⟨?_, by simp [PyData.depth]⟩
    simp only [PyData.canLay0, PyData.strOk]
    rw [Array.all_eq_true_iff_forall_mem]
    intro c hc
    have h2 := h c (Array.mem_toList_iff.mpr hc)
    simp
    omega
  | _, _, _, .tup h, hg => by
    simp only [good] at hg
    exact shp_tup (TRs.shp h hg)
  | _, _, _, .lst e h _, hg => by
    simp only [good] at hg
    exact shp_lst (TRs.shp h hg)
theorem TRs.shp {m : Mu} {b : Nat} : ∀ {k : Nat} {ds : List D} {xs : List PyData}, TRs A m k ds xs → goods b xs → ShpL k xs
  | _, _, _, .nil, _ => shpl_nil
  | _, _, _, .cons h t, hg => by
    simp only [goods] at hg
    exact shpl_cons (TR.shp h hg.1) (TRs.shp t hg.2)
end
theorem eqD_tnil {m : Mu} {k b : Nat} {ds : List D} {xs : List PyData} (hs : TRs A m k ds xs) (hg : goods b xs) (hk : k ≤ 50) : eqD m (.tup ds) (.tup []) = some (decide (ds = [])) := by
  rw [eqD_tree (rf_tup hs.rfl) (rf_tup (k := 1) rfl_nil) ((shp_tup (hs.shp hg)).mono (by omega)) ((shp_tup (k := 1) shpl_nil).mono (by decide)) (by omega) (by decide)]
  simp only [PyData.eqv, K78.eqvAll_nil]
  cases hs <;> simp
namespace K78
variable {wf n : Nat} {m : Mu} {Q : D → Mu → Prop}
theorem shp_bl {b : Bool} : Shp 0 (.bool b) := ⟨rfl, by simp [PyData.depth]⟩
theorem inD_bls {α : Type} {l : Nat} {as : List α} {f : α → Bool} (h : listAt m l = some (as.map fun a => .bl (f a))) : inD m (.bl false) (.loc l) = some (!as.all f) := by
  have t1 : Rf 2 m (.loc l) (.list (as.map fun a => .bool (f a))) := rf_lst h (rfl_map fun _ _ => rf_bl)
  have s1 : Shp 1 (.list (as.map fun a => PyData.bool (f a))) := shp_lst (shpl_map fun _ _ => shp_bl)
  have e1 : SeqAt.shaped (.bool false) = true := rfl
  have e2 : SeqAt.shaped (.list (as.map fun a => PyData.bool (f a))) = true := by unfold SeqAt.shaped; rw [s1.1, decide_eq_true (Nat.le_trans s1.2 (by decide))]; rfl
  simp only [inD, tree, t1 60 (by decide), (rf_bl (m := m) (b := false)) 60 (by decide), e1, e2, Bool.and_self, if_true]
  congr 1
  rw [List.any_map]
  induction as with
  | nil => rfl
  | cons a as ih =>
    have hh : ∀ as : List α, (as.any ((fun z => PyData.eqv z (.bool false)) ∘ fun a => PyData.bool (f a))) = !as.all f := by
      intro as
      induction as with
      | nil => rfl
      | cons a as ih => rw [List.any_cons, List.all_cons, ih]; cases h : f a <;> simp [PyData.eqv, h]
    exact hh _
end K78
end Mn
end

section
namespace Mn
open PySem
variable {A : Nat → Prop}
mutual
theorem good.mono {b c : Nat} (h : b ≤ c) : ∀ {x : PyData}, good b x → good c x
  | .none, _ => by simp only [good]
  | .bool _, _ => by simp only [good]
  | .int i, g => by simp only [good] at g ⊢; exact g.mono h
  | .str x, g => by simp only [good] at g ⊢; exact g
  | .list xs, g => by simp only [good] at g ⊢; exact goods.mono h g
  | .tuple xs, g => by simp only [good] at g ⊢; exact goods.mono h g
  | .dict _, g => by simp only [good] at g
theorem goods.mono {b c : Nat} (h : b ≤ c) : ∀ {xs : List PyData}, goods b xs → goods c xs
  | [], _ => by simp only [goods]
  | x :: xs, g => by simp only [goods] at g ⊢; exact ⟨good.mono h g.1, goods.mono h g.2⟩
end
theorem goods_append {b : Nat} : ∀ {xs ys : List PyData}, goods b xs → goods b ys → goods b (xs ++ ys)
  | [], _, _, h => h
  | x :: xs, ys, g, h => by
    simp only [goods] at g
    simp only [List.cons_append, goods]
    exact ⟨g.1, goods_append g.2 h⟩
theorem msrs_append : ∀ (xs ys : List PyData), msrs (xs ++ ys) = msrs xs + msrs ys
  | [], ys => by simp [msrs]
  | x :: xs, ys => by simp only [List.cons_append, msrs, msrs_append xs ys]; omega
theorem msrs_len : ∀ xs : List PyData, 2 * xs.length ≤ msrs xs
  | [] => by simp
  | x :: xs => by have := msrs_len xs; simp only [List.length_cons, msrs]; omega
theorem TRs.append {m : Mu} {k : Nat} : ∀ {ds es : List D} {xs ys : List PyData}, TRs A m k ds xs → TRs A m k es ys → TRs A m k (ds ++ es) (xs ++ ys)
  | _, _, _, _, .nil, h => h
  | _, _, _, _, .cons a t, h => .cons a (TRs.append t h)
theorem TRs.len {m : Mu} {k : Nat} : ∀ {ds : List D} {xs : List PyData}, TRs A m k ds xs → ds.length = xs.length
  | _, _, .nil => Eq.refl _
  | _, _, .cons _ t => by simp only [List.length_cons, TRs.len t]
def Th (A : Nat → Prop) (b k W : Nat) (m : Mu) (d : D) : Prop := ∃ x, TR A m k d x ∧ good b x ∧ msr x ≤ W
def Ths (A : Nat → Prop) (b k W : Nat) (m : Mu) (ds : List D) : Prop := ∃ xs, TRs A m k ds xs ∧ goods b xs ∧ msrs xs ≤ W
section
variable {b b' k k' W W' : Nat} {m m' : Mu} {d : D} {ds es : List D}
theorem Th.mono (h : Th A b k W m d) (hb : b ≤ b') (hk : k ≤ k') (hW : W ≤ W') : Th A b' k' W' m d := by
  obtain ⟨x, h1, h2, h3⟩ := h
  exact ⟨x, h1.mono hk, good.mono hb h2, by omega⟩
theorem Ths.mono (h : Ths A b k W m ds) (hb : b ≤ b') (hk : k ≤ k') (hW : W ≤ W') : Ths A b' k' W' m ds := by
  obtain ⟨x, h1, h2, h3⟩ := h
  exact ⟨x, h1.mono hk, goods.mono hb h2, by omega⟩
def KLs (A : Nat → Prop) (m m' : Mu) : Prop := ∀ (l : Nat) (ds : List D), A l → m[l]? = some (Cell.lst ds) → m'[l]? = some (Cell.lst ds)
theorem Th.keep (h : Th A b k W m d) (hk : KLs A m m') : Th A b k W m' d := by
  obtain ⟨x, h1, h2, h3⟩ := h
  exact ⟨x, h1.keep hk, h2, h3⟩
theorem Ths.keep (h : Ths A b k W m ds) (hk : KLs A m m') : Ths A b k W m' ds := by
  obtain ⟨x, h1, h2, h3⟩ := h
  exact ⟨x, h1.keep hk, h2, h3⟩
theorem KLs.new {c : Mu} : KLs A m (m ++ c) := fun l ds _ e => by rw [List.getElem?_append_left (List.getElem?_eq_some_iff.mp e).1]; exact e
theorem KLs.refl : KLs A m m := fun l ds _ e => e
theorem KLs.trans {m2 : Mu} (h : KLs A m m') (g : KLs A m' m2) : KLs A m m2 := fun l ds a e => g l ds a (h l ds a e)
theorem th_non : Th A b k 4 m .non := ⟨_, .non, by simp only [good], by simp only [msr]; omega⟩
theorem th_bl {v : Bool} : Th A b k 5 m (.bl v) := ⟨_, .bl, by simp only [good], by simp only [msr]; omega⟩
theorem th_int {i : Int} (h : Bd b i) : Th A b k 600 m (.int i) := ⟨_, .int, by simpa only [good] using h, by simp only [msr]; omega⟩
theorem th_str {s : Str} (h : ∀ c ∈ s.cps.toList, c < 128) (hW : 10 * s.length + 10 ≤ W) : Th A b k W m (.str s) := ⟨_, .str, by simpa only [good] using h, by simpa only [msr] using hW⟩
theorem th_tup (h : Ths A b k W m ds) : Th A b (k + 1) (W + 3) m (.tup ds) := by
  obtain ⟨xs, h1, h2, h3⟩ := h
  exact ⟨_, .tup h1, by simpa only [good] using h2, by simp only [msr]; omega⟩
theorem th_lst {l : Nat} (e : m[l]? = some (Cell.lst ds)) (h : Ths A b k W m ds) (a : A l) : Th A b (k + 1) (W + 3) m (.loc l) := by
  obtain ⟨xs, h1, h2, h3⟩ := h
  exact ⟨_, .lst e h1 a, by simpa only [good] using h2, by simp only [msr]; omega⟩
theorem ths_nil : Ths A b k 0 m [] := ⟨[], .nil, by simp only [goods], by simp [msrs]⟩
theorem ths_cons (h : Th A b k W m d) (t : Ths A b k W' m ds) : Ths A b k (W + 2 + W') m (d :: ds) := by
  obtain ⟨x, h1, h2, h3⟩ := h
  obtain ⟨xs, t1, t2, t3⟩ := t
  exact ⟨x :: xs, .cons h1 t1, by simp only [goods]; exact ⟨h2, t2⟩, by simp only [msrs]; omega⟩
theorem ths_one (h : Th A b k W m d) : Ths A b k (W + 2) m [d] := ths_cons h ths_nil
theorem Ths.append (h : Ths A b k W m ds) (t : Ths A b k W' m es) : Ths A b k (W + W') m (ds ++ es) := by
  obtain ⟨xs, h1, h2, h3⟩ := h
  obtain ⟨ys, t1, t2, t3⟩ := t
  exact ⟨xs ++ ys, h1.append t1, goods_append h2 t2, by rw [msrs_append]; omega⟩
theorem Ths.split : ∀ {ds es : List D} {W : Nat}, Ths A b k W m (ds ++ es) → ∃ V U, Ths A b k V m ds ∧ Ths A b k U m es ∧ V + U ≤ W
  | [], es, W, h => ⟨0, W, ths_nil, h, by omega⟩
  | d :: ds, es, W, h => by
    obtain ⟨xs, h1, h2, h3⟩ := h
    cases h1 with
    | cons a t =>
      simp only [goods] at h2
      simp only [msrs] at h3
      obtain ⟨V, U, q1, q2, q3⟩ := Ths.split (ds := ds) (es := es) ⟨_, t, h2.2, Nat.le_refl _⟩
      exact ⟨_, U, ths_cons ⟨_, a, h2.1, Nat.le_refl _⟩ q1, q2, by omega⟩
theorem Ths.drop (h : Ths A b k W m ds) (i : Nat) : Ths A b k W m (ds.drop i) := by
  rw [← List.take_append_drop i ds] at h
  obtain ⟨V, U, _, h2, h3⟩ := h.split
  exact h2.mono (Nat.le_refl _) (Nat.le_refl _) (by omega)
theorem Ths.take (h : Ths A b k W m ds) (i : Nat) : Ths A b k W m (ds.take i) := by
  rw [← List.take_append_drop i ds] at h
  obtain ⟨V, U, h1, _, h3⟩ := h.split
  exact h1.mono (Nat.le_refl _) (Nat.le_refl _) (by omega)
theorem Ths.cut (h : Ths A b k W m ds) (lo hi : Option Int) : Ths A b k W m (cutD ds lo hi) := (h.drop _).take _
theorem Ths.rev : ∀ {ds : List D} {W : Nat}, Ths A b k W m ds → Ths A b k W m ds.reverse
  | [], W, h => h
  | d :: ds, W, h => by
    rw [List.reverse_cons]
    obtain ⟨V, U, h1, h2, h3⟩ := Ths.split (ds := [d]) (es := ds) h
    exact (Ths.append (Ths.rev h2) h1).mono (Nat.le_refl _) (Nat.le_refl _) (by omega)
theorem Ths.len (h : Ths A b k W m ds) : 2 * ds.length ≤ W := by
  obtain ⟨xs, h1, h2, h3⟩ := h
  have := msrs_len xs
  rw [h1.len]; omega
theorem Th.untup (h : Th A b k W m (.tup ds)) : ∃ j V, k = j + 1 ∧ V + 3 ≤ W ∧ Ths A b j V m ds := by
  obtain ⟨x, h1, h2, h3⟩ := h
  cases h1 with
  | tup hs =>
    simp only [good] at h2
    simp only [msr] at h3
    exact ⟨_, _, rfl, h3, _, hs, h2, Nat.le_refl _⟩
theorem Ths.at_ (h : Ths A b k W m ds) {i : Nat} (hi : i < ds.length) : ∃ V U U', Th A b k V m ds[i] ∧ Ths A b k U m (ds.take i) ∧ Ths A b k U' m (ds.drop (i + 1)) ∧ U + V + 2 + U' ≤ W := by
  have e : ds = ds.take i ++ ([ds[i]] ++ ds.drop (i + 1)) := by
    rw [List.singleton_append, ← List.drop_eq_getElem_cons hi, List.take_append_drop]
  generalize hg : ds[i] = g at e ⊢
  rw [e] at h
  obtain ⟨U, V, h1, h2, h3⟩ := h.split
  obtain ⟨V1, U', h4, h5, h6⟩ := h2.split
  obtain ⟨xs, t1, t2, t3⟩ := h4
  cases t1 with
  | cons a t =>
    cases t
    simp only [goods] at t2
    simp only [msrs] at t3
    exact ⟨_, U, U', ⟨_, a, t2.1, Nat.le_refl _⟩, h1, h5, by omega⟩
end
theorem cutD_len {α : Type} (xs : List α) (lo hi : Option Int) : (cutD xs lo hi).length ≤ xs.length := by
  unfold cutD
  rw [List.length_take, List.length_drop]
  omega
section
variable {m : Mu} {Q : D → Mu → Prop}
theorem blt_listT {ds : List D} : (bltD .list [.tup ds] m).to Q = (szOk ds.length = true ∧ Q (.loc m.length) (m ++ [.lst ds])) := blt_list rfl
theorem rev_tup {ds : List D} : (revD (.tup ds) m).to Q = Q (.tup ds.reverse) m := (rfl)
theorem sl_str {z : Str} {lo hi : Option Int} : (slD (.str z) lo hi m).to Q = (szOk z.length = true ∧ Q (.str (L2.cutS z lo hi)) m) := by
  simp only [slD]; split <;> simp [*]
theorem rev_str {z : Str} : (revD (.str z) m).to Q = (szOk z.length = true ∧ Q (.str ⟨z.cps.toList.reverse.toArray⟩) m) := by
  simp only [revD]; split <;> simp [*]
theorem blt_lenS {z : Str} : (bltD .len [.str z] m).to Q = (szOk z.length = true ∧ Q (.int z.length) m) := by
  simp only [bltD]; split <;> simp [*]
theorem blt_strI {i : Int} : (bltD .str [.int i] m).to Q = (txtOk i = true ∧ Q (.str (toString i)) m) := by
  simp only [bltD]; split <;> simp [*]
theorem atI_natT {ds : List D} {i : Nat} : L2.atI ds (i : Int) = ds[i]? := atI_nat
theorem pick {l i : Nat} {ds : List D} (h : m[l]? = some (.lst ds)) (hi : i < ds.length) (q : ∀ d ∈ ds, Q d m) : ∃ d, idxI (.loc l) (.int i) m = some d ∧ Q d m := by
  refine ⟨ds[i], ?_, q _ (List.getElem_mem hi)⟩
  rw [idx_loc (listAt_lst h), atI_nat, List.getElem?_eq_getElem hi]
end
end Mn
end

section
namespace Mn
open PySem
variable {A : Nat → Prop}
/-- a block without its first rows -/
def CSs.dr : Nat → CSs → CSs
  | 0, t => t
  | n + 1, .cons _ t => t.dr n
  | _ + 1, .nil => .nil
@[simp] theorem dr_0 {t : CSs} : t.dr 0 = t := by cases t <;> rfl
@[simp] theorem dr_s {n : Nat} {s : CS} {t : CSs} : (CSs.cons s t).dr (n + 1) = t.dr n := (rfl)
theorem br_s {b : Bool} {p q : Prop} (h1 : b = true → p) (h2 : q) : Br b p q := ⟨h1, fun _ => h2⟩
theorem cps_append (x y : Str) : (x ++ y).cps.toList = x.cps.toList ++ y.cps.toList := by
  show (x.cps ++ y.cps).toList = _
  simp
theorem str_len (x : Str) : x.length = x.cps.toList.length := by show x.cps.size = _; simp
def Asc (x : Str) : Prop := ∀ c ∈ x.cps.toList, c < 128
theorem Asc.append {x y : Str} (h : Asc x) (g : Asc y) : Asc (x ++ y) := by
  intro c hc
  rw [cps_append] at hc
  rcases List.mem_append.mp hc with hc | hc
  · exact h c hc
  · exact g c hc
theorem Asc.cut {x : Str} (h : Asc x) (lo hi : Option Int) : Asc (L2.cutS x lo hi) := by
  intro c hc
  unfold L2.cutS at hc
  rw [List.toList_toArray] at hc
  exact h c (List.mem_of_mem_drop (List.mem_of_mem_take hc))
theorem cut_slen (x : Str) (lo hi : Option Int) : (L2.cutS x lo hi).length ≤ x.length := by
  rw [str_len, str_len]
  unfold L2.cutS
  rw [List.toList_toArray, List.length_take, List.length_drop]
  omega
theorem Asc.rev {x : Str} (h : Asc x) : Asc ⟨x.cps.toList.reverse.toArray⟩ := by
  intro c hc
  rw [List.toList_toArray, List.mem_reverse] at hc
  exact h c hc
theorem rev_slen (x : Str) : (⟨x.cps.toList.reverse.toArray⟩ : Str).length = x.length := by
  rw [str_len, str_len, List.toList_toArray, List.length_reverse]
theorem Asc.upper {x : Str} (h : Asc x) : Asc (PySem.Txt.upper x) := by
  rw [PyProof.Rows.upper_ascii h]
  intro c hc
  have : c ∈ x.cps.toList.map PyProof.Rows.up1 := by simpa using hc
  obtain ⟨d, hd, rfl⟩ := List.mem_map.mp this
  have := h d hd
  unfold PyProof.Rows.up1
  split <;> omega
theorem upper_slen {x : Str} (h : Asc x) : (PySem.Txt.upper x).length = x.length := by
  rw [PyProof.Rows.upper_ascii h]
  show (x.cps.map _).size = x.cps.size
  simp
theorem app_slen (x y : Str) : (x ++ y).length = x.length + y.length := by
  rw [str_len, str_len, str_len, cps_append, List.length_append]
theorem asc_int (i : Int) : Asc ((toString i : String) : Str) := by
  intro c hc
  by_cases h : c < 128
  · exact h
  · exact absurd hc (PyProof.Rows.int_text_free' c ⟨by omega, by omega⟩ i)
theorem int_slen {i : Int} (h : Bd 1900 i) : ((toString i : String) : Str).length ≤ 600 := (sw_int h).2.2
namespace K78
variable {wf n : Nat} {m : Mu} {Q : D → Mu → Prop}
theorem feed_kls {f B : Nat} {m m' : Mu} (hf : Feed f B m) (k : Kp (· = f) m m') : KLs A m m' := k.lst fun l _ hl ds e => by
  subst hl; exact hf.ne e rfl
theorem bent_rest {b : Nat} {i : Int} (hb : 7 ≤ b) : Th A b 0 600 m (.int 0) := th_int (Bd.mono (b := 7) (by unfold Bd; decide) hb)
end K78
end Mn
end

section
namespace Mn
open PySem
variable {A : Nat → Prop}
theorem cmp_isN {d : D} {m : Mu} : cmpD .is d .non m = some (match d with | .non => true | _ => false) := by cases d <;> rfl
section
variable {b k W : Nat} {m : Mu} {i j : Int}
theorem ti (hi : i.natAbs < 128) (hb : 7 ≤ b) : Th A b k 600 m (.int i) := th_int (Bd.mono (b := 7) hi hb)
theorem tf (hi : i.natAbs < 128) (hj : j.natAbs < 128) (hb : 7 ≤ b) : Th A b (k + 1) 1207 m (.tup [.int i, .int j]) := th_tup (ths_cons (ti hi hb) (ths_one (ti hj hb)))
theorem ts {s : Str} (h : s.cps.toList.all (· < 128) = true) (hl : s.length ≤ 1) : Th A b k 20 m (.str s) := th_str (fun c hc => by simpa using List.all_eq_true.mp h c hc) (by omega)
theorem te : Th A b (k + 1) 3 m (.tup []) := th_tup ths_nil
end
theorem kls_kp {m m' : Mu} (h : Kp nox m m') : KLs A m m' := h.lst fun _ _ z => z.elim
namespace K78
variable {wf n : Nat} {m : Mu} {Q : D → Mu → Prop}
end K78
end Mn
end

section
namespace Mn
open PySem
variable {A : Nat → Prop}
def alph : Str := "abcdefghijklmnopqrstuvwxyz PS"
theorem alph_at {i : Nat} (h : i < 29) : ∃ c, c < 128 ∧ ∀ m : Mu, idxI (.str alph) (.int (i : Int)) m = some (.str ⟨#[c]⟩) := by
  have hl : alph.length = 29 := by decide +kernel
  have hc : alph.cps.toList.length = 29 := by rw [← str_len, hl]
  refine ⟨alph.cps.toList[i], ?_, fun m => ?_⟩
  · have : ∀ c ∈ alph.cps.toList, c < 128 := by decide +kernel
    exact this _ (List.getElem_mem _)
  · show (if szOk alph.length then (L2.atI alph.cps.toList (i : Int)).map fun c => D.str ⟨#[c]⟩ else none) = _
    rw [if_pos (by rw [hl]; exact sz_ok (by omega)), atI_nat, List.getElem?_eq_getElem (by omega)]
    rfl
theorem asc_one {c : Nat} (h : c < 128) : Asc ⟨#[c]⟩ := by
  intro d hd
  simp at hd
  omega
namespace K78
variable {wf n : Nat} {m : Mu} {Q : D → Mu → Prop}
end K78
end Mn
end

section
namespace Mn
open PySem
theorem cv_shift {p : List Rat} : ∀ {k i : Nat}, cv p [0, 0, 1] k i = if 2 ≤ i ∧ i - 2 < k then p.getD (i - 2) 0 else 0
  | 0, i => by simp [cv]
  | k + 1, i => by
    unfold cv
    rw [cv_shift]
    have e : (if k ≤ i then p.getD k 0 * [0, 0, 1].getD (i - k) 0 else 0) = if i = k + 2 then p.getD k 0 else (0 : Rat) := by
      by_cases h : k ≤ i
      · rw [if_pos h]
        by_cases h2 : i = k + 2
        · subst h2
          rw [if_pos rfl, Nat.add_sub_cancel_left]
          show _ * (1 : Rat) = _
          rw [Rat.mul_one]
        · rw [if_neg h2]
          have : [0, 0, 1].getD (i - k) (0 : Rat) = 0 := by
            match hh : i - k, (show i - k ≠ 2 by omega) with
            | 0, _ => rfl
            | 1, _ => rfl
            | n + 3, _ => rfl
          rw [this, Rat.mul_zero]
      · rw [if_neg h, if_neg (by omega)]
    rw [e]
    by_cases h : i = k + 2
    · subst h
      rw [if_neg (by omega), if_pos rfl, if_pos ⟨by omega, by omega⟩, Rat.zero_add]
      rfl
    · rw [if_neg h, Rat.add_zero]
      by_cases h2 : 2 ≤ i ∧ i - 2 < k
      · rw [if_pos h2, if_pos ⟨h2.1, by omega⟩]
      · rw [if_neg h2, if_neg (by omega)]
theorem mulC_len2 {p q : List Rat} : (mulC p q).length ≤ p.length + q.length - 1 := by
  unfold mulC
  split
  · simp
  · refine Nat.le_trans (trim_len _) ?_
    unfold mulQ; simp
namespace K78
theorem shift_pl {p : List Rat} {b L : Nat} (h : Pl b L p) (hb : 1 ≤ b) : Pl b (L + 2) (mulC p [0, 0, 1]) := by
  refine ⟨?_, ?_, can_mulC _ _⟩
  · have := mulC_len2 (p := p) (q := [0, 0, 1])
    have := h.1
    simp at *
    omega
  · intro r hr
    unfold mulC at hr
    split at hr
    · cases hr
    · have hr := trim_mem hr
      unfold mulQ at hr
      obtain ⟨i, _, rfl⟩ := List.mem_map.mp hr
      rw [cv_shift]
      split
      · exact getD_bq h.2.1 hb
      · exact bq0 hb
variable {wf n : Nat} {m : Mu} {Q : D → Mu → Prop} {A : Nat → Prop}
/-- a poly is a thing -/
theorem th_fr {b k : Nat} {q : Rat} (h : Bq b q) : Th A b (k + 1) 1207 m (fr q) := th_tup (ths_cons (th_int h.1) (ths_one (th_int h.2)))
theorem ths_frs {b k : Nat} : ∀ {p : List Rat}, (∀ q ∈ p, Bq b q) → Ths A b (k + 1) (1209 * p.length) m (p.map fr)
  | [], _ => ths_nil
  | q :: p, h => (ths_cons (th_fr (h q (by simp))) (ths_frs fun r hr => h r (by simp [hr]))).mono (Nat.le_refl _) (Nat.le_refl _) (by simp only [List.length_cons]; omega)
theorem th_pD {b k L : Nat} {p : List Rat} (h : Pl b L p) : Th A b (k + 2) (1209 * L + 3) m (pD p) :=
  (th_tup (ths_frs h.2.1)).mono (Nat.le_refl _) (Nat.le_refl _) (by have := h.1; have := Nat.mul_le_mul_left 1209 this; omega)
/-- repr of a thing -/
theorem th_repr {b k W : Nat} {d : D} (h : Th A b k W m d) (hb : b ≤ 1900) (hk : k ≤ 50) (hW : W ≤ 1000000) : ∃ x, TR A m k d x ∧ good b x ∧ ∀ {m' : Mu} {Q : D → Mu → Prop}, TR A m' k d x → (bltD .repr [d] m').to Q = Q (.str x.shown) m' := by
  obtain ⟨x, h1, h2, h3⟩ := h
  refine ⟨x, h1, h2, fun t => ?_⟩
  have g := good_sw hb x h2
  exact blt_repr t.rf ⟨g.1, g.2, Nat.le_trans (shown_msr hb x h2) h3⟩ ((t.shp h2).mono (by omega)) (by omega) hW
theorem repr_bl {v : Bool} : (bltD .repr [.bl v] m).to Q = Q (.str (PyData.bool v).shown) m :=
  blt_repr (W := 5) rf_bl ⟨rfl, rfl, by cases v <;> decide⟩ (shp_bl.mono (by omega)) (by omega) (by omega)
end K78
end Mn
end

section
namespace Mn
open PySem
theorem kls_set {t : Nat} {m : Mu} {c : Cell} : KLs (· ≠ t) m (m.set t c) := fun l ds a e => by
  rw [List.getElem?_set_ne (Ne.symm a)]; exact e
namespace K78
variable {wf n : Nat} {m : Mu} {Q : D → Mu → Prop} {A : Nat → Prop}
theorem Th.len {b k W : Nat} {ds : List D} (h : Th A b k W m (.tup ds)) : 2 * ds.length ≤ W := by
  obtain ⟨j, V, _, h2, h3⟩ := h.untup
  have := h3.len
  omega
end K78
end Mn
end

section
namespace Mn
open PySem
namespace K78
variable {wf n : Nat} {m : Mu} {Q : D → Mu → Prop} {A : Nat → Prop}
theorem sh_pD : D.tup [D.tup [D.int 0, D.int 1], D.tup [D.int 0, D.int 1], D.tup [D.int 1, D.int 1]] = pD [0, 0, 1] := rfl
theorem ths_rep {b k W : Nat} {d : D} (h : Th A b k W m d) : ∀ n : Nat, Ths A b k (n * (W + 2)) m (repD n [d])
  | 0 => by simpa [repD] using ths_nil
  | n + 1 => by
    have e : repD ((n + 1 : Nat) : Int) [d] = d :: repD (n : Int) [d] := by
      unfold repD
      rw [show (((n + 1 : Nat) : Int)).toNat = n + 1 by omega, show ((n : Nat) : Int).toNat = n by omega, List.replicate_succ]
      rfl
    rw [e]
    exact (ths_cons h (ths_rep h n)).mono (Nat.le_refl _) (Nat.le_refl _) (by rw [Nat.succ_mul]; omega)
end K78
end Mn
end

section
namespace Mn
open PySem
abbrev noA : Nat → Prop := fun _ => False
mutual
def toP : D → PyData
  | .non => .none
  | .bl b => .bool b
  | .int i => .int i
  | .str s => .str s
  | .tup ds => .tuple (toPs ds)
  | .loc _ => .none
def toPs : List D → List PyData
  | [] => []
  | d :: ds => toP d :: toPs ds
end
mutual
theorem TR.toP {m : Mu} : ∀ {k : Nat} {d : D} {x : PyData}, TR noA m k d x → x = Mn.toP d
  | _, _, _, .non => by simp only [Mn.toP]
  | _, _, _, .bl => by simp only [Mn.toP]
  | _, _, _, .int => by simp only [Mn.toP]
  | _, _, _, .str => by simp only [Mn.toP]
  | _, _, _, .tup h => by simp only [Mn.toP]; rw [TRs.toPs h]
  | _, _, _, .lst _ _ a => a.elim
theorem TRs.toPs {m : Mu} : ∀ {k : Nat} {ds : List D} {xs : List PyData}, TRs noA m k ds xs → xs = Mn.toPs ds
  | _, _, _, .nil => by simp only [Mn.toPs]
  | _, _, _, .cons h t => by simp only [Mn.toPs]; rw [TR.toP h, TRs.toPs t]
end
theorem KLs.no {m m' : Mu} : KLs noA m m' := fun _ _ a => a.elim
theorem rep_val {b k W : Nat} {m m' : Mu} {d : D} {Q : D → Mu → Prop} (h : Th noA b k W m d) (hb : b ≤ 1900) (hk : k ≤ 50) (hW : W ≤ 1000000) : (bltD .repr [d] m').to Q = Q (.str (toP d).shown) m' := by
  obtain ⟨x, h1, h2, h3⟩ := h
  have e := h1.toP
  subst e
  have g := good_sw hb _ h2
  exact blt_repr (h1.keep (m' := m') KLs.no).rf ⟨g.1, g.2, Nat.le_trans (shown_msr hb _ h2) h3⟩ ((h1.shp h2).mono (by omega)) (by omega) hW
theorem rep_lst {b k W l : Nat} {m m' : Mu} {ds : List D} {Q : D → Mu → Prop} (hl : m'[l]? = some (.lst ds)) (h : Ths noA b k W m ds) (hb : b ≤ 1900) (hk : k ≤ 50) (hW : W ≤ 900000) : (bltD .repr [.loc l] m').to Q = Q (.str (PyData.list (toPs ds)).shown) m' := by
  obtain ⟨x, h1, h2, h3⟩ := h
  have e := h1.toPs
  subst e
  have g : good b (.list (toPs ds)) := by simpa only [good] using h2
  have g2 := good_sw hb _ g
  exact blt_repr (rf_lst (listAt_lst hl) (h1.keep (m' := m') KLs.no).rfl) ⟨g2.1, g2.2, Nat.le_trans (shown_msr hb _ g) (by simp only [msr]; omega)⟩ ((shp_lst (h1.shp h2)).mono (by omega)) (by omega) (by omega : W + 3 ≤ 1000000)
theorem ths_map {α : Type} {A : Nat → Prop} {b k W : Nat} {m : Mu} {f : α → D} : ∀ {l : List α}, (∀ a ∈ l, Th A b k W m (f a)) → Ths A b k ((W + 2) * l.length) m (l.map f)
  | [], _ => ths_nil
  | a :: l, h => (ths_cons (h a (by simp)) (ths_map fun c hc => h c (by simp [hc]))).mono (Nat.le_refl _) (Nat.le_refl _) (by simp only [List.length_cons]; rw [Nat.mul_succ]; omega)
namespace K78
variable {wf n : Nat} {m : Mu} {Q : D → Mu → Prop} {A : Nat → Prop}
/-- a row, a table -/
def rD (r : List (List Rat)) : D := .tup (r.map pD)
def tD (w : Nat) (R : List (List (List Rat))) : D := .tup [.int w, .tup (R.map rD)]
/-- polys of a table: bits, length, parts -/
def Tb (b L w h : Nat) (R : List (List (List Rat))) : Prop := R.length ≤ h ∧ ∀ r ∈ R, r.length = w ∧ ∀ p ∈ r, Pl b L p
theorem th_rD {b L w : Nat} {r : List (List Rat)} (hl : r.length = w) (h : ∀ p ∈ r, Pl b L p) : Th A b 3 ((1209 * L + 5) * w + 3) m (rD r) := by
  have := th_tup (ths_map (A := A) (m := m) fun p hp => th_pD (k := 0) (h p hp))
  rw [hl] at this
  exact this
theorem th_tD {b L w h : Nat} {R : List (List (List Rat))} (hR : Tb b L w h R) (hw : Bd b w) : Th A b 5 (((1209 * L + 5) * w + 3 + 2) * h + 700) m (tD w R) := by
  have t := th_tup (ths_map (A := A) (m := m) fun r hr => th_rD (hR.2 r hr).1 (hR.2 r hr).2)
  have hl := Nat.mul_le_mul_left ((1209 * L + 5) * w + 3 + 2) hR.1
  exact (th_tup (ths_cons (th_int hw) (ths_one t))).mono (Nat.le_refl _) (by omega) (by omega)
def unitR (N : Nat) : List (List (List Rat)) := (List.range N).map fun i => (List.range N).map fun j => if j = i then [1] else []
theorem th_unit {b N : Nat} (hb : 7 ≤ b) (hN : N ≤ 60) : Th A b 5 (N * (1217 + 7 * N) + 700) m (tD N (unitR N)) := by
  have hrow : ∀ i : Nat, ∀ l : List Nat, l.Nodup → Ths A b 2 (5 * l.length + 1215) m (l.map fun j => pD (if j = i then [1] else [])) := by
    intro i l
    induction l with
    | nil => intro _; exact ths_nil.mono (Nat.le_refl _) (Nat.le_refl _) (by omega)
    | cons j l ih =>
      intro hd
      have hd := List.nodup_cons.mp hd
      by_cases hji : j = i
      · have h0 : ∀ l : List Nat, i ∉ l → Ths A b 2 (5 * l.length) m (l.map fun j => pD (if j = i then [1] else [])) := by
          intro l
          induction l with
          | nil => intro _; exact ths_nil
          | cons k l ih2 =>
            intro hk
            have hk2 : k ≠ i := fun e => hk (by simp [e])
            have h3 := ih2 fun z => hk (by simp [z])
            simp only [List.map_cons, if_neg hk2]
            exact (ths_cons (te (k := 1)) h3).mono (Nat.le_refl _) (Nat.le_refl _) (by simp only [List.length_cons]; omega)
        have h1 := h0 l (hji ▸ hd.1)
        simp only [List.map_cons, if_pos hji]
        have h2 : Th A b 2 1212 m (pD [1]) := (th_tup (ths_one (tf (k := 0) (i := 1) (j := 1) (by decide) (by decide) hb)))
        exact (ths_cons h2 h1).mono (Nat.le_refl _) (Nat.le_refl _) (by simp only [List.length_cons]; omega)
      · simp only [List.map_cons, if_neg hji]
        exact (ths_cons (te (k := 1)) (ih hd.2)).mono (Nat.le_refl _) (Nat.le_refl _) (by simp only [List.length_cons]; omega)
  have hr : Ths A b 3 ((5 * N + 1218 + 2) * N) m ((unitR N).map rD) := by
    unfold unitR
    rw [List.map_map]
    have := ths_map (A := A) (m := m) (l := List.range N) (f := fun i => rD ((List.range N).map fun j => if j = i then [1] else [])) (b := b) (k := 3) (W := 5 * N + 1218) fun i _ => by
      have h := th_tup (hrow i (List.range N) List.nodup_range)
      rw [List.length_range] at h
      unfold rD
      rw [List.map_map]
      exact h.mono (Nat.le_refl _) (Nat.le_refl _) (by omega)
    rwa [List.length_range] at this
  have hN' : Bd b (N : Int) := Bd.mono (b := 7) (by unfold Bd; rw [show (2 : Nat) ^ 7 = 128 by decide]; omega) hb
  refine (th_tup (ths_cons (th_int hN') (ths_one (th_tup hr)))).mono (Nat.le_refl _) (by omega) ?_
  have : (5 * N + 1218 + 2) * N ≤ N * (1217 + 7 * N) + 60 := by
    rw [Nat.mul_comm]
    by_cases h0 : N = 0
    · subst h0; simp
    · have : N * (5 * N + 1218 + 2) ≤ N * (1217 + 7 * N) + 60 := by
        rcases Nat.lt_or_ge N 2 with h | h
        · have : N = 1 := by omega
          subst this; decide
        · have := Nat.mul_le_mul_left N (show 5 * N + 1218 + 2 ≤ 1217 + 7 * N by omega)
          omega
      exact this
  omega
theorem Tb.unit (N b : Nat) (hb : 1 ≤ b) : Tb b 1 N N (unitR N) := by
  refine ⟨by simp [unitR], fun r hr => ?_⟩
  obtain ⟨i, hi, rfl⟩ := List.mem_map.mp hr
  refine ⟨by simp, fun p hp => ?_⟩
  obtain ⟨j, hj, rfl⟩ := List.mem_map.mp hp
  split
  · exact ⟨by simp, fun r hr => by rw [List.mem_singleton.mp hr]; exact Bq.mono (b := 1) ⟨by unfold Bd; decide, by unfold Bd; decide⟩ hb, by simp [Can]⟩
  · exact ⟨by simp, fun r hr => (List.not_mem_nil hr).elim, by simp [Can]⟩
end K78
end Mn
end

section
namespace Mn
open PySem
namespace K78
variable {wf n : Nat} {m : Mu} {Q : D → Mu → Prop} {A : Nat → Prop}
theorem law_unit_ok (hn : 1 ≤ n) {N : Nat} (hN : N ≤ 60) (k : ∀ m', Kp nox m m' → Q (tD N (unitR N)) m') : (callN Pr wf n f__law_unit [.int N] m).to Q := by
  refine call_of (fn := p__law_unit) rfl rfl (by omega) fun k' hk => ?_
  have hb := bound_ok (show N ≤ 1000000 by omega)
  simp [p__law_unit, to_newL, s_forE, hb]
  refine forApp m.length (rngD N) [] (fun i => rD ((List.range N).map fun j => if j = i then [1] else [])) (fun σ => ∃ y z, σ = [some (.int N), some (.loc m.length), y, z]) (by simp [rngD]) at_new ⟨_, _, rfl⟩ (fun m' _ => gives_rng _ _) ?_ ?_
  · rintro i d σ' m' Ys v S' hd ⟨y, z, rfl⟩ k1 hm hY hv hS
    obtain ⟨hi, rfl⟩ := rngD_at hd
    refine ⟨[some (.int N), some (.loc m.length), some (.int i), z], rfl, ?_⟩
    simp [b__law_unit_1]
    refine ⟨isL_end hm .refl, ?_⟩
    refine ev_compM (List.range N) (fun j : Nat => .int (j : Int)) (fun j : Nat => pD (if j = i then [1] else [])) (by simp; omega) ?_ ?_ ?_
    · simp [hb]
      exact ⟨.refl, fun m2 _ => gives_rng _ _⟩
    · intro j m2 hj k2
      refine ⟨[some (.int N), some (.loc m.length), some (.int i), some (.int j)], rfl, ?_⟩
      simp
      by_cases h : j = i
      · subst h; simp; exact ⟨rfl, .refl⟩
      · have : ¬ (j : Int) = i := by omega
        simp [h, this]; exact ⟨rfl, .refl⟩
    · intro l m2 k2 hl2 hm2
      rw [blt_tupL (listAt_lst hm2)]
      refine ⟨by simp; omega, ?_⟩
      have e : (.tup (List.map (fun j : Nat => pD (if j = i then [1] else [])) (List.range N)) : D) = rD ((List.range N).map fun j => if j = i then [1] else []) := by unfold rD; rw [List.map_map]; rfl
      rw [e]
      exact app_end hm k2 (by simp at hY; omega) hv (hS _ ⟨_, _, rfl⟩)
  · rintro σ' m' ⟨y, z, rfl⟩ k1 hm
    simp
    rw [blt_tupL (listAt_lst hm)]
    refine ⟨by simp [rngD]; omega, ?_⟩
    have e : ([] ++ List.map (fun i => rD (List.map (fun j => if j = i then [1] else []) (List.range N))) (List.range (rngD N).length)) = (unitR N).map rD := by unfold unitR; rw [List.map_map]; simp [rngD]
    rw [e]
    exact k m' k1.cell
def Pl1 : Prop := True
theorem pl_mul {b L M : Nat} {p q : List Rat} (hp : Pl b L p) (hq : Pl b M q) (h1 : 1 ≤ b) : Pl (1 + L * (b + b + 1)) (L + M - 1) (mulC p q) := by
  refine ⟨?_, fun r hr => (mulC_bq hp.2.1 hq.2.1 h1 r hr).mono ?_, can_mulC _ _⟩
  · have := mulC_len2 (p := p) (q := q)
    have := hp.1; have := hq.1
    omega
  · have := Nat.mul_le_mul_right (b + b + 1) hp.1
    omega
theorem pl_add {b L M : Nat} {p q : List Rat} (hp : Pl b L p) (hq : Pl b M q) (h1 : 1 ≤ b) : Pl (b + b + 1) (max L M) (trim (addQ p q)) := by
  refine ⟨?_, addQ_bq hp.2.1 hq.2.1 h1, can_trim _⟩
  have := addQ_len p q
  have := hp.1; have := hq.1
  omega
theorem pl_nil {b L : Nat} : Pl b L [] := ⟨Nat.zero_le _, fun r hr => (List.not_mem_nil hr).elim, by simp [Can]⟩
def dotF (c : Nat) (acc : List Rat) (zs : List (List Rat × List (List Rat))) : List Rat := zs.foldl (fun acc pb => trim (addQ acc (mulC pb.1 (pb.2.getD c [])))) acc
theorem dotF_snoc (c : Nat) (acc : List Rat) (zs : List (List Rat × List (List Rat))) (z : List Rat × List (List Rat)) : dotF c acc (zs ++ [z]) = trim (addQ (dotF c acc zs) (mulC z.1 (z.2.getD c []))) := by
  simp [dotF]
/-- bits of a sum of products -/
def dB (b L i : Nat) : Nat := (1 + L * (b + b + 1) + 1) * 2 ^ i
theorem dB_mono {b L i j : Nat} (h : i ≤ j) : dB b L i ≤ dB b L j := Nat.mul_le_mul_left _ (Nat.pow_le_pow_right (by decide) h)
theorem dB_s {b L i : Nat} : dB b L (i + 1) = dB b L i + dB b L i := by unfold dB; rw [Nat.pow_succ, ← Nat.mul_assoc]; omega
theorem dB_0 {b L : Nat} : dB b L 0 = 1 + L * (b + b + 1) + 1 := by simp [dB]
def ZOk (b L c : Nat) (zs : List (List Rat × List (List Rat))) : Prop := ∀ z ∈ zs, Pl b L z.1 ∧ Pl b L (z.2.getD c []) ∧ c < z.2.length
theorem dot_pl {b L c : Nat} (h1 : 1 ≤ b) (hL : 1 ≤ L) : ∀ (k : Nat) {zs : List (List Rat × List (List Rat))}, zs.length = k → ZOk b L c zs → Pl (dB b L k - 1) (2 * L - 1) (dotF c [] zs)
  | 0, zs, hk, _ => by
    have : zs = [] := List.length_eq_zero_iff.mp hk
    subst this
    exact pl_nil
  | k + 1, zs, hk, hz => by
    obtain ⟨ys, z, rfl⟩ : ∃ ys z, zs = ys ++ [z] := ⟨zs.dropLast, zs.getLast (by rintro rfl; simp at hk), (List.dropLast_concat_getLast _).symm⟩
    rw [dotF_snoc]
    have hk : ys.length = k := by simpa using hk
    have ih := dot_pl h1 hL k hk fun y hy => hz y (by simp [hy])
    have zz := hz z (by simp)
    have hm := pl_mul zz.1 zz.2.1 h1
    have g0 : dB b L 0 ≤ dB b L k := dB_mono (Nat.zero_le _)
    rw [dB_0] at g0
    have := pl_add (ih.mono (c := dB b L k - 1) (M := 2 * L - 1) (Nat.le_refl _) (Nat.le_refl _)) (hm.mono (c := dB b L k - 1) (M := 2 * L - 1) (by omega) (by omega)) (by omega)
    refine this.mono (by rw [dB_s]; omega) (by omega)
@[simp] theorem srcOf_rD {r : List (List Rat)} : srcOf (rD r) m = some (.st (r.map pD), r.length) := by unfold rD; rw [srcOf_tup, List.length_map]
theorem idx_rD {r : List (List Rat)} {c : Nat} (h : c < r.length) : idxI (rD r) (.int (c : Int)) m = some (pD (r.getD c [])) := by
  show L2.atI (r.map pD) (c : Int) = _
  rw [atI_nat, List.getElem?_map, List.getElem?_eq_getElem h, List.getD_eq_getElem?_getD, List.getElem?_eq_getElem h]; rfl
theorem dot_loop (hw : Fu wf) (hn : 5 ≤ n) {b L N c : Nat} {row : List (List Rat)} {R2 : List (List (List Rat))} {x0 x1 x2 x3 x4 x7 x8 : Option D} {Q : Sl ⊕ D → Mu → Prop} (h1 : 1 ≤ b) (hL : 1 ≤ L) (hN : (row.zip R2).length ≤ N + 1) (hz : ZOk b L c (row.zip R2))
    (hB : 2 + (2 * L - 1 + (2 * L - 1)) * dB b L N ≤ 4000) (hB2 : 2 + (L + L) * b ≤ 4000) (hL2 : L ≤ 100)
    (k : ∀ y z m', Kp nox m m' → Q (.inl [x0, x1, x2, x3, x4, some (.int c), some (pD (dotF c [] (row.zip R2))), y, z]) m') :
    FT (callN Pr wf n) wf [7, 8] b_ptimes_1 (.zip (.st (row.map pD)) (.st (R2.map rD))) (min row.length R2.length) [x0, x1, x2, x3, x4, some (.int c), some (.tup []), x7, x8] m Q := by
  obtain ⟨I, hI⟩ : ∃ I : Nat → Sl → Mu → Prop, I = (fun i σ m' => Kp nox m m' ∧ ∃ y z, σ = [x0, x1, x2, x3, x4, some (.int c), some (pD (dotF c [] ((row.zip R2).take i))), y, z]) := ⟨_, rfl⟩
  refine ft_of (((row.map pD).zip (R2.map rD)).map fun p => .tup [p.1, p.2]) I (by simp) (by rw [hI]; exact ⟨.refl, _, _, rfl⟩) (fun _ _ m _ => gives_zip _ _ m) ?_ ?_
  · intro i d σ m' hd h
    rw [hI] at h
    obtain ⟨k1, y, z, rfl⟩ := h
    have hd2 : ∃ p r, (row.zip R2)[i]? = some (p, r) ∧ d = .tup [pD p, rD r] := by
      rw [List.getElem?_map] at hd
      cases e : ((row.map pD).zip (R2.map rD))[i]? with
      | none => rw [e] at hd; cases hd
      | some pr =>
        rw [e] at hd; cases hd
        rw [List.getElem?_zip_eq_some] at e
        simp only [List.getElem?_map, Option.map_eq_some_iff] at e
        obtain ⟨⟨p, hp, e1⟩, r, hr, e2⟩ := e
        exact ⟨p, r, List.getElem?_zip_eq_some.mpr ⟨hp, hr⟩, by rw [e1, e2]⟩
    obtain ⟨p, r, hpr, rfl⟩ := hd2
    have zz := hz _ (List.mem_of_getElem? hpr)
    have z1 : Pl b L p := zz.1
    have z2 : Pl b L (r.getD c []) := zz.2.1
    have z3 : c < r.length := zz.2.2
    have hi := (List.getElem?_eq_some_iff.mp hpr).1
    refine ⟨[x0, x1, x2, x3, x4, some (.int c), some (pD (dotF c [] ((row.zip R2).take i))), some (pD p), some (rD r)], rfl, ?_⟩
    have ap := dot_pl (c := c) h1 hL i (zs := (row.zip R2).take i) (by rw [List.length_take]; omega) fun q hq => hz q (List.mem_of_mem_take hq)
    have g1 : dB b L i ≤ dB b L N := dB_mono (by omega)
    have g0 : dB b L 0 ≤ dB b L N := dB_mono (Nat.zero_le _)
    rw [dB_0] at g0
    have mp := pl_mul z1 z2 h1
    have ap' : Pl (dB b L N) (2 * L - 1) (dotF c [] ((row.zip R2).take i)) := ap.mono (by omega) (Nat.le_refl _)
    have mp' : Pl (dB b L N) (2 * L - 1) (mulC p (r.getD c [])) := mp.mono (by omega) (by omega)
    have l1 := z1.1
    have l2 := z2.1
    have l3 := ap'.1
    have l4 := mp'.1
    have e1 : (p.length + (r.getD c []).length) * b ≤ (L + L) * b := Nat.mul_le_mul_right _ (by omega)
    have e2 : ((dotF c [] ((row.zip R2).take i)).length + (mulC p (r.getD c [])).length) * dB b L N ≤ (2 * L - 1 + (2 * L - 1)) * dB b L N := Nat.mul_le_mul_right _ (by omega)
    simp [b_ptimes_1]
    refine ⟨_, idx_rD z3, ?_⟩
    refine poly_times_ok hw (by omega) z1.2.1 z2.2.1 (by omega) (by omega) (by omega) fun m2 k2 => ?_
    refine poly_sum_ok hw (by omega) ap'.2.1 mp'.2.1 ap'.2.2 mp'.2.2 (by omega) (by omega) (by omega) fun m3 k3 => ?_
    rw [hI]
    have e9 : dotF c [] ((row.zip R2).take (i + 1)) = trim (addQ (dotF c [] ((row.zip R2).take i)) (mulC p (r.getD c []))) := by
      rw [List.take_add_one, hpr]
      simp only [Option.toList_some, dotF_snoc]
    exact ⟨(k1.trans k2).trans k3, some (pD p), some (rD r), by rw [e9]⟩
  · intro σ m' h
    rw [hI] at h
    obtain ⟨k1, y, z, rfl⟩ := h
    have e : ((row.zip R2).take (List.map (fun p : D × D => D.tup [p.1, p.2]) ((row.map pD).zip (R2.map rD))).length) = row.zip R2 := List.take_of_length_le (by simp)
    rw [e]
    exact k y z m' k1
end K78
end Mn
end

section
namespace Mn
open PySem
namespace K78
variable {wf n : Nat} {m : Mu} {Q : D → Mu → Prop} {A : Nat → Prop}
/-- one table times another one -/
def tmul (R R2 : List (List (List Rat))) (w : Nat) : List (List (List Rat)) := R.map fun row => (List.range w).map fun c => dotF c [] (row.zip R2)
theorem zok_of {b L w w2 h h2 : Nat} {R R2 : List (List (List Rat))} {row : List (List Rat)} {c : Nat} (hR : Tb b L w h R) (h2 : Tb b L w2 h2 R2) (hr : row ∈ R) (hc : c < w2) : ZOk b L c (row.zip R2) := by
  intro z hz
  have a := List.of_mem_zip hz
  have r1 := hR.2 row hr
  have r2 := h2.2 z.2 a.2
  refine ⟨r1.2 _ a.1, ?_, by omega⟩
  rw [List.getD_eq_getElem?_getD, List.getElem?_eq_getElem (by omega)]
  exact r2.2 _ (List.getElem_mem _)
theorem atT0 {a b : D} : idxI (.tup [a, b]) (.int 0) m = some a := rfl
theorem atT1 {a b : D} : idxI (.tup [a, b]) (.int 1) m = some b := rfl
theorem map_at' {α : Type} {f : α → D} {p : List α} {i : Nat} {d : D} (h : (p.map f)[i]? = some d) : ∃ q, p[i]? = some q ∧ q ∈ p ∧ d = f q := by
  obtain ⟨q, h1, h2⟩ := map_at h
  exact ⟨q, h1, List.mem_of_getElem? h1, h2⟩
theorem rng_map {α : Type} [Inhabited α] {l : List α} {f : α → D} : (List.range l.length).map (fun i => f (l.getD i default)) = l.map f := by
  apply List.ext_getElem?
  intro i
  rw [List.getElem?_map, List.getElem?_map]
  by_cases h : i < l.length
  · rw [List.getElem?_range h, List.getElem?_eq_getElem h]
    simp [List.getD_eq_getElem?_getD, h]
  · rw [List.getElem?_eq_none (by simpa using h), List.getElem?_eq_none (by simpa using h)]
    rfl
theorem ptimes_ok (hw : Fu wf) (hn : 6 ≤ n) {b L N w w1 w2 h h2 : Nat} {R R2 : List (List (List Rat))} (h1 : 1 ≤ b) (hL : 1 ≤ L) (hR : Tb b L w h R) (hR2 : Tb b L w2 h2 R2) (hN : h2 ≤ N + 1) (hh : h ≤ 1000) (hw2 : w2 ≤ 1000)
    (hB : 2 + (2 * L - 1 + (2 * L - 1)) * dB b L N ≤ 4000) (hB2 : 2 + (L + L) * b ≤ 4000) (hL2 : L ≤ 100)
    (k : ∀ m', Kp nox m m' → Q (tD w2 (tmul R R2 w2)) m') : (callN Pr wf n f_ptimes [tD w1 R, tD w2 R2] m).to Q := by
  refine call_of (fn := p_ptimes) rfl rfl (by omega) fun k' hk => ?_
  simp only [tD]
  simp [p_ptimes, to_newL, s_forE]
  obtain ⟨S, hS⟩ : ∃ S : Sl → Prop, S = fun σ => ∃ y3 y4 y5 y6 y7 y8, σ = [some (tD w1 R), some (tD w2 R2), some (.loc m.length), y3, y4, y5, y6, y7, y8] := ⟨_, rfl⟩
  refine forApp m.length (R.map rD) [] (fun i => rD ((List.range w2).map fun c => dotF c [] ((R.getD i default).zip R2))) S (by simp) at_new (by rw [hS]; exact ⟨_, _, _, _, _, _, rfl⟩) (fun m' _ => gives_st _ _) ?_ ?_
  · intro i d σ' m' Ys v S' hd hs k1 hm hY hv hS'
    rw [hS] at hs
    obtain ⟨y3, y4, y5, y6, y7, y8, rfl⟩ := hs
    obtain ⟨row, hrow, hrm, rfl⟩ := map_at' hd
    have hb := bound_ok (show w2 ≤ 1000000 by omega)
    refine ⟨[some (tD w1 R), some (tD w2 R2), some (.loc m.length), some (rD row), y4, y5, y6, y7, y8], rfl, ?_⟩
    simp [b_ptimes_3, to_newL, s_forE, tD, hb]
    have m1 : m.length < m'.length := (List.getElem?_eq_some_iff.mp hm).1
    obtain ⟨S2, hS2⟩ : ∃ S : Sl → Prop, S = fun σ => ∃ y5 y6 y7 y8, σ = [some (tD w1 R), some (tD w2 R2), some (.loc m.length), some (rD row), some (.loc m'.length), y5, y6, y7, y8] := ⟨_, rfl⟩
    refine forApp m'.length (rngD w2) [] (fun c => pD (dotF c [] (row.zip R2))) S2 (by simp [rngD]) at_new (by rw [hS2]; exact ⟨_, _, _, _, rfl⟩) (fun m2 _ => gives_rng _ _) ?_ ?_
    · intro c d2 σ2 m2 Ys2 v2 S3 hd2 hs2 k2 hm2 hY2 hv2 hS3
      rw [hS2] at hs2
      obtain ⟨y5, y6, y7, y8, rfl⟩ := hs2
      obtain ⟨hc, rfl⟩ := rngD_at hd2
      refine ⟨[some (tD w1 R), some (tD w2 R2), some (.loc m.length), some (rD row), some (.loc m'.length), some (.int c), y6, y7, y8], rfl, ?_⟩
      simp [b_ptimes_2, s_forE, tD]
      have hz := zok_of hR hR2 hrm hc
      refine dot_loop hw (n := k') (by omega) (b := b) (L := L) (N := N) h1 hL ?_ hz hB hB2 hL2 fun y z m3 k3 => ?_
      · have := hR2.1
        rw [List.length_zip]; omega
      · simp
        refine ⟨isL_end hm2 k3, ?_⟩
        refine app_end hm2 k3 (by simp at hY2; omega) hv2 (hS3 _ ?_)
        rw [hS2]; exact ⟨_, _, _, _, rfl⟩
    · intro σ2 m2 hs2 k2 hm2
      rw [hS2] at hs2
      obtain ⟨y5, y6, y7, y8, rfl⟩ := hs2
      simp
      refine ⟨isL_end (hm) k2.cell, ?_⟩
      rw [blt_tupL (listAt_lst hm2)]
      refine ⟨by simp [rngD]; omega, ?_⟩
      refine app_end hm k2.cell (by have := hR.1; have := (List.getElem?_eq_some_iff.mp hrow).1; simp at hY; omega) ?_ (hS' _ ?_)
      · rw [hv]
        simp [rngD, rD, List.getD_eq_getElem?_getD, hrow]
      · rw [hS]; exact ⟨_, _, _, _, _, _, rfl⟩
  · intro σ' m' hs k1 hm
    rw [hS] at hs
    obtain ⟨y3, y4, y5, y6, y7, y8, rfl⟩ := hs
    simp [tD]
    rw [blt_tupL (listAt_lst hm)]
    refine ⟨by have := hR.1; simp; omega, ?_⟩
    have e : ([] ++ List.map (fun i => rD (List.map (fun c => dotF c [] ((R.getD i default).zip R2)) (List.range w2))) (List.range (R.map rD).length)) = (tmul R R2 w2).map rD := by
      unfold tmul
      rw [List.nil_append, List.length_map, List.map_map]
      exact rng_map (f := fun row : List (List Rat) => rD (List.map (fun c => dotF c [] (row.zip R2)) (List.range w2)))
    rw [e]
    exact k m' k1.cell
end K78
end Mn
end

section
namespace Mn
open PySem
namespace K78
variable {wf n : Nat} {m : Mu} {Q : D → Mu → Prop} {A : Nat → Prop}
theorem idx_tab {w : Nat} {R : List (List (List Rat))} {i : Nat} (h : i < R.length) : idxI (.tup (R.map rD)) (.int (i : Int)) m = some (rD (R.getD i [])) := by
  show L2.atI (R.map rD) (i : Int) = _
  rw [atI_nat, List.getElem?_map, List.getElem?_eq_getElem h, List.getD_eq_getElem?_getD, List.getElem?_eq_getElem h]; rfl
/-- one row of the law's product -/
theorem row_loop (hw : Fu wf) (hn : 5 ≤ n) {b L N w1 w2 : Nat} {row : List (List Rat)} {R2 : List (List (List Rat))} {x0 x2 x5 x6 : Option D} {lm : Nat} {Q : Sl ⊕ D → Mu → Prop} (h1 : 1 ≤ b) (hL : 1 ≤ L)
    (hlen : row.length = w1) (hl2 : R2.length = w1) (hN : w1 ≤ N + 1) (hz : ∀ c, c < w2 → ZOk b L c (row.zip R2)) (hw2 : w2 ≤ 1000)
    (hB : 2 + (2 * L - 1 + (2 * L - 1)) * dB b L N ≤ 4000) (hB2 : 4 + L * L * (b + b + 1) ≤ 4000) (hL2 : L ≤ 100)
    (hm : m[lm]? = some (.lst (List.replicate w2 (.tup []))))
    (k : ∀ y z l m', Kp nox m m' → m'[l]? = some (.lst ((List.range w2).map fun c => pD (dotF c [] (row.zip R2)))) → Q (.inl [x0, some (tD w2 R2), x2, some (rD row), some (.loc l), y, z]) m') :
    FT (callN Pr wf n) wf [5] b__law_tables_1 (.rngN 0 1 w1) w1 [x0, some (tD w2 R2), x2, some (rD row), some (.loc lm), x5, x6] m Q := by
  have hb := bound_ok (show w2 ≤ 1000000 by omega)
  obtain ⟨I, hI⟩ : ∃ I : Nat → Sl → Mu → Prop, I = (fun i σ m' => Kp nox m m' ∧ ∃ l y z, m'[l]? = some (.lst ((List.range w2).map fun c => pD (dotF c [] ((row.zip R2).take i)))) ∧ σ = [x0, some (tD w2 R2), x2, some (rD row), some (.loc l), y, z]) := ⟨_, rfl⟩
  refine ft_of (rngD w1) I (by simp [rngD]) ?_ (fun _ _ m _ => gives_rng _ m) ?_ ?_
  · rw [hI]
    refine ⟨.refl, lm, _, _, ?_, rfl⟩
    rw [hm]
    congr 2
    apply List.ext_getElem?
    intro i
    by_cases h : i < w2
    · rw [List.getElem?_replicate, if_pos h, List.getElem?_map, List.getElem?_range h]
      simp [dotF, pD]
    · rw [List.getElem?_eq_none (by simpa using h), List.getElem?_eq_none (by simpa using h)]
  · intro i d σ m' hd h
    rw [hI] at h
    obtain ⟨k1, l, y, z, hl, rfl⟩ := h
    obtain ⟨hi, rfl⟩ := rngD_at hd
    refine ⟨[x0, some (tD w2 R2), x2, some (rD row), some (.loc l), some (.int i), z], rfl, ?_⟩
    have hi1 : i < row.length := by omega
    have hi2 : i < R2.length := by omega
    have hzi : (row.zip R2)[i]? = some (row.getD i [], R2.getD i []) := by
      rw [List.getElem?_zip_eq_some]
      rw [List.getD_eq_getElem?_getD, List.getD_eq_getElem?_getD, List.getElem?_eq_getElem hi1, List.getElem?_eq_getElem hi2]
      exact ⟨rfl, rfl⟩
    simp [b__law_tables_1]
    refine ev_compM (List.range w2) (fun c : Nat => .int (c : Int)) (fun c : Nat => pD (dotF c [] ((row.zip R2).take (i + 1)))) (by simp; omega) ?_ ?_ ?_
    · simp [tD, atT0, hb]
      exact ⟨.refl, fun m2 _ => gives_rng _ _⟩
    · intro c m2 hc k2
      have hc : c < w2 := List.mem_range.mp hc
      refine ⟨[x0, some (tD w2 R2), x2, some (rD row), some (.loc l), some (.int i), some (.int c)], rfl, ?_⟩
      have zz := hz c hc _ (List.mem_of_getElem? hzi)
      have z1 : Pl b L (row.getD i []) := zz.1
      have z2 : Pl b L ((R2.getD i []).getD c []) := zz.2.1
      have z3 : c < (R2.getD i []).length := zz.2.2
      have ap := dot_pl (c := c) h1 hL i (zs := (row.zip R2).take i) (by rw [List.length_take, List.length_zip]; omega) fun q hq => hz c hc q (List.mem_of_mem_take hq)
      have g1 : dB b L i ≤ dB b L N := dB_mono (by omega)
      have g0 : dB b L 0 ≤ dB b L N := dB_mono (Nat.zero_le _)
      rw [dB_0] at g0
      have mp := pl_mul z1 z2 h1
      have ap' : Pl (dB b L N) (2 * L - 1) (dotF c [] ((row.zip R2).take i)) := ap.mono (by omega) (Nat.le_refl _)
      have mp' : Pl (dB b L N) (2 * L - 1) (mulC (row.getD i []) ((R2.getD i []).getD c [])) := mp.mono (by omega) (by omega)
      have l1 := z1.1
      have l2 := z2.1
      have l3 := ap'.1
      have l4 := mp'.1
      have e1 : (row.getD i []).length * ((R2.getD i []).getD c []).length * (b + b + 1) ≤ L * L * (b + b + 1) := Nat.mul_le_mul_right _ (Nat.mul_le_mul l1 l2)
      have e2 : 2 * dB b L N ≤ 4000 := by
        have : 2 * dB b L N ≤ (2 * L - 1 + (2 * L - 1)) * dB b L N := Nat.mul_le_mul_right _ (by omega)
        omega
      have ix : idxI (.loc l) (.int (c : Int)) m2 = some (pD (dotF c [] ((row.zip R2).take i))) := by
        rw [idx_loc (listAt_lst (k2.at_ hl id)), atI_nat, List.getElem?_map, List.getElem?_range hc]; rfl
      simp [tD, ix]
      have r2 : R2[i]? = some (R2.getD i []) := by rw [List.getD_eq_getElem?_getD, List.getElem?_eq_getElem hi2]; rfl
      refine ⟨_, idx_rD hi1, _, ⟨_, r2, rfl⟩, _, idx_rD z3, ?_⟩
      refine law_product_ok hw (by omega) z1.2.1 z2.2.1 (by omega) (by omega) (by omega) fun m3 k3 => ?_
      refine law_plus_ok hw (by omega) ap'.2.1 mp'.2.1 (by omega) (by omega) (by omega) (by omega) fun m4 k4 => ?_
      refine ⟨?_, k3.trans k4⟩
      rw [List.take_add_one, hzi]
      simp only [Option.toList_some, dotF_snoc]
    · intro l2 m2 k2 hl2 hm2
      rw [hI]
      exact ⟨k1.trans k2, l2, _, _, hm2, rfl⟩
  · intro σ m' h
    rw [hI] at h
    obtain ⟨k1, l, y, z, hl, rfl⟩ := h
    have e : (row.zip R2).take (rngD w1).length = row.zip R2 := List.take_of_length_le (by simp [rngD]; omega)
    rw [e] at hl
    exact k y z l m' k1 hl
theorem law_tables_ok (hw : Fu wf) (hn : 6 ≤ n) {b L N w1 w2 h : Nat} {R R2 : List (List (List Rat))} (h1 : 1 ≤ b) (hL : 1 ≤ L) (hR : Tb b L w1 h R) (hR2 : Tb b L w2 w1 R2) (hl2 : R2.length = w1) (hN : w1 ≤ N + 1) (hh : h ≤ 1000) (hw1 : w1 ≤ 1000) (hw2 : w2 ≤ 1000)
    (hB : 2 + (2 * L - 1 + (2 * L - 1)) * dB b L N ≤ 4000) (hB2 : 4 + L * L * (b + b + 1) ≤ 4000) (hL2 : L ≤ 100)
    (k : ∀ m', Kp nox m m' → Q (tD w2 (tmul R R2 w2)) m') : (callN Pr wf n f__law_tables [tD w1 R, tD w2 R2] m).to Q := by
  refine call_of (fn := p__law_tables) rfl rfl (by omega) fun k' hk => ?_
  simp only [tD]
  simp [p__law_tables, to_newL, s_forE]
  obtain ⟨S, hS⟩ : ∃ S : Sl → Prop, S = fun σ => ∃ y3 y4 y5 y6, σ = [some (tD w1 R), some (tD w2 R2), some (.loc m.length), y3, y4, y5, y6] := ⟨_, rfl⟩
  refine forApp m.length (R.map rD) [] (fun i => rD ((List.range w2).map fun c => dotF c [] ((R.getD i default).zip R2))) S (by simp) at_new (by rw [hS]; exact ⟨_, _, _, _, rfl⟩) (fun m' _ => gives_st _ _) ?_ ?_
  · intro i d σ' m' Ys v S' hd hs k1 hm hY hv hS'
    rw [hS] at hs
    obtain ⟨y3, y4, y5, y6, rfl⟩ := hs
    obtain ⟨row, hrow, hrm, rfl⟩ := map_at' hd
    have hb := bound_ok (show w1 ≤ 1000000 by omega)
    refine ⟨[some (tD w1 R), some (tD w2 R2), some (.loc m.length), some (rD row), y4, y5, y6], rfl, ?_⟩
    have rr := hR.2 row hrm
    simp [b__law_tables_2, to_newL, s_forE, tD, hb]
    rw [op_mulL at_new, rep_one]
    refine ⟨⟨by omega, by omega, by simp⟩, sz_ok (by simp; omega), ?_⟩
    simp [hb]
    have m1 : m.length < m'.length := (List.getElem?_eq_some_iff.mp hm).1
    refine row_loop hw (n := k') (by omega) (b := b) (L := L) (N := N) h1 hL rr.1 hl2 hN (fun c hc => zok_of hR hR2 hrm hc) hw2 hB hB2 hL2 (by rw [List.getElem?_append_right (by simp)]; simp) fun y z l m3 k3 hl => ?_
    have k4 : Kp nox m' m3 := Kp.new.trans k3
    simp
    refine ⟨isL_end hm k4, ?_⟩
    rw [blt_tupL (listAt_lst hl)]
    refine ⟨by simp; omega, ?_⟩
    refine app_end hm k4 (by have := hR.1; have := (List.getElem?_eq_some_iff.mp hrow).1; simp at hY; omega) ?_ (hS' _ ?_)
    · rw [hv]
      simp [rD, List.getD_eq_getElem?_getD, hrow]
    · rw [hS]; exact ⟨_, _, _, _, rfl⟩
  · intro σ' m' hs k1 hm
    rw [hS] at hs
    obtain ⟨y3, y4, y5, y6, rfl⟩ := hs
    simp [tD]
    rw [blt_tupL (listAt_lst hm)]
    refine ⟨by have := hR.1; simp; omega, ?_⟩
    have e : ([] ++ List.map (fun i => rD (List.map (fun c => dotF c [] ((R.getD i default).zip R2)) (List.range w2))) (List.range (R.map rD).length)) = (tmul R R2 w2).map rD := by
      unfold tmul
      rw [List.nil_append, List.length_map, List.map_map]
      exact rng_map (f := fun row : List (List Rat) => rD (List.map (fun c => dotF c [] (row.zip R2)) (List.range w2)))
    rw [e]
    exact k m' k1.cell
end K78
end Mn
end

section
namespace Mn
open PySem
namespace K78
variable {wf n : Nat} {m : Mu} {Q : D → Mu → Prop} {A : Nat → Prop}
/-- a table turned over -/
def tT (w : Nat) (R : List (List (List Rat))) : List (List (List Rat)) := (List.range w).map fun c => R.map fun r => r.getD c []
theorem tT_tb {b L w h : Nat} {R : List (List (List Rat))} (hR : Tb b L w h R) : Tb b L R.length w (tT w R) := by
  refine ⟨by simp [tT], fun r hr => ?_⟩
  obtain ⟨c, hc, rfl⟩ := List.mem_map.mp hr
  have hc := List.mem_range.mp hc
  refine ⟨by simp, fun p hp => ?_⟩
  obtain ⟨r, hr, rfl⟩ := List.mem_map.mp hp
  have := hR.2 r hr
  rw [List.getD_eq_getElem?_getD, List.getElem?_eq_getElem (by omega)]
  exact this.2 _ (List.getElem_mem _)
theorem tT_tT {w : Nat} {R : List (List (List Rat))} (h : ∀ r ∈ R, r.length = w) : tT R.length (tT w R) = R := by
  unfold tT
  apply List.ext_getElem?
  intro i
  rw [List.getElem?_map]
  by_cases hi : i < R.length
  · rw [List.getElem?_range hi, List.getElem?_eq_getElem hi]
    simp only [Option.map_some, Option.some.injEq, List.map_map]
    have hl := h _ (List.getElem_mem hi)
    apply List.ext_getElem?
    intro j
    rw [List.getElem?_map]
    by_cases hj : j < w
    · rw [List.getElem?_range hj]
      simp [List.getD_eq_getElem?_getD, List.getElem?_eq_getElem hi, List.getElem?_eq_getElem (show j < R[i].length by omega)]
    · rw [List.getElem?_eq_none (by simpa using hj), List.getElem?_eq_none (by omega)]; rfl
  · rw [List.getElem?_eq_none (by simpa using hi), List.getElem?_eq_none (by omega)]; rfl
theorem col_ok {cl : Nat → List D → Mu → R D} {R : List (List (List Rat))} {w h b L c : Nat} {σ : Sl} {v0 v2 v3 : Nat} {Q : D → Mu → Prop} (hR : Tb b L w h R) (hc : c < w) (hh : h ≤ 1000)
    (h0 : σ[v0]? = some (some (tD w R))) (hs : ∀ r, bindT [v3] (rD r) m (wipeD σ [v3]) = some ((wipeD σ [v3]).set v3 (some (rD r))) ∧ ((wipeD σ [v3]).set v3 (some (rD r)))[v3]? = some (some (rD r)) ∧ ((wipeD σ [v3]).set v3 (some (rD r)))[v2]? = some (some (.int c)))
    (k : ∀ m', Kp nox m m' → Q (rD (R.map fun r => r.getD c [])) m') :
    (evE cl (.blt .tuple (.cons (.comp (.seq (.idxI (.var v0) (.con (.int 1)))) [v3] [v3] none (.idxI (.var v3) (.var v2))) .nil)) σ m).to Q := by
  have hl := hR.1
  simp
  refine ev_compM R rD (fun r => pD (r.getD c [])) (by omega) ?_ ?_ ?_
  · simp [h0, tD, atT1]
    exact ⟨.refl, fun m2 _ => gives_st _ _⟩
  · intro r m2 hr k2
    obtain ⟨e1, e2, e3⟩ := hs r
    refine ⟨_, e1, ?_⟩
    simp [e2, e3]
    have rr := hR.2 r hr
    exact ⟨_, idx_rD (by omega), rfl, .refl⟩
  · intro l m2 k2 hl2 hm2
    rw [blt_tupL (listAt_lst hm2)]
    refine ⟨by simp; omega, ?_⟩
    have := k m2 k2
    unfold rD at this
    rw [List.map_map] at this
    exact this
theorem mulC_nilR (p : List Rat) : mulC p [] = [] := by simp [mulC]
theorem mulC_nil (p : List Rat) : mulC [] p = [] := by simp [mulC]
theorem mulC_oneR {p : List Rat} (h : Can p) : mulC p [1] = p := by
  unfold mulC
  split
  · rename_i z
    rcases z with z | z
    · exact z.symm
    · cases z
  · rw [mulQ_one]
    have : p.map (· * (1 : Rat)) = p := by
      conv => rhs; rw [← List.map_id p]
      refine List.map_congr_left fun a _ => Rat.mul_one a
    rw [this]
    exact trim_can h
theorem mulC_one {p : List Rat} (h : Can p) : mulC [1] p = p := by
  unfold mulC
  split
  · rename_i z
    rcases z with z | z
    · cases z
    · exact z.symm
  · have : mulQ [1] p = p := by
      unfold mulQ
      simp only [List.length_cons, List.length_nil, Nat.zero_add, Nat.add_sub_cancel_left]
      conv => rhs; rw [← range_getD p]
      refine List.map_congr_left fun i hi => ?_
      simp [cv, Rat.zero_add, Rat.one_mul]
    rw [this]
    exact trim_can h
theorem add_nilR {p : List Rat} (h : Can p) : trim (addQ p []) = p := by rw [addQ_nilR]; exact trim_can h
theorem add_nil {p : List Rat} (h : Can p) : trim (addQ [] p) = p := by rw [addQ_nil]; exact trim_can h
theorem dot_pick {c : Nat} {p0 : List Rat} (hp0 : Can p0) : ∀ (zs : List (List Rat × List (List Rat))) (i : Nat), i < zs.length → (∀ j z, zs[j]? = some z → mulC z.1 (z.2.getD c []) = if j = i then p0 else []) → dotF c [] zs = p0 := by
  intro zs i hi h
  have go : ∀ k, k ≤ zs.length → dotF c [] (zs.take k) = if i < k then p0 else [] := by
    intro k
    induction k with
    | zero => intro _; simp [dotF]
    | succ k ih =>
      intro hk
      have hk' : k < zs.length := by omega
      have e := List.getElem?_eq_getElem hk'
      rw [List.take_add_one, e]
      simp only [Option.toList_some, dotF_snoc]
      rw [ih (by omega), h k _ e]
      by_cases h1 : k = i
      · subst h1
        rw [if_neg (by omega), if_pos rfl, if_pos (by omega), add_nil hp0]
      · rw [if_neg h1]
        by_cases h2 : i < k
        · rw [if_pos h2, if_pos (by omega), add_nilR hp0]
        · rw [if_neg h2, if_neg (by omega)]
          exact add_nil (p := []) (by simp [Can])
  have := go zs.length (Nat.le_refl _)
  rw [List.take_length, if_pos hi] at this
  exact this
theorem unit_at {N i c : Nat} (hi : i < N) (hc : c < N) : ((unitR N).getD i []).getD c [] = if c = i then [1] else [] := by
  simp [unitR, List.getD_eq_getElem?_getD, List.getElem?_range hi, List.getElem?_range hc]
theorem zip_at {row : List (List Rat)} {R2 : List (List (List Rat))} {j : Nat} {z : List Rat × List (List Rat)} (h : (row.zip R2)[j]? = some z) : j < row.length ∧ j < R2.length ∧ z = (row.getD j [], R2.getD j []) := by
  obtain ⟨a, b⟩ := z
  rw [List.getElem?_zip_eq_some] at h
  have h1 := (List.getElem?_eq_some_iff.mp h.1).1
  have h2 := (List.getElem?_eq_some_iff.mp h.2).1
  refine ⟨h1, h2, ?_⟩
  rw [List.getD_eq_getElem?_getD, List.getD_eq_getElem?_getD, h.1, h.2]; rfl
theorem tmul_unit {b L w h : Nat} {R : List (List (List Rat))} (hR : Tb b L w h R) : tmul R (unitR w) w = R := by
  unfold tmul
  conv => rhs; rw [← List.map_id R]
  refine List.map_congr_left fun row hrow => ?_
  have rr := hR.2 row hrow
  have ul : (unitR w).length = w := by simp [unitR]
  apply List.ext_getElem?
  intro c
  rw [List.getElem?_map]
  by_cases hc : c < w
  · have hc' : c < row.length := by omega
    rw [List.getElem?_range hc]
    show some _ = row[c]?
    rw [List.getElem?_eq_getElem hc']
    congr 1
    have can : ∀ p ∈ row, Can p := fun p hp => (rr.2 p hp).2.2
    refine dot_pick (can _ (List.getElem_mem _)) _ c (by rw [List.length_zip]; omega) fun j z hz => ?_
    obtain ⟨h1, h2, rfl⟩ := zip_at hz
    simp only
    rw [unit_at (by omega) hc]
    by_cases e : j = c
    · subst e
      have : row.getD j [] = row[j] := by rw [List.getD_eq_getElem?_getD, List.getElem?_eq_getElem h1]; rfl
      rw [if_pos rfl, if_pos rfl, this, mulC_oneR (can _ (List.getElem_mem _))]
    · rw [if_neg (by omega), if_neg e, mulC_nilR]
  · rw [List.getElem?_eq_none (by simpa using hc)]
    show none = row[c]?
    rw [List.getElem?_eq_none (by omega)]
theorem unit_tmul {b L w h : Nat} {R : List (List (List Rat))} (hR : Tb b L w h R) : tmul (unitR R.length) R w = R := by
  unfold tmul unitR
  apply List.ext_getElem?
  intro i
  rw [List.map_map, List.getElem?_map]
  by_cases hi : i < R.length
  · rw [List.getElem?_range hi, List.getElem?_eq_getElem hi]
    simp only [Option.map_some, Option.some.injEq, Function.comp_apply]
    have rr := hR.2 _ (List.getElem_mem hi)
    apply List.ext_getElem?
    intro c
    rw [List.getElem?_map]
    by_cases hc : c < w
    · have hc' : c < R[i].length := by omega
      rw [List.getElem?_range hc, List.getElem?_eq_getElem hc']
      simp only [Option.map_some, Option.some.injEq]
      have can : Can R[i][c] := (rr.2 _ (List.getElem_mem _)).2.2
      refine dot_pick can _ i (by rw [List.length_zip]; simp; omega) fun j z hz => ?_
      obtain ⟨h1, h2, rfl⟩ := zip_at hz
      have e1 : ((List.range R.length).map fun j => if j = i then ([1] : List Rat) else []).getD j [] = if j = i then [1] else [] := by
        rw [List.getD_eq_getElem?_getD, List.getElem?_map, List.getElem?_range (by omega)]; rfl
      simp only
      rw [e1]
      by_cases e : j = i
      · subst e
        have : (R.getD j []).getD c [] = R[j][c] := by
          rw [List.getD_eq_getElem?_getD (l := R), List.getElem?_eq_getElem hi]
          simp [List.getD_eq_getElem?_getD, hc']
        rw [if_pos rfl, if_pos rfl, this, mulC_one can]
      · rw [if_neg e, if_neg e, mulC_nil]
    · rw [List.getElem?_eq_none (by simpa using hc), List.getElem?_eq_none (by omega)]; rfl
  · rw [List.getElem?_eq_none (by simpa using hi), List.getElem?_eq_none (by omega)]; rfl
end K78
end Mn
end

section
namespace Mn
open PySem
theorem Ths.mem {A : Nat → Prop} {b k W : Nat} {m : Mu} : ∀ {ds : List D}, Ths A b k W m ds → ∀ d ∈ ds, Th A b k W m d := by
  intro ds h d hd
  obtain ⟨i, hi, rfl⟩ := List.mem_iff_getElem.mp hd
  obtain ⟨V, U, U', t1, _, _, t4⟩ := h.at_ hi
  exact t1.mono (Nat.le_refl _) (Nat.le_refl _) (by omega)
theorem Th.tup {A : Nat → Prop} {b k W : Nat} {m : Mu} {ds : List D} (h : Th A b k W m (.tup ds)) : Ths A b k W m ds := by
  obtain ⟨j, V, e, h2, h3⟩ := h.untup
  exact h3.mono (Nat.le_refl _) (by omega) (by omega)
namespace K78
variable {wf n : Nat} {m : Mu} {Q : D → Mu → Prop} {A : Nat → Prop}
def D.ge0 : D → Bool
  | .int i => decide (0 ≤ i)
  | _ => false
def isRw (w : Int) : D → Bool
  | .tup ds => decide ((ds.length : Int) = w) && ds.all isPl
  | _ => false
def isPt : D → Bool
  | .tup [.int w, .tup rs] => decide (0 ≤ w) && rs.all (isRw w)
  | _ => false
theorem isPt_ge {d2 d1 : D} (h : D.ge0 d1 = false) : isPt (.tup [d1, d2]) = false := by
  cases d1 <;> cases d2 <;> simp_all [D.ge0, isPt]
  omega
theorem isPt_nt {d2 d1 : D} (h : d2.isTup = false) : isPt (.tup [d1, d2]) = false := by
  cases d1 <;> cases d2 <;> simp_all [D.isTup, isPt]
theorem isPt_len {ds : List D} (h : ds.length ≠ 2) : isPt (.tup ds) = false := by
  match ds, h with
  | [], _ => rfl
  | [a], _ => cases a <;> rfl
  | [a, b], h => simp at h
  | a :: b :: c :: r, _ => cases a <;> first | rfl | (cases b <;> rfl)
theorem isRw_nt {w : Int} {d : D} (h : d.isTup = false) : isRw w d = false := by
  cases d <;> simp_all [D.isTup, isRw]
theorem all_take {α : Type} {f : α → Bool} {l : List α} {i : Nat} {a : α} (h : l[i]? = some a) : (l.take (i + 1)).all f = ((l.take i).all f && f a) := by
  rw [List.take_add_one, h]; simp
end K78
end Mn
end

section
namespace Mn
open PySem
namespace K78
variable {wf n : Nat} {m : Mu} {Q : D → Mu → Prop} {A : Nat → Prop}
end K78
end Mn
end

section
namespace Mn
open PySem
theorem eqD_lnilT {A : Nat → Prop} {m : Mu} {a b' b k W : Nat} {ds : List D} (h : Ths A b k W m ds) (hk : k ≤ 50) (h1 : m[a]? = some (.lst ds)) (h2 : m[b']? = some (.lst [])) : eqD m (.loc a) (.loc b') = some (decide (ds = [])) := by
  obtain ⟨xs, t1, t2, t3⟩ := h
  rw [eqD_tree (rf_lst (listAt_lst h1) t1.rfl) (rf_lst (k := 1) (listAt_lst h2) rfl_nil) ((shp_lst (t1.shp t2)).mono (by omega)) ((shp_lst (k := 1) shpl_nil).mono (by decide)) (by omega) (by decide)]
  simp only [PyData.eqv, K78.eqvAll_nil]
  cases t1 <;> simp
/-- no number -/
def NI (ds : List D) : Prop := ∀ d ∈ ds, ∀ i, d ≠ .int i
theorem NI.ne {ds : List D} (h : NI ds) {ns : List Int} (hn : ns ≠ []) : ds ≠ ns.map D.int := by
  cases ns with
  | nil => exact absurd rfl hn
  | cons n ns =>
    rintro rfl
    exact h (.int n) (by simp) n rfl
theorem Feed.setN {f B l : Nat} {m : Mu} {ds es : List D} (h : Feed f B m) (hl : m[l]? = some (.lst es)) (hn : NI es) : Feed f B (m.set l (.lst ds)) := by
  refine h.set (fun ns h0 z => ?_) (h.ne hl)
  rw [hl] at z
  have z := Option.some.inj z
  injection z with z
  exact hn.ne h0 z
namespace K78
variable {wf n : Nat} {m : Mu} {Q : D → Mu → Prop} {A : Nat → Prop}
theorem ni_rD (R : List (List (List Rat))) : NI (R.map rD) := by
  intro d hd i
  obtain ⟨r, _, rfl⟩ := List.mem_map.mp hd
  unfold rD
  exact fun z => by cases z
/-- the items of a comprehension that is a list of polys -/
theorem polys_of {its ys : List D} (hl : ys.length = its.length) (h : ∀ (i : Nat) (d y : D), its[i]? = some d → ys[i]? = some y → ∃ p, y = pD p ∧ Pl 7 3 p) : ∃ r : List (List Rat), ys = r.map pD ∧ r.length = its.length ∧ ∀ p ∈ r, Pl 7 3 p := by
  have h' : ∀ y ∈ ys, ∃ p, y = pD p ∧ Pl 7 3 p := by
    intro y hy
    obtain ⟨i, hi, rfl⟩ := List.mem_iff_getElem.mp hy
    exact h i _ _ (List.getElem?_eq_getElem (show i < its.length by omega)) (List.getElem?_eq_getElem hi)
  rw [← hl]
  clear h hl
  induction ys with
  | nil => exact ⟨[], rfl, rfl, fun p hp => by cases hp⟩
  | cons y ys ih =>
    obtain ⟨p, rfl, hp⟩ := h' y (by simp)
    obtain ⟨r, rfl, h2, h3⟩ := ih fun z hz => h' z (by simp [hz])
    exact ⟨p :: r, rfl, by simp, fun q hq => by
      rcases List.mem_cons.mp hq with rfl | hq
      · exact hp
      · exact h3 q hq⟩
theorem row_tail (hw : Fu wf) (hn : 4 ≤ n) {f B wide deg most lb : Nat} {bs : List Int} {x2 : Option D} (hf : Feed f (B + 20 * wide) m) (hlb : m[lb]? = some (.lst (bs.map D.int))) (hb0 : bs ≠ []) (hbs : ∀ b ∈ bs, 0 < b ∧ b < 128) (hbl : bs.length ≤ 100) (hd : deg ≤ 2) (hmost : most ≤ 99) (hwide : wide ≤ 100)
    (k : ∀ r m', r.length = wide → (∀ p ∈ r, Pl 7 3 p) → Kp (· = f) m m' → Feed f B m' → Q (rD r) m') :
    (evSs (callN Pr wf n) wf (p__law_row.body.dr 1) [some (.loc f), some (.int wide), x2, some (.int deg), some (.int most), some (.loc lb), none] m).to (fin Q) := by
  simp [p__law_row]
  have hb := bound_ok (show wide ≤ 1000000 by omega)
  have hfl := feed_lt hf
  refine ev_compI (· = f) (fun i m2 => Kp (· = f) m m2 ∧ Feed f (B + 20 * (wide - i)) m2) m.length (rngD wide) (fun _ _ y => ∃ p, y = pD p ∧ Pl 7 3 p) (fun l hl => by omega) (fun i m2 c h => ⟨h.1.trans .new, h.2.new⟩) ?_ (fun i m2 h => h.1.1) (by simp [rngD]; omega) ?_ ?_ ?_
  · intro i m2 l ys y hlt h hl hm2 hlen hP
    refine ⟨h.1.set (.inl hl), h.2.setN hm2 fun d hd i e => ?_⟩
    subst e
    obtain ⟨j, hj, e⟩ := List.mem_iff_getElem.mp hd
    obtain ⟨p, e2, _⟩ := hP j _ _ (List.getElem?_eq_getElem (show j < (rngD wide).length by omega)) (List.getElem?_eq_getElem hj)
    rw [e] at e2
    cases e2
  · simp [hb]
    exact ⟨by simp [rngD], ⟨.refl, hf⟩, fun i m2 _ _ => gives_rng _ _⟩
  · intro i d m2 hd h
    obtain ⟨hi, rfl⟩ := rngD_at hd
    refine ⟨[some (.loc f), some (.int wide), x2, some (.int deg), some (.int most), some (.loc lb), some (.int i)], rfl, ?_⟩
    simp
    refine poly_ok (B := B + 20 * (wide - (i + 1))) hw (by omega) (h.2.mono (by omega)) (h.1.at_ hlb (hf.ne hlb)) hb0 hbs hbl (by omega) hmost fun p m3 lp bp cp k3 f3 => ?_
    exact ⟨⟨p, rfl, by omega, bp, cp⟩, ⟨h.1.trans k3, f3⟩, k3⟩
  · intro l ys m' h hl hm' hlen hP
    obtain ⟨r, rfl, h2, h3⟩ := polys_of hlen hP
    rw [blt_tupL (listAt_lst hm')]
    have e : (rngD wide).length = wide := by simp [rngD]
    rw [e] at h2 h
    refine ⟨by simp; omega, k r m' h2 h3 h.1 (h.2.mono (by omega))⟩
end K78
end Mn
end

section
namespace Mn
open PySem
namespace K78
variable {wf n : Nat} {m : Mu} {Q : D → Mu → Prop} {A : Nat → Prop}
theorem row_ok (hw : Fu wf) (hn : 5 ≤ n) {f B wide : Nat} {small : Bool} (hf : Feed f (B + 20 * wide) m) (hwide : wide ≤ 100)
    (k : ∀ r m', r.length = wide → (∀ p ∈ r, Pl 7 3 p) → Kp (· = f) m m' → Feed f B m' → Q (rD r) m') :
    (callN Pr wf n f__law_row [.loc f, .int wide, .bl small] m).to Q := by
  refine call_of (fn := p__law_row) rfl rfl (by omega) fun k' hk => ?_
  show (evSs (callN Pr wf k') wf (.cons _ (p__law_row.body.dr 1)) [some (.loc f), some (.int wide), some (.bl small), none, none, none, none] m).to (fin Q)
  simp [to_newL]
  generalize hM : (m ++ [Cell.lst [D.int 1, D.int 1, D.int 2, D.int 3], Cell.lst [D.int 1], Cell.lst [D.tup [D.int 2, D.int 9, D.loc m.length], D.tup [D.int 1, D.int 3, D.loc (m.length + 1)]]]) = M
  have at_ : ∀ j c, [Cell.lst [D.int 1, D.int 1, D.int 2, D.int 3], Cell.lst [D.int 1], Cell.lst [D.tup [D.int 2, D.int 9, D.loc m.length], D.tup [D.int 1, D.int 3, D.loc (m.length + 1)]]][j]? = some c → M[m.length + j]? = some c := fun j c h => by
    rw [← hM, List.getElem?_append_right (by omega), Nat.add_sub_cancel_left]; exact h
  have kM : Kp nox m M := by rw [← hM]; exact .new
  have c0 : M[m.length]? = some (.lst ([1, 1, 2, 3].map D.int)) := at_ 0 _ rfl
  have c1 : M[m.length + 1]? = some (.lst ([1].map D.int)) := at_ 1 _ rfl
  have c2 := at_ 2 _ rfl
  cases small with
  | false =>
    simp [idx_loc (listAt_lst c2)]
    refine ⟨[some (.loc f), some (.int wide), some (.bl false), some (.int 2), some (.int 9), some (.loc m.length), none], rfl, ?_⟩
    exact row_tail hw (by omega) (deg := 2) (most := 9) (hf.keep kM) c0 (by simp) (by simp) (by simp) (by omega) (by omega) hwide fun r m' h1 h2 k1 f1 => k r m' h1 h2 (kM.of.trans k1) f1
  | true =>
    simp [idx_loc (listAt_lst c2)]
    refine ⟨[some (.loc f), some (.int wide), some (.bl true), some (.int 1), some (.int 3), some (.loc (m.length + 1)), none], rfl, ?_⟩
    exact row_tail hw (by omega) (deg := 1) (most := 3) (hf.keep kM) c1 (by simp) (by simp) (by simp) (by omega) (by omega) hwide fun r m' h1 h2 k1 f1 => k r m' h1 h2 (kM.of.trans k1) f1
theorem rep_nil {N : Nat} : D.tup (repD (N : Int) [.tup []]) = rD (List.replicate N []) := by
  rw [rep_one]; unfold rD; simp [pD]
theorem table_ok (hw : Fu wf) (hn : 6 ≤ n) {f B many wide : Nat} (hf : Feed f (B + (20 * wide + 10) * many) m) (hwide : wide ≤ 100) (hmany : many ≤ 100)
    (k : ∀ R m', R.length = many → Tb 7 3 wide many R → Kp (· = f) m m' → Feed f B m' → Q (tD wide R) m') :
    (callN Pr wf n f__law_table [.loc f, .int many, .int wide] m).to Q := by
  refine call_of (fn := p__law_table) rfl rfl (by omega) fun k' hk => ?_
  have hb := bound_ok (show many ≤ 1000000 by omega)
  simp [p__law_table, to_newL, s_forE, hb]
  have hfl := feed_lt hf
  obtain ⟨I, hI⟩ : ∃ I : Nat → Sl → Mu → Prop, I = (fun i σ m' => Kp (· = f) m m' ∧ Feed f (B + (20 * wide + 10) * (many - i)) m' ∧ ∃ R, m'[m.length]? = some (.lst (R.map rD)) ∧ R.length = i ∧ Tb 7 3 wide many R ∧ ∃ y z, σ = [some (.loc f), some (.int many), some (.int wide), some (.loc m.length), y, z]) := ⟨_, rfl⟩
  refine ft_of (rngD many) I (by simp [rngD]) (by rw [hI]; exact ⟨.new, hf.new, [], at_new, rfl, ⟨by simp, fun r hr => by cases hr⟩, _, _, rfl⟩) (fun _ _ m _ => gives_rng _ m) ?_ ?_
  · intro i d σ m' hd h
    rw [hI] at h
    obtain ⟨k1, f1, R, hR, hl, hT, y, z, rfl⟩ := h
    obtain ⟨hi, rfl⟩ := rngD_at hd
    refine ⟨[some (.loc f), some (.int many), some (.int wide), some (.loc m.length), some (.int i), z], rfl, ?_⟩
    have e2 : (20 * wide + 10) * (many - i) = (20 * wide + 10) * (many - (i + 1)) + (20 * wide + 10) := by
      rw [show many - i = (many - (i + 1)) + 1 by omega, Nat.mul_succ]
    rw [e2] at f1
    have nf : m.length ≠ f := by omega
    -- the row is put at the end
    have last : ∀ (r : List (List Rat)) (m2 : Mu) (y z : Option D), r.length = wide → (∀ p ∈ r, Pl 7 3 p) → Kp (· = f) m' m2 → Feed f (B + (20 * wide + 10) * (many - (i + 1))) m2 →
        (appD (.loc m.length) (rD r) m2).to fun _ m3 => I (i + 1) [some (.loc f), some (.int many), some (.int wide), some (.loc m.length), y, z] m3 := by
      intro r m2 y z h1 h2 k2 f2
      have hm2 := k2.at_ hR nf
      refine appD_at hm2 (by simp; omega) ?_
      rw [hI]
      refine ⟨(k1.trans k2).set (.inl (Nat.le_refl _)), f2.setN hm2 (ni_rD R), R ++ [r], by rw [set_at hm2]; simp, by simp [hl], ⟨by simp; omega, fun q hq => ?_⟩, _, _, rfl⟩
      rcases List.mem_append.mp hq with hq | hq
      · exact hT.2 q hq
      · rw [List.mem_singleton.mp hq]; exact ⟨h1, h2⟩
    simp [b__law_table_1]
    refine draw_ok (B := B + (20 * wide + 10) * (many - (i + 1)) + 20 * wide + 9) (by omega) (f1.mono (by omega)) (by omega) (bd_small (by omega) (by omega)) fun d m2 d0 d1 k2 f2 => ?_
    have hm2 := k2.at_ hR nf
    have row : ∀ (m3 : Mu) (small : Bool) (v : Option D), Kp (· = f) m' m3 → Feed f (B + (20 * wide + 10) * (many - (i + 1)) + 20 * wide) m3 → (callN Pr wf k' f__law_row [.loc f, .int wide, .bl small] m3).to fun y m4 => (appD (.loc m.length) y m4).to fun _ m5 => I (i + 1) [some (.loc f), some (.int many), some (.int wide), some (.loc m.length), some (.int i), v] m5 := by
      intro m3 small v k3 f3
      refine row_ok hw (by omega) (B := B + (20 * wide + 10) * (many - (i + 1))) f3 hwide fun r m4 h1 h2 k4 f4 => ?_
      exact last r m4 _ _ h1 h2 (k3.trans k4) f4
    simp
    refine br_of (fun h0 => ?_) fun h0 => ?_
    · refine ⟨isL_at hm2, by omega, by rw [rep_one]; simp; omega, ?_⟩
      rw [rep_nil]
      exact last _ m2 _ _ (by simp) (fun p hp => by rw [List.eq_of_mem_replicate hp]; exact pl_nil) k2 (f2.mono (by omega))
    · refine br_of (fun h1 => ?_) fun h1 => ?_
      · simp [to_newL]
        have hth : Ths (fun _ => True) 7 3 (((1209 * 3 + 5) * wide + 3 + 2) * R.length) (m2 ++ [Cell.lst []]) (R.map rD) := ths_map fun r hr => th_rD (hT.2 r hr).1 (hT.2 r hr).2
        have hl2 : m.length < m2.length := (List.getElem?_eq_some_iff.mp hm2).1
        have hm3 : (m2 ++ [Cell.lst []])[m.length]? = some (.lst (R.map rD)) := by rw [List.getElem?_append_left hl2]; exact hm2
        rw [eqD_lnilT hth (by omega) hm3 at_new]
        simp
        refine br_of (fun h3 => ?_) fun h3 => ?_
        · exact ⟨isL_at hm3, row _ _ _ (k2.trans .new) ((f2.new).mono (by omega))⟩
        · refine ⟨isL_at hm3, ?_⟩
          refine of_ok (B := B + (20 * wide + 10) * (many - (i + 1))) (by omega) ((f2.new).mono (by omega)) hm3 (by simpa using h3) (by simp; omega) fun j d m4 hj k4 f4 => ?_
          obtain ⟨r, hr, rfl⟩ := map_at hj
          have tr := hT.2 r (List.mem_of_getElem? hr)
          exact last r m4 _ _ tr.1 tr.2 ((k2.trans .new).trans k4) f4
      · exact ⟨isL_at hm2, row _ _ _ k2 (f2.mono (by omega))⟩
  · intro σ m' h
    rw [hI] at h
    obtain ⟨k1, f1, R, hR, hl, hT, y, z, rfl⟩ := h
    have e3 : (rngD many).length = many := by simp [rngD]
    rw [e3] at hl f1
    simp
    rw [blt_tupL (listAt_lst hR)]
    refine ⟨by simp; omega, ?_⟩
    exact k R m' hl hT k1 (f1.mono (by omega))
end K78
end Mn
end

section
namespace Mn
open PySem
namespace K78
variable {wf n : Nat} {m : Mu} {Q : D → Mu → Prop} {A : Nat → Prop}
theorem Tb.mono {b L w h b' L' h' : Nat} {R : List (List (List Rat))} (t : Tb b L w h R) (hb : b ≤ b') (hL : L ≤ L') (hh : h ≤ h') : Tb b' L' w h' R :=
  ⟨by have := t.1; omega, fun r hr => ⟨(t.2 r hr).1, fun p hp => ((t.2 r hr).2 p hp).mono hb hL⟩⟩
theorem tmul_tb {b L N w1 w2 h h2 : Nat} {R R2 : List (List (List Rat))} (h1 : 1 ≤ b) (hL : 1 ≤ L) (hR : Tb b L w1 h R) (hR2 : Tb b L w2 h2 R2) (hN : h2 ≤ N + 1) : Tb (dB b L (N + 1)) (2 * L - 1) w2 h (tmul R R2 w2) := by
  refine ⟨by simp [tmul]; exact hR.1, fun r hr => ?_⟩
  obtain ⟨row, hrow, rfl⟩ := List.mem_map.mp hr
  refine ⟨by simp, fun p hp => ?_⟩
  obtain ⟨c, hc, rfl⟩ := List.mem_map.mp hp
  have hz := zok_of hR hR2 hrow (List.mem_range.mp hc)
  have := dot_pl (c := c) h1 hL (row.zip R2).length rfl hz
  have g : dB b L (row.zip R2).length ≤ dB b L (N + 1) := dB_mono (by have := hR2.1; rw [List.length_zip]; omega)
  exact this.mono (by omega) (Nat.le_refl _)
theorem to_bindT {P : D → Mu → Prop} {d : D} {m : Mu} (h : P d m) : (R.ok d m : R D).to P := h
/-- what is due -/
def due (w w2 : Nat) (R R2 : List (List (List Rat))) : List D := [tD w2 (tmul R R2 w2), tD R.length (tT w R), tD w R, tD w (unitR w), tD w R, tD w R]
theorem due_ths {w w2 : Nat} {R R2 : List (List (List Rat))} (hR : Tb 7 3 w 3 R) (hR2 : Tb 7 3 w2 w R2) (hw : w ≤ 3) (hw2 : w2 ≤ 3) : Ths A 400 5 400000 m (due w w2 R R2) := by
  have bd : ∀ k : Nat, k ≤ 3 → Bd 400 (k : Int) := fun k hk => Bd.mono (b := 7) (by unfold Bd; rw [show (2 : Nat) ^ 7 = 128 by decide]; omega) (by omega)
  have d3 : dB 7 3 3 = 376 := by decide
  have t1 : Tb 400 5 w2 3 (tmul R R2 w2) := (tmul_tb (N := 2) (by omega) (by omega) hR hR2 (by omega)).mono (by rw [d3]; omega) (by omega) (by omega)
  have t2 : Tb 400 3 R.length 3 (tT w R) := (tT_tb hR).mono (by omega) (by omega) (by omega)
  have t3 : Tb 400 3 w 3 R := hR.mono (by omega) (by omega) (by omega)
  have t4 : Tb 400 1 w 3 (unitR w) := (Tb.unit w 400 (by omega)).mono (by omega) (by omega) (by omega)
  have hl := hR.1
  have big : ∀ {L w : Nat} {R : List (List (List Rat))}, Tb 400 L w 3 R → L ≤ 5 → w ≤ 3 → Th A 400 5 60000 m (tD w R) := by
    intro L w R t hL hw
    refine (th_tD t (bd _ hw)).mono (Nat.le_refl _) (Nat.le_refl _) ?_
    have e1 : 1209 * L + 5 ≤ 6050 := by omega
    have e2 : (1209 * L + 5) * w ≤ 6050 * 3 := Nat.mul_le_mul e1 hw
    have e3 := Nat.mul_le_mul_right 3 (show (1209 * L + 5) * w + 3 + 2 ≤ 6050 * 3 + 5 by omega)
    omega
  refine (ths_cons (big t1 (by omega) hw2) (ths_cons (big t2 (by omega) hl) (ths_cons (big t3 (by omega) hw) (ths_cons (big t4 (by omega) hw) (ths_cons (big t3 (by omega) hw) (ths_one (big t3 (by omega) hw))))))).mono (Nat.le_refl _) (Nat.le_refl _) (by omega)
theorem isPl_pD {b L : Nat} {p : List Rat} (h : Pl b L p) : isPl (pD p) = true := by
  rw [pD, isPl_tup, Bool.and_eq_true]
  constructor
  · rw [List.all_eq_true]
    intro d hd
    obtain ⟨q, _, rfl⟩ := List.mem_map.mp hd
    show (decide (0 < (q.den : Int)) && decide (Int.gcd q.num q.den = 1)) = true
    rw [decide_eq_true den_pos, decide_eq_true (show Int.gcd q.num q.den = 1 from q.reduced)]; rfl
  · have hc := h.2.2
    unfold Can at hc
    rw [List.getLast?_map]
    cases e : p.getLast? with
    | none => rfl
    | some r =>
      rw [e] at hc
      show decide (r.num ≠ 0) = true
      refine decide_eq_true fun z => hc ?_
      rw [Rat.num_eq_zero.mp z]
theorem isPt_tD {b L w h : Nat} {R : List (List (List Rat))} (t : Tb b L w h R) : isPt (tD w R) = true := by
  show (decide (0 ≤ (w : Int)) && (R.map rD).all (isRw w)) = true
  rw [decide_eq_true (by omega), Bool.true_and, List.all_eq_true]
  intro d hd
  obtain ⟨r, hr, rfl⟩ := List.mem_map.mp hd
  have rr := t.2 r hr
  show (decide (((r.map pD).length : Int) = w) && (r.map pD).all isPl) = true
  rw [decide_eq_true (by rw [List.length_map, rr.1]), Bool.true_and, List.all_eq_true]
  intro d hd
  obtain ⟨p, hp, rfl⟩ := List.mem_map.mp hd
  exact isPl_pD (rr.2 p hp)
theorem cmp_isB {a b : Bool} : cmpD .is (.bl a) (.bl b) m = some (decide (a = b)) := (rfl)
end K78
end Mn
end

section
namespace Mn
open PySem
mutual
def pureD : D → Bool
  | .int _ => true
  | .tup ds => pureDs ds
  | _ => false
def pureDs : List D → Bool
  | [] => true
  | d :: ds => pureD d && pureDs ds
end
theorem pureDs_all : ∀ ds : List D, pureDs ds = ds.all pureD
  | [] => by simp only [pureDs, List.all_nil]
  | d :: ds => by simp only [pureDs, List.all_cons, pureDs_all ds]
theorem asc_lit {s : Str} (h : s.cps.toList.all (· < 128) = true) : Asc s := fun c hc => by simpa using List.all_eq_true.mp h c hc
theorem asc_join : ∀ {ts : List Str}, (∀ t ∈ ts, Asc t) → Asc (Str.join ", " ts)
  | [], _ => asc_lit (by decide)
  | [x], h => h x (by simp)
  | x :: y :: r, h => by
    show Asc (x ++ ", " ++ Str.join ", " (y :: r))
    exact ((h x (by simp)).append (asc_lit (by decide))).append (asc_join fun t ht => h t (by simp [ht]))
mutual
theorem asc_shown : ∀ {d : D}, pureD d = true → Asc (toP d).shown
  | .int i, _ => by simp only [toP]; exact asc_int i
  | .tup ds, h => by
    simp only [pureD] at h
    simp only [toP, PyData.shown]
    unfold tupleText
    refine ((asc_lit (by decide)).append (asc_join (asc_showns h))).append ?_
    split <;> exact asc_lit (by decide)
  | .non, h => by simp only [pureD] at h; cases h
  | .bl _, h => by simp only [pureD] at h; cases h
  | .str _, h => by simp only [pureD] at h; cases h
  | .loc _, h => by simp only [pureD] at h; cases h
theorem asc_showns : ∀ {ds : List D}, pureDs ds = true → ∀ t ∈ PyData.shownAll (toPs ds), Asc t
  | [], _ => fun t ht => by simp [toPs, PyData.shownAll] at ht
  | d :: ds, h => by
    simp only [pureDs, Bool.and_eq_true] at h
    intro t ht
    simp only [toPs, PyData.shownAll, List.mem_cons] at ht
    rcases ht with rfl | ht
    · exact asc_shown h.1
    · exact asc_showns h.2 t ht
end
theorem eqvAll_strs : ∀ ss : List Str, PyData.eqvAll (ss.map PyData.str) (ss.map PyData.str) = true
  | [] => by simp [PyData.eqvAll]
  | s :: ss => by simp [PyData.eqvAll, PyData.eqv, eqvAll_strs ss]
theorem eqD_strs {m : Mu} {a b : Nat} {ss : List Str} (h1 : m[a]? = some (.lst (ss.map D.str))) (h2 : m[b]? = some (.lst (ss.map D.str))) (hs : ∀ s ∈ ss, Asc s) : eqD m (.loc a) (.loc b) = some true := by
  have sh : Shp 1 (.list (ss.map PyData.str)) := shp_lst (shpl_map fun s hs' => ⟨by
    have h := hs s hs'
    simp only [PyData.canLay0, PyData.strOk]
    rw [Array.all_eq_true_iff_forall_mem]
    intro c hc
    have := h c (Array.mem_toList_iff.mpr hc)
    simp; omega, by simp [PyData.depth]⟩)
  rw [eqD_tree (rf_lst (listAt_lst h1) (rfl_map fun _ _ => rf_str)) (rf_lst (listAt_lst h2) (rfl_map fun _ _ => rf_str)) (sh.mono (by decide)) (sh.mono (by decide)) (by decide) (by decide)]
  simp only [PyData.eqv, eqvAll_strs]
namespace K78
variable {wf n : Nat} {m : Mu} {Q : D → Mu → Prop} {A : Nat → Prop}
theorem pure_pD (p : List Rat) : pureD (pD p) = true := by
  unfold pD
  simp only [pureD]
  rw [pureDs_all, List.all_eq_true]
  intro d hd
  obtain ⟨q, _, rfl⟩ := List.mem_map.mp hd
  simp [fr, pureD, pureDs]
theorem pure_tD (w : Nat) (R : List (List (List Rat))) : pureD (tD w R) = true := by
  unfold tD
  simp only [pureD, pureDs, Bool.true_and, Bool.and_true]
  rw [pureDs_all, List.all_eq_true]
  intro d hd
  obtain ⟨r, _, rfl⟩ := List.mem_map.mp hd
  unfold rD
  simp only [pureD]
  rw [pureDs_all, List.all_eq_true]
  intro d hd
  obtain ⟨p, _, rfl⟩ := List.mem_map.mp hd
  exact pure_pD p
def uS (N : Nat) : Str := (toP (tD N (unitR N))).shown
theorem strs_ok (hn : 3 ≤ n) {σ : Sl} {u : Nat} {Q : D → Mu → Prop} (hu : ∀ (N : Nat) (m2 : Mu) (Q : D → Mu → Prop), N ≤ 60 → (∀ m', Kp nox m2 m' → Q (tD N (unitR N)) m') → (callN Pr wf n u [.int N] m2).to Q)
    (hs : ∀ r, bindT [12] r m (wipeD σ [12]) = some ((wipeD σ [12]).set 12 (some r)) ∧ ((wipeD σ [12]).set 12 (some r))[12]? = some (some r))
    (k : ∀ l m', Kp nox m m' → m'[l]? = some (.lst (((List.range 5).map uS).map D.str)) → Q (.loc l) m') :
    (evE (callN Pr wf n) (.comp (.rng1 (.con (.int 5))) [12] [12] none (.blt .repr (.cons (.call u (.cons (.var 12) .nil)) .nil))) σ m).to Q := by
  have b5 : boundOk 5 = true := bound_ok (k := 5) (by omega)
  refine ev_compM (List.range 5) (fun j : Nat => .int (j : Int)) (fun j : Nat => .str (uS j)) (by simp) ?_ ?_ ?_
  · simp [b5]
    exact ⟨.refl, fun m2 _ => gives_rng _ _⟩
  · intro N m2 hN k2
    have hN : N < 5 := List.mem_range.mp hN
    obtain ⟨e1, e2⟩ := hs (.int N)
    refine ⟨_, e1, ?_⟩
    simp [e2]
    refine hu N m2 _ (by omega) fun m3 k3 => ?_
    have hm : N * (1217 + 7 * N) ≤ 5 * 1497 := Nat.mul_le_mul (by omega) (by omega)
    have th : Th noA 7 5 70000 m3 (tD N (unitR N)) := (th_unit (by omega) (by omega)).mono (Nat.le_refl _) (Nat.le_refl _) (by omega)
    rw [rep_val th (by omega) (by omega) (by omega)]
    exact ⟨rfl, k3⟩
  · intro l m2 k2 _ hm2
    refine k l m2 k2 ?_
    rw [hm2, List.map_map]; rfl
end K78
end Mn
namespace Mn
mutual
theorem TR.toA {A : Nat → Prop} {m : Mu} : ∀ {k : Nat} {d : D} {x : PySem.PyData}, TR noA m k d x → TR A m k d x
  | _, _, _, .non => .non
  | _, _, _, .bl => .bl
  | _, _, _, .int => .int
  | _, _, _, .str => .str
  | _, _, _, .tup h => .tup (TRs.toA h)
  | _, _, _, .lst _ _ a => a.elim
theorem TRs.toA {A : Nat → Prop} {m : Mu} : ∀ {k : Nat} {ds : List D} {xs : List PySem.PyData}, TRs noA m k ds xs → TRs A m k ds xs
  | _, _, _, .nil => .nil
  | _, _, _, .cons h t => .cons (TR.toA h) (TRs.toA t)
end
end Mn
end

section
namespace Mn
open PySem
namespace K78
variable {wf n : Nat} {m : Mu} {Q : D → Mu → Prop} {A : Nat → Prop}
end K78
end Mn
end

section
namespace Mn
open PySem
namespace K78
variable {wf n : Nat} {m : Mu} {Q : D → Mu → Prop} {A : Nat → Prop}
def someL : List (Nat × Nat) := [(2, 2), (3, 3), (1, 2), (2, 3), (3, 2), (2, 1), (0, 2), (1, 3), (3, 1), (0, 3), (1, 1)]
end K78
end Mn
end

section
namespace Mn
open PySem
/-- bits of a place of a product, row by row -/
def wv (bp : Nat → Nat) (c ql : Nat) : Nat → Nat → Nat
  | 0, _ => 0
  | k + 1, i => wv bp c ql k i + (if k ≤ i ∧ i - k < ql then bp k + c + 1 else 0)
theorem wv_s {bp : Nat → Nat} {c ql k i : Nat} : wv bp c ql (k + 1) i = wv bp c ql k i + (if k ≤ i ∧ i - k < ql then bp k + c + 1 else 0) := rfl
def wvj' (bp : Nat → Nat) (c ql k j i : Nat) : Nat := wv bp c ql k i + (if k ≤ i ∧ i - k < j then bp k + c + 1 else 0)
theorem wv_mono {bp : Nat → Nat} {c ql i : Nat} : ∀ {k l : Nat}, k ≤ l → wv bp c ql k i ≤ wv bp c ql l i := by
  intro k l h
  induction h with
  | refl => exact Nat.le_refl _
  | step _ ih => exact Nat.le_trans ih (by rw [wv_s]; omega)
section
variable {bp : Nat → Nat} {c ql k j i : Nat}
theorem wvj_0 : wvj' bp c ql k 0 i = wv bp c ql k i := by unfold wvj'; rw [if_neg (by omega)]; rfl
theorem wvj_end : wvj' bp c ql k ql i = wv bp c ql (k + 1) i := rfl
theorem wvj_s : wvj' bp c ql k (j + 1) i = if i = k + j then wvj' bp c ql k j i + (bp k + c + 1) else wvj' bp c ql k j i := by
  unfold wvj'
  by_cases h : i = k + j
  · subst h
    rw [if_pos rfl, if_pos (by omega), if_neg (by omega)]; omega
  · rw [if_neg h]
    by_cases h2 : k ≤ i ∧ i - k < j
    · rw [if_pos h2, if_pos (by omega)]
    · rw [if_neg h2, if_neg (by omega)]
theorem wv_here (h : j < ql) : wvj' bp c ql k j (k + j) + (bp k + c + 1) = wv bp c ql (k + 1) (k + j) := by
  rw [wv_s]
  unfold wvj'
  rw [if_neg (by omega), if_pos (by omega)]; omega
end
namespace K78
variable {wf n : Nat} {m : Mu} {Q : D → Mu → Prop}
theorem product_rowW (cl : Nat → List D → Mu → R D) {p q : List Rat} {bp : Nat → Nat} {c N lf k : Nat} {T B : Nat → Int} {r : Rat} {x0 x1 x2 x3 x4 : Option D} {Q : Sl ⊕ D → Mu → Prop} {q0 : Sl → Mu → Prop}
    (hp : ∀ i s, p[i]? = some s → Bq (bp i) s) (hq : ∀ s ∈ q, Bq c s) (hN : k + q.length ≤ N) (hr : p[k]? = some r) (lq : q.length ≤ 300) (hb : ∀ i, 4 + wv bp c q.length (k + 1) i ≤ 400000)
    (hf : m[lf]? = some (.lst (rp N T B))) (hT : ∀ i, i < N → 0 < B i ∧ ((T i : Int) : Rat) = cv p q k i * ((B i : Int) : Rat) ∧ Bd (2 + wv bp c q.length k i) (T i) ∧ Bd (2 + wv bp c q.length k i) (B i))
    (hq0 : ∀ m' T' B' x0 x1 x2 x3 x4, Kp (· = lf) m m' → m'[lf]? = some (.lst (rp N T' B')) →
      (∀ i, i < N → 0 < B' i ∧ ((T' i : Int) : Rat) = cv p q (k + 1) i * ((B' i : Int) : Rat) ∧ Bd (2 + wv bp c q.length (k + 1) i) (T' i) ∧ Bd (2 + wv bp c q.length (k + 1) i) (B' i)) →
      q0 [some (pD p), some (pD q), some (.loc lf), some (.int k), x0, x1, x2, x3, x4] m') :
    (evSs cl wf b__law_product_2 [some (pD p), some (pD q), some (.loc lf), some (.int k), x0, x1, x2, x3, x4] m).to (nxt q0 Q) := by
  simp only [b__law_product_2, ss_cons, ss_nil, s_forE]
  simp [bound_ok (show q.length ≤ 1000000 by omega)]
  have rm : r ∈ p := List.mem_of_getElem? hr
  obtain ⟨I, hI⟩ : ∃ I : Nat → Sl → Mu → Prop, I = (fun j σ m' => Kp (· = lf) m m' ∧ ∃ (T' B' : Nat → Int) (x0 x1 x2 x3 x4 : Option D), σ = [some (pD p), some (pD q), some (.loc lf), some (.int k), x0, x1, x2, x3, x4] ∧ m'[lf]? = some (.lst (rp N T' B')) ∧
    ∀ i, i < N → 0 < B' i ∧ ((T' i : Int) : Rat) = cvj p q k j i * ((B' i : Int) : Rat) ∧ Bd (2 + wvj' bp c q.length k j i) (T' i) ∧ Bd (2 + wvj' bp c q.length k j i) (B' i)) := ⟨_, rfl⟩
  refine ft_of (rngD q.length) I (by simp [rngD]) (by rw [hI]; exact ⟨.refl, T, B, _, _, _, _, _, rfl, hf, fun i hi => by rw [cvj_0, wvj_0]; exact hT i hi⟩) (fun _ _ m _ => gives_rng _ m) ?_ ?_
  · intro j d σ m' hd h
    rw [hI] at h
    obtain ⟨k1, T', B', x0, x1, x2, x3, x4, rfl, f1, hT'⟩ := h
    obtain ⟨hj, rfl⟩ := rngD_at hd
    obtain ⟨s, hs⟩ : ∃ s, q[j]? = some s := ⟨_, List.getElem?_eq_getElem hj⟩
    have sm : s ∈ q := List.mem_of_getElem? hs
    refine ⟨[some (pD p), some (pD q), some (.loc lf), some (.int k), some (.int j), x1, x2, x3, x4], rfl, ?_⟩
    have hkN : k + j < N := by omega
    obtain ⟨c1, c2, c3, c4⟩ := hT' (k + j) hkN
    have e1 : ((k : Int) + (j : Int)) = ((k + j : Nat) : Int) := by omega
    have hix : L2.atI (rp N T' B') ((k : Int) + (j : Int)) = some (.tup [.int (T' (k + j)), .int (B' (k + j))]) := by rw [e1, atI_nat, rp_at hkN]
    have hbb : wvj' bp c q.length k j (k + j) + (bp k + c + 1) ≤ wv bp c q.length (k + 1) (k + j) := by
      rw [wv_here hj]; exact Nat.le_refl _
    have hb' := hb (k + j)
    have hr2 := hp k r hr
    have hs2 := hq s sm
    have m1 := hr2.2.mul hs2.2
    have m2 := hr2.1.mul hs2.1
    simp [b__law_product_1, idx_loc (listAt_lst f1), hix, hr, hs, setAll]
    refine ⟨mul_ok hr2.2 hs2.2 (by omega), mul_ok hr2.1 hs2.1 (by omega), mul_ok m2 c4 (by omega), mul_ok c3 m1 (by omega), mul_ok c4 m1 (by omega), ?_⟩
    refine ⟨_, by rw [e1]; exact putAt_l f1 (by simpa using hkN), ?_⟩
    rw [hI]
    refine ⟨k1.set (.inr rfl), fun i => if i = k + j then T' (k + j) * (r.den * s.den) + r.num * s.num * B' (k + j) else T' i, fun i => if i = k + j then B' (k + j) * (r.den * s.den) else B' i, _, _, _, _, _, rfl, ?_, ?_⟩
    · rw [set_at f1, rp_set]
    · intro i hi
      obtain ⟨d1, d2, d3, d4⟩ := hT' i hi
      rw [cvj_s, wvj_s]
      show 0 < (if i = k + j then B' (k + j) * (r.den * s.den) else B' i) ∧ (((if i = k + j then T' (k + j) * (r.den * s.den) + r.num * s.num * B' (k + j) else T' i) : Int) : Rat) = _ * (((if i = k + j then B' (k + j) * (r.den * s.den) else B' i) : Int) : Rat) ∧
        Bd _ (if i = k + j then T' (k + j) * (r.den * s.den) + r.num * s.num * B' (k + j) else T' i) ∧ Bd _ (if i = k + j then B' (k + j) * (r.den * s.den) else B' i)
      by_cases h : i = k + j
      · subst h
        simp only [if_true]
        refine ⟨Int.mul_pos d1 (Int.mul_pos den_pos den_pos), ?_, ?_, ?_⟩
        · simp only [Rat.intCast_add, Rat.intCast_mul, d2, num_q r, num_q s, getD_at hr, getD_at hs]
          grind
        · exact (((d3.mul m1).mono (show _ ≤ 2 + wvj' bp c q.length k j (k + j) + (bp k + c) by omega)).add ((m2.mul d4).mono (by omega))).mono (by omega)
        · exact (d4.mul m1).mono (by omega)
      · simp only [if_neg h]
        exact ⟨d1, d2, d3.mono (by omega), d4.mono (by omega)⟩
  · intro σ m' h
    rw [hI] at h
    obtain ⟨k1, T', B', x0, x1, x2, x3, x4, rfl, f1, hT'⟩ := h
    simp
    refine hq0 m' T' B' _ _ _ _ _ k1 f1 fun i hi => ?_
    obtain ⟨d1, d2, d3, d4⟩ := hT' i hi
    have e3 : (rngD q.length).length = q.length := by simp [rngD]
    rw [e3, cvj_end] at d2
    rw [e3, wvj_end] at d3 d4
    exact ⟨d1, d2, d3, d4⟩
theorem law_product_okW (hw : Fu wf) (hn : 3 ≤ n) {p q : List Rat} {bp : Nat → Nat} {c : Nat} (hp : ∀ i s, p[i]? = some s → Bq (bp i) s) (hq : ∀ r ∈ q, Bq c r) (hb : ∀ i, 4 + wv bp c q.length p.length i ≤ 4000) (lp : p.length ≤ 300) (lq : q.length ≤ 300)
    (k : ∀ m', Kp nox m m' → Q (pD (mulC p q)) m') : (callN Pr wf n f__law_product [pD p, pD q] m).to Q := by
  refine call_of (fn := p__law_product) rfl rfl (by omega) fun k' hk => ?_
  simp [p__law_product]
  have early : p = [] ∨ q = [] → Q (.tup []) m := by
    intro h
    have := k m .refl
    unfold mulC at this
    rw [if_pos h] at this
    exact this
  refine br_of (fun h => early (.inl h)) fun hpn => br_of (fun h => early (.inr h)) fun hqn => ?_
  have h1 : 0 < p.length := List.length_pos_iff.mpr hpn
  have h2 : 0 < q.length := List.length_pos_iff.mpr hqn
  obtain ⟨N, eN⟩ : ∃ N, N = p.length + q.length - 1 := ⟨_, rfl⟩
  have e1 : ((p.length : Int) + (q.length : Int) - 1) = (N : Int) := by omega
  simp [to_newL, e1, op_mulL at_new, rep_one, rp_zero, s_forE, bound_ok (show p.length ≤ 1000000 by omega)]
  refine ⟨by omega, by omega, ?_⟩
  have f0 : (m ++ [.lst [.tup [.int 0, .int 1]], .lst (rp N (fun _ => 0) (fun _ => 1))])[m.length + 1]? = some (.lst (rp N (fun _ => 0) (fun _ => 1))) := by
    rw [List.getElem?_append_right (by omega)]; simp
  obtain ⟨I, hI⟩ : ∃ I : Nat → Sl → Mu → Prop, I = (fun i σ m' => Kp nox m m' ∧ ∃ (T B : Nat → Int) (x x0 x1 x2 x3 x4 : Option D), σ = [some (pD p), some (pD q), some (.loc (m.length + 1)), x, x0, x1, x2, x3, x4] ∧ m'[m.length + 1]? = some (.lst (rp N T B)) ∧
    ∀ j, j < N → 0 < B j ∧ ((T j : Int) : Rat) = cv p q i j * ((B j : Int) : Rat) ∧ Bd (2 + wv bp c q.length i j) (T j) ∧ Bd (2 + wv bp c q.length i j) (B j)) := ⟨_, rfl⟩
  refine ft_of (rngD p.length) I (by simp [rngD]) (by rw [hI]; exact ⟨.new, _, _, _, _, _, _, _, _, rfl, f0, fun j _ => ⟨by decide, by simp [cv], Bd.mono (b := 1) (by unfold Bd; decide) (by omega), Bd.mono (b := 1) (by unfold Bd; decide) (by omega)⟩⟩) (fun _ _ m _ => gives_rng _ m) ?_ ?_
  · intro i d σ m' hd h
    rw [hI] at h
    obtain ⟨k1, T, B, x, x0, x1, x2, x3, x4, rfl, f1, hT⟩ := h
    obtain ⟨hi, rfl⟩ := rngD_at hd
    obtain ⟨r, hr⟩ : ∃ r, p[i]? = some r := ⟨_, List.getElem?_eq_getElem hi⟩
    have hb3 : ∀ j, 4 + wv bp c q.length (i + 1) j ≤ 400000 := fun j => by
      have h1 := wv_mono (bp := bp) (c := c) (ql := q.length) (i := j) (show i + 1 ≤ p.length by omega)
      have h2 := hb j
      omega
    refine ⟨[some (pD p), some (pD q), some (.loc (m.length + 1)), some (.int i), x0, x1, x2, x3, x4], rfl, ?_⟩
    refine product_rowW (bp := bp) (c := c) (k := i) (N := N) (T := T) (B := B) _ hp hq (by omega) hr lq hb3 f1 hT fun m4 T' B' x0 x1 x2 x3 x4 k4 f4 hT' => ?_
    rw [hI]
    exact ⟨k1.fresh k4 (fun l e => .inl (by rw [e]; omega)), T', B', _, _, _, _, _, _, rfl, f4, hT'⟩
  · intro σ m' h
    rw [hI] at h
    obtain ⟨k1, T, B, x, x0, x1, x2, x3, x4, rfl, f1, hT⟩ := h
    have e3 : (rngD p.length).length = p.length := by simp [rngD]
    rw [e3] at hT
    simp
    refine ev_compM (List.range N) (fun i => .tup [.int (T i), .int (B i)]) (fun i => fr (cv p q p.length i)) (by simp; omega) ?_ ?_ ?_
    · simp [srcOf_loc (listAt_lst f1)]
      exact ⟨.refl, fun m2 h => gives_dy (listAt_lst (h.at_ f1 id))⟩
    · intro i m2 hi hk2
      have hi : i < N := by simpa using hi
      obtain ⟨d1, d2, d3, d4⟩ := hT i hi
      have hbi := hb i
      refine ⟨_, rfl, ?_⟩
      simp [wipeD]
      refine law_fraction_ok hw (by omega) d1 (d4.mono (by omega)) ⟨?_, .refl⟩
      rw [divInt_of d2 (by omega)]
    · intro l m2 hk2 hl hm2
      refine law_cut_ok hw (by omega) (p := mulQ p q) (by rw [hm2]; unfold mulQ; rw [← eN, List.map_map]; rfl) (by unfold mulQ; simp; omega) fun m3 k3 => ?_
      have := k m3 ((k1.trans hk2).trans k3)
      unfold mulC at this
      rw [if_neg (by rintro (h | h); exact hpn h; exact hqn h)] at this
      simpa using this
end K78
end Mn
end

section
namespace Mn
open PySem
def rq (N : Nat) (F : Nat → Rat) : List Rat := (List.range N).map F
theorem rq_len {N : Nat} {F : Nat → Rat} : (rq N F).length = N := by simp [rq]
theorem rq_at {N : Nat} {F : Nat → Rat} {i : Nat} (h : i < N) : (rq N F)[i]? = some (F i) := by simp [rq, List.getElem?_range h]
theorem rq_getD {N : Nat} {F : Nat → Rat} {i : Nat} : (rq N F).getD i 0 = if i < N then F i else 0 := by
  by_cases h : i < N
  · rw [if_pos h, List.getD_eq_getElem?_getD, rq_at h]; rfl
  · rw [if_neg h, getD_out (by rw [rq_len]; omega)]
theorem rq_set {N : Nat} {F : Nat → Rat} {k : Nat} {v : Rat} : (rq N F).set k v = rq N fun i => if i = k then v else F i := by
  apply List.ext_getElem?
  intro i
  by_cases hi : i < N
  · rw [rq_at hi]
    by_cases h : i = k
    · subst h
      rw [List.getElem?_set_self (by rw [rq_len]; exact hi), if_pos rfl]
    · rw [List.getElem?_set_ne (Ne.symm h), rq_at hi, if_neg h]
  · rw [List.getElem?_eq_none (by rw [List.length_set, rq_len]; omega), List.getElem?_eq_none (by rw [rq_len]; omega)]
theorem rq_of (p : List Rat) : rq p.length (fun i => p.getD i 0) = p := range_getD p
theorem rq_congr {N : Nat} {F G : Nat → Rat} (h : ∀ i, i < N → F i = G i) : rq N F = rq N G := List.map_congr_left fun i hi => h i (List.mem_range.mp hi)
theorem rq_zero {N : Nat} : List.replicate N (0 : Rat) = rq N fun _ => 0 := by
  apply List.ext_getElem?
  intro i
  by_cases h : i < N
  · rw [rq_at h, List.getElem?_replicate, if_pos h]
  · rw [List.getElem?_eq_none (by simpa using h), List.getElem?_eq_none (by rw [rq_len]; omega)]
theorem cutN_zero (p : List Rat) : ∀ (k i : Nat), cutN p k ≤ i → i < k → p.getD i 0 = 0
  | 0, i, _, h => by omega
  | k + 1, i, h, hi => by
    unfold cutN at h
    split at h
    · rename_i hz
      by_cases hk : i = k
      · subst hk
        rw [List.getD_eq_getElem?_getD, hz]; rfl
      · exact cutN_zero p k i h (by omega)
    · omega
theorem trim_getD (p : List Rat) (i : Nat) : (trim p).getD i 0 = p.getD i 0 := by
  unfold trim
  by_cases h : i < cutN p p.length
  · rw [List.getD_eq_getElem?_getD, List.getElem?_take_of_lt h, ← List.getD_eq_getElem?_getD]
  · rw [getD_out (by rw [List.length_take]; omega)]
    by_cases hi : i < p.length
    · rw [cutN_zero p p.length i (by omega) hi]
    · rw [getD_out (by omega)]
theorem can_last {p : List Rat} (h : Can p) (hp : 0 < p.length) : p.getD (p.length - 1) 0 ≠ 0 := by
  unfold Can at h
  rw [List.getLast?_eq_getElem?] at h
  rw [List.getD_eq_getElem?_getD, List.getElem?_eq_getElem (by omega)]
  rw [List.getElem?_eq_getElem (by omega)] at h
  exact fun z => h (congrArg some z)
theorem can_ext {p q : List Rat} (hp : Can p) (hq : Can q) (h : ∀ i, p.getD i 0 = q.getD i 0) : p = q := by
  have hl : p.length = q.length := by
    rcases Nat.lt_trichotomy p.length q.length with hl | hl | hl
    · exact absurd ((h (q.length - 1)).symm.trans (getD_out (by omega))) (can_last hq (by omega))
    · exact hl
    · exact absurd ((h (p.length - 1)).trans (getD_out (by omega))) (can_last hp (by omega))
  rw [← rq_of p, ← rq_of q, hl]
  exact rq_congr fun i _ => h i
theorem can_of {p : List Rat} (hp : p.length = 0 ∨ p.getD (p.length - 1) 0 ≠ 0) : Can p := by
  unfold Can
  rw [List.getLast?_eq_getElem?]
  rcases hp with hp | hp
  · have : p = [] := List.length_eq_zero_iff.mp hp
    subst this; simp
  · intro z
    apply hp
    rw [List.getD_eq_getElem?_getD, z]; rfl
theorem trim_lt {p : List Rat} {k : Nat} (h : ∀ i, k ≤ i → p.getD i 0 = 0) : (trim p).length ≤ k := by
  rcases Nat.lt_or_ge k (trim p).length with hl | hl
  · have h1 := can_last (can_trim p) (by omega)
    rw [trim_getD] at h1
    exact absurd (h _ (by omega)) h1
  · exact hl
theorem addQ_getD (p q : List Rat) (i : Nat) : (addQ p q).getD i 0 = p.getD i 0 + q.getD i 0 := by
  have e : addQ p q = rq (max p.length q.length) fun i => p.getD i 0 + q.getD i 0 := rfl
  rw [e, rq_getD]
  split
  · rfl
  · rw [getD_out (p := p) (by omega), getD_out (p := q) (by omega), Rat.add_zero]
theorem cv_out {p q : List Rat} {i : Nat} (hi : p.length + q.length - 1 ≤ i) (hq : 0 < q.length) : ∀ k, k ≤ p.length → cv p q k i = 0
  | 0, _ => rfl
  | k + 1, hk => by
    unfold cv
    rw [cv_out hi hq k (by omega), Rat.zero_add]
    split
    · rw [getD_out (p := q) (by omega), Rat.mul_zero]
    · rfl
theorem mulC_getD (p q : List Rat) (i : Nat) : (mulC p q).getD i 0 = cv p q p.length i := by
  unfold mulC
  split
  · rename_i h
    rcases h with rfl | rfl
    · rfl
    · have : ∀ k, cv p [] k i = 0 := by
        intro k
        induction k with
        | zero => rfl
        | succ k ih =>
          unfold cv
          rw [ih, Rat.zero_add]
          split
          · show p.getD k 0 * 0 = 0
            rw [Rat.mul_zero]
          · rfl
      rw [this]; rfl
  · rename_i h
    have hq : 0 < q.length := List.length_pos_iff.mpr fun z => h (.inr z)
    have e : mulQ p q = rq (p.length + q.length - 1) (cv p q p.length) := rfl
    rw [trim_getD, e, rq_getD]
    split
    · rfl
    · rw [cv_out (by omega) hq _ (Nat.le_refl _)]
/-- one step: at, the fractions so far -/
def stp (q : List Rat) (at_ : Nat) (L : Nat → Rat) : Nat → Rat := fun i => if at_ ≤ i ∧ i < at_ + q.length then L i + q.getD (i - at_) 0 * -(L (at_ + q.length - 1) / q.getD (q.length - 1) 0) else L i
/-- behind t steps, from at = N - 1 down -/
def LS (q : List Rat) (N : Nat) (L : Nat → Rat) : Nat → Nat → Rat
  | 0 => L
  | t + 1 => stp q (N - 1 - t) (LS q N L t)
def fct (q : List Rat) (N : Nat) (L : Nat → Rat) (t : Nat) : Rat := LS q N L t (N - 1 - t + q.length - 1) / q.getD (q.length - 1) 0
/-- the quotient's fraction at a place -/
def Qf (q : List Rat) (N : Nat) (L : Nat → Rat) (a : Nat) : Rat := fct q N L (N - 1 - a)
section
variable {q : List Rat} {N : Nat} {L : Nat → Rat}
/-- what is above falls to nought -/
theorem LS_top (hq : 0 < q.length) (hl : q.getD (q.length - 1) 0 ≠ 0) (h0 : ∀ i, N + q.length - 1 ≤ i → L i = 0) : ∀ t, t ≤ N → ∀ i, N - t + q.length - 1 ≤ i → LS q N L t i = 0
  | 0, _, i, hi => h0 i (by omega)
  | t + 1, ht, i, hi => by
    have ih := LS_top hq hl h0 t (by omega)
    show stp q (N - 1 - t) (LS q N L t) i = 0
    unfold stp
    split
    · rename_i h
      have e : i = N - 1 - t + q.length - 1 := by
        have := h.2
        omega
      rw [e]
      have e2 : N - 1 - t + q.length - 1 - (N - 1 - t) = q.length - 1 := by omega
      rw [e2]
      have : ∀ a b : Rat, b ≠ 0 → a + b * -(a / b) = 0 := fun a b hb => by
        rw [Rat.mul_neg, Rat.mul_comm, Rat.div_mul_cancel hb, Rat.add_neg_cancel]
      exact this _ _ hl
    · exact ih i (by omega)
end
/-- sums of products -/
def cF (F : Nat → Rat) (q : List Rat) : Nat → Nat → Rat
  | 0, _ => 0
  | k + 1, i => cF F q k i + (if k ≤ i then F k * q.getD (i - k) 0 else 0)
theorem cF_s {F : Nat → Rat} {q : List Rat} {k i : Nat} : cF F q (k + 1) i = cF F q k i + (if k ≤ i then F k * q.getD (i - k) 0 else 0) := rfl
theorem cv_cF {N : Nat} {F : Nat → Rat} {q : List Rat} {i : Nat} : ∀ {k : Nat}, k ≤ N → cv (rq N F) q k i = cF F q k i
  | 0, _ => rfl
  | k + 1, h => by
    unfold cv
    rw [cv_cF (by omega), rq_getD, if_pos (show k < N by omega), cF_s]
theorem cF_congr {F G : Nat → Rat} {q : List Rat} {i : Nat} : ∀ {k : Nat}, (∀ j, j < k → F j = G j) → cF F q k i = cF G q k i
  | 0, _ => rfl
  | k + 1, h => by rw [cF_s, cF_s, cF_congr fun j hj => h j (by omega), h k (by omega)]
theorem cF_add {F G : Nat → Rat} {q : List Rat} {i : Nat} : ∀ {k : Nat}, cF (fun j => F j + G j) q k i = cF F q k i + cF G q k i
  | 0 => by simp [cF, Rat.add_zero]
  | k + 1 => by
    rw [cF_s, cF_s, cF_s, cF_add]
    split
    · rw [Rat.add_mul]; grind
    · grind
theorem cF_zero {q : List Rat} {i : Nat} : ∀ {k : Nat}, cF (fun _ => 0) q k i = 0
  | 0 => rfl
  | k + 1 => by rw [cF_s, cF_zero, Rat.zero_add]; split <;> simp
theorem cF_one {v : Rat} {q : List Rat} {c i : Nat} : ∀ {k : Nat}, cF (fun a => if a = c then v else 0) q k i = if c < k ∧ c ≤ i then v * q.getD (i - c) 0 else 0
  | 0 => by rw [if_neg (by omega)]; rfl
  | k + 1 => by
    rw [cF_s, cF_one]
    by_cases hk : k = c
    · subst hk
      rw [if_neg (by omega), if_pos rfl, Rat.zero_add]
      by_cases hi : k ≤ i
      · rw [if_pos hi, if_pos ⟨by omega, hi⟩]
      · rw [if_neg hi, if_neg (by omega)]
    · rw [if_neg hk]
      have e0 : (if k ≤ i then (0 : Rat) * q.getD (i - k) 0 else 0) = 0 := by split <;> simp
      rw [e0, Rat.add_zero]
      by_cases h : c < k ∧ c ≤ i
      · rw [if_pos h, if_pos ⟨by omega, h.2⟩]
      · rw [if_neg h, if_neg (by omega)]
/-- the quotient behind t steps -/
def Qt (q : List Rat) (N : Nat) (L : Nat → Rat) (t : Nat) : Nat → Rat := fun a => if N - t ≤ a ∧ a < N then Qf q N L a else 0
section
variable {q : List Rat} {N : Nat} {L : Nat → Rat}
theorem Qt_s {t : Nat} (ht : t < N) : Qt q N L (t + 1) = fun a => Qt q N L t a + (if a = N - 1 - t then fct q N L t else 0) := by
  funext a
  unfold Qt
  by_cases h : a = N - 1 - t
  · subst h
    rw [if_pos (by omega), if_neg (by omega), if_pos rfl, Rat.zero_add]
    unfold Qf
    rw [show N - 1 - (N - 1 - t) = t by omega]
  · rw [if_neg h, Rat.add_zero]
    by_cases h2 : N - t ≤ a ∧ a < N
    · rw [if_pos h2, if_pos (by omega)]
    · rw [if_neg h2, if_neg (by omega)]
/-- quotient times divisor, and what is left -/
theorem LS_sum (hq : 0 < q.length) (i : Nat) : ∀ t, t ≤ N → cF (Qt q N L t) q N i + LS q N L t i = L i
  | 0, _ => by
    have : cF (Qt q N L 0) q N i = 0 := by
      rw [cF_congr (G := fun _ => 0) fun j hj => by unfold Qt; rw [if_neg (by omega)]]
      exact cF_zero
    rw [this, Rat.zero_add]; rfl
  | t + 1, ht => by
    have ih := LS_sum hq i t (by omega)
    rw [Qt_s (by omega), cF_add, cF_one]
    show _ + _ + stp q (N - 1 - t) (LS q N L t) i = _
    unfold stp
    have ef : LS q N L t (N - 1 - t + q.length - 1) / q.getD (q.length - 1) 0 = fct q N L t := rfl
    rw [ef]
    by_cases h : N - 1 - t ≤ i ∧ i < N - 1 - t + q.length
    · rw [if_pos h, if_pos ⟨by omega, h.1⟩, ← ih]
      grind
    · rw [if_neg h]
      have : (if N - 1 - t < N ∧ N - 1 - t ≤ i then fct q N L t * q.getD (i - (N - 1 - t)) 0 else 0) = 0 := by
        split
        · rw [getD_out (by omega), Rat.mul_zero]
        · rfl
      rw [this, Rat.add_zero, ih]
end
end Mn
end

section
namespace Mn
open PySem
namespace K78
def Ov (A E : Nat) (x : Rat) : Prop := ∃ n : Int, x * ((E : Int) : Rat) = (n : Rat) ∧ n.natAbs ≤ A
theorem Ov.mono {A A' E : Nat} {x : Rat} (h : Ov A E x) (hA : A ≤ A') : Ov A' E x := by
  obtain ⟨n, h1, h2⟩ := h
  exact ⟨n, h1, by omega⟩
theorem Ov.zero {E : Nat} : Ov 0 E 0 := ⟨0, by rw [Rat.zero_mul]; rfl, by simp⟩
theorem Ov.scale {A E c : Nat} {x : Rat} (h : Ov A E x) : Ov (A * c) (E * c) x := by
  obtain ⟨n, h1, h2⟩ := h
  refine ⟨n * c, ?_, by rw [Int.natAbs_mul, Int.natAbs_natCast]; exact Nat.mul_le_mul_right _ h2⟩
  have e : (((E * c : Nat) : Int) : Rat) = ((E : Int) : Rat) * ((c : Int) : Rat) := by rw [Int.natCast_mul, Rat.intCast_mul]
  rw [e, ← Rat.mul_assoc, h1, Rat.intCast_mul]
theorem Ov.bq {A E b : Nat} {x : Rat} (h : Ov A E x) (hE : 0 < E) (hA : A < 2 ^ b) (hE2 : E < 2 ^ b) : Bq b x := by
  obtain ⟨n, h1, h2⟩ := h
  have hE0 : (E : Int) ≠ 0 := by omega
  have e : Rat.divInt n (E : Int) = x := divInt_of h1.symm hE0
  rw [← e]
  exact divInt_bd (by unfold Bd; omega) (by unfold Bd; simpa using hE2) hE0
theorem icast_ne {i : Int} (h : i ≠ 0) : ((i : Int) : Rat) ≠ 0 := fun z => h (by exact_mod_cast z)
/-- the numbers by one bottom for a row of fractions -/
theorem cden {b : Nat} : ∀ {p : List Rat}, (∀ x ∈ p, Bq b x) → ∃ E : Nat, 0 < E ∧ E ≤ 2 ^ (b * p.length) ∧ ∀ x ∈ p, Ov (2 ^ (b * (p.length + 1))) E x
  | [], _ => ⟨1, by omega, by simp, fun x hx => by cases hx⟩
  | y :: p, h => by
    obtain ⟨E, h1, h2, h3⟩ := cden (p := p) fun x hx => h x (by simp [hx])
    have hy := h y (by simp)
    have d1 : y.den < 2 ^ b := by
      have := hy.2
      unfold Bd at this
      simpa using this
    have d2 : y.num.natAbs < 2 ^ b := hy.1
    have d0 : 0 < y.den := by have := y.den_nz; omega
    refine ⟨E * y.den, Nat.mul_pos h1 d0, ?_, fun x hx => ?_⟩
    · rw [List.length_cons, Nat.mul_succ, Nat.pow_add]
      exact Nat.mul_le_mul h2 (by omega)
    · rcases List.mem_cons.mp hx with rfl | hx
      · refine ⟨x.num * E, ?_, ?_⟩
        · have e : (((E * x.den : Nat) : Int) : Rat) = ((x.den : Int) : Rat) * ((E : Int) : Rat) := by rw [Nat.mul_comm, Int.natCast_mul, Rat.intCast_mul]
          rw [e, ← Rat.mul_assoc, ← num_q, Rat.intCast_mul]
        · rw [Int.natAbs_mul, Int.natAbs_natCast, List.length_cons]
          have : 2 ^ (b * (p.length + 1 + 1)) = 2 ^ b * 2 ^ (b * (p.length + 1)) := by rw [← Nat.pow_add]; congr 1; rw [Nat.mul_succ b (p.length + 1)]; omega
          rw [this]
          exact Nat.mul_le_mul (by omega) (Nat.le_trans h2 (Nat.pow_le_pow_right (by omega) (Nat.mul_le_mul_left _ (by omega))))
      · refine ((h3 x hx).scale (c := y.den)).mono ?_
        rw [List.length_cons]
        have : 2 ^ (b * (p.length + 1 + 1)) = 2 ^ (b * (p.length + 1)) * 2 ^ b := by rw [← Nat.pow_add]; congr 1
        rw [this]
        exact Nat.mul_le_mul_left _ (by omega)
/-- one step's fractions -/
theorem Ov.step {A E B d : Nat} {x y s l : Rat} (hx : Ov A E x) (hy : Ov A E y) (hs : Ov B d s) (hl : Ov B d l) (hl0 : l ≠ 0) (hd : 0 < d) :
    ∃ Q : Int, l * ((d : Int) : Rat) = (Q : Rat) ∧ Q ≠ 0 ∧ Q.natAbs ≤ B ∧ Ov (2 * A * B) (E * Q.natAbs) (x + s * -(y / l)) ∧ Ov (A * d) (E * Q.natAbs) (y / l) := by
  obtain ⟨n, h1, h2⟩ := hx
  obtain ⟨k, h3, h4⟩ := hy
  obtain ⟨S, h5, h6⟩ := hs
  obtain ⟨Q, h7, h8⟩ := hl
  have hdq : ((d : Int) : Rat) ≠ 0 := icast_ne (by omega)
  have hQ : Q ≠ 0 := by
    rintro rfl
    have h7' : l * ((d : Int) : Rat) = 0 := h7
    rcases Rat.mul_eq_zero.mp h7' with h | h
    · exact hl0 h
    · exact hdq h
  obtain ⟨σ, hσ, hσ2⟩ : ∃ σ : Int, (Q.natAbs : Int) = σ * Q ∧ σ.natAbs = 1 := by
    rcases Int.lt_or_gt_of_ne hQ with h | h
    · exact ⟨-1, by omega, rfl⟩
    · exact ⟨1, by omega, rfl⟩
  have eE : (((E * Q.natAbs : Nat) : Int) : Rat) = ((E : Int) : Rat) * ((σ : Rat) * (Q : Rat)) := by rw [Int.natCast_mul, Rat.intCast_mul, hσ, Rat.intCast_mul]
  have sl : s * (y / l) * (Q : Rat) = (S : Rat) * y := by
    have e1 : y / l * l = y := Rat.div_mul_cancel hl0
    rw [← h7, ← h5]
    calc s * (y / l) * (l * ((d : Int) : Rat)) = s * ((d : Int) : Rat) * (y / l * l) := by grind
      _ = s * ((d : Int) : Rat) * y := by rw [e1]
  refine ⟨Q, h7, hQ, h8, ⟨σ * (n * Q - S * k), ?_, ?_⟩, ⟨σ * (k * d), ?_, ?_⟩⟩
  · rw [eE]
    have e1 : (((σ * (n * Q - S * k) : Int)) : Rat) = (σ : Rat) * ((n : Rat) * (Q : Rat) - (S : Rat) * (k : Rat)) := by rw [Rat.intCast_mul, Rat.intCast_sub, Rat.intCast_mul, Rat.intCast_mul]
    rw [e1, ← h1, ← h3]
    calc (x + s * -(y / l)) * (((E : Int) : Rat) * ((σ : Rat) * (Q : Rat))) = (σ : Rat) * (x * ((E : Int) : Rat) * (Q : Rat) - s * (y / l) * (Q : Rat) * ((E : Int) : Rat)) := by grind
      _ = (σ : Rat) * (x * ((E : Int) : Rat) * (Q : Rat) - (S : Rat) * y * ((E : Int) : Rat)) := by rw [sl]
      _ = _ := by grind
  · rw [Int.natAbs_mul, hσ2, Nat.one_mul]
    have e1 : (n * Q).natAbs ≤ A * B := by rw [Int.natAbs_mul]; exact Nat.mul_le_mul h2 h8
    have e2 : (S * k).natAbs ≤ B * A := by rw [Int.natAbs_mul]; exact Nat.mul_le_mul h6 h4
    have e3 : 2 * A * B = A * B + B * A := by rw [Nat.mul_comm B A, Nat.mul_assoc]; omega
    omega
  · rw [eE]
    have e1 : (((σ * (k * d) : Int)) : Rat) = (σ : Rat) * ((k : Rat) * ((d : Int) : Rat)) := by rw [Rat.intCast_mul, Rat.intCast_mul]
    have e2 : y / l * l = y := Rat.div_mul_cancel hl0
    rw [e1, ← h3, ← h7]
    calc y / l * (((E : Int) : Rat) * ((σ : Rat) * (l * ((d : Int) : Rat)))) = (σ : Rat) * (y / l * l * ((E : Int) : Rat) * ((d : Int) : Rat)) := by grind
      _ = _ := by rw [e2]
  · rw [Int.natAbs_mul, hσ2, Nat.one_mul, Int.natAbs_mul, Int.natAbs_natCast]
    exact Nat.mul_le_mul_right _ h4
/-- all fractions of all steps -/
theorem LS_ov {q : List Rat} {N A E B d : Nat} {L : Nat → Rat} (hq : 0 < q.length) (hl : q.getD (q.length - 1) 0 ≠ 0) (hd : 0 < d) (hB : 0 < B) (hE : 0 < E) (hqo : ∀ j, Ov B d (q.getD j 0)) (hL : ∀ i, Ov A E (L i)) :
    ∀ t, ∃ E' : Nat, 0 < E' ∧ E' ≤ E * B ^ t ∧ (∀ i, Ov (A * (2 * B) ^ t) E' (LS q N L t i))
  | 0 => ⟨E, hE, by simp, fun i => by show Ov _ _ (L i); simpa using hL i⟩
  | t + 1 => by
    obtain ⟨E', h1, h2, h3⟩ := LS_ov hq hl hd hB hE hqo hL t
    obtain ⟨Q, e1, e2, e3, _, _⟩ := Ov.step (h3 0) (h3 0) (hqo 0) (hqo (q.length - 1)) hl hd
    have hQ : 0 < Q.natAbs := by omega
    refine ⟨E' * Q.natAbs, Nat.mul_pos h1 hQ, ?_, fun i => ?_⟩
    · rw [Nat.pow_succ, ← Nat.mul_assoc]; exact Nat.mul_le_mul h2 e3
    · have ea : 2 * (A * (2 * B) ^ t) * B = A * (2 * B) ^ (t + 1) := by rw [Nat.pow_succ]; generalize (2 * B) ^ t = X; grind
      show Ov _ _ (stp q (N - 1 - t) (LS q N L t) i)
      unfold stp
      split
      · obtain ⟨Q', f1, f2, f3, f4, _⟩ := Ov.step (h3 i) (h3 (N - 1 - t + q.length - 1)) (hqo (i - (N - 1 - t))) (hqo (q.length - 1)) hl hd
        have : Q' = Q := by
          have := f1.symm.trans e1
          exact_mod_cast this
        subst this
        rw [← ea]; exact f4
      · refine ((h3 i).scale (c := Q.natAbs)).mono ?_
        rw [← ea]
        calc A * (2 * B) ^ t * Q.natAbs ≤ A * (2 * B) ^ t * B := Nat.mul_le_mul_left _ e3
          _ ≤ 2 * (A * (2 * B) ^ t) * B := Nat.mul_le_mul_right _ (by omega)
end K78
end Mn
end

section
namespace Mn
open PySem
theorem call_rx {P : Pg} {wf n f : Nat} {fn : Fn} {ds : List D} {m : Mu} {X : Str → List (Str × D) → Mu → Prop} (hf : P[f]? = some fn) (hl : ds.length = fn.ps.length) (hn : 1 ≤ n)
    (h : ∀ k, n = k + 1 → (evSs (callN P wf k) wf fn.body (ds.map some ++ List.replicate (fn.N.length - ds.length) none) m).rx X) : (callN P wf n f ds m).rx X := by
  obtain ⟨k, rfl⟩ : ∃ k, n = k + 1 := ⟨n - 1, by omega⟩
  unfold callN
  simp only [hf, hl, if_true]
  have h1 := h k rfl
  rw [hl] at h1
  exact rx_l h1
namespace K78
variable {wf n : Nat} {m : Mu} {Q : D → Mu → Prop}
theorem LS_bq {p q : List Rat} {b1 c N bb : Nat} (hp : ∀ x ∈ p, Bq b1 x) (hq : ∀ x ∈ q, Bq c x) (hq0 : 0 < q.length) (cq : Can q) (lp : p.length ≤ 8) (lq : q.length ≤ 8) (hbb : b1 * 9 + N * (c * 9 + 1) + c * 17 + 2 ≤ bb) :
    ∀ t, t ≤ N → (∀ i, Bq bb (LS q N (fun i => p.getD i 0) t i)) ∧ Bq bb (fct q N (fun i => p.getD i 0) t) := by
  intro t ht
  obtain ⟨E, e1, e2, e3⟩ := cden hp
  obtain ⟨d, d1, d2, d3⟩ := cden hq
  have hl := can_last cq hq0
  have pw : ∀ {a b : Nat}, a ≤ b → 2 ^ a ≤ 2 ^ b := fun h => Nat.pow_le_pow_right (by omega) h
  have hL : ∀ i, Ov (2 ^ (b1 * 9)) E (p.getD i 0) := by
    intro i
    by_cases hi : i < p.length
    · have e := List.getElem?_eq_getElem hi
      rw [getD_at e]
      exact (e3 _ (List.getElem_mem hi)).mono (pw (Nat.mul_le_mul_left _ (by omega)))
    · rw [getD_out (by omega)]; exact Ov.zero.mono (Nat.zero_le _)
  have hQ : ∀ i, Ov (2 ^ (c * 9)) d (q.getD i 0) := by
    intro i
    by_cases hi : i < q.length
    · have e := List.getElem?_eq_getElem hi
      rw [getD_at e]
      exact (d3 _ (List.getElem_mem hi)).mono (pw (Nat.mul_le_mul_left _ (by omega)))
    · rw [getD_out (by omega)]; exact Ov.zero.mono (Nat.zero_le _)
  obtain ⟨E', f1, f2, f3⟩ := LS_ov (N := N) hq0 hl d1 (Nat.pow_pos (by omega)) e1 hQ hL t
  have a1 : 2 ^ (b1 * 9) * (2 * 2 ^ (c * 9)) ^ t ≤ 2 ^ (b1 * 9 + t * (c * 9 + 1)) := by
    rw [show 2 * 2 ^ (c * 9) = 2 ^ (c * 9 + 1) by rw [Nat.pow_succ]; omega, ← Nat.pow_mul, ← Nat.pow_add]
    exact pw (by rw [Nat.mul_comm (c * 9 + 1) t]; omega)
  have ht2 : t * (c * 9 + 1) ≤ N * (c * 9 + 1) := Nat.mul_le_mul_right _ ht
  have ht3 : (c * 9) * t ≤ N * (c * 9 + 1) := by rw [Nat.mul_comm]; exact Nat.mul_le_mul ht (by omega)
  have a2 : E' ≤ 2 ^ (b1 * 8 + (c * 9) * t) := by
    refine Nat.le_trans f2 ?_
    rw [Nat.pow_add, Nat.pow_mul 2 (c * 9) t]
    exact Nat.mul_le_mul (Nat.le_trans e2 (pw (Nat.mul_le_mul_left _ lp))) (Nat.le_refl _)
  have lt : ∀ {a b : Nat}, a < b → 2 ^ a < 2 ^ b := fun h => Nat.pow_lt_pow_right (by omega) h
  refine ⟨fun i => ((f3 i).mono a1).bq f1 (lt (by omega)) (Nat.lt_of_le_of_lt a2 (lt (by omega))), ?_⟩
  obtain ⟨Qi, g1, g2, g3, _, g5⟩ := Ov.step (f3 (N - 1 - t + q.length - 1)) (f3 (N - 1 - t + q.length - 1)) (hQ 0) (hQ (q.length - 1)) hl d1
  refine g5.bq (Nat.mul_pos f1 (by omega)) ?_ ?_
  · refine Nat.lt_of_le_of_lt (Nat.mul_le_mul a1 d2) ?_
    rw [← Nat.pow_add]
    have : c * q.length ≤ c * 8 := Nat.mul_le_mul_left _ lq
    exact lt (by omega)
  · refine Nat.lt_of_le_of_lt (Nat.mul_le_mul a2 g3) ?_
    rw [← Nat.pow_add]
    exact lt (by omega)
theorem over_eq (q r : Rat) (h : r ≠ 0) : Rat.divInt (q.num * r.den) (q.den * r.num) = q / r := by
  have h1 : r.num ≠ 0 := fun z => h (Rat.num_eq_zero.mp z)
  refine divInt_of ?_ (Int.mul_ne_zero den_ne h1)
  simp only [Rat.intCast_mul]
  rw [num_q q, num_q r]
  have e : q / r * r = q := Rat.div_mul_cancel h
  calc q * ((q.den : Int) : Rat) * ((r.den : Int) : Rat) = (q / r * r) * ((q.den : Int) : Rat) * ((r.den : Int) : Rat) := by rw [e]
    _ = _ := by grind
theorem fraction_over_ok (hw : Fu wf) (hn : 3 ≤ n) {q r : Rat} {b c : Nat} (h1 : Bq b q) (h2 : Bq c r) (hr : r ≠ 0) (hb : b + c ≤ 4000) (k : Q (fr (q / r)) m) : (callN Pr wf n f_fraction_over [fr q, fr r] m).to Q := by
  refine call_of (fn := p_fraction_over) rfl rfl (by omega) fun k' hk => ?_
  have hne : r.num ≠ 0 := fun z => hr (Rat.num_eq_zero.mp z)
  simp [p_fraction_over, fr]
  refine ⟨mul_ok h1.1 h2.2 (by omega), mul_ok h1.2 h2.1 (by omega), ?_⟩
  refine fraction_of_ok hw (by omega) (Int.mul_ne_zero den_ne hne) ((h1.2.mul h2.1).mono (by omega)) ?_
  rw [over_eq q r hr]; exact k
theorem fr_negD (f : Rat) : D.tup [D.int (-f.num), D.int f.den] = fr (-f) := by
  unfold fr
  rw [Rat.neg_num, Rat.neg_den]
theorem stp_zero {q : List Rat} {a : Nat} {L : Nat → Rat} (h : L (a + q.length - 1) / q.getD (q.length - 1) 0 = 0) : stp q a L = L := by
  funext i
  unfold stp
  rw [h]
  split
  · simp [Rat.add_zero]
  · rfl
/-- quotient and rest as the program tells them -/
def quo (p q : List Rat) : List Rat := trim (rq (p.length + 1 - q.length) (Qf q (p.length + 1 - q.length) fun i => p.getD i 0))
def rst (p q : List Rat) : List Rat := trim (rq p.length (LS q (p.length + 1 - q.length) (fun i => p.getD i 0) (p.length + 1 - q.length)))
end K78
end Mn
end

section
namespace Mn
open PySem
namespace K78
section
variable {q : List Rat} {N : Nat} {L : Nat → Rat}
theorem fct_zero {t : Nat} (h : LS q N L t (N - 1 - t + q.length - 1) = 0) : fct q N L t = 0 := by
  unfold fct
  rw [h, Rat.div_def, Rat.zero_mul]
/-- where nothing is above, the steps change nothing -/
theorem LS_skip {t : Nat} : ∀ d, t + d ≤ N → (∀ i, N - (t + d) + q.length - 1 ≤ i → LS q N L t i = 0) → LS q N L (t + d) = LS q N L t ∧ Qt q N L (t + d) = Qt q N L t
  | 0, _, _ => ⟨rfl, rfl⟩
  | d + 1, hd, h => by
    obtain ⟨h1, h2⟩ := LS_skip d (by omega) fun i hi => h i (by omega)
    have hz : fct q N L (t + d) = 0 := fct_zero (by rw [h1]; exact h _ (by omega))
    constructor
    · show stp q (N - 1 - (t + d)) (LS q N L (t + d)) = _
      rw [stp_zero hz, h1]
    · show Qt q N L (t + d + 1) = _
      rw [Qt_s (by omega), hz, h2]
      funext a
      simp [Rat.add_zero]
end
def mvd (a : Nat) (f : Rat) : List Rat := rq (a + 1) fun k => if k = a then f else 0
theorem mvd_len {a : Nat} {f : Rat} : (mvd a f).length = a + 1 := rq_len
theorem mvd_at {a : Nat} {f : Rat} {i : Nat} {s : Rat} (h : (mvd a f)[i]? = some s) : (i < a ∧ s = 0) ∨ (i = a ∧ s = f) := by
  have hi := (List.getElem?_eq_some_iff.mp h).1
  rw [mvd_len] at hi
  unfold mvd at h
  rw [rq_at hi] at h
  have := (Option.some.inj h).symm
  split at this
  · exact .inr ⟨by assumption, this⟩
  · exact .inl ⟨by omega, this⟩
theorem mvd_fr {a : Nat} {f : Rat} : (mvd a f).map fr = List.replicate a (.tup [.int 0, .int 1]) ++ [fr f] := by
  unfold mvd rq
  rw [List.range_succ, List.map_append, List.map_append]
  congr 1
  · apply List.ext_getElem?
    intro i
    by_cases hi : i < a
    · rw [List.getElem?_map, List.getElem?_map, List.getElem?_range hi, List.getElem?_replicate, if_pos hi]
      show some (fr (if i = a then f else 0)) = _
      rw [if_neg (by omega)]; rfl
    · rw [List.getElem?_eq_none (by simp; omega), List.getElem?_eq_none (by simp; omega)]
  · simp
theorem mulM_getD {a i : Nat} {f : Rat} {q : List Rat} : (mulC (mvd a f) q).getD i 0 = if a ≤ i then f * q.getD (i - a) 0 else 0 := by
  rw [mulC_getD, mvd_len]
  unfold mvd
  rw [cv_cF (Nat.le_refl _), cF_one]
  by_cases h : a ≤ i
  · rw [if_pos ⟨by omega, h⟩, if_pos h]
  · rw [if_neg (fun z => h z.2), if_neg h]
theorem cv_c1 {p : List Rat} {c : Rat} {i : Nat} : ∀ k, cv p [c] k i = if i < k then p.getD i 0 * c else 0
  | 0 => by rw [if_neg (by omega)]; rfl
  | k + 1 => by
    unfold cv
    rw [cv_c1 k]
    by_cases h : k ≤ i
    · rw [if_pos h, if_neg (by omega), Rat.zero_add]
      by_cases h2 : i = k
      · subst h2
        rw [if_pos (by omega), show i - i = 0 by omega]; rfl
      · rw [if_neg (by omega), getD_out (p := [c]) (i := i - k) (by show 1 ≤ _; omega), Rat.mul_zero]
    · rw [if_neg h, if_pos (by omega), if_pos (by omega), Rat.add_zero]
theorem mulN_getD {p : List Rat} {c : Rat} {i : Nat} : (mulC p [c]).getD i 0 = p.getD i 0 * c := by
  rw [mulC_getD, cv_c1]
  split
  · rfl
  · rw [getD_out (by omega), Rat.zero_mul]
/-- one turn of the law's division -/
theorem div_turn {q : List Rat} {P a : Nat} {L : Nat → Rat} (h : a + q.length ≤ P) :
    trim (addQ (trim (rq P L)) (mulC (mulC (mvd a (L (a + q.length - 1) / q.getD (q.length - 1) 0)) q) [-1])) = trim (rq P (stp q a L)) := by
  refine can_ext (can_trim _) (can_trim _) fun i => ?_
  rw [trim_getD, trim_getD, addQ_getD, trim_getD, rq_getD, rq_getD, mulN_getD, mulM_getD]
  unfold stp
  by_cases hP : i < P
  · rw [if_pos hP, if_pos hP]
    by_cases h1 : a ≤ i
    · rw [if_pos h1]
      by_cases h2 : i < a + q.length
      · rw [if_pos ⟨h1, h2⟩]; grind
      · rw [if_neg (fun z => h2 z.2), getD_out (p := q) (i := i - a) (by omega)]; grind
    · rw [if_neg h1, if_neg (fun z => h1 z.1)]; grind
  · rw [if_neg hP, if_neg hP, if_pos (by omega), getD_out (p := q) (i := i - a) (by omega)]; grind
theorem quo_turn {q : List Rat} {N t : Nat} {L : Nat → Rat} (ht : t < N) :
    trim (addQ (trim (rq N (Qt q N L t))) (mvd (N - 1 - t) (fct q N L t))) = trim (rq N (Qt q N L (t + 1))) := by
  refine can_ext (can_trim _) (can_trim _) fun i => ?_
  rw [trim_getD, trim_getD, addQ_getD, trim_getD, rq_getD, rq_getD, Qt_s ht]
  unfold mvd
  rw [rq_getD]
  by_cases h : i < N
  · rw [if_pos h, if_pos h]
    by_cases h2 : i = N - 1 - t
    · simp [h2]
    · simp [h2]
  · rw [if_neg h, if_neg h, if_neg (by omega), Rat.add_zero]
theorem mem_getD {p : List Rat} {x : Rat} (h : x ∈ p) : ∃ i, i < p.length ∧ x = p.getD i 0 := by
  obtain ⟨i, hi, e⟩ := List.getElem_of_mem h
  exact ⟨i, hi, by rw [getD_at (List.getElem?_eq_getElem hi)]; exact e.symm⟩
theorem mulM_bq {a b c : Nat} {f : Rat} {q : List Rat} (hf : Bq b f) (hq : ∀ r ∈ q, Bq c r) (h1 : 1 ≤ b) : ∀ x ∈ mulC (mvd a f) q, Bq (b + c) x := by
  intro x hx
  obtain ⟨i, hi, rfl⟩ := mem_getD hx
  rw [mulM_getD]
  split
  · by_cases h : i - a < q.length
    · have e := List.getElem?_eq_getElem h
      rw [getD_at e]
      exact hf.mul (hq _ (List.getElem_mem h))
    · rw [getD_out (by omega), Rat.mul_zero]; exact bq0 (by omega)
  · exact bq0 (by omega)
theorem mulN_bq {b c : Nat} {f : Rat} {p : List Rat} (hp : ∀ r ∈ p, Bq b r) (hf : Bq c f) (h1 : 1 ≤ b) : ∀ x ∈ mulC p [f], Bq (b + c) x := by
  intro x hx
  obtain ⟨i, hi, rfl⟩ := mem_getD hx
  rw [mulN_getD]
  by_cases h : i < p.length
  · have e := List.getElem?_eq_getElem h
    rw [getD_at e]
    exact (hp _ (List.getElem_mem h)).mul hf
  · rw [getD_out (by omega), Rat.zero_mul]; exact bq0 (by omega)
theorem wv_one {bp : Nat → Nat} {c i : Nat} : ∀ k, wv bp c 1 k i = if i < k then bp i + c + 1 else 0
  | 0 => by rw [if_neg (by omega)]; rfl
  | k + 1 => by
    rw [wv_s, wv_one k]
    by_cases h : i < k
    · rw [if_pos h, if_neg (by omega), if_pos (by omega)]
    · rw [if_neg h]
      by_cases h2 : i = k
      · subst h2
        rw [if_pos (by omega), if_pos (by omega)]; omega
      · rw [if_neg (by omega), if_neg (by omega)]
theorem wv_mvd {a b c ql i : Nat} : ∀ k, wv (fun j => if j = a then b else 1) c ql k i ≤ k * (c + 2) + (if a < k then b else 0)
  | 0 => by simp [wv]
  | k + 1 => by
    have ih := wv_mvd (a := a) (b := b) (c := c) (ql := ql) (i := i) k
    rw [wv_s, Nat.add_mul]
    have e : (if k ≤ i ∧ i - k < ql then (if k = a then b else 1) + c + 1 else 0) ≤ (if k = a then b else 1) + c + 1 := by split <;> omega
    refine Nat.le_trans (Nat.add_le_add ih e) ?_
    by_cases h : k = a
    · subst h
      rw [if_neg (by omega), if_pos rfl, if_pos (by omega)]; omega
    · rw [if_neg h]
      by_cases h2 : a < k
      · rw [if_pos h2, if_pos (by omega)]; omega
      · rw [if_neg h2, if_neg (by omega)]; omega
theorem pneg1 : pD [(-1 : Rat)] = .tup [.tup [.int (-1), .int 1]] := rfl
end K78
end Mn
end

section
namespace Mn
open PySem
namespace K78
theorem bqn1 : Bq 1 (-1) := ⟨show (-1 : Int).natAbs < 2 ^ 1 by decide, show (1 : Int).natAbs < 2 ^ 1 by decide⟩
variable {wf n : Nat} {m : Mu} {Q : D → Mu → Prop}
end K78
end Mn
end

section
namespace Mn
open PySem
namespace K78
variable {wf n : Nat} {m : Mu} {Q : D → Mu → Prop}
theorem cv_ext {p r q : List Rat} {i : Nat} : ∀ k, (∀ j, j < k → p.getD j 0 = r.getD j 0) → cv p q k i = cv r q k i
  | 0, _ => rfl
  | k + 1, h => by
    unfold cv
    rw [cv_ext k fun j hj => h j (by omega), h k (by omega)]
theorem cv_end {p q : List Rat} {i : Nat} : ∀ d, cv p q (p.length + d) i = cv p q p.length i
  | 0 => rfl
  | d + 1 => by
    show cv p q (p.length + d + 1) i = _
    have ih := cv_end (p := p) (q := q) (i := i) d
    have e : cv p q (p.length + d + 1) i = cv p q (p.length + d) i + (if p.length + d ≤ i then p.getD (p.length + d) 0 * q.getD (i - (p.length + d)) 0 else 0) := rfl
    rw [e, ih, getD_out (p := p) (by omega), Rat.zero_mul]
    split <;> exact Rat.add_zero _
theorem div_sum {p q : List Rat} (cq : Can q) (hq0 : q ≠ []) (i : Nat) : (mulC (quo p q) q).getD i 0 + (rst p q).getD i 0 = p.getD i 0 := by
  have hq1 : 0 < q.length := List.length_pos_iff.mpr hq0
  have hl := can_last cq hq1
  rw [mulC_getD]
  obtain ⟨N, hN⟩ : ∃ N, N = p.length + 1 - q.length := ⟨_, rfl⟩
  obtain ⟨L, hLd⟩ : ∃ L : Nat → Rat, L = fun i => p.getD i 0 := ⟨_, rfl⟩
  unfold quo rst
  rw [← hN, ← hLd, trim_getD, rq_getD]
  have h0 : ∀ i, N + q.length - 1 ≤ i → L i = 0 := fun i hi => by rw [hLd]; exact getD_out (by omega)
  have top := LS_top (q := q) (N := N) (L := L) hq1 hl h0 N (Nat.le_refl _)
  have hs := LS_sum (q := q) (N := N) (L := L) hq1 i N (Nat.le_refl _)
  obtain ⟨X, hX⟩ : ∃ X, X = trim (rq N (Qf q N L)) := ⟨_, rfl⟩
  have lX : X.length ≤ N := by rw [hX]; exact Nat.le_trans (trim_len _) (by rw [rq_len]; omega)
  rw [← hX]
  have e1 : cv X q X.length i = cF (Qt q N L N) q N i := by
    rw [← cv_end (N - X.length), show X.length + (N - X.length) = N by omega, ← cv_cF (Nat.le_refl N)]
    refine cv_ext _ fun j hj => ?_
    rw [hX, trim_getD, rq_getD, rq_getD]
    unfold Qt
    rw [if_pos hj, if_pos hj, if_pos ⟨by omega, hj⟩]
  rw [e1]
  have e2 : (if i < p.length then LS q N L N i else 0) = LS q N L N i := by
    split
    · rfl
    · by_cases h : q.length ≤ p.length
      · exact (top i (by omega)).symm
      · obtain rfl : N = 0 := by omega
        show 0 = L i
        rw [hLd]; exact (getD_out (by omega)).symm
  rw [e2, hs, hLd]
/-- the quotient times the other one and the rest are the one -/
theorem div_id {p q : List Rat} (cp : Can p) (cq : Can q) (hq0 : q ≠ []) : trim (addQ (mulC (quo p q) q) (rst p q)) = p := by
  refine can_ext (can_trim _) cp fun i => ?_
  rw [trim_getD, addQ_getD, div_sum cq hq0]
def OvP (a e : Nat) (p : List Rat) : Prop := ∃ E, 0 < E ∧ E ≤ 2 ^ e ∧ ∀ i, Ov (2 ^ a) E (p.getD i 0)
theorem pw2 {a b : Nat} (h : a ≤ b) : 2 ^ a ≤ 2 ^ b := Nat.pow_le_pow_right (by omega) h
theorem OvP.mono {a e a' e' : Nat} {p : List Rat} (h : OvP a e p) (h1 : a ≤ a') (h2 : e ≤ e') : OvP a' e' p := by
  obtain ⟨E, e1, e2, e3⟩ := h
  exact ⟨E, e1, Nat.le_trans e2 (pw2 h2), fun i => (e3 i).mono (pw2 h1)⟩
theorem ovP_bq {b L : Nat} {p : List Rat} (hp : ∀ x ∈ p, Bq b x) (hl : p.length ≤ L) : OvP (b * (L + 1)) (b * L) p := by
  obtain ⟨E, e1, e2, e3⟩ := cden hp
  refine ⟨E, e1, Nat.le_trans e2 (pw2 (Nat.mul_le_mul_left _ hl)), fun i => ?_⟩
  by_cases hi : i < p.length
  · have e := List.getElem?_eq_getElem hi
    rw [getD_at e]
    exact (e3 _ (List.getElem_mem hi)).mono (pw2 (Nat.mul_le_mul_left _ (by omega)))
  · rw [getD_out (by omega)]; exact Ov.zero.mono (Nat.zero_le _)
theorem Ov.mul {A E B d : Nat} {x y : Rat} (h : Ov A E x) (g : Ov B d y) : Ov (A * B) (E * d) (x * y) := by
  obtain ⟨n, h1, h2⟩ := h
  obtain ⟨k, g1, g2⟩ := g
  refine ⟨n * k, ?_, by rw [Int.natAbs_mul]; exact Nat.mul_le_mul h2 g2⟩
  rw [Int.natCast_mul, Rat.intCast_mul, Rat.intCast_mul, ← h1, ← g1]
  grind
theorem Ov.add {A B E : Nat} {x y : Rat} (h : Ov A E x) (g : Ov B E y) : Ov (A + B) E (x + y) := by
  obtain ⟨n, h1, h2⟩ := h
  obtain ⟨k, g1, g2⟩ := g
  refine ⟨n + k, ?_, by omega⟩
  rw [Rat.intCast_add, ← h1, ← g1]
  grind
theorem cv_ov {p q : List Rat} {A E B d : Nat} (hp : ∀ i, Ov A E (p.getD i 0)) (hq : ∀ i, Ov B d (q.getD i 0)) (i : Nat) : ∀ k, Ov (k * (A * B)) (E * d) (cv p q k i)
  | 0 => Ov.zero.mono (Nat.zero_le _)
  | k + 1 => by
    unfold cv
    rw [Nat.succ_mul]
    refine Ov.add (cv_ov hp hq i k) ?_
    split
    · exact (hp k).mul (hq _)
    · exact Ov.zero.mono (Nat.zero_le _)
theorem ovP_mulC {a e c d s : Nat} {p q : List Rat} (hp : OvP a e p) (hq : OvP c d q) (hl : p.length ≤ 2 ^ s) : OvP (s + a + c) (e + d) (mulC p q) := by
  obtain ⟨E, e1, e2, e3⟩ := hp
  obtain ⟨F, f1, f2, f3⟩ := hq
  refine ⟨E * F, Nat.mul_pos e1 f1, by rw [Nat.pow_add]; exact Nat.mul_le_mul e2 f2, fun i => ?_⟩
  rw [mulC_getD]
  refine (cv_ov e3 f3 i _).mono ?_
  rw [Nat.pow_add, Nat.pow_add, Nat.mul_assoc]
  exact Nat.mul_le_mul_right _ hl
theorem ovP_addQ {a e c d g : Nat} {p q : List Rat} (hp : OvP a e p) (hq : OvP c d q) (h1 : a + d ≤ g) (h2 : c + e ≤ g) : OvP (g + 1) (e + d) (trim (addQ p q)) := by
  obtain ⟨E, e1, e2, e3⟩ := hp
  obtain ⟨F, f1, f2, f3⟩ := hq
  refine ⟨E * F, Nat.mul_pos e1 f1, by rw [Nat.pow_add]; exact Nat.mul_le_mul e2 f2, fun i => ?_⟩
  rw [trim_getD, addQ_getD]
  have x1 : 2 ^ a * F ≤ 2 ^ g := Nat.le_trans (Nat.mul_le_mul_left _ f2) (by rw [← Nat.pow_add]; exact pw2 h1)
  have x2 : 2 ^ c * E ≤ 2 ^ g := Nat.le_trans (Nat.mul_le_mul_left _ e2) (by rw [← Nat.pow_add]; exact pw2 h2)
  have := Ov.add ((e3 i).scale (c := F)) (by have := (f3 i).scale (c := E); rwa [Nat.mul_comm F E] at this)
  refine this.mono ?_
  rw [Nat.pow_succ]; omega
theorem quo_ov {p q : List Rat} {a e β δ bb : Nat} (hp : OvP a e p) (hq : OvP β δ q) (hq0 : q ≠ []) (cq : Can q) (h1 : a + (p.length + 1 - q.length) * (β + 1) + δ < bb) (h2 : e + β * (p.length + 1 - q.length) + β < bb) : ∀ x ∈ quo p q, Bq bb x := by
  intro x hx
  have hq1 : 0 < q.length := List.length_pos_iff.mpr hq0
  have hl := can_last cq hq1
  obtain ⟨N, hN⟩ : ∃ N, N = p.length + 1 - q.length := ⟨_, rfl⟩
  unfold quo at hx
  rw [← hN] at hx h1 h2
  obtain ⟨j, hj, ej⟩ := List.mem_map.mp (trim_mem hx)
  rw [← ej]
  obtain ⟨t, ht⟩ : ∃ t, t = N - 1 - j := ⟨_, rfl⟩
  have hj := List.mem_range.mp hj
  show Bq bb (fct q N _ (N - 1 - j))
  rw [← ht]
  obtain ⟨E, e1, e2, e3⟩ := hp
  obtain ⟨d, d1, d2, d3⟩ := hq
  obtain ⟨E', f1, f2, f3⟩ := LS_ov (N := N) hq1 hl d1 (Nat.pow_pos (by omega)) e1 d3 e3 t
  have lt : ∀ {a b : Nat}, a < b → 2 ^ a < 2 ^ b := fun h => Nat.pow_lt_pow_right (by omega) h
  obtain ⟨Qi, g1, g2, g3, _, g5⟩ := Ov.step (f3 (N - 1 - t + q.length - 1)) (f3 (N - 1 - t + q.length - 1)) (d3 0) (d3 (q.length - 1)) hl d1
  have a1 : 2 ^ a * (2 * 2 ^ β) ^ t ≤ 2 ^ (a + t * (β + 1)) := by
    rw [show 2 * 2 ^ β = 2 ^ (β + 1) by rw [Nat.pow_succ]; omega, ← Nat.pow_mul, ← Nat.pow_add]
    exact pw2 (by rw [Nat.mul_comm (β + 1) t]; omega)
  have a2 : E' ≤ 2 ^ (e + β * t) := by
    refine Nat.le_trans f2 ?_
    rw [Nat.pow_add, Nat.pow_mul 2 β t]
    exact Nat.mul_le_mul e2 (Nat.le_refl _)
  have t1 : t * (β + 1) ≤ N * (β + 1) := Nat.mul_le_mul_right _ (by omega)
  have t2 : β * t ≤ β * N := Nat.mul_le_mul_left _ (by omega)
  refine g5.bq (Nat.mul_pos f1 (by omega)) ?_ ?_
  · refine Nat.lt_of_le_of_lt (Nat.mul_le_mul a1 d2) ?_
    rw [← Nat.pow_add]
    exact lt (by omega)
  · refine Nat.lt_of_le_of_lt (Nat.mul_le_mul a2 g3) ?_
    rw [← Nat.pow_add]
    exact lt (by omega)
theorem wv_le {b c ql i : Nat} : ∀ k, wv (fun _ => b) c ql k i ≤ (min k (i + 1) - (i + 1 - ql)) * (b + c + 1)
  | 0 => by simp [wv]
  | k + 1 => by
    have ih := wv_le (b := b) (c := c) (ql := ql) (i := i) k
    rw [wv_s]
    split
    · rename_i h
      have e : min (k + 1) (i + 1) - (i + 1 - ql) = (min k (i + 1) - (i + 1 - ql)) + 1 := by omega
      rw [e, Nat.succ_mul]
      exact Nat.add_le_add ih (Nat.le_refl _)
    · refine Nat.le_trans ih (Nat.mul_le_mul_right _ ?_)
      omega
theorem rst_lt {p q : List Rat} (cq : Can q) (hq0 : q ≠ []) : (rst p q).length < q.length := by
  have hq1 : 0 < q.length := List.length_pos_iff.mpr hq0
  have hl := can_last cq hq1
  obtain ⟨N, hN⟩ : ∃ N, N = p.length + 1 - q.length := ⟨_, rfl⟩
  obtain ⟨L, hLd⟩ : ∃ L : Nat → Rat, L = fun i => p.getD i 0 := ⟨_, rfl⟩
  have h0 : ∀ i, N + q.length - 1 ≤ i → L i = 0 := fun i hi => by rw [hLd]; exact getD_out (by omega)
  have top := LS_top (q := q) (N := N) (L := L) hq1 hl h0 N (Nat.le_refl _)
  unfold rst
  rw [← hN, ← hLd]
  have := trim_lt (p := rq p.length (LS q N L N)) (k := q.length - 1) fun i hi => by
    rw [rq_getD]
    split
    · exact top i (by omega)
    · rfl
  omega
/-- bounds of both -/
theorem quo_pl {p q : List Rat} {b1 c : Nat} (hp : Pl b1 8 p) (hq : Pl c 8 q) (hq0 : q ≠ []) (hbb : b1 * 9 + (p.length + 1 - q.length) * (c * 9 + 1) + c * 17 + 2 ≤ 1800) : Pl 1800 8 (quo p q) ∧ Pl 1800 8 (rst p q) := by
  have hq1 : 0 < q.length := List.length_pos_iff.mpr hq0
  have bq := LS_bq hp.2.1 hq.2.1 hq1 hq.2.2 hp.1 hq.1 hbb
  have := hp.1
  refine ⟨⟨?_, ?_, can_trim _⟩, ⟨?_, ?_, can_trim _⟩⟩
  · exact Nat.le_trans (trim_len _) (by rw [rq_len]; omega)
  · intro x hx
    obtain ⟨i, hi, e⟩ := List.mem_map.mp (trim_mem hx)
    rw [← e]
    exact (bq _ (by omega)).2
  · exact Nat.le_trans (trim_len _) (by rw [rq_len]; omega)
  · intro x hx
    obtain ⟨i, hi, e⟩ := List.mem_map.mp (trim_mem hx)
    rw [← e]
    exact (bq _ (Nat.le_refl _)).1 _
theorem pair_rep {p q : List Rat} {b1 c : Nat} (hp : Pl b1 8 p) (hq : Pl c 8 q) (h1 : b1 ≤ 1900) (h2 : c ≤ 1900) : (bltD .repr [.tup [pD p, pD q]] m).to Q = Q (.str (toP (.tup [pD p, pD q])).shown) m := by
  have hp' : Pl 1900 8 p := ⟨hp.1, fun r hr => (hp.2.1 r hr).mono h1, hp.2.2⟩
  have hq' : Pl 1900 8 q := ⟨hq.1, fun r hr => (hq.2.1 r hr).mono h2, hq.2.2⟩
  exact rep_val (m := m) (th_tup (ths_cons (th_pD (k := 0) hp') (ths_one (th_pD (k := 0) hq')))) (by omega) (by omega) (by omega)
theorem ref_rep : (bltD .repr [.tup [.str "refused", .tup []]] m).to Q = Q (.str (toP (.tup [.str "refused", .tup []])).shown) m := by
  exact rep_val (m := m) (b := 1900) (th_tup (ths_cons (th_str (W := 100) (by decide) (by decide)) (ths_one (th_tup (k := 0) ths_nil)))) (by omega) (by omega) (by omega)
theorem eqvAll_frs : ∀ p : List Rat, PyData.eqvAll (p.map frP) (p.map frP) = true
  | [] => rfl
  | q :: p => by
    have := eqv_fr (q := q) (r := q)
    simp only [List.map_cons, PyData.eqvAll, this, eqvAll_frs p]; simp
theorem eqC_self {p : List Rat} : eqC m (pD p) (pD p) = some true := by
  show eqD m (pD p) (pD p) = _
  rw [eqD_tree rf_pD rf_pD (shp_pP.mono (by decide)) (shp_pP.mono (by decide)) (by decide) (by decide)]
  unfold pP
  simp only [PyData.eqv, eqvAll_frs]
end K78
end Mn
end

section
namespace Mn
open PySem
namespace K78
variable {wf n : Nat} {m : Mu} {Q : D → Mu → Prop}
def tail7 : List Rat := [0, 0, 0, 0, 0, 0, 0, -2]
def r32 : Rat := ⟨3, 2, by decide, by decide⟩
def r23 : Rat := ⟨2, 3, by decide, by decide⟩
def lng (q : List Rat) : List Rat := trim (addQ q tail7)
theorem tail7_bq : ∀ r ∈ tail7, Bq 7 r := by
  intro r hr
  have h2 : Bq 7 (-2) := ⟨show (-2 : Int).natAbs < 2 ^ 7 by decide, show (1 : Int).natAbs < 2 ^ 7 by decide⟩
  have h0 : Bq 7 0 := bq0 (by omega)
  simp [tail7] at hr
  rcases hr with rfl | rfl
  · exact h0
  · exact h2
theorem lng_pl {q : List Rat} (hq : Pl 7 4 q) : Pl 15 8 (lng q) ∧ (lng q).length = 8 := by
  have h1 : (lng q).length ≤ 8 := by
    have := addQ_len q tail7
    have := hq.1
    have e : tail7.length = 8 := rfl
    unfold lng; omega
  refine ⟨⟨h1, addQ_bq hq.2.1 tail7_bq (by omega), can_trim _⟩, ?_⟩
  have e : (lng q).getD 7 0 = -2 := by
    unfold lng
    rw [trim_getD, addQ_getD, getD_out (p := q) (by have := hq.1; omega), Rat.zero_add]; rfl
  by_cases h : 8 ≤ (lng q).length
  · omega
  · rw [getD_out (by omega)] at e
    exact absurd e (by decide)
theorem r32_bq : Bq 2 r32 := ⟨show (3 : Int).natAbs < 2 ^ 2 by decide, show (2 : Int).natAbs < 2 ^ 2 by decide⟩
def grt (q : List Rat) : List Rat := trim (addQ (mulC (lng q) [r32]) q)
theorem grt_pl {q : List Rat} (hq : Pl 7 4 q) : Pl 35 8 (grt q) := by
  obtain ⟨h1, h2⟩ := lng_pl hq
  refine ⟨?_, addQ_bq (b := 17) (mulN_bq h1.2.1 r32_bq (by omega)) (fun x hx => (hq.2.1 x hx).mono (by omega)) (by omega), can_trim _⟩
  have := addQ_len (mulC (lng q) [r32]) q
  have := mulC_len2 (p := lng q) (q := [r32])
  have e : [r32].length = 1 := rfl
  have := hq.1
  unfold grt; omega
end K78
end Mn
end

section
namespace Mn
/-- a row of fractions as an operator on rows without an end -/
def shF (f : Nat → Rat) : Nat → Rat
  | 0 => 0
  | i + 1 => f i
def opL : List Rat → (Nat → Rat) → (Nat → Rat)
  | [], _ => fun _ => 0
  | a :: p, g => fun i => a * g i + shF (opL p g) i
theorem shF_add {f g : Nat → Rat} : shF (fun i => f i + g i) = fun i => shF f i + shF g i := by
  funext i; cases i <;> simp [shF, Rat.add_zero]
theorem shF_mul {f : Nat → Rat} {a : Rat} : shF (fun i => a * f i) = fun i => a * shF f i := by
  funext i; cases i <;> simp [shF, Rat.mul_zero]
theorem opL_add {g h : Nat → Rat} : ∀ p, opL p (fun i => g i + h i) = fun i => opL p g i + opL p h i
  | [] => by funext i; show (0 : Rat) = 0 + 0; rw [Rat.add_zero]
  | a :: p => by
    funext i
    show a * (g i + h i) + shF (opL p fun i => g i + h i) i = (a * g i + shF (opL p g) i) + (a * h i + shF (opL p h) i)
    rw [opL_add p, shF_add]; grind
theorem opL_mul {g : Nat → Rat} {c : Rat} : ∀ p, opL p (fun i => c * g i) = fun i => c * opL p g i
  | [] => by funext i; show (0 : Rat) = c * 0; rw [Rat.mul_zero]
  | a :: p => by
    funext i
    show a * (c * g i) + shF (opL p fun i => c * g i) i = c * (a * g i + shF (opL p g) i)
    rw [opL_mul p, shF_mul]; grind
theorem opL_sh {g : Nat → Rat} : ∀ p, opL p (shF g) = shF (opL p g)
  | [] => by funext i; cases i <;> rfl
  | a :: p => by
    funext i
    show a * shF g i + shF (opL p (shF g)) i = shF (fun i => a * g i + shF (opL p g) i) i
    rw [opL_sh p]
    cases i <;> simp [shF, Rat.mul_zero, Rat.add_zero]
theorem opL_comm {g : Nat → Rat} (q : List Rat) : ∀ p, opL p (opL q g) = opL q (opL p g)
  | [] => by
    have := opL_mul (g := fun _ => (0 : Rat)) (c := 0) q
    show (fun _ => (0 : Rat)) = opL q (fun _ => 0)
    have e : (fun i : Nat => (0 : Rat) * (fun _ => (0 : Rat)) i) = fun _ => 0 := by funext i; simp
    rw [e] at this
    rw [this]; funext i; simp
  | a :: p => by
    show (fun i => a * opL q g i + shF (opL p (opL q g)) i) = opL q (fun i => a * g i + shF (opL p g) i)
    rw [opL_add, opL_mul, opL_sh, opL_comm q p]
/-- the row that stands for 1 -/
def dl : Nat → Rat
  | 0 => 1
  | _ + 1 => 0
def cf (p : List Rat) : Nat → Rat := fun i => p.getD i 0
theorem opL_dl : ∀ p, opL p dl = cf p
  | [] => by funext i; rfl
  | a :: p => by
    funext i
    show a * dl i + shF (opL p dl) i = _
    rw [opL_dl p]
    cases i with
    | zero => show a * 1 + 0 = a; rw [Rat.mul_one, Rat.add_zero]
    | succ i => show a * 0 + p.getD i 0 = p.getD i 0; rw [Rat.mul_zero, Rat.zero_add]
theorem cv_cons {a : Rat} {p q : List Rat} : ∀ k i, cv (a :: p) q (k + 1) i = a * q.getD i 0 + shF (cv p q k) i
  | 0, i => by
    show 0 + (if 0 ≤ i then a * q.getD (i - 0) 0 else 0) = _
    rw [if_pos (Nat.zero_le _), Rat.zero_add]
    cases i <;> simp [shF, cv, Rat.add_zero]
  | k + 1, i => by
    show cv (a :: p) q (k + 1) i + (if k + 1 ≤ i then p.getD k 0 * q.getD (i - (k + 1)) 0 else 0) = _
    rw [cv_cons k i]
    cases i with
    | zero => rw [if_neg (by omega)]; simp [shF, Rat.add_zero]
    | succ i =>
      show a * _ + cv p q k i + _ = a * _ + (cv p q k i + (if k ≤ i then p.getD k 0 * q.getD (i - k) 0 else 0))
      have e : (if k + 1 ≤ i + 1 then p.getD k 0 * q.getD (i + 1 - (k + 1)) 0 else 0) = (if k ≤ i then p.getD k 0 * q.getD (i - k) 0 else 0) := by
        by_cases h : k ≤ i
        · rw [if_pos (by omega), if_pos h, show i + 1 - (k + 1) = i - k by omega]
        · rw [if_neg (by omega), if_neg h]
      rw [e, Rat.add_assoc]
theorem cv_opL {q : List Rat} : ∀ p, cv p q p.length = opL p (cf q)
  | [] => by funext i; rfl
  | a :: p => by
    funext i
    show cv (a :: p) q (p.length + 1) i = _
    rw [cv_cons, cv_opL p]; rfl
theorem cf_mul (p q : List Rat) : cf (mulC p q) = opL p (cf q) := by
  funext i
  show (mulC p q).getD i 0 = _
  rw [mulC_getD, cv_opL]
theorem cf_add (p q : List Rat) : cf (trim (addQ p q)) = fun i => cf p i + cf q i := by
  funext i
  show (trim (addQ p q)).getD i 0 = _
  rw [trim_getD, addQ_getD]; rfl
theorem opL_cf (p s : List Rat) : opL p (cf s) = opL s (cf p) := by
  rw [← opL_dl s, opL_comm, opL_dl]
/-- canonical polys -/
structure PolC where
  v : List Rat
  c : Can v
theorem PolC.ext' {p q : PolC} (h : cf p.v = cf q.v) : p = q := by
  obtain ⟨p, hp⟩ := p
  obtain ⟨q, hq⟩ := q
  have : p = q := can_ext hp hq fun i => congrFun h i
  subst this; rfl
theorem can_mul (p q : List Rat) : Can (mulC p q) := by
  unfold mulC
  split
  · unfold Can; simp
  · exact can_trim _
theorem can_con (c : Rat) : Can (trim [c]) := can_trim _
def cst (c : Rat) : PolC := ⟨trim [c], can_trim _⟩
def PolC.ng (p : PolC) : PolC := ⟨p.v.map (fun x => -x), by
  have := p.c
  unfold Can at this ⊢
  rw [List.getLast?_map]
  intro h
  cases e : p.v.getLast? with
  | none => rw [e] at h; cases h
  | some x =>
    rw [e] at h this
    have h2 : -x = 0 := Option.some.inj h
    exact this (by rw [show x = 0 by grind])⟩
instance : Add PolC := ⟨fun p q => ⟨trim (addQ p.v q.v), can_trim _⟩⟩
instance : Mul PolC := ⟨fun p q => ⟨mulC p.v q.v, can_mul _ _⟩⟩
instance : Neg PolC := ⟨PolC.ng⟩
instance : Sub PolC := ⟨fun p q => p + -q⟩
instance : NatCast PolC := ⟨fun n => cst n⟩
instance : IntCast PolC := ⟨fun n => cst n⟩
instance (n : Nat) : OfNat PolC n := ⟨cst n⟩
instance : SMul Nat PolC := ⟨fun n p => cst n * p⟩
instance : SMul Int PolC := ⟨fun n p => cst n * p⟩
def PolC.pw (p : PolC) : Nat → PolC
  | 0 => cst 1
  | n + 1 => p.pw n * p
instance : HPow PolC Nat PolC := ⟨PolC.pw⟩
theorem cfa (p q : PolC) : cf (p + q).v = fun i => cf p.v i + cf q.v i := cf_add _ _
theorem cfm (p q : PolC) : cf (p * q).v = opL p.v (cf q.v) := cf_mul _ _
theorem cfn (p : PolC) : cf (-p).v = fun i => -cf p.v i := by
  funext i
  show (p.v.map (fun x => -x)).getD i 0 = -(p.v.getD i 0)
  rw [List.getD_eq_getElem?_getD, List.getD_eq_getElem?_getD, List.getElem?_map]
  cases p.v[i]? <;> rfl
theorem cfc (c : Rat) : cf (cst c).v = fun i => c * dl i := by
  funext i
  show (trim [c]).getD i 0 = _
  rw [trim_getD]
  cases i with
  | zero => show c = c * 1; rw [Rat.mul_one]
  | succ i => show (0 : Rat) = c * 0; rw [Rat.mul_zero]
theorem opL_one (p : List Rat) (c : Rat) : opL p (fun i => c * dl i) = fun i => c * cf p i := by
  rw [opL_mul, opL_dl]
theorem mulcomm (p q : PolC) : p * q = q * p := PolC.ext' (by rw [cfm, cfm, opL_cf])
theorem cst_mul (c : Rat) (p : PolC) : cf (cst c * p).v = fun i => c * cf p.v i := by
  rw [mulcomm, cfm, cfc, opL_one]
theorem p_mul_one (a : PolC) : a * (1 : PolC) = a := PolC.ext' (by
    show cf (a * cst ((1 : Nat) : Rat)).v = _
    rw [cfm, cfc, opL_one]; funext i; rw [show ((1 : Nat) : Rat) = 1 from rfl, Rat.one_mul])
theorem p_zero_mul (a : PolC) : (0 : PolC) * a = 0 := PolC.ext' (by
    show cf (cst ((0 : Nat) : Rat) * a).v = cf (cst ((0 : Nat) : Rat)).v
    rw [cst_mul, cfc]; funext i; rw [show ((0 : Nat) : Rat) = 0 from rfl, Rat.zero_mul, Rat.zero_mul])
theorem p_left_distrib (a b c : PolC) : a * (b + c) = a * b + a * c := PolC.ext' (by rw [cfm, cfa, opL_add, cfa, cfm, cfm])
instance : Lean.Grind.CommRing PolC where
  add_zero a := PolC.ext' (by
    rw [cfa]
    funext i
    show cf a.v i + cf (cst ((0 : Nat) : Rat)).v i = _
    rw [cfc]; show _ + ((0 : Nat) : Rat) * dl i = _; rw [show ((0 : Nat) : Rat) = 0 from rfl, Rat.zero_mul, Rat.add_zero])
  add_comm a b := PolC.ext' (by rw [cfa, cfa]; funext i; exact Rat.add_comm _ _)
  add_assoc a b c := PolC.ext' (by rw [cfa, cfa, cfa, cfa]; funext i; exact Rat.add_assoc _ _ _)
  mul_assoc a b c := PolC.ext' (by rw [cfm, cfm, cfm, opL_cf, cfm, opL_comm, opL_cf c.v])
  mul_comm := mulcomm
  mul_one := p_mul_one
  one_mul a := by rw [mulcomm]; exact p_mul_one a
  left_distrib := p_left_distrib
  right_distrib a b c := by rw [mulcomm, p_left_distrib, mulcomm c, mulcomm c]
  zero_mul := p_zero_mul
  mul_zero a := by rw [mulcomm]; exact p_zero_mul a
  pow_zero a := rfl
  pow_succ a n := rfl
  ofNat_succ a := PolC.ext' (by
    show cf (cst ((a + 1 : Nat) : Rat)).v = cf (cst ((a : Nat) : Rat) + cst ((1 : Nat) : Rat)).v
    rw [cfa, cfc, cfc, cfc]; funext i
    show ((a + 1 : Nat) : Rat) * dl i = ((a : Nat) : Rat) * dl i + ((1 : Nat) : Rat) * dl i
    rw [← Rat.add_mul, ← Rat.natCast_add])
  neg_add_cancel a := PolC.ext' (by
    show cf (-a + a).v = cf (cst ((0 : Nat) : Rat)).v
    rw [cfa, cfn, cfc]; funext i; rw [show ((0 : Nat) : Rat) = 0 from rfl, Rat.zero_mul]; exact Rat.neg_add_cancel _)
  sub_eq_add_neg a b := rfl
  neg_zsmul i a := PolC.ext' (by
    show cf (cst ((-i : Int) : Rat) * a).v = cf (-(cst (i : Rat) * a)).v
    rw [cfn, cst_mul, cst_mul]; funext j
    show _ = -((i : Rat) * cf a.v j)
    rw [Rat.intCast_neg, Rat.neg_mul])
  intCast_ofNat n := rfl
  intCast_neg i := PolC.ext' (by
    show cf (cst ((-i : Int) : Rat)).v = cf (-(cst (i : Rat))).v
    rw [cfn, cfc, cfc]; funext j
    show _ = -((i : Rat) * dl j)
    rw [Rat.intCast_neg, Rat.neg_mul])
example (a b c d : PolC) : (a + b) * (c + d) = b * d + a * c + d * a + b * c := by grind
end Mn
end

section
namespace Mn
open PySem
namespace K78
def Dr (AA DD : Nat) (r : Rat) : Prop := Bq 7 r ∧ Ov AA DD r
def PlD (AA DD L : Nat) (p : List Rat) : Prop := p.length ≤ L ∧ (∀ r ∈ p, Dr AA DD r) ∧ Can p
theorem PlD.pl {AA DD L : Nat} {p : List Rat} (h : PlD AA DD L p) : Pl 7 L p := ⟨h.1, fun r hr => (h.2.1 r hr).1, h.2.2⟩
def Od (AA DD : Nat) (p : List Rat) : Prop := ∀ i, Ov AA DD (p.getD i 0)
theorem PlD.od {AA DD L : Nat} {p : List Rat} (h : PlD AA DD L p) : Od AA DD p := fun i => by
  by_cases hi : i < p.length
  · have e := List.getElem?_eq_getElem hi
    rw [getD_at e]
    exact (h.2.1 _ (List.getElem_mem hi)).2
  · rw [getD_out (by omega)]; exact Ov.zero.mono (Nat.zero_le _)
def TbD (AA DD w h : Nat) (R : List (List (List Rat))) : Prop := R.length ≤ h ∧ ∀ r ∈ R, r.length = w ∧ ∀ p ∈ r, PlD AA DD 3 p
theorem TbD.tb {AA DD w h : Nat} {R : List (List (List Rat))} (t : TbD AA DD w h R) : Tb 7 3 w h R := ⟨t.1, fun r hr => ⟨(t.2 r hr).1, fun p hp => ((t.2 r hr).2 p hp).pl⟩⟩
theorem plD_nil {AA DD L : Nat} : PlD AA DD L [] := ⟨by simp, by simp, by unfold Can; simp⟩
theorem divInt_ov {t b : Int} {AA DD c most : Nat} (hb : 0 < b) (hc : (DD : Int) = b * c) (ht : t.natAbs ≤ most) (hA : most * c ≤ AA) : Ov AA DD (Rat.divInt t b) := by
  refine ⟨t * c, ?_, ?_⟩
  · rw [hc, Rat.intCast_mul, Rat.intCast_mul, Rat.divInt_eq_div, ← Rat.mul_assoc]
    rw [Rat.div_mul_cancel (fun z => by have := Rat.intCast_eq_zero_iff.mp z; omega)]
  · rw [Int.natAbs_mul, Int.natAbs_natCast]
    exact Nat.le_trans (Nat.mul_le_mul_right _ ht) hA
theorem ov_one {AA DD : Nat} (h : DD ≤ AA) : Ov AA DD 1 := ⟨DD, by rw [Rat.one_mul], by rw [Int.natAbs_natCast]; exact h⟩
variable {wf n : Nat} {m : Mu} {Q : D → Mu → Prop}
theorem d1236 : ∀ b ∈ ([1, 1, 2, 3] : List Int), ∃ c : Nat, ((6 : Nat) : Int) = b * c ∧ 9 * c ≤ 54 := by
  intro b hb
  simp at hb
  rcases hb with rfl | rfl | rfl
  · exact ⟨6, by omega, by omega⟩
  · exact ⟨3, by omega, by omega⟩
  · exact ⟨2, by omega, by omega⟩
theorem d1 : ∀ b ∈ ([1] : List Int), ∃ c : Nat, ((6 : Nat) : Int) = b * c ∧ 3 * c ≤ 54 := by
  intro b hb
  rw [List.mem_singleton.mp hb]
  exact ⟨6, by omega, by omega⟩
theorem parts_okD (hw : Fu wf) (hn : 3 ≤ n) {f B lb many most : Nat} {bs : List Int} {AA DD : Nat} (hD : ∀ b ∈ bs, ∃ c : Nat, (DD : Int) = b * c ∧ most * c ≤ AA) (hf : Feed f (B + 2 * many) m) (hlb : m[lb]? = some (.lst (bs.map D.int))) (hb0 : bs ≠ []) (hbs : ∀ b ∈ bs, 0 < b ∧ b < 128) (hbl : bs.length ≤ 100) (hmany : many ≤ 100) (hmost : most ≤ 99)
    (k : ∀ (l : Nat) (p : List Rat) m', p.length = many → (∀ r ∈ p, Dr AA DD r) → m.length ≤ l → m'[l]? = some (.lst (p.map fr)) → Kp (· = f) m m' → Feed f B m' → Q (.loc l) m') :
    (callN Pr wf n f__law_parts [.loc f, .int many, .int most, .loc lb] m).to Q := by
  refine call_of (fn := p__law_parts) rfl rfl (by omega) fun k' hk => ?_
  have b99 : mulOk 2 (most : Int) = true := mul_ok (b := 7) (c := 7) (by unfold Bd; decide) (by unfold Bd; rw [show (2 : Nat) ^ 7 = 128 by decide]; omega) (by omega)
  simp [p__law_parts, to_newL, s_forE, bound_ok (show many ≤ 1000000 by omega)]
  have lfm : f < m.length := by
    obtain ⟨c, ns, a, lf, t, h1, _⟩ := hf
    exact (List.getElem?_eq_some_iff.mp h1).1
  have lbm : lb < m.length := (List.getElem?_eq_some_iff.mp hlb).1
  have hlbf := hf.ne hlb
  obtain ⟨I, hI⟩ : ∃ I : Nat → Sl → Mu → Prop, I = (fun i σ m' => Kp (· = f) m m' ∧ Feed f (B + 2 * (many - i)) m' ∧ m'[lb]? = some (.lst (bs.map D.int)) ∧ ∃ (p : List Rat) (y z : Option D), σ = [some (.loc f), some (.int many), some (.int most), some (.loc lb), some (.loc m.length), y, z] ∧
    m'[m.length]? = some (.lst (p.map fr)) ∧ p.length = i ∧ ∀ r ∈ p, Dr AA DD r) := ⟨_, rfl⟩
  refine ft_of (rngD many) I (by simp [rngD]) (by rw [hI]; exact ⟨.new, hf.new, by rw [List.getElem?_append_left lbm]; exact hlb, [], _, _, rfl, by simp, rfl, fun r hr => by cases hr⟩) (fun _ _ m _ => gives_rng _ m) ?_ ?_
  · intro i d σ m' hd h
    rw [hI] at h
    obtain ⟨k1, f1, b1, p, y, z, rfl, l1, hp, hq⟩ := h
    obtain ⟨hi, rfl⟩ := rngD_at hd
    refine ⟨[some (.loc f), some (.int many), some (.int most), some (.loc lb), some (.loc m.length), some (.int i), z], rfl, ?_⟩
    simp [b__law_parts_1, b99]
    have e2 : B + 2 * (many - i) = (B + 2 * (many - (i + 1)) + 1) + 1 := by omega
    rw [e2] at f1
    refine draw_ok (by omega) f1 (by omega) ?_ fun d m2 d0 d1 k2 f2 => ?_
    · exact Bd.mono (b := 8) (by unfold Bd; rw [show (2 : Nat) ^ 8 = 256 by decide]; omega) (by omega)
    have nf : m.length ≠ f := by omega
    have l2 := k2.at_ l1 nf
    have b2 := k2.at_ b1 hlbf
    refine ⟨isL_at l2, ?_⟩
    refine of_ok (by omega) f2 b2 (by simpa using hb0) (by simp; omega) fun j e m3 he k3 f3 => ?_
    obtain ⟨b, hb, rfl⟩ := map_at he
    have hbm := hbs b (List.mem_of_getElem? hb)
    have l3 := k3.at_ l2 nf
    have b3 := k3.at_ b2 hlbf
    have bb : Bd 7 b := by unfold Bd; rw [show (2 : Nat) ^ 7 = 128 by decide]; omega
    have tb : Bd 7 (d - most) := by unfold Bd; rw [show (2 : Nat) ^ 7 = 128 by decide]; omega
    refine law_fraction_ok hw (by omega) hbm.1 (bb.mono (by omega)) ?_
    refine appD_at l3 (by simp; omega) ?_
    rw [hI]
    refine ⟨((k1.trans k2).trans k3).set (.inl (Nat.le_refl _)), feed_frs f3 l3, ?_, p ++ [Rat.divInt (d - most) b], _, _, rfl, ?_, by simp [hp], ?_⟩
    · rw [List.getElem?_set_ne (by omega)]; exact b3
    · rw [set_at l3]; simp
    · intro r hr
      rcases List.mem_append.mp hr with hr | hr
      · exact hq r hr
      · rw [List.mem_singleton.mp hr]
        obtain ⟨c, hc1, hc2⟩ := hD b (List.mem_of_getElem? hb)
        exact ⟨divInt_bd tb bb (by omega), divInt_ov hbm.1 hc1 (by omega) hc2⟩
  · intro σ m' h
    rw [hI] at h
    obtain ⟨k1, f1, b1, p, y, z, rfl, l1, hp, hq⟩ := h
    have e3 : (rngD many).length = many := by simp [rngD]
    rw [e3] at hp f1
    simp
    exact k m.length p m' hp hq (Nat.le_refl _) l1 k1 (f1.mono (by omega))
theorem poly_okD (hw : Fu wf) (hn : 4 ≤ n) {f B lb deg most : Nat} {bs : List Int} {AA DD : Nat} (hD : ∀ b ∈ bs, ∃ c : Nat, (DD : Int) = b * c ∧ most * c ≤ AA) (hA : DD ≤ AA) (hf : Feed f (B + 2 * deg + 3) m) (hlb : m[lb]? = some (.lst (bs.map D.int))) (hb0 : bs ≠ []) (hbs : ∀ b ∈ bs, 0 < b ∧ b < 128) (hbl : bs.length ≤ 100) (hdeg : deg ≤ 90) (hmost : most ≤ 99)
    (k : ∀ (p : List Rat) m', p.length ≤ deg + 1 → (∀ r ∈ p, Dr AA DD r) → Can p → Kp (· = f) m m' → Feed f B m' → Q (pD p) m') :
    (callN Pr wf n f__law_poly [.loc f, .int deg, .int most, .loc lb] m).to Q := by
  refine call_of (fn := p__law_poly) rfl rfl (by omega) fun k' hk => ?_
  simp [p__law_poly]
  refine draw_ok (B := B + 2 * deg + 2) (by omega) hf (by omega) ?_ fun d m1 d0 d1 k1 f1 => ?_
  · exact Bd.mono (b := 8) (by unfold Bd; rw [show (2 : Nat) ^ 8 = 256 by decide]; omega) (by omega)
  obtain ⟨many, rfl⟩ : ∃ i : Nat, d = i := ⟨d.toNat, by omega⟩
  have hlb1 := k1.at_ hlb (hf.ne hlb)
  refine parts_okD (B := B) (hD := hD) hw (by omega) (f1.mono (by omega)) hlb1 hb0 hbs hbl (by omega) hmost fun l p m2 hp hq hl l2 k2 f2 => ?_
  simp [to_newL]
  have lm : l < m2.length := (List.getElem?_eq_some_iff.mp l2).1
  have l3 : (m2 ++ [Cell.lst []])[l]? = some (.lst (p.map fr)) := by rw [List.getElem?_append_left lm]; exact l2
  have e0 : eqD (m2 ++ [Cell.lst []]) (.loc l) (.loc m2.length) = some (decide (p = [])) := eqD_lnil (listAt_lst l3) (listAt_lst at_new)
  simp [e0]
  have kk : Kp (· = f) m (m2 ++ [Cell.lst []]) := (k1.trans k2).trans .new
  have ff : Feed f B (m2 ++ [Cell.lst []]) := f2.new
  have lm1 := k1.1
  generalize (m2 ++ [Cell.lst []]) = m3 at l3 e0 kk ff
  have bound7 : ∀ {p : List Rat}, p.length ≤ 1000 → p.length ≤ 1000000 := fun h => by omega
  have done : ∀ (p' : List Rat) m4, m4[l]? = some (.lst (p'.map fr)) → p'.length ≤ deg + 1 → (∀ r ∈ p', Dr AA DD r) → Can p' → Kp (· = f) m m4 → Feed f B m4 → (bltD .tuple [.loc l] m4).to Q := by
    intro p' m4 h4 hl' hq' hc' k4 f4
    rw [blt_tupL (listAt_lst h4)]
    exact ⟨sz_ok (by simp; omega), k p' m4 hl' hq' hc' k4 f4⟩
  refine br_of (fun hp0 => ?_) fun hp0 => ?_
  · subst hp0
    exact done [] m3 l3 (by simp) hq (by simp [Can]) kk ff
  · have hpos : 0 < p.length := List.length_pos_iff.mpr hp0
    obtain ⟨r, hr⟩ : ∃ r, p.getLast? = some r := by
      cases e : p.getLast? with
      | none => exact absurd (List.getLast?_eq_none_iff.mp e) hp0
      | some r => exact ⟨r, rfl⟩
    have e5 : idxI (.loc l) (.int (-1)) m3 = some (fr r) := by
      rw [idx_loc (listAt_lst l3), atI_neg (by simpa using hpos), List.getLast?_map, hr]; rfl
    simp [e5]
    refine br_of (fun hz => ?_) fun hz => ?_
    · refine ⟨_, putAt_m1 l3 (by simpa using hpos), ?_⟩
      have e6 : (p.map fr).set ((p.map fr).length - 1) (.tup [.int 1, .int 1]) = (p.dropLast ++ [1]).map fr := by
        rw [List.length_map, ← fr1, ← List.map_set]
        congr 1
        rw [List.dropLast_eq_take]
        rw [List.set_eq_take_append_cons_drop, if_pos (by omega), List.drop_of_length_le (by omega)]
      have hlf : l ≠ f := by
        have lfm : f < m.length := by
          obtain ⟨c, ns, a, lf, t, h1, _⟩ := hf
          exact (List.getElem?_eq_some_iff.mp h1).1
        omega
      refine done (p.dropLast ++ [1]) _ (by rw [set_at l3, e6]) (by simp; omega) ?_ (by simp [Can]) (kk.set (.inl (by omega))) ?_
      · intro s hs
        rcases List.mem_append.mp hs with hs | hs
        · exact hq s (List.dropLast_subset _ hs)
        · rw [List.mem_singleton.mp hs]
          exact ⟨Bq.mono (b := 1) ⟨by unfold Bd; decide, by unfold Bd; decide⟩ (by omega), ov_one hA⟩
      · exact feed_frs ff l3
    · refine done p m3 l3 (by omega) hq ?_ kk ff
      unfold Can
      rw [hr]
      exact fun z => hz (Option.some.inj z)
theorem polys_ofD {AA DD : Nat} {its ys : List D} (hl : ys.length = its.length) (h : ∀ (i : Nat) (d y : D), its[i]? = some d → ys[i]? = some y → ∃ p, y = pD p ∧ PlD AA DD 3 p) : ∃ r : List (List Rat), ys = r.map pD ∧ r.length = its.length ∧ ∀ p ∈ r, PlD AA DD 3 p := by
  have h' : ∀ y ∈ ys, ∃ p, y = pD p ∧ PlD AA DD 3 p := by
    intro y hy
    obtain ⟨i, hi, rfl⟩ := List.mem_iff_getElem.mp hy
    exact h i _ _ (List.getElem?_eq_getElem (show i < its.length by omega)) (List.getElem?_eq_getElem hi)
  rw [← hl]
  clear h hl
  induction ys with
  | nil => exact ⟨[], rfl, rfl, fun p hp => by cases hp⟩
  | cons y ys ih =>
    obtain ⟨p, rfl, hp⟩ := h' y (by simp)
    obtain ⟨r, rfl, h2, h3⟩ := ih fun z hz => h' z (by simp [hz])
    exact ⟨p :: r, rfl, by simp, fun q hq => by
      rcases List.mem_cons.mp hq with rfl | hq
      · exact hp
      · exact h3 q hq⟩
theorem row_tailD (hw : Fu wf) (hn : 4 ≤ n) {f B wide deg most lb : Nat} {bs : List Int} {AA DD : Nat} (hD : ∀ b ∈ bs, ∃ c : Nat, (DD : Int) = b * c ∧ most * c ≤ AA) (hA : DD ≤ AA) {x2 : Option D} (hf : Feed f (B + 20 * wide) m) (hlb : m[lb]? = some (.lst (bs.map D.int))) (hb0 : bs ≠ []) (hbs : ∀ b ∈ bs, 0 < b ∧ b < 128) (hbl : bs.length ≤ 100) (hd : deg ≤ 2) (hmost : most ≤ 99) (hwide : wide ≤ 100)
    (k : ∀ r m', r.length = wide → (∀ p ∈ r, PlD AA DD 3 p) → Kp (· = f) m m' → Feed f B m' → Q (rD r) m') :
    (evSs (callN Pr wf n) wf (p__law_row.body.dr 1) [some (.loc f), some (.int wide), x2, some (.int deg), some (.int most), some (.loc lb), none] m).to (fin Q) := by
  simp [p__law_row]
  have hb := bound_ok (show wide ≤ 1000000 by omega)
  have hfl := feed_lt hf
  refine ev_compI (· = f) (fun i m2 => Kp (· = f) m m2 ∧ Feed f (B + 20 * (wide - i)) m2) m.length (rngD wide) (fun _ _ y => ∃ p, y = pD p ∧ PlD AA DD 3 p) (fun l hl => by omega) (fun i m2 c h => ⟨h.1.trans .new, h.2.new⟩) ?_ (fun i m2 h => h.1.1) (by simp [rngD]; omega) ?_ ?_ ?_
  · intro i m2 l ys y hlt h hl hm2 hlen hP
    refine ⟨h.1.set (.inl hl), h.2.setN hm2 fun d hd i e => ?_⟩
    subst e
    obtain ⟨j, hj, e⟩ := List.mem_iff_getElem.mp hd
    obtain ⟨p, e2, _⟩ := hP j _ _ (List.getElem?_eq_getElem (show j < (rngD wide).length by omega)) (List.getElem?_eq_getElem hj)
    rw [e] at e2
    cases e2
  · simp [hb]
    exact ⟨by simp [rngD], ⟨.refl, hf⟩, fun i m2 _ _ => gives_rng _ _⟩
  · intro i d m2 hd h
    obtain ⟨hi, rfl⟩ := rngD_at hd
    refine ⟨[some (.loc f), some (.int wide), x2, some (.int deg), some (.int most), some (.loc lb), some (.int i)], rfl, ?_⟩
    simp
    refine poly_okD (hD := hD) (hA := hA) (B := B + 20 * (wide - (i + 1))) hw (by omega) (h.2.mono (by omega)) (h.1.at_ hlb (hf.ne hlb)) hb0 hbs hbl (by omega) hmost fun p m3 lp bp cp k3 f3 => ?_
    exact ⟨⟨p, rfl, by omega, bp, cp⟩, ⟨h.1.trans k3, f3⟩, k3⟩
  · intro l ys m' h hl hm' hlen hP
    obtain ⟨r, rfl, h2, h3⟩ := polys_ofD hlen hP
    rw [blt_tupL (listAt_lst hm')]
    have e : (rngD wide).length = wide := by simp [rngD]
    rw [e] at h2 h
    refine ⟨by simp; omega, k r m' h2 h3 h.1 (h.2.mono (by omega))⟩
theorem row_okD (hw : Fu wf) (hn : 5 ≤ n) {f B wide : Nat} {small : Bool} (hf : Feed f (B + 20 * wide) m) (hwide : wide ≤ 100)
    (k : ∀ r m', r.length = wide → (∀ p ∈ r, PlD 54 6 3 p) → Kp (· = f) m m' → Feed f B m' → Q (rD r) m') :
    (callN Pr wf n f__law_row [.loc f, .int wide, .bl small] m).to Q := by
  refine call_of (fn := p__law_row) rfl rfl (by omega) fun k' hk => ?_
  show (evSs (callN Pr wf k') wf (.cons _ (p__law_row.body.dr 1)) [some (.loc f), some (.int wide), some (.bl small), none, none, none, none] m).to (fin Q)
  simp [to_newL]
  generalize hM : (m ++ [Cell.lst [D.int 1, D.int 1, D.int 2, D.int 3], Cell.lst [D.int 1], Cell.lst [D.tup [D.int 2, D.int 9, D.loc m.length], D.tup [D.int 1, D.int 3, D.loc (m.length + 1)]]]) = M
  have at_ : ∀ j c, [Cell.lst [D.int 1, D.int 1, D.int 2, D.int 3], Cell.lst [D.int 1], Cell.lst [D.tup [D.int 2, D.int 9, D.loc m.length], D.tup [D.int 1, D.int 3, D.loc (m.length + 1)]]][j]? = some c → M[m.length + j]? = some c := fun j c h => by
    rw [← hM, List.getElem?_append_right (by omega), Nat.add_sub_cancel_left]; exact h
  have kM : Kp nox m M := by rw [← hM]; exact .new
  have c0 : M[m.length]? = some (.lst ([1, 1, 2, 3].map D.int)) := at_ 0 _ rfl
  have c1 : M[m.length + 1]? = some (.lst ([1].map D.int)) := at_ 1 _ rfl
  have c2 := at_ 2 _ rfl
  cases small with
  | false =>
    simp [idx_loc (listAt_lst c2)]
    refine ⟨[some (.loc f), some (.int wide), some (.bl false), some (.int 2), some (.int 9), some (.loc m.length), none], rfl, ?_⟩
    exact row_tailD (AA := 54) (DD := 6) (hA := by omega) hw (by omega) (deg := 2) (most := 9) (hD := d1236) (hf := hf.keep kM) (hlb := c0) (by simp) (by simp) (by simp) (by omega) (by omega) hwide fun r m' h1 h2 k1 f1 => k r m' h1 h2 (kM.of.trans k1) f1
  | true =>
    simp [idx_loc (listAt_lst c2)]
    refine ⟨[some (.loc f), some (.int wide), some (.bl true), some (.int 1), some (.int 3), some (.loc (m.length + 1)), none], rfl, ?_⟩
    exact row_tailD (AA := 54) (DD := 6) (hA := by omega) hw (by omega) (deg := 1) (most := 3) (hD := d1) (hf := hf.keep kM) (hlb := c1) (by simp) (by simp) (by simp) (by omega) (by omega) hwide fun r m' h1 h2 k1 f1 => k r m' h1 h2 (kM.of.trans k1) f1
theorem table_okD (hw : Fu wf) (hn : 6 ≤ n) {f B many wide : Nat} (hf : Feed f (B + (20 * wide + 10) * many) m) (hwide : wide ≤ 100) (hmany : many ≤ 100)
    (k : ∀ R m', R.length = many → TbD 54 6 wide many R → Kp (· = f) m m' → Feed f B m' → Q (tD wide R) m') :
    (callN Pr wf n f__law_table [.loc f, .int many, .int wide] m).to Q := by
  refine call_of (fn := p__law_table) rfl rfl (by omega) fun k' hk => ?_
  have hb := bound_ok (show many ≤ 1000000 by omega)
  simp [p__law_table, to_newL, s_forE, hb]
  have hfl := feed_lt hf
  obtain ⟨I, hI⟩ : ∃ I : Nat → Sl → Mu → Prop, I = (fun i σ m' => Kp (· = f) m m' ∧ Feed f (B + (20 * wide + 10) * (many - i)) m' ∧ ∃ R, m'[m.length]? = some (.lst (R.map rD)) ∧ R.length = i ∧ TbD 54 6 wide many R ∧ ∃ y z, σ = [some (.loc f), some (.int many), some (.int wide), some (.loc m.length), y, z]) := ⟨_, rfl⟩
  refine ft_of (rngD many) I (by simp [rngD]) (by rw [hI]; exact ⟨.new, hf.new, [], at_new, rfl, ⟨by simp, fun r hr => by cases hr⟩, _, _, rfl⟩) (fun _ _ m _ => gives_rng _ m) ?_ ?_
  · intro i d σ m' hd h
    rw [hI] at h
    obtain ⟨k1, f1, R, hR, hl, hT, y, z, rfl⟩ := h
    obtain ⟨hi, rfl⟩ := rngD_at hd
    refine ⟨[some (.loc f), some (.int many), some (.int wide), some (.loc m.length), some (.int i), z], rfl, ?_⟩
    have e2 : (20 * wide + 10) * (many - i) = (20 * wide + 10) * (many - (i + 1)) + (20 * wide + 10) := by
      rw [show many - i = (many - (i + 1)) + 1 by omega, Nat.mul_succ]
    rw [e2] at f1
    have nf : m.length ≠ f := by omega
    -- the row is put at the end
    have last : ∀ (r : List (List Rat)) (m2 : Mu) (y z : Option D), r.length = wide → (∀ p ∈ r, PlD 54 6 3 p) → Kp (· = f) m' m2 → Feed f (B + (20 * wide + 10) * (many - (i + 1))) m2 →
        (appD (.loc m.length) (rD r) m2).to fun _ m3 => I (i + 1) [some (.loc f), some (.int many), some (.int wide), some (.loc m.length), y, z] m3 := by
      intro r m2 y z h1 h2 k2 f2
      have hm2 := k2.at_ hR nf
      refine appD_at hm2 (by simp; omega) ?_
      rw [hI]
      refine ⟨(k1.trans k2).set (.inl (Nat.le_refl _)), f2.setN hm2 (ni_rD R), R ++ [r], by rw [set_at hm2]; simp, by simp [hl], ⟨by simp; omega, fun q hq => ?_⟩, _, _, rfl⟩
      rcases List.mem_append.mp hq with hq | hq
      · exact hT.2 q hq
      · rw [List.mem_singleton.mp hq]; exact ⟨h1, h2⟩
    simp [b__law_table_1]
    refine draw_ok (B := B + (20 * wide + 10) * (many - (i + 1)) + 20 * wide + 9) (by omega) (f1.mono (by omega)) (by omega) (bd_small (by omega) (by omega)) fun d m2 d0 d1 k2 f2 => ?_
    have hm2 := k2.at_ hR nf
    have row : ∀ (m3 : Mu) (small : Bool) (v : Option D), Kp (· = f) m' m3 → Feed f (B + (20 * wide + 10) * (many - (i + 1)) + 20 * wide) m3 → (callN Pr wf k' f__law_row [.loc f, .int wide, .bl small] m3).to fun y m4 => (appD (.loc m.length) y m4).to fun _ m5 => I (i + 1) [some (.loc f), some (.int many), some (.int wide), some (.loc m.length), some (.int i), v] m5 := by
      intro m3 small v k3 f3
      refine row_okD hw (by omega) (B := B + (20 * wide + 10) * (many - (i + 1))) f3 hwide fun r m4 h1 h2 k4 f4 => ?_
      exact last r m4 _ _ h1 h2 (k3.trans k4) f4
    simp
    refine br_of (fun h0 => ?_) fun h0 => ?_
    · refine ⟨isL_at hm2, by omega, by rw [rep_one]; simp; omega, ?_⟩
      rw [rep_nil]
      exact last _ m2 _ _ (by simp) (fun p hp => by rw [List.eq_of_mem_replicate hp]; exact plD_nil) k2 (f2.mono (by omega))
    · refine br_of (fun h1 => ?_) fun h1 => ?_
      · simp [to_newL]
        have hth : Ths (fun _ => True) 7 3 (((1209 * 3 + 5) * wide + 3 + 2) * R.length) (m2 ++ [Cell.lst []]) (R.map rD) := ths_map fun r hr => th_rD (hT.2 r hr).1 fun p hp => ((hT.2 r hr).2 p hp).pl
        have hl2 : m.length < m2.length := (List.getElem?_eq_some_iff.mp hm2).1
        have hm3 : (m2 ++ [Cell.lst []])[m.length]? = some (.lst (R.map rD)) := by rw [List.getElem?_append_left hl2]; exact hm2
        rw [eqD_lnilT hth (by omega) hm3 at_new]
        simp
        refine br_of (fun h3 => ?_) fun h3 => ?_
        · exact ⟨isL_at hm3, row _ _ _ (k2.trans .new) ((f2.new).mono (by omega))⟩
        · refine ⟨isL_at hm3, ?_⟩
          refine of_ok (B := B + (20 * wide + 10) * (many - (i + 1))) (by omega) ((f2.new).mono (by omega)) hm3 (by simpa using h3) (by simp; omega) fun j d m4 hj k4 f4 => ?_
          obtain ⟨r, hr, rfl⟩ := map_at hj
          have tr := hT.2 r (List.mem_of_getElem? hr)
          exact last r m4 _ _ tr.1 tr.2 ((k2.trans .new).trans k4) f4
      · exact ⟨isL_at hm2, row _ _ _ k2 (f2.mono (by omega))⟩
  · intro σ m' h
    rw [hI] at h
    obtain ⟨k1, f1, R, hR, hl, hT, y, z, rfl⟩ := h
    have e3 : (rngD many).length = many := by simp [rngD]
    rw [e3] at hl f1
    simp
    rw [blt_tupL (listAt_lst hR)]
    refine ⟨by simp; omega, ?_⟩
    exact k R m' hl hT k1 (f1.mono (by omega))
end K78
end Mn
end

section
namespace Mn
open PySem
def isRo (many : Nat) : D → Bool
  | .int i => decide (0 ≤ i) && decide (i < (many : Int))
  | _ => false
def neI : D → D → Bool
  | .int i, .int j => decide (i ≠ j)
  | _, _ => false
def topN : D → Bool
  | .tup (.int a :: _) => decide (a ≠ 0)
  | _ => false
def lenD : D → Nat
  | .tup ds => ds.length
  | _ => 0
theorem TR.isiStr {A : Nat → Prop} {m : Mu} {k : Nat} {d : D} {x : PyData} (h : TR A m k d x) : isiD .str d m = some (match d with | .str _ => true | _ => false) := by
  cases h <;> simp_all [isiD, Ty.isList]
theorem isRo_int {many : Nat} {d : D} (h : isRo many d = true) : ∃ i : Nat, d = .int i ∧ i < many := by
  unfold isRo at h
  split at h
  · rename_i i
    have z := Bool.and_eq_true_iff.mp h
    have z1 := of_decide_eq_true z.1
    have z2 := of_decide_eq_true z.2
    exact ⟨i.toNat, by congr 1; omega, by omega⟩
  · cases h
namespace K78
variable {wf n : Nat} {m : Mu} {Q : D → Mu → Prop} {A : Nat → Prop}
def twoRo (many : Nat) (x y : D) : Bool := isRo many x && (isRo many y && neI x y)
def deed3 (many : Nat) (x y : D) : D → Bool
  | .str s => if s = "times" then isRo many x && (isFr y && topN y) else if s = "swap" then twoRo many x y else false
  | _ => false
def deed4 (many : Nat) (x y z : D) : D → Bool
  | .str s => if s = "add" then twoRo many x y && (isPl z && decide (lenD z ≤ 3)) else false
  | _ => false
def deedL (many : Nat) : List D → Bool
  | [s, x, y] => deed3 many x y s
  | [s, x, y, z] => deed4 many x y z s
  | _ => false
def isDeed (many : Nat) : D → Bool
  | .tup ds => deedL many ds
  | _ => false
end K78
end Mn
end

section
namespace Mn
open PySem
@[simp] theorem notin34 {m : Mu} {i : Int} : cmpD .notin (.int i) (.tup [.int 3, .int 4]) m = some (decide (¬(i = 3 ∨ i = 4))) := by
  have h1 : Rf 1 m (.int i) (.int i) := rf_int
  have h2 : Rf 2 m (.tup [.int 3, .int 4]) (.tuple [.int 3, .int 4]) := rf_tup (rfl_cons rf_int (rfl_cons rf_int rfl_nil))
  have s1 : Shp 64 (PyData.int i) := shp_int.mono (by decide)
  have s2 : Shp 64 (PyData.tuple [.int 3, .int 4]) := (shp_tup (shpl_cons shp_int (shpl_cons shp_int shpl_nil))).mono (by decide)
  have e1 : SeqAt.shaped (PyData.int i) = true := by unfold SeqAt.shaped; rw [s1.1, decide_eq_true s1.2]; rfl
  have e2 : SeqAt.shaped (PyData.tuple [.int 3, .int 4]) = true := by unfold SeqAt.shaped; rw [s2.1, decide_eq_true s2.2]; rfl
  show (inD m (.int i) (.tup [.int 3, .int 4])).map (!·) = _
  unfold inD
  simp only [tree, h1 60 (by decide), h2 60 (by decide), e1, e2, Bool.and_self, if_true]
  simp [PyData.eqv]
  by_cases h3 : i = 3
  · subst h3; decide
  · by_cases h4 : i = 4
    · subst h4; decide
    · have a3 : (3 == i) = false := by simp; omega
      have a4 : (4 == i) = false := by simp; omega
      simp [h3, h4, a3, a4]
namespace K78
variable {wf n : Nat} {m : Mu} {Q : D → Mu → Prop} {A : Nat → Prop}
theorem isPl_tupS {d : D} (h : isPl d = true) : ∃ ds, d = .tup ds := by
  cases d <;> simp [isPl] at h
  exact ⟨_, rfl⟩
theorem th_uncons {b k W : Nat} {d : D} {ds : List D} (h : Ths A b k W m (d :: ds)) : Th A b k W m d ∧ Ths A b k W m ds := by
  obtain ⟨xs, h1, h2, h3⟩ := h
  cases h1 with
  | cons a t =>
    simp only [goods] at h2
    simp only [msrs] at h3
    exact ⟨⟨_, a, h2.1, by omega⟩, ⟨_, t, h2.2, by omega⟩⟩
theorem isDeed_len {many : Nat} {ds : List D} (h : ¬(ds.length = 3 ∨ ds.length = 4)) : isDeed many (.tup ds) = false := by
  match ds, h with
  | [], _ => rfl
  | [_], _ => rfl
  | [_, _], _ => rfl
  | [_, _, _], h => exact absurd (.inl rfl) h
  | [_, _, _, _], h => exact absurd (.inr rfl) h
  | _ :: _ :: _ :: _ :: _ :: _, _ => rfl
theorem at3_2 {a b c : D} : L2.atI [a, b, c] 2 = some c := rfl
theorem at4_2 {a b c d : D} : L2.atI [a, b, c, d] 2 = some c := rfl
theorem at4_3 {a b c d : D} : L2.atI [a, b, c, d] 3 = some d := rfl
theorem eq_nghtD {m : Mu} {d : D} (h : isFr d = true) : eqC m d (.tup [.int 0, .int 1]) = some (!topN d) := by
  obtain ⟨a, b, rfl, hb, hg⟩ := isFr_shape h
  have e := (isFr_eq (i := a) hb).mpr hg
  rw [← e, eqC_fr0]
  rw [e]
  simp only [topN]
  congr 1
  by_cases ha : a = 0
  · subst ha
    have : Rat.divInt 0 b = 0 := by simp
    rw [this]; simp
  · have : Rat.divInt a b ≠ 0 := fun z => ha (by
      rw [z, fr0] at e
      injection e with e
      injection e with e _
      injection e with e
      exact e.symm)
    simp [this, ha]
end K78
end Mn
end

section
namespace Mn
open PySem
namespace K78
variable {wf n : Nat} {m : Mu} {Q : D → Mu → Prop} {A : Nat → Prop}
inductive Deed where
  | swap (i j : Nat)
  | times (i : Nat) (f : Rat)
  | add (i j : Nat) (p : List Rat)
def deD : Deed → D
  | .swap i j => .tup [.str "swap", .int i, .int j]
  | .times i f => .tup [.str "times", .int i, fr f]
  | .add i j p => .tup [.str "add", .int i, .int j, pD p]
def DeOk (many b : Nat) : Deed → Prop
  | .swap i j => i < many ∧ j < many ∧ i ≠ j
  | .times i f => i < many ∧ f ≠ 0 ∧ Bq b f
  | .add i j p => i < many ∧ j < many ∧ i ≠ j ∧ Pl b 3 p
theorem isFr_inv {b k W : Nat} {d : D} (h : isFr d = true) (t : Th A b k W m d) : ∃ q, d = fr q ∧ Bq b q := by
  obtain ⟨x, y, rfl, hy, hg⟩ := isFr_shape h
  have e := (isFr_eq (i := x) hy).mpr hg
  refine ⟨Rat.divInt x y, e.symm, ?_⟩
  obtain ⟨t1, t2⟩ := th_uncons t.tup
  obtain ⟨t2, _⟩ := th_uncons t2
  have b1 : Bd b x := by
    obtain ⟨z, g, g2, _⟩ := t1
    cases g
    simpa only [good] using g2
  have b2 : Bd b y := by
    obtain ⟨z, g, g2, _⟩ := t2
    cases g
    simpa only [good] using g2
  exact divInt_bd b1 b2 (by omega)
theorem isPl_inv {b k W : Nat} {d : D} (h : isPl d = true) (t : Th A b k W m d) : ∃ p, d = pD p ∧ (∀ r ∈ p, Bq b r) ∧ Can p := by
  obtain ⟨ds, rfl⟩ := isPl_tupS h
  rw [isPl_tup, Bool.and_eq_true] at h
  have hs := t.tup
  have go : ∀ ds : List D, ds.all isFr = true → Ths A b k W m ds → ∃ p : List Rat, ds = p.map fr ∧ ∀ r ∈ p, Bq b r := by
    intro ds
    induction ds with
    | nil => exact fun _ _ => ⟨[], rfl, fun r hr => by cases hr⟩
    | cons d ds ih =>
      intro ha hs
      simp only [List.all_cons, Bool.and_eq_true] at ha
      obtain ⟨t1, t2⟩ := th_uncons hs
      obtain ⟨q, rfl, hq⟩ := isFr_inv ha.1 t1
      obtain ⟨p, rfl, hp⟩ := ih ha.2 t2
      refine ⟨q :: p, rfl, fun r hr => ?_⟩
      rcases List.mem_cons.mp hr with rfl | hr
      · exact hq
      · exact hp r hr
  obtain ⟨p, rfl, hp⟩ := go ds h.1 hs
  refine ⟨p, rfl, hp, ?_⟩
  have h2 := h.2
  rw [List.getLast?_map] at h2
  unfold Can
  intro z
  rw [z] at h2
  simp [lastOk, fr] at h2
theorem isDeed_inv {b k W many : Nat} {d : D} (h : isDeed many d = true) (t : Th A b k W m d) : ∃ e, d = deD e ∧ DeOk many b e := by
  cases d with
  | tup ds =>
    have hs := t.tup
    have two : ∀ {x y : D}, twoRo many x y = true → ∃ i j : Nat, x = .int i ∧ y = .int j ∧ i < many ∧ j < many ∧ i ≠ j := fun {x y} h => by
      simp only [twoRo, Bool.and_eq_true] at h
      obtain ⟨i, rfl, hi⟩ := isRo_int h.1
      obtain ⟨j, rfl, hj⟩ := isRo_int h.2.1
      refine ⟨i, j, rfl, rfl, hi, hj, ?_⟩
      have := h.2.2
      simp only [neI] at this
      have := of_decide_eq_true this
      omega
    match ds, hs, h with
    | [s, x, y], hs, h =>
      have hh : deed3 many x y s = true := h
      clear h
      obtain ⟨_, hs⟩ := th_uncons hs
      obtain ⟨_, hs⟩ := th_uncons hs
      obtain ⟨t2, _⟩ := th_uncons hs
      cases s with
      | str s =>
        simp only [deed3] at hh
        split at hh
        · rename_i e
          subst e
          simp only [Bool.and_eq_true] at hh
          obtain ⟨i, rfl, hi⟩ := isRo_int hh.1
          obtain ⟨q, rfl, hq⟩ := isFr_inv hh.2.1 t2
          refine ⟨.times i q, rfl, hi, ?_, hq⟩
          rintro rfl
          have := hh.2.2
          simp [topN, fr] at this
        · split at hh
          · rename_i e
            subst e
            obtain ⟨i, j, rfl, rfl, h1, h2, h3⟩ := two hh
            exact ⟨.swap i j, rfl, h1, h2, h3⟩
          · cases hh
      | _ => cases hh
    | [s, x, y, z], hs, h =>
      have hh : deed4 many x y z s = true := h
      clear h
      obtain ⟨_, hs⟩ := th_uncons hs
      obtain ⟨_, hs⟩ := th_uncons hs
      obtain ⟨_, hs⟩ := th_uncons hs
      obtain ⟨t3, _⟩ := th_uncons hs
      cases s with
      | str s =>
        simp only [deed4] at hh
        split at hh
        · rename_i e
          subst e
          simp only [Bool.and_eq_true] at hh
          obtain ⟨i, j, rfl, rfl, h1, h2, h3⟩ := two hh.1
          obtain ⟨p, rfl, hp, cp⟩ := isPl_inv hh.2.1 t3
          refine ⟨.add i j p, rfl, h1, h2, h3, ?_, hp, cp⟩
          have := of_decide_eq_true hh.2.2
          simpa [lenD, pD] using this
        · cases hh
      | _ => cases hh
    | [], _, h => cases h
    | [_], _, h => cases h
    | [_, _], _, h => cases h
    | _ :: _ :: _ :: _ :: _ :: _, _, h => cases h
  | _ => cases h
/-- a deed done on the rows -/
def dn (R : List (List (List Rat))) : Deed → List (List (List Rat))
  | .swap i j => (R.set i (R.getD j [])).set j (R.getD i [])
  | .times i f => R.set i ((R.getD i []).map fun p => mulC p [f])
  | .add i j p => R.set i ((R.getD i []).zipWith (fun x y => trim (addQ x (mulC p y))) (R.getD j []))
def dns (R : List (List (List Rat))) : List Deed → List (List (List Rat))
  | [] => R
  | e :: es => dns (dn R e) es
end K78
end Mn
end

section
namespace Mn
open PySem
namespace K78
variable {wf n : Nat} {m : Mu} {Q : D → Mu → Prop} {A : Nat → Prop}
theorem sc_mul {p : List Rat} {f : Rat} (cp : Can p) (hf : f ≠ 0) : scQ p f = mulC p [f] := by
  rw [← scaled_eq cp]
  unfold sg
  rw [if_neg hf]
theorem getD_row {R : List (List (List Rat))} {i : Nat} {r : List (List Rat)} (h : R[i]? = some r) : R.getD i [] = r := by
  rw [List.getD_eq_getElem?_getD, h]; rfl
end K78
end Mn
end

section
namespace Mn
open PySem
namespace K78
variable {wf n : Nat} {m : Mu} {Q : D → Mu → Prop} {A : Nat → Prop}
/-- sizes that let a deed be done, by the program and by the law -/
def Fits (R : List (List (List Rat))) : Deed → Prop
  | .swap i j => i < R.length ∧ j < R.length ∧ i ≠ j
  | .times i f => f ≠ 0 ∧ ∃ r B, R[i]? = some r ∧ r.length ≤ 100 ∧ B ≤ 1000 ∧ Bq B f ∧ ∀ p ∈ r, (∀ x ∈ p, Bq B x) ∧ Can p ∧ p.length ≤ 300
  | .add i j p => i ≠ j ∧ ∃ r s B, R[i]? = some r ∧ R[j]? = some s ∧ r.length ≤ 100 ∧ r.length = s.length ∧ 1 ≤ B ∧ B ≤ 1000 ∧ (∀ x ∈ p, Bq B x) ∧ p.length ≤ 3 ∧ Can p ∧ 4 + p.length * (B + B + 1) ≤ 4000 ∧
      ∀ u ∈ r.zip s, (∀ x ∈ u.1, Bq B x) ∧ Can u.1 ∧ u.1.length ≤ 300 ∧ (∀ x ∈ u.2, Bq B x) ∧ u.2.length ≤ 300 ∧ 2 + (p.length + u.2.length) * B ≤ 4000 ∧ (∀ x ∈ mulC p u.2, Bq B x) ∧ 1 + (u.1.length + (mulC p u.2).length) * B ≤ 4000 ∧ (mulC p u.2).length ≤ 300
end K78
end Mn
end

section
namespace Mn
open PySem
namespace K78
variable {wf n : Nat} {m : Mu} {Q : D → Mu → Prop} {A : Nat → Prop}
def FitsAll : List (List (List Rat)) → List Deed → Prop
  | _, [] => True
  | R, e :: es => Fits R e ∧ FitsAll (dn R e) es
theorem dns_app (R : List (List (List Rat))) : ∀ (es fs : List Deed) , dns R (es ++ fs) = dns (dns R es) fs
  | [], _ => rfl
  | e :: es, fs => dns_app (dn R e) es fs
theorem fits_at {es : List Deed} : ∀ {R : List (List (List Rat))} {k : Nat} {e : Deed}, FitsAll R es → es[k]? = some e → Fits (dns R (es.take k)) e := by
  induction es with
  | nil => intro R k e _ h; simp at h
  | cons x es ih =>
    intro R k e hf h
    cases k with
    | zero => have := Option.some.inj h; subst this; exact hf.1
    | succ k => exact ih hf.2 h
theorem dns_take {R : List (List (List Rat))} {es : List Deed} {k : Nat} {e : Deed} (h : es[k]? = some e) : dns R (es.take (k + 1)) = dn (dns R (es.take k)) e := by
  have hk := (List.getElem?_eq_some_iff.mp h)
  obtain ⟨hk, rfl⟩ := hk
  rw [List.take_succ_eq_append_getElem hk, dns_app]; rfl
theorem dn_len {R : List (List (List Rat))} {e : Deed} : (dn R e).length = R.length := by
  cases e <;> simp [dn]
theorem dns_len {es : List Deed} : ∀ {R : List (List (List Rat))}, (dns R es).length = R.length := by
  induction es with
  | nil => intro R; rfl
  | cons e es ih => intro R; show (dns (dn R e) es).length = _; rw [ih, dn_len]
end K78
end Mn
end

section
namespace Mn
open PySem
namespace K78
variable {wf n : Nat} {m : Mu} {Q : D → Mu → Prop} {A : Nat → Prop}
/-- what is amiss -/
def amissD (many : Nat) : D → Option Int
  | .tup ds => if ds.length ≤ 40 then (ds.findIdx? fun d => !isDeed many d).map (fun (i : Nat) => (i : Int)) else some (-1)
  | _ => some (-1)
theorem th_deD {b many : Nat} {e : Deed} (h : DeOk many b e) (hb : 7 ≤ b) (hm : many ≤ 127) : Th A b 6 6000 m (deD e) := by
  have ii : ∀ {i : Nat}, i < many → Th A b 4 600 m (.int (i : Int)) := fun hi => ti (by omega) hb
  cases e with
  | swap i j =>
    exact (th_tup (ths_cons (th_str (b := b) (k := 4) (W := 100) (by decide) (by decide)) (ths_cons (ii h.1) (ths_one (ii h.2.1))))).mono (Nat.le_refl _) (by omega) (by omega)
  | times i f =>
    exact (th_tup (ths_cons (th_str (b := b) (k := 4) (W := 100) (by decide) (by decide)) (ths_cons (ii h.1) (ths_one ((th_fr (k := 3) h.2.2)))))).mono (Nat.le_refl _) (by omega) (by omega)
  | add i j p =>
    exact (th_tup (ths_cons (th_str (b := b) (k := 4) (W := 100) (by decide) (by decide)) (ths_cons (ii h.1) (ths_cons (ii h.2.1) (ths_one (th_pD (k := 2) h.2.2.2)))))).mono (Nat.le_refl _) (by omega) (by omega)
theorem isFr_fr (q : Rat) : isFr (fr q) = true := by
  show (decide (0 < (q.den : Int)) && decide (Int.gcd q.num q.den = 1)) = true
  rw [decide_eq_true den_pos, decide_eq_true (show Int.gcd q.num q.den = 1 from q.reduced)]; rfl
theorem isRo_nat {many i : Nat} (h : i < many) : isRo many (.int (i : Int)) = true := by
  show (decide (0 ≤ (i : Int)) && decide ((i : Int) < (many : Int))) = true
  rw [decide_eq_true (by omega), decide_eq_true (by omega)]; rfl
theorem deD_is {b many : Nat} {e : Deed} (h : DeOk many b e) : isDeed many (deD e) = true := by
  have two : ∀ {i j : Nat}, i < many → j < many → i ≠ j → twoRo many (.int (i : Int)) (.int (j : Int)) = true := fun hi hj hij => by
    unfold twoRo
    rw [isRo_nat hi, isRo_nat hj]
    show decide _ = true
    exact decide_eq_true (by omega)
  cases e with
  | swap i j =>
    show deed3 many (.int (i : Int)) (.int (j : Int)) (.str "swap") = true
    unfold deed3
    simp only []
    rw [if_neg (by decide), if_pos trivial]
    exact two h.1 h.2.1 h.2.2
  | times i f =>
    show deed3 many (.int (i : Int)) (fr f) (.str "times") = true
    unfold deed3
    simp only []
    rw [if_pos trivial, isRo_nat h.1, isFr_fr]
    show decide (f.num ≠ 0) = true
    exact decide_eq_true fun z => h.2.1 (Rat.num_eq_zero.mp z)
  | add i j p =>
    show deed4 many (.int (i : Int)) (.int (j : Int)) (pD p) (.str "add") = true
    unfold deed4
    simp only []
    rw [if_pos trivial, two h.1 h.2.1 h.2.2.1, isPl_pD h.2.2.2]
    show decide ((p.map fr).length ≤ 3) = true
    rw [List.length_map]
    exact decide_eq_true h.2.2.2.1
theorem findIdx_at {α : Type} {p : α → Bool} {l : List α} {i : Nat} (h : l.findIdx? p = some i) : ∃ a, l[i]? = some a ∧ p a = true ∧ ∀ j b, j < i → l[j]? = some b → p b = false := by
  rw [List.findIdx?_eq_some_iff_getElem] at h
  obtain ⟨h1, h2, h3⟩ := h
  refine ⟨l[i], List.getElem?_eq_getElem h1, h2, fun j b hj hb => ?_⟩
  have := h3 j hj
  obtain ⟨hl, rfl⟩ := List.getElem?_eq_some_iff.mp hb
  simpa using this
end K78
end Mn
end

section
namespace Mn
open PySem
namespace K78
variable {wf n : Nat} {m : Mu} {Q : D → Mu → Prop} {A : Nat → Prop}
def oD : Option Int → D
  | some i => .int i
  | none => .non
def hit {α : Type} (p : α → Bool) (l : List α) (i : Nat) : Bool := match l[i]? with | some a => p a | none => false
theorem hit_at {α : Type} {p : α → Bool} {l : List α} {i : Nat} {a : α} (h : l[i]? = some a) : hit p l i = p a := by unfold hit; rw [h]
theorem filt_head {α : Type} {p : α → Bool} : ∀ (l : List α), (((List.range l.length).filter (hit p l)).head?) = l.findIdx? p
  | [] => rfl
  | a :: l => by
    have ih := filt_head (p := p) l
    rw [List.length_cons, List.range_succ_eq_map, List.findIdx?_cons]
    cases h : p a with
    | true =>
      rw [List.filter_cons_of_pos (by rw [hit_at (a := a) rfl]; exact h)]; rfl
    | false =>
      rw [List.filter_cons_of_neg (by rw [hit_at (a := a) rfl, h]; decide), List.filter_map]
      have e : (hit p (a :: l) ∘ Nat.succ) = hit p l := by
        funext i; rfl
      rw [e, List.head?_map, ih]; rfl
end K78
end Mn
end

section
namespace Mn
open PySem
def pc (p : List Rat) : PolC := ⟨trim p, can_trim p⟩
theorem cf_trim (p : List Rat) : cf (trim p) = cf p := funext fun i => trim_getD p i
theorem cf_pc (p : List Rat) : cf (pc p).v = cf p := cf_trim p
theorem pc_mul (p q : List Rat) : pc (mulC p q) = pc p * pc q := PolC.ext' (by
  rw [cf_pc, cfm, cf_mul, cf_pc, opL_cf (pc p).v q, cf_pc, opL_cf q p])
theorem pc_add (p q : List Rat) : pc (trim (addQ p q)) = pc p + pc q := PolC.ext' (by
  rw [cf_pc, cfa, cf_add, cf_pc, cf_pc])
theorem pc_inj {p q : List Rat} (hp : Can p) (hq : Can q) (h : pc p = pc q) : p = q := by
  have := congrArg PolC.v h
  have h2 : trim p = trim q := this
  rwa [trim_can hp, trim_can hq] at h2
theorem pc_nil : pc [] = 0 := PolC.ext' (by
  show cf (pc []).v = cf (cst ((0 : Nat) : Rat)).v
  rw [cf_pc, cfc]; funext i; rw [show ((0 : Nat) : Rat) = 0 from rfl, Rat.zero_mul]; rfl)
theorem pc_cst (c : Rat) : pc [c] = cst c := PolC.ext' (by
  rw [cf_pc, cfc]; funext i
  cases i with
  | zero => show c = c * 1; rw [Rat.mul_one]
  | succ i => show (0 : Rat) = c * 0; rw [Rat.mul_zero])
theorem pc_one : pc [1] = 1 := pc_cst 1
theorem cst_inv {f g : Rat} (h : f * g = 1) : cst f * cst g = 1 := PolC.ext' (by
  show cf (cst f * cst g).v = cf (cst ((1 : Nat) : Rat)).v
  rw [cst_mul, cfc, cfc]; funext i
  rw [← Rat.mul_assoc, h]; rfl)
theorem pc_scQ (p : List Rat) : pc (scQ p (-1)) = -pc p := PolC.ext' (by
  rw [cf_pc, cfn, cf_pc]; funext i
  unfold scQ
  rw [if_neg (by decide)]
  show (p.map (· * (-1))).getD i 0 = -(p.getD i 0)
  rw [List.getD_eq_getElem?_getD, List.getD_eq_getElem?_getD, List.getElem?_map]
  cases p[i]? with
  | none => rfl
  | some x => show x * (-1) = -x; grind)
theorem zipWith_zip {α β γ : Type} {f : α → β → γ} : ∀ {r : List α} {s : List β}, r.zipWith f s = (r.zip s).map fun u => f u.1 u.2
  | [], _ => rfl
  | _ :: _, [] => rfl
  | x :: r, y :: s => by
    show f x y :: r.zipWith f s = _
    rw [zipWith_zip]; rfl
namespace K78
/-- the sum of the products of a row and a column -/
def sz (c : Nat) : List (List Rat × List (List Rat)) → PolC
  | [] => 0
  | z :: zs => pc z.1 * pc (z.2.getD c []) + sz c zs
theorem pc_dot (c : Nat) : ∀ (zs : List (List Rat × List (List Rat))) (acc : List Rat), pc (dotF c acc zs) = pc acc + sz c zs
  | [], acc => by show pc acc = pc acc + 0; grind
  | z :: zs, acc => by
    show pc (dotF c (trim (addQ acc (mulC z.1 (z.2.getD c [])))) zs) = pc acc + (pc z.1 * pc (z.2.getD c []) + sz c zs)
    rw [pc_dot c zs, pc_add, pc_mul]; grind
theorem can_nil : Can ([] : List Rat) := by unfold Can; simp
theorem can_dot (c : Nat) : ∀ (zs : List (List Rat × List (List Rat))) (acc : List Rat), Can acc → Can (dotF c acc zs)
  | [], acc, h => h
  | z :: zs, acc, h => can_dot c zs _ (can_trim _)
theorem sz_scale (c : Nat) (f : List Rat) : ∀ (row : List (List Rat)) (R2 : List (List (List Rat))), sz c ((row.map fun p => mulC p f).zip R2) = sz c (row.zip R2) * pc f
  | [], R2 => by show (0 : PolC) = 0 * pc f; grind
  | p :: row, [] => by show (0 : PolC) = 0 * pc f; grind
  | p :: row, r :: R2 => by
    show pc (mulC p f) * pc (r.getD c []) + sz c ((row.map fun p => mulC p f).zip R2) = (pc p * pc (r.getD c []) + sz c (row.zip R2)) * pc f
    rw [sz_scale c f row R2, pc_mul]; grind
theorem sz_add (c : Nat) (p : List Rat) : ∀ (r s : List (List Rat)) (R2 : List (List (List Rat))), r.length = s.length → sz c ((r.zipWith (fun x y => trim (addQ x (mulC p y))) s).zip R2) = sz c (r.zip R2) + pc p * sz c (s.zip R2)
  | [], [], R2, _ => by show (0 : PolC) = 0 + pc p * 0; grind
  | [], _ :: _, _, h => by simp at h
  | _ :: _, [], _, h => by simp at h
  | x :: r, y :: s, [], _ => by show (0 : PolC) = 0 + pc p * 0; grind
  | x :: r, y :: s, t :: R2, h => by
    show pc (trim (addQ x (mulC p y))) * pc (t.getD c []) + sz c ((r.zipWith (fun x y => trim (addQ x (mulC p y))) s).zip R2) = (pc x * pc (t.getD c []) + sz c (r.zip R2)) + pc p * (pc y * pc (t.getD c []) + sz c (s.zip R2))
    rw [sz_add c p r s R2 (by simpa using h), pc_add, pc_mul]; grind
/-- all rows as wide, all polys without noughts at the end -/
def Rc (w : Nat) (R : List (List (List Rat))) : Prop := ∀ r ∈ R, r.length = w ∧ ∀ p ∈ r, Can p
theorem Rc.at_ {w i : Nat} {R : List (List (List Rat))} (h : Rc w R) (hi : i < R.length) : (R.getD i []).length = w ∧ ∀ p ∈ R.getD i [], Can p := by
  rw [getD_row (List.getElem?_eq_getElem hi)]
  exact h _ (List.getElem_mem hi)
theorem mem_set {α : Type} {l : List α} {i : Nat} {a x : α} (h : x ∈ l.set i a) : x = a ∨ x ∈ l := by
  rcases List.mem_or_eq_of_mem_set h with h | h
  · exact .inr h
  · exact .inl h
theorem Rc.dn {w b : Nat} {R : List (List (List Rat))} {e : Deed} (h : Rc w R) (he : DeOk R.length b e) : Rc w (dn R e) := by
  intro r hr
  cases e with
  | swap i j =>
    rcases mem_set hr with rfl | hr
    · exact h.at_ he.1
    · rcases mem_set hr with rfl | hr
      · exact h.at_ he.2.1
      · exact h r hr
  | times i f =>
    rcases mem_set hr with rfl | hr
    · refine ⟨by rw [List.length_map]; exact (h.at_ he.1).1, fun p hp => ?_⟩
      obtain ⟨q, _, rfl⟩ := List.mem_map.mp hp
      exact can_mulC _ _
    · exact h r hr
  | add i j p =>
    rcases mem_set hr with rfl | hr
    · refine ⟨by rw [List.length_zipWith, (h.at_ he.1).1, (h.at_ he.2.1).1]; omega, fun q hq => ?_⟩
      rw [zipWith_zip] at hq
      obtain ⟨u, _, rfl⟩ := List.mem_map.mp hq
      exact can_trim _
    · exact h r hr
theorem Rc.dns {w b : Nat} : ∀ {es : List Deed} {R : List (List (List Rat))}, Rc w R → (∀ e ∈ es, DeOk R.length b e) → Rc w (dns R es)
  | [], _, h, _ => h
  | e :: es, R, h, he => Rc.dns (es := es) (h.dn (he e (by simp))) fun f hf => by rw [dn_len]; exact he f (by simp [hf])
theorem row_eq {r s : List (List Rat)} (hl : r.length = s.length) (hr : ∀ p ∈ r, Can p) (hs : ∀ p ∈ s, Can p) (h : ∀ i, i < r.length → pc (r.getD i []) = pc (s.getD i [])) : r = s := by
  apply List.ext_getElem hl
  intro i h1 h2
  have := h i h1
  rw [List.getD_eq_getElem?_getD, List.getD_eq_getElem?_getD, List.getElem?_eq_getElem h1, List.getElem?_eq_getElem h2] at this
  exact pc_inj (hr _ (List.getElem_mem h1)) (hs _ (List.getElem_mem h2)) this
def rowf (R : List (List (List Rat))) (w : Nat) (row : List (List Rat)) : List (List Rat) := (List.range w).map fun c => dotF c [] (row.zip R)
theorem tmul_rowf (X R : List (List (List Rat))) (w : Nat) : tmul X R w = X.map (rowf R w) := rfl
theorem getD_map {X : List (List (List Rat))} {f : List (List Rat) → List (List Rat)} {i : Nat} (h : i < X.length) : (X.map f).getD i [] = f (X.getD i []) := by
  rw [List.getD_eq_getElem?_getD, List.getD_eq_getElem?_getD, List.getElem?_map, List.getElem?_eq_getElem h]; rfl
theorem tmul_dn {w b n : Nat} {X R : List (List (List Rat))} {e : Deed} (hX : Rc n X) (he : DeOk X.length b e) : tmul (dn X e) R w = dn (tmul X R w) e := by
  rw [tmul_rowf, tmul_rowf]
  cases e with
  | swap i j =>
    show ((X.set i (X.getD j [])).set j (X.getD i [])).map (rowf R w) = ((X.map (rowf R w)).set i ((X.map (rowf R w)).getD j [])).set j ((X.map (rowf R w)).getD i [])
    rw [getD_map he.1, getD_map he.2.1, List.map_set, List.map_set]
  | times i f =>
    show (X.set i ((X.getD i []).map fun p => mulC p [f])).map (rowf R w) = (X.map (rowf R w)).set i (((X.map (rowf R w)).getD i []).map fun p => mulC p [f])
    rw [getD_map he.1, List.map_set]
    congr 1
    unfold rowf
    rw [List.map_map]
    refine List.map_congr_left fun c _ => ?_
    refine pc_inj (can_dot _ _ _ can_nil) (can_mulC _ _) ?_
    show _ = pc (mulC (dotF c [] ((X.getD i []).zip R)) [f])
    rw [pc_dot, pc_mul, pc_dot, sz_scale, pc_nil]; grind
  | add i j p =>
    show (X.set i ((X.getD i []).zipWith (fun x y => trim (addQ x (mulC p y))) (X.getD j []))).map (rowf R w) = (X.map (rowf R w)).set i (((X.map (rowf R w)).getD i []).zipWith (fun x y => trim (addQ x (mulC p y))) ((X.map (rowf R w)).getD j []))
    rw [getD_map he.1, getD_map he.2.1, List.map_set]
    congr 1
    unfold rowf
    rw [List.zipWith_map, List.zipWith_self]
    refine List.map_congr_left fun c _ => ?_
    refine pc_inj (can_dot _ _ _ can_nil) (can_trim _) ?_
    rw [pc_dot, pc_add, pc_mul, pc_dot, pc_dot, sz_add _ _ _ _ _ (by rw [(hX.at_ he.1).1, (hX.at_ he.2.1).1]), pc_nil]; grind
theorem tmul_dns {w b n : Nat} {R : List (List (List Rat))} : ∀ {es : List Deed} {X : List (List (List Rat))}, Rc n X → (∀ e ∈ es, DeOk X.length b e) → tmul (dns X es) R w = dns (tmul X R w) es
  | [], _, _, _ => rfl
  | e :: es, X, hX, he => by
    have h1 := he e (by simp)
    show tmul (dns (dn X e) es) R w = dns (dn (tmul X R w) e) es
    rw [tmul_dns (es := es) (hX.dn h1) (fun f hf => by rw [dn_len]; exact he f (by simp [hf])), tmul_dn hX h1]
def inv : Deed → Deed
  | .swap i j => .swap i j
  | .times i f => .times i (1 / f)
  | .add i j p => .add i j (scQ p (-1))
theorem set_getD {X : List (List (List Rat))} {i : Nat} (h : i < X.length) : X.set i (X.getD i []) = X := by
  rw [getD_row (List.getElem?_eq_getElem h)]; exact List.set_getElem_self h
theorem getD_set_self {X : List (List (List Rat))} {i : Nat} {r : List (List Rat)} (h : i < X.length) : (X.set i r).getD i [] = r := by
  rw [List.getD_eq_getElem?_getD, List.getElem?_set_self h]; rfl
theorem getD_set_ne {X : List (List (List Rat))} {i j : Nat} {r : List (List Rat)} (h : i ≠ j) : (X.set i r).getD j [] = X.getD j [] := by
  rw [List.getD_eq_getElem?_getD, List.getElem?_set_ne h, List.getD_eq_getElem?_getD]
theorem dn_inv {w b : Nat} {R : List (List (List Rat))} {e : Deed} (h : Rc w R) (he : DeOk R.length b e) : dn (dn R e) (inv e) = R := by
  cases e with
  | swap i j =>
    obtain ⟨h1, h2, h3⟩ := he
    show ((((R.set i (R.getD j [])).set j (R.getD i [])).set i (((R.set i (R.getD j [])).set j (R.getD i [])).getD j [])).set j (((R.set i (R.getD j [])).set j (R.getD i [])).getD i [])) = R
    rw [getD_set_self (by rw [List.length_set]; exact h2), getD_set_ne (Ne.symm h3), getD_set_self h1]
    apply List.ext_getElem?
    intro k
    by_cases hj : j = k
    · subst hj
      rw [List.getElem?_set_self (by simpa using h2), getD_row (List.getElem?_eq_getElem h2), List.getElem?_eq_getElem h2]
    · rw [List.getElem?_set_ne hj]
      by_cases hi : i = k
      · subst hi
        rw [List.getElem?_set_self (by simpa using h1), getD_row (List.getElem?_eq_getElem h1), List.getElem?_eq_getElem h1]
      · rw [List.getElem?_set_ne hi, List.getElem?_set_ne hj, List.getElem?_set_ne hi]
  | times i f =>
    obtain ⟨h1, h2, h3⟩ := he
    have hr := h.at_ h1
    show (R.set i ((R.getD i []).map fun p => mulC p [f])).set i (((R.set i ((R.getD i []).map fun p => mulC p [f])).getD i []).map fun p => mulC p [1 / f]) = R
    rw [getD_set_self h1, List.set_set, List.map_map]
    have e : (R.getD i []).map ((fun p => mulC p [1 / f]) ∘ fun p => mulC p [f]) = R.getD i [] := by
      rw [show R.getD i [] = (R.getD i []).map id by simp, List.map_map]
      refine List.map_congr_left fun p hp => ?_
      refine pc_inj (can_mulC _ _) (hr.2 p (by simpa using hp)) ?_
      show pc (mulC (mulC p [f]) [1 / f]) = pc p
      have hf : f * (1 / f) = 1 := by rw [Rat.mul_comm]; exact Rat.div_mul_cancel h2
      have := cst_inv hf
      rw [pc_mul, pc_mul, pc_cst, pc_cst]; grind
    rw [e]
    exact set_getD h1
  | add i j p =>
    obtain ⟨h1, h2, h3, h4⟩ := he
    have hr := h.at_ h1
    have hs := h.at_ h2
    show (R.set i ((R.getD i []).zipWith (fun x y => trim (addQ x (mulC p y))) (R.getD j []))).set i (((R.set i ((R.getD i []).zipWith (fun x y => trim (addQ x (mulC p y))) (R.getD j []))).getD i []).zipWith (fun x y => trim (addQ x (mulC (scQ p (-1)) y))) ((R.set i ((R.getD i []).zipWith (fun x y => trim (addQ x (mulC p y))) (R.getD j []))).getD j [])) = R
    rw [getD_set_self h1, getD_set_ne h3, List.set_set]
    generalize hA : R.getD i [] = r at hr ⊢
    generalize R.getD j [] = s at hs ⊢
    have go : ∀ r s : List (List Rat), r.length = s.length → (∀ p ∈ r, Can p) → ((r.zipWith (fun x y => trim (addQ x (mulC p y))) s).zipWith (fun x y => trim (addQ x (mulC (scQ p (-1)) y))) s) = r := by
      intro r
      induction r with
      | nil => intro s _ _; rfl
      | cons x r ih =>
        intro s hl hc
        cases s with
        | nil => simp at hl
        | cons y s =>
          simp only [List.zipWith_cons_cons]
          rw [ih s (by simpa using hl) fun p hp => hc p (by simp [hp])]
          congr 1
          refine pc_inj (can_trim _) (hc x (by simp)) ?_
          rw [pc_add, pc_add, pc_mul, pc_mul, pc_scQ]; grind
    rw [go r s (by rw [hr.1, hs.1]) hr.2, ← hA]
    exact set_getD h1
theorem dns_inv {w b : Nat} : ∀ {es : List Deed} {R : List (List (List Rat))}, Rc w R → (∀ e ∈ es, DeOk R.length b e) → dns (dns R es) (es.reverse.map inv) = R
  | [], _, _, _ => rfl
  | e :: es, R, h, he => by
    have h1 := he e (by simp)
    rw [List.reverse_cons, List.map_append, dns_app]
    show dn (dns (dns (dn R e) es) (es.reverse.map inv)) (inv e) = R
    rw [dns_inv (es := es) (h.dn h1) fun f hf => by rw [dn_len]; exact he f (by simp [hf])]
    exact dn_inv h h1
end K78
end Mn
end

section
namespace Mn
open PySem
namespace K78
def TV (a e L w : Nat) (R : List (List (List Rat))) : Prop := (∀ r ∈ R, r.length = w ∧ ∀ p ∈ r, Can p ∧ p.length ≤ L) ∧ ∃ E, 0 < E ∧ E ≤ 2 ^ e ∧ ∀ r ∈ R, ∀ p ∈ r, ∀ i, Ov (2 ^ a) E (p.getD i 0)
theorem TV.rc {a e L w : Nat} {R : List (List (List Rat))} (h : TV a e L w R) : Rc w R := fun r hr => ⟨(h.1 r hr).1, fun p hp => ((h.1 r hr).2 p hp).1⟩
theorem TV.mono {a e L w a' e' L' : Nat} {R : List (List (List Rat))} (h : TV a e L w R) (h1 : a ≤ a') (h2 : e ≤ e') (h3 : L ≤ L') : TV a' e' L' w R := by
  obtain ⟨g1, E, g2, g3, g4⟩ := h
  exact ⟨fun r hr => ⟨(g1 r hr).1, fun p hp => ⟨((g1 r hr).2 p hp).1, Nat.le_trans ((g1 r hr).2 p hp).2 h3⟩⟩, E, g2, Nat.le_trans g3 (pw2 h2), fun r hr p hp i => (g4 r hr p hp i).mono (pw2 h1)⟩
theorem lt2 {a b : Nat} (h : a < b) : 2 ^ a < 2 ^ b := Nat.pow_lt_pow_right (by omega) h
theorem TV.bq {a e L w B : Nat} {R : List (List (List Rat))} (h : TV a e L w R) (ha : a < B) (he : e < B) {r : List (List Rat)} (hr : r ∈ R) {p : List Rat} (hp : p ∈ r) : ∀ x ∈ p, Bq B x := by
  obtain ⟨g1, E, g2, g3, g4⟩ := h
  intro x hx
  obtain ⟨i, hi, rfl⟩ := mem_getD hx
  exact (g4 r hr p hp i).bq g2 (lt2 ha) (Nat.lt_of_le_of_lt g3 (lt2 he))
theorem TV.tb {a e L w B h : Nat} {R : List (List (List Rat))} (t : TV a e L w R) (ha : a < B) (he : e < B) (hh : R.length ≤ h) : Tb B L w h R :=
  ⟨hh, fun r hr => ⟨(t.1 r hr).1, fun p hp => ⟨((t.1 r hr).2 p hp).2, t.bq ha he hr hp, ((t.1 r hr).2 p hp).1⟩⟩⟩
def Dsz (α β l : Nat) : Deed → Prop
  | .swap _ _ => True
  | .times _ f => ∃ F, 0 < F ∧ F ≤ 2 ^ β ∧ Ov (2 ^ α) F f
  | .add _ _ p => p.length ≤ 3 ∧ p.length ≤ l + 1 ∧ β + 1 ≤ α ∧ ∃ F c, 0 < F ∧ F ≤ 2 ^ β ∧ c + 3 ≤ α ∧ ∀ i, Ov (2 ^ c) F (p.getD i 0)
theorem mul1_getD (p : List Rat) (f : Rat) (i : Nat) : (mulC p [f]).getD i 0 = f * p.getD i 0 := by
  have := congrFun (cf_mul p [f]) i
  rw [opL_cf] at this
  have e : opL [f] (cf p) i = f * cf p i + shF (fun _ => 0) i := rfl
  rw [e] at this
  have e2 : shF (fun _ => (0 : Rat)) i = 0 := by cases i <;> rfl
  rw [e2, Rat.add_zero] at this
  exact this
theorem getD_mem {R : List (List (List Rat))} {i : Nat} (h : i < R.length) : R.getD i [] ∈ R := by
  rw [getD_row (List.getElem?_eq_getElem h)]
  exact List.getElem_mem h
theorem tv_dn {a e L w α β l b : Nat} {R : List (List (List Rat))} {d : Deed} (h : TV a e L w R) (hd : DeOk R.length b d) (hs : Dsz α β l d) (hβ : β ≤ α) : TV (a + α) (e + β) (L + l) w (dn R d) := by
  have rc := h.rc.dn hd
  obtain ⟨g1, E, g2, g3, g4⟩ := h
  have lens : ∀ r ∈ dn R d, ∀ p ∈ r, p.length ≤ L + l := by
    intro r hr p hp
    cases d with
    | swap i j =>
      have hr' : r ∈ R := by
        rcases mem_set hr with rfl | hr
        · exact getD_mem hd.1
        · rcases mem_set hr with rfl | hr
          · exact getD_mem hd.2.1
          · exact hr
      have := ((g1 r hr').2 p hp).2; omega
    | times i f =>
      rcases mem_set hr with rfl | hr
      · obtain ⟨q, hq, rfl⟩ := List.mem_map.mp hp
        have := ((g1 _ (getD_mem hd.1)).2 q hq).2
        have := mulC_len2 (p := q) (q := [f])
        simp at this; omega
      · have := ((g1 r hr).2 p hp).2; omega
    | add i j s =>
      rcases mem_set hr with rfl | hr
      · rw [zipWith_zip] at hp
        obtain ⟨u, hu, rfl⟩ := List.mem_map.mp hp
        have hu := List.of_mem_zip hu
        have l1 := ((g1 _ (getD_mem hd.1)).2 u.1 hu.1).2
        have l2 := ((g1 _ (getD_mem hd.2.1)).2 u.2 hu.2).2
        have := mulC_len2 (p := s) (q := u.2)
        have := addQ_len u.1 (mulC s u.2)
        have := hs.2.1
        omega
      · have := ((g1 r hr).2 p hp).2; omega
  refine ⟨fun r hr => ⟨(rc r hr).1, fun p hp => ⟨(rc r hr).2 p hp, lens r hr p hp⟩⟩, ?_⟩
  cases d with
  | swap i j =>
    refine ⟨E, g2, Nat.le_trans g3 (pw2 (by omega)), fun r hr p hp k => (g4 r ?_ p hp k).mono (pw2 (by omega))⟩
    rcases mem_set hr with rfl | hr
    · exact getD_mem hd.1
    · rcases mem_set hr with rfl | hr
      · exact getD_mem hd.2.1
      · exact hr
  | times i f =>
    obtain ⟨F, f1, f2, f3⟩ := hs
    refine ⟨E * F, Nat.mul_pos g2 f1, by rw [Nat.pow_add]; exact Nat.mul_le_mul g3 f2, fun r hr p hp k => ?_⟩
    rcases mem_set hr with rfl | hr
    · obtain ⟨q, hq, rfl⟩ := List.mem_map.mp hp
      show Ov _ _ ((mulC q [f]).getD k 0)
      rw [mul1_getD, Rat.mul_comm, Nat.pow_add]
      exact (g4 _ (getD_mem hd.1) q hq k).mul f3
    · refine (g4 r hr p hp k).scale.mono ?_
      rw [Nat.pow_add]
      exact Nat.mul_le_mul_left _ (Nat.le_trans f2 (pw2 hβ))
  | add i j s =>
    obtain ⟨s1, s2, s5, F, c, f1, f2, f3, f4⟩ := hs
    refine ⟨E * F, Nat.mul_pos g2 f1, by rw [Nat.pow_add]; exact Nat.mul_le_mul g3 f2, fun r hr p hp k => ?_⟩
    have hF : 2 ^ a * F ≤ 2 ^ (a + β) := by rw [Nat.pow_add]; exact Nat.mul_le_mul_left _ f2
    rcases mem_set hr with rfl | hr
    · rw [zipWith_zip] at hp
      obtain ⟨u, hu, rfl⟩ := List.mem_map.mp hp
      have hu := List.of_mem_zip hu
      have o1 := (g4 _ (getD_mem hd.1) u.1 hu.1 k).scale (c := F)
      have o2 := cv_ov (p := s) (q := u.2) f4 (g4 _ (getD_mem hd.2.1) u.2 hu.2) k s.length
      show Ov _ _ ((trim (addQ u.1 (mulC s u.2))).getD k 0)
      rw [trim_getD, addQ_getD, mulC_getD]
      rw [Nat.mul_comm F E] at o2
      refine (Ov.add o1 o2).mono ?_
      have h2 : s.length * (2 ^ c * 2 ^ a) ≤ 2 ^ (a + c + 2) := by
        rw [show a + c + 2 = 2 + (c + a) by omega, Nat.pow_add, Nat.pow_add]
        exact Nat.mul_le_mul_right _ (by omega)
      have p1 : 2 ^ (a + β) ≤ 2 ^ (a + α - 1) := pw2 (by omega)
      have p2 : 2 ^ (a + c + 2) ≤ 2 ^ (a + α - 1) := pw2 (by omega)
      have p3 : 2 ^ (a + α) = 2 ^ (a + α - 1) + 2 ^ (a + α - 1) := by
        rw [show a + α = (a + α - 1) + 1 by omega, Nat.pow_succ]; simp; omega
      omega
    · refine (g4 r hr p hp k).scale.mono (Nat.le_trans hF (pw2 (by omega)))
theorem fits_of {a e L w α β l b B : Nat} {R : List (List (List Rat))} {d : Deed} (h : TV a e L w R) (hd : DeOk R.length b d) (hs : Dsz α β l d) (hw : w ≤ 100) (h1 : a + α < B) (h2 : e + β < B) (hB : B ≤ 600) (hL : L ≤ 290) (hLB : (2 * L + 3) * B + 2 ≤ 4000) : Fits R d := by
  have rc := h.rc
  have g1 := h.1
  cases d with
  | swap i j => exact hd
  | times i f =>
    obtain ⟨i1, i2, i3⟩ := hd
    obtain ⟨F, f1, f2, f3⟩ := hs
    have hm := getD_mem i1
    refine ⟨i2, R.getD i [], B, by rw [getD_row (List.getElem?_eq_getElem i1)]; exact List.getElem?_eq_getElem i1, by rw [(g1 _ hm).1]; exact hw, by omega, ?_, fun p hp => ⟨h.bq (by omega) (by omega) hm hp, ((g1 _ hm).2 p hp).1, by have := ((g1 _ hm).2 p hp).2; omega⟩⟩
    exact f3.bq f1 (lt2 (by omega)) (Nat.lt_of_le_of_lt f2 (lt2 (by omega)))
  | add i j s =>
    obtain ⟨i1, i2, i3, i4⟩ := hd
    obtain ⟨s1, s2, s5, F, c, f1, f2, f3, f4⟩ := hs
    have hm := getD_mem i1
    have hn := getD_mem i2
    refine ⟨i3, R.getD i [], R.getD j [], B, by rw [getD_row (List.getElem?_eq_getElem i1)]; exact List.getElem?_eq_getElem i1, by rw [getD_row (List.getElem?_eq_getElem i2)]; exact List.getElem?_eq_getElem i2, by rw [(g1 _ hm).1]; exact hw, by rw [(g1 _ hm).1, (g1 _ hn).1], by omega, by omega, ?_, s1, i4.2.2, ?_, ?_⟩
    · intro x hx
      obtain ⟨k, hk, rfl⟩ := mem_getD hx
      exact (f4 k).bq f1 (lt2 (by omega)) (Nat.lt_of_le_of_lt f2 (lt2 (by omega)))
    · have := Nat.mul_le_mul_right (B + B + 1) s1
      omega
    · intro u hu
      have hu := List.of_mem_zip hu
      have l1 := ((g1 _ hm).2 u.1 hu.1).2
      have l2 := ((g1 _ hn).2 u.2 hu.2).2
      have l3 := mulC_len2 (p := s) (q := u.2)
      have m1 : (s.length + u.2.length) * B ≤ (2 * L + 3) * B := Nat.mul_le_mul_right _ (by omega)
      have m2 : (u.1.length + (mulC s u.2).length) * B ≤ (2 * L + 3) * B := Nat.mul_le_mul_right _ (by omega)
      refine ⟨h.bq (by omega) (by omega) hm hu.1, ((g1 _ hm).2 u.1 hu.1).1, by omega, h.bq (by omega) (by omega) hn hu.2, by omega, by omega, ?_, by omega, by omega⟩
      obtain ⟨_, E, e2, e3, e4⟩ := h
      intro x hx
      obtain ⟨k, hk, rfl⟩ := mem_getD hx
      have o2 := cv_ov (p := s) (q := u.2) f4 (e4 _ hn u.2 hu.2) k s.length
      rw [mulC_getD]
      have h2' : s.length * (2 ^ c * 2 ^ a) ≤ 2 ^ (a + c + 2) := by
        rw [show a + c + 2 = 2 + (c + a) by omega, Nat.pow_add, Nat.pow_add]
        exact Nat.mul_le_mul_right _ (by omega)
      refine o2.bq (Nat.mul_pos f1 e2) (Nat.lt_of_le_of_lt h2' (lt2 (by omega))) (Nat.lt_of_le_of_lt (Nat.mul_le_mul f2 e3) ?_)
      rw [← Nat.pow_add]
      exact lt2 (by omega)
theorem fitsAll_of {α β l w B b : Nat} (hβ : β ≤ α) (hw : w ≤ 100) (hB : B ≤ 600) : ∀ {es : List Deed} {R : List (List (List Rat))} {a e L : Nat}, TV a e L w R → (∀ d ∈ es, DeOk R.length b d ∧ Dsz α β l d) → a + es.length * α < B → e + es.length * β < B → L + es.length * l ≤ 290 → (2 * (L + es.length * l) + 3) * B + 2 ≤ 4000 →
    FitsAll R es ∧ TV (a + es.length * α) (e + es.length * β) (L + es.length * l) w (dns R es)
  | [], R, a, e, L, h, _, _, _, _, _ => ⟨trivial, by simpa [dns] using h⟩
  | d :: es, R, a, e, L, h, hd, h1, h2, h3, h4 => by
    have q1 : (d :: es).length * α = es.length * α + α := by rw [List.length_cons, Nat.succ_mul]
    have q2 : (d :: es).length * β = es.length * β + β := by rw [List.length_cons, Nat.succ_mul]
    have q3 : (d :: es).length * l = es.length * l + l := by rw [List.length_cons, Nat.succ_mul]
    rw [q1] at h1 ⊢
    rw [q2] at h2 ⊢
    rw [q3] at h3 h4 ⊢
    have hdd := hd d (by simp)
    have t := tv_dn h hdd.1 hdd.2 hβ
    have hm : (2 * L + 3) * B ≤ (2 * (L + (es.length * l + l)) + 3) * B := Nat.mul_le_mul_right _ (by omega)
    have ih := fitsAll_of hβ hw hB (es := es) (R := dn R d) (a := a + α) (e := e + β) (L := L + l) t (fun f hf => by rw [dn_len]; exact hd f (by simp [hf])) (by omega) (by omega) (by omega) (by rw [show L + l + es.length * l = L + (es.length * l + l) by omega]; exact h4)
    refine ⟨⟨fits_of h hdd.1 hdd.2 hw (by omega) (by omega) hB (by omega) (by omega), ih.1⟩, ?_⟩
    have := ih.2
    rw [show a + α + es.length * α = a + (es.length * α + α) by omega, show e + β + es.length * β = e + (es.length * β + β) by omega, show L + l + es.length * l = L + (es.length * l + l) by omega] at this
    exact this
theorem fr_ov {f : Rat} {b : Nat} (h : Bq b f) : 0 < f.den ∧ f.den ≤ 2 ^ b ∧ Ov (2 ^ b) f.den f := by
  have h1 : f.den < 2 ^ b := by have := h.2; unfold Bd at this; simpa using this
  have h2 : f.num.natAbs < 2 ^ b := h.1
  exact ⟨Nat.pos_of_ne_zero f.den_nz, by omega, f.num, (num_q f).symm, by omega⟩
theorem dsz_of {many : Nat} {d : Deed} (h : DeOk many 8 d) : Dsz 35 24 2 d := by
  cases d with
  | swap i j => trivial
  | times i f =>
    obtain ⟨a1, a2, a3⟩ := fr_ov h.2.2
    exact ⟨f.den, a1, Nat.le_trans a2 (pw2 (by omega)), a3.mono (pw2 (by omega))⟩
  | add i j p =>
    obtain ⟨_, _, _, h4⟩ := h
    obtain ⟨E, e1, e2, e3⟩ := ovP_bq (L := 3) h4.2.1 h4.1
    exact ⟨h4.1, by have := h4.1; omega, by omega, E, 32, e1, e2, by omega, e3⟩
end K78
end Mn
end

section
namespace Mn
open PySem
namespace K78
variable {wf n : Nat} {m : Mu} {Q : D → Mu → Prop} {A : Nat → Prop}
theorem bqm1 {b : Nat} (h : 1 ≤ b) : Bq b (-1) := Bq.mono (b := 1) ⟨by unfold Bd; decide, by unfold Bd; decide⟩ h
theorem bqp1 {b : Nat} (h : 1 ≤ b) : Bq b 1 := Bq.mono (b := 1) ⟨by unfold Bd; decide, by unfold Bd; decide⟩ h
/-- one row of the law's product, by sizes told for each -/
theorem row_loopV (hw : Fu wf) (hn : 5 ≤ n) {B w1 w2 : Nat} {row : List (List Rat)} {R2 : List (List (List Rat))} {x0 x2 x5 x6 : Option D} {lm : Nat} {Q : Sl ⊕ D → Mu → Prop}
    (hlen : row.length = w1) (hl2 : R2.length = w1) (hw2 : w2 ≤ 1000) (hB1 : 1 ≤ B) (hB : B + B ≤ 4000)
    (hz : ∀ c, c < w2 → ∀ z ∈ row.zip R2, (∀ x ∈ z.1, Bq B x) ∧ z.1.length ≤ 300 ∧ (∀ x ∈ z.2.getD c [], Bq B x) ∧ (z.2.getD c []).length ≤ 300 ∧ c < z.2.length ∧ (∀ x ∈ mulC z.1 (z.2.getD c []), Bq B x) ∧ (4 + z.1.length * (B + B + 1) ≤ 4000 ∨ 4 + (z.2.getD c []).length * (B + B + 1) ≤ 4000) ∧ (mulC z.1 (z.2.getD c [])).length ≤ 300)
    (hdt : ∀ c i, c < w2 → (∀ x ∈ dotF c [] ((row.zip R2).take i), Bq B x) ∧ (dotF c [] ((row.zip R2).take i)).length ≤ 300)
    (hm : m[lm]? = some (.lst (List.replicate w2 (.tup []))))
    (k : ∀ y z l m', Kp nox m m' → m'[l]? = some (.lst ((List.range w2).map fun c => pD (dotF c [] (row.zip R2)))) → Q (.inl [x0, some (tD w2 R2), x2, some (rD row), some (.loc l), y, z]) m') :
    FT (callN Pr wf n) wf [5] b__law_tables_1 (.rngN 0 1 w1) w1 [x0, some (tD w2 R2), x2, some (rD row), some (.loc lm), x5, x6] m Q := by
  have hb := bound_ok (show w2 ≤ 1000000 by omega)
  obtain ⟨I, hI⟩ : ∃ I : Nat → Sl → Mu → Prop, I = (fun i σ m' => Kp nox m m' ∧ ∃ l y z, m'[l]? = some (.lst ((List.range w2).map fun c => pD (dotF c [] ((row.zip R2).take i)))) ∧ σ = [x0, some (tD w2 R2), x2, some (rD row), some (.loc l), y, z]) := ⟨_, rfl⟩
  refine ft_of (rngD w1) I (by simp [rngD]) ?_ (fun _ _ m _ => gives_rng _ m) ?_ ?_
  · rw [hI]
    refine ⟨.refl, lm, _, _, ?_, rfl⟩
    rw [hm]
    congr 2
    apply List.ext_getElem?
    intro i
    by_cases h : i < w2
    · rw [List.getElem?_replicate, if_pos h, List.getElem?_map, List.getElem?_range h]
      simp [dotF, pD]
    · rw [List.getElem?_eq_none (by simpa using h), List.getElem?_eq_none (by simpa using h)]
  · intro i d σ m' hd h
    rw [hI] at h
    obtain ⟨k1, l, y, z, hl, rfl⟩ := h
    obtain ⟨hi, rfl⟩ := rngD_at hd
    refine ⟨[x0, some (tD w2 R2), x2, some (rD row), some (.loc l), some (.int i), z], rfl, ?_⟩
    have hi1 : i < row.length := by omega
    have hi2 : i < R2.length := by omega
    have hzi : (row.zip R2)[i]? = some (row.getD i [], R2.getD i []) := by
      rw [List.getElem?_zip_eq_some]
      rw [List.getD_eq_getElem?_getD, List.getD_eq_getElem?_getD, List.getElem?_eq_getElem hi1, List.getElem?_eq_getElem hi2]
      exact ⟨rfl, rfl⟩
    simp [b__law_tables_1]
    refine ev_compM (List.range w2) (fun c : Nat => .int (c : Int)) (fun c : Nat => pD (dotF c [] ((row.zip R2).take (i + 1)))) (by simp; omega) ?_ ?_ ?_
    · simp [tD, atT0, hb]
      exact ⟨.refl, fun m2 _ => gives_rng _ _⟩
    · intro c m2 hc k2
      have hc : c < w2 := List.mem_range.mp hc
      refine ⟨[x0, some (tD w2 R2), x2, some (rD row), some (.loc l), some (.int i), some (.int c)], rfl, ?_⟩
      obtain ⟨z1, z2, z3, z4, z5, z6, z7, z8⟩ := hz c hc _ (List.mem_of_getElem? hzi)
      obtain ⟨d1, d2⟩ := hdt c i hc
      simp only at z1 z2 z3 z4 z5 z6 z7 z8
      have ix : idxI (.loc l) (.int (c : Int)) m2 = some (pD (dotF c [] ((row.zip R2).take i))) := by
        rw [idx_loc (listAt_lst (k2.at_ hl id)), atI_nat, List.getElem?_map, List.getElem?_range hc]; rfl
      simp [tD, ix]
      have r2 : R2[i]? = some (R2.getD i []) := by rw [List.getD_eq_getElem?_getD, List.getElem?_eq_getElem hi2]; rfl
      refine ⟨_, idx_rD hi1, _, ⟨_, r2, rfl⟩, _, idx_rD z5, ?_⟩
      refine law_product_okW hw (by omega) (p := row.getD i []) (q := (R2.getD i []).getD c []) (bp := fun _ => B) (c := B) (fun i s h => z1 s (List.mem_of_getElem? h)) z3 ?_ z2 z4 fun m3 k3 => ?_
      · intro j
        refine Nat.le_trans (Nat.add_le_add_left (wv_le _) _) ?_
        rcases z7 with h | h
        · have := Nat.mul_le_mul_right (B + B + 1) (show min (row.getD i []).length (j + 1) - (j + 1 - ((R2.getD i []).getD c []).length) ≤ (row.getD i []).length by omega)
          omega
        · have := Nat.mul_le_mul_right (B + B + 1) (show min (row.getD i []).length (j + 1) - (j + 1 - ((R2.getD i []).getD c []).length) ≤ ((R2.getD i []).getD c []).length by omega)
          omega
      refine law_plus_ok hw (by omega) d1 z6 hB1 hB d2 z8 fun m4 k4 => ?_
      refine ⟨?_, k3.trans k4⟩
      rw [List.take_add_one, hzi]
      simp only [Option.toList_some, dotF_snoc]
    · intro l2 m2 k2 hl2 hm2
      rw [hI]
      exact ⟨k1.trans k2, l2, _, _, hm2, rfl⟩
  · intro σ m' h
    rw [hI] at h
    obtain ⟨k1, l, y, z, hl, rfl⟩ := h
    have e : (row.zip R2).take (rngD w1).length = row.zip R2 := List.take_of_length_le (by simp [rngD]; omega)
    rw [e] at hl
    exact k y z l m' k1 hl
/-- a sum of products by common bottoms -/
theorem dot_ov {c A1 E1 A2 E2 L1 : Nat} : ∀ (zs : List (List Rat × List (List Rat))) (acc : List Rat) (k : Nat), (∀ z ∈ zs, z.1.length ≤ L1 ∧ (∀ i, Ov A1 E1 (z.1.getD i 0)) ∧ ∀ i, Ov A2 E2 ((z.2.getD c []).getD i 0)) → (∀ i, Ov (k * (L1 * (A1 * A2))) (E1 * E2) (acc.getD i 0)) → ∀ i, Ov ((k + zs.length) * (L1 * (A1 * A2))) (E1 * E2) ((dotF c acc zs).getD i 0)
  | [], acc, k, _, h, i => h i
  | z :: zs, acc, k, hz, h, i => by
    have := dot_ov (c := c) (A1 := A1) (E1 := E1) (A2 := A2) (E2 := E2) (L1 := L1) zs (trim (addQ acc (mulC z.1 (z.2.getD c [])))) (k + 1) (fun y hy => hz y (by simp [hy])) (fun j => by
      obtain ⟨h1, h2, h3⟩ := hz z (by simp)
      rw [trim_getD, addQ_getD, mulC_getD, Nat.succ_mul]
      exact Ov.add (h j) ((cv_ov h2 h3 j _).mono (Nat.mul_le_mul_right _ h1))) i
    rw [show k + (z :: zs).length = k + 1 + zs.length by simp; omega]
    exact this
theorem dot_len {c L1 L2 : Nat} : ∀ (zs : List (List Rat × List (List Rat))) (acc : List Rat), (∀ z ∈ zs, z.1.length ≤ L1 ∧ (z.2.getD c []).length ≤ L2) → acc.length ≤ L1 + L2 → (dotF c acc zs).length ≤ L1 + L2
  | [], acc, _, h => h
  | z :: zs, acc, hz, h => dot_len zs (trim (addQ acc (mulC z.1 (z.2.getD c [])))) (fun y hy => hz y (by simp [hy])) (by
      obtain ⟨h1, h2⟩ := hz z (by simp)
      have := addQ_len acc (mulC z.1 (z.2.getD c []))
      have := mulC_len z.1 (z.2.getD c [])
      omega)
theorem law_tables_okV (hw : Fu wf) (hn : 6 ≤ n) {a1 e1 L1 a2 e2 L2 w1 w2 s B : Nat} {R R2 : List (List (List Rat))} (hR : TV a1 e1 L1 w1 R) (hR2 : TV a2 e2 L2 w2 R2) (hl2 : R2.length = w1) (hh : R.length ≤ 1000) (hw1 : w1 ≤ 1000) (hw2 : w2 ≤ 1000)
    (hs : w1 * L1 ≤ 2 ^ s) (hB1 : s + a1 + a2 < B) (hB2 : e1 + e2 < B) (hB : B + B ≤ 4000) (hL : L1 + L2 ≤ 300) (hLB : 4 + L1 * (B + B + 1) ≤ 4000 ∨ 4 + L2 * (B + B + 1) ≤ 4000) (h0 : R ≠ [] → 1 ≤ w1)
    (k : ∀ m', Kp nox m m' → Q (tD w2 (tmul R R2 w2)) m') : (callN Pr wf n f__law_tables [tD w1 R, tD w2 R2] m).to Q := by
  refine call_of (fn := p__law_tables) rfl rfl (by omega) fun k' hk => ?_
  simp only [tD]
  simp [p__law_tables, to_newL, s_forE]
  obtain ⟨S, hS⟩ : ∃ S : Sl → Prop, S = fun σ => ∃ y3 y4 y5 y6, σ = [some (tD w1 R), some (tD w2 R2), some (.loc m.length), y3, y4, y5, y6] := ⟨_, rfl⟩
  refine forApp m.length (R.map rD) [] (fun i => rD ((List.range w2).map fun c => dotF c [] ((R.getD i default).zip R2))) S (by simp) at_new (by rw [hS]; exact ⟨_, _, _, _, rfl⟩) (fun m' _ => gives_st _ _) ?_ ?_
  · intro i d σ' m' Ys v S' hd hs' k1 hm hY hv hS'
    rw [hS] at hs'
    obtain ⟨y3, y4, y5, y6, rfl⟩ := hs'
    obtain ⟨row, hrow, hrm, rfl⟩ := map_at' hd
    have hb := bound_ok (show w1 ≤ 1000000 by omega)
    refine ⟨[some (tD w1 R), some (tD w2 R2), some (.loc m.length), some (rD row), y4, y5, y6], rfl, ?_⟩
    have rr := hR.1 row hrm
    simp [b__law_tables_2, to_newL, s_forE, tD, hb]
    rw [op_mulL at_new, rep_one]
    refine ⟨⟨by omega, by omega, by simp⟩, sz_ok (by simp; omega), ?_⟩
    simp [hb]
    have m1 : m.length < m'.length := (List.getElem?_eq_some_iff.mp hm).1
    obtain ⟨_, E1, f1, f2, f3⟩ := id hR
    obtain ⟨_, E2, g1, g2, g3⟩ := id hR2
    have hEE : E1 * E2 < 2 ^ B := by
      refine Nat.lt_of_le_of_lt (Nat.mul_le_mul f2 g2) ?_
      rw [← Nat.pow_add]; exact lt2 hB2
    have hEp : 0 < E1 * E2 := Nat.mul_pos f1 g1
    have big : ∀ j, j ≤ w1 → j * (L1 * (2 ^ a1 * 2 ^ a2)) < 2 ^ B := fun j hj => by
      refine Nat.lt_of_le_of_lt ?_ (lt2 hB1)
      rw [← Nat.mul_assoc, Nat.pow_add, Nat.pow_add, Nat.mul_assoc (2 ^ s)]
      exact Nat.mul_le_mul_right _ (Nat.le_trans (Nat.mul_le_mul_right _ hj) hs)
    have hcol : ∀ c, c < w2 → ∀ z ∈ row.zip R2, z.1 ∈ row ∧ z.2 ∈ R2 ∧ c < z.2.length ∧ z.2.getD c [] ∈ z.2 := by
      intro c hc z hz
      have a := List.of_mem_zip hz
      have r2 := hR2.1 z.2 a.2
      refine ⟨a.1, a.2, by omega, ?_⟩
      rw [List.getD_eq_getElem?_getD, List.getElem?_eq_getElem (by omega)]
      exact List.getElem_mem _
    refine row_loopV hw (n := k') (by omega) (B := B) rr.1 hl2 hw2 (by omega) hB ?_ ?_ (by rw [List.getElem?_append_right (by simp)]; simp) fun y z l m3 k3 hl => ?_
    · intro c hc z hz
      obtain ⟨c1, c2, c3, c4⟩ := hcol c hc z hz
      have l1 := (rr.2 z.1 c1).2
      have l2 := ((hR2.1 z.2 c2).2 _ c4).2
      have l3 := mulC_len z.1 (z.2.getD c [])
      refine ⟨hR.bq (by omega) (by omega) hrm c1, by omega, hR2.bq (by omega) (by omega) c2 c4, by omega, c3, ?_, ?_, by omega⟩
      · intro x hx
        obtain ⟨j, hj, rfl⟩ := mem_getD hx
        rw [mulC_getD]
        refine (cv_ov (f3 _ hrm _ c1) (g3 _ c2 _ c4) j _).bq hEp ?_ hEE
        refine Nat.lt_of_le_of_lt ?_ (big 1 (h0 (List.ne_nil_of_mem hrm)))
        rw [Nat.one_mul]
        exact Nat.mul_le_mul_right _ l1
      · rcases hLB with h | h
        · left
          have := Nat.mul_le_mul_right (B + B + 1) l1
          omega
        · right
          have := Nat.mul_le_mul_right (B + B + 1) l2
          omega
    · intro c i hc
      have hz : ∀ z ∈ (row.zip R2).take i, z ∈ row.zip R2 := fun z hz => List.mem_of_mem_take hz
      constructor
      · intro x hx
        obtain ⟨j, hj, rfl⟩ := mem_getD hx
        have := dot_ov (c := c) (A1 := 2 ^ a1) (E1 := E1) (A2 := 2 ^ a2) (E2 := E2) (L1 := L1) ((row.zip R2).take i) [] 0 (fun z hz' => by
          obtain ⟨c1, c2, c3, c4⟩ := hcol c hc z (hz z hz')
          exact ⟨(rr.2 z.1 c1).2, f3 _ hrm _ c1, g3 _ c2 _ c4⟩) (fun i => by
            rw [getD_out (by simp)]; exact Ov.zero.mono (Nat.zero_le _)) j
        refine this.bq hEp (big _ ?_) hEE
        have := rr.1
        rw [List.length_take, List.length_zip]; omega
      · have := dot_len (c := c) (L1 := L1) (L2 := L2) ((row.zip R2).take i) [] (fun z hz' => by
          obtain ⟨c1, c2, c3, c4⟩ := hcol c hc z (hz z hz')
          exact ⟨(rr.2 z.1 c1).2, ((hR2.1 z.2 c2).2 _ c4).2⟩) (by simp)
        omega
    have k4 : Kp nox m' m3 := Kp.new.trans k3
    simp
    refine ⟨isL_end hm k4, ?_⟩
    rw [blt_tupL (listAt_lst hl)]
    refine ⟨by simp; omega, ?_⟩
    refine app_end hm k4 (by have := (List.getElem?_eq_some_iff.mp hrow).1; simp at hY; omega) ?_ (hS' _ ?_)
    · rw [hv]
      simp [rD, List.getD_eq_getElem?_getD, hrow]
    · rw [hS]; exact ⟨_, _, _, _, rfl⟩
  · intro σ' m' hs' k1 hm
    rw [hS] at hs'
    obtain ⟨y3, y4, y5, y6, rfl⟩ := hs'
    simp [tD]
    rw [blt_tupL (listAt_lst hm)]
    refine ⟨by simp; omega, ?_⟩
    have e : ([] ++ List.map (fun i => rD (List.map (fun c => dotF c [] ((R.getD i default).zip R2)) (List.range w2))) (List.range (R.map rD).length)) = (tmul R R2 w2).map rD := by
      unfold tmul
      rw [List.nil_append, List.length_map, List.map_map]
      exact rng_map (f := fun row : List (List Rat) => rD (List.map (fun c => dotF c [] (row.zip R2)) (List.range w2)))
    rw [e]
    exact k m' k1.cell
end K78
end Mn
end

section
namespace Mn
open PySem
mutual
theorem eqv_pure : ∀ {d : D}, pureD d = true → PyData.eqv (toP d) (toP d) = true
  | .int i, _ => by simp only [toP, PyData.eqv]; simp
  | .tup ds, h => by
    simp only [pureD] at h
    simp only [toP, PyData.eqv]
    exact eqvs_pure h
  | .non, h => by simp only [pureD] at h; cases h
  | .bl _, h => by simp only [pureD] at h; cases h
  | .str _, h => by simp only [pureD] at h; cases h
  | .loc _, h => by simp only [pureD] at h; cases h
theorem eqvs_pure : ∀ {ds : List D}, pureDs ds = true → PyData.eqvAll (toPs ds) (toPs ds) = true
  | [], _ => by simp only [toPs, PyData.eqvAll]
  | d :: ds, h => by
    simp only [pureDs, Bool.and_eq_true] at h
    simp only [toPs, PyData.eqvAll, eqv_pure h.1, eqvs_pure h.2, Bool.and_self]
end
theorem eqD_self {b k W : Nat} {m m' : Mu} {d : D} (h : Th noA b k W m d) (hk : k ≤ 50) (hp : pureD d = true) : eqD m' d d = some true := by
  obtain ⟨x, h1, h2, h3⟩ := h
  have e := h1.toP
  subst e
  have h1' := h1.keep (m' := m') KLs.no
  rw [eqD_tree h1'.rf h1'.rf ((h1.shp h2).mono (by omega)) ((h1.shp h2).mono (by omega)) (by omega) (by omega), eqv_pure hp]
namespace K78
variable {wf n : Nat} {m : Mu} {Q : D → Mu → Prop} {A : Nat → Prop}
theorem amiss_of {many b : Nat} {es : List Deed} (hd : ∀ e ∈ es, DeOk many b e) (hl : es.length ≤ 40) : amissD many (.tup (es.map deD)) = none := by
  simp only [amissD]
  rw [if_pos (by rw [List.length_map]; exact hl), Option.map_eq_none_iff, List.findIdx?_eq_none_iff]
  intro d hd'
  obtain ⟨e, he, rfl⟩ := List.mem_map.mp hd'
  rw [deD_is (hd e he)]; rfl
theorem th_tab {a e L w B : Nat} {R : List (List (List Rat))} {m : Mu} (t : TV a e L w R) (hB : 7 ≤ B) (ha : a < B) (he : e < B) (hL : L ≤ 60) (hw : w ≤ 3) (hR : R.length ≤ 3) : Th A B 5 700000 m (tD w R) := by
  have tb := t.tb ha he hR
  refine (th_tD tb (Bd.mono (b := 7) (by unfold Bd; rw [show (2 : Nat) ^ 7 = 128 by decide]; omega) hB)).mono (Nat.le_refl _) (Nat.le_refl _) ?_
  have e1 : (1209 * L + 5) * w ≤ 72545 * 3 := Nat.mul_le_mul (by omega) hw
  omega
theorem tv_unit (N : Nat) : TV 0 0 1 N (unitR N) := by
  have t := Tb.unit N 1 (by omega)
  refine ⟨fun r hr => ⟨(t.2 r hr).1, fun p hp => ⟨((t.2 r hr).2 p hp).2.2, ((t.2 r hr).2 p hp).1⟩⟩, 1, by omega, by omega, fun r hr p hp i => ?_⟩
  obtain ⟨j, hj, rfl⟩ := List.mem_map.mp hr
  obtain ⟨k, hk, rfl⟩ := List.mem_map.mp hp
  split
  · cases i with
    | zero => exact ⟨1, by show (1 : Rat) * _ = _; rw [Rat.one_mul]; rfl, by decide⟩
    | succ i => exact Ov.zero.mono (Nat.zero_le _)
  · exact Ov.zero.mono (Nat.zero_le _)
end K78
end Mn
end
end

section
set_option Elab.async false
set_option linter.all false
set_option maxRecDepth 100000
set_option autoImplicit false
namespace Mn
open PySem
namespace K78
variable {wf n : Nat} {m : Mu} {Q : D → Mu → Prop} {A : Nat → Prop}
abbrev Tbl := List (List (List Rat))
/-- a table without a row and a column -/
def mnr (at_ c : Nat) (R : Tbl) : Tbl := (R.eraseIdx at_).map fun row => row.eraseIdx c
def sgP (p : List Rat) (k : Nat) : List Rat := if k % 2 = 0 then p else scQ p (-1)
def lap (f : Nat → List Rat) (row : List (List Rat)) : Nat → List Rat
  | 0 => []
  | k + 1 => if row.getD k [] = [] then lap f row k else trim (addQ (lap f row k) (sgP (mulC (row.getD k []) (f k)) k))
def crF : Nat → Tbl → List Rat
  | 0, _ => [1]
  | N + 1, R => lap (fun c => crF N (mnr 0 c R)) (R.getD 0 []) (N + 1)
def SqE (a E L N : Nat) (R : Tbl) : Prop := R.length = N ∧ ∀ r ∈ R, r.length = N ∧ ∀ p ∈ r, Can p ∧ p.length ≤ L ∧ ∀ i, Ov (2 ^ a) E (p.getD i 0)
theorem mem_erase {α : Type} {l : List α} {i : Nat} {x : α} (h : x ∈ l.eraseIdx i) : x ∈ l := List.mem_of_mem_eraseIdx h
theorem mnr_sq {a E L N at_ c : Nat} {R : Tbl} (h : SqE a E L (N + 1) R) (h1 : at_ ≤ N) (h2 : c ≤ N) : SqE a E L N (mnr at_ c R) := by
  refine ⟨?_, fun r hr => ?_⟩
  · unfold mnr
    rw [List.length_map, List.length_eraseIdx_of_lt (by rw [h.1]; omega), h.1]; rfl
  · obtain ⟨s, hs, rfl⟩ := List.mem_map.mp hr
    have hs := h.2 s (mem_erase hs)
    refine ⟨?_, fun p hp => hs.2 p (mem_erase hp)⟩
    rw [List.length_eraseIdx_of_lt (by rw [hs.1]; omega), hs.1]; rfl
theorem ovneg {A E : Nat} {x : Rat} (h : Ov A E x) : Ov A E (-x) := by
  obtain ⟨n, h1, h2⟩ := h
  refine ⟨-n, ?_, by rw [Int.natAbs_neg]; exact h2⟩
  rw [Rat.intCast_neg, ← h1]; grind
theorem scQ_getD (p : List Rat) (i : Nat) : (scQ p (-1)).getD i 0 = -(p.getD i 0) := by
  unfold scQ
  rw [if_neg (by decide), List.getD_eq_getElem?_getD, List.getD_eq_getElem?_getD, List.getElem?_map]
  cases p[i]? with
  | none => rfl
  | some x => show x * (-1) = -x; grind
theorem scQ_len (p : List Rat) : (scQ p (-1)).length = p.length := by
  unfold scQ
  rw [if_neg (by decide), List.length_map]
theorem can_scQ {p : List Rat} {x : Rat} (hx : x ≠ 0) (h : Can p) : Can (scQ p x) := by
  unfold scQ
  rw [if_neg hx]
  unfold Can at *
  rw [List.getLast?_map]
  intro z
  cases e : p.getLast? with
  | none => rw [e] at z; cases z
  | some y =>
    rw [e] at z h
    have z : y * x = 0 := Option.some.inj z
    rcases Rat.mul_eq_zero.mp z with z | z
    · exact h (by rw [z])
    · exact hx z
theorem sgP_ov {A E k : Nat} {p : List Rat} (h : ∀ i, Ov A E (p.getD i 0)) (i : Nat) : Ov A E ((sgP p k).getD i 0) := by
  unfold sgP
  split
  · exact h i
  · rw [scQ_getD]; exact ovneg (h i)
theorem sgP_len (p : List Rat) (k : Nat) : (sgP p k).length = p.length := by
  unfold sgP
  split
  · rfl
  · exact scQ_len p
theorem sgP_can {p : List Rat} {k : Nat} (h : Can p) : Can (sgP p k) := by
  unfold sgP
  split
  · exact h
  · exact can_scQ (by decide) h
theorem lap_can {f : Nat → List Rat} {row : List (List Rat)} : ∀ k, Can (lap f row k)
  | 0 => can_nil
  | k + 1 => by
    unfold lap
    split
    · exact lap_can k
    · exact can_trim _
theorem crF_can : ∀ (N : Nat) (R : Tbl), Can (crF N R)
  | 0, _ => by unfold crF Can; simp
  | N + 1, R => lap_can _
theorem lap_ov {f : Nat → List Rat} {row : List (List Rat)} {A E L C F lf : Nat} (hr : ∀ p ∈ row, p.length ≤ L ∧ ∀ i, Ov A E (p.getD i 0)) (hf : ∀ k, k < row.length → (f k).length ≤ lf ∧ ∀ i, Ov C F ((f k).getD i 0)) :
    ∀ k, k ≤ row.length → (lap f row k).length ≤ L + lf ∧ ∀ i, Ov (k * (L * (A * C))) (E * F) ((lap f row k).getD i 0)
  | 0, _ => ⟨by simp [lap], fun i => by rw [show lap f row 0 = [] from rfl, getD_out (by simp)]; exact Ov.zero.mono (Nat.zero_le _)⟩
  | k + 1, hk => by
    obtain ⟨h1, h2⟩ := lap_ov hr hf k (by omega)
    unfold lap
    split
    · exact ⟨h1, fun i => (h2 i).mono (Nat.mul_le_mul_right _ (by omega))⟩
    · have hm : row.getD k [] ∈ row := by
        rw [List.getD_eq_getElem?_getD, List.getElem?_eq_getElem (show k < row.length by omega)]
        exact List.getElem_mem _
      obtain ⟨r1, r2⟩ := hr _ hm
      obtain ⟨f1, f2⟩ := hf k (by omega)
      refine ⟨?_, fun i => ?_⟩
      · have := addQ_len (lap f row k) (sgP (mulC (row.getD k []) (f k)) k)
        have := mulC_len (row.getD k []) (f k)
        rw [sgP_len] at *
        omega
      · rw [trim_getD, addQ_getD, Nat.succ_mul]
        refine Ov.add (h2 i) (sgP_ov (fun i => ?_) i)
        rw [mulC_getD]
        exact (cv_ov r2 f2 i _).mono (Nat.mul_le_mul_right _ r1)
theorem ov11 : Ov 1 1 (1 : Rat) := ⟨1, by rw [Rat.one_mul]; rfl, by decide⟩
theorem crF_ov {a E L s : Nat} (hL : L ≤ 2 ^ s) : ∀ (N : Nat) {R : Tbl}, N ≤ 3 → SqE a E L N R → (crF N R).length ≤ N * L + 1 ∧ ∀ i, Ov (2 ^ (N * (a + s + 2))) (E ^ N) ((crF N R).getD i 0)
  | 0, R, _, _ => ⟨by simp [crF], fun i => by
      cases i with
      | zero => simpa [crF] using ov11
      | succ i => exact Ov.zero.mono (Nat.zero_le _)⟩
  | N + 1, R, hN, h => by
    have hrow : (R.getD 0 []).length = N + 1 ∧ ∀ p ∈ R.getD 0 [], Can p ∧ p.length ≤ L ∧ ∀ i, Ov (2 ^ a) E (p.getD i 0) := by
      rw [List.getD_eq_getElem?_getD, List.getElem?_eq_getElem (show 0 < R.length by rw [h.1]; omega)]
      exact h.2 _ (List.getElem_mem _)
    have := lap_ov (f := fun c => crF N (mnr 0 c R)) (lf := N * L + 1) (C := 2 ^ (N * (a + s + 2))) (F := E ^ N) (fun p hp => (hrow.2 p hp).2) (fun k hk => crF_ov hL N (by omega) (mnr_sq h (by omega) (by omega))) (N + 1) (by omega)
    refine ⟨by show (lap _ _ _).length ≤ _; rw [Nat.succ_mul]; omega, fun i => ?_⟩
    rw [Nat.pow_succ, Nat.mul_comm (E ^ N)]
    refine (this.2 i).mono ?_
    rw [show (N + 1) * (a + s + 2) = 2 + (s + (a + N * (a + s + 2))) by rw [Nat.succ_mul]; omega, Nat.pow_add, Nat.pow_add 2 s, Nat.pow_add 2 a]
    exact Nat.mul_le_mul (by omega) (Nat.mul_le_mul_right _ hL)
theorem take_erase {R : Tbl} {at_ i : Nat} {r : List (List Rat)} (h : R[i]? = some r) : (R.take (i + 1)).eraseIdx at_ = if i = at_ then (R.take i).eraseIdx at_ else (R.take i).eraseIdx at_ ++ [r] := by
  have hi := (List.getElem?_eq_some_iff.mp h).1
  have hl : (R.take i).length = i := by rw [List.length_take]; omega
  rw [take_s h]
  by_cases h1 : at_ < i
  · rw [if_neg (by omega), List.eraseIdx_append_of_lt_length (by rw [hl]; exact h1)]
  · rw [List.eraseIdx_append_of_length_le (by rw [hl]; omega), hl, List.eraseIdx_of_length_le (l := R.take i) (by rw [hl]; omega)]
    split
    · rename_i e
      subst e
      simp
    · obtain ⟨d, hd⟩ : ∃ d, at_ - i = d + 1 := ⟨at_ - i - 1, by omega⟩
      rw [hd]; rfl
theorem left_without_ok (hn : 1 ≤ n) {R : Tbl} {w at_ c : Nat} (hw1 : 1 ≤ w) (hR : R.length ≤ 100) (hr : ∀ r ∈ R, r.length ≤ 100)
    (k : ∀ m', Kp nox m m' → Q (tD (w - 1) (mnr at_ c R)) m') : (callN Pr wf n f_left_without [tD w R, .int at_, .int c] m).to Q := by
  refine call_of (fn := p_left_without) rfl rfl (by omega) fun k' hk => ?_
  simp [p_left_without, to_newL, s_forE, tD]
  obtain ⟨I, hI⟩ : ∃ I : Nat → Sl → Mu → Prop, I = (fun i σ m' => Kp nox m m' ∧ m.length < m'.length ∧ m'[m.length]? = some (.lst ((((R.take i).eraseIdx at_).map fun row => row.eraseIdx c).map rD)) ∧ ∃ x4 x5, σ = [some (tD w R), some (.int at_), some (.int c), some (.loc m.length), x4, x5]) := ⟨_, rfl⟩
  refine ft_of (enumD (R.map rD)) I (by simp [enumD_len]) (by rw [hI]; exact ⟨.new, by simp, by simp, _, _, rfl⟩) (fun _ _ m _ => gives_enumT _ m) ?_ ?_
  · intro i d σ m1 hd h
    rw [hI] at h
    obtain ⟨k1, hl, hm, x4, x5, rfl⟩ := h
    obtain ⟨e, he, rfl⟩ := enumD_at hd
    obtain ⟨r, hr', rfl⟩ := map_at he
    have hrm := List.mem_of_getElem? hr'
    refine ⟨[some (tD w R), some (.int at_), some (.int c), some (.loc m.length), some (.int i), some (rD r)], rfl, ?_⟩
    simp [b_left_without_1]
    have hi := (List.getElem?_eq_some_iff.mp hr').1
    refine br_of (fun h => ?_) fun h => ?_
    · have e1 : i = at_ := by omega
      rw [hI]
      refine ⟨k1, hl, ?_, _, _, rfl⟩
      rw [take_erase hr', if_pos e1]; exact hm
    · have e1 : ¬ i = at_ := by omega
      refine ⟨isL_at hm, ?_⟩
      have c1 := cut_min (xs := r.map pD) (k := c)
      have c2 : cutD (r.map pD) (some ((c : Int) + 1)) none = (r.map pD).drop (c + 1) := cut_from (xs := r.map pD) (k := c + 1)
      have lr := hr r hrm
      simp [rD, c1, c2]
      refine ⟨by omega, ?_⟩
      refine appD_at hm ?_ ?_
      · rw [List.length_map, List.length_map]
        have := List.length_eraseIdx_le (R.take i) at_
        rw [List.length_take] at this
        omega
      rw [hI]
      refine ⟨k1.set (.inl (Nat.le_refl _)), by rw [List.length_set]; exact hl, ?_, _, _, rfl⟩
      rw [set_at hm, take_erase hr', if_neg e1, List.map_append, List.map_append]
      congr 3
      show [D.tup _] = [D.tup ((r.eraseIdx c).map pD)]
      rw [List.eraseIdx_eq_take_drop_succ, List.map_append, List.map_take, List.map_drop]
  · intro σ m1 h
    rw [hI] at h
    obtain ⟨k1, hl, hm, x4, x5, rfl⟩ := h
    rw [enumD_len, List.length_map, List.take_length] at hm
    simp [tD]
    rw [blt_tupL (listAt_lst hm)]
    refine ⟨sz_ok ?_, ?_⟩
    · rw [List.length_map, List.length_map]
      have := List.length_eraseIdx_le R at_
      omega
    · rw [show (w : Int) - 1 = ((w - 1 : Nat) : Int) by omega]
      exact k m1 k1
theorem with_sign_ok (hw : Fu wf) (hn : 5 ≤ n) {p : List Rat} {k b : Nat} (hp : ∀ x ∈ p, Bq b x) (hb1 : 1 ≤ b) (hb : b + b ≤ 4000) (lp : p.length ≤ 300)
    (q : ∀ m', Kp nox m m' → Q (pD (sgP p k)) m') : (callN Pr wf n f_with_sign [pD p, .int k] m).to Q := by
  refine call_of (fn := p_with_sign) rfl rfl (by omega) fun k' hk => ?_
  simp [p_with_sign]
  have e : ((k : Int).fmod 2) = ((k % 2 : Nat) : Int) := by rw [Int.fmod_eq_emod_of_nonneg _ (by omega)]; omega
  rw [e]
  refine br_of (fun h => ?_) fun h => ?_
  · have := q m .refl
    unfold sgP at this
    rwa [if_pos (by omega)] at this
  · show (callN Pr wf k' f_poly_scaled [pD p, fr (-1)] m).to _
    refine poly_scaled_ok hw (by omega) hp (Bq.mono (b := 1) ⟨by unfold Bd; decide, by unfold Bd; decide⟩ hb1) hb lp fun m2 k2 => ?_
    have := q m2 k2
    unfold sgP at this
    rwa [if_neg (by omega)] at this
end K78
end Mn
end

section
set_option Elab.async false
set_option linter.all false
set_option maxRecDepth 100000
set_option autoImplicit false
namespace Mn
open PySem
namespace K78
variable {wf n : Nat} {m : Mu} {Q : D → Mu → Prop} {A : Nat → Prop}
theorem bq_ov {A E B : Nat} {p : List Rat} (h : ∀ i, Ov A E (p.getD i 0)) (hE : 0 < E) (hA : A < 2 ^ B) (hE2 : E < 2 ^ B) : ∀ x ∈ p, Bq B x := by
  intro x hx
  obtain ⟨i, hi, rfl⟩ := mem_getD hx
  exact (h i).bq hE hA hE2
theorem epow {E e N B : Nat} (hE : E ≤ 2 ^ e) (hN : N ≤ 3) (h3 : 3 * e < B) : E ^ N < 2 ^ B := by
  refine Nat.lt_of_le_of_lt (Nat.pow_le_pow_left hE N) ?_
  rw [← Nat.pow_mul]
  refine lt2 ?_
  have := Nat.mul_le_mul_left e hN
  omega
theorem eqC_pnilN {p : List Rat} : cmpD .ne (pD p) (.tup []) m = some (!decide (p = [])) := by
  rw [cmp_ne, eqC_pnil]; rfl
/-- what is told of sizes: a, E of the table, B for all -/
structure SzC (a e E L s B : Nat) : Prop where
  hL : L ≤ 2 ^ s
  hE : E ≤ 2 ^ e
  hE0 : 0 < E
  b1 : 3 * (a + s + 2) + 3 < B
  b2 : 3 * e < B
  b3 : 1 + (6 * L + 2) * B ≤ 3900
  b4 : B ≤ 1000
  b5 : L ≤ 20
theorem crF_bq {a e E L s B N : Nat} {R : Tbl} (z : SzC a e E L s B) (hN : N ≤ 3) (h : SqE a E L N R) : (∀ x ∈ crF N R, Bq B x) ∧ (crF N R).length ≤ N * L + 1 := by
  obtain ⟨h1, h2⟩ := crF_ov z.hL N hN h
  refine ⟨bq_ov h2 (Nat.pow_pos z.hE0) (lt2 ?_) (epow z.hE hN z.b2), h1⟩
  have := Nat.mul_le_mul_right (a + s + 2) hN
  have := z.b1
  omega
theorem row_bq {a e E L s B N : Nat} {R : Tbl} (z : SzC a e E L s B) (h : SqE a E L N R) {r : List (List Rat)} (hr : r ∈ R) {p : List Rat} (hp : p ∈ r) : (∀ x ∈ p, Bq B x) ∧ p.length ≤ L ∧ Can p := by
  obtain ⟨h1, h2, h3⟩ := (h.2 r hr).2 p hp
  have := z.b1
  have := z.b2
  exact ⟨bq_ov h3 z.hE0 (lt2 (by omega)) (Nat.lt_of_le_of_lt z.hE (lt2 (by omega))), h2, h1⟩
theorem row0 {a E L N : Nat} {R : Tbl} (h : SqE a E L (N + 1) R) : R.getD 0 [] ∈ R ∧ R[0]? = some (R.getD 0 []) := by
  have h0 : 0 < R.length := by rw [h.1]; omega
  rw [List.getD_eq_getElem?_getD, List.getElem?_eq_getElem h0]
  exact ⟨List.getElem_mem _, rfl⟩
theorem pcorner_ok (hw : Fu wf) {a e E L s B : Nat} (z : SzC a e E L s B) : ∀ (N : Nat), N ≤ 3 → ∀ {n : Nat} {m : Mu} {R : Tbl} {Q : D → Mu → Prop}, 10 + N ≤ n → SqE a E L N R →
    (∀ m', Kp nox m m' → Q (pD (crF N R)) m') → (callN Pr wf n f_pcorner [tD N R] m).to Q := by
  intro N
  induction N with
  | zero =>
    intro _ n m R Q hn h q
    refine call_of (fn := p_pcorner) rfl rfl (by omega) fun k' hk => ?_
    simp [p_pcorner, tD]
    exact q m .refl
  | succ N ih =>
    intro hN n m R Q hn h q
    refine call_of (fn := p_pcorner) rfl rfl (by omega) fun k' hk => ?_
    obtain ⟨r1, r2⟩ := row0 h
    obtain ⟨r0, hr0⟩ : ∃ r, r = R.getD 0 [] := ⟨_, rfl⟩
    rw [← hr0] at r1 r2
    have hrow := h.2 r0 r1
    have i0 : ∀ M, idxI (tD (N + 1) R) (.int 0) M = some (.int ((N + 1 : Nat) : Int)) := fun M => rfl
    have i1 : ∀ M, idxI (tD (N + 1) R) (.int 1) M = some (.tup (R.map rD)) := fun M => rfl
    have i2 : ∀ M, idxI (.tup (R.map rD)) (.int 0) M = some (rD r0) := fun M => by
      rw [idx_tup, atI_0, List.getElem?_map, r2]; rfl
    obtain ⟨T, hT⟩ : ∃ T, T = tD (N + 1) R := ⟨_, rfl⟩
    rw [← hT] at i0 i1 ⊢
    show (evSs (callN Pr wf k') wf (.cons _ (.cons _ (.cons _ (p_pcorner.body.dr 3)))) [some T, none, none, none, none] m).to (fin Q)
    simp only [ss_cons, s_ite, ev_cmp, ev_idxI, ev_var, ev_con]
    simp [i0, i1, s_forE]
    refine br_of (fun h0 => absurd h0 (by omega)) fun _ => ?_
    refine ⟨_, ⟨r0, r2, rfl⟩, ?_⟩
    simp
    have fbq : ∀ k, k ≤ N → (∀ x ∈ crF N (mnr 0 k R), Bq B x) ∧ (crF N (mnr 0 k R)).length ≤ N * L + 1 := fun k hk => crF_bq z (by omega) (mnr_sq h (by omega) hk)
    have hNL : N * L ≤ 2 * L := Nat.mul_le_mul_right _ (by omega)
    have b3 := z.b3
    have b4 := z.b4
    have b5 := z.b5
    have b1 := z.b1
    obtain ⟨I, hI⟩ : ∃ I : Nat → Sl → Mu → Prop, I = (fun i σ m' => Kp nox m m' ∧ ∃ x2 x3 x4, σ = [some T, some (pD (lap (fun c => crF N (mnr 0 c R)) r0 i)), x2, x3, x4]) := ⟨_, rfl⟩
    refine ft_of (enumD (r0.map pD)) I (by simp [enumD_len]) (by rw [hI]; exact ⟨.refl, _, _, _, rfl⟩) (fun _ _ m _ => gives_enumT _ m) ?_ ?_
    · intro i d σ m1 hd hh
      rw [hI] at hh
      obtain ⟨k1, x2, x3, x4, rfl⟩ := hh
      obtain ⟨e', he, rfl⟩ := enumD_at hd
      obtain ⟨p, hp, rfl⟩ := map_at he
      have hpm := List.mem_of_getElem? hp
      have hi := (List.getElem?_eq_some_iff.mp hp).1
      rw [hrow.1] at hi
      have hpd : r0.getD i [] = p := by rw [List.getD_eq_getElem?_getD, hp]; rfl
      refine ⟨[some T, some (pD (lap (fun c => crF N (mnr 0 c R)) r0 i)), some (.int i), some (pD p), x4], rfl, ?_⟩
      simp only [b_pcorner_1, ss_cons, s_ite, ev_cmp, ev_var, ev_tup]
      simp
      refine br_of (fun hp0 => ?_) fun hp0 => ?_
      · have e1 : lap (fun c => crF N (mnr 0 c R)) r0 (i + 1) = lap (fun c => crF N (mnr 0 c R)) r0 i := by
          show (if r0.getD i [] = [] then _ else _) = _
          rw [if_pos (by rw [hpd]; exact hp0)]
        rw [hI]
        simp only [e1]
        exact ⟨k1, _, _, _, rfl⟩
      · rw [hT]
        show (callN Pr wf k' f_left_without [tD (N + 1) R, .int ((0 : Nat) : Int), .int (i : Int)] m1).to _
        refine left_without_ok (by omega) (by omega) (by rw [h.1]; omega) (fun r hr => by rw [(h.2 r hr).1]; omega) fun m2 k2 => ?_
        rw [← hT]
        refine ih (by omega) (by omega) (mnr_sq h (by omega) (by omega)) fun m3 k3 => ?_
        obtain ⟨f1, f2⟩ := fbq i (by omega)
        obtain ⟨p1, p2, p3⟩ := row_bq z h r1 hpm
        have lo := lap_ov (f := fun c => crF N (mnr 0 c R)) (row := r0) (lf := N * L + 1) (C := 2 ^ (N * (a + s + 2))) (F := E ^ N) (fun p hp => (hrow.2 p hp).2) (fun k hk => crF_ov z.hL N (by omega) (mnr_sq h (by omega) (by rw [hrow.1] at hk; omega)))
        have bigA : ∀ j, j ≤ N + 1 → j * (L * (2 ^ a * 2 ^ (N * (a + s + 2)))) < 2 ^ B := fun j hj => by
          refine Nat.lt_of_le_of_lt (Nat.mul_le_mul (show j ≤ 2 ^ 2 by omega) (Nat.mul_le_mul_right _ z.hL)) ?_
          rw [← Nat.pow_add, ← Nat.pow_add, ← Nat.pow_add]
          refine lt2 ?_
          have := Nat.mul_le_mul_right (a + s + 2) (show N ≤ 2 by omega)
          omega
        have bigE : E * E ^ N < 2 ^ B := by
          rw [Nat.mul_comm, ← Nat.pow_succ]
          exact epow z.hE hN z.b2
        have E0 : 0 < E * E ^ N := Nat.mul_pos z.hE0 (Nat.pow_pos z.hE0)
        obtain ⟨a1, a2⟩ := lo i (by rw [hrow.1]; omega)
        have l3 := mulC_len p (crF N (mnr 0 i R))
        have pb : ∀ x ∈ mulC p (crF N (mnr 0 i R)), Bq B x := by
          refine bq_ov (A := L * (2 ^ a * 2 ^ (N * (a + s + 2)))) (fun j => ?_) E0 (by have := bigA 1 (by omega); rwa [Nat.one_mul] at this) bigE
          rw [mulC_getD]
          exact (cv_ov ((hrow.2 p hpm).2).2 (crF_ov z.hL N (by omega) (mnr_sq h (by omega) (by omega))).2 j _).mono (Nat.mul_le_mul_right _ p2)
        have mm : ∀ x, x ≤ 6 * L + 2 → x * B ≤ (6 * L + 2) * B := fun x hx => Nat.mul_le_mul_right _ hx
        have m1' := mm (p.length + (crF N (mnr 0 i R)).length) (by omega)
        have m2' := mm ((lap (fun c => crF N (mnr 0 c R)) r0 i).length + (sgP (mulC p (crF N (mnr 0 i R))) i).length) (by rw [sgP_len]; omega)
        refine poly_times_ok hw (by omega) p1 f1 (by omega) (by omega) (by omega) fun m4 k4 => ?_
        refine with_sign_ok hw (by omega) pb (by omega) (by omega) (by omega) fun m5 k5 => ?_
        refine poly_sum_ok hw (by omega) (bq_ov a2 E0 (bigA i (by omega)) bigE) (bq_ov (A := L * (2 ^ a * 2 ^ (N * (a + s + 2)))) (E := E * E ^ N) (sgP_ov fun j => ?_) E0 (by have := bigA 1 (by omega); rwa [Nat.one_mul] at this) bigE) (lap_can _) (sgP_can (can_mulC _ _)) (by omega) (by omega) (by rw [sgP_len]; omega) fun m6 k6 => ?_
        · rw [mulC_getD]
          exact (cv_ov ((hrow.2 p hpm).2).2 (crF_ov z.hL N (by omega) (mnr_sq h (by omega) (by omega))).2 j _).mono (Nat.mul_le_mul_right _ p2)
        · have e1 : lap (fun c => crF N (mnr 0 c R)) r0 (i + 1) = trim (addQ (lap (fun c => crF N (mnr 0 c R)) r0 i) (sgP (mulC p (crF N (mnr 0 i R))) i)) := by
            show (if r0.getD i [] = [] then _ else _) = _
            rw [if_neg (by rw [hpd]; exact hp0), hpd]
          rw [hI]
          simp only [e1]
          exact ⟨((((k1.trans k2).trans k3).trans k4).trans k5).trans k6, _, _, _, rfl⟩
    · intro σ m1 hh
      rw [hI] at hh
      obtain ⟨k1, x2, x3, x4, rfl⟩ := hh
      rw [enumD_len, List.length_map, hrow.1]
      simp [p_pcorner]
      have := q m1 k1
      rwa [show crF (N + 1) R = lap (fun c => crF N (mnr 0 c R)) (R.getD 0 []) (N + 1) from rfl, ← hr0] at this
end K78
end Mn
end

section
set_option Elab.async false
set_option linter.all false
set_option maxRecDepth 100000
set_option autoImplicit false
namespace Mn
open PySem
namespace K78
variable {wf n : Nat} {m : Mu} {Q : D → Mu → Prop} {A : Nat → Prop}
/-- the back, by 1 divided by the corner -/
def bkF (N : Nat) (R : Tbl) (u : Rat) : Tbl := (List.range N).map fun c => (List.range N).map fun at_ => scQ (sgP (crF (N - 1) (mnr at_ c R)) (at_ + c)) u
theorem lead_turned_ok (hw : Fu wf) (hn : 5 ≤ n) {q : Rat} {b : Nat} (hq : Bq b q) (h0 : q ≠ 0) (hb : b + 1 ≤ 4000) (k : Q (fr (1 / q)) m) : (callN Pr wf n f_lead_turned [pD [q]] m).to Q := by
  refine call_of (fn := p_lead_turned) rfl rfl (by omega) fun k' hk => ?_
  have ix : idxI (pD [q]) (.int (-1)) m = some (fr q) := by
    show L2.atI [fr q] (-1) = _
    rw [atI_neg (by simp)]; rfl
  simp [p_lead_turned, ix]
  show (callN Pr wf k' f_fraction_over [fr 1, fr q] m).to _
  exact fraction_over_ok hw (by omega) (Bq.mono (b := 1) ⟨by unfold Bd; decide, by unfold Bd; decide⟩ (Nat.le_refl 1)) hq h0 (by omega) k
theorem pback_rx (hw : Fu wf) (hn : 15 ≤ n) {a e E L s B N : Nat} {R : Tbl} (z : SzC a e E L s B) (hN : N ≤ 3) (h : SqE a E L N R) (hl : (crF N R).length ≠ 1)
    {X : Str → List (Str × D) → Mu → Prop} (k : ∀ m', Kp nox m m' → X "NoBack" [("corner", pD (crF N R))] m') : (callN Pr wf n f_pback_of [tD N R] m).rx X := by
  refine call_rx (fn := p_pback_of) rfl rfl (by omega) fun k' hk' => ?_
  show (evSs (callN Pr wf k') wf (.cons _ (.cons _ (p_pback_of.body.dr 2))) [some (tD N R), none, none, none, none, none, none, none] m).rx X
  refine rx_s2 ?_
  simp
  refine pcorner_ok hw z N hN (by omega) h fun m1 k1 => ?_
  refine rx_s1 (rx_ite ?_)
  simp
  refine br_of (fun h0 => absurd h0 (by omega)) fun _ => ?_
  refine rx_s1 (rx_raise ?_)
  simp
  exact probe_ok rfl (by omega) (k m1 k1)
theorem mnr_len {N at_ c : Nat} {a E L : Nat} {R : Tbl} (h : SqE a E L N R) (h1 : at_ < N) (h2 : c < N) : SqE a E L (N - 1) (mnr at_ c R) := by
  obtain ⟨M, rfl⟩ : ∃ M, N = M + 1 := ⟨N - 1, by omega⟩
  exact mnr_sq h (by omega) (by omega)
theorem pback_ok (hw : Fu wf) (hn : 18 ≤ n) {a e E L s B N : Nat} {R : Tbl} {q : Rat} (z : SzC a e E L s B) (hN : N ≤ 3) (h : SqE a E L N R) (hq : crF N R = [q])
    (k : ∀ m', Kp nox m m' → Q (tD N (bkF N R (1 / q))) m') : (callN Pr wf n f_pback_of [tD N R] m).to Q := by
  refine call_of (fn := p_pback_of) rfl rfl (by omega) fun k' hk => ?_
  have q0 : q ≠ 0 := by
    have := crF_can N R
    rw [hq] at this
    unfold Can at this
    intro e0
    exact this (by rw [e0]; rfl)
  obtain ⟨cb, cl⟩ := crF_bq z hN h
  have bq : Bq B q := cb q (by rw [hq]; simp)
  have b3 := z.b3
  have b4 := z.b4
  have b5 := z.b5
  have b1 := z.b1
  have bu : Bq B (1 / q) := by
    have h1 := bq
    have hne : q.num ≠ 0 := fun z => q0 (Rat.num_eq_zero.mp z)
    rw [← over_eq 1 q q0]
    refine divInt_bd ?_ ?_ ?_
    · show Bd B ((1 : Int) * (q.den : Int)); rw [Int.one_mul]; exact h1.2
    · show Bd B ((1 : Int) * q.num); rw [Int.one_mul]; exact h1.1
    · show (1 : Int) * q.num ≠ 0; rw [Int.one_mul]; exact hne
  have i0 : ∀ M, idxI (tD N R) (.int 0) M = some (.int (N : Int)) := fun M => rfl
  obtain ⟨T, hT⟩ : ∃ T, T = tD N R := ⟨_, rfl⟩
  show (evSs (callN Pr wf k') wf (.cons _ (.cons _ (.cons _ (p_pback_of.body.dr 3)))) [some (tD N R), none, none, none, none, none, none, none] m).to (fin Q)
  simp
  refine pcorner_ok hw z N hN (by omega) h fun m1 k1 => ?_
  rw [hq]
  simp
  refine lead_turned_ok hw (by omega) bq q0 (by omega) ?_
  rw [← hT] at i0 ⊢
  have hb := bound_ok (show N ≤ 1000000 by omega)
  simp [p_pback_of, to_newL, s_forE, i0, hb]
  refine forApp m1.length (rngD N) [] (fun c => rD ((List.range N).map fun at_ => scQ (sgP (crF (N - 1) (mnr at_ c R)) (at_ + c)) (1 / q))) (fun σ => ∃ x4 x5 x6 x7, σ = [some T, some (pD [q]), some (fr (1 / q)), some (.loc m1.length), x4, x5, x6, x7]) (by simp [rngD]) at_new ⟨_, _, _, _, rfl⟩ (fun m' _ => gives_rng _ _) ?_ ?_
  · rintro c d σ' m' Ys v S' hd ⟨x4, x5, x6, x7, rfl⟩ kk hm hY hv hS
    obtain ⟨hc, rfl⟩ := rngD_at hd
    refine ⟨[some T, some (pD [q]), some (fr (1 / q)), some (.loc m1.length), some (.int c), x5, x6, x7], rfl, ?_⟩
    simp [b_pback_of_2, to_newL, s_forE, i0, hb]
    refine forApp m'.length (rngD N) [] (fun at_ => pD (scQ (sgP (crF (N - 1) (mnr at_ c R)) (at_ + c)) (1 / q))) (fun σ => ∃ x6 x7, σ = [some T, some (pD [q]), some (fr (1 / q)), some (.loc m1.length), some (.int c), some (.loc m'.length), x6, x7]) (by simp [rngD]) at_new ⟨_, _, rfl⟩ (fun m' _ => gives_rng _ _) ?_ ?_
    · rintro at_ d2 σ2 m2 Ys2 v2 S2 hd2 ⟨x6, x7, rfl⟩ kk2 hm2 hY2 hv2 hS2
      obtain ⟨ha, rfl⟩ := rngD_at hd2
      refine ⟨[some T, some (pD [q]), some (fr (1 / q)), some (.loc m1.length), some (.int c), some (.loc m'.length), some (.int at_), x7], rfl, ?_⟩
      simp [b_pback_of_1]
      rw [hT]
      have hq2 := mnr_len h ha hc
      obtain ⟨g1, g2⟩ := crF_bq z (show N - 1 ≤ 3 by omega) hq2
      have hNL : (N - 1) * L ≤ 2 * L := Nat.mul_le_mul_right _ (by omega)
      refine left_without_ok (by omega) (by omega) (by rw [h.1]; omega) (fun r hr => by rw [(h.2 r hr).1]; omega) fun m3 k3 => ?_
      refine pcorner_ok hw z (N - 1) (by omega) (by omega) hq2 fun m4 k4 => ?_
      rw [← hT]
      have e0 : (at_ : Int) + (c : Int) = ((at_ + c : Nat) : Int) := by omega
      rw [e0]
      have k24 := k3.trans k4
      refine ⟨isL_end hm2 k24, ?_⟩
      refine with_sign_ok hw (by omega) g1 (by omega) (by omega) (by omega) fun m5 k5 => ?_
      refine poly_scaled_ok hw (by omega) (b := B) ?_ bu (by omega) (by rw [sgP_len]; omega) fun m6 k6 => ?_
      · obtain ⟨_, o2⟩ := crF_ov z.hL (N - 1) (by omega) hq2
        refine bq_ov (sgP_ov o2) (Nat.pow_pos z.hE0) (lt2 ?_) (epow z.hE (by omega) z.b2)
        have := Nat.mul_le_mul_right (a + s + 2) (show N - 1 ≤ 3 by omega)
        omega
      exact app_end hm2 ((k24.trans k5).trans k6) (by simp at hY2; omega) hv2 (hS2 _ ⟨_, _, rfl⟩)
    · rintro σ2 m2 ⟨x6, x7, rfl⟩ kk2 hm2
      simp
      refine ⟨isL_end hm kk2.cell, ?_⟩
      rw [blt_tupL (listAt_lst hm2)]
      refine ⟨by simp [rngD]; omega, ?_⟩
      refine app_end hm kk2.cell (by simp at hY; omega) ?_ (hS _ ⟨_, _, _, _, rfl⟩)
      rw [hv]
      simp [rngD, rD]
  · rintro σ' m' ⟨x4, x5, x6, x7, rfl⟩ kk hm
    simp [i0]
    rw [blt_tupL (listAt_lst hm)]
    refine ⟨by simp [rngD]; omega, ?_⟩
    have e1 : ([] ++ (List.range (rngD N).length).map fun c => rD ((List.range N).map fun at_ => scQ (sgP (crF (N - 1) (mnr at_ c R)) (at_ + c)) (1 / q))) = (bkF N R (1 / q)).map rD := by
      unfold bkF
      rw [List.nil_append, List.map_map, show (rngD N).length = N by simp [rngD]]; rfl
    rw [e1]
    exact k m' (k1.trans kk.cell)
end K78
end Mn
end

section
set_option Elab.async false
set_option linter.all false
set_option maxRecDepth 100000
set_option autoImplicit false
namespace Mn
open PySem
namespace K78
variable {wf n : Nat} {m : Mu} {Q : D → Mu → Prop} {A : Nat → Prop}
def sgn (k : Nat) : Int := if k % 2 = 0 then 1 else -1
def longer (k : Nat) (os : List Nat × Int) : List (List Nat × Int) := (List.range (k + 1)).map fun at_ => (os.1.take at_ ++ [k] ++ os.1.drop at_, os.2 * sgn (k - at_))
def ordN : Nat → List (List Nat × Int)
  | 0 => [([], 1)]
  | k + 1 => (ordN k).flatMap (longer k)
def nD (o : List Nat) : D := .tup (o.map fun i : Nat => .int (i : Int))
def osD (os : List Nat × Int) : D := .tup [nD os.1, .int os.2]
theorem ord_ok : ∀ N, N ≤ 3 → (ordN N).length ≤ 6 ∧ ∀ os ∈ ordN N, (os.2 = 1 ∨ os.2 = -1) ∧ os.1.length = N ∧ ∀ i ∈ os.1, i < N := by
  intro N hN
  match N, hN with
  | 0, _ => decide
  | 1, _ => decide
  | 2, _ => decide
  | 3, _ => decide
theorem flat_take {α β : Type} {f : α → List β} {l : List α} {i : Nat} {a : α} (h : l[i]? = some a) : (l.take (i + 1)).flatMap f = (l.take i).flatMap f ++ f a := by
  rw [take_s h, List.flatMap_append]; simp
theorem nD_idx {o : List Nat} {k : Nat} (h : k < o.length) : idxI (nD o) (.int (k : Int)) m = some (.int ((o.getD k 0 : Nat) : Int)) := by
  show L2.atI (o.map fun i : Nat => D.int (i : Int)) (k : Int) = _
  rw [atI_nat, List.getElem?_map, List.getElem?_eq_getElem h, List.getD_eq_getElem?_getD, List.getElem?_eq_getElem h]; rfl
theorem orders_ok (hn : 1 ≤ n) {N : Nat} (hN : N ≤ 3) (k : ∀ l m', Kp nox m m' → m'[l]? = some (.lst ((ordN N).map osD)) → Q (.loc l) m') : (callN Pr wf n f__law_orders [.int N] m).to Q := by
  refine call_of (fn := p__law_orders) rfl rfl (by omega) fun k' hk => ?_
  have hb : ∀ j : Nat, j ≤ 10 → boundOk (j : Int) = true := fun j hj => bound_ok (by omega)
  simp [p__law_orders, to_newL, s_forE, hb N (by omega)]
  obtain ⟨I, hI⟩ : ∃ I : Nat → Sl → Mu → Prop, I = (fun i σ m' => Kp nox m m' ∧ ∃ l x2 x3 x4 x5 x6, m'[l]? = some (.lst ((ordN i).map osD)) ∧ σ = [some (.int N), some (.loc l), x2, x3, x4, x5, x6]) := ⟨_, rfl⟩
  refine ft_of (rngD N) I (by simp [rngD]) (by rw [hI]; exact ⟨.new, m.length, _, _, _, _, _, by rw [at_new]; rfl, rfl⟩) (fun _ _ m _ => gives_rng _ m) ?_ ?_
  · intro j d σ m1 hd h
    rw [hI] at h
    obtain ⟨k1, l, x2, x3, x4, x5, x6, hl, rfl⟩ := h
    obtain ⟨hj, rfl⟩ := rngD_at hd
    obtain ⟨o1, o2⟩ := ord_ok j (by omega)
    have o3 := (ord_ok (j + 1) (by omega)).1
    refine ⟨[some (.int N), some (.loc l), some (.int j), x3, x4, x5, x6], rfl, ?_⟩
    have ll := (List.getElem?_eq_some_iff.mp hl).1
    have hl' : (m1 ++ [Cell.lst []])[l]? = some (.lst ((ordN j).map osD)) := by rw [List.getElem?_append_left ll]; exact hl
    simp [b__law_orders_3, to_newL, s_forE]
    rw [srcOf_loc (listAt_lst hl')]
    simp
    obtain ⟨J, hJ⟩ : ∃ I : Nat → Sl → Mu → Prop, I = (fun i σ m' => Kp (· = m1.length) (m1 ++ [Cell.lst []]) m' ∧ m'[m1.length]? = some (.lst ((((ordN j).take i).flatMap (longer j)).map osD)) ∧ ∃ x4 x5 x6, σ = [some (.int N), some (.loc l), some (.int j), some (.loc m1.length), x4, x5, x6]) := ⟨_, rfl⟩
    refine ft_of ((ordN j).map osD) J (by simp) (by rw [hJ]; exact ⟨.refl, at_new, _, _, _, rfl⟩) (fun i σ m' h => ?_) ?_ ?_
    · rw [hJ] at h
      exact gives_dy (listAt_lst (h.1.at_ hl' (by omega)))
    · intro i d σ m2 hd2 h
      rw [hJ] at h
      obtain ⟨k2, hg, x4, x5, x6, rfl⟩ := h
      obtain ⟨os, hos, rfl⟩ := map_at hd2
      obtain ⟨s1, s2, s3⟩ := o2 os (List.mem_of_getElem? hos)
      refine ⟨[some (.int N), some (.loc l), some (.int j), some (.loc m1.length), some (nD os.1), some (.int os.2), x6], rfl, ?_⟩
      simp [b__law_orders_2, s_forE]
      have e1 : (j : Int) + 1 = ((j + 1 : Nat) : Int) := by omega
      rw [e1]
      refine ⟨hb _ (by omega), ?_⟩
      refine forApp m1.length (rngD (j + 1)) ((((ordN j).take i).flatMap (longer j)).map osD) (fun at_ => osD (os.1.take at_ ++ [j] ++ os.1.drop at_, os.2 * sgn (j - at_))) (fun σ => ∃ x6, σ = [some (.int N), some (.loc l), some (.int j), some (.loc m1.length), some (nD os.1), some (.int os.2), x6]) (by simp [rngD]) hg ⟨_, rfl⟩ (fun m' _ => gives_rng _ _) ?_ ?_
      · rintro at_ d σ' m3 Ys v S' hd3 ⟨x6, rfl⟩ kk hm hY hv hS
        obtain ⟨ha, rfl⟩ := rngD_at hd3
        refine ⟨[some (.int N), some (.loc l), some (.int j), some (.loc m1.length), some (nD os.1), some (.int os.2), some (.int at_)], rfl, ?_⟩
        have c1 := cut_min (xs := os.1.map fun i : Nat => D.int (i : Int)) (k := at_)
        have c2 := cut_from (xs := os.1.map fun i : Nat => D.int (i : Int)) (k := at_)
        simp [b__law_orders_1, to_newL, nD, c1, c2]
        refine ⟨isL_at hm, by omega, by omega, ?_⟩
        have e2 : ((j : Int) - (at_ : Int)).fmod 2 = (((j - at_) % 2 : Nat) : Int) := by
          rw [Int.fmod_eq_emod_of_nonneg _ (by omega)]; omega
        have hs : idxI (.loc m3.length) (.int (((j - at_) % 2 : Nat) : Int)) (m3 ++ [Cell.lst [D.int 1, D.int (-1)]]) = some (.int (sgn (j - at_))) := by
          rw [idx_loc (listAt_lst at_new), atI_nat]
          unfold sgn
          rcases (show (j - at_) % 2 = 0 ∨ (j - at_) % 2 = 1 by omega) with e | e <;> rw [e] <;> rfl
        rw [e2]
        refine ⟨_, hs, ?_⟩
        have bs : Bd 1 os.2 := by unfold Bd; rcases s1 with e | e <;> rw [e] <;> decide
        have bs2 : Bd 1 (sgn (j - at_)) := by unfold Bd sgn; split <;> decide
        simp
        refine ⟨mul_ok bs bs2 (by omega), ?_⟩
        have hm3 : (m3 ++ [Cell.lst [D.int 1, D.int (-1)]])[m1.length]? = some (.lst Ys) := by rw [List.getElem?_append_left (List.getElem?_eq_some_iff.mp hm).1]; exact hm
        refine app_end hm (m2 := m3 ++ [Cell.lst [D.int 1, D.int (-1)]]) .new ?_ ?_ (hS _ ⟨_, rfl⟩)
        · rw [hY, List.length_map]
          have l1 : ((ordN j).take i).flatMap (longer j) = ((ordN j).take i).flatMap (longer j) := rfl
          have : (((ordN j).take i).flatMap (longer j)).length ≤ 6 * 4 := by
            rw [List.length_flatMap]
            have : ∀ l : List (List Nat × Int), (l.map fun a => (longer j a).length).sum = l.length * (j + 1) := by
              intro l
              induction l with
              | nil => simp
              | cons a l ih =>
                have : (longer j a).length = j + 1 := by simp [longer]
                rw [List.map_cons, List.sum_cons, ih, List.length_cons, Nat.succ_mul]; omega
            rw [this]
            exact Nat.mul_le_mul (by rw [List.length_take]; omega) (by omega)
          omega
        · rw [hv]
          simp [osD, nD]
      · rintro σ' m3 ⟨x6, rfl⟩ kk hm
        rw [hJ]
        refine ⟨k2.trans kk, ?_, _, _, _, rfl⟩
        rw [hm, flat_take hos, List.map_append]
        congr 3
        rw [show (rngD (j + 1)).length = j + 1 by simp [rngD]]
        unfold longer
        rw [List.map_map]; rfl
    · intro σ m2 h
      rw [hJ] at h
      obtain ⟨k2, hg, x4, x5, x6, rfl⟩ := h
      rw [List.length_map, List.take_length] at hg
      simp
      rw [hI]
      exact ⟨k1.trans k2.cell, _, _, _, _, _, _, hg, rfl⟩
  · intro σ m1 h
    rw [hI] at h
    obtain ⟨k1, l, x2, x3, x4, x5, x6, hl, rfl⟩ := h
    rw [show (rngD N).length = N by simp [rngD]] at hl
    simp
    exact k l m1 k1 hl
def prF (R : Tbl) (o : List Nat) (s : Int) : Nat → List Rat
  | 0 => [(s : Rat)]
  | k + 1 => mulC (prF R o s k) ((R.getD k []).getD (o.getD k 0) [])
def lcA (R : Tbl) (N : Nat) (acc : List Rat) (l : List (List Nat × Int)) : List Rat := l.foldl (fun acc os => trim (addQ acc (prF R os.1 os.2 N))) acc
def lcF (R : Tbl) (N : Nat) : List Rat := lcA R N [] (ordN N)
theorem lcA_snoc {R : Tbl} {N : Nat} {acc : List Rat} {l : List (List Nat × Int)} {os : List Nat × Int} : lcA R N acc (l ++ [os]) = trim (addQ (lcA R N acc l) (prF R os.1 os.2 N)) := by
  simp [lcA]
theorem sgq {s : Int} (h : s = 1 ∨ s = -1) : (.tup [.tup [.int s, .int 1]] : D) = pD [(s : Rat)] := by
  rcases h with rfl | rfl <;> rfl
theorem prF_can {R : Tbl} {o : List Nat} {s : Int} (h : s = 1 ∨ s = -1) : ∀ k, Can (prF R o s k)
  | 0 => by rcases h with rfl | rfl <;> (unfold prF Can; decide)
  | k + 1 => can_mulC _ _
theorem entry {a E L N i j : Nat} {R : Tbl} (h : SqE a E L N R) (hi : i < N) (hj : j < N) : (R.getD i []) ∈ R ∧ (R.getD i []).getD j [] ∈ R.getD i [] := by
  have h0 : i < R.length := by rw [h.1]; exact hi
  have e : R.getD i [] = R[i] := by rw [List.getD_eq_getElem?_getD, List.getElem?_eq_getElem h0]; rfl
  have hm : R.getD i [] ∈ R := by rw [e]; exact List.getElem_mem _
  refine ⟨hm, ?_⟩
  have hl := (h.2 _ hm).1
  generalize R.getD i [] = r at hl ⊢
  rw [List.getD_eq_getElem?_getD, List.getElem?_eq_getElem (show j < r.length by omega)]
  exact List.getElem_mem _
theorem prF_ov {a E L s N : Nat} {R : Tbl} {o : List Nat} {sg : Int} (hL : L ≤ 2 ^ s) (h : SqE a E L N R) (hs : sg = 1 ∨ sg = -1) (hN : N ≤ 3) (hl : o.length = N) (ho : ∀ i ∈ o, i < N) (hL1 : 1 ≤ L) : ∀ k, k ≤ N → (prF R o sg k).length ≤ k * L + 1 ∧ ∀ i, Ov (2 ^ (k * (a + s + 2))) (E ^ k) ((prF R o sg k).getD i 0)
  | 0, _ => ⟨by simp [prF], fun i => by
      cases i with
      | zero =>
        rcases hs with rfl | rfl
        · simpa [prF] using ov11
        · simpa [prF] using ovneg ov11
      | succ i => exact Ov.zero.mono (Nat.zero_le _)⟩
  | k + 1, hk => by
    obtain ⟨h1, h2⟩ := prF_ov hL h hs hN hl ho hL1 k (by omega)
    have hok : o.getD k 0 < N := by
      rw [List.getD_eq_getElem?_getD, List.getElem?_eq_getElem (show k < o.length by omega)]
      exact ho _ (List.getElem_mem _)
    obtain ⟨e1, e2⟩ := entry h (show k < N by omega) hok
    obtain ⟨p1, p2, p3⟩ := (h.2 _ e1).2 _ e2
    refine ⟨?_, fun i => ?_⟩
    · have := mulC_len (prF R o sg k) ((R.getD k []).getD (o.getD k 0) [])
      show (mulC _ _).length ≤ _
      rw [Nat.succ_mul]; omega
    · show Ov _ _ ((mulC _ _).getD i 0)
      rw [mulC_getD, Nat.pow_succ]
      refine (cv_ov h2 p3 i _).mono ?_
      have kl : (prF R o sg k).length ≤ 2 ^ (s + 2) := by
        rw [Nat.pow_add]
        have := Nat.mul_le_mul_right L (show k ≤ 2 by omega)
        omega
      rw [show (k + 1) * (a + s + 2) = (s + 2) + (k * (a + s + 2) + a) by rw [Nat.succ_mul]; omega, Nat.pow_add 2 (s + 2), Nat.pow_add 2 (k * (a + s + 2))]
      exact Nat.mul_le_mul_right _ kl
theorem lcA_ov {a E L s N : Nat} {R : Tbl} (hL : L ≤ 2 ^ s) (h : SqE a E L N R) (hN : N ≤ 3) (hL1 : 1 ≤ L) : ∀ (l : List (List Nat × Int)) (acc : List Rat) (k : Nat), (∀ os ∈ l, (os.2 = 1 ∨ os.2 = -1) ∧ os.1.length = N ∧ ∀ i ∈ os.1, i < N) → acc.length ≤ N * L + 1 → (∀ i, Ov (k * 2 ^ (N * (a + s + 2))) (E ^ N) (acc.getD i 0)) →
    (lcA R N acc l).length ≤ N * L + 1 ∧ ∀ i, Ov ((k + l.length) * 2 ^ (N * (a + s + 2))) (E ^ N) ((lcA R N acc l).getD i 0)
  | [], acc, k, _, h1, h2 => ⟨h1, h2⟩
  | os :: l, acc, k, ho, h1, h2 => by
    obtain ⟨s1, s2, s3⟩ := ho os (by simp)
    obtain ⟨p1, p2⟩ := prF_ov hL h s1 hN s2 s3 hL1 N (Nat.le_refl _)
    have := lcA_ov hL h hN hL1 l (trim (addQ acc (prF R os.1 os.2 N))) (k + 1) (fun o h => ho o (by simp [h])) (by have := addQ_len acc (prF R os.1 os.2 N); omega) fun i => by
      rw [trim_getD, addQ_getD, Nat.succ_mul]
      exact Ov.add (h2 i) (p2 i)
    rw [show k + (os :: l).length = k + 1 + l.length by simp; omega]
    exact this
theorem law_corner_ok (hw : Fu wf) (hn : 6 ≤ n) {a e E L s B N : Nat} {R : Tbl} (z : SzC a e E L s B) (hN : N ≤ 3) (h : SqE a E L N R) (hL1 : 1 ≤ L)
    (k : ∀ m', Kp nox m m' → Q (pD (lcF R N)) m') : (callN Pr wf n f__law_corner [tD N R] m).to Q := by
  refine call_of (fn := p__law_corner) rfl rfl (by omega) fun k' hk => ?_
  have i0 : ∀ M, idxI (tD N R) (.int 0) M = some (.int (N : Int)) := fun M => rfl
  have i1 : ∀ M, idxI (tD N R) (.int 1) M = some (.tup (R.map rD)) := fun M => rfl
  obtain ⟨T, hT⟩ : ∃ T, T = tD N R := ⟨_, rfl⟩
  rw [← hT] at i0 i1 ⊢
  obtain ⟨o1, o2⟩ := ord_ok N hN
  have b3 := z.b3
  have b4 := z.b4
  have b5 := z.b5
  have b1 := z.b1
  have hNL : N * L ≤ 3 * L := Nat.mul_le_mul_right _ hN
  have hb := bound_ok (show N ≤ 1000000 by omega)
  have hLB : 4 + L * (B + B + 1) ≤ 4000 := by
    have e1 : (6 * L + 2) * B = 6 * (L * B) + 2 * B := by rw [Nat.add_mul, Nat.mul_assoc]
    have e2 : L * (B + B + 1) = 2 * (L * B) + L := by rw [Nat.mul_add, Nat.mul_add]; omega
    omega
  simp [p__law_corner, s_forE, i0]
  refine orders_ok (by omega) hN fun l m1 k1 hl => ?_
  rw [srcOf_loc (listAt_lst hl)]
  simp
  obtain ⟨I, hI⟩ : ∃ I : Nat → Sl → Mu → Prop, I = (fun i σ m' => Kp nox m1 m' ∧ ∃ x2 x3 x4 x5, σ = [some T, some (pD (lcA R N [] ((ordN N).take i))), x2, x3, x4, x5]) := ⟨_, rfl⟩
  refine ft_of ((ordN N).map osD) I (by simp) (by rw [hI]; exact ⟨.refl, _, _, _, _, rfl⟩) (fun i σ m' h => ?_) ?_ ?_
  · rw [hI] at h
    exact gives_dy (listAt_lst (h.1.at_ hl id))
  · intro i d σ m2 hd hh
    rw [hI] at hh
    obtain ⟨k2, x2, x3, x4, x5, rfl⟩ := hh
    obtain ⟨os, hos, rfl⟩ := map_at hd
    obtain ⟨s1, s2, s3⟩ := o2 os (List.mem_of_getElem? hos)
    refine ⟨[some T, some (pD (lcA R N [] ((ordN N).take i))), some (nD os.1), some (.int os.2), x4, x5], rfl, ?_⟩
    simp [b__law_corner_2, s_forE, i0, hb]
    rw [sgq s1]
    have pw : ∀ k, k ≤ N → (∀ x ∈ prF R os.1 os.2 k, Bq B x) ∧ (prF R os.1 os.2 k).length ≤ 3 * L + 1 := fun k hk => by
      obtain ⟨p1, p2⟩ := prF_ov z.hL h s1 hN s2 s3 hL1 k hk
      have := Nat.mul_le_mul_right L (show k ≤ 3 by omega)
      refine ⟨bq_ov p2 (Nat.pow_pos z.hE0) (lt2 ?_) (epow z.hE (by omega) z.b2), by omega⟩
      have := Nat.mul_le_mul_right (a + s + 2) (show k ≤ 3 by omega)
      omega
    obtain ⟨J, hJ⟩ : ∃ I : Nat → Sl → Mu → Prop, I = (fun j σ m' => Kp nox m2 m' ∧ ∃ x5, σ = [some T, some (pD (lcA R N [] ((ordN N).take i))), some (nD os.1), some (.int os.2), some (pD (prF R os.1 os.2 j)), x5]) := ⟨_, rfl⟩
    refine ft_of (rngD N) J (by simp [rngD]) (by rw [hJ]; exact ⟨.refl, _, rfl⟩) (fun _ _ m _ => gives_rng _ m) ?_ ?_
    · intro j d σ m3 hd2 hh
      rw [hJ] at hh
      obtain ⟨k3, x5, rfl⟩ := hh
      obtain ⟨hj, rfl⟩ := rngD_at hd2
      refine ⟨[some T, some (pD (lcA R N [] ((ordN N).take i))), some (nD os.1), some (.int os.2), some (pD (prF R os.1 os.2 j)), some (.int j)], rfl, ?_⟩
      have hok : os.1.getD j 0 < N := by
        rw [List.getD_eq_getElem?_getD, List.getElem?_eq_getElem (show j < os.1.length by omega)]
        exact s3 _ (List.getElem_mem _)
      obtain ⟨e1, e2⟩ := entry h hj hok
      obtain ⟨q1, q2, q3⟩ := row_bq z h e1 e2
      have hRl := (h.2 _ e1).1
      have ir : R[j]? = some (R.getD j []) := by
        rw [List.getD_eq_getElem?_getD, List.getElem?_eq_getElem (show j < R.length by rw [h.1]; exact hj)]; rfl
      obtain ⟨w1, w2⟩ := pw j (by omega)
      have io := nD_idx (m := m3) (show j < os.1.length by omega)
      have pe : prF R os.1 os.2 (j + 1) = mulC (prF R os.1 os.2 j) ((R.getD j []).getD (os.1.getD j 0) []) := rfl
      generalize R.getD j [] = row at *
      generalize os.1.getD j 0 = oj at *
      have ix := idx_rD (m := m3) (show oj < row.length by omega)
      generalize row.getD oj [] = ent at *
      simp [b__law_corner_1, i1, ir, io, ix]
      refine law_product_okW hw (by omega) (p := prF R os.1 os.2 j) (bp := fun _ => B) (c := B) (fun i s h => w1 s (List.mem_of_getElem? h)) q1 ?_ (by omega) (by omega) fun m4 k4 => ?_
      · intro t
        refine Nat.le_trans (Nat.add_le_add_left (wv_le _) _) ?_
        have := Nat.mul_le_mul_right (B + B + 1) (show min (prF R os.1 os.2 j).length (t + 1) - (t + 1 - ent.length) ≤ L by omega)
        omega
      · rw [hJ]
        simp only [pe]
        exact ⟨k3.trans k4, _, rfl⟩
    · intro σ m3 hh
      rw [hJ] at hh
      obtain ⟨k3, x5, rfl⟩ := hh
      rw [show (rngD N).length = N by simp [rngD]]
      simp
      obtain ⟨w1, w2⟩ := pw N (Nat.le_refl _)
      obtain ⟨v1, v2⟩ := lcA_ov z.hL h hN hL1 ((ordN N).take i) [] 0 (fun o ho => o2 o (List.mem_of_mem_take ho)) (by simp) (fun i => by rw [getD_out (by simp)]; exact Ov.zero.mono (Nat.zero_le _))
      refine law_plus_ok hw (by omega) (b := B) (bq_ov v2 (Nat.pow_pos z.hE0) ?_ (epow z.hE hN z.b2)) w1 (by omega) (by omega) (by omega) (by omega) fun m4 k4 => ?_
      · refine Nat.lt_of_le_of_lt (Nat.mul_le_mul_right _ (show 0 + ((ordN N).take i).length ≤ 2 ^ 3 by rw [List.length_take]; omega)) ?_
        rw [← Nat.pow_add]
        refine lt2 ?_
        have := Nat.mul_le_mul_right (a + s + 2) hN
        omega
      rw [hI]
      have e5 : lcA R N [] ((ordN N).take (i + 1)) = trim (addQ (lcA R N [] ((ordN N).take i)) (prF R os.1 os.2 N)) := by rw [take_s hos, lcA_snoc]
      simp only [e5]
      exact ⟨(k2.trans k3).trans k4, _, _, _, _, rfl⟩
  · intro σ m2 hh
    rw [hI] at hh
    obtain ⟨k2, x2, x3, x4, x5, rfl⟩ := hh
    rw [List.length_map, List.take_length]
    simp
    exact k m2 (k1.trans k2)
end K78
end Mn
end

section
set_option Elab.async false
set_option linter.all false
set_option maxRecDepth 100000
set_option autoImplicit false
namespace Mn
open PySem
namespace K78
theorem pc_neg1 : pc [(-1 : Rat)] = -1 := PolC.ext' (by
  rw [cf_pc, cfn]
  show cf [-1] = fun i => -cf (cst ((1 : Nat) : Rat)).v i
  rw [cfc]; funext i
  cases i with
  | zero => show (-1 : Rat) = -(((1 : Nat) : Rat) * 1); rw [Rat.mul_one]; rfl
  | succ i => show (0 : Rat) = -(((1 : Nat) : Rat) * 0); rw [Rat.mul_zero]; rfl)
theorem pc_sc (p : List Rat) {u : Rat} (hu : u ≠ 0) : pc (scQ p u) = cst u * pc p := PolC.ext' (by
  rw [cf_pc, cst_mul, cf_pc]; funext i
  unfold scQ
  rw [if_neg hu]
  show (p.map (· * u)).getD i 0 = u * p.getD i 0
  rw [List.getD_eq_getElem?_getD, List.getD_eq_getElem?_getD, List.getElem?_map]
  cases p[i]? with
  | none => show (0 : Rat) = u * 0; rw [Rat.mul_zero]
  | some x => show x * u = u * x; grind)
def sgC (k : Nat) : PolC := if k % 2 = 0 then 1 else -1
theorem pc_sgP (p : List Rat) (k : Nat) : pc (sgP p k) = sgC k * pc p := by
  unfold sgP sgC
  split
  · grind
  · rw [pc_scQ]; grind
theorem pc_lap (f : Nat → List Rat) (row : List (List Rat)) (k : Nat) : pc (lap f row (k + 1)) = pc (lap f row k) + sgC k * (pc (row.getD k []) * pc (f k)) := by
  show pc (if row.getD k [] = [] then lap f row k else trim (addQ (lap f row k) (sgP (mulC (row.getD k []) (f k)) k))) = _
  split
  · rename_i h
    rw [h, pc_nil]; grind
  · rw [pc_add, pc_sgP, pc_mul]
theorem s0 : sgC 0 = 1 := rfl
theorem s1 : sgC 1 = -1 := rfl
theorem s2 : sgC 2 = 1 := rfl
theorem s3 : sgC 3 = -1 := rfl
theorem s4 : sgC 4 = 1 := rfl
theorem cr0 (R : Tbl) : pc (crF 0 R) = 1 := pc_one
theorem cr1 (a : List Rat) : pc (crF 1 [[a]]) = pc a := by
  show pc (lap (fun c => crF 0 (mnr 0 c [[a]])) [a] 1) = _
  rw [pc_lap, s0]
  show pc [] + 1 * (pc a * pc (crF 0 _)) = _
  rw [cr0, pc_nil]; grind
theorem cr2 (a b c d : List Rat) : pc (crF 2 [[a, b], [c, d]]) = pc a * pc d - pc b * pc c := by
  show pc (lap (fun k => crF 1 (mnr 0 k [[a, b], [c, d]])) [a, b] 2) = _
  rw [pc_lap, pc_lap, s0, s1]
  show pc [] + 1 * (pc a * pc (crF 1 [[d]])) + -1 * (pc b * pc (crF 1 [[c]])) = _
  rw [cr1, cr1, pc_nil]; grind
theorem cr3 (a b c d e f g h i : List Rat) : pc (crF 3 [[a, b, c], [d, e, f], [g, h, i]]) = pc a * (pc e * pc i - pc f * pc h) - pc b * (pc d * pc i - pc f * pc g) + pc c * (pc d * pc h - pc e * pc g) := by
  show pc (lap (fun k => crF 2 (mnr 0 k [[a, b, c], [d, e, f], [g, h, i]])) [a, b, c] 3) = _
  rw [pc_lap, pc_lap, pc_lap, s0, s1, s2]
  show pc [] + 1 * (pc a * pc (crF 2 [[e, f], [h, i]])) + -1 * (pc b * pc (crF 2 [[d, f], [g, i]])) + 1 * (pc c * pc (crF 2 [[d, e], [g, h]])) = _
  rw [cr2, cr2, cr2, pc_nil]; grind
theorem sq0 {a E L : Nat} {R : Tbl} (h : SqE a E L 0 R) : R = [] := List.length_eq_zero_iff.mp h.1
theorem len1' {α : Type} {l : List α} (h : l.length = 1) : ∃ a, l = [a] := List.length_eq_one_iff.mp h
theorem len2' {α : Type} {l : List α} (h : l.length = 2) : ∃ a b, l = [a, b] := by
  match l, h with
  | [a, b], _ => exact ⟨a, b, rfl⟩
theorem len3' {α : Type} {l : List α} (h : l.length = 3) : ∃ a b c, l = [a, b, c] := by
  match l, h with
  | [a, b, c], _ => exact ⟨a, b, c, rfl⟩
theorem sq1 {a E L : Nat} {R : Tbl} (h : SqE a E L 1 R) : ∃ x, R = [[x]] := by
  obtain ⟨r, rfl⟩ := len1' h.1
  obtain ⟨x, rfl⟩ := len1' (h.2 r (by simp)).1
  exact ⟨x, rfl⟩
theorem sq2 {a E L : Nat} {R : Tbl} (h : SqE a E L 2 R) : ∃ x y z w, R = [[x, y], [z, w]] := by
  obtain ⟨r, s, rfl⟩ := len2' h.1
  obtain ⟨x, y, rfl⟩ := len2' (h.2 r (by simp)).1
  obtain ⟨z, w, rfl⟩ := len2' (h.2 s (by simp)).1
  exact ⟨x, y, z, w, rfl⟩
theorem sq3 {a E L : Nat} {R : Tbl} (h : SqE a E L 3 R) : ∃ a b c d e f g h i, R = [[a, b, c], [d, e, f], [g, h, i]] := by
  obtain ⟨r, s, t, rfl⟩ := len3' h.1
  obtain ⟨a, b, c, rfl⟩ := len3' (h.2 r (by simp)).1
  obtain ⟨d, e, f, rfl⟩ := len3' (h.2 s (by simp)).1
  obtain ⟨g, j, i, rfl⟩ := len3' (h.2 t (by simp)).1
  exact ⟨a, b, c, d, e, f, g, j, i, rfl⟩
theorem pcI1 : pc [((1 : Int) : Rat)] = 1 := pc_one
theorem pcIm : pc [((-1 : Int) : Rat)] = -1 := pc_neg1
theorem lcA_can {R : Tbl} {N : Nat} : ∀ (l : List (List Nat × Int)) (acc : List Rat), Can acc → Can (lcA R N acc l)
  | [], _, h => h
  | os :: l, acc, h => lcA_can l _ (can_trim _)
theorem lc_eq {a E L N : Nat} {R : Tbl} (hN : N ≤ 3) (h : SqE a E L N R) : lcF R N = crF N R := by
  refine pc_inj (lcA_can _ _ can_nil) (crF_can _ _) ?_
  match N, hN, h with
  | 0, _, h =>
    rw [cr0]
    unfold lcF
    rw [show ordN 0 = [([], 1)] from rfl]
    simp only [lcA, List.foldl_cons, List.foldl_nil, prF, pc_add, pc_nil, pcI1]; grind
  | 1, _, h =>
    obtain ⟨x, rfl⟩ := sq1 h
    rw [cr1]
    unfold lcF
    rw [show ordN 1 = [([0], 1)] by decide]
    simp only [lcA, List.foldl_cons, List.foldl_nil, prF, pc_add, pc_mul, pc_nil, pcI1, List.getD_cons_zero, List.getD_cons_succ]; grind
  | 2, _, h =>
    obtain ⟨x, y, z, w, rfl⟩ := sq2 h
    rw [cr2]
    unfold lcF
    rw [show ordN 2 = [([1, 0], -1), ([0, 1], 1)] by decide]
    simp only [lcA, List.foldl_cons, List.foldl_nil, prF, pc_add, pc_mul, pc_nil, pcI1, pcIm, List.getD_cons_zero, List.getD_cons_succ]; grind
  | 3, _, h =>
    obtain ⟨a, b, c, d, e, f, g, h, i, rfl⟩ := sq3 h
    rw [cr3]
    unfold lcF
    rw [show ordN 3 = [([2, 1, 0], -1), ([1, 2, 0], 1), ([1, 0, 2], -1), ([2, 0, 1], 1), ([0, 2, 1], -1), ([0, 1, 2], 1)] by decide]
    simp only [lcA, List.foldl_cons, List.foldl_nil, prF, pc_add, pc_mul, pc_nil, pcI1, pcIm, List.getD_cons_zero, List.getD_cons_succ]; grind
theorem dot2 (k : Nat) (x y : List Rat) (r s : List (List Rat)) : pc (dotF k [] ([x, y].zip [r, s])) = pc x * pc (r.getD k []) + pc y * pc (s.getD k []) := by
  rw [pc_dot, pc_nil]
  show 0 + (pc x * pc (r.getD k []) + (pc y * pc (s.getD k []) + 0)) = _
  grind
theorem dot1 (k : Nat) (x : List Rat) (r : List (List Rat)) : pc (dotF k [] ([x].zip [r])) = pc x * pc (r.getD k []) := by
  rw [pc_dot, pc_nil]
  show 0 + (pc x * pc (r.getD k []) + 0) = _
  grind
theorem dot3 (k : Nat) (x y z : List Rat) (r s t : List (List Rat)) : pc (dotF k [] ([x, y, z].zip [r, s, t])) = pc x * pc (r.getD k []) + pc y * pc (s.getD k []) + pc z * pc (t.getD k []) := by
  rw [pc_dot, pc_nil]
  show 0 + (pc x * pc (r.getD k []) + (pc y * pc (s.getD k []) + (pc z * pc (t.getD k []) + 0))) = _
  grind
theorem cr_mul {a E L a2 E2 L2 N : Nat} {R S : Tbl} (hN : N ≤ 3) (h : SqE a E L N R) (g : SqE a2 E2 L2 N S) : pc (crF N (tmul R S N)) = pc (crF N R) * pc (crF N S) := by
  match N, hN, h, g with
  | 0, _, h, g => rw [cr0, cr0, cr0]; grind
  | 1, _, h, g =>
    obtain ⟨x, rfl⟩ := sq1 h
    obtain ⟨y, rfl⟩ := sq1 g
    rw [show tmul [[x]] [[y]] 1 = [[dotF 0 [] ([x].zip [[y]])]] from rfl, cr1, cr1, cr1, dot1]
    rfl
  | 2, _, h, g =>
    obtain ⟨x, y, z, w, rfl⟩ := sq2 h
    obtain ⟨x', y', z', w', rfl⟩ := sq2 g
    rw [show tmul [[x, y], [z, w]] [[x', y'], [z', w']] 2 = [[dotF 0 [] ([x, y].zip [[x', y'], [z', w']]), dotF 1 [] ([x, y].zip [[x', y'], [z', w']])], [dotF 0 [] ([z, w].zip [[x', y'], [z', w']]), dotF 1 [] ([z, w].zip [[x', y'], [z', w']])]] from rfl, cr2, cr2, cr2, dot2, dot2, dot2, dot2]
    simp only [List.getD_cons_zero, List.getD_cons_succ]
    grind
  | 3, _, h, g =>
    obtain ⟨a, b, c, d, e, f, g1, h1, i, rfl⟩ := sq3 h
    obtain ⟨a', b', c', d', e', f', g', h', i', rfl⟩ := sq3 g
    obtain ⟨S, hS⟩ : ∃ S, S = [[a', b', c'], [d', e', f'], [g', h', i']] := ⟨_, rfl⟩
    rw [← hS, show tmul [[a, b, c], [d, e, f], [g1, h1, i]] S 3 = [[dotF 0 [] ([a, b, c].zip S), dotF 1 [] ([a, b, c].zip S), dotF 2 [] ([a, b, c].zip S)], [dotF 0 [] ([d, e, f].zip S), dotF 1 [] ([d, e, f].zip S), dotF 2 [] ([d, e, f].zip S)], [dotF 0 [] ([g1, h1, i].zip S), dotF 1 [] ([g1, h1, i].zip S), dotF 2 [] ([g1, h1, i].zip S)]] from rfl, cr3, hS]
    simp only [dot3, cr3, List.getD_cons_zero, List.getD_cons_succ]
    grind
end K78
end Mn
end

section
set_option Elab.async false
set_option linter.all false
set_option maxRecDepth 100000
set_option autoImplicit false
namespace Mn
open PySem
namespace K78
variable {wf n : Nat} {m : Mu} {Q : D → Mu → Prop} {A : Nat → Prop}
theorem can_one : Can [(1 : Rat)] := by unfold Can; decide
theorem inv_ne {f : Rat} (hf : f ≠ 0) : 1 / f ≠ 0 := fun z => by
  have h : 1 / f * f = 1 := Rat.div_mul_cancel hf
  rw [z, Rat.zero_mul] at h
  exact absurd h (by decide)
theorem corner_ne {N : Nat} {R : Tbl} {q : Rat} (hq : crF N R = [q]) : q ≠ 0 := by
  have := crF_can N R
  rw [hq] at this
  unfold Can at this
  intro e0
  exact this (by rw [e0]; rfl)
theorem corner_inv {N : Nat} {R : Tbl} {q : Rat} (hq : crF N R = [q]) : cst (1 / q) * pc (crF N R) = 1 := by
  have q0 := corner_ne hq
  rw [hq, pc_cst]
  exact cst_inv (Rat.div_mul_cancel q0)
theorem bk_left {a E L N : Nat} {R : Tbl} {q : Rat} (hN : N ≤ 3) (h : SqE a E L N R) (hq : crF N R = [q]) : tmul (bkF N R (1 / q)) R N = unitR N := by
  have q0 := corner_ne hq
  have hu := inv_ne q0
  have hi := corner_inv hq
  clear hq
  generalize 1 / q = u at hu hi ⊢
  match N, hN, h, hi with
  | 0, _, h, hi => rfl
  | 1, _, h, hi =>
    obtain ⟨x, rfl⟩ := sq1 h
    rw [cr1] at hi
    rw [show tmul (bkF 1 [[x]] u) [[x]] 1 = [[dotF 0 [] ([scQ (sgP (crF 0 []) 0) u].zip [[x]])]] from rfl, show unitR 1 = [[[1]]] from rfl]
    congr 2
    refine pc_inj (can_dot _ _ _ can_nil) can_one ?_
    simp only [dot1, pc_sc _ hu, pc_sgP, s0, cr0, pc_one, List.getD_cons_zero]
    grind
  | 2, _, h, hi =>
    obtain ⟨a, b, c, d, rfl⟩ := sq2 h
    rw [cr2] at hi
    obtain ⟨R, hR⟩ : ∃ R, R = [[a, b], [c, d]] := ⟨_, rfl⟩
    have e1 : bkF 2 R u = [[scQ (sgP (crF 1 [[d]]) 0) u, scQ (sgP (crF 1 [[b]]) 1) u], [scQ (sgP (crF 1 [[c]]) 1) u, scQ (sgP (crF 1 [[a]]) 2) u]] := by rw [hR]; rfl
    rw [← hR, e1, show tmul [[scQ (sgP (crF 1 [[d]]) 0) u, scQ (sgP (crF 1 [[b]]) 1) u], [scQ (sgP (crF 1 [[c]]) 1) u, scQ (sgP (crF 1 [[a]]) 2) u]] R 2 =
      [[dotF 0 [] ([scQ (sgP (crF 1 [[d]]) 0) u, scQ (sgP (crF 1 [[b]]) 1) u].zip R), dotF 1 [] ([scQ (sgP (crF 1 [[d]]) 0) u, scQ (sgP (crF 1 [[b]]) 1) u].zip R)], [dotF 0 [] ([scQ (sgP (crF 1 [[c]]) 1) u, scQ (sgP (crF 1 [[a]]) 2) u].zip R), dotF 1 [] ([scQ (sgP (crF 1 [[c]]) 1) u, scQ (sgP (crF 1 [[a]]) 2) u].zip R)]] from rfl,
      show unitR 2 = [[[1], []], [[], [1]]] from rfl, hR]
    simp only [List.cons.injEq, and_true]
    refine ⟨⟨pc_inj (can_dot _ _ _ can_nil) can_one ?_, pc_inj (can_dot _ _ _ can_nil) can_nil ?_⟩, pc_inj (can_dot _ _ _ can_nil) can_nil ?_, pc_inj (can_dot _ _ _ can_nil) can_one ?_⟩ <;>
      (simp only [dot2, pc_sc _ hu, pc_sgP, s0, s1, s2, cr1, pc_one, pc_nil, List.getD_cons_zero, List.getD_cons_succ]; grind)
  | 3, _, h, hi =>
    obtain ⟨a, b, c, d, e, f, g, j, i, rfl⟩ := sq3 h
    rw [cr3] at hi
    obtain ⟨R, hR⟩ : ∃ R, R = [[a, b, c], [d, e, f], [g, j, i]] := ⟨_, rfl⟩
    obtain ⟨x0, hx0⟩ : ∃ x, x = [scQ (sgP (crF 2 [[e, f], [j, i]]) 0) u, scQ (sgP (crF 2 [[b, c], [j, i]]) 1) u, scQ (sgP (crF 2 [[b, c], [e, f]]) 2) u] := ⟨_, rfl⟩
    obtain ⟨x1, hx1⟩ : ∃ x, x = [scQ (sgP (crF 2 [[d, f], [g, i]]) 1) u, scQ (sgP (crF 2 [[a, c], [g, i]]) 2) u, scQ (sgP (crF 2 [[a, c], [d, f]]) 3) u] := ⟨_, rfl⟩
    obtain ⟨x2, hx2⟩ : ∃ x, x = [scQ (sgP (crF 2 [[d, e], [g, j]]) 2) u, scQ (sgP (crF 2 [[a, b], [g, j]]) 3) u, scQ (sgP (crF 2 [[a, b], [d, e]]) 4) u] := ⟨_, rfl⟩
    have e1 : bkF 3 R u = [x0, x1, x2] := by rw [hR, hx0, hx1, hx2]; rfl
    rw [← hR, e1, show tmul [x0, x1, x2] R 3 = [[dotF 0 [] (x0.zip R), dotF 1 [] (x0.zip R), dotF 2 [] (x0.zip R)], [dotF 0 [] (x1.zip R), dotF 1 [] (x1.zip R), dotF 2 [] (x1.zip R)], [dotF 0 [] (x2.zip R), dotF 1 [] (x2.zip R), dotF 2 [] (x2.zip R)]] from rfl,
      show unitR 3 = [[[1], [], []], [[], [1], []], [[], [], [1]]] from rfl, hR, hx0, hx1, hx2]
    simp only [List.cons.injEq, and_true]
    refine ⟨⟨pc_inj (can_dot _ _ _ can_nil) can_one ?_, pc_inj (can_dot _ _ _ can_nil) can_nil ?_, pc_inj (can_dot _ _ _ can_nil) can_nil ?_⟩, ⟨pc_inj (can_dot _ _ _ can_nil) can_nil ?_, pc_inj (can_dot _ _ _ can_nil) can_one ?_, pc_inj (can_dot _ _ _ can_nil) can_nil ?_⟩, pc_inj (can_dot _ _ _ can_nil) can_nil ?_, pc_inj (can_dot _ _ _ can_nil) can_nil ?_, pc_inj (can_dot _ _ _ can_nil) can_one ?_⟩ <;>
      (simp only [dot3, pc_sc _ hu, pc_sgP, s0, s1, s2, s3, s4, cr2, pc_one, pc_nil, List.getD_cons_zero, List.getD_cons_succ]; grind)
theorem bk_right {a E L N : Nat} {R : Tbl} {q : Rat} (hN : N ≤ 3) (h : SqE a E L N R) (hq : crF N R = [q]) : tmul R (bkF N R (1 / q)) N = unitR N := by
  have q0 := corner_ne hq
  have hu := inv_ne q0
  have hi := corner_inv hq
  clear hq
  generalize 1 / q = u at hu hi ⊢
  match N, hN, h, hi with
  | 0, _, h, hi => rw [sq0 h]; rfl
  | 1, _, h, hi =>
    obtain ⟨x, rfl⟩ := sq1 h
    rw [cr1] at hi
    rw [show tmul [[x]] (bkF 1 [[x]] u) 1 = [[dotF 0 [] ([x].zip [[scQ (sgP (crF 0 []) 0) u]])]] from rfl, show unitR 1 = [[[1]]] from rfl]
    congr 2
    refine pc_inj (can_dot _ _ _ can_nil) can_one ?_
    simp only [dot1, pc_sc _ hu, pc_sgP, s0, cr0, pc_one, List.getD_cons_zero]
    grind
  | 2, _, h, hi =>
    obtain ⟨a, b, c, d, rfl⟩ := sq2 h
    rw [cr2] at hi
    obtain ⟨S, hS⟩ : ∃ S, S = [[scQ (sgP (crF 1 [[d]]) 0) u, scQ (sgP (crF 1 [[b]]) 1) u], [scQ (sgP (crF 1 [[c]]) 1) u, scQ (sgP (crF 1 [[a]]) 2) u]] := ⟨_, rfl⟩
    have e1 : bkF 2 [[a, b], [c, d]] u = S := by rw [hS]; rfl
    rw [e1, show tmul [[a, b], [c, d]] S 2 = [[dotF 0 [] ([a, b].zip S), dotF 1 [] ([a, b].zip S)], [dotF 0 [] ([c, d].zip S), dotF 1 [] ([c, d].zip S)]] from rfl,
      show unitR 2 = [[[1], []], [[], [1]]] from rfl, hS]
    simp only [List.cons.injEq, and_true]
    refine ⟨⟨pc_inj (can_dot _ _ _ can_nil) can_one ?_, pc_inj (can_dot _ _ _ can_nil) can_nil ?_⟩, pc_inj (can_dot _ _ _ can_nil) can_nil ?_, pc_inj (can_dot _ _ _ can_nil) can_one ?_⟩ <;>
      (simp only [dot2, pc_sc _ hu, pc_sgP, s0, s1, s2, cr1, pc_one, pc_nil, List.getD_cons_zero, List.getD_cons_succ]; grind)
  | 3, _, h, hi =>
    obtain ⟨a, b, c, d, e, f, g, j, i, rfl⟩ := sq3 h
    rw [cr3] at hi
    obtain ⟨x0, hx0⟩ : ∃ x, x = [scQ (sgP (crF 2 [[e, f], [j, i]]) 0) u, scQ (sgP (crF 2 [[b, c], [j, i]]) 1) u, scQ (sgP (crF 2 [[b, c], [e, f]]) 2) u] := ⟨_, rfl⟩
    obtain ⟨x1, hx1⟩ : ∃ x, x = [scQ (sgP (crF 2 [[d, f], [g, i]]) 1) u, scQ (sgP (crF 2 [[a, c], [g, i]]) 2) u, scQ (sgP (crF 2 [[a, c], [d, f]]) 3) u] := ⟨_, rfl⟩
    obtain ⟨x2, hx2⟩ : ∃ x, x = [scQ (sgP (crF 2 [[d, e], [g, j]]) 2) u, scQ (sgP (crF 2 [[a, b], [g, j]]) 3) u, scQ (sgP (crF 2 [[a, b], [d, e]]) 4) u] := ⟨_, rfl⟩
    have e1 : bkF 3 [[a, b, c], [d, e, f], [g, j, i]] u = [x0, x1, x2] := by rw [hx0, hx1, hx2]; rfl
    rw [e1, show tmul [[a, b, c], [d, e, f], [g, j, i]] [x0, x1, x2] 3 = [[dotF 0 [] ([a, b, c].zip [x0, x1, x2]), dotF 1 [] ([a, b, c].zip [x0, x1, x2]), dotF 2 [] ([a, b, c].zip [x0, x1, x2])], [dotF 0 [] ([d, e, f].zip [x0, x1, x2]), dotF 1 [] ([d, e, f].zip [x0, x1, x2]), dotF 2 [] ([d, e, f].zip [x0, x1, x2])], [dotF 0 [] ([g, j, i].zip [x0, x1, x2]), dotF 1 [] ([g, j, i].zip [x0, x1, x2]), dotF 2 [] ([g, j, i].zip [x0, x1, x2])]] from rfl,
      show unitR 3 = [[[1], [], []], [[], [1], []], [[], [], [1]]] from rfl]
    simp only [List.cons.injEq, and_true]
    refine ⟨⟨pc_inj (can_dot _ _ _ can_nil) can_one ?_, pc_inj (can_dot _ _ _ can_nil) can_nil ?_, pc_inj (can_dot _ _ _ can_nil) can_nil ?_⟩, ⟨pc_inj (can_dot _ _ _ can_nil) can_nil ?_, pc_inj (can_dot _ _ _ can_nil) can_one ?_, pc_inj (can_dot _ _ _ can_nil) can_nil ?_⟩, pc_inj (can_dot _ _ _ can_nil) can_nil ?_, pc_inj (can_dot _ _ _ can_nil) can_nil ?_, pc_inj (can_dot _ _ _ can_nil) can_one ?_⟩ <;>
      (simp only [dot3, hx0, hx1, hx2, pc_sc _ hu, pc_sgP, s0, s1, s2, s3, s4, cr2, pc_one, pc_nil, List.getD_cons_zero, List.getD_cons_succ]; grind)
theorem SqE.tv {a e E L N : Nat} {R : Tbl} (h : SqE a E L N R) (hE : E ≤ 2 ^ e) (h0 : 0 < E) : TV a e L N R :=
  ⟨fun r hr => ⟨(h.2 r hr).1, fun p hp => ⟨((h.2 r hr).2 p hp).1, ((h.2 r hr).2 p hp).2.1⟩⟩, E, h0, hE, fun r hr p hp => ((h.2 r hr).2 p hp).2.2⟩
theorem bk_tv {a e E L s B N : Nat} {R : Tbl} {q : Rat} (z : SzC a e E L s B) (hN : N ≤ 3) (h : SqE a E L N R) (hq : crF N R = [q]) : TV (2 * (a + s + 2) + B) (2 * e + B) (2 * L + 1) N (bkF N R (1 / q)) := by
  have q0 := corner_ne hq
  have hu := inv_ne q0
  have bq : Bq B q := (crF_bq z hN h).1 q (by rw [hq]; simp)
  have hn0 : q.num ≠ 0 := fun z => q0 (Rat.num_eq_zero.mp z)
  have ou : Ov (2 ^ B) q.num.natAbs (1 / q) := by
    have e1 : (1 / q) * ((q.num : Int) : Rat) = ((q.den : Int) : Rat) := by
      rw [num_q q, ← Rat.mul_assoc, Rat.div_mul_cancel q0, Rat.one_mul]
    have hd : q.den ≤ 2 ^ B := by have := bq.2; unfold Bd at this; rw [Int.natAbs_natCast] at this; omega
    rcases Int.natAbs_eq q.num with e | e
    · refine ⟨q.den, ?_, by rw [Int.natAbs_natCast]; exact hd⟩
      rw [← e]; exact e1
    · refine ⟨-q.den, ?_, by rw [Int.natAbs_neg, Int.natAbs_natCast]; exact hd⟩
      have e2 : ((q.num.natAbs : Int) : Rat) = -((q.num : Int) : Rat) := by
        have : (q.num.natAbs : Int) = -q.num := by omega
        rw [this, Rat.intCast_neg]
      rw [e2, Rat.intCast_neg, ← e1]; grind
  refine ⟨fun r hr => ?_, E ^ (N - 1) * q.num.natAbs, Nat.mul_pos (Nat.pow_pos z.hE0) (by omega), ?_, fun r hr p hp i => ?_⟩
  · obtain ⟨c, hc, rfl⟩ := List.mem_map.mp hr
    refine ⟨by simp, fun p hp => ?_⟩
    obtain ⟨at_, ha, rfl⟩ := List.mem_map.mp hp
    have hc := List.mem_range.mp hc
    have ha := List.mem_range.mp ha
    refine ⟨can_scQ hu (sgP_can (crF_can _ _)), ?_⟩
    have := (crF_ov z.hL (N - 1) (by omega) (mnr_len h ha hc)).1
    have h2 := Nat.mul_le_mul_right L (show N - 1 ≤ 2 by omega)
    unfold scQ
    rw [if_neg hu, List.length_map, sgP_len]
    omega
  · rw [Nat.pow_add]
    refine Nat.mul_le_mul ?_ ?_
    · refine Nat.le_trans (Nat.pow_le_pow_left z.hE (N - 1)) ?_
      rw [← Nat.pow_mul]
      refine pw2 ?_
      rw [Nat.mul_comm]
      exact Nat.mul_le_mul_right _ (by omega)
    · have := bq.1; unfold Bd at this; omega
  · obtain ⟨c, hc, rfl⟩ := List.mem_map.mp hr
    obtain ⟨at_, ha, rfl⟩ := List.mem_map.mp hp
    have hc := List.mem_range.mp hc
    have ha := List.mem_range.mp ha
    have o := sgP_ov (k := at_ + c) (crF_ov z.hL (N - 1) (by omega) (mnr_len h ha hc)).2 i
    generalize sgP (crF (N - 1) (mnr at_ c R)) (at_ + c) = p at o
    have e1 : (scQ p (1 / q)).getD i 0 = p.getD i 0 * (1 / q) := by
      unfold scQ
      rw [if_neg hu, List.getD_eq_getElem?_getD, List.getD_eq_getElem?_getD, List.getElem?_map]
      cases p[i]? with
      | none => show (0 : Rat) = 0 * _; rw [Rat.zero_mul]
      | some x => rfl
    rw [e1, Nat.pow_add]
    refine (o.mul ou).mono (Nat.mul_le_mul_right _ (pw2 ?_))
    exact Nat.mul_le_mul_right _ (by omega)
end K78
end Mn
end

section
set_option Elab.async false
set_option linter.all false
set_option maxRecDepth 100000
set_option autoImplicit false
namespace Mn
open PySem
namespace K78
variable {wf n : Nat} {m : Mu} {Q : D → Mu → Prop} {A : Nat → Prop}
theorem z6 {E : Nat} (h : E ≤ 2 ^ 3) (h0 : 0 < E) : SzC 6 3 E 3 2 40 := ⟨by omega, h, h0, by omega, by omega, by omega, by omega, by omega⟩
theorem law_refused_ok (hw : Fu wf) (hn : 20 ≤ n) {a e E L s B N : Nat} {R : Tbl} {q : Rat} (z : SzC a e E L s B) (hN : N ≤ 3) (h : SqE a E L N R) (hq : crF N R = [q])
    (k : ∀ m', Kp nox m m' → Q (.tup [.str "told", tD N (bkF N R (1 / q))]) m') : (callN Pr wf n f__law_refused [tD N R] m).to Q := by
  refine call_of (fn := p__law_refused) rfl rfl (by omega) fun k' hk => ?_
  simp only [p__law_refused, ss_cons]
  simp
  refine s_tryOk ?_
  simp
  refine pback_ok hw (by omega) z hN h hq fun m' k1 => ?_
  simp [setO]
  exact k m' k1
theorem law_refused_rx (hw : Fu wf) (hn : 20 ≤ n) {a e E L s B N : Nat} {R : Tbl} (z : SzC a e E L s B) (hN : N ≤ 3) (h : SqE a E L N R) (hl : (crF N R).length ≠ 1)
    (k : ∀ m', Kp nox m m' → Q (.tup [.str "refused", pD (crF N R)]) m') : (callN Pr wf n f__law_refused [tD N R] m).to Q := by
  refine call_of (fn := p__law_refused) rfl rfl (by omega) fun k' hk => ?_
  simp only [p__law_refused, ss_cons]
  simp
  refine s_tryEx (rx_tup (rx_cons2 ?_))
  simp
  refine rx_cons1 (rx_call ?_)
  simp
  refine (pback_rx hw (by omega) z hN h hl (X := fun c fs m' => Kp nox m m' ∧ c = ("NoBack" : Str) ∧ fs = [(("corner" : Str), pD (crF N R))]) fun m' k1 => ⟨k1, rfl, rfl⟩).mono fun c fs m' hx => ?_
  obtain ⟨k1, rfl, rfl⟩ := hx
  simp [hval, uOk, unsetD]
  exact ⟨_, rfl, k m' k1⟩
theorem law_right_ok (hw : Fu wf) (hn : 22 ≤ n) {E N : Nat} {R : Tbl} (hE : E ≤ 2 ^ 3) (hE0 : 0 < E) (hN : N ≤ 3) (h : SqE 6 E 3 N R)
    (k : ∀ m', Kp nox m m' → Q (.bl true) m') : (callN Pr wf n f__law_right [tD N R] m).to Q := by
  refine call_of (fn := p__law_right) rfl rfl (by omega) fun k' hk => ?_
  have z := z6 hE hE0
  have tv := h.tv hE hE0
  have hR3 : R.length ≤ 3 := by rw [h.1]; exact hN
  have tT : ∀ m, Th noA 40 5 700000 m (tD N R) := fun m => th_tab tv (by omega) (by omega) (by omega) (by omega) hN hR3
  obtain ⟨cb, cl⟩ := crF_bq z hN h
  have hNL : N * 3 ≤ 9 := by omega
  have cP : ∀ m, Th noA 40 5 700000 m (pD (crF N R)) := fun m => (th_pD (k := 0) (⟨by omega, cb, crF_can _ _⟩ : Pl 40 10 (crF N R))).mono (Nat.le_refl _) (by omega) (by omega)
  have i0 : ∀ M, idxI (tD N R) (.int 0) M = some (.int (N : Int)) := fun M => rfl
  show (evSs (callN Pr wf k') wf (.cons _ (.cons _ (.cons _ (p__law_right.body.dr 3)))) [some (tD N R), none, none, none, none] m).to (fin Q)
  simp
  rw [rep_val (tT m) (by omega) (by omega) (by omega)]
  refine law_corner_ok hw (by omega) z hN h (by omega) fun m1 k1 => ?_
  rw [lc_eq hN h]
  refine pcorner_ok hw z N hN (by omega) h fun m2 k2 => ?_
  rw [rep_val (cP m2) (by omega) (by omega) (by omega), rep_val (cP m2) (by omega) (by omega) (by omega)]
  simp
  refine pcorner_ok hw z N hN (by omega) h fun m3 k3 => ?_
  rw [rep_val (cP m3) (by omega) (by omega) (by omega), rep_val (cP m3) (by omega) (by omega) (by omega)]
  simp
  rw [rep_val (tT m3) (by omega) (by omega) (by omega)]
  simp
  have kk : Kp nox m m3 := (k1.trans k2).trans k3
  generalize hks : (toP (tD N R)).shown = ks
  show (evSs (callN Pr wf k') wf (.cons _ (.cons _ (.cons _ (p__law_right.body.dr 6)))) [some (tD N R), some (.str ks), some (pD (crF N R)), none, none] m3).to (fin Q)
  by_cases hl : (crF N R).length = 1
  · obtain ⟨q, hq⟩ := List.length_eq_one_iff.mp hl
    have bt := bk_tv z hN h hq
    have lb : (bkF N R (1 / q)).length = N := by simp [bkF]
    have tB : ∀ m, Th noA 80 5 700000 m (tD N (bkF N R (1 / q))) := fun m => th_tab bt (by omega) (by omega) (by omega) (by omega) hN (by rw [lb]; exact hN)
    have tF : ∀ m, Th noA 80 6 710000 m (.tup [.str "told", tD N (bkF N R (1 / q))]) := fun m => (th_tup (ths_cons (th_str (W := 100) (by decide) (by decide)) (ths_one (tB m)))).mono (Nat.le_refl _) (by omega) (by omega)
    obtain ⟨bk, hbk⟩ : ∃ b, b = bkF N R (1 / q) := ⟨_, rfl⟩
    have hbt : tmul bk R N = unitR N := by rw [hbk]; exact bk_left hN h hq
    have htb : tmul R bk N = unitR N := by rw [hbk]; exact bk_right hN h hq
    rw [← hbk] at bt lb tB tF
    simp
    refine law_refused_ok hw (by omega) z hN h hq fun m4 k4 => ?_
    rw [← hbk]
    refine law_refused_ok hw (by omega) z hN h hq fun m5 k5 => ?_
    rw [← hbk]
    rw [rep_val (tF m5) (by omega) (by omega) (by omega), rep_val (tF m5) (by omega) (by omega) (by omega)]
    simp
    rw [rep_val (tT m5) (by omega) (by omega) (by omega), hks]
    simp [hl]
    have it : ∀ M : Mu, isiD .tuple (tD N bk) M = some true := fun _ => rfl
    have ln : ∀ M : Mu, ∀ Q, (bltD .len [tD N bk] M).to Q = Q (.int 2) M := fun _ _ => rfl
    simp [p__law_right, it, ln, i0]
    refine law_unit_ok (by omega) (by omega) fun m6 k6 => ?_
    have tvu := tv_unit N
    have n1 : ∀ {X : Tbl}, X.length = N → X ≠ [] → 1 ≤ N := fun hX h0 => by
      have := List.length_pos_iff.mpr h0
      omega
    have lu : (unitR N).length = N := by simp [unitR]
    refine law_tables_okV hw (by omega) bt tvu lu (by omega) (by omega) (by omega) (s := 5) (B := 80) (by omega) (by omega) (by omega) (by omega) (by omega) (.inr (by omega)) (n1 lb) fun m7 k7 => ?_
    rw [tmul_unit (bt.tb (B := 80) (h := 3) (by omega) (by omega) (by rw [lb]; exact hN))]
    rw [rep_val (tB m7) (by omega) (by omega) (by omega), rep_val (tB m7) (by omega) (by omega) (by omega)]
    simp
    have tU : ∀ m, Th noA 80 5 700000 m (tD N (unitR N)) := fun m => th_tab tvu (by omega) (by omega) (by omega) (by omega) hN (by rw [lu]; exact hN)
    have eu : ∀ m, eqC m (tD N (unitR N)) (tD N (unitR N)) = some true := fun m => eqD_self (tU m) (by omega) (pure_tD _ _)
    refine law_tables_okV hw (by omega) bt tv h.1 (by omega) (by omega) (by omega) (s := 5) (B := 80) (by omega) (by omega) (by omega) (by omega) (by omega) (.inr (by omega)) (n1 lb) fun m8 k8 => ?_
    rw [hbt, eu]
    simp
    refine law_tables_okV hw (by omega) tv bt lb (by omega) (by omega) (by omega) (s := 5) (B := 80) (by omega) (by omega) (by omega) (by omega) (by omega) (.inl (by omega)) (n1 h.1) fun m9 k9 => ?_
    rw [htb, eu]
    simp
    exact k m9 ((((((kk.trans k4).trans k5).trans k6).trans k7).trans k8).trans k9)
  · have tF : ∀ m, Th noA 80 6 710000 m (.tup [.str "refused", pD (crF N R)]) := fun m => (th_tup (ths_cons (th_str (W := 100) (by decide) (by decide)) (ths_one ((cP m).mono (by omega) (Nat.le_refl _) (Nat.le_refl _))))).mono (Nat.le_refl _) (by omega) (by omega)
    simp
    refine law_refused_rx hw (by omega) z hN h hl fun m4 k4 => ?_
    refine law_refused_rx hw (by omega) z hN h hl fun m5 k5 => ?_
    rw [rep_val (tF m5) (by omega) (by omega) (by omega), rep_val (tF m5) (by omega) (by omega) (by omega)]
    simp
    rw [rep_val (tT m5) (by omega) (by omega) (by omega), hks]
    have hl2 : ¬ ((crF N R).length : Int) = 1 := by omega
    simp [hl]
    rw [rep_val (tF m5) (by omega) (by omega) (by omega)]
    rw [decide_eq_false hl2]
    simp
    rw [rep_val (tF m5) (by omega) (by omega) (by omega)]
    simp
    exact k m5 ((kk.trans k4).trans k5)
end K78
end Mn
end

section
set_option Elab.async false
set_option linter.all false
set_option maxRecDepth 100000
set_option autoImplicit false
namespace Mn
open PySem
namespace K78
variable {wf n : Nat} {m : Mu} {Q : D → Mu → Prop} {A : Nat → Prop}
theorem insD_at {l i : Nat} {ds : List D} {v : D} (h : m[l]? = some (.lst ds)) (hs : ds.length ≤ 1000000) (hi : i ≤ 1000000) (q : Q .non (m.set l (.lst (ds.take i ++ [v] ++ ds.drop i)))) : (insD (.loc l) (.int (i : Int)) v m).to Q := by
  unfold insD
  simp only [h]
  rw [if_pos (by rw [sz_ok hs, decide_eq_true (show (0 : Int) ≤ (i : Int) by omega), bound_ok hi]; rfl)]
  simp only [Int.toNat_natCast, to_ok]
  exact q
/-- the polys of a row behind the way down -/
theorem wb_polys (hw : Fu wf) (hn : 5 ≤ n) {f B N j deg most lb : Nat} {bs : List Int} {v2 v4 v5 v9 v10 : Option D} (hD : ∀ b ∈ bs, ∃ c : Nat, ((2 : Nat) : Int) = b * c ∧ most * c ≤ 6) (hf : Feed f (B + 20 * (N - j - 1)) m) (hlb : m[lb]? = some (.lst (bs.map D.int))) (hb0 : bs ≠ []) (hbs : ∀ b ∈ bs, 0 < b ∧ b < 128) (hbl : bs.length ≤ 100) (hd : deg ≤ 2) (hmost : most ≤ 99) (hN : N ≤ 3) (hj : j < N)
    (k : ∀ (l : Nat) (ps : List (List Rat)) m', m'[l]? = some (.lst (ps.map pD)) → ps.length = N - j - 1 → (∀ p ∈ ps, PlD 6 2 3 p) → m.length ≤ l → Kp (· = f) m m' → Feed f B m' → Q (.loc l) m') :
    (evE (callN Pr wf n) (.comp (.rng1 (.op .sub (.op .sub (.var 1) (.var 3)) (.con (.int 1)))) [9] [9] none (.call f__law_poly (.cons (.var 0) (.cons (.var 6) (.cons (.var 7) (.cons (.var 8) .nil)))))) [some (.loc f), some (.int N), v2, some (.int j), v4, v5, some (.int deg), some (.int most), some (.loc lb), v9, v10] m).to Q := by
  have hfl := feed_lt hf
  obtain ⟨C, hC⟩ : ∃ C, C = N - j - 1 := ⟨_, rfl⟩
  have e1 : (N : Int) - (j : Int) - 1 = (C : Int) := by omega
  have hb := bound_ok (show C ≤ 1000000 by omega)
  rw [← hC] at hf k
  refine ev_compI (· = f) (fun i m2 => Kp (· = f) m m2 ∧ Feed f (B + 20 * (C - i)) m2) m.length (rngD C) (fun _ _ y => ∃ p, y = pD p ∧ PlD 6 2 3 p) (fun l hl => by omega) (fun i m2 c h => ⟨h.1.trans .new, h.2.new⟩) ?_ (fun i m2 h => h.1.1) (by simp [rngD]; omega) ?_ ?_ ?_
  · intro i m2 l ys y hlt h hl hm2 hlen hP
    refine ⟨h.1.set (.inl hl), h.2.setN hm2 fun d hd i e => ?_⟩
    subst e
    obtain ⟨j, hj, e⟩ := List.mem_iff_getElem.mp hd
    obtain ⟨p, e2, _⟩ := hP j _ _ (List.getElem?_eq_getElem (show j < (rngD C).length by omega)) (List.getElem?_eq_getElem hj)
    rw [e] at e2
    cases e2
  · simp [e1, hb]
    exact ⟨by simp [rngD], ⟨.refl, hf⟩, fun i m2 _ _ => gives_rng _ _⟩
  · intro i d m2 hd h
    obtain ⟨hi, rfl⟩ := rngD_at hd
    refine ⟨[some (.loc f), some (.int N), v2, some (.int j), v4, v5, some (.int deg), some (.int most), some (.loc lb), some (.int i), v10], rfl, ?_⟩
    simp
    refine poly_okD (hD := hD) (hA := by omega) (B := B + 20 * (C - (i + 1))) hw (by omega) (h.2.mono (by omega)) (h.1.at_ hlb (hf.ne hlb)) hb0 hbs hbl (by omega) hmost fun p m3 lp bp cp k3 f3 => ?_
    exact ⟨⟨p, rfl, by omega, bp, cp⟩, ⟨h.1.trans k3, f3⟩, k3⟩
  · intro l ys m' h hl hm' hlen hP
    obtain ⟨r, rfl, h2, h3⟩ := polys_ofD hlen hP
    have e : (rngD C).length = C := by simp [rngD]
    rw [e] at h2 h
    exact k l r m' hm' h2 h3 hl h.1 (h.2.mono (by omega))
theorem d111 : ∀ b ∈ ([1] : List Int), ∃ c : Nat, ((2 : Nat) : Int) = b * c ∧ 1 * c ≤ 6 := by
  intro b hb
  rw [List.mem_singleton.mp hb]
  exact ⟨2, by omega, by omega⟩
theorem d112 : ∀ b ∈ ([1, 1, 2] : List Int), ∃ c : Nat, ((2 : Nat) : Int) = b * c ∧ 3 * c ≤ 6 := by
  intro b hb
  simp at hb
  rcases hb with rfl | rfl
  · exact ⟨2, by omega, by omega⟩
  · exact ⟨1, by omega, by omega⟩
/-- what an entry is ahead of the factor -/
def Ent (p : List Rat) : Prop := Can p ∧ p.length ≤ 3 ∧ (∀ x ∈ p, Bq 7 x) ∧ ∀ i, Ov 6 2 (p.getD i 0)
theorem ent_pl {p : List Rat} (h : PlD 6 2 3 p) : Ent p := ⟨h.2.2, h.1, fun x hx => (h.2.1 x hx).1, h.od⟩
theorem ent_nil : Ent [] := ⟨can_nil, by simp, (fun x hx => by cases hx), fun i => Ov.zero.mono (Nat.zero_le _)⟩
theorem ent_one : Ent [1] := ⟨can_one, by simp, fun x hx => by rw [List.mem_singleton.mp hx]; exact Bq.mono (b := 1) ⟨by unfold Bd; decide, by unfold Bd; decide⟩ (by omega), fun i => by
  cases i with
  | zero => exact ⟨2, by show (1 : Rat) * _ = _; rw [Rat.one_mul]; rfl, by decide⟩
  | succ i => exact Ov.zero.mono (Nat.zero_le _)⟩
theorem with_back_ok (hw : Fu wf) (hn : 6 ≤ n) {f B N : Nat} (hf : Feed f (B + 100 * N) m) (hN : N ≤ 3) (k : ∀ R m', SqE 6 2 3 N R → Kp (· = f) m m' → Feed f B m' → Q (tD N R) m') :
    (callN Pr wf n f__law_with_back [.loc f, .int N] m).to Q := by
  refine call_of (fn := p__law_with_back) rfl rfl (by omega) fun k' hk => ?_
  have hb := bound_ok (show N ≤ 1000000 by omega)
  simp [p__law_with_back, to_newL, s_forE, hb]
  have hfl := feed_lt hf
  obtain ⟨I, hI⟩ : ∃ I : Nat → Sl → Mu → Prop, I = (fun i σ m' => Kp (· = f) m m' ∧ Feed f (B + 100 * (N - i)) m' ∧ ∃ R : Tbl, m'[m.length]? = some (.lst (R.map rD)) ∧ R.length = i ∧ (∀ r ∈ R, r.length = N ∧ ∀ p ∈ r, Can p ∧ p.length ≤ 3 ∧ ∀ i, Ov (2 ^ 6) 2 (p.getD i 0)) ∧ ∃ x3 x4 x5 x6 x7 x8 x9 x10, σ = [some (.loc f), some (.int N), some (.loc m.length), x3, x4, x5, x6, x7, x8, x9, x10]) := ⟨_, rfl⟩
  refine ft_of (rngD N) I (by simp [rngD]) (by rw [hI]; exact ⟨.new, hf.new, [], at_new, rfl, (fun r hr => by cases hr), _, _, _, _, _, _, _, _, rfl⟩) (fun _ _ m _ => gives_rng _ m) ?_ ?_
  · intro j d σ m' hd h
    rw [hI] at h
    obtain ⟨k1, f1, R, hR, hl, hT, x3, x4, x5, x6, x7, x8, x9, x10, rfl⟩ := h
    obtain ⟨hj, rfl⟩ := rngD_at hd
    have nf : m.length ≠ f := by omega
    refine ⟨[some (.loc f), some (.int N), some (.loc m.length), some (.int j), x4, x5, x6, x7, x8, x9, x10], rfl, ?_⟩
    obtain ⟨C, hC⟩ : ∃ C, C = B + 100 * (N - (j + 1)) := ⟨_, rfl⟩
    have f1 : Feed f (C + 100) m' := f1.mono (by omega)
    show (evSs (callN Pr wf k') wf (.cons _ (.cons _ (b__law_with_back_1.dr 2))) [some (.loc f), some (.int N), some (.loc m.length), some (.int j), x4, x5, x6, x7, x8, x9, x10] m').to _
    simp only [ss_cons, s_name, ev_op, ev_lst, evEs_cons, evEs_nil, ev_tup, ev_con, ev_var, to_newL]
    simp
    rw [op_mulL at_new, rep_one]
    refine ⟨⟨by omega, by omega, by simp⟩, sz_ok (by simp; omega), ?_⟩
    have c1 : (m' ++ [Cell.lst [D.tup []]] ++ [Cell.lst (List.replicate j (D.tup []))] ++ [Cell.lst [D.tup [D.tup [D.int 1, D.int 1]]]])[(m' ++ [Cell.lst [D.tup []]]).length]? = some (.lst (List.replicate j (D.tup []))) := by simp
    rw [op_addL c1 at_new]
    refine ⟨sz_ok (by simp; omega), ?_⟩
    have kM : Kp nox m' (m' ++ [Cell.lst [D.tup []]] ++ [Cell.lst (List.replicate j (D.tup []))] ++ [Cell.lst [D.tup [D.tup [D.int 1, D.int 1]]]] ++ [Cell.lst (List.replicate j (D.tup []) ++ [D.tup [D.tup [D.int 1, D.int 1]]])]) := ((Kp.new.trans .new).trans .new).trans .new
    have cM : (m' ++ [Cell.lst [D.tup []]] ++ [Cell.lst (List.replicate j (D.tup []))] ++ [Cell.lst [D.tup [D.tup [D.int 1, D.int 1]]]] ++ [Cell.lst (List.replicate j (D.tup []) ++ [D.tup [D.tup [D.int 1, D.int 1]]])])[(m' ++ [Cell.lst [D.tup []]] ++ [Cell.lst (List.replicate j (D.tup []))] ++ [Cell.lst [D.tup [D.tup [D.int 1, D.int 1]]]]).length]? = some (.lst (List.replicate j (D.tup []) ++ [D.tup [D.tup [D.int 1, D.int 1]]])) := at_new
    generalize (m' ++ [Cell.lst [D.tup []]] ++ [Cell.lst (List.replicate j (D.tup []))] ++ [Cell.lst [D.tup [D.tup [D.int 1, D.int 1]]]]).length = l4 at cM ⊢
    generalize (m' ++ [Cell.lst [D.tup []]] ++ [Cell.lst (List.replicate j (D.tup []))] ++ [Cell.lst [D.tup [D.tup [D.int 1, D.int 1]]]] ++ [Cell.lst (List.replicate j (D.tup []) ++ [D.tup [D.tup [D.int 1, D.int 1]]])]) = M1 at kM cM ⊢
    have e4 : List.replicate j (D.tup []) ++ [D.tup [D.tup [D.int 1, D.int 1]]] = (List.replicate j ([] : List Rat) ++ [[1]]).map pD := by
      rw [List.map_append, List.map_replicate]; rfl
    rw [e4] at cM
    generalize hh0 : (List.replicate j ([] : List Rat) ++ [[1]]) = h0 at cM
    have h0l : h0.length = j + 1 := by rw [← hh0]; simp
    have h0e : ∀ p ∈ h0, Ent p := by
      rw [← hh0]
      intro p hp
      rcases List.mem_append.mp hp with hp | hp
      · rw [List.eq_of_mem_replicate hp]; exact ent_nil
      · rw [List.mem_singleton.mp hp]; exact ent_one
    have g1 : Feed f (C + 100) M1 := f1.keep kM
    -- the second row: what is drawn
    have tail : ∀ (Q0 : Sl ⊕ D → Mu → Prop) (M : Mu) (deg most lb : Nat) (bs : List Int), Kp nox M1 M → (∀ b ∈ bs, ∃ c : Nat, ((2 : Nat) : Int) = b * c ∧ most * c ≤ 6) → M[lb]? = some (.lst (bs.map D.int)) → bs ≠ [] → (∀ b ∈ bs, 0 < b ∧ b < 128) → bs.length ≤ 100 → deg ≤ 2 → most ≤ 99 →
        (evSs (callN Pr wf k') wf (b__law_with_back_1.dr 2) [some (.loc f), some (.int N), some (.loc m.length), some (.int j), some (.loc l4), x5, some (.int deg), some (.int most), some (.loc lb), x9, x10] M).to (nxt (fun σ' m' => I (j + 1) σ' m') Q0) := by
      intro Q0 M deg most lb bs kM1 hD hlb hb0 hbs hbl hd hmost
      have g2 : Feed f (C + 100) M := g1.keep kM1
      have cM1 := kM1.at_ cM id
      show (evSs (callN Pr wf k') wf (.cons _ (b__law_with_back_1.dr 3)) _ M).to _
      simp only [ss_cons, s_name, ev_op, ev_var]
      simp only [List.getElem?_cons_succ, List.getElem?_cons_zero, Option.some.injEq, exists_eq_left']
      refine wb_polys hw (by omega) (B := C + 30) hD (g2.mono (by omega)) hlb hb0 hbs hbl hd hmost hN hj fun l ps M2 hl2 lps hps hlM k2 g3 => ?_
      have l4f : l4 ≠ f := g2.ne cM1
      have cM2 := k2.at_ cM1 l4f
      rw [op_addL cM2 hl2]
      refine ⟨sz_ok (by simp; omega), ?_⟩
      rw [← List.map_append]
      generalize hrow : h0 ++ ps = row
      have rowl : row.length = N := by rw [← hrow, List.length_append]; omega
      have rowe : ∀ p ∈ row, Ent p := by
        rw [← hrow]
        intro p hp
        rcases List.mem_append.mp hp with hp | hp
        · exact h0e p hp
        · exact ent_pl (hps p hp)
      have cr : (M2 ++ [Cell.lst (row.map pD)])[M2.length]? = some (.lst (row.map pD)) := at_new
      have k3 : Kp (· = f) M (M2 ++ [Cell.lst (row.map pD)]) := k2.trans .new
      have g4 : Feed f (C + 30) (M2 ++ [Cell.lst (row.map pD)]) := g3.new
      generalize M2.length = lr at cr ⊢
      generalize (M2 ++ [Cell.lst (row.map pD)]) = M3 at cr k3 g4 ⊢
      show (evSs (callN Pr wf k') wf (.cons _ (.cons _ .nil)) _ M3).to _
      simp [to_newL]
      refine of_ok (B := C + 20) (by omega) (g4.new.mono (by omega)) (at_new (c := Cell.lst [D.int 1, D.int (-1), D.int 2, D.int 3])) (by simp) (by simp) fun i d M4 hd4 k4 g5 => ?_
      obtain ⟨by_, hby, bb⟩ : ∃ b : Int, d = .int b ∧ (b = 1 ∨ b = -1 ∨ b = 2 ∨ b = 3) := by
        have hm := List.mem_of_getElem? hd4
        simp only [List.mem_cons, List.not_mem_nil, or_false] at hm
        rcases hm with rfl | rfl | rfl | rfl
        · exact ⟨1, rfl, by omega⟩
        · exact ⟨-1, rfl, by omega⟩
        · exact ⟨2, rfl, by omega⟩
        · exact ⟨3, rfl, by omega⟩
      subst hby
      have kx : Kp (· = f) m' M4 := ((kM.trans kM1).of.trans k3).trans (Kp.new.trans k4)
      have hx := kx.at_ hR nf
      have fby : (.tup [.tup [.int by_, .int 1]] : D) = pD [(by_ : Rat)] := by rcases bb with rfl | rfl | rfl | rfl <;> rfl
      have bby : Bq 7 (by_ : Rat) := by rcases bb with rfl | rfl | rfl | rfl <;> exact ⟨by unfold Bd; decide, by unfold Bd; decide⟩
      have oby : Ov 3 1 (by_ : Rat) := ⟨by_, by show (by_ : Rat) * 1 = _; rw [Rat.mul_one], by rcases bb with rfl | rfl | rfl | rfl <;> decide⟩
      have cr4 := (Kp.new (x := (· = f)) (m := M3) (c := [Cell.lst [D.int 1, D.int (-1), D.int 2, D.int 3]])).trans k4 |>.at_ cr (g4.ne cr)
      refine ⟨isL_at hx, ?_⟩
      refine draw_ok (B := C) (by omega) (g5.mono (by omega)) (by omega) (bd_small (by omega) (by omega)) fun d5 M5 q0 q1 k5 g6 => ?_
      obtain ⟨t, rfl⟩ : ∃ t : Nat, d5 = t := ⟨d5.toNat, by omega⟩
      have cr5 := k5.at_ cr4 (g5.ne cr4)
      rw [fby]
      refine ev_compM row pD (fun p => pD (mulC p [(by_ : Rat)])) (by omega) ?_ ?_ ?_
      · simp
        rw [srcOf_loc (listAt_lst cr5)]
        simp
        exact ⟨.refl, fun m2 k2 => gives_dy (listAt_lst (k2.at_ cr5 id))⟩
      · intro p m2 hp k6
        refine ⟨[some (.loc f), some (.int N), some (.loc m.length), some (.int j), some (.loc lr), some (pD [(by_ : Rat)]), some (.int deg), some (.int most), some (.loc lb), x9, some (pD p)], rfl, ?_⟩
        obtain ⟨q1, q2, q3, q4⟩ := rowe p hp
        simp
        refine law_product_okW hw (by omega) (bp := fun _ => 7) (c := 7) (fun i s h => q3 s (List.mem_of_getElem? h)) (by intro x hx; rw [List.mem_singleton.mp hx]; exact bby) ?_ (by omega) (by simp) fun m3 k3 => ⟨rfl, k3⟩
        intro i
        show 4 + wv _ 7 1 _ i ≤ 4000
        rw [wv_one]
        split <;> omega
      · intro l2 m2 k6 hl2 hm2
        rw [blt_tupL (listAt_lst hm2)]
        refine ⟨sz_ok (by simp; omega), ?_⟩
        have hx2 := k6.at_ (k5.at_ hx nf) id
        refine insD_at hx2 (by simp; omega) (by omega) ?_
        rw [hI]
        have er : (R.map rD).take t ++ [D.tup (row.map fun p => pD (mulC p [(by_ : Rat)]))] ++ (R.map rD).drop t = (R.take t ++ [row.map fun p => mulC p [(by_ : Rat)]] ++ R.drop t).map rD := by
          rw [List.map_append, List.map_append, List.map_take, List.map_drop]
          congr 2
          show [_] = [D.tup _]
          rw [List.map_map]; rfl
        refine ⟨(k1.trans ((kx.trans k5).trans k6.of)).set (.inl (Nat.le_refl _)), by rw [← hC]; exact (g6.keep k6).setN hx2 (ni_rD R), R.take t ++ [row.map fun p => mulC p [(by_ : Rat)]] ++ R.drop t, by rw [set_at hx2, er], ?_, ?_, _, _, _, _, _, _, _, _, rfl⟩
        · rw [List.length_append, List.length_append, List.length_take, List.length_drop]
          simp; omega
        · intro r hr
          rcases List.mem_append.mp hr with hr | hr
          · rcases List.mem_append.mp hr with hr | hr
            · exact hT r (List.mem_of_mem_take hr)
            · rw [List.mem_singleton.mp hr]
              refine ⟨by rw [List.length_map]; exact rowl, fun p hp => ?_⟩
              obtain ⟨p0, hp0, rfl⟩ := List.mem_map.mp hp
              obtain ⟨q1, q2, q3, q4⟩ := rowe p0 hp0
              refine ⟨can_mulC _ _, ?_, fun i => ?_⟩
              · have := mulC_len2 (p := p0) (q := [(by_ : Rat)])
                simp at this; omega
              · rw [mul1_getD]
                exact (oby.mul (q4 i)).mono (by omega)
          · exact hT r (List.mem_of_mem_drop hr)
    simp [to_newL]
    have at_ : ∀ i c, [Cell.lst [D.int 1, D.int 1, D.int 2], Cell.lst [D.int 1], Cell.lst [D.tup [D.int 2, D.int 3, D.loc M1.length], D.tup [D.int 1, D.int 1, D.loc (M1.length + 1)]]][i]? = some c → (M1 ++ [Cell.lst [D.int 1, D.int 1, D.int 2], Cell.lst [D.int 1], Cell.lst [D.tup [D.int 2, D.int 3, D.loc M1.length], D.tup [D.int 1, D.int 1, D.loc (M1.length + 1)]]])[M1.length + i]? = some c := fun i c h => by
      rw [List.getElem?_append_right (by omega), Nat.add_sub_cancel_left]; exact h
    have kMM : Kp nox M1 (M1 ++ [Cell.lst [D.int 1, D.int 1, D.int 2], Cell.lst [D.int 1], Cell.lst [D.tup [D.int 2, D.int 3, D.loc M1.length], D.tup [D.int 1, D.int 1, D.loc (M1.length + 1)]]]) := .new
    have c0 := at_ 0 _ rfl
    have c1 := at_ 1 _ rfl
    have c2 := at_ 2 _ rfl
    generalize (M1 ++ [Cell.lst [D.int 1, D.int 1, D.int 2], Cell.lst [D.int 1], Cell.lst [D.tup [D.int 2, D.int 3, D.loc M1.length], D.tup [D.int 1, D.int 1, D.loc (M1.length + 1)]]]) = MM at kMM c0 c1 c2 ⊢
    split
    · refine ⟨D.tup [D.int 1, D.int 1, D.loc (M1.length + 1)], by rw [idx_loc (listAt_lst c2)]; rfl, ?_⟩
      simp only [seqAt_tup, ox_some]
      refine ⟨[some (.loc f), some (.int N), some (.loc m.length), some (.int j), some (.loc l4), x5, some (.int 1), some (.int 1), some (.loc (M1.length + 1)), x9, x10], rfl, ?_⟩
      exact tail _ MM 1 1 (M1.length + 1) [1] kMM d111 c1 (by simp) (by simp) (by simp) (by omega) (by omega)
    · refine ⟨D.tup [D.int 2, D.int 3, D.loc M1.length], by rw [idx_loc (listAt_lst c2)]; rfl, ?_⟩
      simp only [seqAt_tup, ox_some]
      refine ⟨[some (.loc f), some (.int N), some (.loc m.length), some (.int j), some (.loc l4), x5, some (.int 2), some (.int 3), some (.loc M1.length), x9, x10], rfl, ?_⟩
      exact tail _ MM 2 3 M1.length [1, 1, 2] kMM d112 c0 (by simp) (by simp) (by simp) (by omega) (by omega)
  · intro σ m' h
    rw [hI] at h
    obtain ⟨k1, f1, R, hR, hl, hT, x3, x4, x5, x6, x7, x8, x9, x10, rfl⟩ := h
    have e3 : (rngD N).length = N := by simp [rngD]
    rw [e3] at hl f1
    simp
    rw [blt_tupL (listAt_lst hR)]
    refine ⟨by simp; omega, ?_⟩
    exact k R m' ⟨hl, hT⟩ k1 (f1.mono (by omega))
end K78
end Mn
end

section
set_option Elab.async false
set_option linter.all false
set_option maxRecDepth 100000
set_option autoImplicit false
namespace Mn
open PySem
namespace K78
variable {wf n : Nat} {m : Mu} {Q : D → Mu → Prop} {A : Nat → Prop}
theorem mul_sq {E1 E2 N : Nat} {R S : Tbl} (h : SqE 6 E1 3 N R) (g : SqE 6 E2 3 N S) (hN : N ≤ 3) : SqE 16 (E1 * E2) 6 N (tmul R S N) := by
  refine ⟨by unfold tmul; rw [List.length_map]; exact h.1, fun r hr => ?_⟩
  obtain ⟨row, hrow, rfl⟩ := List.mem_map.mp hr
  refine ⟨by simp, fun p hp => ?_⟩
  obtain ⟨c, hc, rfl⟩ := List.mem_map.mp hp
  have hc := List.mem_range.mp hc
  have hr := h.2 row hrow
  have col : ∀ z ∈ row.zip S, (z.1.length ≤ 3 ∧ (∀ i, Ov (2 ^ 6) E1 (z.1.getD i 0))) ∧ (z.2.getD c []).length ≤ 3 ∧ ∀ i, Ov (2 ^ 6) E2 ((z.2.getD c []).getD i 0) := by
    intro z hz
    have a := List.of_mem_zip hz
    have r2 := g.2 z.2 a.2
    have m2 : z.2.getD c [] ∈ z.2 := by
      rw [List.getD_eq_getElem?_getD, List.getElem?_eq_getElem (by omega)]
      exact List.getElem_mem _
    exact ⟨(hr.2 z.1 a.1).2, (r2.2 _ m2).2⟩
  refine ⟨can_dot _ _ _ can_nil, ?_, fun i => ?_⟩
  · exact dot_len (c := c) (L1 := 3) (L2 := 3) (row.zip S) [] (fun z hz => ⟨(col z hz).1.1, (col z hz).2.1⟩) (by simp)
  · refine (dot_ov (c := c) (A1 := 2 ^ 6) (E1 := E1) (A2 := 2 ^ 6) (E2 := E2) (L1 := 3) (row.zip S) [] 0 (fun z hz => ⟨(col z hz).1.1, (col z hz).1.2, (col z hz).2.2⟩) (fun i => by
      rw [getD_out (by simp)]; exact Ov.zero.mono (Nat.zero_le _)) i).mono ?_
    have : (row.zip S).length ≤ 3 := by rw [List.length_zip, hr.1]; omega
    refine Nat.le_trans (Nat.mul_le_mul_right _ (show 0 + (row.zip S).length ≤ 3 by omega)) ?_
    decide
theorem ent2 {p : List Rat} {E : Nat} (h : Can p ∧ p.length ≤ 3 ∧ ∀ x ∈ p, Ov 1 E x) : Can p ∧ p.length ≤ 3 ∧ ∀ i, Ov (2 ^ 6) E (p.getD i 0) := by
  refine ⟨h.1, h.2.1, fun i => ?_⟩
  by_cases hi : i < p.length
  · have e := List.getElem?_eq_getElem hi
    rw [getD_at e]
    exact (h.2.2 _ (List.getElem_mem hi)).mono (by omega)
  · rw [getD_out (by omega)]; exact Ov.zero.mono (Nat.zero_le _)
def RE : Tbl := [[[1], []], [[], []]]
theorem sqE : SqE 6 1 3 2 RE := by
  have n0 : Can ([] : List Rat) ∧ ([] : List Rat).length ≤ 3 ∧ ∀ i, Ov (2 ^ 6) 1 (([] : List Rat).getD i 0) := ent2 ⟨can_nil, by simp, fun x hx => by cases hx⟩
  have n1 : Can [(1 : Rat)] ∧ [(1 : Rat)].length ≤ 3 ∧ ∀ i, Ov (2 ^ 6) 1 ([(1 : Rat)].getD i 0) := ent2 ⟨can_one, by simp, fun x hx => by rw [List.mem_singleton.mp hx]; exact ov11⟩
  refine ⟨rfl, ?_⟩
  simp only [RE, List.forall_mem_cons]
  refine ⟨⟨rfl, n1, n0, ?_⟩, ⟨rfl, n0, n0, ?_⟩, ?_⟩ <;> (intro x hx; cases hx)
def RF : Tbl := [[[]]]
theorem sqF : SqE 6 1 3 1 RF := by
  have n0 : Can ([] : List Rat) ∧ ([] : List Rat).length ≤ 3 ∧ ∀ i, Ov (2 ^ 6) 1 (([] : List Rat).getD i 0) := ent2 ⟨can_nil, by simp, fun x hx => by cases hx⟩
  refine ⟨rfl, ?_⟩
  simp only [RF, List.forall_mem_cons]
  refine ⟨⟨rfl, n0, ?_⟩, ?_⟩ <;> (intro x hx; cases hx)
/-- the corner of a product, by the program -/
theorem both_ok (hw : Fu wf) (hn : 16 ≤ n) {E1 E2 N : Nat} {X Y R S : Tbl} (hE1 : E1 ≤ 2 ^ 3) (h1 : 0 < E1) (hE2 : E2 ≤ 2 ^ 3) (h2 : 0 < E2) (hN : N ≤ 3) (h : SqE 6 E1 3 N X) (g : SqE 6 E2 3 N Y) (e : mulC (crF N R) (crF N S) = mulC (crF N X) (crF N Y))
    (k : ∀ m', Kp nox m m' → (∀ m'', Th noA 70 5 700000 m'' (pD (mulC (crF N R) (crF N S)))) → Q (pD (mulC (crF N R) (crF N S))) m') :
    (callN Pr wf n f_ptimes [tD N X, tD N Y] m).to fun d m' => (callN Pr wf n f_pcorner [d] m').to Q := by
  have d2 : dB 7 3 2 = 188 := by decide
  have tb1 := (h.tv hE1 h1).tb (B := 7) (h := 3) (by omega) (by omega) (by rw [h.1]; exact hN)
  have tb2 := (g.tv hE2 h2).tb (B := 7) (h := 3) (by omega) (by omega) (by rw [g.1]; exact hN)
  refine ptimes_ok hw (by omega) (N := 2) (by omega) (by omega) tb1 tb2 (by omega) (by omega) (by omega) (by rw [d2]; omega) (by omega) (by omega) fun m1 k1 => ?_
  have sq := mul_sq h g hN
  have hEE : E1 * E2 ≤ 2 ^ 6 := by
    have := Nat.mul_le_mul hE1 hE2
    omega
  have z : SzC 16 6 (E1 * E2) 6 3 70 := ⟨by omega, hEE, Nat.mul_pos h1 h2, by omega, by omega, by omega, by omega, by omega⟩
  have eq : crF N (tmul X Y N) = mulC (crF N R) (crF N S) := by
    rw [e]
    refine pc_inj (crF_can _ _) (can_mulC _ _) ?_
    rw [cr_mul hN h g, pc_mul]
  have cP : ∀ m'', Th noA 70 5 700000 m'' (pD (mulC (crF N R) (crF N S))) := by
    intro m''
    rw [← eq]
    obtain ⟨cb, cl⟩ := crF_bq z hN sq
    have := Nat.mul_le_mul_right 6 hN
    exact (th_pD (k := 0) (⟨by omega, cb, crF_can _ _⟩ : Pl 70 19 (crF N (tmul X Y N)))).mono (Nat.le_refl _) (by omega) (by omega)
  refine pcorner_ok hw z N hN (by omega) sq fun m2 k2 => ?_
  rw [eq]
  exact k m2 (k1.trans k2) cP
theorem end_ok (hw : Fu wf) (hn : 23 ≤ n) {E1 E2 N : Nat} {R S : Tbl} {x0 x2 x5 x6 : Option D} {f B : Nat} (hf : Feed f (B + 1) m) (hE1 : E1 ≤ 2 ^ 3) (h1 : 0 < E1) (hE2 : E2 ≤ 2 ^ 3) (h2 : 0 < E2) (hN : N ≤ 3) (h : SqE 6 E1 3 N R) (g : SqE 6 E2 3 N S) (q : ∀ m', Q (.bl true) m') :
    (evSs (callN Pr wf n) wf (p_law.body.dr 4) [x0, some (.loc f), x2, some (tD N R), some (tD N S), x5, x6] m).to (fin Q) := by
  show (evSs (callN Pr wf n) wf (.cons _ (p_law.body.dr 5)) _ m).to (fin Q)
  simp only [ss_cons, s_ite]
  simp
  refine law_right_ok hw (by omega) hE1 h1 hN h fun m1 k1 => ?_
  simp
  refine law_right_ok hw (by omega) hE2 h2 hN g fun m2 k2 => ?_
  simp
  show (evSs (callN Pr wf n) wf (.cons _ (p_law.body.dr 6)) _ m2).to (fin Q)
  have f2 : Feed f (B + 1) m2 := (hf.keep k1).keep k2
  have z1 := z6 hE1 h1
  have z2 := z6 hE2 h2
  obtain ⟨cb1, cl1⟩ := crF_bq z1 hN h
  obtain ⟨cb2, cl2⟩ := crF_bq z2 hN g
  have fin2 : ∀ (b : Nat) (X Y : Tbl) (F1 F2 : Nat) (M : Mu), M[b]? = some (.lst [tD N X, tD N Y]) → SqE 6 F1 3 N X → SqE 6 F2 3 N Y → F1 ≤ 2 ^ 3 → 0 < F1 → F2 ≤ 2 ^ 3 → 0 < F2 → mulC (crF N R) (crF N S) = mulC (crF N X) (crF N Y) →
      (evSs (callN Pr wf n) wf (p_law.body.dr 6) [x0, some (.loc f), x2, some (tD N R), some (tD N S), some (.loc b), x6] M).to (fin Q) := by
    intro b X Y F1 F2 M hb hX hY a1 a2 a3 a4 e
    show (evSs (callN Pr wf n) wf (.cons _ (.cons _ (p_law.body.dr 8))) _ M).to (fin Q)
    simp only [ss_cons, s_name, ev_call, evEs_cons, evEs_nil, ev_var]
    simp only [List.getElem?_cons_succ, List.getElem?_cons_zero, Option.some.injEq, exists_eq_left', nxt_l]
    refine law_corner_ok hw (by omega) z1 hN h (by omega) fun m3 k3 => ?_
    refine law_corner_ok hw (by omega) z2 hN g (by omega) fun m4 k4 => ?_
    rw [lc_eq hN h, lc_eq hN g]
    refine law_product_okW hw (by omega) (bp := fun _ => 40) (c := 40) (fun i s h => cb1 s (List.mem_of_getElem? h)) cb2 ?_ (by omega) (by omega) fun m5 k5 => ?_
    · intro t
      refine Nat.le_trans (Nat.add_le_add_left (wv_le _) _) ?_
      have := Nat.mul_le_mul_right (40 + 40 + 1) (show min (crF N R).length (t + 1) - (t + 1 - (crF N S).length) ≤ 10 by omega)
      omega
    have hb5 := (k3.trans (k4.trans k5)).at_ hb id
    have x0' : idxI (.loc b) (.int 0) m5 = some (tD N X) := by rw [idx_loc (listAt_lst hb5)]; rfl
    have x1' : ∀ M : Mu, M = m5 → idxI (.loc b) (.int 1) M = some (tD N Y) := fun M e => by rw [e, idx_loc (listAt_lst hb5)]; rfl
    simp
    refine ⟨_, x0', _, x1' _ rfl, ?_⟩
    refine both_ok hw (by omega) a1 a2 a3 a4 hN hX hY e fun m6 k6 cP => ?_
    rw [rep_val (cP m6) (by omega) (by omega) (by omega), rep_val (cP m6) (by omega) (by omega) (by omega)]
    simp [p_law]
    show (callN Pr wf n f__law_right [tD 2 RE] m6).to _
    refine law_right_ok hw (by omega) (by decide) (by decide) (by omega) sqE fun m7 k7 => ?_
    simp
    show (callN Pr wf n f__law_right [tD 1 RF] m7).to _
    exact law_right_ok hw (by omega) (by decide) (by decide) (by omega) sqF fun m8 k8 => q m8
  simp only [ss_cons, s_name, ev_stp, ev_lst, evEs_cons, evEs_nil, ev_var, to_newL, ev_idxI]
  simp
  have lf : m2.length ≠ f := by have := feed_lt f2; omega
  have c0 : (m2 ++ [Cell.lst [tD N R, tD N S], Cell.lst [D.int 1, D.int (-1)]])[m2.length]? = some (.lst [tD N R, tD N S]) := by simp
  have c1 : (m2 ++ [Cell.lst [tD N R, tD N S], Cell.lst [D.int 1, D.int (-1)]])[m2.length + 1]? = some (.lst [D.int 1, D.int (-1)]) := by
    rw [List.getElem?_append_right (by omega)]; simp
  have lf2 : m2.length + 1 ≠ f := by have := feed_lt f2; omega
  refine draw_ok (B := B) (by omega) (f2.new) (by omega) (bd_small (by omega) (by omega)) fun d m3 d0 d1 k3 f3 => ?_
  have c03 := k3.at_ c0 lf
  have c13 := k3.at_ c1 lf2
  rcases (show d = 0 ∨ d = 1 by omega) with rfl | rfl
  · refine ⟨.int 1, by rw [idx_loc (listAt_lst c13)]; rfl, ?_⟩
    have e : stpD (.loc m2.length) (.int 1) m3 = newL [tD N R, tD N S] m3 := by
      unfold stpD
      simp only
      rw [if_neg (by decide), if_pos trivial]
      simp only [listAt_lst c03]
    rw [e, to_newL]
    refine ⟨by simp, ?_⟩
    exact fin2 _ R S E1 E2 _ at_new h g hE1 h1 hE2 h2 rfl
  · refine ⟨.int (-1), by rw [idx_loc (listAt_lst c13)]; rfl, ?_⟩
    have e : stpD (.loc m2.length) (.int (-1)) m3 = newL [tD N S, tD N R] m3 := by
      unfold stpD
      simp only
      rw [if_pos trivial]
      unfold revD
      simp only [listAt_lst c03]
      rfl
    rw [e, to_newL]
    refine ⟨by simp, ?_⟩
    refine fin2 _ S R E2 E1 _ at_new g h hE2 h2 hE1 h1 ?_
    refine pc_inj (can_mulC _ _) (can_mulC _ _) ?_
    rw [pc_mul, pc_mul]; grind
theorem law_ok (hw : Fu wf) (hn : 26 ≤ n) {ns : List Int} {s : Nat} (hs : m[s]? = some (.frz (ns.map D.int))) (hl : ns.length ≤ 63) (q : ∀ m', Q (.bl true) m') : (callN Pr wf n f_law [.loc s] m).to Q := by
  refine call_of (fn := p_law) rfl rfl (by omega) fun k' hk => ?_
  show (evSs (callN Pr wf k') wf (.cons _ (.cons _ (.cons _ (.cons _ (p_law.body.dr 4))))) [some (.loc s), none, none, none, none, none, none] m).to (fin Q)
  simp
  refine feed_ok (by omega) (listAt_frz hs) hl fun f m1 f1 k1 hf => ?_
  simp [to_newL]
  refine of_ok (B := 10000) (by omega) (f1.new.mono (by omega)) (at_new (c := Cell.lst [D.int 2, D.int 2, D.int 1, D.int 3, D.int 2, D.int 0])) (by simp) (by simp) fun i d m3 hd k3 f3 => ?_
  obtain ⟨N, hdN, hN⟩ : ∃ c : Nat, d = .int c ∧ c ≤ 3 := by
    have hm := List.mem_of_getElem? hd
    simp only [List.mem_cons, List.not_mem_nil, or_false] at hm
    rcases hm with rfl | rfl | rfl | rfl | rfl | rfl
    · exact ⟨2, rfl, by omega⟩
    · exact ⟨2, rfl, by omega⟩
    · exact ⟨1, rfl, by omega⟩
    · exact ⟨3, rfl, by omega⟩
    · exact ⟨2, rfl, by omega⟩
    · exact ⟨0, rfl, by omega⟩
  subst hdN
  have tail : ∀ (R : Tbl) (m4 : Mu), SqE 6 6 3 N R → Feed f 5000 m4 → (callN Pr wf k' f__law_with_back [.loc f, .int N] m4).to fun d m => (evSs (callN Pr wf k') wf (p_law.body.dr 4) [some (.loc s), some (.loc f), some (.int N), some (tD N R), some d, none, none] m).to (fin Q) := by
    intro R m4 h f4
    refine with_back_ok hw (by omega) (B := 1000) (f4.mono (by omega)) hN fun S m5 g k5 f5 => ?_
    exact end_ok hw (by omega) (B := 100) (f5.mono (by omega)) (by omega) (by omega) (by omega) (by omega) hN h g q
  simp
  refine br_of (fun h0 => ?_) fun h0 => ?_
  · refine table_okD hw (by omega) (B := 5000) (f3.mono ?_) (by omega) (by omega) fun R m4 hR tR k4 f4 => ?_
    · have := Nat.mul_le_mul (show 20 * N + 10 ≤ 70 by omega) hN; omega
    refine tail R m4 ⟨hR, fun r hr => ⟨(tR.2 r hr).1, fun p hp => ⟨((tR.2 r hr).2 p hp).2.2, ((tR.2 r hr).2 p hp).1, fun i => (((tR.2 r hr).2 p hp).od i).mono (by omega)⟩⟩⟩ f4
  · have hN0 : N = 0 := by omega
    subst hN0
    exact tail [] m3 ⟨rfl, fun r hr => by cases hr⟩ (f3.mono (by omega))
theorem pure : ∀ ns : List Int, ns.length ≤ 63 → (∀ z ∈ ns, PySem.Builtin.Int.intBits z ≤ 1048576) → ∃ (wf : Nat) (m : Mu), callN Pr wf 60 f_law [.loc 0] [.frz (ns.map D.int)] = .ok (.bl true) m := by
  intro ns h _
  obtain ⟨d, m, e, q⟩ := (law_ok (wf := 2 ^ 5000) (n := 60) (s := 0) (m := [.frz (ns.map D.int)]) (Q := fun d _ => d = .bl true) (Nat.le_refl _) (by omega) rfl h fun _ => rfl).get
  exact ⟨_, m, by rw [e, q]⟩
end K78
end Mn
end

section
set_option Elab.async false
set_option linter.all false
set_option maxRecDepth 100000
set_option autoImplicit false
namespace Mn.K78
open PySem PySem.Spec PyProof.Rows L2
def topS (i : Nat) : Stmt := PySem.Challenge.pw_stepforms_k78_corners_of_polys.main.body.getD i (.Pass ⟨0, 0, 0, 0⟩)
theorem k_common_divisor : chkFn Sg p_common_divisor (topS 9) = true := by decide +kernel
theorem k_fraction_of : chkFn Sg p_fraction_of (topS 10) = true := by decide +kernel
theorem k_fraction_times : chkFn Sg p_fraction_times (topS 11) = true := by decide +kernel
theorem k_fraction_over : chkFn Sg p_fraction_over (topS 12) = true := by decide +kernel
theorem k_cut_off : chkFn Sg p_cut_off (topS 17) = true := by decide +kernel
theorem k_bottom_for : chkFn Sg p_bottom_for (topS 18) = true := by decide +kernel
theorem k_tops_by : chkFn Sg p_tops_by (topS 19) = true := by decide +kernel
theorem k_poly_made : chkFn Sg p_poly_made (topS 20) = true := by decide +kernel
theorem k_poly_sum : chkFn Sg p_poly_sum (topS 21) = true := by decide +kernel
theorem k_poly_times : chkFn Sg p_poly_times (topS 22) = true := by decide +kernel
theorem k_poly_scaled : chkFn Sg p_poly_scaled (topS 23) = true := by decide +kernel
theorem k_lead_turned : chkFn Sg p_lead_turned (topS 24) = true := by decide +kernel
theorem k_ptimes : chkFn Sg p_ptimes (topS 27) = true := by decide +kernel
theorem k_left_without : chkFn Sg p_left_without (topS 29) = true := by decide +kernel
theorem k_with_sign : chkFn Sg p_with_sign (topS 30) = true := by decide +kernel
theorem k_pcorner : chkFn Sg p_pcorner (topS 31) = true := by decide +kernel
theorem k_pback_of : chkFn Sg p_pback_of (topS 32) = true := by decide +kernel
theorem k__law_feed : chkFn Sg p__law_feed (topS 34) = true := by decide +kernel
theorem k__law_draw : chkFn Sg p__law_draw (topS 35) = true := by decide +kernel
theorem k__law_of : chkFn Sg p__law_of (topS 36) = true := by decide +kernel
theorem k__law_gcd : chkFn Sg p__law_gcd (topS 37) = true := by decide +kernel
theorem k__law_fraction : chkFn Sg p__law_fraction (topS 38) = true := by decide +kernel
theorem k__law_cut : chkFn Sg p__law_cut (topS 39) = true := by decide +kernel
theorem k__law_plus : chkFn Sg p__law_plus (topS 40) = true := by decide +kernel
theorem k__law_product : chkFn Sg p__law_product (topS 41) = true := by decide +kernel
theorem k__law_parts : chkFn Sg p__law_parts (topS 42) = true := by decide +kernel
theorem k__law_poly : chkFn Sg p__law_poly (topS 43) = true := by decide +kernel
theorem k__law_unit : chkFn Sg p__law_unit (topS 44) = true := by decide +kernel
theorem k__law_tables : chkFn Sg p__law_tables (topS 45) = true := by decide +kernel
theorem k__law_row : chkFn Sg p__law_row (topS 46) = true := by decide +kernel
theorem k__law_table : chkFn Sg p__law_table (topS 47) = true := by decide +kernel
theorem k__law_orders : chkFn Sg p__law_orders (topS 48) = true := by decide +kernel
theorem k__law_corner : chkFn Sg p__law_corner (topS 49) = true := by decide +kernel
theorem k__law_with_back : chkFn Sg p__law_with_back (topS 50) = true := by decide +kernel
theorem k__law_refused : chkFn Sg p__law_refused (topS 51) = true := by decide +kernel
theorem k__law_right : chkFn Sg p__law_right (topS 52) = true := by decide +kernel
theorem k_law : chkFn Sg p_law (topS 53) = true := by decide +kernel
theorem sigOk : sigB Sg Pr = true := by decide +kernel
set_option maxHeartbeats 4000000 in
theorem all_mk {l : PySem.W.OpenLaw} {w : World} {K : PySem.W.Frag} {h : Heap} {mg : Str → Option Value} {fa : Addr} (X : K.In h) (G : h.Ns mainGlobals mg) (hfa : mg "law" = some (.ref fa))
    {f0 f1 f2 f3 f4 f5 f6 f7 f8 f9 f10 f11 f12 f13 f14 f15 f16 f17 f18 f19 f20 f21 f22 f23 f24 f25 f26 f27 f28 f29 f30 f31 f32 f33 f34 f35 f36 : Addr} {od0 an0 od1 an1 od2 an2 od3 an3 od4 an4 od5 an5 od6 an6 od7 an7 od8 an8 od9 an9 od10 an10 od11 an11 od12 an12 od13 an13 od14 an14 od15 an15 od16 an16 od17 an17 od18 an18 od19 an19 od20 an20 od21 an21 od22 an22 od23 an23 od24 an24 od25 an25 od26 an26 od27 an27 od28 an28 od29 an29 od30 an30 od31 an31 od32 an32 od33 an33 od34 an34 od35 an35 od36 an36 : Option Addr} {sl0 sl1 sl2 sl3 sl4 sl5 sl6 sl7 sl8 sl9 sl10 sl11 sl12 sl13 sl14 sl15 sl16 sl17 sl18 sl19 sl20 sl21 sl22 sl23 sl24 sl25 sl26 sl27 sl28 sl29 sl30 sl31 sl32 sl33 sl34 sl35 sl36 : Array (Option Value)} {oc0 kV0 dc0 pm0 cd0 ct0 oc1 kV1 dc1 pm1 cd1 ct1 oc2 kV2 dc2 pm2 cd2 ct2 oc3 kV3 dc3 pm3 cd3 ct3 oc4 kV4 dc4 pm4 cd4 ct4 oc5 kV5 dc5 pm5 cd5 ct5 oc6 kV6 dc6 pm6 cd6 ct6 oc7 kV7 dc7 pm7 cd7 ct7 oc8 kV8 dc8 pm8 cd8 ct8 oc9 kV9 dc9 pm9 cd9 ct9 oc10 kV10 dc10 pm10 cd10 ct10 oc11 kV11 dc11 pm11 cd11 ct11 oc12 kV12 dc12 pm12 cd12 ct12 oc13 kV13 dc13 pm13 cd13 ct13 oc14 kV14 dc14 pm14 cd14 ct14 oc15 kV15 dc15 pm15 cd15 ct15 oc16 kV16 dc16 pm16 cd16 ct16 oc17 kV17 dc17 pm17 cd17 ct17 oc18 kV18 dc18 pm18 cd18 ct18 oc19 kV19 dc19 pm19 cd19 ct19 oc20 kV20 dc20 pm20 cd20 ct20 oc21 kV21 dc21 pm21 cd21 ct21 oc22 kV22 dc22 pm22 cd22 ct22 oc23 kV23 dc23 pm23 cd23 ct23 oc24 kV24 dc24 pm24 cd24 ct24 oc25 kV25 dc25 pm25 cd25 ct25 oc26 kV26 dc26 pm26 cd26 ct26 oc27 kV27 dc27 pm27 cd27 ct27 oc28 kV28 dc28 pm28 cd28 ct28 oc29 kV29 dc29 pm29 cd29 ct29 oc30 kV30 dc30 pm30 cd30 ct30 oc31 kV31 dc31 pm31 cd31 ct31 oc32 kV32 dc32 pm32 cd32 ct32 oc33 kV33 dc33 pm33 cd33 ct33 oc34 kV34 dc34 pm34 cd34 ct34 oc35 kV35 dc35 pm35 cd35 ct35 oc36 kV36 dc36 pm36 cd36 ct36 : Value}
    {p0 : Addr} {qd0 : Option Addr} {its0 : Array Value} {kk0 : Nat} {qs0 : Array (Option Value)} {p1 : Addr} {qd1 : Option Addr} {its1 : Array Value} {kk1 : Nat} {qs1 : Array (Option Value)} {p2 : Addr} {qd2 : Option Addr} {its2 : Array Value} {kk2 : Nat} {qs2 : Array (Option Value)} {p3 : Addr} {qd3 : Option Addr} {its3 : Array Value} {kk3 : Nat} {qs3 : Array (Option Value)} {p3_0 : Addr} {qd3_0 : Option Addr} {its3_0 : Array Value} {kk3_0 : Nat} {qs3_0 : Array (Option Value)}
    {cA0 : Addr} {cA1 : Addr} {cA2 : Addr} {cA3 : Addr} {cA4 : Addr} {cA5 : Addr} {cA6 : Addr} {eN0 eF0 : Addr} {en0 eq0 : Str} {eb0 : List Value} {es0 : List Str} {eu0 : List Value} {ea0 : Bool} {ec0 : Option Bool} {ed0 : Option Addr} {e00 e10 e20 e30 e50 : Option Value} {fo0 fk0 fd0 fp0 fc0 ft0 : Value} {fx0 fy0 : Option Addr} {fz0 : Array (Option Value)}
    (a0 : PySem.W.nsIn K mainGlobals ("common_divisor" : Str) = some (some (.ref f0)))
    (l0 : K.lookup f0 = some ⟨oc0, od0, .func (PySem.W.fnOf ("common_divisor" : Str) ("common_divisor" : Str) (defArgs (topS 9)) (defBody (topS 9)) (defScope (topS 9)) .none kV0 dc0 pm0 an0 cd0 ct0), sl0⟩)
    (c0 : PySem.W.codeIn K cd0 ("common_divisor" : Str) = true)
    (k0 : PySem.W.keepIn K (.ref f0) = true)
    (a1 : PySem.W.nsIn K mainGlobals ("fraction_of" : Str) = some (some (.ref f1)))
    (l1 : K.lookup f1 = some ⟨oc1, od1, .func (PySem.W.fnOf ("fraction_of" : Str) ("fraction_of" : Str) (defArgs (topS 10)) (defBody (topS 10)) (defScope (topS 10)) .none kV1 dc1 pm1 an1 cd1 ct1), sl1⟩)
    (c1 : PySem.W.codeIn K cd1 ("fraction_of" : Str) = true)
    (k1 : PySem.W.keepIn K (.ref f1) = true)
    (a2 : PySem.W.nsIn K mainGlobals ("fraction_times" : Str) = some (some (.ref f2)))
    (l2 : K.lookup f2 = some ⟨oc2, od2, .func (PySem.W.fnOf ("fraction_times" : Str) ("fraction_times" : Str) (defArgs (topS 11)) (defBody (topS 11)) (defScope (topS 11)) .none kV2 dc2 pm2 an2 cd2 ct2), sl2⟩)
    (c2 : PySem.W.codeIn K cd2 ("fraction_times" : Str) = true)
    (k2 : PySem.W.keepIn K (.ref f2) = true)
    (a3 : PySem.W.nsIn K mainGlobals ("fraction_over" : Str) = some (some (.ref f3)))
    (l3 : K.lookup f3 = some ⟨oc3, od3, .func (PySem.W.fnOf ("fraction_over" : Str) ("fraction_over" : Str) (defArgs (topS 12)) (defBody (topS 12)) (defScope (topS 12)) .none kV3 dc3 pm3 an3 cd3 ct3), sl3⟩)
    (c3 : PySem.W.codeIn K cd3 ("fraction_over" : Str) = true)
    (k3 : PySem.W.keepIn K (.ref f3) = true)
    (a4 : PySem.W.nsIn K mainGlobals ("cut_off" : Str) = some (some (.ref f4)))
    (l4 : K.lookup f4 = some ⟨oc4, od4, .func (PySem.W.fnOf ("cut_off" : Str) ("cut_off" : Str) (defArgs (topS 17)) (defBody (topS 17)) (defScope (topS 17)) .none kV4 dc4 pm4 an4 cd4 ct4), sl4⟩)
    (c4 : PySem.W.codeIn K cd4 ("cut_off" : Str) = true)
    (k4 : PySem.W.keepIn K (.ref f4) = true)
    (a5 : PySem.W.nsIn K mainGlobals ("bottom_for" : Str) = some (some (.ref f5)))
    (l5 : K.lookup f5 = some ⟨oc5, od5, .func (PySem.W.fnOf ("bottom_for" : Str) ("bottom_for" : Str) (defArgs (topS 18)) (defBody (topS 18)) (defScope (topS 18)) .none kV5 dc5 pm5 an5 cd5 ct5), sl5⟩)
    (c5 : PySem.W.codeIn K cd5 ("bottom_for" : Str) = true)
    (k5 : PySem.W.keepIn K (.ref f5) = true)
    (a6 : PySem.W.nsIn K mainGlobals ("tops_by" : Str) = some (some (.ref f6)))
    (l6 : K.lookup f6 = some ⟨oc6, od6, .func (PySem.W.fnOf ("tops_by" : Str) ("tops_by" : Str) (defArgs (topS 19)) (defBody (topS 19)) (defScope (topS 19)) .none kV6 dc6 pm6 an6 cd6 ct6), sl6⟩)
    (c6 : PySem.W.codeIn K cd6 ("tops_by" : Str) = true)
    (k6 : PySem.W.keepIn K (.ref f6) = true)
    (a7 : PySem.W.nsIn K mainGlobals ("poly_made" : Str) = some (some (.ref f7)))
    (l7 : K.lookup f7 = some ⟨oc7, od7, .func (PySem.W.fnOf ("poly_made" : Str) ("poly_made" : Str) (defArgs (topS 20)) (defBody (topS 20)) (defScope (topS 20)) .none kV7 dc7 pm7 an7 cd7 ct7), sl7⟩)
    (c7 : PySem.W.codeIn K cd7 ("poly_made" : Str) = true)
    (k7 : PySem.W.keepIn K (.ref f7) = true)
    (a8 : PySem.W.nsIn K mainGlobals ("poly_sum" : Str) = some (some (.ref f8)))
    (l8 : K.lookup f8 = some ⟨oc8, od8, .func (PySem.W.fnOf ("poly_sum" : Str) ("poly_sum" : Str) (defArgs (topS 21)) (defBody (topS 21)) (defScope (topS 21)) .none kV8 dc8 pm8 an8 cd8 ct8), sl8⟩)
    (c8 : PySem.W.codeIn K cd8 ("poly_sum" : Str) = true)
    (k8 : PySem.W.keepIn K (.ref f8) = true)
    (a9 : PySem.W.nsIn K mainGlobals ("poly_times" : Str) = some (some (.ref f9)))
    (l9 : K.lookup f9 = some ⟨oc9, od9, .func (PySem.W.fnOf ("poly_times" : Str) ("poly_times" : Str) (defArgs (topS 22)) (defBody (topS 22)) (defScope (topS 22)) .none kV9 dc9 pm9 an9 cd9 ct9), sl9⟩)
    (c9 : PySem.W.codeIn K cd9 ("poly_times" : Str) = true)
    (k9 : PySem.W.keepIn K (.ref f9) = true)
    (a10 : PySem.W.nsIn K mainGlobals ("poly_scaled" : Str) = some (some (.ref f10)))
    (l10 : K.lookup f10 = some ⟨oc10, od10, .func (PySem.W.fnOf ("poly_scaled" : Str) ("poly_scaled" : Str) (defArgs (topS 23)) (defBody (topS 23)) (defScope (topS 23)) .none kV10 dc10 pm10 an10 cd10 ct10), sl10⟩)
    (c10 : PySem.W.codeIn K cd10 ("poly_scaled" : Str) = true)
    (k10 : PySem.W.keepIn K (.ref f10) = true)
    (a11 : PySem.W.nsIn K mainGlobals ("lead_turned" : Str) = some (some (.ref f11)))
    (l11 : K.lookup f11 = some ⟨oc11, od11, .func (PySem.W.fnOf ("lead_turned" : Str) ("lead_turned" : Str) (defArgs (topS 24)) (defBody (topS 24)) (defScope (topS 24)) .none kV11 dc11 pm11 an11 cd11 ct11), sl11⟩)
    (c11 : PySem.W.codeIn K cd11 ("lead_turned" : Str) = true)
    (k11 : PySem.W.keepIn K (.ref f11) = true)
    (a12 : PySem.W.nsIn K mainGlobals ("ptimes" : Str) = some (some (.ref f12)))
    (l12 : K.lookup f12 = some ⟨oc12, od12, .func (PySem.W.fnOf ("ptimes" : Str) ("ptimes" : Str) (defArgs (topS 27)) (defBody (topS 27)) (defScope (topS 27)) .none kV12 dc12 pm12 an12 cd12 ct12), sl12⟩)
    (c12 : PySem.W.codeIn K cd12 ("ptimes" : Str) = true)
    (k12 : PySem.W.keepIn K (.ref f12) = true)
    (a13 : PySem.W.nsIn K mainGlobals ("left_without" : Str) = some (some (.ref f13)))
    (l13 : K.lookup f13 = some ⟨oc13, od13, .func (PySem.W.fnOf ("left_without" : Str) ("left_without" : Str) (defArgs (topS 29)) (defBody (topS 29)) (defScope (topS 29)) .none kV13 dc13 pm13 an13 cd13 ct13), sl13⟩)
    (c13 : PySem.W.codeIn K cd13 ("left_without" : Str) = true)
    (k13 : PySem.W.keepIn K (.ref f13) = true)
    (a14 : PySem.W.nsIn K mainGlobals ("with_sign" : Str) = some (some (.ref f14)))
    (l14 : K.lookup f14 = some ⟨oc14, od14, .func (PySem.W.fnOf ("with_sign" : Str) ("with_sign" : Str) (defArgs (topS 30)) (defBody (topS 30)) (defScope (topS 30)) .none kV14 dc14 pm14 an14 cd14 ct14), sl14⟩)
    (c14 : PySem.W.codeIn K cd14 ("with_sign" : Str) = true)
    (k14 : PySem.W.keepIn K (.ref f14) = true)
    (a15 : PySem.W.nsIn K mainGlobals ("pcorner" : Str) = some (some (.ref f15)))
    (l15 : K.lookup f15 = some ⟨oc15, od15, .func (PySem.W.fnOf ("pcorner" : Str) ("pcorner" : Str) (defArgs (topS 31)) (defBody (topS 31)) (defScope (topS 31)) .none kV15 dc15 pm15 an15 cd15 ct15), sl15⟩)
    (c15 : PySem.W.codeIn K cd15 ("pcorner" : Str) = true)
    (k15 : PySem.W.keepIn K (.ref f15) = true)
    (a16 : PySem.W.nsIn K mainGlobals ("pback_of" : Str) = some (some (.ref f16)))
    (l16 : K.lookup f16 = some ⟨oc16, od16, .func (PySem.W.fnOf ("pback_of" : Str) ("pback_of" : Str) (defArgs (topS 32)) (defBody (topS 32)) (defScope (topS 32)) .none kV16 dc16 pm16 an16 cd16 ct16), sl16⟩)
    (c16 : PySem.W.codeIn K cd16 ("pback_of" : Str) = true)
    (k16 : PySem.W.keepIn K (.ref f16) = true)
    (a17 : PySem.W.nsIn K mainGlobals ("_law_feed" : Str) = some (some (.ref f17)))
    (l17 : K.lookup f17 = some ⟨oc17, od17, .func (PySem.W.fnOf ("_law_feed" : Str) ("_law_feed" : Str) (defArgs (topS 34)) (defBody (topS 34)) (defScope (topS 34)) .none kV17 dc17 pm17 an17 cd17 ct17), sl17⟩)
    (c17 : PySem.W.codeIn K cd17 ("_law_feed" : Str) = true)
    (k17 : PySem.W.keepIn K (.ref f17) = true)
    (a18 : PySem.W.nsIn K mainGlobals ("_law_draw" : Str) = some (some (.ref f18)))
    (l18 : K.lookup f18 = some ⟨oc18, od18, .func (PySem.W.fnOf ("_law_draw" : Str) ("_law_draw" : Str) (defArgs (topS 35)) (defBody (topS 35)) (defScope (topS 35)) .none kV18 dc18 pm18 an18 cd18 ct18), sl18⟩)
    (c18 : PySem.W.codeIn K cd18 ("_law_draw" : Str) = true)
    (k18 : PySem.W.keepIn K (.ref f18) = true)
    (a19 : PySem.W.nsIn K mainGlobals ("_law_of" : Str) = some (some (.ref f19)))
    (l19 : K.lookup f19 = some ⟨oc19, od19, .func (PySem.W.fnOf ("_law_of" : Str) ("_law_of" : Str) (defArgs (topS 36)) (defBody (topS 36)) (defScope (topS 36)) .none kV19 dc19 pm19 an19 cd19 ct19), sl19⟩)
    (c19 : PySem.W.codeIn K cd19 ("_law_of" : Str) = true)
    (k19 : PySem.W.keepIn K (.ref f19) = true)
    (a20 : PySem.W.nsIn K mainGlobals ("_law_gcd" : Str) = some (some (.ref f20)))
    (l20 : K.lookup f20 = some ⟨oc20, od20, .func (PySem.W.fnOf ("_law_gcd" : Str) ("_law_gcd" : Str) (defArgs (topS 37)) (defBody (topS 37)) (defScope (topS 37)) .none kV20 dc20 pm20 an20 cd20 ct20), sl20⟩)
    (c20 : PySem.W.codeIn K cd20 ("_law_gcd" : Str) = true)
    (k20 : PySem.W.keepIn K (.ref f20) = true)
    (a21 : PySem.W.nsIn K mainGlobals ("_law_fraction" : Str) = some (some (.ref f21)))
    (l21 : K.lookup f21 = some ⟨oc21, od21, .func (PySem.W.fnOf ("_law_fraction" : Str) ("_law_fraction" : Str) (defArgs (topS 38)) (defBody (topS 38)) (defScope (topS 38)) .none kV21 dc21 pm21 an21 cd21 ct21), sl21⟩)
    (c21 : PySem.W.codeIn K cd21 ("_law_fraction" : Str) = true)
    (k21 : PySem.W.keepIn K (.ref f21) = true)
    (a22 : PySem.W.nsIn K mainGlobals ("_law_cut" : Str) = some (some (.ref f22)))
    (l22 : K.lookup f22 = some ⟨oc22, od22, .func (PySem.W.fnOf ("_law_cut" : Str) ("_law_cut" : Str) (defArgs (topS 39)) (defBody (topS 39)) (defScope (topS 39)) .none kV22 dc22 pm22 an22 cd22 ct22), sl22⟩)
    (c22 : PySem.W.codeIn K cd22 ("_law_cut" : Str) = true)
    (k22 : PySem.W.keepIn K (.ref f22) = true)
    (a23 : PySem.W.nsIn K mainGlobals ("_law_plus" : Str) = some (some (.ref f23)))
    (l23 : K.lookup f23 = some ⟨oc23, od23, .func (PySem.W.fnOf ("_law_plus" : Str) ("_law_plus" : Str) (defArgs (topS 40)) (defBody (topS 40)) (defScope (topS 40)) .none kV23 dc23 pm23 an23 cd23 ct23), sl23⟩)
    (c23 : PySem.W.codeIn K cd23 ("_law_plus" : Str) = true)
    (k23 : PySem.W.keepIn K (.ref f23) = true)
    (a24 : PySem.W.nsIn K mainGlobals ("_law_product" : Str) = some (some (.ref f24)))
    (l24 : K.lookup f24 = some ⟨oc24, od24, .func (PySem.W.fnOf ("_law_product" : Str) ("_law_product" : Str) (defArgs (topS 41)) (defBody (topS 41)) (defScope (topS 41)) .none kV24 dc24 pm24 an24 cd24 ct24), sl24⟩)
    (c24 : PySem.W.codeIn K cd24 ("_law_product" : Str) = true)
    (k24 : PySem.W.keepIn K (.ref f24) = true)
    (a25 : PySem.W.nsIn K mainGlobals ("_law_parts" : Str) = some (some (.ref f25)))
    (l25 : K.lookup f25 = some ⟨oc25, od25, .func (PySem.W.fnOf ("_law_parts" : Str) ("_law_parts" : Str) (defArgs (topS 42)) (defBody (topS 42)) (defScope (topS 42)) .none kV25 dc25 pm25 an25 cd25 ct25), sl25⟩)
    (c25 : PySem.W.codeIn K cd25 ("_law_parts" : Str) = true)
    (k25 : PySem.W.keepIn K (.ref f25) = true)
    (a26 : PySem.W.nsIn K mainGlobals ("_law_poly" : Str) = some (some (.ref f26)))
    (l26 : K.lookup f26 = some ⟨oc26, od26, .func (PySem.W.fnOf ("_law_poly" : Str) ("_law_poly" : Str) (defArgs (topS 43)) (defBody (topS 43)) (defScope (topS 43)) .none kV26 dc26 pm26 an26 cd26 ct26), sl26⟩)
    (c26 : PySem.W.codeIn K cd26 ("_law_poly" : Str) = true)
    (k26 : PySem.W.keepIn K (.ref f26) = true)
    (a27 : PySem.W.nsIn K mainGlobals ("_law_unit" : Str) = some (some (.ref f27)))
    (l27 : K.lookup f27 = some ⟨oc27, od27, .func (PySem.W.fnOf ("_law_unit" : Str) ("_law_unit" : Str) (defArgs (topS 44)) (defBody (topS 44)) (defScope (topS 44)) .none kV27 dc27 pm27 an27 cd27 ct27), sl27⟩)
    (c27 : PySem.W.codeIn K cd27 ("_law_unit" : Str) = true)
    (k27 : PySem.W.keepIn K (.ref f27) = true)
    (a28 : PySem.W.nsIn K mainGlobals ("_law_tables" : Str) = some (some (.ref f28)))
    (l28 : K.lookup f28 = some ⟨oc28, od28, .func (PySem.W.fnOf ("_law_tables" : Str) ("_law_tables" : Str) (defArgs (topS 45)) (defBody (topS 45)) (defScope (topS 45)) .none kV28 dc28 pm28 an28 cd28 ct28), sl28⟩)
    (c28 : PySem.W.codeIn K cd28 ("_law_tables" : Str) = true)
    (k28 : PySem.W.keepIn K (.ref f28) = true)
    (a29 : PySem.W.nsIn K mainGlobals ("_law_row" : Str) = some (some (.ref f29)))
    (l29 : K.lookup f29 = some ⟨oc29, od29, .func (PySem.W.fnOf ("_law_row" : Str) ("_law_row" : Str) (defArgs (topS 46)) (defBody (topS 46)) (defScope (topS 46)) .none kV29 dc29 pm29 an29 cd29 ct29), sl29⟩)
    (c29 : PySem.W.codeIn K cd29 ("_law_row" : Str) = true)
    (k29 : PySem.W.keepIn K (.ref f29) = true)
    (a30 : PySem.W.nsIn K mainGlobals ("_law_table" : Str) = some (some (.ref f30)))
    (l30 : K.lookup f30 = some ⟨oc30, od30, .func (PySem.W.fnOf ("_law_table" : Str) ("_law_table" : Str) (defArgs (topS 47)) (defBody (topS 47)) (defScope (topS 47)) .none kV30 dc30 pm30 an30 cd30 ct30), sl30⟩)
    (c30 : PySem.W.codeIn K cd30 ("_law_table" : Str) = true)
    (k30 : PySem.W.keepIn K (.ref f30) = true)
    (a31 : PySem.W.nsIn K mainGlobals ("_law_orders" : Str) = some (some (.ref f31)))
    (l31 : K.lookup f31 = some ⟨oc31, od31, .func (PySem.W.fnOf ("_law_orders" : Str) ("_law_orders" : Str) (defArgs (topS 48)) (defBody (topS 48)) (defScope (topS 48)) .none kV31 dc31 pm31 an31 cd31 ct31), sl31⟩)
    (c31 : PySem.W.codeIn K cd31 ("_law_orders" : Str) = true)
    (k31 : PySem.W.keepIn K (.ref f31) = true)
    (a32 : PySem.W.nsIn K mainGlobals ("_law_corner" : Str) = some (some (.ref f32)))
    (l32 : K.lookup f32 = some ⟨oc32, od32, .func (PySem.W.fnOf ("_law_corner" : Str) ("_law_corner" : Str) (defArgs (topS 49)) (defBody (topS 49)) (defScope (topS 49)) .none kV32 dc32 pm32 an32 cd32 ct32), sl32⟩)
    (c32 : PySem.W.codeIn K cd32 ("_law_corner" : Str) = true)
    (k32 : PySem.W.keepIn K (.ref f32) = true)
    (a33 : PySem.W.nsIn K mainGlobals ("_law_with_back" : Str) = some (some (.ref f33)))
    (l33 : K.lookup f33 = some ⟨oc33, od33, .func (PySem.W.fnOf ("_law_with_back" : Str) ("_law_with_back" : Str) (defArgs (topS 50)) (defBody (topS 50)) (defScope (topS 50)) .none kV33 dc33 pm33 an33 cd33 ct33), sl33⟩)
    (c33 : PySem.W.codeIn K cd33 ("_law_with_back" : Str) = true)
    (k33 : PySem.W.keepIn K (.ref f33) = true)
    (a34 : PySem.W.nsIn K mainGlobals ("_law_refused" : Str) = some (some (.ref f34)))
    (l34 : K.lookup f34 = some ⟨oc34, od34, .func (PySem.W.fnOf ("_law_refused" : Str) ("_law_refused" : Str) (defArgs (topS 51)) (defBody (topS 51)) (defScope (topS 51)) .none kV34 dc34 pm34 an34 cd34 ct34), sl34⟩)
    (c34 : PySem.W.codeIn K cd34 ("_law_refused" : Str) = true)
    (k34 : PySem.W.keepIn K (.ref f34) = true)
    (a35 : PySem.W.nsIn K mainGlobals ("_law_right" : Str) = some (some (.ref f35)))
    (l35 : K.lookup f35 = some ⟨oc35, od35, .func (PySem.W.fnOf ("_law_right" : Str) ("_law_right" : Str) (defArgs (topS 52)) (defBody (topS 52)) (defScope (topS 52)) .none kV35 dc35 pm35 an35 cd35 ct35), sl35⟩)
    (c35 : PySem.W.codeIn K cd35 ("_law_right" : Str) = true)
    (k35 : PySem.W.keepIn K (.ref f35) = true)
    (a36 : PySem.W.nsIn K mainGlobals ("law" : Str) = some (some (.ref f36)))
    (l36 : K.lookup f36 = some ⟨oc36, od36, .func (PySem.W.fnOf ("law" : Str) ("law" : Str) (defArgs (topS 53)) (defBody (topS 53)) (defScope (topS 53)) .none kV36 dc36 pm36 an36 cd36 ct36), sl36⟩)
    (c36 : PySem.W.codeIn K cd36 ("law" : Str) = true)
    (k36 : PySem.W.keepIn K (.ref f36) = true)
    (z0 : PySem.W.nsIn K mainGlobals ("isinstance" : Str) = some none)
    (z1 : PySem.W.nsIn K mainGlobals ("ValueError" : Str) = some none)
    (z2 : PySem.W.nsIn K mainGlobals ("int" : Str) = some none)
    (z3 : PySem.W.nsIn K mainGlobals ("list" : Str) = some none)
    (z4 : PySem.W.nsIn K mainGlobals ("tuple" : Str) = some none)
    (z5 : PySem.W.nsIn K mainGlobals ("len" : Str) = some none)
    (z6 : PySem.W.nsIn K mainGlobals ("abs" : Str) = some none)
    (z7 : PySem.W.nsIn K mainGlobals ("repr" : Str) = some none)
    (z8 : PySem.W.nsIn K mainGlobals ("max" : Str) = some none)
    (z9 : PySem.W.nsIn K mainGlobals ("range" : Str) = some none)
    (z10 : PySem.W.nsIn K mainGlobals ("enumerate" : Str) = some none)
    (z11 : PySem.W.nsIn K mainGlobals ("zip" : Str) = some none)
    (n0 : PySem.W.nsIn K mainGlobals ("NOUGHT" : Str) = some (some (.ref p0)))
    (m0 : K.lookup p0 = some ⟨.type "tuple", qd0, .seq its0 kk0, qs0⟩)
    (w0 : Vals ([0, 1].map V.int) its0.toList)
    (n1 : PySem.W.nsIn K mainGlobals ("WHOLE" : Str) = some (some (.ref p1)))
    (m1 : K.lookup p1 = some ⟨.type "tuple", qd1, .seq its1 kk1, qs1⟩)
    (w1 : Vals ([1, 1].map V.int) its1.toList)
    (n2 : PySem.W.nsIn K mainGlobals ("LESS" : Str) = some (some (.ref p2)))
    (m2 : K.lookup p2 = some ⟨.type "tuple", qd2, .seq its2 kk2, qs2⟩)
    (w2 : Vals ([-1, 1].map V.int) its2.toList)
    (n3 : PySem.W.nsIn K mainGlobals ("ONE" : Str) = some (some (.ref p3)))
    (m3 : K.lookup p3 = some ⟨.type "tuple", qd3, .seq its3 kk3, qs3⟩)
    (w3 : Vals [V.ref p3_0] its3.toList)
    (m3_0 : K.lookup p3_0 = some ⟨.type "tuple", qd3_0, .seq its3_0 kk3_0, qs3_0⟩)
    (w3_0 : Vals ([1, 1].map V.int) its3_0.toList)
    (x0 : PySem.W.nsIn K mainGlobals ("NoBack" : Str) = some (some (.ref cA0)))
    (x1 : PySem.W.nsIn K mainGlobals ("FormError" : Str) = some (some (.ref cA1)))
    (x2 : PySem.W.nsIn K mainGlobals ("NoDeed" : Str) = some (some (.ref cA2)))
    (x3 : PySem.W.nsIn K mainGlobals ("NoLine" : Str) = some (some (.ref cA3)))
    (x4 : PySem.W.nsIn K mainGlobals ("NoPaper" : Str) = some (some (.ref cA4)))
    (x5 : PySem.W.nsIn K mainGlobals ("NoRow" : Str) = some (some (.ref cA5)))
    (x6 : PySem.W.nsIn K mainGlobals ("NoText" : Str) = some (some (.ref cA6)))
    (xr : PySem.W.readsIn K cA1 (.type "type") = true)
    (xg : PySem.W.specialIn K (.ref cA1) "__getattribute__" = some (some (.builtin "type.__getattribute__")))
    (xf : PySem.W.findCls K (.ref cA1) (.type "type") "__init__" = some (.val (.builtin "ValueError.__init__")))
    (xn : PySem.W.specialIn K (.builtin "object.__class__") "__get__" = some (some (.builtin "getset_descriptor.__get__")))
    (xt : PySem.W.takesIn K (.builtin "object.__class__") = some true)
    (xe0 : PySem.W.subIn K (.ref cA0) (.type "BaseException") = some true)
    (xh0 : PySem.W.hasDictIn K cA0 = true)
    (xk0 : PySem.W.typeIn K (.ref cA0) = some (.type "type"))
    (xc0 : PySem.W.isClsIn K cA0 = true)
    (xe1 : PySem.W.subIn K (.ref cA1) (.type "BaseException") = some true)
    (xh1 : PySem.W.hasDictIn K cA1 = true)
    (xk1 : PySem.W.typeIn K (.ref cA1) = some (.type "type"))
    (xc1 : PySem.W.isClsIn K cA1 = true)
    (xe2 : PySem.W.subIn K (.ref cA2) (.type "BaseException") = some true)
    (xh2 : PySem.W.hasDictIn K cA2 = true)
    (xk2 : PySem.W.typeIn K (.ref cA2) = some (.type "type"))
    (xc2 : PySem.W.isClsIn K cA2 = true)
    (xe3 : PySem.W.subIn K (.ref cA3) (.type "BaseException") = some true)
    (xh3 : PySem.W.hasDictIn K cA3 = true)
    (xk3 : PySem.W.typeIn K (.ref cA3) = some (.type "type"))
    (xc3 : PySem.W.isClsIn K cA3 = true)
    (xe4 : PySem.W.subIn K (.ref cA4) (.type "BaseException") = some true)
    (xh4 : PySem.W.hasDictIn K cA4 = true)
    (xk4 : PySem.W.typeIn K (.ref cA4) = some (.type "type"))
    (xc4 : PySem.W.isClsIn K cA4 = true)
    (xe5 : PySem.W.subIn K (.ref cA5) (.type "BaseException") = some true)
    (xh5 : PySem.W.hasDictIn K cA5 = true)
    (xk5 : PySem.W.typeIn K (.ref cA5) = some (.type "type"))
    (xc5 : PySem.W.isClsIn K cA5 = true)
    (xe6 : PySem.W.subIn K (.ref cA6) (.type "BaseException") = some true)
    (xh6 : PySem.W.hasDictIn K cA6 = true)
    (xk6 : PySem.W.typeIn K (.ref cA6) = some (.type "type"))
    (xc6 : PySem.W.isClsIn K cA6 = true)
    (xL0 : K.lookup cA0 = some (excClassObj en0 eq0 cA0 eN0 eb0 [.ref cA1, .type "ValueError", .type "Exception", .type "BaseException", .type "object"] true es0 eu0 ea0 ec0 ed0 e00 e10 e20 e30 e50 "ValueError.__new__"))
    (xs0 : PySem.W.findIn K (.ref cA0) "__setattr__" = some (some (.builtin "object.__setattr__")))
    (xa0 : PySem.W.findIn K (.ref cA0) "__getattribute__" = some (some (.builtin "BaseException.__getattribute__")))
    (xb0 : PySem.W.findIn K (.ref cA0) "__getattr__" = some none)
    (xi0 : PySem.W.findIn K (.ref cA0) "__init__" = some (some (.ref eF0)))
    (xj0 : PySem.W.typeIn K (.ref eF0) = some (.type "function"))
    (xl0 : K.lookup eF0 = some ⟨fo0, fx0, .func (PySem.W.fnOf "__init__" ("NoBack.__init__" : Str) (defArgs (clsIni (topS 5))) (defBody (clsIni (topS 5))) (defScope (clsIni (topS 5))) .none fk0 fd0 fp0 fy0 fc0 ft0), fz0⟩)
    (xo0 : PySem.W.codeIn K fc0 ("NoBack.__init__" : Str) = true)
    (xp0 : PySem.W.keepIn K (.ref eF0) = true)
    (xq0 : PySem.W.keepIn K (.ref cA0) = true)
    (xu0 : PySem.W.findIn K (.ref cA0) "__class__" = some (some (.builtin "object.__class__")))
    (xm0 : PySem.W.mroIn K cA0 (.type "object") = some true)
    (xv0 : PySem.W.subIn K (.ref cA0) (.type "ValueError") = some true)
    (xw0_0 : PySem.W.findIn K (.ref cA0) ("corner" : Str) = some none)
    (xy0_1 : PySem.W.subIn K (.ref cA0) (.ref cA1) = some true)
    (xy0_0 : PySem.W.subIn K (.ref cA0) (.ref cA0) = some true)
    (xy0_2 : PySem.W.subIn K (.ref cA0) (.ref cA2) = some false)
    (xy0_3 : PySem.W.subIn K (.ref cA0) (.ref cA3) = some false)
    (xy0_4 : PySem.W.subIn K (.ref cA0) (.ref cA4) = some false)
    (xy0_5 : PySem.W.subIn K (.ref cA0) (.ref cA5) = some false)
    (xy0_6 : PySem.W.subIn K (.ref cA0) (.ref cA6) = some false)
    : ∃ fd : FuncData, (∀ (s : Shared) (u : Value), K.In s.heap → BindsTo s fd ⟨[u], []⟩ [(("_law_script" : Str), u)]) ∧ ∀ base : Heap, K.In base → base.Ns mainGlobals mg → ∀ wf : Nat, FnG ⟨l.prog, w, K, mg, base, Pr, wf⟩ 60 fa fd [("_law_script" : Str)] (spN ⟨l.prog, w, K, mg, base, Pr, wf⟩ 60 f_law) := by
  have d0 : DOk K mg (topS 9) p_common_divisor := dok_mk X G a0 l0 c0 k0 fun _ _ _ _ _ _ us hl => match us, hl with | [_, _], _ => rfl
  have d1 : DOk K mg (topS 10) p_fraction_of := dok_mk X G a1 l1 c1 k1 fun _ _ _ _ _ _ us hl => match us, hl with | [_, _], _ => rfl
  have d2 : DOk K mg (topS 11) p_fraction_times := dok_mk X G a2 l2 c2 k2 fun _ _ _ _ _ _ us hl => match us, hl with | [_, _], _ => rfl
  have d3 : DOk K mg (topS 12) p_fraction_over := dok_mk X G a3 l3 c3 k3 fun _ _ _ _ _ _ us hl => match us, hl with | [_, _], _ => rfl
  have d4 : DOk K mg (topS 17) p_cut_off := dok_mk X G a4 l4 c4 k4 fun _ _ _ _ _ _ us hl => match us, hl with | [_], _ => rfl
  have d5 : DOk K mg (topS 18) p_bottom_for := dok_mk X G a5 l5 c5 k5 fun _ _ _ _ _ _ us hl => match us, hl with | [_], _ => rfl
  have d6 : DOk K mg (topS 19) p_tops_by := dok_mk X G a6 l6 c6 k6 fun _ _ _ _ _ _ us hl => match us, hl with | [_, _], _ => rfl
  have d7 : DOk K mg (topS 20) p_poly_made := dok_mk X G a7 l7 c7 k7 fun _ _ _ _ _ _ us hl => match us, hl with | [_, _], _ => rfl
  have d8 : DOk K mg (topS 21) p_poly_sum := dok_mk X G a8 l8 c8 k8 fun _ _ _ _ _ _ us hl => match us, hl with | [_, _], _ => rfl
  have d9 : DOk K mg (topS 22) p_poly_times := dok_mk X G a9 l9 c9 k9 fun _ _ _ _ _ _ us hl => match us, hl with | [_, _], _ => rfl
  have d10 : DOk K mg (topS 23) p_poly_scaled := dok_mk X G a10 l10 c10 k10 fun _ _ _ _ _ _ us hl => match us, hl with | [_, _], _ => rfl
  have d11 : DOk K mg (topS 24) p_lead_turned := dok_mk X G a11 l11 c11 k11 fun _ _ _ _ _ _ us hl => match us, hl with | [_], _ => rfl
  have d12 : DOk K mg (topS 27) p_ptimes := dok_mk X G a12 l12 c12 k12 fun _ _ _ _ _ _ us hl => match us, hl with | [_, _], _ => rfl
  have d13 : DOk K mg (topS 29) p_left_without := dok_mk X G a13 l13 c13 k13 fun _ _ _ _ _ _ us hl => match us, hl with | [_, _, _], _ => rfl
  have d14 : DOk K mg (topS 30) p_with_sign := dok_mk X G a14 l14 c14 k14 fun _ _ _ _ _ _ us hl => match us, hl with | [_, _], _ => rfl
  have d15 : DOk K mg (topS 31) p_pcorner := dok_mk X G a15 l15 c15 k15 fun _ _ _ _ _ _ us hl => match us, hl with | [_], _ => rfl
  have d16 : DOk K mg (topS 32) p_pback_of := dok_mk X G a16 l16 c16 k16 fun _ _ _ _ _ _ us hl => match us, hl with | [_], _ => rfl
  have d17 : DOk K mg (topS 34) p__law_feed := dok_mk X G a17 l17 c17 k17 fun _ _ _ _ _ _ us hl => match us, hl with | [_], _ => rfl
  have d18 : DOk K mg (topS 35) p__law_draw := dok_mk X G a18 l18 c18 k18 fun _ _ _ _ _ _ us hl => match us, hl with | [_, _], _ => rfl
  have d19 : DOk K mg (topS 36) p__law_of := dok_mk X G a19 l19 c19 k19 fun _ _ _ _ _ _ us hl => match us, hl with | [_, _], _ => rfl
  have d20 : DOk K mg (topS 37) p__law_gcd := dok_mk X G a20 l20 c20 k20 fun _ _ _ _ _ _ us hl => match us, hl with | [_, _], _ => rfl
  have d21 : DOk K mg (topS 38) p__law_fraction := dok_mk X G a21 l21 c21 k21 fun _ _ _ _ _ _ us hl => match us, hl with | [_, _], _ => rfl
  have d22 : DOk K mg (topS 39) p__law_cut := dok_mk X G a22 l22 c22 k22 fun _ _ _ _ _ _ us hl => match us, hl with | [_], _ => rfl
  have d23 : DOk K mg (topS 40) p__law_plus := dok_mk X G a23 l23 c23 k23 fun _ _ _ _ _ _ us hl => match us, hl with | [_, _], _ => rfl
  have d24 : DOk K mg (topS 41) p__law_product := dok_mk X G a24 l24 c24 k24 fun _ _ _ _ _ _ us hl => match us, hl with | [_, _], _ => rfl
  have d25 : DOk K mg (topS 42) p__law_parts := dok_mk X G a25 l25 c25 k25 fun _ _ _ _ _ _ us hl => match us, hl with | [_, _, _, _], _ => rfl
  have d26 : DOk K mg (topS 43) p__law_poly := dok_mk X G a26 l26 c26 k26 fun _ _ _ _ _ _ us hl => match us, hl with | [_, _, _, _], _ => rfl
  have d27 : DOk K mg (topS 44) p__law_unit := dok_mk X G a27 l27 c27 k27 fun _ _ _ _ _ _ us hl => match us, hl with | [_], _ => rfl
  have d28 : DOk K mg (topS 45) p__law_tables := dok_mk X G a28 l28 c28 k28 fun _ _ _ _ _ _ us hl => match us, hl with | [_, _], _ => rfl
  have d29 : DOk K mg (topS 46) p__law_row := dok_mk X G a29 l29 c29 k29 fun _ _ _ _ _ _ us hl => match us, hl with | [_, _, _], _ => rfl
  have d30 : DOk K mg (topS 47) p__law_table := dok_mk X G a30 l30 c30 k30 fun _ _ _ _ _ _ us hl => match us, hl with | [_, _, _], _ => rfl
  have d31 : DOk K mg (topS 48) p__law_orders := dok_mk X G a31 l31 c31 k31 fun _ _ _ _ _ _ us hl => match us, hl with | [_], _ => rfl
  have d32 : DOk K mg (topS 49) p__law_corner := dok_mk X G a32 l32 c32 k32 fun _ _ _ _ _ _ us hl => match us, hl with | [_], _ => rfl
  have d33 : DOk K mg (topS 50) p__law_with_back := dok_mk X G a33 l33 c33 k33 fun _ _ _ _ _ _ us hl => match us, hl with | [_, _], _ => rfl
  have d34 : DOk K mg (topS 51) p__law_refused := dok_mk X G a34 l34 c34 k34 fun _ _ _ _ _ _ us hl => match us, hl with | [_], _ => rfl
  have d35 : DOk K mg (topS 52) p__law_right := dok_mk X G a35 l35 c35 k35 fun _ _ _ _ _ _ us hl => match us, hl with | [_], _ => rfl
  have d36 : DOk K mg (topS 53) p_law := dok_mk X G a36 l36 c36 k36 fun _ _ _ _ _ _ us hl => match us, hl with | [_], _ => rfl
  have T : Tops K mg Sg Pr := (.cons _ d0 k_common_divisor (.cons _ d1 k_fraction_of (.cons _ d2 k_fraction_times (.cons _ d3 k_fraction_over (.cons _ d4 k_cut_off (.cons _ d5 k_bottom_for (.cons _ d6 k_tops_by (.cons _ d7 k_poly_made (.cons _ d8 k_poly_sum (.cons _ d9 k_poly_times (.cons _ d10 k_poly_scaled (.cons _ d11 k_lead_turned (.cons _ d12 k_ptimes (.cons _ d13 k_left_without (.cons _ d14 k_with_sign (.cons _ d15 k_pcorner (.cons _ d16 k_pback_of (.cons _ d17 k__law_feed (.cons _ d18 k__law_draw (.cons _ d19 k__law_of (.cons _ d20 k__law_gcd (.cons _ d21 k__law_fraction (.cons _ d22 k__law_cut (.cons _ d23 k__law_plus (.cons _ d24 k__law_product (.cons _ d25 k__law_parts (.cons _ d26 k__law_poly (.cons _ d27 k__law_unit (.cons _ d28 k__law_tables (.cons _ d29 k__law_row (.cons _ d30 k__law_table (.cons _ d31 k__law_orders (.cons _ d32 k__law_corner (.cons _ d33 k__law_with_back (.cons _ d34 k__law_refused (.cons _ d35 k__law_right (.cons _ d36 k_law .nil)))))))))))))))))))))))))))))))))))))
  refine law_def 59 T (fn := p_law) rfl rfl ?_ ?_ sigOk ?_ hfa
  · intro x hx
    have hx : x ∈ [("isinstance" : Str), ("ValueError" : Str), ("int" : Str), ("list" : Str), ("tuple" : Str), ("len" : Str), ("abs" : Str), ("repr" : Str), ("max" : Str), ("range" : Str), ("enumerate" : Str), ("zip" : Str)] := hx
    simp only [List.mem_cons, List.not_mem_nil, or_false] at hx
    rcases hx with rfl | rfl | rfl | rfl | rfl | rfl | rfl | rfl | rfl | rfl | rfl | rfl
    · exact PySem.W.mg_none_of X G z0
    · exact PySem.W.mg_none_of X G z1
    · exact PySem.W.mg_none_of X G z2
    · exact PySem.W.mg_none_of X G z3
    · exact PySem.W.mg_none_of X G z4
    · exact PySem.W.mg_none_of X G z5
    · exact PySem.W.mg_none_of X G z6
    · exact PySem.W.mg_none_of X G z7
    · exact PySem.W.mg_none_of X G z8
    · exact PySem.W.mg_none_of X G z9
    · exact PySem.W.mg_none_of X G z10
    · exact PySem.W.mg_none_of X G z11
  · intro x hx
    have hx : x ∈ [(("NOUGHT" : Str), (.tup [(.int 0), (.int 1)])), (("WHOLE" : Str), (.tup [(.int 1), (.int 1)])), (("LESS" : Str), (.tup [(.int (-1)), (.int 1)])), (("ONE" : Str), (.tup [(.tup [(.int 1), (.int 1)])]))] := hx
    simp only [List.mem_cons, List.not_mem_nil, or_false] at hx
    rcases hx with rfl | rfl | rfl | rfl
    · exact con_ints (is := [0, 1]) X G n0 m0 w0 (by decide)
    · exact con_ints (is := [1, 1]) X G n1 m1 w1 (by decide)
    · exact con_ints (is := [-1, 1]) X G n2 m2 w2 (by decide)
    · exact con_tup X G n3 m3 w3 (by simp) (fun ι H => (.cons (rv_tup (ds := [1, 1].map D.int) m3_0 w3_0 (by decide) (fun ι H => ints_rv _) ι H) .nil))
  · intro base wf
    refine ⟨fun q hq => ?_, fun q hq => ?_⟩
    · have hq : q ∈ Sg.ecl := hq
      simp only [Sg, List.mem_cons, List.not_mem_nil, or_false] at hq
      rcases hq with rfl
      · refine ⟨cA0, PySem.W.mg_of X G x0, cls_mk X G xL0 rfl xs0 xa0 xb0 xi0 xj0 xl0 xo0 xp0 xq0 xe0 xk0 xh0 xc0 xu0 xn xt xm0 (kit_ve xv0) (fun f hf => by
          simp only [List.mem_cons, List.not_mem_nil, or_false] at hf
          rcases hf with rfl
          · exact xw0_0) x1 xr xg xf (by decide +kernel) (by decide +kernel) (by decide) (fun _ _ _ _ _ _ us hl => match us, hl with | [_, _], _ => rfl) base wf, fun q hq => ?_, fun y hy => ?_⟩
        · have hq : q ∈ Sg.sub := hq
          simp only [Sg, List.mem_cons, List.not_mem_nil, or_false] at hq
          rcases hq with rfl
          · exact ⟨cA1, PySem.W.mg_of X G x1, (exm_mk xe1 xh1 xk1 xy0_1).trans (congrArg some (by decide +kernel))⟩
        · have hy : y ∈ Sg.icl := hy
          simp only [Sg, List.mem_cons, List.not_mem_nil, or_false] at hy
          rcases hy with rfl | rfl | rfl | rfl | rfl | rfl
          · exact ⟨cA0, PySem.W.mg_of X G x0, kit_self.trans (congrArg some (by decide +kernel))⟩
          · exact ⟨cA2, PySem.W.mg_of X G x2, (kit_ne xc2 xk2 xy0_2 xy0_0).trans (congrArg some (by decide +kernel))⟩
          · exact ⟨cA3, PySem.W.mg_of X G x3, (kit_ne xc3 xk3 xy0_3 xy0_0).trans (congrArg some (by decide +kernel))⟩
          · exact ⟨cA4, PySem.W.mg_of X G x4, (kit_ne xc4 xk4 xy0_4 xy0_0).trans (congrArg some (by decide +kernel))⟩
          · exact ⟨cA5, PySem.W.mg_of X G x5, (kit_ne xc5 xk5 xy0_5 xy0_0).trans (congrArg some (by decide +kernel))⟩
          · exact ⟨cA6, PySem.W.mg_of X G x6, (kit_ne xc6 xk6 xy0_6 xy0_0).trans (congrArg some (by decide +kernel))⟩
    · have hq : q ∈ Sg.sub := hq
      simp only [Sg, List.mem_cons, List.not_mem_nil, or_false] at hq
      rcases hq with rfl
      · exact ⟨cA1, PySem.W.mg_of X G x1⟩
end Mn.K78
open PySem PySem.W PyProof.Rows in
set_option maxRecDepth 100000 in
set_option maxHeartbeats 0 in
theorem PySem.Challenge.cw_stepforms_k78_corners_of_polys_holds : PySem.Challenge.rw_stepforms_k78_corners_of_polys.Holds := by
  w_on; o_law; k_head; (case hw => w_witness2)
  k_fill
  refine Mn.walk_G (l := PySem.Challenge.rw_stepforms_k78_corners_of_polys) (n := 63) (k := 60) (Pg := Mn.K78.Pr) (ix := Mn.K78.f_law) (x := ("_law_script" : Str)) rfl (by decide) rfl ⟨rfl, by decide, by decide⟩ (fun w h Y => PySem.W.kIn_of Y) ?F Mn.K78.pure
  case F =>
    intro w mg fa h KX G hmg
    refine' Mn.K78.all_mk (l := PySem.Challenge.rw_stepforms_k78_corners_of_polys) KX G hmg ?a0 ?l0 ?c0 ?k0 ?a1 ?l1 ?c1 ?k1 ?a2 ?l2 ?c2 ?k2 ?a3 ?l3 ?c3 ?k3 ?a4 ?l4 ?c4 ?k4 ?a5 ?l5 ?c5 ?k5 ?a6 ?l6 ?c6 ?k6 ?a7 ?l7 ?c7 ?k7 ?a8 ?l8 ?c8 ?k8 ?a9 ?l9 ?c9 ?k9 ?a10 ?l10 ?c10 ?k10 ?a11 ?l11 ?c11 ?k11 ?a12 ?l12 ?c12 ?k12 ?a13 ?l13 ?c13 ?k13 ?a14 ?l14 ?c14 ?k14 ?a15 ?l15 ?c15 ?k15 ?a16 ?l16 ?c16 ?k16 ?a17 ?l17 ?c17 ?k17 ?a18 ?l18 ?c18 ?k18 ?a19 ?l19 ?c19 ?k19 ?a20 ?l20 ?c20 ?k20 ?a21 ?l21 ?c21 ?k21 ?a22 ?l22 ?c22 ?k22 ?a23 ?l23 ?c23 ?k23 ?a24 ?l24 ?c24 ?k24 ?a25 ?l25 ?c25 ?k25 ?a26 ?l26 ?c26 ?k26 ?a27 ?l27 ?c27 ?k27 ?a28 ?l28 ?c28 ?k28 ?a29 ?l29 ?c29 ?k29 ?a30 ?l30 ?c30 ?k30 ?a31 ?l31 ?c31 ?k31 ?a32 ?l32 ?c32 ?k32 ?a33 ?l33 ?c33 ?k33 ?a34 ?l34 ?c34 ?k34 ?a35 ?l35 ?c35 ?k35 ?a36 ?l36 ?c36 ?k36 ?z0 ?z1 ?z2 ?z3 ?z4 ?z5 ?z6 ?z7 ?z8 ?z9 ?z10 ?z11 ?n0 ?m0 ?w0 ?n1 ?m1 ?w1 ?n2 ?m2 ?w2 ?n3 ?m3 ?w3 ?m3_0 ?w3_0 ?x0 ?x1 ?x2 ?x3 ?x4 ?x5 ?x6 ?xr ?xg ?xf ?xn ?xt ?xe0 ?xh0 ?xk0 ?xc0 ?xe1 ?xh1 ?xk1 ?xc1 ?xe2 ?xh2 ?xk2 ?xc2 ?xe3 ?xh3 ?xk3 ?xc3 ?xe4 ?xh4 ?xk4 ?xc4 ?xe5 ?xh5 ?xk5 ?xc5 ?xe6 ?xh6 ?xk6 ?xc6 ?xL0 ?xs0 ?xa0 ?xb0 ?xi0 ?xj0 ?xl0 ?xo0 ?xp0 ?xq0 ?xu0 ?xm0 ?xv0 ?xw0_0 ?xy0_1 ?xy0_0 ?xy0_2 ?xy0_3 ?xy0_4 ?xy0_5 ?xy0_6
    (case a0 => k_is)
    (case l0 => k_is)
    (case c0 => k_is)
    (case k0 => k_is)
    (case a1 => k_is)
    (case l1 => k_is)
    (case c1 => k_is)
    (case k1 => k_is)
    (case a2 => k_is)
    (case l2 => k_is)
    (case c2 => k_is)
    (case k2 => k_is)
    (case a3 => k_is)
    (case l3 => k_is)
    (case c3 => k_is)
    (case k3 => k_is)
    (case a4 => k_is)
    (case l4 => k_is)
    (case c4 => k_is)
    (case k4 => k_is)
    (case a5 => k_is)
    (case l5 => k_is)
    (case c5 => k_is)
    (case k5 => k_is)
    (case a6 => k_is)
    (case l6 => k_is)
    (case c6 => k_is)
    (case k6 => k_is)
    (case a7 => k_is)
    (case l7 => k_is)
    (case c7 => k_is)
    (case k7 => k_is)
    (case a8 => k_is)
    (case l8 => k_is)
    (case c8 => k_is)
    (case k8 => k_is)
    (case a9 => k_is)
    (case l9 => k_is)
    (case c9 => k_is)
    (case k9 => k_is)
    (case a10 => k_is)
    (case l10 => k_is)
    (case c10 => k_is)
    (case k10 => k_is)
    (case a11 => k_is)
    (case l11 => k_is)
    (case c11 => k_is)
    (case k11 => k_is)
    (case a12 => k_is)
    (case l12 => k_is)
    (case c12 => k_is)
    (case k12 => k_is)
    (case a13 => k_is)
    (case l13 => k_is)
    (case c13 => k_is)
    (case k13 => k_is)
    (case a14 => k_is)
    (case l14 => k_is)
    (case c14 => k_is)
    (case k14 => k_is)
    (case a15 => k_is)
    (case l15 => k_is)
    (case c15 => k_is)
    (case k15 => k_is)
    (case a16 => k_is)
    (case l16 => k_is)
    (case c16 => k_is)
    (case k16 => k_is)
    (case a17 => k_is)
    (case l17 => k_is)
    (case c17 => k_is)
    (case k17 => k_is)
    (case a18 => k_is)
    (case l18 => k_is)
    (case c18 => k_is)
    (case k18 => k_is)
    (case a19 => k_is)
    (case l19 => k_is)
    (case c19 => k_is)
    (case k19 => k_is)
    (case a20 => k_is)
    (case l20 => k_is)
    (case c20 => k_is)
    (case k20 => k_is)
    (case a21 => k_is)
    (case l21 => k_is)
    (case c21 => k_is)
    (case k21 => k_is)
    (case a22 => k_is)
    (case l22 => k_is)
    (case c22 => k_is)
    (case k22 => k_is)
    (case a23 => k_is)
    (case l23 => k_is)
    (case c23 => k_is)
    (case k23 => k_is)
    (case a24 => k_is)
    (case l24 => k_is)
    (case c24 => k_is)
    (case k24 => k_is)
    (case a25 => k_is)
    (case l25 => k_is)
    (case c25 => k_is)
    (case k25 => k_is)
    (case a26 => k_is)
    (case l26 => k_is)
    (case c26 => k_is)
    (case k26 => k_is)
    (case a27 => k_is)
    (case l27 => k_is)
    (case c27 => k_is)
    (case k27 => k_is)
    (case a28 => k_is)
    (case l28 => k_is)
    (case c28 => k_is)
    (case k28 => k_is)
    (case a29 => k_is)
    (case l29 => k_is)
    (case c29 => k_is)
    (case k29 => k_is)
    (case a30 => k_is)
    (case l30 => k_is)
    (case c30 => k_is)
    (case k30 => k_is)
    (case a31 => k_is)
    (case l31 => k_is)
    (case c31 => k_is)
    (case k31 => k_is)
    (case a32 => k_is)
    (case l32 => k_is)
    (case c32 => k_is)
    (case k32 => k_is)
    (case a33 => k_is)
    (case l33 => k_is)
    (case c33 => k_is)
    (case k33 => k_is)
    (case a34 => k_is)
    (case l34 => k_is)
    (case c34 => k_is)
    (case k34 => k_is)
    (case a35 => k_is)
    (case l35 => k_is)
    (case c35 => k_is)
    (case k35 => k_is)
    (case a36 => k_is)
    (case l36 => k_is)
    (case c36 => k_is)
    (case k36 => k_is)
    (case z0 => k_is)
    (case z1 => k_is)
    (case z2 => k_is)
    (case z3 => k_is)
    (case z4 => k_is)
    (case z5 => k_is)
    (case z6 => k_is)
    (case z7 => k_is)
    (case z8 => k_is)
    (case z9 => k_is)
    (case z10 => k_is)
    (case z11 => k_is)
    (case n0 => k_is)
    (case m0 => k_is)
    (case w0 => exact (.cons ⟨_, rfl⟩ (.cons ⟨_, rfl⟩ .nil)))
    (case n1 => k_is)
    (case m1 => k_is)
    (case w1 => exact (.cons ⟨_, rfl⟩ (.cons ⟨_, rfl⟩ .nil)))
    (case n2 => k_is)
    (case m2 => k_is)
    (case w2 => exact (.cons ⟨_, rfl⟩ (.cons ⟨_, rfl⟩ .nil)))
    (case n3 => k_is)
    (case m3 => k_is)
    (case w3 => exact (.cons rfl .nil))
    (case m3_0 => k_is)
    (case w3_0 => exact (.cons ⟨_, rfl⟩ (.cons ⟨_, rfl⟩ .nil)))
    (case x0 => k_is)
    (case x1 => k_is)
    (case x2 => k_is)
    (case x3 => k_is)
    (case x4 => k_is)
    (case x5 => k_is)
    (case x6 => k_is)
    (case xr => k_is)
    (case xg => k_is)
    (case xf => k_is)
    (case xn => k_is)
    (case xt => k_is)
    (case xe0 => k_is)
    (case xh0 => k_is)
    (case xk0 => k_is)
    (case xc0 => k_is)
    (case xe1 => k_is)
    (case xh1 => k_is)
    (case xk1 => k_is)
    (case xc1 => k_is)
    (case xe2 => k_is)
    (case xh2 => k_is)
    (case xk2 => k_is)
    (case xc2 => k_is)
    (case xe3 => k_is)
    (case xh3 => k_is)
    (case xk3 => k_is)
    (case xc3 => k_is)
    (case xe4 => k_is)
    (case xh4 => k_is)
    (case xk4 => k_is)
    (case xc4 => k_is)
    (case xe5 => k_is)
    (case xh5 => k_is)
    (case xk5 => k_is)
    (case xc5 => k_is)
    (case xe6 => k_is)
    (case xh6 => k_is)
    (case xk6 => k_is)
    (case xc6 => k_is)
    (case xL0 => k_is)
    (case xs0 => k_is)
    (case xa0 => k_is)
    (case xb0 => k_is)
    (case xi0 => k_is)
    (case xj0 => k_is)
    (case xl0 => k_is)
    (case xo0 => k_is)
    (case xp0 => k_is)
    (case xq0 => k_is)
    (case xu0 => k_is)
    (case xm0 => k_is)
    (case xv0 => k_is)
    (case xw0_0 => k_is)
    (case xy0_1 => k_is)
    (case xy0_0 => k_is)
    (case xy0_2 => k_is)
    (case xy0_3 => k_is)
    (case xy0_4 => k_is)
    (case xy0_5 => k_is)
    (case xy0_6 => k_is)
end
