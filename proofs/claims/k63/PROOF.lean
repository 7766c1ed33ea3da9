import PyProof.Rows.All
import Wide.All
import OpenK.AllK
import Wide.FinOn
import HandS.ForMost
import HandS.ForExc
import HandS.IsInst
import HandS.ExcIs
import HandS.ExcInit
import HandS.ExcField
import HandS.Defaults
import HandS.MakeKwOnly
import HandS.Text
import HandS.Flow
import HandS.Wide
import HandS.Codes
import HandS.TupAny
import HandS.Style
import HandS.SortInts
import HandS.More
import HandS.Dict
import HandS.DictComp
import HandS.Deep
import HandS.SetFor
import HandS.SortRule
import HandS.HeadHook1
import KE.KExcIs
import HandS.ClsMeth
import HandS.Strs
import HandS.SetKeys
import HandS.TupSets
import HandS.Head0
import HandS.Head1
import HandS.Head2
import HandS.HeadEnd
import HandS.HeadHook2
import PySem.Challenge.RW_tabletsky_k63_whole_months_one_behind_an
set_option Elab.async false
set_option linter.all false
set_option maxRecDepth 100000
/-! SvA: values without the heap, a store of changeable cells, and what a text of our own small language means -/
namespace SV
open PySem
open L2 (V)
open PyProof.Rows (b2i)

/-- plain data: what never changes any more -/
inductive D where
  | non | bl (b : Bool) | int (i : Int) | str (s : Str)
  | tup (xs : List D) | lst (xs : List D)
  | obj (c : Nat) (fs : List (Str × D))
  | dct (kvs : List (L2.Key × D))
/-- a value: plain data, a cell of the store, the error that a suite holds -/
inductive R where
  | v (d : D) | ref (n : Nat) | ex (c : Nat) (fs : List (Str × D))
/-- a cell: a list, an object that may still change, or frozen data -/
inductive Cell where
  | lst (xs : List R) | obj (c : Nat) (fs : List (Str × R)) | fz (d : D) | dct (kvs : List (L2.Key × R))
abbrev Store := List Cell
abbrev Env := List (Option R)
inductive Out (α : Type) where
  | ok (a : α) (st : Store) | exc (c : Nat) (fs : List (Str × D)) (st : Store) | bad
abbrev M (α : Type) := Store → Out α
@[reducible] def M.pure {α : Type} (a : α) : M α := fun st => .ok a st
def Out.bind {α β : Type} (o : Out α) (f : α → M β) : Out β := match o with
  | .ok a st => f a st
  | .exc c fs st => .exc c fs st
  | .bad => .bad
@[reducible] def M.bind {α β : Type} (m : M α) (f : α → M β) : M β := fun st => (m st).bind f
@[simp] theorem Out.bind_ok {α β : Type} (a : α) (st : Store) (f : α → M β) : (Out.ok a st).bind f = f a st := id rfl
@[simp] theorem Out.bind_exc {α β : Type} (c : Nat) (fs : List (Str × D)) (st : Store) (f : α → M β) : (Out.exc c fs st : Out α).bind f = .exc c fs st := id rfl
@[simp] theorem Out.bind_bad {α β : Type} (f : α → M β) : (Out.bad : Out α).bind f = .bad := id rfl
theorem M.bind_assoc {α β γ : Type} (m : M α) (f : α → M β) (k : β → M γ) : (m.bind f).bind k = m.bind fun x => (f x).bind k := by
  funext st
  show ((m st).bind f).bind k = (m st).bind fun x => (f x).bind k
  cases m st <;> rfl
theorem M.bind_assoc_at {α β γ : Type} (m : M α) (f : α → M β) (k : β → M γ) (st : Store) : (m.bind f).bind k st = m.bind (fun x => (f x).bind k) st := congrFun (M.bind_assoc m f k) st
theorem M.bind_inv {α β : Type} {m : M α} {f : α → M β} {st st' : Store} {r : β} (h : (m.bind f) st = .ok r st') : ∃ a st1, m st = .ok a st1 ∧ f a st1 = .ok r st' := by
  have h' : (m st).bind f = .ok r st' := h
  cases q : m st with
  | ok a st1 => rw [q] at h'; exact ⟨a, st1, rfl, h'⟩
  | exc c fs s => rw [q] at h'; cases h'
  | bad => rw [q] at h'; cases h'
theorem M.pure_bind {α β : Type} (a : α) (f : α → M β) : (M.pure a).bind f = f a := rfl
theorem M.pure_bind_at {α β : Type} (a : α) (f : α → M β) (st : Store) : (M.pure a).bind f st = f a st := rfl
theorem M.bind_at {α β : Type} (m : M α) (f : α → M β) (st : Store) : (m.bind f) st = (m st).bind f := rfl
def M.bad {α : Type} : M α := fun _ => .bad
@[reducible] def M.of {α : Type} : Option α → M α
  | some a => M.pure a
  | none => M.bad

inductive Bop where | add | sub | mul | fdiv | mod | pow
inductive Cop where | eq | ne | lt | le | gt | ge | isN | isntN | inn | nin
inductive Bf where | len | abs | int | str | all | any | sum | max | min | list | tuple | maxL | minL | sorted
inductive Bm where | append | insert | pop | popAt | reverse | clear
/-- methods of texts that take a text -/
inductive Tm where | split | partition
/-- methods of lists that look for a thing -/
inductive Lm where | index | count

mutual
/-- an expression -/
inductive Ex where
  | var (i : Nat)
  | con (d : D)
  | bin (o : Bop) (a b : Ex)
  | neg (a : Ex)
  | not (a : Ex)
  | cmp (o : Cop) (a b : Ex)
  | chn (o p : Cop) (a b c : Ex)
  | and (a b : Ex)
  | or (a b : Ex)
  | ite (c a b : Ex)
  | tup (es : List Ex)
  | lst (cell : Bool) (es : List Ex)
  | ix (a b : Ex)
  | sl (a : Ex) (lo hi : Option Ex)
  | call (f : Nat) (es : List Ex) (pm : List (Nat ⊕ D))
  | blt (b : Bf) (es : List Ex)
  | bm (m : Bm) (o : Ex) (es : List Ex)
  | isi (a : Ex) (cs : List (Nat ⊕ String))
  | attr (a : Ex) (f : Str)
  | isx (i : Nat) (cs : List (Nat ⊕ String))
  | xat (i : Nat) (f : Str)
  | lc (cell : Bool) (elt : Ex) (tg : Tg) (it : It) (cond : Option Ex) (own : List Nat)
  | new (cell : Bool) (c f : Nat) (es : List Ex) (pm : List (Nat ⊕ D))
  | mth (o : Ex) (nm : Str) (es : List Ex) (pm : List (Nat ⊕ D))
  | fz (a : Ex)
  | rep (es : List Ex) (k : Ex)
  | rev (a : Ex)
  | lstc (a : Ex)
  | catc (a b : Ex)
  | join (a b : Ex)
  | slc (a : Ex) (lo hi : Option Ex)
  | callT (f : Nat) (es : List Ex) (pm : List (Nat ⊕ D))
  | mthA (t : Bool) (cs : List Nat) (o : Ex) (nm : Str) (es : List Ex) (pm : List (Nat ⊕ D))
  | bad
  | dnew
  | dix (a b : Ex)
  | din (neg : Bool) (a b : Ex)
  | dget (a b : Ex) (c : Option Ex)
  | dkeys (a : Ex)
  | txm (m : Tm) (a b : Ex)
  | lsm (m : Lm) (a b : Ex)
  | dc (k v : Ex) (tg : Tg) (it : It) (cond : Option Ex) (own : List Nat)
  | lcC (cell : Bool) (elt : Ex) (tg : Tg) (it : Ic) (cond : Option Ex) (own : List Nat)
  | dpairs (a : Ex)
  | dcC (k v : Ex) (tg : Tg) (it : Ic) (cond : Option Ex) (own : List Nat)
  | lenset (a : Ex)
  | sortset (a : Ex)
  | lrng (a b : Ex)
  | lc2 (cell : Bool) (elt : Ex) (tg : Tg) (it : It) (cond : Option Ex) (tg1 : Tg) (it1 : It) (cond1 : Option Ex) (own : List Nat)
/-- a target: a name, or several -/
inductive Tg where
  | one (i : Nat) | many (is : List Nat)
/-- what is walked -/
inductive It where
  | over (e : Ex) | rng (a : Ex) | rng2 (a b : Ex) | enm (e : Ex) | zip (a b : Ex)
/-- what is walked while it stays as it is -/
inductive Ic where
  | over (e : Ex) | enm (e : Ex) | zip (a b : Ex)
end

inductive Sm where
  | asg (i : Nat) (e : Ex)
  | unp (is : List Nat) (e : Ex)
  | par (i j : Nat) (a b : Ex)
  | par3 (i j l : Nat) (a b c : Ex)
  | ex (e : Ex)
  | ite (c : Ex) (t f : List Sm)
  | frr (tg : Tg) (it : It) (body : List Sm)
  | whl (c : Ex) (body : List Sm)
  | ret (e : Ex)
  | retN
  | rse (c : Nat) (es : List Ex) (fs : List Str)
  | tri (body : List Sm) (cs : List Nat) (i : Option Nat) (suite : List Sm)
  | seti (o k e : Ex)
  | setf (o : Ex) (f : Str) (e : Ex)
  | pass | brk | cont
  | bad
  | dput (o k e : Ex)
  | frrC (tg : Tg) (it : Ic) (body : List Sm)

/-! ### what the parts mean -/
def valOf : R → Option D
  | .v d => some d
  | _ => none
/-- data that a value stands for, cells read one deep -/
def force (st : Store) : R → Option D
  | .v d => some d
  | .ref n => match st[n]? with
    | some (.lst xs) => (xs.mapM valOf).map D.lst
    | some (.fz d) => some d
    | _ => none
  | .ex _ _ => none
/-- read and leave as it is -/
def rdD (r : R) : M D := fun st => match force st r with
  | some d => .ok d st
  | none => .bad
def frzL (f : R → M D) : List R → M (List D)
  | [] => M.pure []
  | r :: rs => (f r).bind fun d => (frzL f rs).bind fun ds => M.pure (d :: ds)
def frzFl {κ : Type} (f : R → M D) : List (κ × R) → M (List (κ × D))
  | [] => M.pure []
  | p :: ps => (f p.2).bind fun d => (frzFl f ps).bind fun ds => M.pure ((p.1, d) :: ds)
def isL : Option Cell → Bool
  | some (.lst _) => true
  | _ => false
def isO : Option Cell → Bool
  | some (.obj _ _) => true
  | _ => false
def isDc : Option Cell → Bool
  | some (.dct _) => true
  | _ => false
/-- frozen: what the cell holds never changes any more, to a depth -/
def frzN : Nat → R → M D
  | 0, r => match r with
    | .v d => M.pure d
    | _ => M.bad
  | k + 1, r => match r with
    | .v d => M.pure d
    | .ex _ _ => M.bad
    | .ref n => fun st => match st[n]? with
      | some (.lst xs) => (frzL (frzN k) xs st).bind fun ds st1 => if isL st1[n]? = true then .ok (.lst ds) (st1.set n (.fz (.lst ds))) else .bad
      | some (.obj c fs) => (frzFl (frzN k) fs st).bind fun ds st1 => if isO st1[n]? = true then .ok (.obj c ds) (st1.set n (.fz (.obj c ds))) else .bad
      | some (.dct kvs) => (frzFl (frzN k) kvs st).bind fun ds st1 => if isDc st1[n]? = true then .ok (.dct ds) (st1.set n (.fz (.dct ds))) else .bad
      | some (.fz d) => .ok d st
      | none => .bad
def frz (r : R) : M D := frzN 6 r
def frzs : List R → M (List D)
  | [] => M.pure []
  | r :: rs => (frz r).bind fun d => (frzs rs).bind fun ds => M.pure (d :: ds)
/-- the items of a list or a tuple, as values -/
def items (r : R) : M (List R) := fun st => match r with
  | .v (.lst ds) => .ok (ds.map R.v) st
  | .v (.tup ds) => .ok (ds.map R.v) st
  | .ref n => match st[n]? with
    | some (.lst xs) => .ok xs st
    | some (.fz (.lst ds)) => .ok (ds.map R.v) st
    | some (.fz (.tup ds)) => .ok (ds.map R.v) st
    | _ => .bad
  | _ => .bad
def alloc (c : Cell) : M R := fun st => .ok (.ref st.length) (st ++ [c])

mutual
def toP : D → Option PyData
  | .non => some .none
  | .bl b => some (.bool b)
  | .int i => some (.int i)
  | .str s => some (.str s)
  | .tup xs => (toPs xs).map .tuple
  | .lst xs => (toPs xs).map .list
  | .obj _ _ => none
  | .dct _ => none
def toPs : List D → Option (List PyData)
  | [] => some []
  | x :: xs => match toP x, toPs xs with
    | some p, some ps => some (p :: ps)
    | _, _ => none
end
/-- == -/
def deq (a b : D) : Option Bool := match toP a, toP b with
  | some p, some q => if SeqAt.shaped p = true ∧ SeqAt.shaped q = true then some (PyData.eqv p q) else none
  | _, _ => none
def opB (o : Bop) (a b : D) : Option D := match o, a, b with
  | .add, .int i, .int j => some (.int (i + j))
  | .add, .int i, .bl j => some (.int (i + b2i j))
  | .add, .str s, .str t => if s.length + t.length ≤ sizeLine then some (.str (s ++ t)) else none
  | .add, .lst s, .lst t => if s.length + t.length ≤ sizeLine then some (.lst (s ++ t)) else none
  | .add, .tup s, .tup t => if s ≠ [] ∧ s.length + t.length ≤ sizeLine then some (.tup (s ++ t)) else none
  | .sub, .int i, .int j => some (.int (i - j))
  | .mul, .int i, .int j => if i.natAbs.log2 + j.natAbs.log2 < 1000000 ∨ (-(2 ^ 64) < i ∧ i < 2 ^ 64) ∨ (-(2 ^ 64) < j ∧ j < 2 ^ 64) then some (.int (i * j)) else none
  | .mul, .str s, .int k => if k = 0 then some (.str Str.empty) else if k = 1 then some (.str s) else none
  | .fdiv, .int i, .int j => if j ≠ 0 ∧ j.natAbs.log2 < 9000 then some (.int (i.fdiv j)) else none
  | .mod, .int i, .int j => if j ≠ 0 then some (.int (i.fmod j)) else none
  | .pow, .int i, .int j => if 0 ≤ j ∧ j ≤ 1000000 ∧ i.natAbs < 2 ^ 64 then some (.int (i ^ j.toNat)) else none
  | _, _, _ => none
def truD : D → Option Bool
  | .non => some false
  | .bl b => some b
  | .int i => some (i != 0)
  | .str s => if s.length ≤ sizeLine then some (s.length != 0) else none
  | .lst xs => some (!xs.isEmpty)
  | .tup xs => some (!xs.isEmpty)
  | _ => none
def flatD : D → Option L2.V
  | .non => some .non
  | .bl b => some (.bl b)
  | .int i => some (.int i)
  | .str s => some (.str s)
  | _ => none
/-- x in a list of data of any depth -/
def inD (a : D) (xs : List D) : Option Bool := match toPs xs, toP a with
  | some ps, some p => if SeqAt.shaped (.list ps) = true ∧ SeqAt.shaped p = true then some (ps.any fun z => PyData.eqv z p) else none
  | _, _ => none
def opC (o : Cop) (a b : D) : Option Bool := match o with
  | .eq => deq a b
  | .ne => (deq a b).map (!·)
  | .lt => match a, b with | .int i, .int j => some (decide (i < j)) | _, _ => none
  | .le => match a, b with | .int i, .int j => some (decide (i ≤ j)) | _, _ => none
  | .gt => match a, b with | .int i, .int j => some (decide (j < i)) | _, _ => none
  | .ge => match a, b with | .int i, .int j => some (decide (j ≤ i)) | _, _ => none
  | .isN => match a, b with | .non, .non => some true | _, .non => some false | _, _ => none
  | .isntN => match a, b with | .non, .non => some false | _, .non => some true | _, _ => none
  | .inn => match b with
    | .str t => match a with | .str s => some (!(Builtin.Str.occurrences t s 0 t.length 1).isEmpty) | _ => none
    | .lst xs => match flatD a, xs.mapM flatD with | some x, some ys => some (L2.inV x ys) | _, _ => inD a xs
    | .tup xs => match flatD a, xs.mapM flatD with | some x, some ys => some (L2.inV x ys) | _, _ => none
    | _ => none
  | .nin => match b with
    | .str t => match a with | .str s => some (Builtin.Str.occurrences t s 0 t.length 1).isEmpty | _ => none
    | .lst xs => match flatD a, xs.mapM flatD with | some x, some ys => some (!L2.inV x ys) | _, _ => (inD a xs).map (!·)
    | .tup xs => match flatD a, xs.mapM flatD with | some x, some ys => some (!L2.inV x ys) | _, _ => none
    | _ => none
def cutR {α : Type} (xs : List α) (lo hi : Option Int) : List α := (xs.drop (HT.sIx xs.length 0 lo)).take (HT.sIx xs.length xs.length hi - HT.sIx xs.length 0 lo)

def bindTg : Tg → R → Env → M Env
  | .one i, r, ρ => M.pure (ρ.set i (some r))
  | .many is, r, ρ => (items r).bind fun xs => if xs.length = is.length then M.pure ((is.zip xs).foldl (fun ρ p => ρ.set p.1 (some p.2)) ρ) else M.bad
def wipeE (ρ : Env) : List Nat → Env
  | [] => ρ
  | v :: vs => (wipeE ρ vs).set v none
def rdDs : List R → M (List D)
  | [] => M.pure []
  | r :: rs => (rdD r).bind fun d => (rdDs rs).bind fun ds => M.pure (d :: ds)
def truth (r : R) : M Bool := (rdD r).bind fun d => M.of (truD d)
def intOf (r : R) : M Int := (rdD r).bind fun d => match d with
  | .int i => M.pure i
  | _ => M.bad
def assem (rs : List R) : List (Nat ⊕ D) → Option (List R)
  | [] => some []
  | .inl k :: pm => match rs[k]?, assem rs pm with
    | some r, some l => some (r :: l)
    | _, _ => none
  | .inr d :: pm => (assem rs pm).map (R.v d :: ·)
/-- a call: with plain data alone it runs over a store of its own, and what it hands back is frozen -/
def callF (F : List R → M R) (args : List R) : M R := fun st =>
  if args.all (fun r => (valOf r).isSome) = true then
    match F args [] with
    | .ok r s1 => (match frz r s1 with | .ok d _ => .ok (.v d) st | _ => .bad)
    | .exc c fs _ => .exc c fs st
    | .bad => .bad
  else F args st
/-- a store's cells behind k others -/
def shR (k : Nat) : R → R
  | .v d => .v d
  | .ref n => .ref (k + n)
  | .ex c fs => .ex c fs
def shC (k : Nat) : Cell → Cell
  | .lst xs => .lst (xs.map (shR k))
  | .obj c fs => .obj c (fs.map fun p => (p.1, shR k p.2))
  | .dct kvs => .dct (kvs.map fun p => (p.1, shR k p.2))
  | .fz d => .fz d
/-- a call whose answer may still change: what it made is laid behind the caller's cells -/
def thawF (F : List R → M R) (args : List R) : M R := fun st =>
  if args.all (fun r => (valOf r).isSome) = true then
    match F args [] with
    | .ok r s1 => .ok (shR st.length r) (st ++ s1.map (shC st.length))
    | .exc c fs _ => .exc c fs st
    | .bad => .bad
  else F args st
def index (x y : R) : M R := (intOf y).bind fun i => match x with
  | .v (.str s) => if s.length ≤ sizeLine then (match L2.atI s.cps.toList i with | some c => M.pure (.v (.str ⟨#[c]⟩)) | none => M.bad) else M.bad
  | _ => (items x).bind fun xs => M.of (L2.atI xs i)
def slice (x : R) (lo hi : Option Int) : M R := (rdD x).bind fun d => match d with
  | .lst ds => M.pure (.v (.lst (cutR ds lo hi)))
  | .tup ds => M.pure (.v (.tup (cutR ds lo hi)))
  | .str s => if s.length ≤ sizeLine then M.pure (.v (.str (L2.cutS s lo hi))) else M.bad
  | _ => M.bad
/-- list(x), as a cell -/
def lstC (x : R) : M R := (items x).bind fun xs => alloc (.lst xs)
/-- the items of a list -/
def litems (r : R) : M (List R) := fun st => match r with
  | .v (.lst ds) => .ok (ds.map R.v) st
  | .ref n => match st[n]? with
    | some (.lst xs) => .ok xs st
    | some (.fz (.lst ds)) => .ok (ds.map R.v) st
    | _ => .bad
  | _ => .bad
def catC (x y : R) : M R := (litems x).bind fun xs => (litems y).bind fun ys => if xs.length + ys.length ≤ sizeLine then alloc (.lst (xs ++ ys)) else M.bad
def slC (x : R) (lo hi : Option Int) : M R := (litems x).bind fun xs => alloc (.lst (cutR xs lo hi))
/-- sep.join(texts) -/
def allS : List D → Option (List Str)
  | [] => some []
  | .str b :: ds => (allS ds).map (b :: ·)
  | _ => none
def chkTx (d : D) : M Unit := match d with
  | .str _ => M.pure ()
  | _ => M.bad
def joinD (d : D) (y : R) : M R := (rdD y).bind fun e => match d, e with
  | .str s, .lst ds => (match allS ds with
    | some ys => if (ys.map (·.length)).sum + ys.length * s.length ≤ 16777216 then M.pure (.v (.str (Txt.join s ys))) else M.bad
    | none => M.bad)
  | _, _ => M.bad
def revD (x : R) : M R := (rdD x).bind fun d => match d with
  | .lst ds => M.pure (.v (.lst ds.reverse))
  | _ => M.bad
/-- [..] * k -/
def repD (ds : List D) (y : R) : M R := (intOf y).bind fun k => if -(2 ^ 63) ≤ k ∧ k < 2 ^ 63 ∧ ds.length * k.toNat ≤ sizeLine then M.pure (.v (.lst (List.replicate k.toNat ds).flatten)) else M.bad
def sortI (ns : List Int) : List Int := ns.mergeSort (fun a b => decide (a ≤ b))
def allB : List D → Option (List Bool)
  | [] => some []
  | .bl b :: ds => (allB ds).map (b :: ·)
  | _ => none
def allI : List D → Option (List Int)
  | [] => some []
  | .int b :: ds => (allI ds).map (b :: ·)
  | _ => none
def maxI : List Int → Option Int
  | [] => none
  | x :: xs => some (match maxI xs with | none => x | some m => if x < m then m else x)
def minI : List Int → Option Int
  | [] => none
  | x :: xs => some (match minI xs with | none => x | some m => if m < x then m else x)
def opF (b : Bf) (ds : List D) : Option D := match b, ds with
  | .len, [.lst xs] => some (.int xs.length)
  | .len, [.tup xs] => some (.int xs.length)
  | .len, [.str s] => if s.length ≤ sizeLine then some (.int s.length) else none
  | .abs, [.int i] => some (.int (if i < 0 then -i else i))
  | .int, [.int i] => some (.int i)
  | .int, [.bl b] => some (.int (if b then 1 else 0))
  | .int, [.str s] => (match PySem.intText? s with | some n => if s.length ≤ 640 then some (.int n) else none | none => none)
  | .str, [.int i] => if i.natAbs.log2 < 1920 then some (.str (toString i)) else none
  | .all, [.lst xs] => (allB xs).map fun bs => .bl (bs.all id)
  | .any, [.lst xs] => (allB xs).map fun bs => .bl (bs.any id)
  | .sum, [.lst xs] => (allI xs).map fun ns => .int ns.sum
  | .max, [.int i, .int j] => some (.int (if j > i then j else i))
  | .min, [.int i, .int j] => some (.int (if j < i then j else i))
  | .maxL, [.lst xs] => ((allI xs).bind maxI).map D.int
  | .minL, [.lst xs] => ((allI xs).bind minI).map D.int
  | .list, [.lst xs] => some (.lst xs)
  | .list, [.tup xs] => some (.lst xs)
  | .tuple, [.lst xs] => some (.tup xs)
  | .tuple, [.tup xs] => some (.tup xs)
  | .sorted, [.lst xs] => (allI xs).map fun ns => .lst ((sortI ns).map D.int)
  | _, _ => none
/-- a list cell changed -/
def onCell (r : R) (f : List R → Option (R × List R)) : M R := fun st => match r with
  | .ref n => match st[n]? with
    | some (.lst xs) => (match f xs with | some (a, ys) => .ok a (st.set n (.lst ys)) | none => .bad)
    | _ => .bad
  | _ => .bad
def isZ : R → Bool
  | .v (.int i) => i == 0
  | _ => false
def opM (m : Bm) (r : R) (as : List R) : M R := match m with
  | .append => (match as with | [a] => onCell r fun xs => if xs.length < sizeLine then some (.v .non, xs ++ [a]) else none | _ => M.bad)
  | .insert => (match as with | [i, a] => onCell r fun xs => if isZ i = true ∧ xs.length < sizeLine then some (.v .non, a :: xs) else none | _ => M.bad)
  | .pop => (match as with | [] => onCell r fun xs => (match xs[xs.length - 1]? with | some y => some (y, xs.dropLast) | none => none) | _ => M.bad)
  | .popAt => (match as with | [.v (.int i)] => onCell r fun xs => if -(2 ^ 63) ≤ i ∧ i < 2 ^ 63 then (match seqIndex? i xs.length with | some k => (match xs[k]? with | some y => some (y, xs.eraseIdx k) | none => none) | none => none) else none | _ => M.bad)
  | .reverse => (match as with | [] => onCell r fun xs => some (.v .non, xs.reverse) | _ => M.bad)
  | .clear => (match as with | [] => onCell r fun xs => some (.v .non, []) | _ => M.bad)
/-- a list that may change -/
def chkL (r : R) : M Unit := fun st => match r with
  | .ref n => match st[n]? with
    | some (.lst _) => .ok () st
    | _ => .bad
  | _ => .bad
/-- the built-in class of plain data -/
def tyD : D → Option String
  | .non => some "NoneType"
  | .bl _ => some "bool"
  | .int _ => some "int"
  | .str _ => some "str"
  | .tup _ => some "tuple"
  | .lst _ => some "list"
  | .obj _ _ => none
  | .dct _ => some "dict"
def isTy (t T : String) : Bool := t == T || (t == "bool" && T == "int") || T == "object"
/-- sub: which own class stands under which; bas: which built-in class an own one stands under -/
structure Ctab where
  sub : Nat → Nat → Bool
  bas : Nat → String → Bool
  mth : Nat → Str → Option Nat
/-- isinstance(x, c) of data -/
def isOne (ct : Ctab) (d : D) : Nat ⊕ String → Option Bool
  | .inl C => match d with
    | .obj c _ => some (ct.sub c C)
    | _ => some false
  | .inr T => match d with
    | .obj c _ => some (ct.bas c T)
    | d => (tyD d).map (isTy · T)
def isAny (ct : Ctab) (d : D) : List (Nat ⊕ String) → Option Bool
  | [] => some false
  | c :: cs => match isOne ct d c with
    | some true => some true
    | some false => isAny ct d cs
    | none => none
/-- .. of an object: its class -/
def headD (st : Store) : R → Option D
  | .ref n => match st[n]? with
    | some (.lst _) => some (.lst [])
    | some (.obj c _) => some (.obj c [])
    | some (.dct _) => some (.dct [])
    | some (.fz d) => some d
    | none => none
  | .v d => some d
  | .ex _ _ => none
def headM (x : R) : M D := fun st => M.of (headD st x) st
def isExc1 (ct : Ctab) (c : Nat) : Nat ⊕ String → Bool
  | .inl C => ct.sub c C
  | .inr T => ct.bas c T
def attrR (r : R) (f : Str) : M R := fun st => match r with
  | .v (.obj _ fs) => (match fs.lookup f with | some d => .ok (.v d) st | none => .bad)
  | .ref n => (match st[n]? with
    | some (.obj _ fs) => (match fs.lookup f with | some d => .ok d st | none => .bad)
    | some (.fz (.obj _ fs)) => (match fs.lookup f with | some d => .ok (.v d) st | none => .bad)
    | _ => .bad)
  | _ => .bad
/-- C(..): a new object, made by its __init__; of plain data alone it is made apart, and frozen -/
def newF (cell : Bool) (c : Nat) (pm : List (Nat ⊕ D)) (F : List R → M R) (rs : List R) : M R := fun st =>
  if (!cell && rs.all fun r => (valOf r).isSome) = true then
    match assem (.ref 0 :: rs) pm with
    | some args => (match F args [.obj c []] with
      | .ok (.v .non) s1 => (match frz (.ref 0) s1 with | .ok d _ => .ok (.v d) st | _ => .bad)
      | .exc e fs _ => .exc e fs st
      | _ => .bad)
    | none => .bad
  else match assem (.ref st.length :: rs) pm with
    | some args => (match F args (st ++ [.obj c []]) with
      | .ok (.v .non) s1 => .ok (.ref st.length) s1
      | .exc e fs s1 => .exc e fs s1
      | _ => .bad)
    | none => .bad
/-- the method of an object by its class -/
def mthD (ct : Ctab) (nm : Str) : D → Option Nat
  | .obj c fs => if (fs.lookup nm).isNone = true then ct.mth c nm else none
  | _ => none
def mthOf (ct : Ctab) (nm : Str) (x : R) : M Nat := fun st => match x with
  | .v d => M.of (mthD ct nm d) st
  | .ref n => (match st[n]? with
    | some (.obj c fs) => if (fs.lookup nm).isNone = true then M.of (ct.mth c nm) st else .bad
    | some (.fz d) => M.of (mthD ct nm d) st
    | _ => .bad)
  | .ex _ _ => .bad
/-- methods of some classes alone -/
def ctR (cs : List Nat) (ct : Ctab) : Ctab := { ct with mth := fun c nm => if cs.contains c = true then ct.mth c nm else none }
def cfOf (t : Bool) : (List R → M R) → List R → M R := if t = true then thawF else callF
/-- what raises nothing -/
def noExc {α : Type} (m : M α) : M α := fun st => match m st with
  | .exc _ _ _ => .bad
  | o => o
/-- not too long -/
def chkN (n : Nat) : M Unit := fun st => if n ≤ sizeLine then .ok () st else .bad
/-- the loop of a comprehension -/
def lcGo (f : R → M (Option R)) : List R → M (List R)
  | [] => M.pure []
  | x :: xs => (f x).bind fun o => (lcGo f xs).bind fun ys => M.pure (match o with | some y => y :: ys | none => ys)
def itOver (r : R) : M (List R) := match r with
  | .v (.str s) => M.pure (s.cps.toList.map fun c => R.v (.str ⟨#[c]⟩))
  | _ => (frz r).bind fun d => items (.v d)
def itRng (i j : Int) : M (List R) := if -(2 ^ 62) ≤ i ∧ i < 2 ^ 62 ∧ -(2 ^ 62) ≤ j ∧ j < 2 ^ 62 then M.pure ((List.range (j - i).toNat).map fun (k : Nat) => R.v (.int (i + (k : Int)))) else M.bad
def enumD : Nat → List D → List R
  | _, [] => []
  | k, d :: ds => R.v (.tup [.int k, d]) :: enumD (k + 1) ds
def zipD : List D → List D → List R
  | a :: as, b :: bs => R.v (.tup [a, b]) :: zipD as bs
  | _, _ => []
def lstOf (r : R) : M (List D) := (frz r).bind fun d => match d with
  | .lst ds => M.pure ds
  | _ => M.bad
/-! dicts -/
def keyD : D → Option L2.Key
  | .int i => some (.inl i)
  | .str s => some (.inr s)
  | _ => none
def dAt {α : Type} (kvs : List (L2.Key × α)) (k : L2.Key) : Option α := (kvs.find? fun kv => decide (kv.1 = k)).map (·.2)
def dPut {α : Type} (kvs : List (L2.Key × α)) (k : L2.Key) (v : α) : List (L2.Key × α) := if (kvs.any fun kv => decide (kv.1 = k)) = true then kvs.map fun kv => if kv.1 = k then (kv.1, v) else kv else kvs ++ [(k, v)]
/-- a dict's entries, as values -/
def dEnt (r : R) : M (List (L2.Key × R)) := fun st => match r with
  | .v (.dct kvs) => .ok (kvs.map fun p => (p.1, R.v p.2)) st
  | .ref n => match st[n]? with
    | some (.dct kvs) => .ok kvs st
    | some (.fz (.dct kvs)) => .ok (kvs.map fun p => (p.1, R.v p.2)) st
    | _ => .bad
  | _ => .bad
def keyM (r : R) : M L2.Key := (rdD r).bind fun d => M.of (keyD d)
def dIx (x y : R) : M R := (dEnt x).bind fun kvs => (keyM y).bind fun k => M.of (dAt kvs k)
def dIn (neg : Bool) (y x : R) : M R := (dEnt x).bind fun kvs => (keyM y).bind fun k => M.pure (.v (.bl (if neg = true then !(dAt kvs k).isSome else (dAt kvs k).isSome)))
def dGet (x y z : R) : M R := (dEnt x).bind fun kvs => (keyM y).bind fun k => M.pure ((dAt kvs k).getD z)
def keyR : L2.Key → D
  | .inl i => .int i
  | .inr s => .str s
def dKeys (x : R) : M R := (dEnt x).bind fun kvs => M.pure (.v (.lst (kvs.map fun kv => keyR kv.1)))
/-- d[k] = v -/
def dPutC (x y v : R) : M Unit := (keyM y).bind fun k st => match x with
  | .ref n => match st[n]? with
    | some (.dct kvs) => if kvs.length < sizeLine then .ok () (st.set n (.dct (dPut kvs k v))) else .bad
    | _ => .bad
  | _ => .bad
/-! texts' methods -/
def txM (m : Tm) (d : D) (y : R) : M R := (rdD y).bind fun e => match d, e with
  | .str a, .str b => if (b.length == 0) = false ∧ a.length + 2 ≤ sizeLine then (match m with
    | .split => M.pure (.v (.lst ((Txt.split a b).map D.str)))
    | .partition => M.pure (.v (.tup [.str (Txt.partition a b).1, .str (Txt.partition a b).2.1, .str (Txt.partition a b).2.2]))) else M.bad
  | _, _ => M.bad
/-! what lists' methods look for -/
def idxD (y : PyData) : List PyData → Option Nat
  | [] => none
  | x :: xs => if PyData.eqv x y = true then some 0 else (idxD y xs).map (· + 1)
def lsOf (d : D) : M (List D) := match d with
  | .lst ds => M.pure ds
  | _ => M.bad
def lsM (m : Lm) (ds : List D) (y : R) : M R := (rdD y).bind fun e => match m with
  | .index => (match toPs ds, toP e with
    | some ps, some p => if SeqAt.shaped (.list ps) = true ∧ SeqAt.shaped p = true then (match idxD p ps with | some j => M.pure (.v (.int (j : Nat))) | none => M.bad) else M.bad
    | _, _ => M.bad)
  | .count => (match allI ds, e with
    | some ns, .int k => M.pure (.v (.int (ns.count k : Nat)))
    | _, _ => match toPs ds, toP e with
      | some ps, some p => if SeqAt.shaped (.list ps) = true ∧ SeqAt.shaped p = true then M.pure (.v (.int (ps.countP fun z => PyData.eqv z p : Nat))) else M.bad
      | _, _ => M.bad)
/-! what is walked while it stays -/
def plD (x : R) : M (List D) := (rdD x).bind lsOf
def stays (gs : List (R × List D)) (st : Store) : Prop := ∀ p ∈ gs, force st p.1 = some (.lst p.2)
open Classical in
noncomputable def guardM (gd : Store → Prop) : M Unit := fun st => if gd st then .ok () st else .bad
noncomputable def lcGoC (gd : Store → Prop) (f : R → M (Option R)) : List R → M (List R)
  | [] => (guardM gd).bind fun _ => M.pure []
  | x :: xs => (guardM gd).bind fun _ => (f x).bind fun o => (lcGoC gd f xs).bind fun ys => M.pure (match o with | some y => y :: ys | none => ys)
/-- dict(pairs) -/
def pairOf : D → Option (L2.Key × D)
  | .tup [k, v] => (keyD k).map fun k => (k, v)
  | _ => none
def allP : List D → Option (List (L2.Key × D))
  | [] => some []
  | d :: ds => match pairOf d, allP ds with
    | some p, some ps => some (p :: ps)
    | _, _ => none
def mergeD (kvs : List (L2.Key × D)) : List (L2.Key × D) := kvs.foldl (fun acc kv => dPut acc kv.1 kv.2) []
/-! sets made of a list: each once, as first met -/
def onceG {K : Type} [DecidableEq K] (acc : List K) (ks : List K) : List K := ks.foldl (fun acc k => if k ∈ acc then acc else acc ++ [k]) acc
def onceK {K : Type} [DecidableEq K] (ks : List K) : List K := onceG [] ks
def allK : List D → Option (List L2.Key)
  | [] => some []
  | d :: ds => match keyD d, allK ds with
    | some k, some ks => some (k :: ks)
    | _, _ => none
def allT : List D → Option (List (List Int))
  | [] => some []
  | .tup xs :: ds => match allI xs, allT ds with
    | some t, some ts => some (t :: ts)
    | _, _ => none
  | _ => none
/-- len(set(xs)) -/
def lenSet (ds : List D) : Option Nat := match allK ds with
  | some ks => if ks.length ≤ 4000 then some (onceK ks).length else none
  | none => match allT ds with
    | some ts => if ts.length < 64 then some (onceK ts).length else none
    | none => none
/-- sorted(set(xs)), of numbers -/
def sortSet (ds : List D) : Option (List Int) := match allI ds with
  | some ns => if ns.length < 64 then some (sortI (onceK ns)) else none
  | none => none
/-- list(range(a, b)) -/
def lRng (i j : Int) : M R := if -1000000 ≤ i ∧ i ≤ 1000000 ∧ -1000000 ≤ j ∧ j ≤ 1000000 then M.pure (.v (.lst ((List.range (j - i).toNat).map fun (k : Nat) => D.int (i + (k : Int))))) else M.bad
structure Sg where
  S : Nat → List R → M R
  ct : Ctab
/-- one turn of a comprehension -/
def lcTurn (cell : Bool) (tgt : Tg) (mc : Env → M Bool) (me : Env → M R) (ρ : Env) (x : R) : M (Option R) :=
  (bindTg tgt x ρ).bind fun ρ1 => (mc ρ1).bind fun k => if k = true then (me ρ1).bind fun y => if cell = true then M.pure (some y) else (frz y).bind fun d => M.pure (some (.v d)) else M.pure none
def lcFin (cell : Bool) (ys : List R) : M R := if cell = true then alloc (.lst ys) else (frzs ys).bind fun ds => M.pure (.v (.lst ds))
def lcM (cell : Bool) (tgt : Tg) (own : List Nat) (mi : Env → M (List R)) (mc : Env → M Bool) (me : Env → M R) : Env → M R := fun ρ => (mi ρ).bind fun xs => (chkN xs.length).bind fun _ => (lcGo (fun x => noExc (lcTurn cell tgt mc me (wipeE ρ own) x)) xs).bind (lcFin cell)
def Tg.slots : Tg → List Nat
  | .one i => [i]
  | .many is => is
/-- a comprehension with two clauses -/
def chk4 (n : Nat) : M Unit := fun st => if n ≤ 4096 then .ok () st else .bad
def lc2Turn (cell : Bool) (tgt : Tg) (mc : Env → M Bool) (tgt1 : Tg) (mi1 : Env → M (List R)) (mc1 : Env → M Bool) (me : Env → M R) (ρ : Env) (x : R) : M (List R) :=
  (bindTg tgt x ρ).bind fun ρ1 => (mc ρ1).bind fun k => if k = true then (mi1 ρ1).bind fun ys => (chk4 ys.length).bind fun _ => lcGo (fun y => noExc (lcTurn cell tgt1 mc1 me (wipeE ρ1 tgt1.slots) y)) ys else M.pure []
def lc2Go (f : R → M (List R)) : List R → M (List R)
  | [] => M.pure []
  | x :: xs => (f x).bind fun zs => (lc2Go f xs).bind fun ys => M.pure (zs ++ ys)
def lc2M (cell : Bool) (tgt : Tg) (own : List Nat) (mi : Env → M (List R)) (mc : Env → M Bool) (tgt1 : Tg) (mi1 : Env → M (List R)) (mc1 : Env → M Bool) (me : Env → M R) : Env → M R := fun ρ => (mi ρ).bind fun xs => (chk4 xs.length).bind fun _ => (lc2Go (fun x => noExc (lc2Turn cell tgt mc tgt1 mi1 mc1 me (wipeE ρ own) x)) xs).bind (lcFin cell)
/-- one turn of a dict's comprehension -/
def dcTurn (tgt : Tg) (mc : Env → M Bool) (mk mv : Env → M R) (ρ : Env) (x : R) : M (Option (L2.Key × R)) :=
  (bindTg tgt x ρ).bind fun ρ1 => (mc ρ1).bind fun b => if b = true then (mk ρ1).bind fun y => (mv ρ1).bind fun z => (frz z).bind fun d => (keyM y).bind fun k => M.pure (some (k, .v d)) else M.pure none
def dcGo (f : R → M (Option (L2.Key × R))) : List R → List (L2.Key × R) → M (List (L2.Key × R))
  | [], acc => M.pure acc
  | x :: xs, acc => (f x).bind fun o => dcGo f xs (match o with | some p => dPut acc p.1 p.2 | none => acc)
def dcM (tgt : Tg) (own : List Nat) (mi : Env → M (List R)) (mc : Env → M Bool) (mk mv : Env → M R) : Env → M R := fun ρ => (mi ρ).bind fun xs => (chkN xs.length).bind fun _ => (dcGo (fun x => noExc (dcTurn tgt mc mk mv (wipeE ρ own) x)) xs []).bind fun kvs => alloc (.dct kvs)
noncomputable def dcGoC (gd : Store → Prop) (f : R → M (Option (L2.Key × R))) : List R → List (L2.Key × R) → M (List (L2.Key × R))
  | [], acc => (guardM gd).bind fun _ => M.pure acc
  | x :: xs, acc => (guardM gd).bind fun _ => (f x).bind fun o => dcGoC gd f xs (match o with | some p => dPut acc p.1 p.2 | none => acc)
noncomputable def dcMC (tgt : Tg) (own : List Nat) (mi : Env → M (List R × List (R × List D))) (mc : Env → M Bool) (mk mv : Env → M R) : Env → M R := fun ρ => (mi ρ).bind fun p => (chkN p.1.length).bind fun _ => (dcGoC (stays p.2) (fun x => noExc (dcTurn tgt mc mk mv (wipeE ρ own) x)) p.1 []).bind fun kvs => alloc (.dct kvs)
noncomputable def lcMC (cell : Bool) (tgt : Tg) (own : List Nat) (mi : Env → M (List R × List (R × List D))) (mc : Env → M Bool) (me : Env → M R) : Env → M R := fun ρ => (mi ρ).bind fun p => (chkN p.1.length).bind fun _ => (lcGoC (stays p.2) (fun x => noExc (lcTurn cell tgt mc me (wipeE ρ own) x)) p.1).bind (lcFin cell)
/-- an expression as a value and as a test -/
structure Pr where
  e : M R
  t : M Bool
@[reducible] def Pr.mk1 (m : M R) : Pr := ⟨m, m.bind truth⟩
mutual
noncomputable def den (g : Sg) : Ex → Env → Pr
  | .var i, ρ => .mk1 (match ρ[i]? with
    | some (some (.v d)) => M.pure (.v d)
    | some (some (.ref n)) => M.pure (.ref n)
    | _ => M.bad)
  | .con d, _ => .mk1 (M.pure (.v d))
  | .bin o a b, ρ => .mk1 ((den g a ρ).e.bind fun x => (den g b ρ).e.bind fun y => (rdD x).bind fun dx => (rdD y).bind fun dy => (M.of (opB o dx dy)).bind fun d => M.pure (.v d))
  | .neg a, ρ => .mk1 ((den g a ρ).e.bind fun x => (intOf x).bind fun i => M.pure (.v (.int (-i))))
  | .not a, ρ => ⟨(den g a ρ).e.bind fun x => (truth x).bind fun b => M.pure (.v (.bl (!b))), (den g a ρ).t.bind fun b => M.pure (!b)⟩
  | .cmp o a b, ρ => .mk1 ((den g a ρ).e.bind fun x => (den g b ρ).e.bind fun y => (rdD x).bind fun dx => (rdD y).bind fun dy => (M.of (opC o dx dy)).bind fun b => M.pure (.v (.bl b)))
  | .chn o p a b c, ρ => .mk1 ((den g a ρ).e.bind fun x => (den g b ρ).e.bind fun y => (rdD x).bind fun dx => (rdD y).bind fun dy => (M.of (opC o dx dy)).bind fun k =>
      if k = true then (den g c ρ).e.bind fun z => (rdD y).bind fun dy => (rdD z).bind fun dz => (M.of (opC p dy dz)).bind fun b => M.pure (.v (.bl b)) else M.pure (.v (.bl false)))
  | .and a b, ρ => ⟨(den g a ρ).e.bind fun x => (truth x).bind fun k => if k = true then (den g b ρ).e else M.pure x,
      (den g a ρ).t.bind fun k => if k = true then (den g b ρ).t else M.pure false⟩
  | .or a b, ρ => ⟨(den g a ρ).e.bind fun x => (truth x).bind fun k => if k = true then M.pure x else (den g b ρ).e,
      (den g a ρ).t.bind fun k => if k = true then M.pure true else (den g b ρ).t⟩
  | .ite c a b, ρ => ⟨(den g c ρ).t.bind fun k => if k = true then (den g a ρ).e else (den g b ρ).e, (den g c ρ).t.bind fun k => if k = true then (den g a ρ).t else (den g b ρ).t⟩
  | .tup es, ρ => .mk1 ((denEs g es ρ).bind fun rs => (frzs rs).bind fun ds => M.pure (.v (.tup ds)))
  | .lst cell es, ρ => .mk1 ((denEs g es ρ).bind fun rs => if cell = true then alloc (.lst rs) else (frzs rs).bind fun ds => M.pure (.v (.lst ds)))
  | .ix a b, ρ => .mk1 ((den g a ρ).e.bind fun x => (den g b ρ).e.bind fun y => index x y)
  | .sl a lo hi, ρ => .mk1 ((den g a ρ).e.bind fun x => (denO g lo ρ).bind fun l => (denO g hi ρ).bind fun h => slice x l h)
  | .call f es pm, ρ => .mk1 ((denEs g es ρ).bind fun rs => (M.of (assem rs pm)).bind fun args => callF (g.S f) args)
  | .blt b es, ρ => .mk1 ((denEs g es ρ).bind fun rs => (rdDs rs).bind fun ds => (M.of (opF b ds)).bind fun d => M.pure (.v d))
  | .bm m o es, ρ => .mk1 ((den g o ρ).e.bind fun x => (chkL x).bind fun _ => (denEs g es ρ).bind fun rs => opM m x rs)
  | .isi a cs, ρ => .mk1 ((den g a ρ).e.bind fun x => (headM x).bind fun d => (M.of (isAny g.ct d cs)).bind fun b => M.pure (.v (.bl b)))
  | .attr a f, ρ => .mk1 ((den g a ρ).e.bind fun x => attrR x f)
  | .isx i cs, ρ => .mk1 (match ρ[i]? with
    | some (some (.ex c _)) => M.pure (.v (.bl (cs.any (isExc1 g.ct c))))
    | _ => M.bad)
  | .xat i f, ρ => .mk1 (match ρ[i]? with
    | some (some (.ex _ fs)) => M.of ((fs.lookup f).map R.v)
    | _ => M.bad)
  | .new cell c f es pm, ρ => .mk1 ((denEs g es ρ).bind fun rs => newF cell c pm (g.S f) rs)
  | .mth o nm es pm, ρ => .mk1 ((den g o ρ).e.bind fun x => (mthOf g.ct nm x).bind fun f => (denEs g es ρ).bind fun rs => (M.of (assem (x :: rs) pm)).bind fun args => callF (g.S f) args)
  | .fz a, ρ => .mk1 ((den g a ρ).e.bind fun x => (frz x).bind fun d => M.pure (.v d))
  | .rep es k, ρ => .mk1 ((denEs g es ρ).bind fun rs => (frzs rs).bind fun ds => (den g k ρ).e.bind fun y => repD ds y)
  | .join a b, ρ => .mk1 ((den g a ρ).e.bind fun x => (rdD x).bind fun d => (chkTx d).bind fun _ => (den g b ρ).e.bind fun y => joinD d y)
  | .rev a, ρ => .mk1 ((den g a ρ).e.bind revD)
  | .lstc a, ρ => .mk1 ((den g a ρ).e.bind lstC)
  | .catc a b, ρ => .mk1 ((den g a ρ).e.bind fun x => (den g b ρ).e.bind fun y => catC x y)
  | .slc a lo hi, ρ => .mk1 ((den g a ρ).e.bind fun x => (denO g lo ρ).bind fun l => (denO g hi ρ).bind fun h => slC x l h)
  | .callT f es pm, ρ => .mk1 ((denEs g es ρ).bind fun rs => (M.of (assem rs pm)).bind fun args => thawF (g.S f) args)
  | .mthA t cs o nm es pm, ρ => .mk1 ((den g o ρ).e.bind fun x => (mthOf (ctR cs g.ct) nm x).bind fun f => (denEs g es ρ).bind fun rs => (M.of (assem (x :: rs) pm)).bind fun args => cfOf t (g.S f) args)
  | .bad, _ => .mk1 M.bad
  | .dnew, _ => .mk1 (alloc (.dct []))
  | .dix a b, ρ => .mk1 ((den g a ρ).e.bind fun x => (den g b ρ).e.bind fun y => dIx x y)
  | .din neg a b, ρ => .mk1 ((den g a ρ).e.bind fun y => (den g b ρ).e.bind fun x => dIn neg y x)
  | .dget a b c, ρ => .mk1 ((den g a ρ).e.bind fun x => (dEnt x).bind fun _ => (den g b ρ).e.bind fun y => match c with
      | none => dGet x y (.v .non)
      | some c => (den g c ρ).e.bind fun z => dGet x y z)
  | .dkeys a, ρ => .mk1 ((den g a ρ).e.bind dKeys)
  | .txm m a b, ρ => .mk1 ((den g a ρ).e.bind fun x => (rdD x).bind fun d => (chkTx d).bind fun _ => (den g b ρ).e.bind fun y => txM m d y)
  | .lsm m a b, ρ => .mk1 ((den g a ρ).e.bind fun x => (rdD x).bind fun d0 => (lsOf d0).bind fun _ => (den g b ρ).e.bind fun y => (rdD x).bind fun d => (lsOf d).bind fun ds => lsM m ds y)
  | .dc k v tg it cond own, ρ => .mk1 (dcM tg own (fun ρ => denIt g it ρ) (fun ρ => denC g cond ρ) (fun ρ => (den g k ρ).e) (fun ρ => (den g v ρ).e) ρ)
  | .lc2 cell elt tg it cond tg1 it1 cond1 own, ρ => .mk1 (lc2M cell tg own (fun ρ => denIt g it ρ) (fun ρ => denC g cond ρ) tg1 (fun ρ => denIt g it1 ρ) (fun ρ => denC g cond1 ρ) (fun ρ => (den g elt ρ).e) ρ)
  | .lcC cell elt tg it cond own, ρ => .mk1 (lcMC cell tg own (fun ρ => denIc g it ρ) (fun ρ => denC g cond ρ) (fun ρ => (den g elt ρ).e) ρ)
  | .dcC k v tg it cond own, ρ => .mk1 (dcMC tg own (fun ρ => denIc g it ρ) (fun ρ => denC g cond ρ) (fun ρ => (den g k ρ).e) (fun ρ => (den g v ρ).e) ρ)
  | .lenset a, ρ => .mk1 ((den g a ρ).e.bind fun x => (plD x).bind fun ds => (M.of (lenSet ds)).bind fun n => M.pure (.v (.int (n : Nat))))
  | .sortset a, ρ => .mk1 ((den g a ρ).e.bind fun x => (plD x).bind fun ds => (M.of (sortSet ds)).bind fun ns => M.pure (.v (.lst (ns.map D.int))))
  | .lrng a b, ρ => .mk1 ((den g a ρ).e.bind fun x => (den g b ρ).e.bind fun y => (intOf x).bind fun i => (intOf y).bind fun j => lRng i j)
  | .dpairs a, ρ => .mk1 ((den g a ρ).e.bind fun x => (plD x).bind fun ds => match allP ds with
      | some kvs => if kvs.length ≤ 16777216 then alloc (.dct ((mergeD kvs).map fun p => (p.1, R.v p.2))) else M.bad
      | none => M.bad)
  | .lc cell elt tg it cond own, ρ => .mk1 (lcM cell tg own (fun ρ => denIt g it ρ) (fun ρ => denC g cond ρ) (fun ρ => (den g elt ρ).e) ρ)
noncomputable def denEs (g : Sg) : List Ex → Env → M (List R)
  | [], _ => M.pure []
  | e :: es, ρ => (den g e ρ).e.bind fun r => (denEs g es ρ).bind fun rs => M.pure (r :: rs)
noncomputable def denO (g : Sg) : Option Ex → Env → M (Option Int)
  | none, _ => M.pure none
  | some e, ρ => (den g e ρ).e.bind fun r => (intOf r).bind fun i => M.pure (some i)
noncomputable def denC (g : Sg) : Option Ex → Env → M Bool
  | none, _ => M.pure true
  | some e, ρ => (den g e ρ).t
noncomputable def denIt (g : Sg) : It → Env → M (List R)
  | .over e, ρ => (den g e ρ).e.bind itOver
  | .rng a, ρ => (den g a ρ).e.bind fun x => (intOf x).bind fun j => itRng 0 j
  | .rng2 a b, ρ => (den g a ρ).e.bind fun x => (den g b ρ).e.bind fun y => (intOf x).bind fun i => (intOf y).bind fun j => itRng i j
  | .enm e, ρ => (den g e ρ).e.bind fun x => (lstOf x).bind fun ds => M.pure (enumD 0 ds)
  | .zip a b, ρ => (den g a ρ).e.bind fun x => (den g b ρ).e.bind fun y => (lstOf x).bind fun as => (lstOf y).bind fun bs => M.pure (zipD as bs)
noncomputable def denIc (g : Sg) : Ic → Env → M (List R × List (R × List D))
  | .over e, ρ => (den g e ρ).e.bind fun x => (plD x).bind fun ds => M.pure (ds.map R.v, [(x, ds)])
  | .enm e, ρ => (den g e ρ).e.bind fun x => (plD x).bind fun ds => M.pure (enumD 0 ds, [(x, ds)])
  | .zip a b, ρ => (den g a ρ).e.bind fun x => (den g b ρ).e.bind fun y => (plD x).bind fun as => (plD y).bind fun bs => M.pure (zipD as bs, [(x, as), (y, bs)])
end
/-- how a statement ends -/
inductive OutS where
  | nx (ρ : Env) (st : Store) | rt (r : R) (st : Store) | bk (ρ : Env) (st : Store) | ct (ρ : Env) (st : Store)
  | exc (c : Nat) (fs : List (Str × D)) (ρ : Env) (st : Store) | bad
/-- an expression's end, seen from a statement whose names are ρ -/
def Out.to {α : Type} (o : Out α) (ρ : Env) (k : α → Store → OutS) : OutS := match o with
  | .ok a st => k a st
  | .exc c fs st => .exc c fs ρ st
  | .bad => .bad
@[simp] theorem Out.to_ok {α : Type} (a : α) (st : Store) (ρ : Env) (k : α → Store → OutS) : (Out.ok a st).to ρ k = k a st := id rfl
@[simp] theorem Out.to_exc {α : Type} (c : Nat) (fs : List (Str × D)) (st : Store) (ρ : Env) (k : α → Store → OutS) : (Out.exc c fs st : Out α).to ρ k = .exc c fs ρ st := id rfl
@[simp] theorem Out.to_bad {α : Type} (ρ : Env) (k : α → Store → OutS) : (Out.bad : Out α).to ρ k = .bad := id rfl
/-- one behind the other -/
def OutS.seq (o : OutS) (k : Env → Store → OutS) : OutS := match o with
  | .nx ρ st => k ρ st
  | o => o
@[simp] theorem OutS.seq_nx (ρ : Env) (st : Store) (k : Env → Store → OutS) : (OutS.nx ρ st).seq k = k ρ st := id rfl
@[simp] theorem OutS.seq_rt (r : R) (st : Store) (k : Env → Store → OutS) : (OutS.rt r st).seq k = .rt r st := id rfl
@[simp] theorem OutS.seq_bk (ρ : Env) (st : Store) (k : Env → Store → OutS) : (OutS.bk ρ st).seq k = .bk ρ st := id rfl
@[simp] theorem OutS.seq_ct (ρ : Env) (st : Store) (k : Env → Store → OutS) : (OutS.ct ρ st).seq k = .ct ρ st := id rfl
@[simp] theorem OutS.seq_exc (c : Nat) (fs : List (Str × D)) (ρ : Env) (st : Store) (k : Env → Store → OutS) : (OutS.exc c fs ρ st).seq k = .exc c fs ρ st := id rfl
@[simp] theorem OutS.seq_bad (k : Env → Store → OutS) : OutS.bad.seq k = .bad := id rfl
/-- a turn's end: k goes on, a break ends the loop -/
def OutS.turn (o : OutS) (k : Env → Store → OutS) : OutS := match o with
  | .nx ρ st => k ρ st
  | .ct ρ st => k ρ st
  | .bk ρ st => .nx ρ st
  | o => o
@[simp] theorem OutS.turn_nx (ρ : Env) (st : Store) (k : Env → Store → OutS) : (OutS.nx ρ st).turn k = k ρ st := id rfl
@[simp] theorem OutS.turn_ct (ρ : Env) (st : Store) (k : Env → Store → OutS) : (OutS.ct ρ st).turn k = k ρ st := id rfl
@[simp] theorem OutS.turn_bk (ρ : Env) (st : Store) (k : Env → Store → OutS) : (OutS.bk ρ st).turn k = .nx ρ st := id rfl
@[simp] theorem OutS.turn_rt (r : R) (st : Store) (k : Env → Store → OutS) : (OutS.rt r st).turn k = .rt r st := id rfl
@[simp] theorem OutS.turn_exc (c : Nat) (fs : List (Str × D)) (ρ : Env) (st : Store) (k : Env → Store → OutS) : (OutS.exc c fs ρ st).turn k = .exc c fs ρ st := id rfl
@[simp] theorem OutS.turn_bad (k : Env → Store → OutS) : OutS.bad.turn k = .bad := id rfl
def frGo (tg : Tg) (b : Env → Store → OutS) : List R → Env → Store → OutS
  | [], ρ, st => .nx ρ st
  | x :: xs, ρ, st => (bindTg tg x ρ st).to ρ fun ρ1 st1 => (b ρ1 st1).turn fun ρ2 st2 => frGo tg b xs ρ2 st2
noncomputable def frGoC (gd : Store → Prop) (tg : Tg) (b : Env → Store → OutS) : List R → Env → Store → OutS
  | [], ρ, st => (guardM gd st).to ρ fun _ st0 => .nx ρ st0
  | x :: xs, ρ, st => (guardM gd st).to ρ fun _ st0 => (bindTg tg x ρ st0).to ρ fun ρ1 st1 => (b ρ1 st1).turn fun ρ2 st2 => frGoC gd tg b xs ρ2 st2
def whN (c : Env → M Bool) (b : Env → Store → OutS) : Nat → Env → Store → OutS
  | 0, _, _ => .bad
  | n + 1, ρ, st => (c ρ st).to ρ fun k st1 => if k = true then (b ρ st1).turn fun ρ2 st2 => whN c b n ρ2 st2 else .nx ρ st1
open Classical in
noncomputable def whG (c : Env → M Bool) (b : Env → Store → OutS) (ρ : Env) (st : Store) : OutS :=
  if h : ∃ n, whN c b n ρ st ≠ .bad then whN c b h.choose ρ st else .bad
theorem whN_mono {c : Env → M Bool} {b : Env → Store → OutS} : ∀ (n : Nat) (ρ : Env) (st : Store), whN c b n ρ st ≠ .bad → whN c b (n + 1) ρ st = whN c b n ρ st
  | 0, _, _, h => absurd rfl h
  | n + 1, ρ, st, h => by
    rw [whN] at h ⊢
    conv => rhs; rw [whN]
    cases hc : c ρ st with
    | bad => rw [hc] at h; exact absurd rfl h
    | exc c fs s => rfl
    | ok k s1 =>
      rw [hc] at h
      simp only [Out.to_ok] at h ⊢
      cases k with
      | false => rfl
      | true =>
        simp only [if_true] at h ⊢
        cases hb : b ρ s1 with
        | nx ρ2 s2 => rw [hb] at h; exact whN_mono n ρ2 s2 h
        | ct ρ2 s2 => rw [hb] at h; exact whN_mono n ρ2 s2 h
        | bk ρ2 s2 => rfl
        | rt r s2 => rfl
        | exc c fs ρ2 s2 => rfl
        | bad => rfl
theorem whN_le {c : Env → M Bool} {b : Env → Store → OutS} {n m : Nat} {ρ : Env} {st : Store} (h : whN c b n ρ st ≠ .bad) (hl : n ≤ m) : whN c b m ρ st = whN c b n ρ st := by
  obtain ⟨k, rfl⟩ := Nat.exists_eq_add_of_le hl
  induction k with
  | zero => rfl
  | succ k ih =>
    have e := ih (Nat.le_add_right _ _)
    rw [← e]
    exact whN_mono (n + k) ρ st (by rw [e]; exact h)
theorem whG_of {c : Env → M Bool} {b : Env → Store → OutS} {n : Nat} {ρ : Env} {st : Store} (h : whN c b n ρ st ≠ .bad) : whG c b ρ st = whN c b n ρ st := by
  have e : ∃ n, whN c b n ρ st ≠ .bad := ⟨n, h⟩
  unfold whG
  rw [dif_pos e]
  rcases Nat.le_total n e.choose with q | q
  · exact whN_le h q
  · exact (whN_le e.choose_spec q).symm
theorem whG_ex {c : Env → M Bool} {b : Env → Store → OutS} {ρ : Env} {st : Store} (h : whG c b ρ st ≠ .bad) : ∃ n, whG c b ρ st = whN c b n ρ st := by
  unfold whG at h ⊢
  split at h
  · rename_i e
    rw [dif_pos e]
    exact ⟨_, rfl⟩
  · exact absurd rfl h
/-- a while unrolled once -/
theorem whG_step (c : Env → M Bool) (b : Env → Store → OutS) (ρ : Env) (st : Store) :
    whG c b ρ st = (c ρ st).to ρ fun k st1 => if k = true then (b ρ st1).turn fun ρ2 st2 => whG c b ρ2 st2 else .nx ρ st1 := by
  cases hc : c ρ st with
  | bad =>
    have z : ∀ n, whN c b n ρ st = .bad := fun n => by cases n <;> simp [whN, hc]
    unfold whG
    rw [dif_neg (by simp [z])]; rfl
  | exc d fs s =>
    rw [whG_of (n := 1) (by simp [whN, hc])]; simp [whN, hc]
  | ok k s1 =>
    simp only [Out.to_ok]
    cases k with
    | false => rw [whG_of (n := 1) (by simp [whN, hc])]; simp [whN, hc]
    | true =>
      simp only [if_true]
      have fwd : ∀ ρ2 s2, (∀ n, whN c b (n + 1) ρ st = whN c b n ρ2 s2) → whG c b ρ st = whG c b ρ2 s2 := fun ρ2 s2 e => by
        by_cases q : ∃ n, whN c b n ρ2 s2 ≠ .bad
        · obtain ⟨n, q⟩ := q
          rw [whG_of q, ← e n, whG_of (n := n + 1) (by rw [e n]; exact q)]
        · have q2 : ¬ ∃ n, whN c b n ρ st ≠ .bad := fun ⟨n, z⟩ => by
            cases n with
            | zero => exact z rfl
            | succ n => exact q ⟨n, by rw [← e n]; exact z⟩
          unfold whG
          rw [dif_neg q, dif_neg q2]
      cases hb : b ρ s1 with
      | nx ρ2 s2 => exact fwd ρ2 s2 fun n => by simp [whN, hc, hb]
      | ct ρ2 s2 => exact fwd ρ2 s2 fun n => by simp [whN, hc, hb]
      | bk ρ2 s2 => rw [whG_of (n := 1) (by simp [whN, hc, hb])]; simp [whN, hc, hb]
      | rt r s2 => rw [whG_of (n := 1) (by simp [whN, hc, hb])]; simp [whN, hc, hb]
      | exc d fs ρ2 s2 => rw [whG_of (n := 1) (by simp [whN, hc, hb])]; simp [whN, hc, hb]
      | bad =>
        have z : ∀ n, whN c b n ρ st = .bad := fun n => by cases n <;> simp [whN, hc, hb]
        unfold whG
        rw [dif_neg (by simp [z])]; rfl
def setCell (o k e : R) : M Unit := (intOf k).bind fun i st => match o with
  | .ref n => match st[n]? with
    | some (.lst xs) => (match L2.ixN xs.length i with | some j => .ok () (st.set n (.lst (xs.set j e))) | none => .bad)
    | _ => .bad
  | _ => .bad
def putR (f : Str) (r : R) : List (Str × R) → List (Str × R)
  | [] => [(f, r)]
  | (g, x) :: fs => if g = f then (g, r) :: fs else (g, x) :: putR f r fs
def setFld (o : R) (f : Str) (e : R) : M Unit := fun st => match o with
  | .ref n => match st[n]? with
    | some (.obj c fs) => if fs.length < 900 then .ok () (st.set n (.obj c (putR f e fs))) else .bad
    | _ => .bad
  | _ => .bad
def clrX : Env → Env
  | [] => []
  | some (.ex _ _) :: ρ => none :: clrX ρ
  | o :: ρ => o :: clrX ρ
mutual
noncomputable def denS (g : Sg) : Sm → Env → Store → OutS
  | .asg i e, ρ, st => ((den g e ρ).e st).to ρ fun r st1 => .nx (ρ.set i (some r)) st1
  | .unp is e, ρ, st => ((den g e ρ).e st).to ρ fun r st1 => (bindTg (.many is) r ρ st1).to ρ fun ρ1 st2 => .nx ρ1 st2
  | .par i j a b, ρ, st => ((den g a ρ).e st).to ρ fun x st1 => ((den g b ρ).e st1).to ρ fun y st2 => .nx ((ρ.set i (some x)).set j (some y)) st2
  | .par3 i j l a b c, ρ, st => ((den g a ρ).e st).to ρ fun x st1 => ((den g b ρ).e st1).to ρ fun y st2 => ((den g c ρ).e st2).to ρ fun z st3 => .nx (((ρ.set i (some x)).set j (some y)).set l (some z)) st3
  | .ex e, ρ, st => ((den g e ρ).e st).to ρ fun _ st1 => .nx ρ st1
  | .ite c t f, ρ, st => ((den g c ρ).t st).to ρ fun k st1 => if k = true then denSs g t ρ st1 else denSs g f ρ st1
  | .frr tg it body, ρ, st => (denIt g it ρ st).to ρ fun xs st1 => frGo tg (fun ρ2 st2 => denSs g body ρ2 st2) xs ρ st1
  | .whl c body, ρ, st => whG (fun ρ2 => (den g c ρ2).t) (fun ρ2 st2 => denSs g body ρ2 st2) ρ st
  | .ret e, ρ, st => ((den g e ρ).e st).to ρ fun r st1 => .rt r st1
  | .retN, _, st => .rt (.v .non) st
  | .rse c es fs, ρ, st => (denEs g es ρ st).to ρ fun rs st1 => (frzs rs st1).to ρ fun ds st2 => if ds.length = fs.length then .exc c (fs.zip ds).reverse ρ st2 else .bad
  | .tri body cs i suite, ρ, st => match denSs g body ρ st with
    | .exc c fs ρ1 st1 => if c ∈ cs then (match i with
        | some j => match denSs g suite ((clrX ρ1).set j (some (.ex c fs))) st1 with
          | .nx ρ2 st2 => .nx (clrX (ρ2.set j none)) st2
          | .rt r st2 => .rt r st2
          | _ => .bad
        | none => match denSs g suite ρ1 st1 with
          | .nx ρ2 st2 => .nx ρ2 st2
          | .rt r st2 => .rt r st2
          | _ => .bad) else .exc c fs ρ1 st1
    | o => o
  | .seti o k e, ρ, st => ((den g e ρ).e st).to ρ fun x st1 => ((den g o ρ).e st1).to ρ fun y st2 => ((den g k ρ).e st2).to ρ fun z st3 => (setCell y z x st3).to ρ fun _ st4 => .nx ρ st4
  | .setf o f e, ρ, st => ((den g e ρ).e st).to ρ fun x st1 => ((den g o ρ).e st1).to ρ fun y st2 => (setFld y f x st2).to ρ fun _ st4 => .nx ρ st4
  | .bad, _, _ => .bad
  | .dput o k e, ρ, st => ((den g e ρ).e st).to ρ fun x st1 => ((den g o ρ).e st1).to ρ fun y st2 => ((den g k ρ).e st2).to ρ fun z st3 => (dPutC y z x st3).to ρ fun _ st4 => .nx ρ st4
  | .frrC tg it body, ρ, st => (denIc g it ρ st).to ρ fun p st1 => frGoC (stays p.2) tg (fun ρ2 st2 => denSs g body ρ2 st2) p.1 ρ st1
  | .pass, ρ, st => .nx ρ st
  | .brk, ρ, st => .bk ρ st
  | .cont, ρ, st => .ct ρ st
noncomputable def denSs (g : Sg) : List Sm → Env → Store → OutS
  | [], ρ, st => .nx ρ st
  | s :: ss, ρ, st => (denS g s ρ st).seq fun ρ1 st1 => denSs g ss ρ1 st1
end
/-- a def: its body, how many names it has -/
structure Fn where
  body : List Sm
  n : Nat
def OutS.back : OutS → Out R
  | .nx _ st => .ok (.v .non) st
  | .rt r st => .ok r st
  | .exc c fs _ st => .exc c fs st
  | _ => .bad
noncomputable def denF (g : Sg) (fn : Fn) (args : List R) : M R := fun st => (denSs g fn.body (args.map some ++ List.replicate (fn.n - args.length) none) st).back
/-- what the defs of a text mean, to a depth of calls -/
noncomputable def sem (T : List Fn) (ct : Ctab) : Nat → Nat → List R → M R
  | 0, _, _ => M.bad
  | k + 1, f, args => match T[f]? with
    | some fn => denF ⟨sem T ct k, ct⟩ fn args
    | none => M.bad
end SV

set_option maxRecDepth 100000
set_option maxHeartbeats 1000000
/-! SvB: how values, stores and names of our small language stand for those of the machine; readings of expressions -/
namespace SV
open PySem PySem.Spec PyProof.Rows L2

mutual
inductive Rep (K : PySem.W.Frag) (cl : Nat → Option Addr) (G : Hp) : L2.V → D → Prop
  | non : Rep K cl G .non .non
  | bl (b : Bool) : Rep K cl G (.bl b) (.bl b)
  | int (i : Int) : Rep K cl G (.int i) (.int i)
  | str (s : Str) : Rep K cl G (.str s) (.str s)
  | tup {a : Addr} {vs : List L2.V} {ds : List D} (h : SqT K G a vs) (r : Reps K cl G vs ds) : Rep K cl G (.ref a) (.tup ds)
  | lst {a : Addr} {vs : List L2.V} {ds : List D} (h : SqL K G a vs) (r : Reps K cl G vs ds) : Rep K cl G (.ref a) (.lst ds)
  | obj {a C dx : Addr} {c : Nat} {fvs : List (Str × L2.V)} {fs : List (Str × D)} (hc : cl c = some C ∧ c < 100) (h : G a = some (.ins C dx fvs)) (r : RepF K cl G fvs fs) : Rep K cl G (.ref a) (.obj c fs)
  | dct {a : Addr} {kvs : List (L2.Key × L2.V)} {ds : List (L2.Key × D)} (h : G a = some (.dK kvs)) (r : RepF K cl G kvs ds) : Rep K cl G (.ref a) (.dct ds)
inductive Reps (K : PySem.W.Frag) (cl : Nat → Option Addr) (G : Hp) : List L2.V → List D → Prop
  | nil : Reps K cl G [] []
  | cons {v : L2.V} {d : D} {vs : List L2.V} {ds : List D} (h : Rep K cl G v d) (r : Reps K cl G vs ds) : Reps K cl G (v :: vs) (d :: ds)
inductive RepF (K : PySem.W.Frag) (cl : Nat → Option Addr) (G : Hp) : {κ : Type} → List (κ × L2.V) → List (κ × D) → Prop
  | nil {κ : Type} : RepF K cl G ([] : List (κ × L2.V)) []
  | cons {κ : Type} {f : κ} {v : L2.V} {d : D} {vs : List (κ × L2.V)} {ds : List (κ × D)} (h : Rep K cl G v d) (r : RepF K cl G vs ds) : RepF K cl G ((f, v) :: vs) ((f, d) :: ds)
end
theorem seqT_same {K : PySem.W.Frag} {H H' : Hp} {a : Addr} {xs : List L2.V} (e : Same H H') (h : SqT K H a xs) : SqT K H' a xs := by
  rcases h with (h | ⟨o, h⟩) | h
  · exact .inl (.inl (e _ _ h))
  · exact .inl (.inr ⟨o, e _ _ h⟩)
  · exact .inr h
section
variable {K : PySem.W.Frag} {cl : Nat → Option Addr} {G G' : Hp}
mutual
theorem Rep.mono (s : Same G G') : ∀ {v : L2.V} {d : D}, Rep K cl G v d → Rep K cl G' v d
  | _, _, .non => .non
  | _, _, .bl b => .bl b
  | _, _, .int i => .int i
  | _, _, .str x => .str x
  | _, _, .tup h r => .tup (seqT_same s h) (r.mono s)
  | _, _, .lst h r => .lst (s.seq h) (r.mono s)
  | _, _, .obj hc h r => .obj hc (s _ _ h) (r.mono s)
  | _, _, .dct h r => .dct (s _ _ h) (r.mono s)
theorem Reps.mono (s : Same G G') : ∀ {v : List L2.V} {d : List D}, Reps K cl G v d → Reps K cl G' v d
  | _, _, .nil => .nil
  | _, _, .cons h r => .cons (h.mono s) (r.mono s)
theorem RepF.mono (s : Same G G') : ∀ {κ : Type} {v : List (κ × L2.V)} {d : List (κ × D)}, RepF K cl G v d → RepF K cl G' v d
  | _, _, _, .nil => .nil
  | _, _, _, .cons h r => .cons (h.mono s) (r.mono s)
end
theorem Reps.length : ∀ {vs : List L2.V} {ds : List D}, Reps K cl G vs ds → vs.length = ds.length
  | _, _, .nil => rfl
  | _, _, .cons _ r => by simp [r.length]
theorem Reps.get : ∀ {vs : List L2.V} {ds : List D} {i : Nat} {d : D}, Reps K cl G vs ds → ds[i]? = some d → ∃ v, vs[i]? = some v ∧ Rep K cl G v d
  | _, _, _, _, .nil, e => by simp at e
  | _, _, 0, _, .cons h _, e => by simp at e; subst e; exact ⟨_, rfl, h⟩
  | _, _, i + 1, d, .cons _ r, e => by
    obtain ⟨v, h1, h2⟩ := Reps.get (i := i) (d := d) r (by simpa using e)
    exact ⟨v, by simpa using h1, h2⟩
theorem Reps.append : ∀ {vs ws : List L2.V} {ds es : List D}, Reps K cl G vs ds → Reps K cl G ws es → Reps K cl G (vs ++ ws) (ds ++ es)
  | _, _, _, _, .nil, s => s
  | _, _, _, _, .cons h r, s => .cons h (r.append s)
theorem Reps.rev {vs : List L2.V} {ds : List D} (h : Reps K cl G vs ds) : Reps K cl G vs.reverse ds.reverse := by
  match vs, ds, h with
  | _, _, .nil => exact .nil
  | _, _, .cons h r =>
    rw [List.reverse_cons, List.reverse_cons]
    exact (Reps.rev r).append (.cons h .nil)
theorem Reps.drop : ∀ {vs : List L2.V} {ds : List D} (n : Nat), Reps K cl G vs ds → Reps K cl G (vs.drop n) (ds.drop n)
  | _, _, 0, r => r
  | _, _, _ + 1, .nil => .nil
  | _, _, n + 1, .cons _ r => r.drop n
theorem Reps.take : ∀ {vs : List L2.V} {ds : List D} (n : Nat), Reps K cl G vs ds → Reps K cl G (vs.take n) (ds.take n)
  | _, _, 0, _ => .nil
  | _, _, _ + 1, .nil => .nil
  | _, _, n + 1, .cons h r => .cons h (r.take n)
theorem Reps.cut {vs : List L2.V} {ds : List D} (lo hi : Option Int) (r : Reps K cl G vs ds) : Reps K cl G (cutV vs lo hi) (cutR ds lo hi) := by
  unfold cutV cutR
  rw [r.length]
  exact (r.drop _).take _
theorem RepF.look : ∀ {vs : List (Str × L2.V)} {ds : List (Str × D)} {f : Str} {d : D}, RepF K cl G vs ds → ds.lookup f = some d → ∃ v, vs.lookup f = some v ∧ Rep K cl G v d
  | _, _, _, _, .nil, e => by simp at e
  | _, _, f, d, .cons (f := g) (v := v) (d := d') h r, e => by
    rw [List.lookup_cons] at e ⊢
    cases hb : f == g with
    | true => rw [hb] at e; simp only [Option.some.injEq] at e; subst e; exact ⟨_, rfl, h⟩
    | false => rw [hb] at e; exact RepF.look r e
theorem RepF.at : ∀ {vs : List (L2.Key × L2.V)} {ds : List (L2.Key × D)} {f : L2.Key}, RepF K cl G vs ds → (∀ d, dAt ds f = some d → ∃ v, valV vs f = some v ∧ Rep K cl G v d) ∧ (dAt ds f = none → valV vs f = none)
  | _, _, _, .nil => ⟨fun d e => by simp [dAt] at e, fun _ => rfl⟩
  | _, _, f, .cons (f := g) (v := v) (d := d') h r => by
    by_cases hb : g = f
    · subst hb
      refine ⟨fun d e => ?_, fun e => ?_⟩
      · simp only [dAt, List.find?_cons, decide_true, Option.map_some, Option.some.injEq] at e
        subst e
        exact ⟨v, by simp [valV, List.find?_cons], h⟩
      · simp [dAt, List.find?_cons] at e
    · have ih := RepF.at (f := f) r
      have e1 : ∀ {α : Type} (x : α) (l : List (L2.Key × α)), dAt ((g, x) :: l) f = dAt l f := fun x l => by simp [dAt, List.find?_cons, hb]
      have e2 : ∀ (x : L2.V) (l : List (L2.Key × L2.V)), valV ((g, x) :: l) f = valV l f := fun x l => by simp [valV, List.find?_cons, hb]
      rw [e1, e2]
      exact ih
theorem RepF.keys : ∀ {κ : Type} {vs : List (κ × L2.V)} {ds : List (κ × D)}, RepF K cl G vs ds → vs.map (·.1) = ds.map (·.1)
  | _, _, _, .nil => rfl
  | _, _, _, .cons h r => by simp [RepF.keys r]
theorem RepF.look_none : ∀ {vs : List (Str × L2.V)} {ds : List (Str × D)} {f : Str}, RepF K cl G vs ds → ds.lookup f = none → vs.lookup f = none
  | _, _, _, .nil, _ => rfl
  | _, _, f, .cons (f := g) h r, e => by
    rw [List.lookup_cons] at e ⊢
    cases hb : f == g with
    | true => rw [hb] at e; cases e
    | false => rw [hb] at e; exact RepF.look_none r e
end
/-- the frozen part of the heap, the cells' addresses, the error that a suite holds (address, class, dict) -/
structure Wd where
  G : Hp
  io : List Addr
  ex : Option (Addr × Nat × Option Addr)
/-- an error's fields -/
def FldX (K : PySem.W.Frag) (cl : Nat → Option Addr) (G : Hp) (d : Option Addr) (fs : List (Str × D)) : Prop :=
  (d = none ∧ fs = []) ∨ ∃ dd fvs, d = some dd ∧ G dd = some (.xd fvs) ∧ RepF K cl G fvs fs
theorem FldX.mono {K : PySem.W.Frag} {cl : Nat → Option Addr} {G G' : Hp} {d : Option Addr} {fs : List (Str × D)} (s : Same G G') (h : FldX K cl G d fs) : FldX K cl G' d fs := by
  rcases h with h | ⟨dd, fvs, h1, h2, h3⟩
  · exact .inl h
  · exact .inr ⟨dd, fvs, h1, s _ _ h2, h3.mono s⟩
def RepR (K : PySem.W.Frag) (cl : Nat → Option Addr) (w : Wd) (v : L2.V) : R → Prop
  | .v d => Rep K cl w.G v d
  | .ref n => ∃ a, w.io[n]? = some a ∧ v = .ref a
  | .ex _ _ => False
/-- the error that a suite holds, in its slot -/
def RepE (K : PySem.W.Frag) (cl : Nat → Option Addr) (w : Wd) (v : L2.V) : R → Prop
  | .ex c fs => ∃ a d, w.ex = some (a, c, d) ∧ v = .ref a ∧ FldX K cl w.G d fs
  | _ => False
abbrev RepRs (K : PySem.W.Frag) (cl : Nat → Option Addr) (w : Wd) : List L2.V → List R → Prop := Paired (RepR K cl w)
def RepRF (K : PySem.W.Frag) (cl : Nat → Option Addr) (w : Wd) {κ : Type} : List (κ × L2.V) → List (κ × R) → Prop := Paired fun p q => p.1 = q.1 ∧ RepR K cl w p.2 q.2
/-- a cell as it stands at its address -/
def CellOk (K : PySem.W.Frag) (cl : Nat → Option Addr) (w : Wd) (H : Hp) (a : Addr) : Cell → Prop
  | .lst xs => w.G a = none ∧ ∃ vs, H a = some (.lst vs) ∧ RepRs K cl w vs xs
  | .obj c fs => w.G a = none ∧ ∃ C dx fvs, (cl c = some C ∧ c < 100) ∧ H a = some (.ins C dx fvs) ∧ RepRF K cl w fvs fs
  | .fz d => Rep K cl w.G (.ref a) d
  | .dct kvs => w.G a = none ∧ ∃ vs, H a = some (.dK vs) ∧ RepRF K cl w vs kvs
structure SR (K : PySem.W.Frag) (cl : Nat → Option Addr) (w : Wd) (H : Hp) (st : Store) : Prop where
  sub : Same w.G H
  len : w.io.length = st.length
  nd : w.io.Nodup
  trk : ∀ a ∈ w.io, ∃ o, H a = some o
  cell : ∀ (n : Nat) (c : Cell) (a : Addr), st[n]? = some c → w.io[n]? = some a → CellOk K cl w H a c
/-- what may come of a world: cells and frozen things are kept, all else that is tracked stays as it was -/
structure Ext (w : Wd) (H : Hp) (w' : Wd) (H' : Hp) : Prop where
  io : ∃ l, w'.io = w.io ++ l
  G : Same w.G w'.G
  ex : w'.ex = w.ex
  fr : ∀ a o, H a = some o → a ∉ w.io → H' a = some o
  new : ∀ a ∈ w'.io, a ∉ w.io → H a = none
  gnew : ∀ a o, w'.G a = some o → w.G a = none → H a = none ∨ a ∈ w.io
theorem Ext.refl (w : Wd) (H : Hp) : Ext w H w H := ⟨⟨[], by simp⟩, Same.refl _, rfl, fun _ _ h _ => h, fun _ h n => absurd h n, fun _ _ h n => by rw [n] at h; cases h⟩
theorem Ext.mem {w w' : Wd} {H H' : Hp} (e : Ext w H w' H') {a : Addr} (h : a ∈ w.io) : a ∈ w'.io := by
  obtain ⟨l, q⟩ := e.io
  rw [q]; exact List.mem_append_left _ h
theorem Ext.back {w w' : Wd} {H H' : Hp} (e : Ext w H w' H') {a : Addr} (h : H' a = none) : H a = none ∨ a ∈ w.io := by
  by_cases hm : a ∈ w.io
  · exact .inr hm
  · cases q : H a with
    | none => exact .inl rfl
    | some o => rw [e.fr a o q hm] at h; cases h
theorem Ext.trans {w w1 w2 : Wd} {H H1 H2 : Hp} (e : Ext w H w1 H1) (f : Ext w1 H1 w2 H2) : Ext w H w2 H2 where
  io := by
    obtain ⟨l, q⟩ := e.io
    obtain ⟨m, r⟩ := f.io
    exact ⟨l ++ m, by rw [r, q, List.append_assoc]⟩
  G := e.G.trans f.G
  ex := f.ex.trans e.ex
  fr := fun a o h n => f.fr a o (e.fr a o h n) fun m => by
    have := e.new a m n
    rw [h] at this; cases this
  new := fun a h n => by
    by_cases m : a ∈ w1.io
    · exact e.new a m n
    · rcases e.back (f.new a h m) with z | z
      · exact z
      · exact absurd z n
  gnew := fun a o h n => by
    cases q : w1.G a with
    | some u => exact e.gnew a u q n
    | none =>
      rcases f.gnew a o h q with z | z
      · exact e.back z
      · by_cases m : a ∈ w.io
        · exact .inr m
        · exact .inl (e.new a z m)
theorem Ext.ix {w w' : Wd} {H H' : Hp} (e : Ext w H w' H') {n : Nat} {a : Addr} (h : w.io[n]? = some a) : w'.io[n]? = some a := by
  obtain ⟨l, q⟩ := e.io
  rw [q, List.getElem?_append_left (List.getElem?_eq_some_iff.mp h).1]
  exact h
section
variable {K : PySem.W.Frag} {cl : Nat → Option Addr} {w w' : Wd} {H H' : Hp} {st : Store}
theorem RepR.ext (e : Ext w H w' H') {v : L2.V} {r : R} (h : RepR K cl w v r) : RepR K cl w' v r := by
  cases r with
  | v d => exact Rep.mono e.G (show Rep K cl w.G v d from h)
  | ref n =>
    obtain ⟨a, h1, h2⟩ := h
    exact ⟨a, e.ix h1, h2⟩
  | ex c fs => exact h
theorem RepE.ext (e : Ext w H w' H') {v : L2.V} {r : R} (h : RepE K cl w v r) : RepE K cl w' v r := by
  cases r with
  | v d => exact h
  | ref n => exact h
  | ex c fs =>
    obtain ⟨a, d, h1, h2, h3⟩ := h
    exact ⟨a, d, by rw [e.ex]; exact h1, h2, h3.mono e.G⟩
theorem RepRs.ext (e : Ext w H w' H') {vs : List L2.V} {rs : List R} (h : RepRs K cl w vs rs) : RepRs K cl w' vs rs := L2.Paired.mapP h fun _ _ q => q.ext e
theorem RepRs.length {vs : List L2.V} {rs : List R} (h : RepRs K cl w vs rs) : vs.length = rs.length := Paired.length h
theorem Rep.toR {v : L2.V} {d : D} (h : Rep K cl w.G v d) : RepR K cl w v (.v d) := h
theorem Reps.toR : ∀ {vs : List L2.V} {ds : List D}, Reps K cl w.G vs ds → RepRs K cl w vs (ds.map R.v)
  | _, _, .nil => .nil
  | _, _, .cons h r => .cons h (Reps.toR r)
theorem RepRs.get : ∀ {vs : List L2.V} {ds : List R} {i : Nat} {d : R}, RepRs K cl w vs ds → ds[i]? = some d → ∃ v, vs[i]? = some v ∧ RepR K cl w v d
  | _, _, _, _, .nil, e => by simp at e
  | _, _, 0, _, .cons h _, e => by simp at e; subst e; exact ⟨_, rfl, h⟩
  | _, _, i + 1, d, .cons _ r, e => by
    obtain ⟨v, h1, h2⟩ := RepRs.get (i := i) (d := d) r (by simpa using e)
    exact ⟨v, by simpa using h1, h2⟩
theorem repRs_app {vs us : List L2.V} {xs ys : List R} (h : RepRs K cl w vs xs) (h2 : RepRs K cl w us ys) : RepRs K cl w (vs ++ us) (xs ++ ys) := by
  induction h with
  | nil => exact h2
  | cons a _ ih => exact .cons a ih
theorem RepRs.vals : ∀ {vs : List L2.V} {rs : List R} {ds : List D}, RepRs K cl w vs rs → rs.mapM valOf = some ds → Reps K cl w.G vs ds
  | _, _, ds, .nil, e => by simp at e; subst e; exact .nil
  | _, _, ds, .cons (b := r) (l₂ := rs) h t, e => by
    rw [List.mapM_cons] at e
    cases q : valOf r with
    | none => rw [q] at e; cases e
    | some d =>
      cases q2 : rs.mapM valOf with
      | none => rw [q, q2] at e; cases e
      | some l =>
        rw [q, q2] at e
        cases e
        have hr : r = .v d := by cases r <;> simp [valOf] at q; rw [q]
        subst hr
        exact .cons h (RepRs.vals t q2)
end
/-- what is wished of an error; and, within a suite, the error that it holds: its address, class, dict -/
structure WY where
  f : WX
  xi : Option (Addr × Value × Option Addr)
def XiOk (cl : Nat → Option Addr) (W : WY) (w : Wd) : Prop := match W.xi with
  | none => True
  | some (a, cls, d) => ∃ c C, w.ex = some (a, c, d) ∧ cl c = some C ∧ cls = .ref C ∧ ¬ c < 100
/-- names: each that is known stands in its slot -/
structure EnvR (K : PySem.W.Frag) (cl : Nat → Option Addr) (W : WY) (w : Wd) (σ : L2.St) (ρ : Env) : Prop where
  len : ρ.length = σ.length
  slot : ∀ (i : Nat) (r : R), ρ[i]? = some (some r) → ∃ v, σ[i]? = some (some v) ∧ (RepR K cl w v r ∨ RepE K cl w v r)
  xi : XiOk cl W w
section
variable {K : PySem.W.Frag} {cl : Nat → Option Addr} {W : WY} {w w' : Wd} {H H' : Hp} {st : Store} {σ : L2.St} {ρ : Env}
theorem XiOk.ext (e : Ext w H w' H') (h : XiOk cl W w) : XiOk cl W w' := by
  unfold XiOk at h ⊢
  cases q : W.xi with
  | none => trivial
  | some p =>
    rw [q] at h
    obtain ⟨c, C, h1, h2, h3⟩ := h
    exact ⟨c, C, by rw [e.ex]; exact h1, h2, h3⟩
theorem EnvR.ext (e : Ext w H w' H') (h : EnvR K cl W w σ ρ) : EnvR K cl W w' σ ρ := ⟨h.len, fun i r q => by
  obtain ⟨v, h1, h2⟩ := h.slot i r q
  exact ⟨v, h1, h2.imp (·.ext e) (·.ext e)⟩, h.xi.ext e⟩
theorem EnvR.set' {i : Nat} {v : L2.V} {r : R} (h : EnvR K cl W w σ ρ) (hr : RepR K cl w v r ∨ RepE K cl w v r) : EnvR K cl W w (σ.set i (some v)) (ρ.set i (some r)) := by
  refine ⟨by simp [h.len], fun j q e => ?_, h.xi⟩
  by_cases hj : i = j
  · subst hj
    by_cases hl : i < ρ.length
    · rw [List.getElem?_set_self hl] at e
      cases e
      exact ⟨v, by rw [List.getElem?_set_self (by rw [← h.len]; exact hl)], hr⟩
    · rw [List.getElem?_eq_none (by simpa using hl)] at e
      cases e
  · rw [List.getElem?_set_ne hj] at e
    obtain ⟨u, h1, h2⟩ := h.slot j q e
    exact ⟨u, by rw [List.getElem?_set_ne hj]; exact h1, h2⟩
theorem EnvR.set {i : Nat} {v : L2.V} {r : R} (h : EnvR K cl W w σ ρ) (hr : RepR K cl w v r) : EnvR K cl W w (σ.set i (some v)) (ρ.set i (some r)) := h.set' (.inl hr)
theorem EnvR.unset {i : Nat} (h : EnvR K cl W w σ ρ) : EnvR K cl W w (σ.set i none) (ρ.set i none) := by
  refine ⟨by simp [h.len], fun j q e => ?_, h.xi⟩
  by_cases hj : i = j
  · subst hj
    by_cases hl : i < ρ.length
    · rw [List.getElem?_set_self hl] at e
      cases e
    · rw [List.getElem?_eq_none (by simpa using hl)] at e
      cases e
  · rw [List.getElem?_set_ne hj] at e
    obtain ⟨u, h1, h2⟩ := h.slot j q e
    exact ⟨u, by rw [List.getElem?_set_ne hj]; exact h1, h2⟩
theorem EnvR.wipe : ∀ {vs : List Nat}, EnvR K cl W w σ ρ → EnvR K cl W w (L2.wipe σ vs) (wipeE ρ vs)
  | [], h => h
  | v :: vs, h => by unfold L2.wipe wipeE; exact (EnvR.wipe (vs := vs) h).unset
/-- the same names under another wish -/
theorem EnvR.wish {W' : WY} (h : EnvR K cl W w σ ρ) (hx : XiOk cl W' w) : EnvR K cl W' w σ ρ := ⟨h.len, h.slot, hx⟩
end
/-- an error that flies: its class, its dict -/
def RepX (K : PySem.W.Frag) (cl : Nat → Option Addr) (w : Wd) (cls : Value) (d : Option Addr) (c : Nat) (fs : List (Str × D)) : Prop :=
  (∃ C, cl c = some C ∧ cls = .ref C ∧ ¬ c < 100) ∧ FldX K cl w.G d fs
/-- what is wanted behind an end of our language -/
def Wn {α β : Type} (rel : Wd → β → α → Prop) (K : PySem.W.Frag) (cl : Nat → Option Addr) (W : WY) (σ : L2.St) (Q : β → Hp → Prop) (w : Wd) (H : Hp) : Out α → Prop
  | .ok a st => ∀ b w' H', Ext w H w' H' → SR K cl w' H' st → rel w' b a → Q b H'
  | .exc c fs st => ∀ cls d w' H', Ext w H w' H' → SR K cl w' H' st → RepX K cl w' cls d c fs → W.f cls d σ H'
  | .bad => False
theorem Wn.ext {α β : Type} {rel : Wd → β → α → Prop} {K : PySem.W.Frag} {cl : Nat → Option Addr} {W : WY} {σ : L2.St} {Q : β → Hp → Prop} {w w1 : Wd} {H H1 : Hp} {o : Out α} (e : Ext w H w1 H1) (h : Wn rel K cl W σ Q w H o) : Wn rel K cl W σ Q w1 H1 o := by
  cases o with
  | ok a st => exact fun b w' H' e' s r => h b w' H' (e.trans e') s r
  | exc c fs st => exact fun cls d w' H' e' s r => h cls d w' H' (e.trans e') s r
  | bad => exact h
theorem Wn.mono {α β : Type} {rel : Wd → β → α → Prop} {K : PySem.W.Frag} {cl : Nat → Option Addr} {W : WY} {σ : L2.St} {Q Q' : β → Hp → Prop} {w : Wd} {H : Hp} {o : Out α} (hq : ∀ b H', Q b H' → Q' b H') (h : Wn rel K cl W σ Q w H o) : Wn rel K cl W σ Q' w H o := by
  cases o with
  | ok a st => exact fun b w' H' e' s r => hq _ _ (h b w' H' e' s r)
  | exc c fs st => exact h
  | bad => exact h
/-- a reading: m is what it means -/
def tG {α β : Type} (rel : Wd → β → α → Prop) (K : PySem.W.Frag) (cl : Nat → Option Addr) (W : WY) (m : Env → M α) : L2.St → Hp → (β → Hp → Prop) → Prop := fun σ H Q =>
  ∃ w ρ st, SR K cl w H st ∧ EnvR K cl W w σ ρ ∧ Wn rel K cl W σ Q w H (m ρ st)
theorem tG.mono {α β : Type} {rel : Wd → β → α → Prop} {K : PySem.W.Frag} {cl : Nat → Option Addr} {W : WY} {m : Env → M α} {σ : L2.St} {H : Hp} {Q Q' : β → Hp → Prop} (h : tG rel K cl W m σ H Q) (hq : ∀ b H', Q b H' → Q' b H') : tG rel K cl W m σ H Q' := by
  obtain ⟨w, ρ, st, h1, h2, h3⟩ := h
  exact ⟨w, ρ, st, h1, h2, h3.mono hq⟩
/-- the first part of a bind: what it leaves for the second -/
theorem tG.bind {α β γ δ : Type} {rel : Wd → β → α → Prop} {rel' : Wd → δ → γ → Prop} {K : PySem.W.Frag} {cl : Nat → Option Addr} {W : WY} {m : Env → M α} {f : α → M γ} {σ : L2.St} {H : Hp} {Q : δ → Hp → Prop} {w : Wd} {ρ : Env} {st : Store}
    (s : SR K cl w H st) (e : EnvR K cl W w σ ρ) (h : Wn rel' K cl W σ Q w H ((m ρ st).bind f)) :
    tG rel K cl W m σ H (fun b H1 => ∃ w1 a st1, Ext w H w1 H1 ∧ SR K cl w1 H1 st1 ∧ EnvR K cl W w1 σ ρ ∧ rel w1 b a ∧ Wn rel' K cl W σ Q w1 H1 (f a st1)) := by
  refine ⟨w, ρ, st, s, e, ?_⟩
  cases q : m ρ st with
  | ok a st1 =>
    rw [q] at h
    exact fun b w' H' e' s' r => ⟨w', a, st1, e', s', e.ext e', r, h.ext e'⟩
  | exc c fs st1 => rw [q] at h; exact h
  | bad => rw [q] at h; exact h
/-- a bind whose first part leaves world and heap -/
theorem Wn.step {α γ δ : Type} {rel' : Wd → δ → γ → Prop} {K : PySem.W.Frag} {cl : Nat → Option Addr} {W : WY} {σ : L2.St} {Q : δ → Hp → Prop} {w : Wd} {H : Hp} {o : Out α} {f : α → M γ} (h : Wn rel' K cl W σ Q w H (o.bind f)) (hne : ∀ c fs st, o ≠ .exc c fs st) : ∃ a st, o = .ok a st ∧ Wn rel' K cl W σ Q w H (f a st) := by
  cases o with
  | ok a st => exact ⟨a, st, rfl, h⟩
  | exc c fs st => exact absurd rfl (hne c fs st)
  | bad => exact False.elim h
abbrev tV (K : PySem.W.Frag) (cl : Nat → Option Addr) (W : WY) (m : Env → M R) : TE := tG (RepR K cl) K cl W m
abbrev tB (K : PySem.W.Frag) (cl : Nat → Option Addr) (W : WY) (m : Env → M Bool) : TT := tG (fun _ b c => b = c) K cl W m
abbrev tA (K : PySem.W.Frag) (cl : Nat → Option Addr) (W : WY) (m : Env → M (List R)) : TA := tG (RepRs K cl) K cl W m
theorem PE.imp {X : Cx} {e : Expr} {t t' : TE} (h : PE X e t) (hi : ∀ σ H Q, t' σ H Q → t σ H Q) : PE X e t' := ⟨fun pins s σ H Q I q => h.run pins s σ H Q I (hi σ H Q q)⟩
theorem PT.imp {X : Cx} {e : Expr} {t t' : TT} (h : PT X e t) (hi : ∀ σ H Q, t' σ H Q → t σ H Q) : PT X e t' := ⟨fun pins s σ H Q I q => h.run pins s σ H Q I (hi σ H Q q)⟩
theorem PA.imp {X : Cx} {e : List Expr} {t t' : TA} (h : PA X e t) (hi : ∀ σ H Q, t' σ H Q → t σ H Q) : PA X e t' := ⟨fun pos pins s σ H Q I q => h.run pos pins s σ H Q I (hi σ H Q q)⟩
theorem PW.imp {X : Cx} {e : Expr} {t t' : TT} (h : PW X e t) (hi : ∀ σ H Q, t' σ H Q → t σ H Q) : PW X e t' := ⟨fun wh pins s σ H Q I q => h.run wh pins s σ H Q I (hi σ H Q q)⟩
theorem PS.imp {X : Cx} {e : Stmt} {t t' : TS} (h : PS X e t) (hi : ∀ D σ H, t' D σ H → t D σ H) : PS X e t' := ⟨fun pins s σ H D I q => h.run pins s σ H D I (hi D σ H q)⟩
theorem PSs.imp {X : Cx} {e : List Stmt} {t t' : TS} (h : PSs X e t) (hi : ∀ D σ H, t' D σ H → t D σ H) : PSs X e t' := ⟨fun pins s σ H D I q => h.run pins s σ H D I (hi D σ H q)⟩
end SV

set_option maxRecDepth 100000
set_option maxHeartbeats 2000000
/-! SvC: reading, freezing, laying, changing; the operators -/
namespace SV
open PySem PySem.Spec PyProof.Rows L2
section
variable {K : PySem.W.Frag} {cl : Nat → Option Addr} {w : Wd} {H : Hp} {st : Store}
/-- data whose head may be a cell: its items are frozen -/
def RepH (K : PySem.W.Frag) (cl : Nat → Option Addr) (w : Wd) (H : Hp) (v : L2.V) (d : D) : Prop := match d with
  | .lst ds => ∃ a vs, v = .ref a ∧ SqL K H a vs ∧ Reps K cl w.G vs ds
  | d => Rep K cl w.G v d
theorem RepH.of (s : Same w.G H) {v : L2.V} {d : D} (h : Rep K cl w.G v d) : RepH K cl w H v d := by
  cases d with
  | lst ds =>
    cases h with
    | lst hs r => exact ⟨_, _, rfl, s.seq hs, r⟩
  | _ => exact h
theorem RepH.rep (s : Same w.G H) {v : L2.V} {d : D} (h : RepH K cl w H v d) : Rep K cl H v d := by
  cases d with
  | lst ds =>
    obtain ⟨a, vs, rfl, hs, r⟩ := h
    exact .lst hs (r.mono s)
  | _ => exact Rep.mono s h
theorem force_rep (s : SR K cl w H st) {v : L2.V} {r : R} {d : D} (h : RepR K cl w v r) (e : force st r = some d) : RepH K cl w H v d := by
  cases r with
  | v d' => cases e; exact RepH.of s.sub h
  | ex c fs => cases e
  | ref n =>
    obtain ⟨a, ha, rfl⟩ := h
    simp only [force] at e
    cases q : st[n]? with
    | none => rw [q] at e; cases e
    | some c =>
      have k := s.cell n c a q ha
      rw [q] at e
      cases c with
      | lst xs =>
        obtain ⟨_, vs, hv, rs⟩ := k
        cases q2 : xs.mapM valOf with
        | none => simp only [q2] at e; cases e
        | some ds =>
          simp only [q2] at e
          cases e
          exact ⟨a, vs, rfl, SqL.of hv, rs.vals q2⟩
      | obj c fs => cases e
      | dct kvs => cases e
      | fz d' => cases e; exact RepH.of s.sub k
theorem rdD_ok {r : R} {d : D} {st st' : Store} (e : rdD r st = .ok d st') : force st r = some d ∧ st' = st := by
  unfold rdD at e
  cases q : force st r with
  | none => rw [q] at e; cases e
  | some d' => rw [q] at e; cases e; exact ⟨rfl, rfl⟩
theorem rdD_ne {r : R} {st : Store} : ∀ c fs s, rdD r st ≠ .exc c fs s := fun c fs s e => by
  unfold rdD at e
  split at e <;> cases e
/-- a new frozen thing -/
theorem SR.lay (s : SR K cl w H st) {p : Addr} {o : HO} (hp : H p = none) : SR K cl { w with G := upd w.G p o } (upd H p o) st ∧ Ext w H { w with G := upd w.G p o } (upd H p o) := by
  have gp : w.G p = none := s.sub.free hp
  have sg : Same w.G (upd w.G p o) := fun b u e => by rw [upd_ne (ne_of_none e gp)]; exact e
  have e : Ext w H { w with G := upd w.G p o } (upd H p o) := ⟨⟨[], by simp⟩, sg, rfl, fun a u h n => by rw [upd_ne (ne_of_none h hp)]; exact h, fun a h n => absurd h n, fun a u h n => by
    by_cases z : a = p
    · rw [z]; exact .inl hp
    · have h' : upd w.G p o a = some u := h
      rw [upd_ne z, n] at h'; cases h'⟩
  refine ⟨⟨fun b u q => ?_, s.len, s.nd, fun a ha => ?_, fun n c a q ha => ?_⟩, e⟩
  rotate_left
  · obtain ⟨u, hu⟩ := s.trk a ha
    exact ⟨u, by rw [upd_ne (ne_of_none hu hp)]; exact hu⟩
  rotate_left
  · have q' : upd w.G p o b = some u := q
    by_cases z : b = p
    · subst z; rw [upd_same] at q' ⊢; exact q'
    · rw [upd_ne z] at q' ⊢; exact s.sub b u q'
  · have k := s.cell n c a q ha
    cases c with
    | lst xs =>
      obtain ⟨h1, vs, h2, h3⟩ := k
      have na : a ≠ p := ne_of_none h2 hp
      exact ⟨by show upd w.G p o a = none; rw [upd_ne na]; exact h1, vs, by rw [upd_ne na]; exact h2, h3.ext e⟩
    | obj c fs =>
      obtain ⟨h1, C, dx, fvs, h2, h3, h4⟩ := k
      have na : a ≠ p := ne_of_none h3 hp
      exact ⟨by show upd w.G p o a = none; rw [upd_ne na]; exact h1, C, dx, fvs, h2, by rw [upd_ne na]; exact h3, L2.Paired.mapP h4 fun _ _ z => ⟨z.1, z.2.ext e⟩⟩
    | dct kvs =>
      obtain ⟨h1, vs, h3, h4⟩ := k
      have na : a ≠ p := ne_of_none h3 hp
      exact ⟨by show upd w.G p o a = none; rw [upd_ne na]; exact h1, vs, by rw [upd_ne na]; exact h3, L2.Paired.mapP h4 fun _ _ z => ⟨z.1, z.2.ext e⟩⟩
    | fz d => exact Rep.mono sg k
/-- a cell's address is tracked -/
theorem SR.at (s : SR K cl w H st) {n : Nat} {a : Addr} (h : w.io[n]? = some a) : ∃ c, st[n]? = some c ∧ CellOk K cl w H a c := by
  have hl : n < st.length := by rw [← s.len]; exact (List.getElem?_eq_some_iff.mp h).1
  exact ⟨st[n], by simp [hl], s.cell n _ a (by simp [hl]) h⟩
/-- an address that a plain datum names is tracked or written -/
theorem SR.free_io (s : SR K cl w H st) {n : Nat} {c : Cell} {a : Addr} (q : st[n]? = some c) (h : w.io[n]? = some a) : (∃ o, H a = some o) ∨ ∃ d, c = .fz d := by
  have k := s.cell n c a q h
  cases c with
  | lst xs => obtain ⟨_, vs, h2, _⟩ := k; exact .inl ⟨_, h2⟩
  | obj c fs => obtain ⟨_, C, dx, fvs, _, h3, _⟩ := k; exact .inl ⟨_, h3⟩
  | dct kvs => obtain ⟨_, vs, h3, _⟩ := k; exact .inl ⟨_, h3⟩
  | fz d => exact .inr ⟨d, rfl⟩
/-- a new cell -/
theorem SR.alloc (s : SR K cl w H st) {p : Addr} {vs : List L2.V} {xs : List R} (hp : H p = none) (r : RepRs K cl w vs xs) :
    SR K cl { w with io := w.io ++ [p] } (upd H p (.lst vs)) (st ++ [.lst xs]) ∧ Ext w H { w with io := w.io ++ [p] } (upd H p (.lst vs)) := by
  have gp : w.G p = none := s.sub.free hp
  have hm : p ∉ w.io := fun z => by
    obtain ⟨u, hu⟩ := s.trk p z
    rw [hp] at hu; cases hu
  have e : Ext w H { w with io := w.io ++ [p] } (upd H p (.lst vs)) := ⟨⟨[p], rfl⟩, Same.refl _, rfl, fun a u h n => by rw [upd_ne (ne_of_none h hp)]; exact h, fun a h n => by
    have h' : a ∈ w.io ++ [p] := h
    rcases List.mem_append.mp h' with z | z
    · exact absurd z n
    · rw [List.mem_singleton.mp z]; exact hp, fun a u h n => by rw [n] at h; cases h⟩
  refine ⟨⟨fun b u q => ?_, by simp [s.len], ?_, fun a ha => ?_, fun n c a q ha => ?_⟩, e⟩
  rotate_left 2
  · have ha' : a ∈ w.io ++ [p] := ha
    rcases List.mem_append.mp ha' with z | z
    · obtain ⟨u, hu⟩ := s.trk a z
      exact ⟨u, by rw [upd_ne (ne_of_none hu hp)]; exact hu⟩
    · rw [List.mem_singleton.mp z]; exact ⟨_, upd_same⟩
  rotate_right 2
  · rw [upd_ne (ne_of_none q gp)]; exact s.sub b u q
  · show (w.io ++ [p]).Nodup
    rw [List.nodup_append]
    exact ⟨s.nd, by simp, fun a ha b hb => by rw [List.mem_singleton.mp hb]; exact fun z => hm (z ▸ ha)⟩
  · have ha' : (w.io ++ [p])[n]? = some a := ha
    by_cases hn : n < w.io.length
    · rw [List.getElem?_append_left hn] at ha'
      rw [List.getElem?_append_left (by rw [← s.len]; exact hn)] at q
      have k := s.cell n c a q ha'
      have na : a ≠ p := fun z => hm (z ▸ List.mem_of_getElem? ha')
      cases c with
      | lst ys =>
        obtain ⟨h1, us, h2, h3⟩ := k
        exact ⟨h1, us, by rw [upd_ne na]; exact h2, h3.ext e⟩
      | obj c fs =>
        obtain ⟨h1, C, dx, fvs, h2, h3, h4⟩ := k
        exact ⟨h1, C, dx, fvs, h2, by rw [upd_ne na]; exact h3, L2.Paired.mapP h4 fun _ _ z => ⟨z.1, z.2.ext e⟩⟩
      | dct kvs =>
        obtain ⟨h1, vs, h3, h4⟩ := k
        exact ⟨h1, vs, by rw [upd_ne na]; exact h3, L2.Paired.mapP h4 fun _ _ z => ⟨z.1, z.2.ext e⟩⟩
      | fz d => exact k
    · have hz : n = w.io.length := by
        have := (List.getElem?_eq_some_iff.mp ha').1
        simp at this; omega
      subst hz
      rw [List.getElem?_concat_length] at ha'
      cases ha'
      rw [s.len, List.getElem?_concat_length] at q
      cases q
      exact ⟨gp, vs, upd_same, r.ext e⟩
/-- a list cell changed -/
theorem SR.write (s : SR K cl w H st) {n : Nat} {a : Addr} {xs ys : List R} {vs : List L2.V} (q : st[n]? = some (.lst xs)) (ha : w.io[n]? = some a) (r : RepRs K cl w vs ys) :
    SR K cl w (upd H a (.lst vs)) (st.set n (.lst ys)) ∧ Ext w H w (upd H a (.lst vs)) := by
  obtain ⟨ga, us, hv, rs⟩ := s.cell n _ a q ha
  have hl : n < st.length := (List.getElem?_eq_some_iff.mp q).1
  have e : Ext w H w (upd H a (.lst vs)) := ⟨⟨[], by simp⟩, Same.refl _, rfl, fun b u h m => by
    rw [upd_ne (fun (z : b = a) => m (by rw [z]; exact List.mem_of_getElem? ha))]; exact h, fun b h m => absurd h m, fun b u h m => by rw [m] at h; cases h⟩
  refine ⟨⟨fun b u h => ?_, by simp [s.len], s.nd, fun b hb => ?_, fun m c b qm hb => ?_⟩, e⟩
  rotate_left
  · by_cases z : b = a
    · subst z; exact ⟨_, upd_same⟩
    · obtain ⟨u, hu⟩ := s.trk b hb
      exact ⟨u, by rw [upd_ne z]; exact hu⟩
  rotate_right
  · rw [upd_ne (ne_of_none h ga)]; exact s.sub b u h
  · by_cases z : n = m
    · subst z
      rw [ha] at hb; cases hb
      rw [List.getElem?_set_self hl] at qm
      cases qm
      exact ⟨ga, vs, upd_same, r⟩
    · rw [List.getElem?_set_ne z] at qm
      have k := s.cell m c b qm hb
      have nb : b ≠ a := fun y => by
        subst y
        exact z (L2.nd_ix s.nd ha hb)
      cases c with
      | lst ys =>
        obtain ⟨h1, ws, h2, h3⟩ := k
        exact ⟨h1, ws, by rw [upd_ne nb]; exact h2, h3⟩
      | obj c fs =>
        obtain ⟨h1, C, dx, fvs, h2, h3, h4⟩ := k
        exact ⟨h1, C, dx, fvs, h2, by rw [upd_ne nb]; exact h3, h4⟩
      | dct kvs =>
        obtain ⟨h1, vs, h3, h4⟩ := k
        exact ⟨h1, vs, by rw [upd_ne nb]; exact h3, h4⟩
      | fz d => exact k
/-- freezing one cell -/
theorem SR.freeze (s : SR K cl w H st) {n : Nat} {a : Addr} {c : Cell} {d : D} {o : HO} (hc : st[n]? = some c) (ha : w.io[n]? = some a) (ga : w.G a = none) (hH : H a = some o) (rd : Rep K cl (upd w.G a o) (.ref a) d) :
    Ext w H { w with G := upd w.G a o } H ∧ SR K cl { w with G := upd w.G a o } H (st.set n (.fz d)) := by
  have hl : n < st.length := (List.getElem?_eq_some_iff.mp hc).1
  have sg : Same w.G (upd w.G a o) := fun b u e => by rw [upd_ne (ne_of_none e ga)]; exact e
  have e : Ext w H { w with G := upd w.G a o } H := ⟨⟨[], by simp⟩, sg, rfl, fun _ _ h _ => h, fun b h m => absurd h m, fun b u h m => by
    by_cases z : b = a
    · exact .inr (z ▸ List.mem_of_getElem? ha)
    · have h' : upd w.G a o b = some u := h
      rw [upd_ne z, m] at h'; cases h'⟩
  refine ⟨e, ⟨fun b u h => ?_, by simp [s.len], s.nd, s.trk, fun m c b qm hb => ?_⟩⟩
  · have h' : upd w.G a o b = some u := h
    by_cases z : b = a
    · subst z; rw [upd_same] at h'; cases h'; exact hH
    · rw [upd_ne z] at h'; exact s.sub b u h'
  · by_cases z : n = m
    · subst z
      have hb' : w.io[n]? = some b := hb
      rw [ha] at hb'; cases hb'
      rw [List.getElem?_set_self hl] at qm
      cases qm
      exact rd
    · rw [List.getElem?_set_ne z] at qm
      have k := s.cell m c b qm hb
      have nb : b ≠ a := fun y => by
        subst y
        exact z (L2.nd_ix s.nd ha hb)
      cases c with
      | lst ys =>
        obtain ⟨h1, ws, h2, h3⟩ := k
        exact ⟨by show upd w.G a _ b = none; rw [upd_ne nb]; exact h1, ws, h2, h3.ext e⟩
      | obj c fs =>
        obtain ⟨h1, C, dx, fvs, h2, h3, h4⟩ := k
        exact ⟨by show upd w.G a _ b = none; rw [upd_ne nb]; exact h1, C, dx, fvs, h2, h3, L2.Paired.mapP h4 fun _ _ z => ⟨z.1, z.2.ext e⟩⟩
      | dct kvs =>
        obtain ⟨h1, vs, h3, h4⟩ := k
        exact ⟨by show upd w.G a _ b = none; rw [upd_ne nb]; exact h1, vs, h3, L2.Paired.mapP h4 fun _ _ z => ⟨z.1, z.2.ext e⟩⟩
      | fz d => exact Rep.mono sg k
/-- freezing leaves all else as it is -/
def Kp (st st' : Store) : Prop := ∀ m : Nat, st'[m]? = st[m]? ∨ ∃ x, st'[m]? = some (.fz x)
theorem Kp.refl (st : Store) : Kp st st := fun _ => .inl rfl
theorem Kp.trans {a b c : Store} (h : Kp a b) (h' : Kp b c) : Kp a c := fun m => by
  rcases h' m with e | ⟨x, e⟩
  · rcases h m with e2 | ⟨x, e2⟩
    · exact .inl (e.trans e2)
    · exact .inr ⟨x, e.trans e2⟩
  · exact .inr ⟨x, e⟩
theorem Kp.set {st st1 : Store} {n : Nat} {d : D} (h : Kp st st1) : Kp st (st1.set n (.fz d)) := h.trans fun m => by
  by_cases z : n = m
  · subst z
    by_cases hl : n < st1.length
    · exact .inr ⟨d, by rw [List.getElem?_set_self hl]⟩
    · left
      rw [List.getElem?_eq_none (by simpa using hl), List.getElem?_eq_none (by simpa using hl)]
  · exact .inl (by rw [List.getElem?_set_ne z])
/-- what a freezing f does -/
def FzP (K : PySem.W.Frag) (cl : Nat → Option Addr) (H : Hp) (f : R → M D) : Prop := ∀ (w : Wd) (st : Store) (v : L2.V) (r : R) (d : D) (st' : Store), SR K cl w H st → RepR K cl w v r → f r st = .ok d st' → Kp st st' ∧ ∃ w', Ext w H w' H ∧ SR K cl w' H st' ∧ Rep K cl w'.G v d
def FzN (f : R → M D) : Prop := ∀ r st c fs s, f r st ≠ .exc c fs s
theorem frzL_ok {f : R → M D} (hf : FzP K cl H f) (hn : FzN f) : ∀ {rs : List R} {vs : List L2.V} {w : Wd} {st : Store} {ds : List D} {st' : Store}, SR K cl w H st → RepRs K cl w vs rs → frzL f rs st = .ok ds st' → Kp st st' ∧ ∃ w', Ext w H w' H ∧ SR K cl w' H st' ∧ Reps K cl w'.G vs ds
  | [], _, w, st, _, _, s, h, e => by cases h; cases e; exact ⟨Kp.refl _, w, Ext.refl _ _, s, .nil⟩
  | r :: rs, _, w, st, ds, st', s, .cons h t, e => by
    unfold frzL at e
    simp only [M.bind] at e
    cases q : f r st with
    | bad => rw [q] at e; cases e
    | exc c fs z => exact absurd q (hn r st c fs z)
    | ok d s1 =>
      rw [q] at e
      simp only [Out.bind_ok, M.bind] at e
      obtain ⟨k1, w1, e1, s1', r1⟩ := hf _ _ _ _ _ _ s h q
      cases q2 : frzL f rs s1 with
      | bad => rw [q2] at e; cases e
      | exc c fs z => rw [q2] at e; cases e
      | ok ds2 s2 =>
        rw [q2] at e
        cases e
        obtain ⟨k2, w2, e2, s2', r2⟩ := frzL_ok hf hn s1' (RepRs.ext e1 t) q2
        exact ⟨k1.trans k2, w2, e1.trans e2, s2', .cons (r1.mono e2.G) r2⟩
theorem frzL_ne {f : R → M D} (hn : FzN f) : ∀ {rs : List R} {st : Store} (c : Nat) (fs : List (Str × D)) (s : Store), frzL f rs st ≠ .exc c fs s
  | [], _, _, _, _, e => by cases e
  | r :: rs, st, c, fs, s, e => by
    unfold frzL at e
    simp only [M.bind] at e
    cases q : f r st with
    | bad => rw [q] at e; cases e
    | exc c fs z => exact absurd q (hn r st c fs z)
    | ok d s1 =>
      rw [q] at e
      simp only [Out.bind_ok, M.bind] at e
      cases q2 : frzL f rs s1 with
      | bad => rw [q2] at e; cases e
      | exc c fs z => exact absurd q2 (frzL_ne hn c fs z)
      | ok ds2 s2 => rw [q2] at e; cases e
theorem frzFl_ok {κ : Type} {f : R → M D} (hf : FzP K cl H f) (hn : FzN f) : ∀ {rs : List (κ × R)} {vs : List (κ × L2.V)} {w : Wd} {st : Store} {ds : List (κ × D)} {st' : Store}, SR K cl w H st → RepRF K cl w vs rs → frzFl f rs st = .ok ds st' → Kp st st' ∧ ∃ w', Ext w H w' H ∧ SR K cl w' H st' ∧ RepF K cl w'.G vs ds
  | [], _, w, st, _, _, s, h, e => by cases h; cases e; exact ⟨Kp.refl _, w, Ext.refl _ _, s, .nil⟩
  | (f1, r) :: rs, _, w, st, ds, st', s, .cons (a := p) (l₁ := ps) h t, e => by
    obtain ⟨p1, p2⟩ := p
    obtain ⟨h1, h2⟩ := h
    simp only at h1 h2
    subst h1
    unfold frzFl at e
    simp only [M.bind] at e
    cases q : f r st with
    | bad => rw [q] at e; cases e
    | exc c fs z => exact absurd q (hn r st c fs z)
    | ok d s1 =>
      rw [q] at e
      simp only [Out.bind_ok, M.bind] at e
      obtain ⟨k1, w1, e1, s1', r1⟩ := hf _ _ _ _ _ _ s h2 q
      cases q2 : frzFl f rs s1 with
      | bad => rw [q2] at e; cases e
      | exc c fs z => rw [q2] at e; cases e
      | ok ds2 s2 =>
        rw [q2] at e
        cases e
        obtain ⟨k2, w2, e2, s2', r2⟩ := frzFl_ok hf hn s1' (L2.Paired.mapP t fun _ _ z => ⟨z.1, z.2.ext e1⟩) q2
        exact ⟨k1.trans k2, w2, e1.trans e2, s2', .cons (r1.mono e2.G) r2⟩
theorem frzFl_ne {κ : Type} {f : R → M D} (hn : FzN f) : ∀ {rs : List (κ × R)} {st : Store} (c : Nat) (fs : List (Str × D)) (s : Store), frzFl f rs st ≠ .exc c fs s
  | [], _, _, _, _, e => by cases e
  | r :: rs, st, c, fs, s, e => by
    unfold frzFl at e
    simp only [M.bind] at e
    cases q : f r.2 st with
    | bad => rw [q] at e; cases e
    | exc c fs z => exact absurd q (hn r.2 st c fs z)
    | ok d s1 =>
      rw [q] at e
      simp only [Out.bind_ok, M.bind] at e
      cases q2 : frzFl f rs s1 with
      | bad => rw [q2] at e; cases e
      | exc c fs z => exact absurd q2 (frzFl_ne hn c fs z)
      | ok ds2 s2 => rw [q2] at e; cases e
theorem frzN_ne : ∀ k, FzN (frzN k)
  | 0, r, st, c, fs, s, e => by cases r <;> cases e
  | k + 1, r, st, c, fs, s, e => by
    cases r with
    | v d => cases e
    | ex c fs => cases e
    | ref n =>
      unfold frzN at e
      simp only at e
      split at e
      · rename_i xs _
        cases q : frzL (frzN k) xs st with
        | bad => rw [q] at e; cases e
        | exc c fs z => exact absurd q (frzL_ne (frzN_ne k) c fs z)
        | ok ds s1 => rw [q] at e; simp only [Out.bind_ok] at e; split at e <;> cases e
      · rename_i c' xs _
        cases q : frzFl (frzN k) xs st with
        | bad => rw [q] at e; cases e
        | exc c fs z => exact absurd q (frzFl_ne (frzN_ne k) c fs z)
        | ok ds s1 => rw [q] at e; simp only [Out.bind_ok] at e; split at e <;> cases e
      · rename_i xs _
        cases q : frzFl (frzN k) xs st with
        | bad => rw [q] at e; cases e
        | exc c fs z => exact absurd q (frzFl_ne (frzN_ne k) c fs z)
        | ok ds s1 => rw [q] at e; simp only [Out.bind_ok] at e; split at e <;> cases e
      · cases e
      · cases e
theorem frzN_ok : ∀ k, FzP K cl H (frzN k)
  | 0 => fun w st v r d st' s h e => by
    cases r with
    | v d' => cases e; exact ⟨Kp.refl _, w, Ext.refl _ _, s, h⟩
    | ref n => cases e
    | ex c fs => cases e
  | k + 1 => fun w st v r d st' s h e => by
    cases r with
    | v d' => cases e; exact ⟨Kp.refl _, w, Ext.refl _ _, s, h⟩
    | ex c fs => cases e
    | ref n =>
      obtain ⟨a, ha, rfl⟩ := h
      unfold frzN at e
      simp only at e
      split at e
      · rename_i xs hc
        cases q : frzL (frzN k) xs st with
        | bad => rw [q] at e; cases e
        | exc c fs z => exact absurd q (frzL_ne (frzN_ne k) c fs z)
        | ok ds s1 =>
          rw [q] at e
          simp only [Out.bind_ok] at e
          split at e
          · rename_i hL
            cases e
            obtain ⟨ga, vs, hv, rs⟩ := s.cell n _ a hc ha
            obtain ⟨k1, w1, e1, s1', r1⟩ := frzL_ok (frzN_ok k) (frzN_ne k) s rs q
            have hc1 : s1[n]? = some (.lst xs) := by
              rcases k1 n with z | ⟨x, z⟩
              · rw [z]; exact hc
              · rw [z] at hL; cases hL
            obtain ⟨ga1, vs1, hv1, rs1⟩ := s1'.cell n _ a hc1 (e1.ix ha)
            rw [hv] at hv1; cases hv1
            have sg : Same w1.G (upd w1.G a (.lst vs)) := fun b u e => by rw [upd_ne (ne_of_none e ga1)]; exact e
            have rd : Rep K cl (upd w1.G a (.lst vs)) (.ref a) (.lst ds) := .lst (SqL.of upd_same) (r1.mono sg)
            obtain ⟨e2, s2⟩ := s1'.freeze hc1 (e1.ix ha) ga1 hv rd
            exact ⟨k1.set, _, e1.trans e2, s2, rd⟩
          · cases e
      · rename_i c xs hc
        cases q : frzFl (frzN k) xs st with
        | bad => rw [q] at e; cases e
        | exc c fs z => exact absurd q (frzFl_ne (frzN_ne k) c fs z)
        | ok ds s1 =>
          rw [q] at e
          simp only [Out.bind_ok] at e
          split at e
          · rename_i hL
            cases e
            obtain ⟨ga, C, dx, fvs, hcl, hv, rs⟩ := s.cell n _ a hc ha
            obtain ⟨k1, w1, e1, s1', r1⟩ := frzFl_ok (frzN_ok k) (frzN_ne k) s rs q
            have hc1 : s1[n]? = some (.obj c xs) := by
              rcases k1 n with z | ⟨x, z⟩
              · rw [z]; exact hc
              · rw [z] at hL; cases hL
            obtain ⟨ga1, C1, dx1, vs1, hcl1, hv1, rs1⟩ := s1'.cell n _ a hc1 (e1.ix ha)
            have sg : Same w1.G (upd w1.G a (.ins C dx fvs)) := fun b u e => by rw [upd_ne (ne_of_none e ga1)]; exact e
            have rd : Rep K cl (upd w1.G a (.ins C dx fvs)) (.ref a) (.obj c ds) := .obj hcl upd_same (r1.mono sg)
            obtain ⟨e2, s2⟩ := s1'.freeze hc1 (e1.ix ha) ga1 hv rd
            exact ⟨k1.set, _, e1.trans e2, s2, rd⟩
          · cases e
      · rename_i xs hc
        cases q : frzFl (frzN k) xs st with
        | bad => rw [q] at e; cases e
        | exc c fs z => exact absurd q (frzFl_ne (frzN_ne k) c fs z)
        | ok ds s1 =>
          rw [q] at e
          simp only [Out.bind_ok] at e
          split at e
          · rename_i hL
            cases e
            obtain ⟨ga, fvs, hv, rs⟩ := s.cell n _ a hc ha
            obtain ⟨k1, w1, e1, s1', r1⟩ := frzFl_ok (frzN_ok k) (frzN_ne k) s rs q
            have hc1 : s1[n]? = some (.dct xs) := by
              rcases k1 n with z | ⟨x, z⟩
              · rw [z]; exact hc
              · rw [z] at hL; cases hL
            obtain ⟨ga1, vs1, hv1, rs1⟩ := s1'.cell n _ a hc1 (e1.ix ha)
            have sg : Same w1.G (upd w1.G a (.dK fvs)) := fun b u e => by rw [upd_ne (ne_of_none e ga1)]; exact e
            have rd : Rep K cl (upd w1.G a (.dK fvs)) (.ref a) (.dct ds) := .dct upd_same (r1.mono sg)
            obtain ⟨e2, s2⟩ := s1'.freeze hc1 (e1.ix ha) ga1 hv rd
            exact ⟨k1.set, _, e1.trans e2, s2, rd⟩
          · cases e
      · rename_i d' hc
        cases e
        exact ⟨Kp.refl _, w, Ext.refl _ _, s, s.cell n _ a hc ha⟩
      · cases e
/-- freezing -/
theorem frz_ok (s : SR K cl w H st) {v : L2.V} {r : R} {d : D} {st' : Store} (h : RepR K cl w v r) (e : frz r st = .ok d st') : ∃ w', Ext w H w' H ∧ SR K cl w' H st' ∧ Rep K cl w'.G v d := (frzN_ok 6 _ _ _ _ _ _ s h e).2
theorem frz_ne {r : R} {st : Store} : ∀ c fs s, frz r st ≠ .exc c fs s := frzN_ne 6 r st
/-- a new object -/
theorem SR.allocO (s : SR K cl w H st) {x dx C : Addr} {c : Nat} (hx : H x = none) (hdx : H dx = none) (hne : dx ≠ x) (hc : cl c = some C ∧ c < 100) :
    SR K cl { w with io := w.io ++ [x] } (upd (upd H dx (.own x)) x (.ins C dx [])) (st ++ [.obj c []]) ∧ Ext w H { w with io := w.io ++ [x] } (upd (upd H dx (.own x)) x (.ins C dx [])) := by
  have hh : ∀ {b : Addr} {u : HO}, H b = some u → (upd (upd H dx (.own x)) x (.ins C dx [])) b = some u := fun {b u} h => by
    rw [upd_ne (ne_of_none h hx), upd_ne (ne_of_none h hdx)]; exact h
  have nio : ∀ {b : Addr}, b ∈ w.io → b ≠ x := fun {b} hb z => by
    obtain ⟨u, hu⟩ := s.trk b hb
    rw [z, hx] at hu; cases hu
  have e : Ext w H { w with io := w.io ++ [x] } (upd (upd H dx (.own x)) x (.ins C dx [])) := ⟨⟨[x], rfl⟩, Same.refl _, rfl, fun b u h _ => hh h, fun b hb n => by
    rcases List.mem_append.mp hb with z | z
    · exact absurd z n
    · simp only [List.mem_singleton] at z; subst z; exact hx, fun b u h n => by
    have h' : w.G b = some u := h
    rw [n] at h'; cases h'⟩
  refine ⟨⟨fun b u h => hh (s.sub b u h), by simp [s.len], ?_, fun b hb => ?_, fun m c' b qm hb => ?_⟩, e⟩
  · show (w.io ++ [x]).Nodup
    rw [List.nodup_append]
    exact ⟨s.nd, by simp, fun b hb z hz => by simp only [List.mem_singleton] at hz; subst hz; exact nio hb⟩
  · rcases List.mem_append.mp hb with z | z
    · obtain ⟨u, hu⟩ := s.trk b z
      exact ⟨u, hh hu⟩
    · simp only [List.mem_singleton] at z; subst z; exact ⟨_, upd_same⟩
  · have hb' : (w.io ++ [x])[m]? = some b := hb
    by_cases hm : m < st.length
    · rw [List.getElem?_append_left hm] at qm
      rw [List.getElem?_append_left (by rw [s.len]; exact hm)] at hb'
      have k := s.cell m c' b qm hb'
      cases c' with
      | lst ys =>
        obtain ⟨h1, ws, h2, h3⟩ := k
        exact ⟨h1, ws, hh h2, h3.ext e⟩
      | obj c fs =>
        obtain ⟨h1, C, dx, fvs, h2, h3, h4⟩ := k
        exact ⟨h1, C, dx, fvs, h2, hh h3, L2.Paired.mapP h4 fun _ _ z => ⟨z.1, z.2.ext e⟩⟩
      | dct kvs =>
        obtain ⟨h1, vs, h3, h4⟩ := k
        exact ⟨h1, vs, hh h3, L2.Paired.mapP h4 fun _ _ z => ⟨z.1, z.2.ext e⟩⟩
      | fz d => exact k
    · have hm2 : m = st.length := by
        have := (List.getElem?_eq_some_iff.mp qm).1
        simp at this
        omega
      subst hm2
      rw [List.getElem?_concat_length] at qm
      cases qm
      rw [← s.len, List.getElem?_concat_length] at hb'
      cases hb'
      exact ⟨s.sub.free hx, C, dx, [], hc, upd_same, .nil⟩
/-- an object's fields changed -/
theorem SR.writeO (s : SR K cl w H st) {n : Nat} {a C dx : Addr} {c : Nat} {fs fs' : List (Str × R)} {fvs fvs' : List (Str × L2.V)} (q : st[n]? = some (.obj c fs)) (ha : w.io[n]? = some a) (hv : H a = some (.ins C dx fvs)) (r : RepRF K cl w fvs' fs') :
    SR K cl w (upd H a (.ins C dx fvs')) (st.set n (.obj c fs')) ∧ Ext w H w (upd H a (.ins C dx fvs')) := by
  obtain ⟨ga, C1, dx1, us, hc1, hv1, rs⟩ := s.cell n _ a q ha
  rw [hv] at hv1
  cases hv1
  have hl : n < st.length := (List.getElem?_eq_some_iff.mp q).1
  have e : Ext w H w (upd H a (.ins C dx fvs')) := ⟨⟨[], by simp⟩, Same.refl _, rfl, fun b u h m => by
    rw [upd_ne (fun (z : b = a) => m (by rw [z]; exact List.mem_of_getElem? ha))]; exact h, fun b h m => absurd h m, fun b u h m => by rw [m] at h; cases h⟩
  refine ⟨⟨fun b u h => ?_, by simp [s.len], s.nd, fun b hb => ?_, fun m c' b qm hb => ?_⟩, e⟩
  rotate_left
  · by_cases z : b = a
    · subst z; exact ⟨_, upd_same⟩
    · obtain ⟨u, hu⟩ := s.trk b hb
      exact ⟨u, by rw [upd_ne z]; exact hu⟩
  rotate_right
  · rw [upd_ne (ne_of_none h ga)]; exact s.sub b u h
  · by_cases z : n = m
    · subst z
      rw [ha] at hb; cases hb
      rw [List.getElem?_set_self hl] at qm
      cases qm
      exact ⟨ga, C, dx, fvs', hc1, upd_same, r⟩
    · rw [List.getElem?_set_ne z] at qm
      have k := s.cell m c' b qm hb
      have nb : b ≠ a := fun y => by
        subst y
        exact z (L2.nd_ix s.nd ha hb)
      cases c' with
      | lst ys =>
        obtain ⟨h1, ws, h2, h3⟩ := k
        exact ⟨h1, ws, by rw [upd_ne nb]; exact h2, h3⟩
      | obj c fs =>
        obtain ⟨h1, C, dx, fvs, h2, h3, h4⟩ := k
        exact ⟨h1, C, dx, fvs, h2, by rw [upd_ne nb]; exact h3, h4⟩
      | dct kvs =>
        obtain ⟨h1, vs, h3, h4⟩ := k
        exact ⟨h1, vs, by rw [upd_ne nb]; exact h3, h4⟩
      | fz d => exact k
theorem frzs_ok : ∀ {rs : List R} {vs : List L2.V} {w : Wd} {st : Store} {ds : List D} {st' : Store}, SR K cl w H st → RepRs K cl w vs rs → frzs rs st = .ok ds st' → ∃ w', Ext w H w' H ∧ SR K cl w' H st' ∧ Reps K cl w'.G vs ds
  | [], _, w, _, _, _, s, h, e => by cases h; cases e; exact ⟨w, Ext.refl _ _, s, .nil⟩
  | r :: rs, _, w, st, ds, st', s, .cons h t, e => by
    unfold frzs at e
    simp only [M.bind] at e
    cases q : frz r st with
    | bad => rw [q] at e; cases e
    | exc c fs z => exact absurd q (frz_ne c fs z)
    | ok d s1 =>
      rw [q] at e
      simp only [Out.bind_ok, M.bind] at e
      obtain ⟨w1, e1, s1', r1⟩ := frz_ok s h q
      cases q2 : frzs rs s1 with
      | bad => rw [q2] at e; cases e
      | exc c fs z => rw [q2] at e; cases e
      | ok ds2 s2 =>
        rw [q2] at e
        cases e
        obtain ⟨w2, e2, s2', r2⟩ := frzs_ok s1' (RepRs.ext e1 t) q2
        exact ⟨w2, e1.trans e2, s2', .cons (r1.mono e2.G) r2⟩
theorem frzs_ne : ∀ {rs : List R} {st : Store} (c : Nat) (fs : List (Str × D)) (s : Store), frzs rs st ≠ .exc c fs s
  | [], _, _, _, _, e => by cases e
  | r :: rs, st, c, fs, s, e => by
    unfold frzs at e
    simp only [M.bind] at e
    cases q : frz r st with
    | bad => rw [q] at e; cases e
    | exc c fs z => exact absurd q (frz_ne c fs z)
    | ok d s1 =>
      rw [q] at e
      simp only [Out.bind_ok, M.bind] at e
      cases q2 : frzs rs s1 with
      | bad => rw [q2] at e; cases e
      | exc c fs z => exact absurd q2 (frzs_ne c fs z)
      | ok ds2 s2 => rw [q2] at e; cases e
/-- the items of a list or a tuple -/
theorem items_ok (s : SR K cl w H st) {v : L2.V} {r : R} {xs : List R} {st' : Store} (h : RepR K cl w v r) (e : items r st = .ok xs st') : st' = st ∧ ∃ a vs, v = .ref a ∧ (SqL K H a vs ∨ SqT K H a vs) ∧ RepRs K cl w vs xs := by
  unfold items at e
  have dat : ∀ {d : D} {ds : List D} {v : L2.V}, Rep K cl w.G v d → (d = .lst ds ∨ d = .tup ds) → ∃ a vs, v = .ref a ∧ (SqL K H a vs ∨ SqT K H a vs) ∧ RepRs K cl w vs (ds.map R.v) := by
    intro d ds v h hd
    rcases hd with rfl | rfl
    · cases h with | lst hs r => exact ⟨_, _, rfl, .inl (s.sub.seq hs), r.toR⟩
    · cases h with | tup hs r => exact ⟨_, _, rfl, .inr (seqT_same s.sub hs), r.toR⟩
  split at e
  · cases e; exact ⟨rfl, dat h (.inl rfl)⟩
  · cases e; exact ⟨rfl, dat h (.inr rfl)⟩
  · rename_i n
    obtain ⟨a, ha, rfl⟩ := h
    split at e
    · rename_i ys hc
      cases e
      obtain ⟨_, vs, hv, rs⟩ := s.cell n _ a hc ha
      exact ⟨rfl, a, vs, rfl, .inl (SqL.of hv), rs⟩
    · rename_i ds hc
      cases e
      exact ⟨rfl, dat (s.cell n _ a hc ha) (.inl rfl)⟩
    · rename_i ds hc
      cases e
      exact ⟨rfl, dat (s.cell n _ a hc ha) (.inr rfl)⟩
    · cases e
  · cases e
theorem items_ne {r : R} {st : Store} : ∀ c fs s, items r st ≠ .exc c fs s := fun c fs s e => by
  unfold items at e
  split at e
  · cases e
  · cases e
  · split at e <;> cases e
  · cases e
end
end SV

set_option maxRecDepth 100000
set_option maxHeartbeats 2000000
/-! SvD: the rules of the operators, comparisons, truth and built-in calls, by our data -/
namespace SV
open PySem PySem.Spec PyProof.Rows L2
/-- what is wanted of new plain data -/
def NewD (K : PySem.W.Frag) (cl : Nat → Option Addr) (w : Wd) (H : Hp) (st : Store) (d : D) (Q : VK) : Prop :=
  ∀ v w' H', Ext w H w' H' → SR K cl w' H' st → Rep K cl w'.G v d → Q v H'
section
variable {K : PySem.W.Frag} {cl : Nat → Option Addr} {w : Wd} {H : Hp} {st : Store} {d : D} {Q : VK}
theorem NewD.here (s : SR K cl w H st) (h : NewD K cl w H st d Q) {v : L2.V} (r : Rep K cl w.G v d) : Q v H := h v w H (Ext.refl _ _) s r
theorem NewD.lay (s : SR K cl w H st) {o : HO} {p : Addr} (hp : H p = none) (h : NewD K cl w H st d Q) (r : Rep K cl (upd w.G p o) (.ref p) d) : Q (.ref p) (upd H p o) := by
  obtain ⟨s', e⟩ := s.lay (o := o) hp
  exact h _ _ _ e s' r
theorem Reps.up {p : Addr} {o : HO} {vs : List L2.V} {ds : List D} (s : SR K cl w H st) (hp : H p = none) (r : Reps K cl w.G vs ds) : Reps K cl (upd w.G p o) vs ds :=
  r.mono fun b u e => by rw [upd_ne (ne_of_none e (s.sub.free hp))]; exact e
end
/-- + of two lists, whatever they stand as -/
theorem op_catS {X : Cx} : OpR X (binaryOp .Add) (fun x y H Q => ∃ l b xs zs, x = .ref l ∧ y = .ref b ∧ SqL X.K H l xs ∧ SqL X.K H b zs ∧ xs.length + zs.length ≤ sizeLine ∧ ∀ p, H p = none → Q (.ref p) (upd H p (.lst (xs ++ zs)))) := by
  intro pins s σ H x y v u Q I rx ry h
  obtain ⟨l, b, xs, zs, rfl, rfl, hH, hB, hz, q⟩ := h
  cases rx
  cases ry
  obtain ⟨its, r, pl, _⟩ := I.list hH
  obtain ⟨its2, r2, pl2, _⟩ := I.list hB
  obtain ⟨⟨cls, dd, data, sl⟩, ho, hc, n, hd⟩ := pl.isList
  obtain ⟨⟨cls2, dd2, data2, sl2⟩, ho2, hc2, n2, hd2⟩ := pl2.isList
  simp only at hc hd hc2 hd2
  subst hc hd hc2 hd2
  have e : its.toArray ++ its2.toArray = (its ++ its2).toArray := by simp
  have hl := r.length
  have hl2 := r2.length
  refine concat_meets ⟨_, ho, rfl⟩ ⟨_, ho2, rfl⟩ noFill_list_add seq_list_add PySem.F.slot_list_add PySem.F.entry_list_add (PySem.F.args_list_add_2 _ _) (list_addW l b its.toArray its2.toArray n n2 dd dd2 sl sl2 (by rw [List.size_toArray, List.size_toArray]; omega)) ⟨ho, ho2, ?_⟩
  rw [e]
  exact ⟨.ref _, _, I.lnew (t' := s.toks) (r.append r2) (by rw [List.length_append]; omega), rfl, q _ I.fresh⟩
theorem op_fdivG {X : Cx} : OpR X (binaryOp .FloorDiv) (rI (fun _ j => j ≠ 0 ∧ j.natAbs.log2 < 9000) fun i j => .int (i.fdiv j)) := opI fun i j _ _ _ _ _ hc q => floordiv_int hc.1 q (.inl (PyProof.noPylong_of_log2 hc.2))
theorem op_mulStr {X : Cx} : OpR X (binaryOp .Mult) (fun x y H Q => ∃ z k, x = .str z ∧ y = .int k ∧ (k = 0 ∨ k = 1) ∧ Q (.str (if k = 0 then Str.empty else z)) H) := by
  intro pins s σ H x y v u Q I rx ry h
  obtain ⟨z, k, rfl, rfl, hk, q⟩ := h
  obtain ⟨t, rfl⟩ := rx
  obtain ⟨t', rfl⟩ := ry
  rcases hk with rfl | rfl
  · exact P.mul_str_none (by decide) (by decide) ⟨.str Str.empty, H, I.tok _, ⟨_, rfl⟩, q⟩
  · exact P.mul_str (by decide) (fun _ h => by simp at h) (fun _ h => by simp at h) ⟨.str z, H, I, ⟨t, rfl⟩, q⟩
def opOk : Operator → Bop → Bool
  | .Add, .add => true
  | .Sub, .sub => true
  | .Mult, .mul => true
  | .FloorDiv, .fdiv => true
  | .Mod, .mod => true
  | .Pow, .pow => true
  | _, _ => false
def rB (K : PySem.W.Frag) (cl : Nat → Option Addr) (o : Bop) : R2 := fun x y H Q => ∃ w st dx dy d, SR K cl w H st ∧ RepH K cl w H x dx ∧ RepH K cl w H y dy ∧ opB o dx dy = some d ∧ NewD K cl w H st d Q
theorem repH_int {K : PySem.W.Frag} {cl : Nat → Option Addr} {w : Wd} {H : Hp} {x : L2.V} {i : Int} (h : RepH K cl w H x (.int i)) : x = .int i := by cases h; rfl
theorem repH_str {K : PySem.W.Frag} {cl : Nat → Option Addr} {w : Wd} {H : Hp} {x : L2.V} {i : Str} (h : RepH K cl w H x (.str i)) : x = .str i := by cases h; rfl
theorem repH_bl {K : PySem.W.Frag} {cl : Nat → Option Addr} {w : Wd} {H : Hp} {x : L2.V} {i : Bool} (h : RepH K cl w H x (.bl i)) : x = .bl i := by cases h; rfl
theorem op_sv {X : Cx} {cl : Nat → Option Addr} {op : Operator} {o : Bop} (hm : opOk op o = true) : OpR X (binaryOp op) (rB X.K cl o) := by
  intro pins s σ H x y v u Q I rx ry h
  obtain ⟨w, st, dx, dy, d, S, hx, hy, e, q⟩ := h
  cases op <;> cases o <;> simp [opOk] at hm
  case Add =>
    cases dx <;> cases dy <;> simp [opB] at e
    · subst e
      rw [repH_int hx] at rx; rw [repH_bl hy] at ry
      exact op_add_ib pins s σ H _ _ v u Q I rx ry ⟨_, _, rfl, rfl, q.here S (.int _)⟩
    · subst e
      rw [repH_int hx] at rx; rw [repH_int hy] at ry
      exact op_add pins s σ H _ _ v u Q I rx ry ⟨_, _, rfl, rfl, q.here S (.int _)⟩
    · obtain ⟨hz, e⟩ := e
      subst e
      rw [repH_str hx] at rx; rw [repH_str hy] at ry
      exact op_add_str pins s σ H _ _ v u Q I rx ry ⟨_, _, rfl, rfl, hz, q.here S (.str _)⟩
    · obtain ⟨⟨hne, hz⟩, e⟩ := e
      subst e
      cases hx with
      | tup h1 r1 =>
        cases hy with
        | tup h2 r2 =>
          refine op_catT pins s σ H _ _ v u Q I rx ry ⟨_, _, _, _, rfl, rfl, seqT_same S.sub h1, seqT_same S.sub h2, fun z => hne ?_, by rw [r1.length, r2.length]; exact hz, fun z => ?_, fun _ p hp => q.lay S hp (.tup (SqT.of upd_same) ((r1.append r2).up S hp))⟩
          · have := r1.length
            rw [z] at this
            exact List.eq_nil_of_length_eq_zero this.symm
          · subst z
            cases r2
            rw [List.append_nil] at q
            exact q.here S (.tup h1 r1)
    · obtain ⟨hz, e⟩ := e
      subst e
      obtain ⟨a, vs, rfl, h1, r1⟩ := hx
      obtain ⟨b, ws, rfl, h2, r2⟩ := hy
      exact op_catS pins s σ H _ _ v u Q I rx ry ⟨a, b, vs, ws, rfl, rfl, h1, h2, by rw [r1.length, r2.length]; exact hz, fun p hp => q.lay S hp (.lst (SqL.of upd_same) ((r1.append r2).up S hp))⟩
  case Sub =>
    cases dx <;> cases dy <;> simp [opB] at e
    subst e
    rw [repH_int hx] at rx; rw [repH_int hy] at ry
    exact op_sub pins s σ H _ _ v u Q I rx ry ⟨_, _, rfl, rfl, q.here S (.int _)⟩
  case Mult =>
    cases dx <;> cases dy <;> simp only [opB, reduceCtorEq, Option.ite_none_right_eq_some] at e
    · obtain ⟨hz, e⟩ := e
      cases e
      rw [repH_int hx] at rx; rw [repH_int hy] at ry
      rcases hz with hz | hz
      · exact op_mulW pins s σ H _ _ v u Q I rx ry ⟨_, _, rfl, rfl, hz, q.here S (.int _)⟩
      · exact op_mul pins s σ H _ _ v u Q I rx ry ⟨_, _, rfl, rfl, hz, q.here S (.int _)⟩
    · rw [repH_str hx] at rx; rw [repH_int hy] at ry
      split at e
      · rename_i hk
        cases e
        exact op_mulStr pins s σ H _ _ v u Q I rx ry ⟨_, _, rfl, rfl, .inl hk, by rw [if_pos hk]; exact q.here S (.str _)⟩
      · rename_i hk
        split at e
        · rename_i hk2
          cases e
          exact op_mulStr pins s σ H _ _ v u Q I rx ry ⟨_, _, rfl, rfl, .inr hk2, by rw [if_neg hk]; exact q.here S (.str _)⟩
        · cases e
  case Mod =>
    cases dx <;> cases dy <;> simp [opB] at e
    obtain ⟨hz, e⟩ := e
    subst e
    rw [repH_int hx] at rx; rw [repH_int hy] at ry
    exact op_modN pins s σ H _ _ v u Q I rx ry ⟨_, _, rfl, rfl, hz, q.here S (.int _)⟩
  case FloorDiv =>
    cases dx <;> cases dy <;> simp [opB] at e
    obtain ⟨hz, e⟩ := e
    subst e
    rw [repH_int hx] at rx; rw [repH_int hy] at ry
    exact op_fdivG pins s σ H _ _ v u Q I rx ry ⟨_, _, rfl, rfl, hz, q.here S (.int _)⟩
  case Pow =>
    cases dx <;> cases dy <;> simp [opB] at e
    obtain ⟨hz, e⟩ := e
    subst e
    rw [repH_int hx] at rx; rw [repH_int hy] at ry
    exact op_pow pins s σ H _ _ v u Q I rx ry ⟨_, _, rfl, rfl, hz, q.here S (.int _)⟩
/-! ### comparisons -/
mutual
theorem Rep.dp {K : PySem.W.Frag} {cl : Nat → Option Addr} {H : Hp} : ∀ {v : L2.V} {d : D} {p : PyData}, Rep K cl H v d → toP d = some p → Dp K H v p
  | _, _, _, .non, e => by simp [toP] at e; subst e; exact .non
  | _, _, _, .bl b, e => by simp [toP] at e; subst e; exact .bl b
  | _, _, _, .int i, e => by simp [toP] at e; subst e; exact .int i
  | _, _, _, .str s, e => by simp [toP] at e; subst e; exact .str s
  | _, _, _, .tup h r, e => by
    simp [toP] at e
    obtain ⟨ps, e1, rfl⟩ := e
    exact .tup h (Reps.dp r e1)
  | _, _, _, .lst h r, e => by
    simp [toP] at e
    obtain ⟨ps, e1, rfl⟩ := e
    exact .lst h (Reps.dp r e1)
  | _, _, _, .obj hc h r, e => by simp [toP] at e
  | _, _, _, .dct h r, e => by simp [toP] at e
theorem Reps.dp {K : PySem.W.Frag} {cl : Nat → Option Addr} {H : Hp} : ∀ {v : List L2.V} {d : List D} {p : List PyData}, Reps K cl H v d → toPs d = some p → DpAll K H v p
  | _, _, _, .nil, e => by simp [toPs] at e; subst e; exact .nil
  | _, _, _, .cons (d := d) (ds := ds) h r, e => by
    simp only [toPs] at e
    cases q1 : toP d with
    | none => rw [q1] at e; cases e
    | some p1 =>
      cases q2 : toPs ds with
      | none => rw [q1, q2] at e; cases e
      | some p2 =>
        rw [q1, q2] at e
        cases e
        exact .cons (Rep.dp h q1) (Reps.dp r q2)
end
theorem flat_rep {K : PySem.W.Frag} {cl : Nat → Option Addr} {G : Hp} {v x : L2.V} {d : D} (h : Rep K cl G v d) (e : flatD d = some x) : v = x ∧ flatV x = true := by
  cases h <;> simp [flatD] at e <;> subst e <;> exact ⟨rfl, rfl⟩
theorem flat_reps {K : PySem.W.Frag} {cl : Nat → Option Addr} {G : Hp} : ∀ {vs xs : List L2.V} {ds : List D}, Reps K cl G vs ds → ds.mapM flatD = some xs → vs = xs ∧ xs.all flatV = true
  | _, xs, _, .nil, e => by simp at e; subst e; exact ⟨rfl, rfl⟩
  | _, xs, _, .cons (d := d) (ds := ds) h r, e => by
    rw [List.mapM_cons] at e
    cases q1 : flatD d with
    | none => rw [q1] at e; cases e
    | some x =>
      cases q2 : ds.mapM flatD with
      | none => rw [q1, q2] at e; cases e
      | some ys =>
        rw [q1, q2] at e
        cases e
        obtain ⟨rfl, f1⟩ := flat_rep h q1
        obtain ⟨rfl, f2⟩ := flat_reps r q2
        exact ⟨rfl, by simp [f1, f2]⟩
def copOk : CmpOp → Cop → Bool
  | .Eq, .eq => true
  | .NotEq, .ne => true
  | .Lt, .lt => true
  | .LtE, .le => true
  | .Gt, .gt => true
  | .GtE, .ge => true
  | .Is, .isN => true
  | .IsNot, .isntN => true
  | .In, .inn => true
  | .NotIn, .nin => true
  | _, _ => false
def rC (K : PySem.W.Frag) (cl : Nat → Option Addr) (o : Cop) : R2 := fun x y H Q => ∃ w st dx dy b, SR K cl w H st ∧ RepH K cl w H x dx ∧ RepH K cl w H y dy ∧ opC o dx dy = some b ∧ Q (.bl b) H
theorem rep_seq {K : PySem.W.Frag} {cl : Nat → Option Addr} {w : Wd} {H : Hp} {v : L2.V} {ds : List D} {d : D} (s : Same w.G H) (h : RepH K cl w H v d) (e : d = .lst ds ∨ d = .tup ds) : ∃ a vs, v = .ref a ∧ (SqL K H a vs ∨ SqT K H a vs) ∧ Reps K cl w.G vs ds := by
  rcases e with rfl | rfl
  · obtain ⟨a, vs, rfl, h1, r⟩ := h
    exact ⟨a, vs, rfl, .inl h1, r⟩
  · cases h with | tup h1 r => exact ⟨_, _, rfl, .inr (seqT_same s h1), r⟩
theorem cop_sv {X : Cx} {cl : Nat → Option Addr} {op : CmpOp} {o : Cop} (hu : X.A.units + 65 < cLine) (hm : copOk op o = true) : OpR X (compareOp op) (rC X.K cl o) := by
  intro pins s σ H x y v u Q I rx ry h
  obtain ⟨w, st, dx, dy, b, S, hx, hy, e, q⟩ := h
  cases op <;> cases o <;> simp [copOk] at hm
  case Eq.eq =>
    simp only [opC, deq] at e
    split at e
    · rename_i p r h1 h2
      split at e
      · rename_i sh
        cases e
        exact op_eqD (by omega) pins s σ H x y v u Q I rx ry ⟨p, r, (hx.rep S.sub).dp h1, (hy.rep S.sub).dp h2, sh.1, sh.2, q⟩
      · cases e
    · cases e
  case NotEq.ne =>
    simp only [opC, deq] at e
    split at e
    · rename_i p r h1 h2
      split at e
      · rename_i sh
        cases e
        exact op_neD (by omega) pins s σ H x y v u Q I rx ry ⟨p, r, (hx.rep S.sub).dp h1, (hy.rep S.sub).dp h2, sh.1, sh.2, q⟩
      · cases e
    · cases e
  case Lt.lt =>
    simp only [opC] at e
    split at e
    · cases e
      rw [repH_int hx] at rx; rw [repH_int hy] at ry
      exact op_lt pins s σ H _ _ v u Q I rx ry ⟨_, _, rfl, rfl, q⟩
    · cases e
  case LtE.le =>
    simp only [opC] at e
    split at e
    · cases e
      rw [repH_int hx] at rx; rw [repH_int hy] at ry
      exact op_le pins s σ H _ _ v u Q I rx ry ⟨_, _, rfl, rfl, q⟩
    · cases e
  case Gt.gt =>
    simp only [opC] at e
    split at e
    · cases e
      rw [repH_int hx] at rx; rw [repH_int hy] at ry
      exact op_gt pins s σ H _ _ v u Q I rx ry ⟨_, _, rfl, rfl, q⟩
    · cases e
  case GtE.ge =>
    simp only [opC] at e
    split at e
    · cases e
      rw [repH_int hx] at rx; rw [repH_int hy] at ry
      exact op_ge pins s σ H _ _ v u Q I rx ry ⟨_, _, rfl, rfl, q⟩
    · cases e
  case Is.isN =>
    simp only [opC] at e
    split at e
    · cases e
      cases hx; cases hy
      exact op_isN pins s σ H _ _ v u Q I rx ry ⟨rfl, q⟩
    · cases e
      rename_i hne
      cases hy
      have nx : decide (x = V.non) = false := decide_eq_false fun z => by
        subst z
        cases dx with
        | non => exact hne rfl
        | lst ds => obtain ⟨a, vs, e, _⟩ := hx; cases e
        | _ => cases hx
      exact op_isN pins s σ H _ _ v u Q I rx ry ⟨rfl, by rw [nx]; exact q⟩
    · cases e
  case IsNot.isntN =>
    simp only [opC] at e
    split at e
    · cases e
      cases hx; cases hy
      exact op_notN pins s σ H _ _ v u Q I rx ry ⟨rfl, q⟩
    · cases e
      rename_i hne
      cases hy
      have nx : decide (x = V.non) = false := decide_eq_false fun z => by
        subst z
        cases dx with
        | non => exact hne rfl
        | lst ds => obtain ⟨a, vs, e, _⟩ := hx; cases e
        | _ => cases hx
      exact op_notN pins s σ H _ _ v u Q I rx ry ⟨rfl, by rw [nx]; exact q⟩
    · cases e
  case In.inn =>
    simp only [opC] at e
    split at e
    · split at e
      · cases e
        rw [repH_str hx] at rx; rw [repH_str hy] at ry
        exact op_in_str pins s σ H _ _ v u Q I rx ry ⟨_, _, rfl, rfl, q⟩
      · cases e
    · rename_i ds
      split at e
      · rename_i x' ys h1 h2
        cases e
        obtain ⟨a, vs, rfl, hs, r⟩ := rep_seq S.sub hy (.inl rfl)
        obtain ⟨rfl, f1⟩ := flat_rep (hx.rep S.sub) h1
        obtain ⟨rfl, f2⟩ := flat_reps r h2
        exact op_in_seq pins s σ H _ _ v u Q I rx ry ⟨a, _, rfl, hs, f1, f2, q⟩
      · unfold inD at e
        split at e
        · rename_i ps p h1 h2
          split at e
          · rename_i sh
            cases e
            exact op_inD hu pins s σ H _ _ v u Q I rx ry ⟨p, ps, (hx.rep S.sub).dp h2, (hy.rep S.sub).dp (by rw [toP, h1]; rfl), sh.2, sh.1, q⟩
          · cases e
        · cases e
    · rename_i ds
      split at e
      · rename_i x' ys h1 h2
        cases e
        obtain ⟨a, vs, rfl, hs, r⟩ := rep_seq S.sub hy (.inr rfl)
        obtain ⟨rfl, f1⟩ := flat_rep (hx.rep S.sub) h1
        obtain ⟨rfl, f2⟩ := flat_reps r h2
        exact op_in_seq pins s σ H _ _ v u Q I rx ry ⟨a, _, rfl, hs, f1, f2, q⟩
      · cases e
    · cases e
  case NotIn.nin =>
    simp only [opC] at e
    split at e
    · split at e
      · cases e
        rw [repH_str hx] at rx; rw [repH_str hy] at ry
        exact op_notin_str pins s σ H _ _ v u Q I rx ry ⟨_, _, rfl, rfl, by rw [Bool.not_not]; exact q⟩
      · cases e
    · rename_i ds
      split at e
      · rename_i x' ys h1 h2
        cases e
        obtain ⟨a, vs, rfl, hs, r⟩ := rep_seq S.sub hy (.inl rfl)
        obtain ⟨rfl, f1⟩ := flat_rep (hx.rep S.sub) h1
        obtain ⟨rfl, f2⟩ := flat_reps r h2
        exact op_notIn_seq pins s σ H _ _ v u Q I rx ry ⟨a, _, rfl, hs, f1, f2, q⟩
      · unfold inD at e
        split at e
        · rename_i ps p h1 h2
          split at e
          · rename_i sh
            cases e
            exact op_notInD hu pins s σ H _ _ v u Q I rx ry ⟨p, ps, (hx.rep S.sub).dp h2, (hy.rep S.sub).dp (by rw [toP, h1]; rfl), sh.2, sh.1, q⟩
          · cases e
        · cases e
    · rename_i ds
      split at e
      · rename_i x' ys h1 h2
        cases e
        obtain ⟨a, vs, rfl, hs, r⟩ := rep_seq S.sub hy (.inr rfl)
        obtain ⟨rfl, f1⟩ := flat_rep (hx.rep S.sub) h1
        obtain ⟨rfl, f2⟩ := flat_reps r h2
        exact op_notIn_seq pins s σ H _ _ v u Q I rx ry ⟨a, _, rfl, hs, f1, f2, q⟩
      · cases e
    · cases e
/-- truth -/
theorem tru_sv {K : PySem.W.Frag} {cl : Nat → Option Addr} {w : Wd} {H : Hp} {x : L2.V} {d : D} {b : Bool} (s : Same w.G H) (h : RepH K cl w H x d) (e : truD d = some b) : TruV K x H b := by
  cases d with
  | non => cases h; cases e; rfl
  | bl c => cases h; cases e; rfl
  | int i => cases h; cases e; rfl
  | str z =>
    cases h
    simp [truD] at e
    obtain ⟨h1, h2⟩ := e
    refine ⟨h1, ?_⟩
    rw [← h2]
    cases z.length <;> rfl
  | lst ds =>
    cases e
    obtain ⟨a, vs, rfl, hs, r⟩ := h
    exact .inl ⟨vs, hs, by cases r <;> rfl⟩
  | tup ds =>
    cases e
    cases h with
    | tup hs r => exact .inr (.inl ⟨_, seqT_same s hs, by cases r <;> rfl⟩)
  | obj c fs => cases e
  | dct kvs => cases e
end SV

set_option maxRecDepth 100000
set_option maxHeartbeats 2000000
/-! SvE: the rules of expressions, by what they mean -/
namespace SV
open PySem PySem.Spec PyProof.Rows L2
/-- an expression that means m -/
abbrev VE (X : Cx) (cl : Nat → Option Addr) (W : WY) (e : Expr) (m : Env → M R) : Prop := PE X e (tV X.K cl W m)
abbrev VT (X : Cx) (cl : Nat → Option Addr) (W : WY) (e : Expr) (m : Env → M Bool) : Prop := PT X e (tB X.K cl W m)
abbrev VA (X : Cx) (cl : Nat → Option Addr) (W : WY) (e : List Expr) (m : Env → M (List R)) : Prop := PA X e (tA X.K cl W m)
section
variable {X : Cx} {cl : Nat → Option Addr} {W : WY} {a b c : Expr} {ma mb mc : Env → M R} {pos : Pos}
theorem ve_var {i : Nat} {x : Str} (hN : X.N[i]? = some x) (hv : Vis X.env.scope x) (hd : (x == ("__debug__" : Str)) = false) (hcd : (x == ("__classdict__" : Str)) = false) :
    VE X cl W (.Name x pos) (fun ρ => match ρ[i]? with | some (some (.v d)) => M.pure (.v d) | some (some (.ref n)) => M.pure (.ref n) | _ => M.bad) := by
  refine PE.imp (pe_var hN hv hd hcd) fun σ H Q h => ?_
  obtain ⟨w, ρ, st, s, e, h⟩ := h
  cases q : ρ[i]? with
  | none => simp only [q] at h; exact False.elim h
  | some o =>
    cases o with
    | none => simp only [q] at h; exact False.elim h
    | some r =>
      simp only [q] at h
      obtain ⟨v, h1, h2⟩ := e.slot i r q
      cases r with
      | v d =>
        rcases h2 with h2 | h2
        · exact ⟨v, h1, h v w H (Ext.refl _ _) s h2⟩
        · exact False.elim h2
      | ref n =>
        rcases h2 with h2 | h2
        · exact ⟨v, h1, h v w H (Ext.refl _ _) s h2⟩
        · exact False.elim h2
      | ex c fs => exact False.elim h
theorem ve_con {e : Expr} {v : L2.V} {d : D} (he : PE X e (tC v)) (hr : Rep X.K cl (fun _ => none) v d) : VE X cl W e (fun _ => M.pure (.v d)) := by
  refine PE.imp he fun σ H Q h => ?_
  obtain ⟨w, ρ, st, s, e, h⟩ := h
  exact h v w H (Ext.refl _ _) s (Rep.mono (fun _ _ z => by cases z) hr)
/-- two parts, then an operation on what they read to -/
theorem op2 {γ δ : Type} {rel : Wd → δ → γ → Prop} {f : D → D → M γ} {r : V → V → Hp → (δ → Hp → Prop) → Prop}
    (hr : ∀ (x y : L2.V) (w : Wd) (H : Hp) (st : Store) (dx dy : D) (σ : L2.St) (Q : δ → Hp → Prop), SR X.K cl w H st → RepH X.K cl w H x dx → RepH X.K cl w H y dy → Wn rel X.K cl W σ Q w H (f dx dy st) → r x y H Q)
    {σ : L2.St} {H : Hp} {Q : δ → Hp → Prop} (h : tG rel X.K cl W (fun ρ => (ma ρ).bind fun x => (mb ρ).bind fun y => (rdD x).bind fun dx => (rdD y).bind fun dy => f dx dy) σ H Q) :
    tV X.K cl W ma σ H (fun x H1 => tV X.K cl W mb σ H1 fun y H2 => r x y H2 Q) := by
  obtain ⟨w, ρ, st, s, e, h⟩ := h
  refine (tG.bind (m := ma) s e h).mono fun x H1 ⟨w1, rx, st1, e1, s1, en1, r1, h1⟩ => ?_
  refine (tG.bind (m := mb) s1 en1 h1).mono fun y H2 ⟨w2, ry, st2, e2, s2, en2, r2, h2⟩ => ?_
  obtain ⟨dx, st3, q3, h3⟩ := Wn.step h2 rdD_ne
  obtain ⟨f3, rfl⟩ := rdD_ok q3
  obtain ⟨dy, st4, q4, h4⟩ := Wn.step h3 rdD_ne
  obtain ⟨f4, rfl⟩ := rdD_ok q4
  exact hr x y w2 H2 st4 dx dy σ Q s2 (force_rep s2 (r1.ext e2) f3) (force_rep s2 r2 f4) h4
theorem Wn.newD {w : Wd} {H : Hp} {st : Store} {σ : L2.St} {Q : VK} {od : Option D} (h : Wn (RepR X.K cl) X.K cl W σ Q w H (((M.of od).bind fun d => M.pure (.v d)) st)) : ∃ d, od = some d ∧ NewD X.K cl w H st d Q := by
  cases od with
  | none => exact False.elim h
  | some d => exact ⟨d, rfl, fun v w' H' e s r => h v w' H' e s r⟩
theorem ve_bin {op : Operator} {o : Bop} (hm : opOk op o = true) (ha : VE X cl W a ma) (hb : VE X cl W b mb) :
    VE X cl W (.BinOp a op b pos) (fun ρ => (ma ρ).bind fun x => (mb ρ).bind fun y => (rdD x).bind fun dx => (rdD y).bind fun dy => (M.of (opB o dx dy)).bind fun d => M.pure (.v d)) := by
  refine PE.imp (pe_op (op_sv (cl := cl) hm) ha hb) fun σ H Q h => op2 (fun x y w H st dx dy σ Q s hx hy h => ?_) h
  obtain ⟨d, e, q⟩ := Wn.newD h
  exact ⟨w, st, dx, dy, d, s, hx, hy, e, q⟩
theorem ve_cmp {op : CmpOp} {o : Cop} (hu : X.A.units + 65 < cLine) (hm : copOk op o = true) (hk : behindInMarks op b = false) (ha : VE X cl W a ma) (hb : VE X cl W b mb) :
    VE X cl W (.Compare a [op] [b] pos) (fun ρ => (ma ρ).bind fun x => (mb ρ).bind fun y => (rdD x).bind fun dx => (rdD y).bind fun dy => (M.of (opC o dx dy)).bind fun b => M.pure (.v (.bl b))) := by
  refine PE.imp (pe_cmpR (cop_sv (cl := cl) hu hm) ha hb hk) fun σ H Q h => op2 (fun x y w H st dx dy σ Q s hx hy h => ?_) h
  cases e : opC o dx dy with
  | none => rw [e] at h; exact False.elim h
  | some k =>
    rw [e] at h
    exact ⟨w, st, dx, dy, k, s, hx, hy, e, h (.bl k) w H (Ext.refl _ _) s (Rep.bl k)⟩
/-- .. as a test -/
theorem vt_cmp {op : CmpOp} {o : Cop} (hu : X.A.units + 65 < cLine) (hm : copOk op o = true) (hk : behindInMarks op b = false) (ha : VE X cl W a ma) (hb : VE X cl W b mb) :
    VT X cl W (.Compare a [op] [b] pos) (fun ρ => ((ma ρ).bind fun x => (mb ρ).bind fun y => (rdD x).bind fun dx => (rdD y).bind fun dy => (M.of (opC o dx dy)).bind fun b => M.pure (.v (.bl b))).bind truth) := by
  refine PT.imp (pt_cmpR (cop_sv (cl := cl) hu hm) ha hb hk) fun σ H Q h => ?_
  refine op2 (rel := fun _ b c => b = c) (W := W) (f := fun dx dy => ((M.of (opC o dx dy)).bind fun b => M.pure (R.v (.bl b))).bind truth) (r := fun x y H Q => rC X.K cl o x y H fun v H' => ∃ k, v = .bl k ∧ Q k H') (fun x y w H st dx dy σ Q s hx hy h => ?_) ?_
  · cases e : opC o dx dy with
    | none => rw [e] at h; exact False.elim h
    | some k =>
      rw [e] at h
      exact ⟨w, st, dx, dy, k, s, hx, hy, e, k, rfl, h k w H (Ext.refl _ _) s rfl⟩
  · obtain ⟨w, ρ, st, s, e, h⟩ := h
    refine ⟨w, ρ, st, s, e, ?_⟩
    simpa only [M.bind_assoc_at, M.bind_assoc] using h
end
end SV

set_option maxRecDepth 100000
set_option maxHeartbeats 2000000
/-! SvF: the rules of expressions, further -/
namespace SV
open PySem PySem.Spec PyProof.Rows L2
section
variable {X : Cx} {cl : Nat → Option Addr} {W : WY} {a b c : Expr} {ma mb mc : Env → M R} {ta tb tc : Env → M Bool} {pos : Pos}
theorem truth_step {γ δ : Type} {rel : Wd → δ → γ → Prop} {f : Bool → M γ} {w : Wd} {H : Hp} {st : Store} {σ : L2.St} {Q : δ → Hp → Prop} {r : R} {x : L2.V} (s : SR X.K cl w H st) (hr : RepR X.K cl w x r)
    (h : Wn rel X.K cl W σ Q w H (((truth r).bind f) st)) : ∃ k, TruV X.K x H k ∧ Wn rel X.K cl W σ Q w H (f k st) := by
  unfold truth at h
  rw [M.bind_assoc_at] at h
  obtain ⟨d, st1, q1, h1⟩ := Wn.step h rdD_ne
  obtain ⟨f1, rfl⟩ := rdD_ok q1
  cases e : truD d with
  | none => rw [e] at h1; exact False.elim h1
  | some k =>
    rw [e] at h1
    exact ⟨k, tru_sv s.sub (force_rep s hr f1) e, h1⟩
/-- an expression as a test, by its truth -/
theorem vt_truth (ha : VE X cl W a ma) (he : ∀ whole, isTrue a X.env whole = (do let v ← whole; standAt a.pos; holding [v] (truthy v))) : VT X cl W a (fun ρ => (ma ρ).bind truth) := by
  refine PT.imp (pt_truth ha he) fun σ H Q h => ?_
  obtain ⟨w, ρ, st, s, e, h⟩ := h
  refine (tG.bind (m := ma) s e h).mono fun x H1 ⟨w1, rx, st1, e1, s1, en1, r1, h1⟩ => ?_
  have h1' : Wn (fun (_ : Wd) (b c : Bool) => b = c) X.K cl W σ Q w1 H1 (((truth rx).bind M.pure) st1) := by
    have q : (truth rx).bind M.pure = truth rx := by
      funext st
      show (truth rx st).bind M.pure = truth rx st
      cases truth rx st <;> rfl
    rw [q]; exact h1
  obtain ⟨k, hk, h2⟩ := truth_step s1 r1 h1'
  exact ⟨k, hk, h2 k w1 H1 (Ext.refl _ _) s1 rfl⟩
theorem ve_neg (ha : VE X cl W a ma) : VE X cl W (.UnaryOp .USub a pos) (fun ρ => (ma ρ).bind fun x => (intOf x).bind fun i => M.pure (.v (.int (-i)))) := by
  refine PE.imp (pe_un un_neg ha) fun σ H Q h => ?_
  obtain ⟨w, ρ, st, s, e, h⟩ := h
  refine (tG.bind (m := ma) s e h).mono fun x H1 ⟨w1, rx, st1, e1, s1, en1, r1, h1⟩ => ?_
  unfold intOf at h1
  rw [M.bind_assoc_at] at h1
  obtain ⟨d, st2, q2, h2⟩ := Wn.step h1 rdD_ne
  obtain ⟨f2, rfl⟩ := rdD_ok q2
  have rd := force_rep s1 r1 f2
  cases d with
  | int i =>
    have e := repH_int rd
    subst e
    exact ⟨i, rfl, h2 (.int (-i)) w1 H1 (Ext.refl _ _) s1 (Rep.int _)⟩
  | _ => exact False.elim h2
theorem ve_not (ha : VE X cl W a ma) : VE X cl W (.UnaryOp .Not a pos) (fun ρ => (ma ρ).bind fun x => (truth x).bind fun b => M.pure (.v (.bl (!b)))) := by
  refine PE.imp (pe_notT ha) fun σ H Q h => ?_
  obtain ⟨w, ρ, st, s, e, h⟩ := h
  refine (tG.bind (m := ma) s e h).mono fun x H1 ⟨w1, rx, st1, e1, s1, en1, r1, h1⟩ => ?_
  obtain ⟨k, hk, h2⟩ := truth_step s1 r1 h1
  exact ⟨k, hk, h2 (.bl (!k)) w1 H1 (Ext.refl _ _) s1 (Rep.bl _)⟩
theorem vt_not (ha : VT X cl W a ta) : VT X cl W (.UnaryOp .Not a pos) (fun ρ => (ta ρ).bind fun b => M.pure (!b)) := by
  refine PT.imp (pt_not ha) fun σ H Q h => ?_
  obtain ⟨w, ρ, st, s, e, h⟩ := h
  refine (tG.bind (m := ta) s e h).mono fun x H1 ⟨w1, k, st1, e1, s1, en1, r1, h1⟩ => ?_
  subst r1
  exact h1 (!x) w1 H1 (Ext.refl _ _) s1 rfl
/-- the rest of a bind goes on at the same names -/
theorem tG.of {α β : Type} {rel : Wd → β → α → Prop} {m : Env → M α} {σ : L2.St} {H : Hp} {Q : β → Hp → Prop} {w : Wd} {ρ : Env} {st : Store} (s : SR X.K cl w H st) (e : EnvR X.K cl W w σ ρ) (h : Wn rel X.K cl W σ Q w H (m ρ st)) : tG rel X.K cl W m σ H Q := ⟨w, ρ, st, s, e, h⟩
theorem ve_and {rest : List Expr} (ha : VE X cl W a ma) (hb : VE X cl W (.BoolOp .And (b :: rest) pos) mb) :
    VE X cl W (.BoolOp .And (a :: b :: rest) pos) (fun ρ => (ma ρ).bind fun x => (truth x).bind fun k => if k = true then mb ρ else M.pure x) := by
  refine PE.imp (pe_andT ha hb) fun σ H Q h => ?_
  obtain ⟨w, ρ, st, s, e, h⟩ := h
  refine (tG.bind (m := ma) s e h).mono fun x H1 ⟨w1, rx, st1, e1, s1, en1, r1, h1⟩ => ?_
  obtain ⟨k, hk, h2⟩ := truth_step s1 r1 h1
  refine ⟨k, hk, ?_⟩
  cases k with
  | true => exact tG.of s1 en1 h2
  | false => exact h2 x w1 H1 (Ext.refl _ _) s1 r1
theorem ve_or {rest : List Expr} (ha : VE X cl W a ma) (hb : VE X cl W (.BoolOp .Or (b :: rest) pos) mb) :
    VE X cl W (.BoolOp .Or (a :: b :: rest) pos) (fun ρ => (ma ρ).bind fun x => (truth x).bind fun k => if k = true then M.pure x else mb ρ) := by
  refine PE.imp (pe_orT ha hb) fun σ H Q h => ?_
  obtain ⟨w, ρ, st, s, e, h⟩ := h
  refine (tG.bind (m := ma) s e h).mono fun x H1 ⟨w1, rx, st1, e1, s1, en1, r1, h1⟩ => ?_
  obtain ⟨k, hk, h2⟩ := truth_step s1 r1 h1
  refine ⟨k, hk, ?_⟩
  cases k with
  | true => exact h2 x w1 H1 (Ext.refl _ _) s1 r1
  | false => exact tG.of s1 en1 h2
theorem ve_one {op : BoolOp} (ha : VE X cl W a ma) : VE X cl W (.BoolOp op [a] pos) ma := pe_one ha
abbrev VW (X : Cx) (cl : Nat → Option Addr) (W : WY) (e : Expr) (m : Env → M Bool) : Prop := PW X e (tB X.K cl W m)
theorem vw_and {rest : List Expr} (ha : VT X cl W a ta) (hb : VW X cl W (.BoolOp .And (b :: rest) pos) tb) :
    VW X cl W (.BoolOp .And (a :: b :: rest) pos) (fun ρ => (ta ρ).bind fun k => if k = true then tb ρ else M.pure false) := by
  refine PW.imp (pw_and ha hb) fun σ H Q h => ?_
  obtain ⟨w, ρ, st, s, e, h⟩ := h
  refine (tG.bind (m := ta) s e h).mono fun x H1 ⟨w1, k, st1, e1, s1, en1, r1, h1⟩ => ?_
  subst r1
  cases x with
  | true => exact tG.of s1 en1 h1
  | false => exact h1 false w1 H1 (Ext.refl _ _) s1 rfl
theorem vw_or {rest : List Expr} (ha : VT X cl W a ta) (hb : VW X cl W (.BoolOp .Or (b :: rest) pos) tb) :
    VW X cl W (.BoolOp .Or (a :: b :: rest) pos) (fun ρ => (ta ρ).bind fun k => if k = true then M.pure true else tb ρ) := by
  refine PW.imp (pw_or ha hb) fun σ H Q h => ?_
  obtain ⟨w, ρ, st, s, e, h⟩ := h
  refine (tG.bind (m := ta) s e h).mono fun x H1 ⟨w1, k, st1, e1, s1, en1, r1, h1⟩ => ?_
  subst r1
  cases x with
  | true => exact h1 true w1 H1 (Ext.refl _ _) s1 rfl
  | false => exact tG.of s1 en1 h1
theorem ve_ite (hc : VT X cl W c tc) (ha : VE X cl W a ma) (hb : VE X cl W b mb) : VE X cl W (.IfExp c a b pos) (fun ρ => (tc ρ).bind fun k => if k = true then ma ρ else mb ρ) := by
  refine PE.imp (pe_ifExp hc ha hb) fun σ H Q h => ?_
  obtain ⟨w, ρ, st, s, e, h⟩ := h
  refine (tG.bind (m := tc) s e h).mono fun x H1 ⟨w1, k, st1, e1, s1, en1, r1, h1⟩ => ?_
  subst r1
  cases x with
  | true => exact tG.of s1 en1 h1
  | false => exact tG.of s1 en1 h1
/-- a test that is a choice of tests -/
theorem vt_ite (hc : VT X cl W c tc) (ha : VT X cl W a ta) (hb : VT X cl W b tb) : VT X cl W (.IfExp c a b pos) (fun ρ => (tc ρ).bind fun k => if k = true then ta ρ else tb ρ) := by
  refine ⟨fun pins s σ H Q I h => ?_⟩
  obtain ⟨w, ρ, st, s0, e, h⟩ := h
  show wpAny _ _ (do if ← isTrue c X.env (eval c X.env) then isTrue a X.env (eval a X.env) else isTrue b X.env (eval b X.env)) _ _ s
  refine wpAny_bind (thn (hc.run pins s σ H _ I (tG.bind (m := tc) s0 e h)) fun k s1 ⟨H1, I1, w1, k', st1, e1, s1', en1, r1, h1⟩ => ?_)
  subst r1
  cases k with
  | true => exact ha.run pins s1 σ H1 Q I1 (tG.of s1' en1 h1)
  | false => exact hb.run pins s1 σ H1 Q I1 (tG.of s1' en1 h1)
def chnM (o p : Cop) (ma mb mc : Env → M R) : Env → M R := fun ρ => (ma ρ).bind fun x => (mb ρ).bind fun y => (rdD x).bind fun dx => (rdD y).bind fun dy => (M.of (opC o dx dy)).bind fun k =>
      if k = true then (mc ρ).bind fun z => (rdD y).bind fun dy => (rdD z).bind fun dz => (M.of (opC p dy dz)).bind fun b => M.pure (.v (.bl b)) else M.pure (.v (.bl false))
theorem chn_read {o p : Cop} {σ : L2.St} {H : Hp} {Q : VK} (h : tV X.K cl W (chnM o p ma mb mc) σ H Q) : tChain (rC X.K cl o) (rC X.K cl p) (tV X.K cl W ma) (tV X.K cl W mb) (tV X.K cl W mc) σ H Q := by
  obtain ⟨w, ρ, st, s, e, h⟩ := h
  refine (tG.bind (m := ma) s e h).mono fun x H1 ⟨w1, rx, st1, e1, s1, en1, r1, h1⟩ => ?_
  refine (tG.bind (m := mb) s1 en1 h1).mono fun y H2 ⟨w2, ry, st2, e2, s2, en2, r2, h2⟩ => ?_
  obtain ⟨dx, st3, q3, h3⟩ := Wn.step h2 rdD_ne
  obtain ⟨f3, rfl⟩ := rdD_ok q3
  obtain ⟨dy, st4, q4, h4⟩ := Wn.step h3 rdD_ne
  obtain ⟨f4, rfl⟩ := rdD_ok q4
  cases e5 : opC o dx dy with
  | none => rw [e5] at h4; exact False.elim h4
  | some k =>
    rw [e5] at h4
    refine ⟨w2, st4, dx, dy, k, s2, force_rep s2 (r1.ext e2) f3, force_rep s2 r2 f4, e5, k, rfl, ?_⟩
    cases k with
    | false => exact h4 (.bl false) w2 H2 (Ext.refl _ _) s2 (Rep.bl _)
    | true =>
      refine (tG.bind (m := mc) s2 en2 h4).mono fun z H3 ⟨w3, rz, st5, e6, s3, en3, r3, h5⟩ => ?_
      obtain ⟨dy2, st6, q6, h6⟩ := Wn.step h5 rdD_ne
      obtain ⟨f6, rfl⟩ := rdD_ok q6
      obtain ⟨dz, st7, q7, h7⟩ := Wn.step h6 rdD_ne
      obtain ⟨f7, rfl⟩ := rdD_ok q7
      cases e8 : opC p dy2 dz with
      | none => rw [e8] at h7; exact False.elim h7
      | some k' =>
        rw [e8] at h7
        exact ⟨w3, st7, dy2, dz, k', s3, force_rep s3 (r2.ext e6) f6, force_rep s3 r3 f7, e8, h7 (.bl k') w3 H3 (Ext.refl _ _) s3 (Rep.bl _)⟩
theorem ve_chn {op op' : CmpOp} {o p : Cop} (hu : X.A.units + 65 < cLine) (hm : copOk op o = true) (hm' : copOk op' p = true) (hk : lastMarks [op, op'] [b, c] = false) (ha : VE X cl W a ma) (hb : VE X cl W b mb) (hc : VE X cl W c mc) :
    VE X cl W (.Compare a [op, op'] [b, c] pos) (chnM o p ma mb mc) := PE.imp (pe_chain (cop_sv (cl := cl) hu hm) (cop_sv (cl := cl) hu hm') ha hb hc hk) fun σ H Q h => chn_read h
theorem chnM_bl {o p : Cop} {ρ : Env} {st st' : Store} {r : R} (h : chnM o p ma mb mc ρ st = .ok r st') : ∃ k, r = .v (.bl k) := by
  obtain ⟨x, s1, _, h⟩ := M.bind_inv h
  obtain ⟨y, s2, _, h⟩ := M.bind_inv h
  obtain ⟨dx, s3, _, h⟩ := M.bind_inv h
  obtain ⟨dy, s4, _, h⟩ := M.bind_inv h
  obtain ⟨k, s5, _, h⟩ := M.bind_inv h
  cases k with
  | false => cases h; exact ⟨_, rfl⟩
  | true =>
    obtain ⟨z, s6, _, h⟩ := M.bind_inv h
    obtain ⟨dy2, s7, _, h⟩ := M.bind_inv h
    obtain ⟨dz, s8, _, h⟩ := M.bind_inv h
    obtain ⟨k2, s9, _, h⟩ := M.bind_inv h
    cases h; exact ⟨_, rfl⟩
/-- a bool's reading as a test -/
theorem pt_boolOf {t : TE} (ho : PT X a (tTest t)) (m : Env → M R) (h : ∀ σ H Q, tV X.K cl W m σ H Q → t σ H Q) (hb : ∀ ρ st r st', m ρ st = .ok r st' → ∃ k, r = .v (.bl k)) : VT X cl W a (fun ρ => (m ρ).bind truth) := by
  refine PT.imp ho fun σ H Q q => ?_
  obtain ⟨w, ρ, st, s, e, q⟩ := q
  refine h σ H _ ⟨w, ρ, st, s, e, ?_⟩
  cases e1 : m ρ st with
  | bad => simp only [M.bind, e1, Out.bind_bad] at q; exact q
  | exc c fs z => simp only [M.bind, e1, Out.bind_exc] at q; exact q
  | ok r st1 =>
    obtain ⟨k, rfl⟩ := hb ρ st r st1 e1
    simp only [M.bind, e1, Out.bind_ok] at q
    intro v w' H' e' s' r'
    have r2 : Rep X.K cl w'.G v (.bl k) := r'
    cases r2
    exact ⟨k, rfl, q k w' H' e' s' rfl⟩
theorem vt_chn {op op' : CmpOp} {o p : Cop} (hu : X.A.units + 65 < cLine) (hm : copOk op o = true) (hm' : copOk op' p = true) (hk : lastMarks [op, op'] [b, c] = false) (ha : VE X cl W a ma) (hb : VE X cl W b mb) (hc : VE X cl W c mc) :
    VT X cl W (.Compare a [op, op'] [b, c] pos) (fun ρ => (chnM o p ma mb mc ρ).bind truth) :=
  pt_boolOf (pt_chain (cop_sv (cl := cl) hu hm) (cop_sv (cl := cl) hu hm') ha hb hc hk) _ (fun σ H Q h => chn_read h) fun ρ st r st' h => chnM_bl h
/-! ### several in a row; tuples, lists -/
theorem va_nil : VA X cl W [] (fun _ => M.pure []) := PA.imp pa_nil fun σ H Q h => by
  obtain ⟨w, ρ, st, s, e, h⟩ := h
  exact h [] w H (Ext.refl _ _) s .nil
theorem va_cons {es : List Expr} {ms : Env → M (List R)} (ha : VE X cl W a ma) (hr : VA X cl W es ms) (hs : starEach (a :: es) X.env = (false, eval a X.env) :: starEach es X.env) :
    VA X cl W (a :: es) (fun ρ => (ma ρ).bind fun r => (ms ρ).bind fun rs => M.pure (r :: rs)) := by
  refine PA.imp (pa_cons ha hr hs) fun σ H Q h => ?_
  obtain ⟨w, ρ, st, s, e, h⟩ := h
  refine (tG.bind (m := ma) s e h).mono fun x H1 ⟨w1, rx, st1, e1, s1, en1, r1, h1⟩ => ?_
  refine (tG.bind (m := ms) s1 en1 h1).mono fun ys H2 ⟨w2, ry, st2, e2, s2, en2, r2, h2⟩ => ?_
  exact h2 (x :: ys) w2 H2 (Ext.refl _ _) s2 (.cons (r1.ext e2) r2)
theorem ve_tup {es : List Expr} {k : Nat} {ms : Env → M (List R)} (h : VA X cl W es ms) (hl : ∀ ρ st rs st', ms ρ st = .ok rs st' → rs.length ≤ sizeLine) :
    VE X cl W (.Tuple es k pos) (fun ρ => (ms ρ).bind fun rs => (frzs rs).bind fun ds => M.pure (.v (.tup ds))) := by
  refine PE.imp (pe_tup h) fun σ H Q h => ?_
  obtain ⟨w, ρ, st, s, e, h⟩ := h
  cases q0 : ms ρ st with
  | bad => simp only [M.bind, q0] at h; exact False.elim h
  | exc c fs z => exact ⟨w, ρ, st, s, e, by simp only [M.bind, q0, Out.bind_exc] at h; rw [q0]; exact h⟩
  | ok rs0 st0 =>
  refine ⟨w, ρ, st, s, e, ?_⟩
  rw [q0]
  simp only [M.bind, q0, Out.bind_ok] at h
  intro xs w1 H1 e1 s1 r1
  refine ⟨by rw [r1.length]; exact hl ρ st rs0 st0 q0, fun p hp => ?_⟩
  obtain ⟨ds, st2, q2, h2⟩ := Wn.step h frzs_ne
  obtain ⟨w2, e2, s2, r2⟩ := frzs_ok s1 r1 q2
  obtain ⟨s3, e3⟩ := s2.lay (o := .tup xs) hp
  exact h2 (.ref p) _ _ ((e1.trans e2).trans e3) s3 (Rep.tup (SqT.of upd_same) (r2.up s2 hp))
theorem ve_lst {es : List Expr} {cell : Bool} {ms : Env → M (List R)} (h : VA X cl W es ms) (hl : ∀ ρ st rs st', ms ρ st = .ok rs st' → rs.length ≤ sizeLine) :
    VE X cl W (.List es pos) (fun ρ => (ms ρ).bind fun rs => if cell = true then alloc (.lst rs) else (frzs rs).bind fun ds => M.pure (.v (.lst ds))) := by
  refine PE.imp (pe_lst h) fun σ H Q h => ?_
  obtain ⟨w, ρ, st, s, e, h⟩ := h
  cases q0 : ms ρ st with
  | bad => simp only [M.bind, q0] at h; exact False.elim h
  | exc c fs z => exact ⟨w, ρ, st, s, e, by simp only [M.bind, q0, Out.bind_exc] at h; rw [q0]; exact h⟩
  | ok rs0 st0 =>
  refine ⟨w, ρ, st, s, e, ?_⟩
  rw [q0]
  simp only [M.bind, q0, Out.bind_ok] at h
  intro xs w1 H1 e1 s1 r1
  refine ⟨by rw [r1.length]; exact hl ρ st rs0 st0 q0, fun p hp => ?_⟩
  cases cell with
  | true =>
    simp only [if_true] at h
    obtain ⟨s3, e3⟩ := s1.alloc hp r1
    refine h (.ref p) _ _ (e1.trans e3) s3 ⟨p, ?_, rfl⟩
    show (w1.io ++ [p])[List.length st0]? = some p
    rw [← s1.len, List.getElem?_concat_length]
  | false =>
    simp only [Bool.false_eq_true, if_false] at h
    obtain ⟨ds, st2, q2, h2⟩ := Wn.step h frzs_ne
    obtain ⟨w2, e2, s2, r2⟩ := frzs_ok s1 r1 q2
    obtain ⟨s3, e3⟩ := s2.lay (o := .lst xs) hp
    exact h2 (.ref p) _ _ ((e1.trans e2).trans e3) s3 (Rep.lst (SqL.of upd_same) (r2.up s2 hp))
theorem ve_fz (ha : VE X cl W a ma) : VE X cl W a (fun ρ => (ma ρ).bind fun x => (frz x).bind fun d => M.pure (.v d)) := by
  refine PE.imp ha fun σ H Q h => ?_
  obtain ⟨w, ρ, st, s, e, h⟩ := h
  refine (tG.bind (m := ma) s e h).mono fun x H1 ⟨w1, rx, st1, e1, s1, en1, r1, h1⟩ => ?_
  obtain ⟨d, st2, q2, h2⟩ := Wn.step h1 frz_ne
  obtain ⟨w2, e2, s2, r2⟩ := frz_ok s1 r1 q2
  exact h2 x w2 H1 e2 s2 r2
theorem repRs_rep {K : PySem.W.Frag} {G : Hp} {vs : List L2.V} {ds : List D} (r : Reps K cl G vs ds) : ∀ n : Nat, Reps K cl G (List.replicate n vs).flatten (List.replicate n ds).flatten
  | 0 => .nil
  | n + 1 => by
    rw [List.replicate_succ, List.replicate_succ, List.flatten_cons, List.flatten_cons]
    exact r.append (repRs_rep r n)
theorem intOf_at {γ δ : Type} {rel : Wd → δ → γ → Prop} {f : Int → M γ} {w : Wd} {H : Hp} {st : Store} {σ : L2.St} {Q : δ → Hp → Prop} {r : R} {x : L2.V} (s : SR X.K cl w H st) (hr : RepR X.K cl w x r)
    (h : Wn rel X.K cl W σ Q w H (((intOf r).bind f) st)) : ∃ i, x = .int i ∧ Wn rel X.K cl W σ Q w H (f i st) := by
  unfold intOf at h
  rw [M.bind_assoc_at] at h
  obtain ⟨d, st1, q1, h1⟩ := Wn.step h rdD_ne
  obtain ⟨f1, rfl⟩ := rdD_ok q1
  have rd := force_rep s hr f1
  cases d with
  | int i => exact ⟨i, repH_int rd, h1⟩
  | _ => exact False.elim h1
theorem ve_rep {es : List Expr} {p2 : Pos} {ms : Env → M (List R)} (h : VA X cl W es ms) (hb : VE X cl W b mb) (hl : ∀ ρ st rs st', ms ρ st = .ok rs st' → rs.length ≤ sizeLine) :
    VE X cl W (.BinOp (.List es p2) .Mult b pos) (fun ρ => (ms ρ).bind fun rs => (frzs rs).bind fun ds => (mb ρ).bind fun y => repD ds y) := by
  refine PE.imp (pe_op op_rep (pe_lst h) hb) fun σ H Q h => ?_
  obtain ⟨w, ρ, st, s, e, h⟩ := h
  cases q0 : ms ρ st with
  | bad => simp only [M.bind, q0] at h; exact False.elim h
  | exc c fs z => exact ⟨w, ρ, st, s, e, by simp only [M.bind, q0, Out.bind_exc] at h; rw [q0]; exact h⟩
  | ok rs0 st0 =>
  refine ⟨w, ρ, st, s, e, ?_⟩
  rw [q0]
  simp only [M.bind, q0, Out.bind_ok] at h
  intro xs w1 H1 e1 s1 r1
  refine ⟨by rw [r1.length]; exact hl ρ st rs0 st0 q0, fun p hp => ?_⟩
  obtain ⟨ds, st2, q2, h2⟩ := Wn.step h frzs_ne
  obtain ⟨w2, e2, s2, r2⟩ := frzs_ok s1 r1 q2
  obtain ⟨s3, e3⟩ := s2.lay (o := .lst xs) hp
  have h3 := h2.ext ((e1.trans e2).trans e3)
  refine (tG.bind (m := mb) s3 (((e.ext e1).ext e2).ext e3) h3).mono fun y H2 ⟨w4, ry, st4, e4, s4, en4, r4, h4⟩ => ?_
  unfold repD at h4
  obtain ⟨k, rfl, h5⟩ := intOf_at s4 r4 h4
  split at h5
  · rename_i hk
    have hp4 : w4.G p = some (.lst xs) := e4.G _ _ upd_same
    have rr : Reps X.K cl w4.G xs ds := (r2.up s2 hp).mono e4.G
    refine ⟨p, k, xs, rfl, rfl, s4.sub _ _ hp4, hk.1, hk.2.1, by rw [rr.length]; exact hk.2.2, fun l hl' => ?_⟩
    obtain ⟨s6, e6⟩ := s4.lay (o := .lst (List.replicate k.toNat xs).flatten) hl'
    exact h5 (.ref l) _ _ e6 s6 (Rep.lst (SqL.of upd_same) ((repRs_rep rr _).up s4 hl'))
  · exact False.elim h5
theorem litems_ok {K : PySem.W.Frag} {w : Wd} {H : Hp} {st : Store} (s : SR K cl w H st) {v : L2.V} {r : R} {xs : List R} {st' : Store} (h : RepR K cl w v r) (e : litems r st = .ok xs st') : st' = st ∧ ∃ a vs, v = .ref a ∧ SqL K H a vs ∧ RepRs K cl w vs xs := by
  unfold litems at e
  have dat : ∀ {ds : List D} {v : L2.V}, Rep K cl w.G v (.lst ds) → ∃ a vs, v = .ref a ∧ SqL K H a vs ∧ RepRs K cl w vs (ds.map R.v) := by
    intro ds v h
    cases h with | lst hs r => exact ⟨_, _, rfl, s.sub.seq hs, r.toR⟩
  split at e
  · cases e; exact ⟨rfl, dat h⟩
  · rename_i n
    obtain ⟨a, ha, rfl⟩ := h
    split at e
    · rename_i ys hc
      cases e
      obtain ⟨_, vs, hv, rs⟩ := s.cell n _ a hc ha
      exact ⟨rfl, a, vs, rfl, SqL.of hv, rs⟩
    · rename_i ds hc
      cases e
      exact ⟨rfl, dat (s.cell n _ a hc ha)⟩
    · cases e
  · cases e
theorem litems_ne {r : R} {st : Store} : ∀ c fs s, litems r st ≠ .exc c fs s := fun c fs s e => by
  unfold litems at e
  split at e
  · cases e
  · split at e <;> cases e
  · cases e
/-- a new cell, seen from what is wanted -/
theorem alloc_step {w : Wd} {H : Hp} {st : Store} {σ : L2.St} {Q : VK} {vs : List L2.V} {xs : List R} (s : SR X.K cl w H st) (r : RepRs X.K cl w vs xs) (h : Wn (RepR X.K cl) X.K cl W σ Q w H (alloc (.lst xs) st)) {p : Addr} (hp : H p = none) : Q (.ref p) (upd H p (.lst vs)) := by
  obtain ⟨s3, e3⟩ := s.alloc hp r
  refine h (.ref p) _ _ e3 s3 ⟨p, ?_, rfl⟩
  show (w.io ++ [p])[List.length st]? = some p
  rw [← s.len, List.getElem?_concat_length]
theorem ve_catc (ha : VE X cl W a ma) (hb : VE X cl W b mb) : VE X cl W (.BinOp a .Add b pos) (fun ρ => (ma ρ).bind fun x => (mb ρ).bind fun y => catC x y) := by
  refine PE.imp (pe_op op_catS ha hb) fun σ H Q h => ?_
  obtain ⟨w, ρ, st, s, e, h⟩ := h
  refine (tG.bind (m := ma) s e h).mono fun x H1 ⟨w1, rx, st1, e1, s1, en1, r1, h1⟩ => ?_
  refine (tG.bind (m := mb) s1 en1 h1).mono fun y H2 ⟨w2, ry, st2, e2, s2, en2, r2, h2⟩ => ?_
  unfold catC at h2
  obtain ⟨xs, st3, q3, h3⟩ := Wn.step h2 litems_ne
  obtain ⟨rfl, p, vs, rfl, hp, rs⟩ := litems_ok s2 (r1.ext e2) q3
  obtain ⟨ys, st4, q4, h4⟩ := Wn.step h3 litems_ne
  obtain ⟨rfl, q, us, rfl, hq, rs'⟩ := litems_ok s2 r2 q4
  split at h4
  · rename_i hz
    exact ⟨p, q, vs, us, rfl, rfl, hp, hq, by rw [rs.length, rs'.length]; exact hz, fun l hl => alloc_step s2 (repRs_app rs rs') h4 hl⟩
  · exact False.elim h4
theorem ve_rev {k : Nat} {p1 p2 p3 : Pos} (ha : VE X cl W a ma) : VE X cl W (.Subscript a (.Slice none none (some (.UnaryOp .USub (.Constant (.int 1) k p1) p2)) p3) pos) (fun ρ => (ma ρ).bind revD) := by
  refine PE.imp (pe_revL ha) fun σ H Q h => ?_
  obtain ⟨w, ρ, st, s, e, h⟩ := h
  refine (tG.bind (m := ma) s e h).mono fun x H1 ⟨w1, rx, st1, e1, s1, en1, r1, h1⟩ => ?_
  unfold revD at h1
  obtain ⟨d, st4, q4, h4⟩ := Wn.step h1 rdD_ne
  obtain ⟨f4, rfl⟩ := rdD_ok q4
  have rd := force_rep s1 r1 f4
  cases d with
  | lst ds =>
    obtain ⟨p, vs, rfl, hs, rr⟩ := rd
    refine ⟨p, vs, rfl, hs, fun q hq => ?_⟩
    obtain ⟨s5, e5⟩ := s1.lay (o := .lst vs.reverse) hq
    exact h4 (.ref q) _ _ e5 s5 (Rep.lst (SqL.of upd_same) ((Reps.rev rr).up s1 hq))
  | _ => exact False.elim h4
/-! ### items, slices -/
theorem atI_rep {K : PySem.W.Frag} {w : Wd} : ∀ {vs : List L2.V} {rs : List R} {i : Int} {r : R}, RepRs K cl w vs rs → atI rs i = some r → ∃ v, atI vs i = some v ∧ RepR K cl w v r := by
  intro vs rs i r h e
  unfold atI at e ⊢
  rw [h.length]
  cases q : ixN rs.length i with
  | none => rw [q] at e; cases e
  | some j =>
    rw [q] at e
    obtain ⟨v, h1, h2⟩ := h.get e
    exact ⟨v, h1, h2⟩
theorem intOf_step {γ δ : Type} {rel : Wd → δ → γ → Prop} {f : Int → M γ} {w : Wd} {H : Hp} {st : Store} {σ : L2.St} {Q : δ → Hp → Prop} {r : R} {x : L2.V} (s : SR X.K cl w H st) (hr : RepR X.K cl w x r)
    (h : Wn rel X.K cl W σ Q w H (((intOf r).bind f) st)) : ∃ i, x = .int i ∧ Wn rel X.K cl W σ Q w H (f i st) := by
  unfold intOf at h
  rw [M.bind_assoc_at] at h
  obtain ⟨d, st1, q1, h1⟩ := Wn.step h rdD_ne
  obtain ⟨f1, rfl⟩ := rdD_ok q1
  have rd := force_rep s hr f1
  cases d with
  | int i => exact ⟨i, repH_int rd, h1⟩
  | _ => exact False.elim h1
theorem ve_ix (hs : PlainIx b) (ha : VE X cl W a ma) (hb : VE X cl W b mb) : VE X cl W (.Subscript a b pos) (fun ρ => (ma ρ).bind fun x => (mb ρ).bind fun y => index x y) := by
  refine PE.imp (pe_ix ix_seq ha hb hs) fun σ H Q h => ?_
  obtain ⟨w, ρ, st, s, e, h⟩ := h
  refine (tG.bind (m := ma) s e h).mono fun x H1 ⟨w1, rx, st1, e1, s1, en1, r1, h1⟩ => ?_
  refine (tG.bind (m := mb) s1 en1 h1).mono fun y H2 ⟨w2, ry, st2, e2, s2, en2, r2, h2⟩ => ?_
  unfold index at h2
  obtain ⟨i, rfl, h3⟩ := intOf_step s2 r2 h2
  have rx2 := r1.ext e2
  have gen : Wn (RepR X.K cl) X.K cl W σ Q w2 H2 (((items rx).bind fun xs => M.of (L2.atI xs i)) st2) → rIx X.K x (.int i) H2 Q := fun h3 => by
    obtain ⟨xs, st4, q4, h4⟩ := Wn.step h3 items_ne
    obtain ⟨rfl, p, vs, rfl, hq, rs⟩ := items_ok s2 rx2 q4
    cases e5 : atI xs i with
    | none => rw [e5] at h4; exact False.elim h4
    | some r =>
      rw [e5] at h4
      obtain ⟨v, hv, rv⟩ := atI_rep rs e5
      have fin := h4 v w2 H2 (Ext.refl _ _) s2 rv
      rcases hq with hq | hq
      · exact .inl ⟨p, vs, i, v, rfl, rfl, hq, hv, fin⟩
      · exact .inr (.inl ⟨p, vs, i, v, rfl, rfl, hq, hv, fin⟩)
  cases rx with
  | v d =>
    cases d with
    | str z =>
      have r3 : Rep X.K cl w2.G x (.str z) := rx2
      cases r3
      simp only at h3
      split at h3
      · rename_i hz
        cases hc : L2.atI z.cps.toList i with
        | some c =>
          rw [hc] at h3
          exact .inr (.inr ⟨z, i, c, rfl, rfl, hz, hc, h3 (.str ⟨#[c]⟩) w2 H2 (Ext.refl _ _) s2 (Rep.str _)⟩)
        | none => rw [hc] at h3; exact False.elim h3
      · exact False.elim h3
    | _ => exact gen h3
  | ref n => exact gen h3
  | ex c fs => exact gen h3
theorem repRs_drop {K : PySem.W.Frag} {w : Wd} : ∀ {vs : List L2.V} {xs : List R} (n : Nat), RepRs K cl w vs xs → RepRs K cl w (vs.drop n) (xs.drop n)
  | _, _, 0, r => r
  | _, _, _ + 1, .nil => .nil
  | _, _, n + 1, .cons _ r => repRs_drop n r
theorem repRs_take {K : PySem.W.Frag} {w : Wd} : ∀ {vs : List L2.V} {xs : List R} (n : Nat), RepRs K cl w vs xs → RepRs K cl w (vs.take n) (xs.take n)
  | _, _, 0, _ => .nil
  | _, _, _ + 1, .nil => .nil
  | _, _, n + 1, .cons h r => .cons h (repRs_take n r)
theorem repRs_cut {K : PySem.W.Frag} {w : Wd} {vs : List L2.V} {xs : List R} (lo hi : Option Int) (r : RepRs K cl w vs xs) : RepRs K cl w (cutV vs lo hi) (cutR xs lo hi) := by
  unfold cutV cutR
  rw [r.length]
  exact repRs_take _ (repRs_drop _ r)
/-- an optional end of a slice -/
abbrev VO (X : Cx) (cl : Nat → Option Addr) (W : WY) (e : Option Expr) (m : Env → M (Option Int)) : Prop := PO X e (tG (fun _ (b c : Option Int) => b = c) X.K cl W m)
theorem PO.imp {e : Option Expr} {t t' : TO} (h : PO X e t) (hi : ∀ σ H Q, t' σ H Q → t σ H Q) : PO X e t' := ⟨fun pins s σ H Q I q => h.run pins s σ H Q I (hi σ H Q q)⟩
theorem vo_none : VO X cl W none (fun _ => M.pure none) := PO.imp po_none fun σ H Q h => by
  obtain ⟨w, ρ, st, s, e, h⟩ := h
  exact h none w H (Ext.refl _ _) s rfl
theorem vo_some (ha : VE X cl W a ma) : VO X cl W (some a) (fun ρ => (ma ρ).bind fun r => (intOf r).bind fun i => M.pure (some i)) := PO.imp (po_some ha) fun σ H Q h => by
  obtain ⟨w, ρ, st, s, e, h⟩ := h
  refine (tG.bind (m := ma) s e h).mono fun x H1 ⟨w1, rx, st1, e1, s1, en1, r1, h1⟩ => ?_
  obtain ⟨i, rfl, h2⟩ := intOf_step s1 r1 h1
  exact ⟨i, rfl, h2 (some i) w1 H1 (Ext.refl _ _) s1 rfl⟩
theorem ve_sl {lo hi : Option Expr} {ml mh : Env → M (Option Int)} {p2 : Pos} (ha : VE X cl W a ma) (hl : VO X cl W lo ml) (hh : VO X cl W hi mh) :
    VE X cl W (.Subscript a (.Slice lo hi none p2) pos) (fun ρ => (ma ρ).bind fun x => (ml ρ).bind fun l => (mh ρ).bind fun h => slice x l h) := by
  refine PE.imp (pe_slice (SlR.or (SlR.or sl_list sl_str) sl_tupA) ha hl hh) fun σ H Q h => ?_
  obtain ⟨w, ρ, st, s, e, h⟩ := h
  refine (tG.bind (m := ma) s e h).mono fun x H1 ⟨w1, rx, st1, e1, s1, en1, r1, h1⟩ => ?_
  refine (tG.bind (m := ml) s1 en1 h1).mono fun l H2 ⟨w2, l', st2, e2, s2, en2, r2, h2⟩ => ?_
  subst r2
  refine (tG.bind (m := mh) s2 en2 h2).mono fun u H3 ⟨w3, u', st3, e3, s3, en3, r3, h3⟩ => ?_
  subst r3
  unfold slice at h3
  obtain ⟨d, st4, q4, h4⟩ := Wn.step h3 rdD_ne
  obtain ⟨f4, rfl⟩ := rdD_ok q4
  have rd := force_rep s3 ((r1.ext e2).ext e3) f4
  cases d with
  | lst ds =>
    obtain ⟨p, vs, rfl, hs, rr⟩ := rd
    refine .inl (.inl ⟨p, vs, rfl, hs, fun q hq => ?_⟩)
    obtain ⟨s5, e5⟩ := s3.lay (o := .lst (cutV vs l u)) hq
    exact h4 (.ref q) _ _ e5 s5 (Rep.lst (SqL.of upd_same) ((rr.cut l u).up s3 hq))
  | str z =>
    cases rd
    simp only at h4
    split at h4
    · rename_i hz
      exact .inl (.inr ⟨z, rfl, hz, h4 (.str (cutS z l u)) w3 H3 (Ext.refl _ _) s3 (Rep.str _)⟩)
    · exact False.elim h4
  | tup ds =>
    have rt : Rep X.K cl w3.G _ (.tup ds) := rd
    cases rt with
    | @tup p vs _ hs rr =>
      refine .inr ⟨p, vs, rfl, seqT_same s3.sub hs, fun hw => ?_, fun _ q hq => ?_⟩
      · have e : cutR ds l u = ds := by
          unfold cutR
          rw [← rr.length, hw.1, hw.2]
          simp [rr.length]
        simp only [e] at h4
        exact h4 (.ref p) w3 H3 (Ext.refl _ _) s3 (Rep.tup hs rr)
      · obtain ⟨s5, e5⟩ := s3.lay (o := .tup (cutV vs l u)) hq
        exact h4 (.ref q) _ _ e5 s5 (Rep.tup (SqT.of upd_same) ((rr.cut l u).up s3 hq))
  | _ => exact False.elim h4
theorem ve_slc {lo hi : Option Expr} {ml mh : Env → M (Option Int)} {p2 : Pos} (ha : VE X cl W a ma) (hl : VO X cl W lo ml) (hh : VO X cl W hi mh) :
    VE X cl W (.Subscript a (.Slice lo hi none p2) pos) (fun ρ => (ma ρ).bind fun x => (ml ρ).bind fun l => (mh ρ).bind fun h => slC x l h) := by
  refine PE.imp (pe_slice sl_list ha hl hh) fun σ H Q h => ?_
  obtain ⟨w, ρ, st, s, e, h⟩ := h
  refine (tG.bind (m := ma) s e h).mono fun x H1 ⟨w1, rx, st1, e1, s1, en1, r1, h1⟩ => ?_
  refine (tG.bind (m := ml) s1 en1 h1).mono fun l H2 ⟨w2, l', st2, e2, s2, en2, r2, h2⟩ => ?_
  subst r2
  refine (tG.bind (m := mh) s2 en2 h2).mono fun u H3 ⟨w3, u', st3, e3, s3, en3, r3, h3⟩ => ?_
  subst r3
  unfold slC at h3
  obtain ⟨xs, st4, q4, h4⟩ := Wn.step h3 litems_ne
  obtain ⟨rfl, p, vs, rfl, hp, rs⟩ := litems_ok s3 ((r1.ext e2).ext e3) q4
  exact ⟨p, vs, rfl, hp, fun q hq => alloc_step s3 (repRs_cut l u rs) h4 hq⟩
end
end SV

set_option maxRecDepth 100000
set_option maxHeartbeats 2000000
/-! SvG: calls of built-ins, methods of lists -/
namespace SV
open PySem PySem.Spec PyProof.Rows L2
abbrev RepHs (K : PySem.W.Frag) (cl : Nat → Option Addr) (w : Wd) (H : Hp) : List L2.V → List D → Prop := Paired (RepH K cl w H)
section
variable {X : Cx} {cl : Nat → Option Addr} {W : WY}
theorem rdDs_ok {K : PySem.W.Frag} : ∀ {rs : List R} {vs : List L2.V} {w : Wd} {H : Hp} {st st' : Store} {ds : List D}, SR K cl w H st → RepRs K cl w vs rs → rdDs rs st = .ok ds st' → st' = st ∧ RepHs K cl w H vs ds
  | [], _, w, H, st, st', ds, s, .nil, e => by cases e; exact ⟨rfl, .nil⟩
  | r :: rs, _, w, H, st, st', ds, s, .cons h t, e => by
    obtain ⟨d, s1, q1, e0⟩ := M.bind_inv e
    obtain ⟨f1, rfl⟩ := rdD_ok q1
    obtain ⟨ds2, s2, q2, e2⟩ := M.bind_inv e0
    obtain ⟨rfl, t2⟩ := rdDs_ok s t q2
    cases e2
    exact ⟨rfl, .cons (force_rep s h f1) t2⟩
theorem rdDs_ne : ∀ {rs : List R} {st : Store} (c : Nat) (fs : List (Str × D)) (s : Store), rdDs rs st ≠ .exc c fs s
  | [], _, _, _, _, e => by cases e
  | r :: rs, st, c, fs, s, e => by
    have e' : (rdD r st).bind (fun d => (rdDs rs).bind fun ds => M.pure (d :: ds)) = .exc c fs s := e
    cases q : rdD r st with
    | bad => rw [q] at e'; cases e'
    | exc c fs z => exact rdD_ne c fs z q
    | ok d s1 =>
      rw [q] at e'
      have e2 : (rdDs rs s1).bind (fun ds => M.pure (d :: ds)) = .exc c fs s := e'
      cases q2 : rdDs rs s1 with
      | bad => rw [q2] at e2; cases e2
      | exc c fs z => exact rdDs_ne c fs z q2
      | ok ds s2 => rw [q2] at e2; cases e2
/-- what a built-in call of our data wants -/
def rF (K : PySem.W.Frag) (cl : Nat → Option Addr) (b : Bf) : List L2.V → Hp → VK → Prop := fun xs H Q => ∃ w st ds d, SR K cl w H st ∧ RepHs K cl w H xs ds ∧ opF b ds = some d ∧ NewD K cl w H st d Q
def bfVal : Bf → Value
  | .len => .builtin "len"
  | .abs => .builtin "abs"
  | .int => .type "int"
  | .str => .type "str"
  | .all => .builtin "all"
  | .any => .builtin "any"
  | .sum => .builtin "sum"
  | .max => .builtin "max"
  | .min => .builtin "min"
  | .maxL => .builtin "max"
  | .minL => .builtin "min"
  | .list => .type "list"
  | .tuple => .type "tuple"
  | .sorted => .builtin "sorted"
def bfCalm : Bf → Bool
  | .len | .abs | .int | .str | .list | .tuple => false
  | _ => true
theorem bools_rep {K : PySem.W.Frag} {G : Hp} : ∀ {vs : List L2.V} {ds : List D} {bs : List Bool}, Reps K cl G vs ds → allB ds = some bs → vs = bs.map V.bl
  | _, _, bs, .nil, e => by simp [allB] at e; subst e; rfl
  | _, _, bs, .cons (d := d) h r, e => by
    cases d <;> simp [allB] at e
    obtain ⟨l, e1, rfl⟩ := e
    cases h
    rw [bools_rep r e1]; rfl
theorem ints_rep {K : PySem.W.Frag} {G : Hp} : ∀ {vs : List L2.V} {ds : List D} {bs : List Int}, Reps K cl G vs ds → allI ds = some bs → vs = bs.map V.int
  | _, _, bs, .nil, e => by simp [allI] at e; subst e; rfl
  | _, _, bs, .cons (d := d) h r, e => by
    cases d <;> simp [allI] at e
    obtain ⟨l, e1, rfl⟩ := e
    cases h
    rw [ints_rep r e1]; rfl
theorem maxI_none : ∀ {l : List Int}, maxI l = none → l = []
  | [], _ => rfl
  | _ :: _, e => by simp [maxI] at e
theorem minI_none : ∀ {l : List Int}, minI l = none → l = []
  | [], _ => rfl
  | _ :: _, e => by simp [minI] at e
theorem maxI_ok : ∀ {l : List Int} {m : Int}, maxI l = some m → m ∈ l ∧ ∀ y ∈ l, y ≤ m
  | [], _, e => by cases e
  | x :: l, m, e => by
    simp only [maxI, Option.some.injEq] at e
    cases q : maxI l with
    | none =>
      rw [q] at e
      have := maxI_none q
      subst this
      have e' : x = m := e
      subst e'
      simp
    | some k =>
      rw [q] at e
      obtain ⟨h1, h2⟩ := maxI_ok q
      have e' : (if x < k then k else x) = m := e
      split at e' <;> subst e'
      · exact ⟨List.mem_cons_of_mem _ h1, fun z hz => by
          rcases List.mem_cons.mp hz with rfl | hz
          · omega
          · exact h2 z hz⟩
      · exact ⟨List.mem_cons_self, fun z hz => by
          rcases List.mem_cons.mp hz with rfl | hz
          · omega
          · have := h2 z hz; omega⟩
theorem minI_ok : ∀ {l : List Int} {m : Int}, minI l = some m → m ∈ l ∧ ∀ y ∈ l, m ≤ y
  | [], _, e => by cases e
  | x :: l, m, e => by
    simp only [minI, Option.some.injEq] at e
    cases q : minI l with
    | none =>
      rw [q] at e
      have := minI_none q
      subst this
      have e' : x = m := e
      subst e'
      simp
    | some k =>
      rw [q] at e
      obtain ⟨h1, h2⟩ := minI_ok q
      have e' : (if k < x then k else x) = m := e
      split at e' <;> subst e'
      · exact ⟨List.mem_cons_of_mem _ h1, fun z hz => by
          rcases List.mem_cons.mp hz with rfl | hz
          · omega
          · exact h2 z hz⟩
      · exact ⟨List.mem_cons_self, fun z hz => by
          rcases List.mem_cons.mp hz with rfl | hz
          · omega
          · have := h2 z hz; omega⟩
theorem maxI_ne {l : List Int} {m : Int} (e : maxI l = some m) : 0 < l.length := by cases l <;> simp [maxI] at e ⊢
theorem minI_ne {l : List Int} {m : Int} (e : minI l = some m) : 0 < l.length := by cases l <;> simp [minI] at e ⊢
theorem le_antisymm_max {l : List Int} {m k : Int} (h1 : m ∈ l ∧ ∀ y ∈ l, y ≤ m) (h2 : k ∈ l) (h3 : ∀ y ∈ l, y ≤ k) : k = m := by
  have a := h1.2 k h2
  have b := h3 m h1.1
  omega
theorem le_antisymm_min {l : List Int} {m k : Int} (h1 : m ∈ l ∧ ∀ y ∈ l, m ≤ y) (h2 : k ∈ l) (h3 : ∀ y ∈ l, k ≤ y) : k = m := by
  have a := h1.2 k h2
  have b := h3 m h1.1
  omega
theorem lenD_ok {K : PySem.W.Frag} {w : Wd} {H : Hp} {x : L2.V} {ds : List D} {d : D} (s : Same w.G H) (h : RepH K cl w H x d) (e : d = .lst ds ∨ d = .tup ds) : LenV K x H ds.length := by
  obtain ⟨a, vs, rfl, hq, r⟩ := rep_seq s h e
  rcases hq with hq | hq
  · exact .inl ⟨vs, hq, r.length.symm⟩
  · exact .inr ⟨vs, hq, r.length.symm⟩
theorem lstD_ok {K : PySem.W.Frag} {w : Wd} {H : Hp} {x : L2.V} {ds : List D} (h : RepH K cl w H x (.lst ds)) : ∃ a vs, x = .ref a ∧ SqL K H a vs ∧ Reps K cl w.G vs ds := h
theorem sortI_perm (ns : List Int) : (sortI ns).Perm ns := List.mergeSort_perm _ _
theorem sortI_pw (ns : List Int) : (sortI ns).Pairwise (· ≤ ·) := by
  have := List.pairwise_mergeSort (le := fun a b : Int => decide (a ≤ b)) (fun a b c h1 h2 => by simp at *; omega) (fun a b => by simp; omega) ns
  unfold sortI
  simpa using this
theorem sortI_eq {ns ms : List Int} (h : ms.Perm ns) (hp : ms.Pairwise (· ≤ ·)) : ms = sortI ns :=
  List.Perm.eq_of_pairwise (le := (· ≤ ·)) (fun a b _ _ h1 h2 => Int.le_antisymm h1 h2) hp (sortI_pw ns) (h.trans (sortI_perm ns).symm)
theorem reps_ints {K : PySem.W.Frag} {G : Hp} : ∀ ns : List Int, Reps K cl G (ns.map V.int) (ns.map D.int)
  | [] => .nil
  | n :: ns => .cons (.int n) (reps_ints ns)
theorem blt_sv {b : Bf} (hc : bfCalm b = true → X.calm = true) : CallR X (bfVal b) (rF X.K cl b) := by
  intro pins s σ H xs us Q I r h
  obtain ⟨w, st, ds, d, S, hx, e, q⟩ := h
  unfold opF at e
  split at e <;> (try cases e) <;> (try simp only [Option.map_eq_some_iff] at e)
  · -- len of a list
    cases hx with | cons h t => cases t; exact call_len pins s σ H _ us Q I r ⟨_, _, rfl, lenD_ok S.sub h (.inl rfl), q.here S (.int _)⟩
  · cases hx with | cons h t => cases t; exact call_len pins s σ H _ us Q I r ⟨_, _, rfl, lenD_ok S.sub h (.inr rfl), q.here S (.int _)⟩
  · split at e
    · cases e
      cases hx with | cons h t => cases t; cases h; exact call_len_str pins s σ H _ us Q I r ⟨_, rfl, by assumption, q.here S (.int _)⟩
    · cases e
  · cases hx with | cons h t => cases t; cases h; exact call_abs pins s σ H _ us Q I r ⟨_, rfl, q.here S (.int _)⟩
  · cases hx with | cons h t => cases t; cases h; exact call_int1 pins s σ H _ us Q I r (.inl ⟨_, rfl, q.here S (.int _)⟩)
  · cases hx with | cons h t => cases t; cases h; exact call_int1 pins s σ H _ us Q I r (.inr ⟨_, rfl, q.here S (.int _)⟩)
  · split at e
    · rename_i n hn
      split at e
      · cases e
        cases hx with | cons h t => cases t; cases h; exact call_int_str pins s σ H _ us Q I r ⟨_, n, rfl, hn, by assumption, q.here S (.int _)⟩
      · cases e
    · cases e
  · split at e
    · cases e
      cases hx with | cons h t => cases t; cases h; exact call_str_int pins s σ H _ us Q I r ⟨_, rfl, by assumption, q.here S (.str _)⟩
    · cases e
  · obtain ⟨bs, e1, rfl⟩ := e
    cases hx with | cons h t => cases t; obtain ⟨a, vs, rfl, hq, rr⟩ := lstD_ok h; exact cr_all (hc rfl) pins s σ H _ us Q I r ⟨a, bs, rfl, by rw [← bools_rep rr e1]; exact hq, q.here S (.bl _)⟩
  · obtain ⟨bs, e1, rfl⟩ := e
    cases hx with | cons h t => cases t; obtain ⟨a, vs, rfl, hq, rr⟩ := lstD_ok h; exact cr_any (hc rfl) pins s σ H _ us Q I r ⟨a, bs, rfl, by rw [← bools_rep rr e1]; exact hq, q.here S (.bl _)⟩
  · obtain ⟨bs, e1, rfl⟩ := e
    cases hx with | cons h t => cases t; obtain ⟨a, vs, rfl, hq, rr⟩ := lstD_ok h; exact cr_sum (hc rfl) pins s σ H _ us Q I r ⟨a, bs, rfl, by rw [← ints_rep rr e1]; exact hq, q.here S (.int _)⟩
  · cases hx with | cons h t => cases t with | cons h2 t => cases t; cases h; cases h2; exact call_max2 (hc rfl) pins s σ H _ us Q I r ⟨_, _, rfl, q.here S (.int _)⟩
  · cases hx with | cons h t => cases t with | cons h2 t => cases t; cases h; cases h2; exact call_min2 (hc rfl) pins s σ H _ us Q I r ⟨_, _, rfl, q.here S (.int _)⟩
  · obtain ⟨m, e1, rfl⟩ := e
    obtain ⟨l, e2, e3⟩ := Option.bind_eq_some_iff.mp e1
    cases hx with | cons h t => cases t; obtain ⟨a, vs, rfl, hq, rr⟩ := lstD_ok h; exact cr_max (hc rfl) pins s σ H _ us Q I r ⟨a, l, rfl, by rw [← ints_rep rr e2]; exact hq, maxI_ne e3, fun k h1 h2 => by rw [le_antisymm_max (maxI_ok e3) h1 h2]; exact q.here S (.int _)⟩
  · obtain ⟨m, e1, rfl⟩ := e
    obtain ⟨l, e2, e3⟩ := Option.bind_eq_some_iff.mp e1
    cases hx with | cons h t => cases t; obtain ⟨a, vs, rfl, hq, rr⟩ := lstD_ok h; exact cr_min (hc rfl) pins s σ H _ us Q I r ⟨a, l, rfl, by rw [← ints_rep rr e2]; exact hq, minI_ne e3, fun k h1 h2 => by rw [le_antisymm_min (minI_ok e3) h1 h2]; exact q.here S (.int _)⟩
  · cases hx with | cons h t => cases t; obtain ⟨a, vs, rfl, hq, rr⟩ := rep_seq S.sub h (.inl rfl); exact call_list_of pins s σ H _ us Q I r ⟨a, vs, rfl, hq, fun p hp => q.lay S hp (.lst (SqL.of upd_same) (rr.up S hp))⟩
  · cases hx with | cons h t => cases t; obtain ⟨a, vs, rfl, hq, rr⟩ := rep_seq S.sub h (.inr rfl); exact call_list_of pins s σ H _ us Q I r ⟨a, vs, rfl, hq, fun p hp => q.lay S hp (.lst (SqL.of upd_same) (rr.up S hp))⟩
  · cases hx with | cons h t => cases t; obtain ⟨a, vs, rfl, hq, rr⟩ := lstD_ok h; exact call_tuple_of pins s σ H _ us Q I r ⟨a, vs, rfl, .inl ⟨hq, fun p hp => q.lay S hp (.tup (SqT.of upd_same) (rr.up S hp))⟩⟩
  · cases hx with | cons h t => cases t; cases h with | tup hq rr => exact call_tuple_of pins s σ H _ us Q I r ⟨_, _, rfl, .inr ⟨seqT_same S.sub hq, q.here S (.tup hq rr)⟩⟩
  · obtain ⟨l, e1, rfl⟩ := e
    cases hx with | cons h t => cases t; obtain ⟨a, vs, rfl, hq, rr⟩ := lstD_ok h; exact cr_sortedI pins s σ H _ us Q I r ⟨a, l, rfl, by rw [← ints_rep rr e1]; exact hq, fun ns' p hp hw hn => by rw [sortI_eq hp hw]; exact q.lay S hn (.lst (SqL.of upd_same) (reps_ints _))⟩
end
end SV

set_option maxRecDepth 100000
set_option maxHeartbeats 2000000
/-! SvH: calls of built-ins, list methods, isinstance, fields: the expressions -/
namespace SV
open PySem PySem.Spec PyProof.Rows L2
def noStar : Expr → Bool
  | .Starred _ _ => false
  | _ => true
theorem star_cons {e : Expr} (h : noStar e = true) (es : List Expr) (env : PySem.Env) : starEach (e :: es) env = (false, eval e env) :: starEach es env := by
  cases e <;> first | rfl | (simp [noStar] at h)
theorem star_any {env : PySem.Env} {pos : Pos} : ∀ {es : List Expr}, es.all noStar = true → (backTo pos (starEach es env)).any (·.1) = false
  | [], _ => rfl
  | e :: es, h => by
    simp only [List.all_cons, Bool.and_eq_true] at h
    rw [star_cons h.1]
    show (false || (backTo pos (starEach es env)).any (·.1)) = false
    rw [star_any h.2]; rfl
theorem star_all {env : PySem.Env} {pos : Pos} : ∀ {es : List Expr}, es.all noStar = true → (backTo pos (starEach es env)).all (fun x => !x.1) = true
  | [], _ => rfl
  | e :: es, h => by
    simp only [List.all_cons, Bool.and_eq_true] at h
    rw [star_cons h.1]
    show (true && (backTo pos (starEach es env)).all (fun x => !x.1)) = true
    rw [star_all h.2]; rfl
section
variable {X : Cx} {cl : Nat → Option Addr} {W : WY} {a b c : Expr} {ma mb mc : Env → M R} {pos : Pos}
theorem blt_read {bf : Bf} {ms : Env → M (List R)} {σ : L2.St} {H : Hp} {Q : VK} (h : tV X.K cl W (fun ρ => (ms ρ).bind fun rs => (rdDs rs).bind fun ds => (M.of (opF bf ds)).bind fun d => M.pure (.v d)) σ H Q) : tCB (rF X.K cl bf) (tA X.K cl W ms) σ H Q := by
  obtain ⟨w, ρ, st, s, e, h⟩ := h
  refine (tG.bind (m := ms) s e h).mono fun xs H1 ⟨w1, rs, st1, e1, s1, en1, r1, h1⟩ => ?_
  obtain ⟨ds, st2, q2, h2⟩ := Wn.step h1 rdDs_ne
  obtain ⟨rfl, hr⟩ := rdDs_ok s1 r1 q2
  obtain ⟨d, e3, n⟩ := Wn.newD h2
  exact ⟨w1, st2, ds, d, s1, hr, e3, n⟩
theorem ve_blt {bf : Bf} {x : Str} {p : Pos} {es : List Expr} {ms : Env → M (List R)} (hc : bfCalm bf = true → X.calm = true) (hg : Gl X x) (hm : X.mg x = none) (hv : bootBuiltins x = some (bfVal bf)) (hn : x ≠ "__name__") (hdb : (x == ("__debug__" : Str)) = false)
    (hs : (a :: es).all noStar = true) (ha : VA X cl W (a :: es) ms) : VE X cl W (.Call (.Name x p) (a :: es) [] pos) (fun ρ => (ms ρ).bind fun rs => (rdDs rs).bind fun ds => (M.of (opF bf ds)).bind fun d => M.pure (.v d)) := by
  have hs' := hs
  simp only [List.all_cons, Bool.and_eq_true] at hs'
  have c := blt_sv (X := X) (cl := cl) hc
  cases bf
  case len => exact PE.imp (pe_callB c hg hm hv ha hn hdb (star_cons hs'.1 _ _) (star_any hs'.2)) fun σ H Q h => blt_read h
  case abs => exact PE.imp (pe_callB c hg hm hv ha hn hdb (star_cons hs'.1 _ _) (star_any hs'.2)) fun σ H Q h => blt_read h
  case int => exact PE.imp (pe_callTy c hg hm hv ha hn hdb (star_cons hs'.1 _ _) (star_any hs'.2)) fun σ H Q h => blt_read h
  case str => exact PE.imp (pe_callTy c hg hm hv ha hn hdb (star_cons hs'.1 _ _) (star_any hs'.2)) fun σ H Q h => blt_read h
  case all => exact PE.imp (pe_callB c hg hm hv ha hn hdb (star_cons hs'.1 _ _) (star_any hs'.2)) fun σ H Q h => blt_read h
  case any => exact PE.imp (pe_callB c hg hm hv ha hn hdb (star_cons hs'.1 _ _) (star_any hs'.2)) fun σ H Q h => blt_read h
  case sum => exact PE.imp (pe_callB c hg hm hv ha hn hdb (star_cons hs'.1 _ _) (star_any hs'.2)) fun σ H Q h => blt_read h
  case max => exact PE.imp (pe_callB c hg hm hv ha hn hdb (star_cons hs'.1 _ _) (star_any hs'.2)) fun σ H Q h => blt_read h
  case min => exact PE.imp (pe_callB c hg hm hv ha hn hdb (star_cons hs'.1 _ _) (star_any hs'.2)) fun σ H Q h => blt_read h
  case maxL => exact PE.imp (pe_callB c hg hm hv ha hn hdb (star_cons hs'.1 _ _) (star_any hs'.2)) fun σ H Q h => blt_read h
  case sorted => exact PE.imp (pe_callB c hg hm hv ha hn hdb (star_cons hs'.1 _ _) (star_any hs'.2)) fun σ H Q h => blt_read h
  case minL => exact PE.imp (pe_callB c hg hm hv ha hn hdb (star_cons hs'.1 _ _) (star_any hs'.2)) fun σ H Q h => blt_read h
  case list => exact PE.imp (pe_callTy c hg hm hv ha hn hdb (star_cons hs'.1 _ _) (star_any hs'.2)) fun σ H Q h => blt_read h
  case tuple => exact PE.imp (pe_callTy c hg hm hv ha hn hdb (star_cons hs'.1 _ _) (star_any hs'.2)) fun σ H Q h => blt_read h
/-! ### list methods -/
theorem chkL_ok {r : R} {st st' : Store} {u : Unit} (h : chkL r st = .ok u st') : st' = st ∧ ∃ n xs, r = .ref n ∧ st[n]? = some (.lst xs) := by
  unfold chkL at h
  split at h
  · split at h
    · cases h; exact ⟨rfl, _, _, rfl, by assumption⟩
    · cases h
  · cases h
theorem chkL_ne {r : R} {st : Store} : ∀ c fs s, chkL r st ≠ .exc c fs s := fun c fs s e => by
  unfold chkL at e
  split at e
  · split at e <;> cases e
  · cases e
theorem chkL_ty {K : PySem.W.Frag} {w : Wd} {H : Hp} {st : Store} {x : L2.V} {n : Nat} {xs : List R} (s : SR K cl w H st) (r : RepR K cl w x (.ref n)) (h : st[n]? = some (.lst xs)) : tyV K "list" x H := by
  obtain ⟨a, ha, rfl⟩ := r
  obtain ⟨_, vs, hv, _⟩ := s.cell n _ a h ha
  exact .inl ⟨rfl, vs, SqL.of hv⟩
theorem onCell_ok {r : R} {f : List R → Option (R × List R)} {st st' : Store} {o : R} (h : onCell r f st = .ok o st') : ∃ n xs ys, r = .ref n ∧ st[n]? = some (.lst xs) ∧ f xs = some (o, ys) ∧ st' = st.set n (.lst ys) := by
  unfold onCell at h
  split at h
  · split at h
    · split at h
      · cases h; exact ⟨_, _, _, rfl, by assumption, by assumption, rfl⟩
      · cases h
    · cases h
  · cases h
theorem onCell_ne {r : R} {f : List R → Option (R × List R)} {st : Store} : ∀ c fs s, onCell r f st ≠ .exc c fs s := fun c fs s e => by
  unfold onCell at e
  split at e
  · split at e
    · split at e <;> cases e
    · cases e
  · cases e
/-- a method's rule: the list at l becomes ys, z is handed back -/
theorem cell_step {w : Wd} {H : Hp} {st : Store} {σ : L2.St} {Q : VK} {r : R} {x : L2.V} {f : List R → Option (R × List R)} (s : SR X.K cl w H st) (hr : RepR X.K cl w x r) (h : Wn (RepR X.K cl) X.K cl W σ Q w H (onCell r f st)) :
    ∃ l vs xs o ys, x = .ref l ∧ H l = some (.lst vs) ∧ RepRs X.K cl w vs xs ∧ f xs = some (o, ys) ∧ ∀ v us, RepRs X.K cl w us ys → RepR X.K cl w v o → Q v (upd H l (.lst us)) := by
  cases q : onCell r f st with
  | bad => rw [q] at h; exact False.elim h
  | exc c fs z => exact absurd q (onCell_ne c fs z)
  | ok o st' =>
    rw [q] at h
    obtain ⟨n, xs, ys, rfl, h1, h2, rfl⟩ := onCell_ok q
    obtain ⟨a, ha, rfl⟩ := hr
    obtain ⟨_, vs, hv, rs⟩ := s.cell n _ a h1 ha
    refine ⟨a, vs, xs, o, ys, rfl, hv, rs, h2, fun v us ru rv => ?_⟩
    obtain ⟨s2, e2⟩ := s.write (vs := us) h1 ha ru
    exact h v w _ e2 s2 rv
theorem RepRs.app {K : PySem.W.Frag} {w : Wd} {vs us : List L2.V} {xs ys : List R} (h : RepRs K cl w vs xs) (h2 : RepRs K cl w us ys) : RepRs K cl w (vs ++ us) (xs ++ ys) := by
  induction h with
  | nil => exact h2
  | cons a _ ih => exact .cons a ih
theorem RepRs.rev {K : PySem.W.Frag} {w : Wd} {vs : List L2.V} {xs : List R} (h : RepRs K cl w vs xs) : RepRs K cl w vs.reverse xs.reverse := by
  induction h with
  | nil => exact .nil
  | cons a _ ih => rw [List.reverse_cons, List.reverse_cons]; exact RepRs.app ih (.cons a .nil)
theorem RepRs.dropLast {K : PySem.W.Frag} {w : Wd} {vs : List L2.V} {xs : List R} (h : RepRs K cl w vs xs) : RepRs K cl w vs.dropLast xs.dropLast := by
  induction h with
  | nil => exact .nil
  | cons a t ih =>
    cases t with
    | nil => exact .nil
    | cons b t => exact .cons a ih
theorem bm_read {T : List L2.V → Prop} {m : Bm} {ms : Env → M (List R)} {r : L2.V → List L2.V → Hp → VK → Prop} {σ : L2.St} {H : Hp} {Q : VK}
    (hr : ∀ (x : L2.V) (rx : R) (vs : List L2.V) (rs : List R) (w : Wd) (H : Hp) (st : Store), SR X.K cl w H st → RepR X.K cl w x rx → RepRs X.K cl w vs rs → Wn (RepR X.K cl) X.K cl W σ Q w H (opM m rx rs st) → r x vs H Q)
    (h : tV X.K cl W (fun ρ => (ma ρ).bind fun x => (chkL x).bind fun _ => (ms ρ).bind fun rs => opM m x rs) σ H Q) : tBM X.K "list" r (tV X.K cl W ma) (tA X.K cl W ms) σ H Q := by
  obtain ⟨w, ρ, st, s, e, h⟩ := h
  refine (tG.bind (m := ma) s e h).mono fun x H1 ⟨w1, rx, st1, e1, s1, en1, r1, h1⟩ => ?_
  obtain ⟨_, st2, q2, h2⟩ := Wn.step h1 chkL_ne
  obtain ⟨rfl, n, xs, rfl, hn⟩ := chkL_ok q2
  refine ⟨chkL_ty s1 r1 hn, ?_⟩
  refine (tG.bind (m := ms) s1 en1 h2).mono fun vs H2 ⟨w2, rs, st3, e3, s3, en3, r3, h3⟩ => ?_
  exact hr x _ vs rs w2 H2 st3 s3 (r1.ext e3) r3 h3
theorem ve_append {ap : Pos} {ms : Env → M (List R)} (hbase : attributeBase a "append" X.env (eval a X.env) = eval a X.env) (hline : (ap.endLine == pos.line) = true) (hs : noStar b = true) (ha : VE X cl W a ma) (hb : VA X cl W [b] ms) :
    VE X cl W (.Call (.Attribute a "append" ap) [b] [] pos) (fun ρ => (ma ρ).bind fun x => (chkL x).bind fun _ => (ms ρ).bind fun rs => opM .append x rs) := by
  refine PE.imp (pe_bm PySem.F.plainAttrs_list PySem.F.slot_list_append PySem.F.type_list_append mt_append ha hb hbase (by rw [star_cons hs]; rfl) hline (star_cons hs _ _) rfl) fun σ H Q h => bm_read (T := fun _ => True) (fun x rx vs rs w H st s r1 r2 h => ?_) h
  cases r2 with
  | nil => exact False.elim h
  | cons ry t =>
    cases t with
    | cons _ _ => exact False.elim h
    | nil =>
      obtain ⟨l, us, xs, o, ys, rfl, hl, rs, e, k⟩ := cell_step s r1 h
      split at e
      · rename_i hz
        cases e
        exact ⟨l, us, _, rfl, rfl, hl, by rw [rs.length]; exact hz, k _ _ (RepRs.app rs (.cons ry .nil)) (show Rep X.K cl w.G V.non .non from .non)⟩
      · cases e
theorem ve_insert {b' : Expr} {ap : Pos} {ms : Env → M (List R)} (hbase : attributeBase a "insert" X.env (eval a X.env) = eval a X.env) (hline : (ap.endLine == pos.line) = true) (hs : noStar b = true) (hs' : noStar b' = true) (ha : VE X cl W a ma) (hb : VA X cl W [b, b'] ms) :
    VE X cl W (.Call (.Attribute a "insert" ap) [b, b'] [] pos) (fun ρ => (ma ρ).bind fun x => (chkL x).bind fun _ => (ms ρ).bind fun rs => opM .insert x rs) := by
  refine PE.imp (pe_bm PySem.F.plainAttrs_list PySem.F.slot_list_insert PySem.F.type_list_insert mt_insert ha hb hbase (by rw [star_cons hs, star_cons hs']; rfl) hline (star_cons hs _ _) (by rw [star_cons hs']; rfl)) fun σ H Q h => bm_read (T := fun _ => True) (fun x rx vs rs w H st s r1 r2 h => ?_) h
  cases r2 with
  | nil => exact False.elim h
  | cons ri t =>
    rename_i y0 r0 _ _
    cases t with
    | nil => exact False.elim h
    | cons ry t =>
      cases t with
      | cons _ _ => exact False.elim h
      | nil =>
        obtain ⟨l, us, xs, o, ys, rfl, hl, rs, e, k⟩ := cell_step s r1 h
        split at e
        · rename_i hz
          cases e
          have ez : y0 = .int 0 := by
            have hz1 := hz.1
            cases r0 with
            | v d =>
              cases d with
              | int i =>
                have : i = 0 := by simpa [isZ] using hz1
                subst this
                have ri' : Rep X.K cl w.G y0 (.int 0) := ri
                cases ri'; rfl
              | _ => cases hz1
            | _ => cases hz1
          subst ez
          exact ⟨l, us, 0, _, rfl, rfl, hl, by rw [rs.length]; exact hz.2, by decide, by decide, k _ _ (by simpa using (RepRs.app (.cons ry .nil) rs)) (show Rep X.K cl w.G V.non .non from .non)⟩
        · cases e
theorem bm_read0 {m : Bm} {r : L2.V → List L2.V → Hp → VK → Prop} {σ : L2.St} {H : Hp} {Q : VK}
    (hr : ∀ (x : L2.V) (rx : R) (w : Wd) (H : Hp) (st : Store), SR X.K cl w H st → RepR X.K cl w x rx → Wn (RepR X.K cl) X.K cl W σ Q w H (opM m rx [] st) → r x [] H Q)
    (h : tV X.K cl W (fun ρ => (ma ρ).bind fun x => (chkL x).bind fun _ => (M.pure []).bind fun rs => opM m x rs) σ H Q) : tBM0 X.K "list" r (tV X.K cl W ma) σ H Q := by
  obtain ⟨w, ρ, st, s, e, h⟩ := h
  refine (tG.bind (m := ma) s e h).mono fun x H1 ⟨w1, rx, st1, e1, s1, en1, r1, h1⟩ => ?_
  obtain ⟨_, st2, q2, h2⟩ := Wn.step h1 chkL_ne
  obtain ⟨rfl, n, xs, rfl, hn⟩ := chkL_ok q2
  exact ⟨chkL_ty s1 r1 hn, hr x _ w1 H1 st2 s1 r1 h2⟩
theorem ve_reverse {ap : Pos} (hbase : attributeBase a "reverse" X.env (eval a X.env) = eval a X.env) (hline : (ap.endLine == pos.line) = true) (ha : VE X cl W a ma) :
    VE X cl W (.Call (.Attribute a "reverse" ap) [] [] pos) (fun ρ => (ma ρ).bind fun x => (chkL x).bind fun _ => (M.pure []).bind fun rs => opM .reverse x rs) := by
  refine PE.imp (pe_bm0 PySem.F.plainAttrs_list PySem.F.slot_list_reverse PySem.F.type_list_reverse mt_reverse ha hbase hline) fun σ H Q h => bm_read0 (fun x rx w H st s r1 h => ?_) h
  simp only [opM] at h
  obtain ⟨l, us, xs, o, ys, rfl, hl, rs, e, k⟩ := cell_step s r1 h
  cases e
  exact ⟨l, us, rfl, rfl, hl, k _ _ (RepRs.rev rs) (show Rep X.K cl w.G V.non .non from .non)⟩
theorem chkTx_ne {d : D} {st : Store} : ∀ c fs s, chkTx d st ≠ .exc c fs s := fun c fs s e => by
  unfold chkTx at e
  split at e <;> cases e
theorem allS_rep {K : PySem.W.Frag} {G : Hp} : ∀ {vs : List L2.V} {ds : List D} {ys : List Str}, Reps K cl G vs ds → allS ds = some ys → vs = ys.map V.str := by
  intro vs ds ys h
  induction ds generalizing vs ys with
  | nil => intro e; cases h; cases e; rfl
  | cons d ds ih =>
    intro e
    cases h with
    | cons h r =>
      cases d with
      | str b =>
        cases h
        cases q : allS ds with
        | none => simp only [allS, q] at e; cases e
        | some zs =>
          simp only [allS, q] at e
          cases e
          rw [ih r q]; rfl
      | _ => cases e
theorem ve_join {ap : Pos} (hbase : attributeBase a "join" X.env (eval a X.env) = eval a X.env) (hline : (ap.endLine == pos.line) = true) (hs : noStar b = true) (ha : VE X cl W a ma) (hb : VE X cl W b mb) :
    VE X cl W (.Call (.Attribute a "join" ap) [b] [] pos) (fun ρ => (ma ρ).bind fun x => (rdD x).bind fun d => (chkTx d).bind fun _ => (mb ρ).bind fun y => joinD d y) := by
  refine PE.imp (pe_join ha hb (by rw [star_cons hs]; rfl) hbase hline) fun σ H Q h => ?_
  obtain ⟨w, ρ, st, s, e, h⟩ := h
  refine (tG.bind (m := ma) s e h).mono fun x H1 ⟨w1, rx, st1, e1, s1, en1, r1, h1⟩ => ?_
  obtain ⟨d, st4, q4, h4⟩ := Wn.step h1 rdD_ne
  obtain ⟨f4, rfl⟩ := rdD_ok q4
  have rd := force_rep s1 r1 f4
  obtain ⟨_, st5, q5, h5⟩ := Wn.step h4 chkTx_ne
  cases d with
  | str b' =>
    cases q5
    have hx : x = .str b' := by cases rd; rfl
    refine ⟨⟨b', hx⟩, ?_⟩
    refine (tG.bind (m := mb) s1 en1 h5).mono fun y H2 ⟨w2, ry, st2, e2, s2, en2, r2, h2⟩ => ?_
    unfold joinD at h2
    obtain ⟨d2, st6, q6, h6⟩ := Wn.step h2 rdD_ne
    obtain ⟨f6, rfl⟩ := rdD_ok q6
    have rd2 := force_rep s2 r2 f6
    cases d2 with
    | lst ds =>
      obtain ⟨p, vs, rfl, hq, rr⟩ := rd2
      cases hy : allS ds with
      | none => simp only [hy] at h6; exact False.elim h6
      | some ys =>
        simp only [hy] at h6
        by_cases hz : (ys.map (·.length)).sum + ys.length * b'.length ≤ 16777216
        · rw [if_pos hz] at h6
          have ev := allS_rep rr hy
          subst ev
          exact ⟨b', p, ys, hx, rfl, .inl hq, hz, h6 (.str _) w2 H2 (Ext.refl _ _) s2 (Rep.str _)⟩
        · rw [if_neg hz] at h6
          exact False.elim h6
    | _ => exact False.elim h6
  | _ => cases q5
theorem ve_clear {ap : Pos} (hbase : attributeBase a "clear" X.env (eval a X.env) = eval a X.env) (hline : (ap.endLine == pos.line) = true) (ha : VE X cl W a ma) :
    VE X cl W (.Call (.Attribute a "clear" ap) [] [] pos) (fun ρ => (ma ρ).bind fun x => (chkL x).bind fun _ => (M.pure []).bind fun rs => opM .clear x rs) := by
  refine PE.imp (pe_bm0 PySem.F.plainAttrs_list PySem.F.slot_list_clear PySem.F.type_list_clear mt_clear ha hbase hline) fun σ H Q h => bm_read0 (fun x rx w H st s r1 h => ?_) h
  simp only [opM] at h
  obtain ⟨l, us, xs, o, ys, rfl, hl, rs, e, k⟩ := cell_step s r1 h
  cases e
  exact ⟨l, us, rfl, rfl, hl, k _ _ .nil (show Rep X.K cl w.G V.non .non from .non)⟩
theorem ve_pop {ap : Pos} (hbase : attributeBase a "pop" X.env (eval a X.env) = eval a X.env) (hline : (ap.endLine == pos.line) = true) (ha : VE X cl W a ma) :
    VE X cl W (.Call (.Attribute a "pop" ap) [] [] pos) (fun ρ => (ma ρ).bind fun x => (chkL x).bind fun _ => (M.pure []).bind fun rs => opM .pop x rs) := by
  refine PE.imp (pe_bm0 PySem.F.plainAttrs_list PySem.F.slot_list_pop PySem.F.type_list_pop mt_pop ha hbase hline) fun σ H Q h => bm_read0 (fun x rx w H st s r1 h => ?_) h
  simp only [opM] at h
  obtain ⟨l, us, xs, o, ys, rfl, hl, rs, e, k⟩ := cell_step s r1 h
  cases q : xs[xs.length - 1]? with
  | none => rw [q] at e; cases e
  | some y =>
    rw [q] at e
    cases e
    obtain ⟨v, hv, rv⟩ := rs.get q
    exact ⟨l, us, v, rfl, rfl, hl, by rw [rs.length]; exact hv, k _ _ (RepRs.dropLast rs) rv⟩
theorem ve_lstc {p : Pos} (hg : Gl X "list") (hm : X.mg "list" = none) (hs : noStar a = true) (ha : VE X cl W a ma) : VE X cl W (.Call (.Name "list" p) [a] [] pos) (fun ρ => (ma ρ).bind lstC) := by
  refine PE.imp (pe_callTy call_list_of hg hm (by decide +kernel) (pa_cons ha pa_nil (star_cons hs _ _)) (by decide) (by decide) (star_cons hs _ _) rfl) fun σ H Q h => ?_
  obtain ⟨w, ρ, st, s, e, h⟩ := h
  refine (tG.bind (m := ma) s e h).mono fun x H1 ⟨w1, rx, st1, e1, s1, en1, r1, h1⟩ => ?_
  unfold lstC at h1
  obtain ⟨xs, st2, q2, h2⟩ := Wn.step h1 items_ne
  obtain ⟨rfl, p, vs, rfl, hq, rs⟩ := items_ok s1 r1 q2
  exact ⟨p, vs, rfl, hq, fun l hl => alloc_step s1 rs h2 hl⟩
end
end SV

set_option maxRecDepth 100000
set_option maxHeartbeats 2000000
/-! SvI: what is known of the module; isinstance, fields -/
namespace SV
open PySem PySem.Spec PyProof.Rows L2
/-- a way to call a def: positional arguments, keywords, where each parameter comes from -/
structure Pat where
  n : Nat
  ks : List Str
  pm : List (Nat ⊕ D)
structure FI where
  name : Str
  ps : List Str
  pats : List Pat
  at_ : Str × Option Str
/-- the module: constants, own classes (below 100 plain ones, from 100 on errors), built-ins that stand as ever, defs, fields -/
structure Mt where
  gcs : List (Str × D)
  cls : List (Str × Nat)
  blt : List (Str × Value)
  fns : List FI
  flds : List Str
  tys : List String
  own : List Nat
  mths : List ((Nat × Str) × Nat)
  xfs : List (Nat × List Str)
  ct : Ctab
def tyNames : List String := ["NoneType", "bool", "int", "str", "tuple", "list", "dict"]
/-- a plain own class, as isinstance and fields want it -/
structure ObjC (K : PySem.W.Frag) (C : Addr) : Prop where
  cls : Cls K C
  ha : PySem.W.findIn K (.ref C) "__class__" = some (some (.builtin "object.__class__"))
  hn : PySem.W.specialIn K (.builtin "object.__class__") "__get__" = some (some (.builtin "getset_descriptor.__get__"))
  ht : PySem.W.takesIn K (.builtin "object.__class__") = some true
  hm : PySem.W.mroIn K C (.type "object") = some true
/-- an own error class without fields, as raise wants it -/
structure OwnX (K : PySem.W.Frag) (C : Addr) : Prop where
  q : PySem.W.excIn K C [.type "ValueError", .type "Exception", .type "BaseException", .type "object"] "ValueError.__new__" = true
  kp : PySem.W.keepIn K (.ref C) = true
  sb : PySem.W.subIn K (.ref C) (.type "BaseException") = some true
  ty : PySem.W.typeIn K (.ref C) = some (.type "type")
structure Mok (m : Mt) (K : PySem.W.Frag) (mg : Str → Option Value) (cl : Nat → Option Addr) (ct : Ctab) : Prop where
  gc : ∀ x d, m.gcs.lookup x = some d → ∃ u v, mg x = some u ∧ RelV v u ∧ Rep K cl (fun _ => none) v d
  bl : ∀ x v, m.blt.lookup x = some v → mg x = none ∧ bootBuiltins x = some v ∧ x ≠ "__name__"
  cn : ∀ x i, m.cls.lookup x = some i → ∃ C, cl i = some C ∧ mg x = some (.ref C)
  kt : ∀ T ∈ m.tys, ∀ t ∈ tyNames, kitB t T = some (isTy t T)
  kc : ∀ i C, cl i = some C → ∀ t ∈ tyNames, PySem.W.kitOne K (.type t) (.ref C) = some false
  ko : ∀ i j Ci Cj, cl i = some Ci → cl j = some Cj → PySem.W.kitOne K (.ref Ci) (.ref Cj) = some (ct.sub i j)
  kb : ∀ i C T, cl i = some C → T ∈ m.tys → PySem.W.kitOne K (.ref C) (.type T) = some (ct.bas i T)
  oc : ∀ i C, cl i = some C → i < 100 → ObjC K C
  xc : ∀ i C, cl i = some C → ¬ i < 100 → ExcC K C
  na : ∀ i C, cl i = some C → ∀ f ∈ m.flds, NoAttr K C f
  cd : ∀ i C, cl i = some C → i ∈ m.cls.map (·.2)
  ox : ∀ i C, cl i = some C → i ∈ m.own → OwnX K C
  ex : ∀ i j C D, cl i = some C → cl j = some D → ¬ i < 100 → ¬ j < 100 → PySem.W.exmOne K (.ref C) (.ref D) = some (ct.sub i j)
  me : ∀ c C nm f fi, cl c = some C → c < 100 → ct.mth c nm = some f → m.fns[f]? = some fi → Meth K C nm (He.fAd K fi.at_)
  mkr : ∀ c C f fi, cl c = some C → c < 100 → ct.mth c "__init__" = some f → m.fns[f]? = some fi → Mk K C (He.fAd K fi.at_)
  mi : ∀ c nm f, ct.mth c nm = some f → ((c, nm), f) ∈ m.mths
/-- the value of a class's name -/
def ClsR (m : Mt) (K : PySem.W.Frag) (mg : Str → Option Value) (cl : Nat → Option Addr) : (Nat ⊕ String) → L2.V → Value → Prop
  | .inl i, v, u => ∃ C, cl i = some C ∧ v = .ref C ∧ u = .ref C
  | .inr T, v, u => T ∈ m.tys ∧ v = .ty T ∧ u = .type T
section
variable {X : Cx} {cl : Nat → Option Addr} {W : WY} {a b c : Expr} {ma mb mc : Env → M R} {pos : Pos} {m : Mt} {ct : Ctab}
theorem tyD_mem {d : D} {t : String} (h : tyD d = some t) : t ∈ tyNames := by
  cases d <;> simp [tyD] at h <;> subst h <;> simp [tyNames]
theorem ty_data {K : PySem.W.Frag} {G H : Hp} {v : L2.V} {d : D} {t : String} (s : Same G H) (r : Rep K cl G v d) (h : tyD d = some t) : TyX K H v (.type t) := by
  cases r with
  | non => cases h; exact .base .non
  | bl b => cases h; exact .base (.bl b)
  | int i => cases h; exact .base (.int i)
  | str x => cases h; exact .base (.str x)
  | tup hq rr =>
    cases h
    rcases hq with (hq | ⟨o, hq⟩) | ⟨o, its, n, hk, hc, _⟩
    · exact .base (.tup (s _ _ hq))
    · exact .fTuple (s _ _ hq)
    · exact .kTuple hk hc
  | lst hq rr =>
    cases h
    rcases hq with (hq | ⟨o, hq⟩) | ⟨o, its, n, hk, hc, _⟩
    · exact .base (.lst (s _ _ hq))
    · exact .base (.frz (s _ _ hq))
    · exact .kList hk hc
  | obj hc h' r => cases h
  | dct h' r => cases h; exact .base (.dK (s _ _ h'))
/-- a value's class, as isinstance asks it -/
theorem head_ty (M0 : Mok m X.K X.mg cl ct) {w : Wd} {H : Hp} {st : Store} {v : L2.V} {r : R} {d : D} (s : SR X.K cl w H st) (hr : RepR X.K cl w v r) (e : headD st r = some d) :
    (∃ t, tyD d = some t ∧ TyX X.K H v (.type t)) ∨ ∃ c fs C, d = .obj c fs ∧ cl c = some C ∧ TyX X.K H v (.ref C) := by
  have dat : ∀ d, Rep X.K cl w.G v d → (∃ t, tyD d = some t ∧ TyX X.K H v (.type t)) ∨ ∃ c fs C, d = .obj c fs ∧ cl c = some C ∧ TyX X.K H v (.ref C) := fun d r => by
    cases ht : tyD d with
    | some t => exact .inl ⟨t, rfl, ty_data s.sub r ht⟩
    | none =>
      cases r with
      | obj hc h' r =>
        have O := M0.oc _ _ hc.1 hc.2
        exact .inr ⟨_, _, _, rfl, hc.1, .base (.ins (s.sub _ _ h') O.cls O.ha O.hn O.ht O.hm)⟩
      | _ => cases ht
  cases r with
  | v d' => cases e; exact dat _ hr
  | ex c fs => cases e
  | ref n =>
    obtain ⟨a, ha, rfl⟩ := hr
    simp only [headD] at e
    cases q : st[n]? with
    | none => rw [q] at e; cases e
    | some c =>
      have k := s.cell n c a q ha
      rw [q] at e
      cases c with
      | lst xs =>
        cases e
        obtain ⟨_, vs, hv, _⟩ := k
        exact .inl ⟨_, rfl, .base (.lst hv)⟩
      | obj c fs =>
        cases e
        obtain ⟨_, C, dx, fvs, hc, hv, _⟩ := k
        have O := M0.oc _ _ hc.1 hc.2
        exact .inr ⟨_, _, C, rfl, hc.1, .base (.ins hv O.cls O.ha O.hn O.ht O.hm)⟩
      | dct kvs =>
        cases e
        obtain ⟨_, vs, hv, _⟩ := k
        exact .inl ⟨_, rfl, .base (.dK hv)⟩
      | fz d' => cases e; exact dat _ k
theorem kit_one (M0 : Mok m X.K X.mg cl ct) {d : D} {k : Nat ⊕ String} {v : L2.V} {u t : Value} {bb : Bool} (hk : ClsR m X.K X.mg cl k v u) (e : isOne ct d k = some bb)
    (ht : (∃ t', tyD d = some t' ∧ t = .type t') ∨ ∃ c fs C, d = .obj c fs ∧ cl c = some C ∧ t = .ref C) : PySem.W.kitOne X.K t u = some bb := by
  cases k with
  | inl i =>
    obtain ⟨C, hC, rfl, rfl⟩ := hk
    rcases ht with ⟨t', h1, rfl⟩ | ⟨c, fs, D', rfl, h1, rfl⟩
    · have : isOne ct d (.inl i) = some false := by cases d <;> first | rfl | cases h1
      rw [this] at e; cases e
      exact M0.kc i C hC t' (tyD_mem h1)
    · cases e
      exact M0.ko c i D' C h1 hC
  | inr T =>
    obtain ⟨hT, rfl, rfl⟩ := hk
    rcases ht with ⟨t', h1, rfl⟩ | ⟨c, fs, D', rfl, h1, rfl⟩
    · have : isOne ct d (.inr T) = some (isTy t' T) := by
        cases d <;> first | (simp only [isOne, h1]; rfl) | cases h1
      rw [this] at e; cases e
      exact kit_ty (M0.kt T hT t' (tyD_mem h1))
    · cases e
      exact M0.kb c D' T h1 hT
theorem kit_any (M0 : Mok m X.K X.mg cl ct) {d : D} {t : Value} (ht : (∃ t', tyD d = some t' ∧ t = .type t') ∨ ∃ c fs C, d = .obj c fs ∧ cl c = some C ∧ t = .ref C) :
    ∀ {ks : List (Nat ⊕ String)} {vs : List L2.V} {us : List Value} {bb : Bool}, (Paired (fun k (p : L2.V × Value) => ClsR m X.K X.mg cl k p.1 p.2) ks (vs.zip us)) → vs.length = us.length → isAny ct d ks = some bb → PySem.W.kitAny X.K t us = some bb
  | [], [], [], bb, _, _, e => by cases e; rfl
  | [], v :: vs, u :: us, bb, h, _, e => by cases h
  | _, [], _ :: _, _, _, h, _ => by cases h
  | _, _ :: _, [], _, _, h, _ => by cases h
  | k :: ks, [], [], bb, h, _, e => by cases h
  | k :: ks, v :: vs, u :: us, bb, .cons h t, hl, e => by
    unfold PySem.W.kitAny
    simp only [isAny] at e
    cases q : isOne ct d k with
    | none => rw [q] at e; cases e
    | some b1 =>
      rw [q] at e
      rw [kit_one M0 h q ht]
      cases b1 with
      | true => exact e
      | false => exact kit_any M0 ht t (by simpa using hl) e
end
end SV

set_option maxRecDepth 100000
set_option maxHeartbeats 2000000
/-! SvJ: isinstance, fields: the expressions -/
namespace SV
open PySem PySem.Spec PyProof.Rows L2
section
variable {X : Cx} {cl : Nat → Option Addr} {W : WY} {a b c : Expr} {ma mb mc : Env → M R} {pos : Pos} {m : Mt} {ct : Ctab}
theorem headM_ok {r : R} {d : D} {st st' : Store} (e : headM r st = .ok d st') : headD st r = some d ∧ st' = st := by
  unfold headM at e
  cases q : headD st r with
  | none => rw [q] at e; cases e
  | some d' => rw [q] at e; cases e; exact ⟨rfl, rfl⟩
theorem headM_ne {r : R} {st : Store} : ∀ c fs s, headM r st ≠ .exc c fs s := fun c fs s e => by
  unfold headM at e
  cases q : headD st r with
  | none => rw [q] at e; cases e
  | some d' => rw [q] at e; cases e
theorem head_ty' (M0 : Mok m X.K X.mg cl ct) {w : Wd} {H : Hp} {st : Store} {v : L2.V} {r : R} {d : D} (s : SR X.K cl w H st) (hr : RepR X.K cl w v r) (e : headD st r = some d) :
    ∃ t, TyX X.K H v t ∧ ((∃ t', tyD d = some t' ∧ t = .type t') ∨ ∃ c fs C, d = .obj c fs ∧ cl c = some C ∧ t = .ref C) := by
  rcases head_ty M0 s hr e with ⟨t, h1, h2⟩ | ⟨c, fs, C, h1, h2, h3⟩
  · exact ⟨_, h2, .inl ⟨t, h1, rfl⟩⟩
  · exact ⟨_, h3, .inr ⟨c, fs, C, h1, h2, rfl⟩⟩
theorem clsR_v {K : PySem.W.Frag} {mg : Str → Option Value} {k : Nat ⊕ String} {v : L2.V} {u : Value} (h : ClsR m K mg cl k v u) : ClsV v u := by
  cases k with
  | inl i => obtain ⟨C, _, rfl, rfl⟩ := h; exact .own C
  | inr T => obtain ⟨_, rfl, rfl⟩ := h; exact .ty T
abbrev isiM (ct : Ctab) (ma : Env → M R) (ks : List (Nat ⊕ String)) : Env → M R := fun ρ => (ma ρ).bind fun x => (headM x).bind fun d => (M.of (isAny ct d ks)).bind fun b => M.pure (.v (.bl b))
theorem isAny_one {d : D} {k : Nat ⊕ String} {bb : Bool} (h : isAny ct d [k] = some bb) : isOne ct d k = some bb := by
  simp only [isAny] at h
  cases q : isOne ct d k with
  | none => rw [q] at h; cases h
  | some b1 =>
    rw [q] at h
    cases b1 <;> exact h
theorem ve_isi1 {p : Pos} {k : Nat ⊕ String} {v : L2.V} {u : Value} (M0 : Mok m X.K X.mg cl ct) (hg : Gl X "isinstance") (hm : X.mg "isinstance" = none) (hs : noStar a = true) (hs' : noStar c = true) (ha : VE X cl W a ma) (hc : PE X c (tC v)) (hk : ClsR m X.K X.mg cl k v u) :
    VE X cl W (.Call (.Name "isinstance" p) [a, c] [] pos) (isiM ct ma [k]) := by
  refine PE.imp (pe_callB call_isi hg hm (by decide +kernel) (pa_cons ha (pa_cons hc pa_nil (star_cons hs' _ _)) (star_cons hs _ _)) (by decide) (by decide) (star_cons hs _ _) (by rw [star_cons hs']; rfl)) fun σ H Q h => ?_
  obtain ⟨w, ρ, st, s, e, h⟩ := h
  refine (tG.bind (m := ma) s e h).mono fun x H1 ⟨w1, rx, st1, e1, s1, en1, r1, h1⟩ => ?_
  obtain ⟨d, st2, q2, h2⟩ := Wn.step h1 headM_ne
  obtain ⟨hd, rfl⟩ := headM_ok q2
  cases e3 : isAny ct d [k] with
  | none => rw [e3] at h2; exact False.elim h2
  | some bb =>
    rw [e3] at h2
    obtain ⟨t, ty, ht⟩ := head_ty' M0 s1 r1 hd
    exact ⟨x, v, t, u, bb, rfl, clsR_v hk, ty, kit_one M0 hk (isAny_one e3) ht, h2 (.bl bb) w1 H1 (Ext.refl _ _) s1 (Rep.bl _)⟩
/-- constants in a row -/
abbrev PCs (X : Cx) (es : List Expr) (vs : List L2.V) : Prop := PA X es (fun _ H Q => Q vs H)
theorem pcs_nil : PCs X [] [] := pa_nil
theorem pcs_cons {es : List Expr} {v : L2.V} {vs : List L2.V} (ha : PE X a (tC v)) (hr : PCs X es vs) (hs : noStar a = true) : PCs X (a :: es) (v :: vs) := pa_cons ha hr (star_cons hs _ _)
theorem paired_cls {K : PySem.W.Frag} {mg : Str → Option Value} : ∀ {ks : List (Nat ⊕ String)} {vs : List L2.V} {us : List Value}, (Paired (fun k (p : L2.V × Value) => ClsR m K mg cl k p.1 p.2) ks (vs.zip us)) → vs.length = us.length → Paired ClsV vs us
  | _, [], [], _, _ => .nil
  | _, [], _ :: _, _, h => by cases h
  | _, _ :: _, [], _, h => by cases h
  | [], v :: vs, u :: us, h, _ => by cases h
  | k :: ks, v :: vs, u :: us, .cons h t, hl => .cons (clsR_v h) (paired_cls t (by simpa using hl))
theorem ve_isiT {p p2 : Pos} {j : Nat} {es : List Expr} {ks : List (Nat ⊕ String)} {vs : List L2.V} {us : List Value} (M0 : Mok m X.K X.mg cl ct) (hg : Gl X "isinstance") (hm : X.mg "isinstance" = none) (hs : noStar a = true) (ha : VE X cl W a ma) (hc : PCs X es vs)
    (hk : Paired (fun k (p : L2.V × Value) => ClsR m X.K X.mg cl k p.1 p.2) ks (vs.zip us)) (hl : vs.length = us.length) (hz : vs.length ≤ sizeLine) :
    VE X cl W (.Call (.Name "isinstance" p) [a, .Tuple es j p2] [] pos) (isiM ct ma ks) := by
  refine PE.imp (pe_callB call_isiT hg hm (by decide +kernel) (pa_cons ha (pa_cons (pe_tup hc) pa_nil (star_cons rfl _ _)) (star_cons hs _ _)) (by decide) (by decide) (star_cons hs _ _) (by rw [star_cons rfl]; rfl)) fun σ H Q h => ?_
  obtain ⟨w, ρ, st, s, e, h⟩ := h
  refine (tG.bind (m := ma) s e h).mono fun x H1 ⟨w1, rx, st1, e1, s1, en1, r1, h1⟩ => ?_
  obtain ⟨d, st2, q2, h2⟩ := Wn.step h1 headM_ne
  obtain ⟨hd, rfl⟩ := headM_ok q2
  cases e3 : isAny ct d ks with
  | none => rw [e3] at h2; exact False.elim h2
  | some bb =>
    rw [e3] at h2
    refine ⟨hz, fun q hq => ?_⟩
    obtain ⟨s4, e4⟩ := s1.lay (o := .tup vs) hq
    obtain ⟨t, ty, ht⟩ := head_ty' M0 s4 (r1.ext e4) hd
    exact ⟨x, q, vs, t, us, bb, rfl, upd_same, paired_cls hk hl, ty, kit_any M0 ht hk hl e3, h2 (.bl bb) _ _ e4 s4 (Rep.bl _)⟩
/-! ### fields -/
theorem repRF_look {K : PySem.W.Frag} {w : Wd} : ∀ {vs : List (Str × L2.V)} {rs : List (Str × R)} {f : Str} {r : R}, RepRF K cl w vs rs → rs.lookup f = some r → ∃ v, vs.lookup f = some v ∧ RepR K cl w v r
  | _, _, _, _, .nil, e => by simp at e
  | _, _, f, r, .cons (a := p) (b := q) h t, e => by
    obtain ⟨p1, p2⟩ := p
    obtain ⟨q1, q2⟩ := q
    obtain ⟨h1, h2⟩ := h
    simp only at h1 h2
    subst h1
    rw [List.lookup_cons] at e ⊢
    cases hb : f == p1 with
    | true => rw [hb] at e; simp only [Option.some.injEq] at e; subst e; exact ⟨_, rfl, h2⟩
    | false => rw [hb] at e; exact repRF_look t e
theorem attrR_ne {r : R} {f : Str} {st : Store} : ∀ c fs s, attrR r f st ≠ .exc c fs s := fun c fs s e => by
  unfold attrR at e
  split at e
  · split at e <;> cases e
  · split at e
    · split at e <;> cases e
    · split at e <;> cases e
    · cases e
  · cases e
theorem attrR_ok {K : PySem.W.Frag} {w : Wd} {H : Hp} {st st' : Store} {v : L2.V} {r o : R} {f : Str} (s : SR K cl w H st) (hr : RepR K cl w v r) (e : attrR r f st = .ok o st') :
    st' = st ∧ ∃ a C dx fvs i u, v = .ref a ∧ H a = some (.ins C dx fvs) ∧ cl i = some C ∧ i < 100 ∧ fvs.lookup f = some u ∧ RepR K cl w u o := by
  have dat : ∀ {c : Nat} {fs : List (Str × D)} {d : D} {v : L2.V}, Rep K cl w.G v (.obj c fs) → fs.lookup f = some d → ∃ a C dx fvs i u, v = .ref a ∧ H a = some (.ins C dx fvs) ∧ cl i = some C ∧ i < 100 ∧ fvs.lookup f = some u ∧ RepR K cl w u (.v d) := by
    intro c fs d v h hl
    cases h with
    | obj hc h' r =>
      obtain ⟨u, h1, h2⟩ := r.look hl
      exact ⟨_, _, _, _, _, u, rfl, s.sub _ _ h', hc.1, hc.2, h1, h2⟩
  unfold attrR at e
  split at e
  · split at e
    · rename_i d hd
      cases e
      exact ⟨rfl, dat hr hd⟩
    · cases e
  · rename_i n
    obtain ⟨a, ha, rfl⟩ := hr
    split at e
    · rename_i c fs hc
      split at e
      · rename_i d hd
        cases e
        obtain ⟨_, C, dx, fvs, hcl, hv, rf⟩ := s.cell n _ a hc ha
        obtain ⟨u, h1, h2⟩ := repRF_look rf hd
        exact ⟨rfl, a, C, dx, fvs, c, u, rfl, hv, hcl.1, hcl.2, h1, h2⟩
      · cases e
    · rename_i c fs hc
      split at e
      · rename_i d hd
        cases e
        exact ⟨rfl, dat (s.cell n _ a hc ha) hd⟩
      · cases e
    · cases e
  · cases e
theorem ve_attr {f : Str} (M0 : Mok m X.K X.mg cl ct) (hf : f ∈ m.flds) (hb : attributeBase a f X.env (eval a X.env) = eval a X.env) (ha : VE X cl W a ma) : VE X cl W (.Attribute a f pos) (fun ρ => (ma ρ).bind fun x => attrR x f) := by
  refine PE.imp (pe_fld ha hb) fun σ H Q h => ?_
  obtain ⟨w, ρ, st, s, e, h⟩ := h
  refine (tG.bind (m := ma) s e h).mono fun x H1 ⟨w1, rx, st1, e1, s1, en1, r1, h1⟩ => ?_
  cases q : attrR rx f st1 with
  | bad => rw [q] at h1; exact False.elim h1
  | exc c fs z => exact absurd q (attrR_ne c fs z)
  | ok o st2 =>
    rw [q] at h1
    obtain ⟨rfl, p, C, dx, fvs, i, u, rfl, hp, hi, hl, hu, ru⟩ := attrR_ok s1 r1 q
    exact ⟨p, C, dx, fvs, u, rfl, hp, (M0.oc i C hi hl).cls, M0.na i C hi f hf, hu, h1 u w1 H1 (Ext.refl _ _) s1 ru⟩
end
end SV

set_option maxRecDepth 100000
set_option maxHeartbeats 2000000
/-! SvK: what a def promises, and its call -/
namespace SV
open PySem PySem.Spec PyProof.Rows L2
/-- a def that means F -/
def spF (K : PySem.W.Frag) (cl : Nat → Option Addr) (n : Nat) (F : List R → M R) : Sp := fun vs H Q E => vs.length = n ∧ ∃ w rs st, SR K cl w H st ∧ RepRs K cl w vs rs ∧
  match F rs st with
  | .ok r st' => ∀ v w' H', Ext w H w' H' → SR K cl w' H' st' → RepR K cl w' v r → Q v H'
  | .exc c fs st' => ∀ cls d w' H', Ext w H w' H' → SR K cl w' H' st' → RepX K cl w' cls d c fs → E cls d H'
  | .bad => False
section
variable {K : PySem.W.Frag} {cl : Nat → Option Addr} {W : WY}
theorem repRs_val : ∀ {vs : List L2.V} {rs : List R} {w w' : Wd}, RepRs K cl w vs rs → Same w.G w'.G → (rs.all fun r => (valOf r).isSome) = true → RepRs K cl w' vs rs
  | _, _, _, _, .nil, _, _ => .nil
  | _, _, w, w', .cons (b := r) h t, s, e => by
    simp only [List.all_cons, Bool.and_eq_true] at e
    refine .cons ?_ (repRs_val t s e.2)
    cases r with
    | v d => exact Rep.mono s (show Rep K cl w.G _ d from h)
    | ref n => cases e.1
    | ex c fs => cases e.1
/-- the caller's world behind a call that ran over a store of its own -/
theorem own_back {w w2 : Wd} {H H' : Hp} {st : Store} (s : SR K cl w H st) (e : Ext { G := w.G, io := [], ex := none } H w2 H') (sub : Same w2.G H') :
    Ext w H { w with G := w2.G } H' ∧ SR K cl { w with G := w2.G } H' st := by
  have keep : ∀ a o, H a = some o → H' a = some o := fun a o h => e.fr a o h (by simp)
  have gn : ∀ a o, w2.G a = some o → w.G a = none → H a = none := fun a o h n => by
    rcases e.gnew a o h n with z | z
    · exact z
    · exact absurd z (by simp)
  have ee : Ext w H { w with G := w2.G } H' := ⟨⟨[], by simp⟩, e.G, rfl, fun a o h _ => keep a o h, fun a h n => absurd h n, fun a o h n => .inl (gn a o h n)⟩
  refine ⟨ee, ⟨sub, s.len, s.nd, fun a ha => ?_, fun n c a q ha => ?_⟩⟩
  · obtain ⟨o, h⟩ := s.trk a ha
    exact ⟨o, keep a o h⟩
  · have k := s.cell n c a q ha
    have free : w.G a = none → (∃ o, H a = some o) → w2.G a = none := fun h1 ⟨o, h2⟩ => by
      cases z : w2.G a with
      | none => rfl
      | some u => rw [gn a u z h1] at h2; cases h2
    cases c with
    | lst xs =>
      obtain ⟨h1, vs, h2, h3⟩ := k
      exact ⟨free h1 ⟨_, h2⟩, vs, keep _ _ h2, h3.ext ee⟩
    | obj c fs =>
      obtain ⟨h1, C, dx, fvs, h2, h3, h4⟩ := k
      exact ⟨free h1 ⟨_, h3⟩, C, dx, fvs, h2, keep _ _ h3, L2.Paired.mapP h4 fun _ _ z => ⟨z.1, z.2.ext ee⟩⟩
    | dct kvs =>
      obtain ⟨h1, vs, h3, h4⟩ := k
      exact ⟨free h1 ⟨_, h3⟩, vs, keep _ _ h3, L2.Paired.mapP h4 fun _ _ z => ⟨z.1, z.2.ext ee⟩⟩
    | fz d => exact Rep.mono e.G k
theorem callF_sp {w : Wd} {H : Hp} {st : Store} {σ : L2.St} {Q : VK} {F : List R → M R} {vs : List L2.V} {args : List R} {n : Nat} (hn : vs.length = n) (s : SR K cl w H st) (hr : RepRs K cl w vs args)
    (h : Wn (RepR K cl) K cl W σ Q w H (callF F args st)) : spF K cl n F vs H Q (WE W.f σ) := by
  refine ⟨hn, ?_⟩
  unfold callF at h
  split at h
  · rename_i hv
    have s0 : SR K cl { G := w.G, io := [], ex := none } H [] := ⟨s.sub, rfl, by simp, fun a z => absurd z (by simp), fun n c a q => by simp at q⟩
    refine ⟨{ G := w.G, io := [], ex := none }, args, [], s0, repRs_val hr (Same.refl _) hv, ?_⟩
    cases q : F args [] with
    | bad => rw [q] at h; exact h
    | exc c fs s1 =>
      rw [q] at h
      intro cls d w' H' e' s' rx
      obtain ⟨e2, s2⟩ := own_back s e' s'.sub
      exact h cls d _ H' e2 s2 rx
    | ok r s1 =>
      rw [q] at h
      intro v w' H' e' s' rv
      simp only at h
      cases q2 : frz r s1 with
      | bad => rw [q2] at h; exact False.elim h
      | exc c fs z => exact absurd q2 (frz_ne c fs z)
      | ok d s2 =>
        rw [q2] at h
        obtain ⟨w2, e2, s3, r3⟩ := frz_ok s' rv q2
        obtain ⟨e4, s4⟩ := own_back s (e'.trans e2) s3.sub
        exact h v _ H' e4 s4 r3
  · refine ⟨w, args, st, s, hr, ?_⟩
    cases q : F args st with
    | bad => rw [q] at h; exact h
    | exc c fs s1 => rw [q] at h; exact h
    | ok r s1 => rw [q] at h; exact h
/-- a way to run a def at given values -/
def CfOk (K : PySem.W.Frag) (cl : Nat → Option Addr) (CF : (List R → M R) → List R → M R) : Prop := ∀ {W : WY} {w : Wd} {H : Hp} {st : Store} {σ : L2.St} {Q : VK} {F : List R → M R} {vs : List L2.V} {args : List R} {n : Nat}, vs.length = n → SR K cl w H st → RepRs K cl w vs args →
  Wn (RepR K cl) K cl W σ Q w H (CF F args st) → spF K cl n F vs H Q (WE W.f σ)
theorem cf_call : CfOk K cl callF := fun hn s hr h => callF_sp hn s hr h
theorem shR_rep {w w2 : Wd} {G' : Hp} {io : List Addr} {v : L2.V} {r : R} (hl : w.io.length = io.length) (h : RepR K cl w2 v r) : RepR K cl { w with G := w2.G, io := w.io ++ w2.io } v (shR io.length r) := by
  cases r with
  | v d => exact h
  | ref n =>
    obtain ⟨a, h1, h2⟩ := h
    refine ⟨a, ?_, h2⟩
    show (w.io ++ w2.io)[io.length + n]? = some a
    rw [List.getElem?_append_right (by omega), hl, Nat.add_sub_cancel_left]
    exact h1
  | ex c fs => exact h
theorem shRs_rep {w w2 : Wd} {k : Nat} (hl : w.io.length = k) : ∀ {vs : List L2.V} {rs : List R}, RepRs K cl w2 vs rs → RepRs K cl { w with G := w2.G, io := w.io ++ w2.io } vs (rs.map (shR k))
  | _, _, .nil => .nil
  | _, _, .cons h t => by
    subst hl
    exact .cons (shR_rep (G' := w.G) (io := w.io) rfl h) (shRs_rep rfl t)
theorem shRF_rep {κ : Type} {w w2 : Wd} {k : Nat} (hl : w.io.length = k) : ∀ {vs : List (κ × L2.V)} {rs : List (κ × R)}, RepRF K cl w2 vs rs → RepRF K cl { w with G := w2.G, io := w.io ++ w2.io } vs (rs.map fun p => (p.1, shR k p.2))
  | _, _, .nil => .nil
  | _, _, .cons h t => by
    subst hl
    exact .cons ⟨h.1, shR_rep (G' := w.G) (io := w.io) rfl h.2⟩ (shRF_rep rfl t)
/-- the caller's world with what the call made behind it -/
theorem own_join {w w2 : Wd} {H H' : Hp} {st s1 : Store} (s : SR K cl w H st) (e : Ext { G := w.G, io := [], ex := none } H w2 H') (s2 : SR K cl w2 H' s1) :
    Ext w H { w with G := w2.G, io := w.io ++ w2.io } H' ∧ SR K cl { w with G := w2.G, io := w.io ++ w2.io } H' (st ++ s1.map (shC st.length)) := by
  have keep : ∀ a o, H a = some o → H' a = some o := fun a o h => e.fr a o h (by simp)
  have gn : ∀ a o, w2.G a = some o → w.G a = none → H a = none := fun a o h n => by
    rcases e.gnew a o h n with z | z
    · exact z
    · exact absurd z (by simp)
  have new : ∀ a ∈ w2.io, H a = none := fun a h => e.new a h (by simp)
  have ee : Ext w H { w with G := w2.G, io := w.io ++ w2.io } H' := ⟨⟨w2.io, rfl⟩, e.G, rfl, fun a o h _ => keep a o h, fun a h n => by
    rcases List.mem_append.mp h with z | z
    · exact absurd z n
    · exact new a z, fun a o h n => .inl (gn a o h n)⟩
  refine ⟨ee, ⟨s2.sub, by simp [s.len, s2.len], ?_, fun a ha => ?_, fun n c a q ha => ?_⟩⟩
  · show (w.io ++ w2.io).Nodup
    rw [List.nodup_append]
    exact ⟨s.nd, s2.nd, fun a ha b hb z => by
      subst z
      obtain ⟨o, h⟩ := s.trk a ha
      rw [new a hb] at h; cases h⟩
  · rcases List.mem_append.mp ha with z | z
    · obtain ⟨o, h⟩ := s.trk a z
      exact ⟨o, keep a o h⟩
    · exact s2.trk a z
  · have ha' : (w.io ++ w2.io)[n]? = some a := ha
    by_cases hn : n < st.length
    · rw [List.getElem?_append_left hn] at q
      rw [List.getElem?_append_left (by rw [s.len]; exact hn)] at ha'
      have k := s.cell n c a q ha'
      have free : w.G a = none → (∃ o, H a = some o) → w2.G a = none := fun h1 ⟨o, h2⟩ => by
        cases z : w2.G a with
        | none => rfl
        | some u => rw [gn a u z h1] at h2; cases h2
      cases c with
      | lst xs =>
        obtain ⟨h1, vs, h2, h3⟩ := k
        exact ⟨free h1 ⟨_, h2⟩, vs, keep _ _ h2, h3.ext ee⟩
      | obj c fs =>
        obtain ⟨h1, C, dx, fvs, h2, h3, h4⟩ := k
        exact ⟨free h1 ⟨_, h3⟩, C, dx, fvs, h2, keep _ _ h3, L2.Paired.mapP h4 fun _ _ z => ⟨z.1, z.2.ext ee⟩⟩
      | dct kvs =>
        obtain ⟨h1, vs, h3, h4⟩ := k
        exact ⟨free h1 ⟨_, h3⟩, vs, keep _ _ h3, L2.Paired.mapP h4 fun _ _ z => ⟨z.1, z.2.ext ee⟩⟩
      | fz d => exact Rep.mono e.G k
    · rw [List.getElem?_append_right (by omega), List.getElem?_map] at q
      rw [List.getElem?_append_right (by rw [s.len]; omega), s.len] at ha'
      cases q1 : s1[n - st.length]? with
      | none => rw [q1] at q; cases q
      | some c1 =>
        rw [q1] at q
        cases q
        have k := s2.cell _ c1 a q1 ha'
        cases c1 with
        | lst xs =>
          obtain ⟨h1, vs, h2, h3⟩ := k
          exact ⟨h1, vs, h2, shRs_rep s.len h3⟩
        | obj c fs =>
          obtain ⟨h1, C, dx, fvs, h2, h3, h4⟩ := k
          exact ⟨h1, C, dx, fvs, h2, h3, shRF_rep s.len h4⟩
        | dct kvs =>
          obtain ⟨h1, vs, h3, h4⟩ := k
          exact ⟨h1, vs, h3, shRF_rep s.len h4⟩
        | fz d => exact k
theorem cf_thaw : CfOk K cl thawF := by
  intro W w H st σ Q F vs args n hn s hr h
  refine ⟨hn, ?_⟩
  unfold thawF at h
  split at h
  · rename_i hv
    have s0 : SR K cl { G := w.G, io := [], ex := none } H [] := ⟨s.sub, rfl, by simp, fun a z => absurd z (by simp), fun n c a q => by simp at q⟩
    refine ⟨{ G := w.G, io := [], ex := none }, args, [], s0, repRs_val hr (Same.refl _) hv, ?_⟩
    cases q : F args [] with
    | bad => rw [q] at h; exact h
    | exc c fs s1 =>
      rw [q] at h
      intro cls d w' H' e' s' rx
      obtain ⟨e2, s2⟩ := own_back s e' s'.sub
      exact h cls d _ H' e2 s2 rx
    | ok r s1 =>
      rw [q] at h
      intro v w' H' e' s' rv
      obtain ⟨e4, s4⟩ := own_join s e' s'
      refine h v _ H' e4 s4 ?_
      have hl := s.len
      rw [← hl]
      exact shR_rep (G' := w.G) rfl rv
  · refine ⟨w, args, st, s, hr, ?_⟩
    cases q : F args st with
    | bad => rw [q] at h; exact h
    | exc c fs s1 => rw [q] at h; exact h
    | ok r s1 => rw [q] at h; exact h
/-- where a parameter comes from: a value of the call, or a default -/
def PmR (K : PySem.W.Frag) (cl : Nat → Option Addr) : (Nat ⊕ D) → (Nat ⊕ (L2.V × Value)) → Prop
  | .inl i, .inl j => i = j
  | .inr d, .inr p => RelV p.1 p.2 ∧ Rep K cl (fun _ => none) p.1 d
  | _, _ => False
def asmU (us : List Value) : List (Nat ⊕ (L2.V × Value)) → Option (List Value)
  | [] => some []
  | .inl k :: pm => match us[k]?, asmU us pm with
    | some r, some l => some (r :: l)
    | _, _ => none
  | .inr p :: pm => (asmU us pm).map (p.2 :: ·)
theorem asm_ok {w : Wd} {vs : List L2.V} {us : List Value} {rs : List R} (r : Vals vs us) (rr : RepRs K cl w vs rs) : ∀ {pm : List (Nat ⊕ D)} {qm : List (Nat ⊕ (L2.V × Value))} {args : List R}, Paired (PmR K cl) pm qm → assem rs pm = some args →
    ∃ zs zv, asmU us qm = some zs ∧ Vals zv zs ∧ RepRs K cl w zv args
  | [], _, args, .nil, e => by cases e; exact ⟨[], [], rfl, .nil, .nil⟩
  | .inl i :: pm, _, args, .cons (b := q) h t, e => by
    cases q with
    | inr p => exact False.elim h
    | inl j =>
      obtain rfl : i = j := h
      simp only [assem] at e
      cases q1 : rs[i]? with
      | none => rw [q1] at e; cases e
      | some x =>
        cases q2 : assem rs pm with
        | none => rw [q1, q2] at e; cases e
        | some l =>
          rw [q1, q2] at e
          cases e
          obtain ⟨v, hv, rv⟩ := rr.get q1
          obtain ⟨u, hu, ru⟩ := r.get hv
          obtain ⟨zs, zv, h1, h2, h3⟩ := asm_ok r rr t q2
          exact ⟨u :: zs, v :: zv, by simp only [asmU, hu, h1], .cons ru h2, .cons rv h3⟩
  | .inr d :: pm, _, args, .cons (b := q) h t, e => by
    cases q with
    | inl j => exact False.elim h
    | inr p =>
      obtain ⟨h0, h1⟩ := (h : RelV p.1 p.2 ∧ Rep K cl (fun _ => none) p.1 d)
      simp only [assem] at e
      cases q2 : assem rs pm with
      | none => rw [q2] at e; cases e
      | some l =>
        rw [q2] at e
        cases e
        obtain ⟨zs, zv, h4, h2, h3⟩ := asm_ok r rr t q2
        exact ⟨p.2 :: zs, p.1 :: zv, by simp only [asmU, h4]; rfl, .cons h0 h2, .cons (show Rep K cl w.G p.1 d from Rep.mono (fun _ _ z => by cases z) h1) h3⟩
end
/-- a pattern of calls binds so -/
def PatOk (K : PySem.W.Frag) (cl : Nat → Option Addr) (fd : FuncData) (ps : List Str) (n : Nat) (ks : List Str) (pm : List (Nat ⊕ D)) : Prop :=
  ∃ qm, Paired (PmR K cl) pm qm ∧ ∀ (s : Shared) (us ws zs : List Value), K.In s.heap → us.length = n → ws.length = ks.length → asmU (us ++ ws) qm = some zs → BindsTo s fd ⟨us, ks.zip ws⟩ (ps.zip zs)
section
variable {X : Cx} {cl : Nat → Option Addr} {W : WY} {pos : Pos}
theorem run_fnP {k : Nat} {f : Addr} {fd : FuncData} {ps : List Str} {sp : Sp} {pins : List (Addr × Obj)} {σ : L2.St} {H : Hp} {s : Shared} {Q : VK} {us zs : List Value} {kw : List (Str × Value)} {zv : List L2.V} (F : FnOk X.prog X.w X.K X.mg X.base (L2.CX X.prog X.w) k f fd ps sp) (hr : Room k X.A) (tk : Takes X W.f)
    (I : Inv X pins σ H s) (hb : BindsTo s fd ⟨us, kw⟩ (ps.zip zs)) (r : Vals zv zs) (h : sp zv H Q (WE W.f σ)) : wpAny (model X.prog X.w) X.A (call (.ref f) us kw) (EP X pins σ Q) X.xe s := by
  refine wpAny_call (codeAny_mono (F.run X.A X.stack s H ⟨us, kw⟩ zs zv Q (WE W.f σ) hr I.env0 hb r h) fun r s' hq => ?_)
  cases r with
  | error e => exact passAt tk σ pins H s e s' I hq
  | ok fl =>
    cases fl with
    | ret u => exact I.after hq
    | next => exact False.elim hq
    | brk => exact False.elim hq
    | cont => exact False.elim hq
abbrev VK' (X : Cx) (cl : Nat → Option Addr) (W : WY) (e : List Keyword) (m : Env → M (List R)) : Prop := PK X e (tA X.K cl W m)
theorem PK.imp {e : List Keyword} {t t' : TA} (h : PK X e t) (hi : ∀ σ H Q, t' σ H Q → t σ H Q) : PK X e t' := ⟨fun pos pins s σ H Q I q => h.run pos pins s σ H Q I (hi σ H Q q)⟩
theorem vk_nil : VK' X cl W [] (fun _ => M.pure []) := PK.imp pk_nil fun σ H Q h => by
  obtain ⟨w, ρ, st, s, e, h⟩ := h
  exact h [] w H (Ext.refl _ _) s .nil
theorem vk_cons {e : Expr} {nm : Option Str} {kpos : Pos} {kws : List Keyword} {ma : Env → M R} {ms : Env → M (List R)} (ha : VE X cl W e ma) (hr : VK' X cl W kws ms) : VK' X cl W (⟨nm, e, kpos⟩ :: kws) (fun ρ => (ma ρ).bind fun r => (ms ρ).bind fun rs => M.pure (r :: rs)) := by
  refine PK.imp (pk_cons ha hr) fun σ H Q h => ?_
  obtain ⟨w, ρ, st, s, e, h⟩ := h
  refine (tG.bind (m := ma) s e h).mono fun x H1 ⟨w1, rx, st1, e1, s1, en1, r1, h1⟩ => ?_
  refine (tG.bind (m := ms) s1 en1 h1).mono fun ys H2 ⟨w2, ry, st2, e2, s2, en2, r2, h2⟩ => ?_
  exact h2 (x :: ys) w2 H2 (Ext.refl _ _) s2 (.cons (r1.ext e2) r2)
/-- the arguments of a call, then its keywords -/
abbrev argM (ms mk : Env → M (List R)) : Env → M (List R) := fun ρ => (ms ρ).bind fun rs => (mk ρ).bind fun ks => M.pure (rs ++ ks)
abbrev callM (CF : (List R → M R) → List R → M R) (ms mk : Env → M (List R)) (pm : List (Nat ⊕ D)) (F : List R → M R) : Env → M R := fun ρ => (argM ms mk ρ).bind fun rs => (M.of (assem rs pm)).bind fun args => CF F args
theorem kw_all {env : PySem.Env} : ∀ {kws : List Keyword} {ks : List Str}, kws.map (·.arg) = ks.map some → (backToKw pos (keywordEach kws env)).all (·.1.isSome) = true ∧ (backToKw pos (keywordEach kws env)).filterMap (·.1) = ks ∧ (backToKw pos (keywordEach kws env)).any (·.1.isNone) = false := by
  intro kws
  induction kws with
  | nil => intro ks h; cases ks with
    | nil => exact ⟨rfl, rfl, rfl⟩
    | cons => cases h
  | cons kw kws ih =>
    intro ks h
    obtain ⟨nm, v, p⟩ := kw
    cases ks with
    | nil => cases h
    | cons k ks =>
      simp only [List.map_cons, List.cons.injEq] at h
      obtain ⟨h1, h2⟩ := h
      obtain ⟨i1, i2, i3⟩ := ih h2
      subst h1
      refine ⟨?_, ?_, ?_⟩
      · show (true && (backToKw pos (keywordEach kws env)).all (·.1.isSome)) = true
        rw [i1]; rfl
      · show k :: (backToKw pos (keywordEach kws env)).filterMap (·.1) = k :: ks
        rw [i2]
      · show (false || (backToKw pos (keywordEach kws env)).any (·.1.isNone)) = false
        rw [i3]; rfl
theorem vals_append_len {vs zs : List L2.V} {us ws : List Value} (r : Vals vs us) (rz : Vals zs ws) : Vals (vs ++ zs) (us ++ ws) := r.append rz
/-- f(e, .., k = v, ..), f an own def -/
theorem ve_call {CF : (List R → M R) → List R → M R} (hcf : CfOk X.K cl CF) {k : Nat} {f : Addr} {fd : FuncData} {ps ks : List Str} {n : Nat} {pm : List (Nat ⊕ D)} {Fs : List R → M R} {x : Str} {p : Pos} {es : List Expr} {kws : List Keyword} {ms mk : Env → M (List R)}
    (F : FnOk X.prog X.w X.K X.mg X.base (L2.CX X.prog X.w) k f fd ps (spF X.K cl ps.length Fs)) (hr : Room k X.A) (tk : Takes X W.f) (hg : Gl X x) (hm : X.mg x = some (.ref f)) (hk : PySem.W.keepIn X.K (.ref f) = true) (hdb : (x == ("__debug__" : Str)) = false)
    (hp : PatOk X.K cl fd ps n ks pm) (hpl : pm.length = ps.length) (hn : es.length = n) (hks : kws.map (·.arg) = ks.map some) (hs : es.all noStar = true) (ha : VA X cl W es ms) (hkw : VK' X cl W kws mk)
    (hl : ∀ ρ st rs st', ms ρ st = .ok rs st' → rs.length = es.length) (hl2 : ∀ ρ st rs st', mk ρ st = .ok rs st' → rs.length = kws.length)
    (h0 : es = [] → ms = fun _ => M.pure []) (k0 : kws = [] → mk = fun _ => M.pure []) :
    VE X cl W (.Call (.Name x p) es kws pos) (callM CF ms mk pm Fs) := by
  obtain ⟨k1, k2, k3⟩ := kw_all (pos := pos) (env := X.env) hks
  obtain ⟨qm, hq, hb⟩ := hp
  -- the end, from the values
  have fin : ∀ {pins : List (Addr × Obj)} {σ : L2.St} {Q : VK} {s2 : Shared} {H2 : Hp} {w2 : Wd} {st2 : Store} {vs zs : List L2.V} {us ws : List Value} {rs zr : List R}, Inv X pins σ H2 s2 → Vals vs us → Vals zs ws → SR X.K cl w2 H2 st2 → RepRs X.K cl w2 vs rs → RepRs X.K cl w2 zs zr → rs.length = es.length → zr.length = kws.length →
      Wn (RepR X.K cl) X.K cl W σ Q w2 H2 (((M.of (assem (rs ++ zr) pm)).bind fun args => CF Fs args) st2) → wpAny (model X.prog X.w) X.A (call (.ref f) us (ks.zip ws)) (EP X pins σ Q) X.xe s2 := by
    intro pins σ Q s2 H2 w2 st2 vs zs us ws rs zr I r rz S rr rzr l1 l2 h
    cases e : assem (rs ++ zr) pm with
    | none => rw [e] at h; exact False.elim h
    | some args =>
      rw [e] at h
      obtain ⟨zs', zv, h1, h2, h3⟩ := asm_ok (r.append rz) (RepRs.app rr rzr) hq e
      have hkl : kws.length = ks.length := by have := congrArg List.length hks; simpa using this
      refine run_fnP F hr tk I (hb s2 us ws zs' I.kIn (by rw [← r.length, rr.length, l1, hn]) (by rw [← rz.length, rzr.length, l2, hkl]) h1) h2 (hcf ?_ S h3 h)
      rw [h3.length, ← hpl]
      have hlen : ∀ {pm : List (Nat ⊕ D)} {rs args : List R}, assem rs pm = some args → args.length = pm.length := by
        intro pm
        induction pm with
        | nil => intro rs args e; cases e; rfl
        | cons a pm ih =>
          intro rs args e
          cases a with
          | inl i =>
            simp only [assem] at e
            split at e
            · cases e; simp [ih (by assumption)]
            · cases e
          | inr d =>
            simp only [assem] at e
            cases q : assem rs pm with
            | none => rw [q] at e; cases e
            | some l => rw [q] at e; cases e; simp [ih q]
      exact hlen e
  refine ⟨fun pins s σ H Q I h => ?_⟩
  obtain ⟨w, ρ, st, S, e, h⟩ := h
  simp only [callM, argM, M.bind_assoc_at, M.bind_assoc] at h
  refine wpAny_Call_Name_kw (ld_glob I hg hm ?_ hdb)
  -- the arguments' length, whichever way
  have A1 : tA X.K cl W ms σ H (fun vs H1 => ∃ w1 rs st1, Ext w H w1 H1 ∧ SR X.K cl w1 H1 st1 ∧ EnvR X.K cl W w1 σ ρ ∧ RepRs X.K cl w1 vs rs ∧ rs.length = es.length ∧ Wn (RepR X.K cl) X.K cl W σ Q w1 H1 (((mk ρ).bind fun zr => (M.of (assem (rs ++ zr) pm)).bind fun args => CF Fs args) st1)) := by
    refine ⟨w, ρ, st, S, e, ?_⟩
    have h' : Wn (RepR X.K cl) X.K cl W σ Q w H ((ms ρ st).bind fun rs => (mk ρ).bind fun zr => (M.of (assem (rs ++ zr) pm)).bind fun args => CF Fs args) := h
    cases q : ms ρ st with
    | bad => rw [q] at h'; exact h'
    | exc c fs z => rw [q] at h'; exact h'
    | ok rs st1 =>
      rw [q] at h'
      exact fun vs w1 H1 e1 s1 r1 => ⟨w1, rs, st1, e1, s1, e.ext e1, r1, hl ρ st rs st1 q, Wn.ext e1 h'⟩
  have A2 : ∀ {w1 : Wd} {H1 : Hp} {st1 : Store} {rs : List R}, SR X.K cl w1 H1 st1 → EnvR X.K cl W w1 σ ρ → Wn (RepR X.K cl) X.K cl W σ Q w1 H1 (((mk ρ).bind fun zr => (M.of (assem (rs ++ zr) pm)).bind fun args => CF Fs args) st1) →
      tA X.K cl W mk σ H1 (fun zs H2 => ∃ w2 zr st2, Ext w1 H1 w2 H2 ∧ SR X.K cl w2 H2 st2 ∧ RepRs X.K cl w2 zs zr ∧ zr.length = kws.length ∧ Wn (RepR X.K cl) X.K cl W σ Q w2 H2 (((M.of (assem (rs ++ zr) pm)).bind fun args => CF Fs args) st2)) := by
    intro w1 H1 st1 rs s1 en1 h1
    refine ⟨w1, ρ, st1, s1, en1, ?_⟩
    have h' : Wn (RepR X.K cl) X.K cl W σ Q w1 H1 ((mk ρ st1).bind fun zr => (M.of (assem (rs ++ zr) pm)).bind fun args => CF Fs args) := h1
    cases q : mk ρ st1 with
    | bad => rw [q] at h'; exact h'
    | exc c fs z => rw [q] at h'; exact h'
    | ok zr st2 =>
      rw [q] at h'
      exact fun zs w2 H2 e2 s2 r2 => ⟨w2, zr, st2, e2, s2, r2, hl2 ρ st1 zr st2 q, Wn.ext e2 h'⟩
  cases es with
  | nil =>
    have h0' := h0 rfl
    subst h0'
    cases kws with
    | nil =>
      have k0' := k0 rfl
      subst k0'
      cases ks with
      | cons _ _ => cases hks
      | nil => exact PySem.W.callWith_K0 I.kIn hk (fin (us := []) (ws := []) (vs := []) (zs := []) (rs := []) (zr := []) I .nil .nil S .nil .nil rfl rfl h)
    | cons kw kws =>
      refine PySem.W.callWith_KW0 (h₀ := X.base) I.ok.mod.kin hk k1 ?_ (by rw [k3]; rfl)
      refine thn (hkw.run pos pins s σ H _ I (A2 (rs := []) S e h)) fun ws s2 ⟨zs, H2, I2, rz, w2, zr, st2, e2, s2', r2, l2, h2⟩ => ⟨I2.kIn, ?_⟩
      rw [k2]
      exact fin (us := []) (vs := []) (rs := []) I2 .nil rz s2' .nil r2 rfl l2 h2
  | cons e0 es =>
    have hs' := hs
    simp only [List.all_cons, Bool.and_eq_true] at hs'
    have A3 := ha.run pos pins s σ H _ I A1
    cases kws with
    | nil =>
      have k0' := k0 rfl
      subst k0'
      cases ks with
      | cons _ _ => cases hks
      | nil =>
        refine PySem.W.callWith_K (h₀ := X.base) I.ok.mod.kin hk (thn A3 fun us s1 ⟨vs, H1, I1, r, w1, rs, st1, e1, s1', en1, r1, l1, h1⟩ => ⟨I1.kIn, ?_⟩) (star_cons hs'.1 _ _) (star_any hs'.2)
        exact fin (ws := []) (zs := []) (zr := []) I1 r .nil s1' r1 .nil l1 rfl h1
    | cons kw kws =>
      refine PySem.W.callWith_KW (h₀ := X.base) I.ok.mod.kin hk k1 (thn A3 fun us s1 ⟨vs, H1, I1, r, w1, rs, st1, e1, s1', en1, r1, l1, h1⟩ => ?_) (by rw [star_any hs, k3]; rfl) (star_cons hs'.1 _ _)
      refine thn (hkw.run pos pins s1 σ H1 _ I1 (A2 s1' en1 h1)) fun ws s2 ⟨zs, H2, I2, rz, w2, zr, st2, e2, s2', r2, l2, h2⟩ => ⟨I2.kIn, ?_⟩
      rw [k2]
      exact fin I2 r rz s2' (RepRs.ext e2 r1) r2 l1 l2 h2
end
end SV

set_option maxRecDepth 100000
set_option maxHeartbeats 2000000
/-! SvL: what is walked -/
namespace SV
open PySem PySem.Spec PyProof.Rows
open L2 hiding It
/-- an iterator that yields just these values, whatever comes between -/
def IterOk (K : PySem.W.Frag) (cl : Nat → Option Addr) (w : Wd) (J : L2.It) (xs : List R) : Prop := ∀ w2 H2 st2, Same w.G w2.G → SR K cl w2 H2 st2 →
  (∀ i x, xs[i]? = some x → J.go i H2 ∧ ∀ v H3, J.yld i H2 v H3 → ∃ w3, Ext w2 H2 w3 H3 ∧ SR K cl w3 H3 st2 ∧ RepR K cl w3 v x) ∧ J.stop xs.length H2
abbrev tI (K : PySem.W.Frag) (cl : Nat → Option Addr) (W : WY) (m : Env → M (List R)) : TI := tG (fun w J xs => IterOk K cl w J xs) K cl W m
abbrev VI (X : Cx) (cl : Nat → Option Addr) (W : WY) (tg e : Expr) (m : Env → M (List R)) : Prop := PI X tg e (tI X.K cl W m)
theorem PI.imp {X : Cx} {tg e : Expr} {t t' : TI} (h : PI X tg e t) (hi : ∀ σ H Q, t' σ H Q → t σ H Q) : PI X tg e t' := ⟨fun pins s σ H Q I q => h.run pins s σ H Q I (hi σ H Q q)⟩
/-- a list, a tuple or a text -/
def iSeq (K : PySem.W.Frag) (tl : TE) : TI := fun σ H R => tl σ H fun x H1 => (∃ a, x = .ref a ∧ (∃ xs, SqL K H1 a xs) ∧ R (Itl K a) H1) ∨ (∃ a, x = .ref a ∧ (∃ xs, SqT K H1 a xs) ∧ R (Itt K a) H1) ∨ ∃ z, x = .str z ∧ R (Its z) H1
theorem pi_seq {X : Cx} {tg l : Expr} {tl : TE} (hl : PE X l tl) : PI X tg l (iSeq X.K tl) := by
  refine ⟨fun pins s σ H R I h => ?_⟩
  refine thn (hl.run pins s σ H _ I h) fun v s1 ⟨x, H1, I1, r1, q1⟩ => ?_
  rcases q1 with ⟨a, rfl, ⟨xs, hq⟩, q⟩ | ⟨a, rfl, ⟨xs, hq⟩, q⟩ | ⟨z, rfl, q⟩
  · cases r1
    obtain ⟨its, rv, p, hz⟩ := I1.list hq
    refine wpAny_pyIter_list p.isList ?_
    refine ⟨s1.heap.objs.size, [s1.heap.objs.size], _, _, H1, rfl, I1.kept (t' := s1.toks) fun b o e => Heap.get?_push_of_some _ e, turn_list a _, ⟨_, Heap.get?_push_size _ rfl, rfl, rfl⟩, fun b hb => ?_, q⟩
    have e : b = s1.heap.objs.size := by simpa using hb
    subst e
    exact I1.fpOk (Nat.le_refl _) (I1.hok.fresh (Nat.le_refl _))
  · cases r1
    obtain ⟨its, rv, p, hz⟩ := I1.tuple hq
    refine wpAny_pyIter_tuple (show s1.heap.IsTuple a its.toArray from p) ?_
    refine ⟨s1.heap.objs.size, [s1.heap.objs.size], _, _, H1, rfl, I1.kept (t' := s1.toks) fun b o e => Heap.get?_push_of_some _ e, turn_tuple a _, ⟨_, Heap.get?_push_size _ rfl, rfl, rfl⟩, fun b hb => ?_, q⟩
    have e : b = s1.heap.objs.size := by simpa using hb
    subst e
    exact I1.fpOk (Nat.le_refl _) (I1.hok.fresh (Nat.le_refl _))
  · obtain ⟨t, rfl⟩ := r1
    cases ha : z.cps.all (· < 128)
    · exact wpAny_pyIter_wide ha (pi_one (tk := s1.toks) I1 _ (turn_str _ z t "str_iterator" (.inr rfl)) ⟨_, Heap.get?_push_size _ rfl, rfl, rfl⟩ q)
    · exact wpAny_pyIter_ascii ha (pi_one (tk := s1.toks) I1 _ (turn_str _ z t "str_ascii_iterator" (.inl rfl)) ⟨_, Heap.get?_push_size _ rfl, rfl, rfl⟩ q)
section
variable {X : Cx} {cl : Nat → Option Addr} {W : WY} {a b c tg : Expr} {ma mb mc : Env → M R} {pos : Pos}
theorem iter_list {K : PySem.W.Frag} {w : Wd} {p : Addr} {vs : List L2.V} {ds : List D} (h : SqL K w.G p vs) (r : Reps K cl w.G vs ds) : IterOk K cl w (Itl K p) (ds.map R.v) := by
  intro w2 H2 st2 sg s2
  have hq : SqL K H2 p vs := s2.sub.seq (sg.seq h)
  refine ⟨fun i x hx => ?_, ⟨vs, hq, by simp [r.length]⟩⟩
  rw [List.getElem?_map] at hx
  cases q : ds[i]? with
  | none => rw [q] at hx; cases hx
  | some d =>
    rw [q] at hx
    cases hx
    obtain ⟨v, hv, rv⟩ := r.get q
    refine ⟨⟨vs, v, hq, hv⟩, fun u H3 y => ?_⟩
    obtain ⟨rfl, y⟩ := y
    have := y vs hq
    rw [hv] at this; cases this
    exact ⟨w2, Ext.refl _ _, s2, Rep.mono sg rv⟩
theorem iter_tup {K : PySem.W.Frag} {w : Wd} {p : Addr} {vs : List L2.V} {ds : List D} (h : SqT K w.G p vs) (r : Reps K cl w.G vs ds) : IterOk K cl w (Itt K p) (ds.map R.v) := by
  intro w2 H2 st2 sg s2
  have hq : SqT K H2 p vs := seqT_same s2.sub (seqT_same sg h)
  refine ⟨fun i x hx => ?_, ⟨vs, hq, by simp [r.length]⟩⟩
  rw [List.getElem?_map] at hx
  cases q : ds[i]? with
  | none => rw [q] at hx; cases hx
  | some d =>
    rw [q] at hx
    cases hx
    obtain ⟨v, hv, rv⟩ := r.get q
    refine ⟨⟨vs, v, hq, hv⟩, fun u H3 y => ?_⟩
    obtain ⟨rfl, y⟩ := y
    have := y vs hq
    rw [hv] at this; cases this
    exact ⟨w2, Ext.refl _ _, s2, Rep.mono sg rv⟩
theorem iter_str {K : PySem.W.Frag} {w : Wd} {z : Str} : IterOk K cl w (Its z) (z.cps.toList.map fun c => R.v (.str ⟨#[c]⟩)) := by
  intro w2 H2 st2 sg s2
  refine ⟨fun i x hx => ?_, by show z.cps.size ≤ _; simp⟩
  rw [List.getElem?_map] at hx
  cases q : z.cps.toList[i]? with
  | none => rw [q] at hx; cases hx
  | some d =>
    rw [q] at hx
    cases hx
    have hi : i < z.cps.size := by
      have := (List.getElem?_eq_some_iff.mp q).1
      simpa using this
    refine ⟨hi, fun u H3 y => ?_⟩
    obtain ⟨rfl, c', hc, rfl⟩ := y
    have : z.cps[i]? = some d := by simpa using q
    rw [this] at hc; cases hc
    exact ⟨w2, Ext.refl _ _, s2, show Rep K cl w2.G _ _ from .str _⟩
theorem iter_rng {K : PySem.W.Frag} {w : Wd} {lo : Int} {n : Nat} : IterOk K cl w (Itr lo n) ((List.range n).map fun (k : Nat) => R.v (.int (lo + (k : Int)))) := by
  intro w2 H2 st2 sg s2
  refine ⟨fun i x hx => ?_, by show n ≤ _; simp⟩
  rw [List.getElem?_map] at hx
  cases q : (List.range n)[i]? with
  | none => rw [q] at hx; cases hx
  | some d =>
    rw [q] at hx
    cases hx
    obtain ⟨hl, e⟩ := List.getElem?_eq_some_iff.mp q
    have hi : i < n := by simpa using hl
    have e' : i = d := by simpa using e
    subst e'
    refine ⟨hi, fun u H3 y => ?_⟩
    obtain ⟨rfl, rfl⟩ := y
    exact ⟨w2, Ext.refl _ _, s2, show Rep K cl w2.G _ _ from .int _⟩
theorem itOver_read {σ : L2.St} {H : Hp} {R : L2.It → Hp → Prop} (h : tI X.K cl W (fun ρ => (ma ρ).bind itOver) σ H R) : iSeq X.K (tV X.K cl W ma) σ H R := by
  obtain ⟨w, ρ, st, s, e, h⟩ := h
  refine (tG.bind (m := ma) s e h).mono fun x H1 ⟨w1, rx, st1, e1, s1, en1, r1, h1⟩ => ?_
  have gen : Wn (fun w J xs => IterOk X.K cl w J xs) X.K cl W σ R w1 H1 (((frz rx).bind fun d => items (.v d)) st1) → (∃ a, x = .ref a ∧ (∃ xs, SqL X.K H1 a xs) ∧ R (Itl X.K a) H1) ∨ (∃ a, x = .ref a ∧ (∃ xs, SqT X.K H1 a xs) ∧ R (Itt X.K a) H1) ∨ ∃ z, x = .str z ∧ R (Its z) H1 := fun h1 => by
    obtain ⟨d, st2, q2, h2⟩ := Wn.step h1 frz_ne
    obtain ⟨w2, e2, s2, r2⟩ := frz_ok s1 r1 q2
    cases d with
    | lst ds =>
      cases r2 with
      | lst hq rr => exact .inl ⟨_, rfl, ⟨_, s2.sub.seq hq⟩, h2 _ w2 H1 e2 s2 (iter_list hq rr)⟩
    | tup ds =>
      cases r2 with
      | tup hq rr => exact .inr (.inl ⟨_, rfl, ⟨_, seqT_same s2.sub hq⟩, h2 _ w2 H1 e2 s2 (iter_tup hq rr)⟩)
    | _ => exact False.elim h2
  cases rx with
  | v d =>
    cases d with
    | str z =>
      have r3 : Rep X.K cl w1.G x (.str z) := r1
      cases r3
      exact .inr (.inr ⟨z, rfl, h1 _ w1 H1 (Ext.refl _ _) s1 iter_str⟩)
    | _ => exact gen h1
  | ref n => exact gen h1
  | ex c fs => exact gen h1
theorem vi_over (ha : VE X cl W a ma) : VI X cl W tg a (fun ρ => (ma ρ).bind itOver) := PI.imp (pi_seq ha) fun σ H R h => itOver_read h
theorem vi_rng {p : Pos} (hg : Gl X "range") (hm : X.mg "range" = none) (hs : noStar a = true) (ha : VE X cl W a ma) : VI X cl W tg (.Call (.Name "range" p) [a] [] pos) (fun ρ => (ma ρ).bind fun x => (intOf x).bind fun j => itRng 0 j) := by
  refine PI.imp (pi_range1 hg hm (pa_cons ha pa_nil (star_cons hs _ _)) (star_cons hs _ _)) fun σ H R h => ?_
  obtain ⟨w, ρ, st, s, e, h⟩ := h
  refine (tG.bind (m := ma) s e h).mono fun x H1 ⟨w1, rx, st1, e1, s1, en1, r1, h1⟩ => ?_
  obtain ⟨j, rfl, h2⟩ := intOf_step s1 r1 h1
  unfold itRng at h2
  split at h2
  · rename_i hb
    have e0 : (j - 0).toNat = j.toNat := by simp
    exact ⟨j, rfl, hb.2.2.1, hb.2.2.2, by
      have := h2 (Itr 0 (j - 0).toNat) w1 H1 (Ext.refl _ _) s1 iter_rng
      rw [e0] at this; exact this⟩
  · exact False.elim h2
theorem vi_rng2 {p : Pos} (hg : Gl X "range") (hm : X.mg "range" = none) (hs : noStar a = true) (hs' : noStar b = true) (ha : VE X cl W a ma) (hb : VE X cl W b mb) :
    VI X cl W tg (.Call (.Name "range" p) [a, b] [] pos) (fun ρ => (ma ρ).bind fun x => (mb ρ).bind fun y => (intOf x).bind fun i => (intOf y).bind fun j => itRng i j) := by
  refine PI.imp (pi_range2 hg hm (pa_cons ha (pa_cons hb pa_nil (star_cons hs' _ _)) (star_cons hs _ _)) (by rw [star_cons hs, star_cons hs']; rfl) (by rw [star_cons hs']; rfl)) fun σ H R h => ?_
  obtain ⟨w, ρ, st, s, e, h⟩ := h
  refine (tG.bind (m := ma) s e h).mono fun x H1 ⟨w1, rx, st1, e1, s1, en1, r1, h1⟩ => ?_
  refine (tG.bind (m := mb) s1 en1 h1).mono fun y H2 ⟨w2, ry, st2, e2, s2, en2, r2, h2⟩ => ?_
  obtain ⟨i, rfl, h3⟩ := intOf_step s2 (r1.ext e2) h2
  obtain ⟨j, rfl, h4⟩ := intOf_step s2 r2 h3
  unfold itRng at h4
  split at h4
  · rename_i hb
    exact ⟨i, j, rfl, ⟨hb.1, hb.2.1, hb.2.2.1, hb.2.2.2⟩, h4 (Itr i (j - i).toNat) w2 H2 (Ext.refl _ _) s2 iter_rng⟩
  · exact False.elim h4
end
end SV

set_option maxRecDepth 100000
set_option maxHeartbeats 2000000
/-! SvM: statements -/
namespace SV
open PySem PySem.Spec PyProof.Rows
open L2 hiding It
/-- what is wanted behind a statement of ours -/
def WnS (K : PySem.W.Frag) (cl : Nat → Option Addr) (W : WY) (D : Ends) (w : Wd) (H : Hp) : OutS → Prop
  | .nx ρ st => ∀ σ w' H', Ext w H w' H' → SR K cl w' H' st → EnvR K cl W w' σ ρ → D.nx σ H'
  | .rt r st => ∀ v w' H', Ext w H w' H' → SR K cl w' H' st → RepR K cl w' v r → D.rt v H'
  | .bk ρ st => ∀ σ w' H', Ext w H w' H' → SR K cl w' H' st → EnvR K cl W w' σ ρ → D.bk σ H'
  | .ct ρ st => ∀ σ w' H', Ext w H w' H' → SR K cl w' H' st → EnvR K cl W w' σ ρ → D.ct σ H'
  | .exc c fs ρ st => ∀ cls d σ w' H', Ext w H w' H' → SR K cl w' H' st → EnvR K cl W w' σ ρ → RepX K cl w' cls d c fs → W.f cls d σ H'
  | .bad => False
theorem WnS.ext {K : PySem.W.Frag} {cl : Nat → Option Addr} {W : WY} {D : Ends} {w w1 : Wd} {H H1 : Hp} {o : OutS} (e : Ext w H w1 H1) (h : WnS K cl W D w H o) : WnS K cl W D w1 H1 o := by
  cases o with
  | nx ρ st => exact fun σ w' H' e' s r => h σ w' H' (e.trans e') s r
  | rt r st => exact fun v w' H' e' s r => h v w' H' (e.trans e') s r
  | bk ρ st => exact fun σ w' H' e' s r => h σ w' H' (e.trans e') s r
  | ct ρ st => exact fun σ w' H' e' s r => h σ w' H' (e.trans e') s r
  | exc c fs ρ st => exact fun cls d σ w' H' e' s r x => h cls d σ w' H' (e.trans e') s r x
  | bad => exact h
def tS (K : PySem.W.Frag) (cl : Nat → Option Addr) (W : WY) (m : Env → Store → OutS) : TS := fun D σ H => ∃ w ρ st, SR K cl w H st ∧ EnvR K cl W w σ ρ ∧ WnS K cl W D w H (m ρ st)
abbrev VS (X : Cx) (cl : Nat → Option Addr) (W : WY) (s : Stmt) (m : Env → Store → OutS) : Prop := PS X s (tS X.K cl W m)
abbrev VSs (X : Cx) (cl : Nat → Option Addr) (W : WY) (s : List Stmt) (m : Env → Store → OutS) : Prop := PSs X s (tS X.K cl W m)
section
variable {X : Cx} {cl : Nat → Option Addr} {W : WY} {a b c tg : Expr} {ma mb mc : Env → M R} {tc : Env → M Bool} {pos : Pos}
/-- the expression of a statement: what it leaves for the rest -/
theorem tG.to {α β : Type} {rel : Wd → β → α → Prop} {m : Env → M α} {k : α → Store → OutS} {σ : L2.St} {H : Hp} {D : Ends} {w : Wd} {ρ : Env} {st : Store}
    (s : SR X.K cl w H st) (e : EnvR X.K cl W w σ ρ) (h : WnS X.K cl W D w H ((m ρ st).to ρ k)) :
    tG rel X.K cl W m σ H (fun b H1 => ∃ w1 a st1, Ext w H w1 H1 ∧ SR X.K cl w1 H1 st1 ∧ EnvR X.K cl W w1 σ ρ ∧ rel w1 b a ∧ WnS X.K cl W D w1 H1 (k a st1)) := by
  refine ⟨w, ρ, st, s, e, ?_⟩
  cases q : m ρ st with
  | ok a st1 =>
    rw [q] at h
    exact fun b w' H' e' s' r => ⟨w', a, st1, e', s', e.ext e', r, WnS.ext e' h⟩
  | exc c fs st1 => rw [q] at h; exact fun cls d w' H' e' s' r => h cls d σ w' H' e' s' (e.ext e') r
  | bad => rw [q] at h; exact h
/-! ### targets -/
def tTg (K : PySem.W.Frag) (cl : Nat → Option Addr) (W : WY) (tg : Tg) : TG := fun v σ H Q => ∃ w ρ st r ρ' st', SR K cl w H st ∧ EnvR K cl W w σ ρ ∧ RepR K cl w v r ∧ bindTg tg r ρ st = .ok ρ' st' ∧ ∀ σ', EnvR K cl W w σ' ρ' → σ'.length = σ.length → (∀ j, j ∉ tg.slots → σ'[j]? = σ[j]?) → Q σ' H
abbrev VG (X : Cx) (cl : Nat → Option Addr) (W : WY) (e : Expr) (tg : Tg) : Prop := PG X e (tTg X.K cl W tg)
theorem PG.imp {e : Expr} {t t' : TG} (h : PG X e t) (hi : ∀ v σ H Q, t' v σ H Q → t v σ H Q) : PG X e t' := ⟨fun pins s σ H v u Q I r q => h.run pins s σ H v u Q I r (hi v σ H Q q)⟩
theorem vg_one {i : Nat} {x : Str} (hN : X.N.Nodup) (hi : X.N[i]? = some x) (hx : Loc X.env.scope x) (hf : X.fn x = true ∨ X.env.scope.names.lookup x = some .local) : VG X cl W (.Name x pos) (.one i) := by
  refine PG.imp (pg_name (i := i) hN hi hx hf) fun v σ H Q h => ?_
  obtain ⟨w, ρ, st, r, ρ', st', s, e, hr, hb, k⟩ := h
  cases hb
  exact k _ (e.set hr) (by simp) fun j hj => List.getElem?_set_ne (fun z => hj (by simp [Tg.slots, z]))
/-- names one behind another -/
def setAll (σ : L2.St) : List Nat → List L2.V → L2.St
  | i :: is, v :: vs => setAll (σ.set i (some v)) is vs
  | _, _ => σ
def gMany (is : List Nat) : TGs := fun vs σ H Q => vs.length = is.length ∧ Q (setAll σ is vs) H
theorem pgs_many : ∀ {es : List Expr} {is : List Nat}, (∀ p ∈ es.zip is, PG X p.1 (gName p.2)) → es.length = is.length → (∀ e ∈ es, noStar e = true) → PGs X es (gMany is)
  | [], [], _, _, _ => ⟨fun pins s σ H vs us Q I r h => pgs_nil.run pins s σ H vs us Q I r (by
      obtain ⟨h1, h2⟩ := h
      cases vs with
      | nil => exact ⟨rfl, h2⟩
      | cons => cases h1)⟩
  | [], _ :: _, _, h, _ => by cases h
  | _ :: _, [], _, h, _ => by cases h
  | e :: es, i :: is, h, hl, hs => by
    have h1 := h (e, i) (by simp)
    have h2 := pgs_many (es := es) (is := is) (fun p hp => h p (by simp [hp])) (by simpa using hl) fun x hx => hs x (by simp [hx])
    have hst : (assignEach (e :: es) X.env).map (·.2) = assign e X.env :: (assignEach es X.env).map (·.2) := by
      have := hs e (by simp)
      cases e <;> first | rfl | (simp [noStar] at this)
    refine ⟨fun pins s σ H vs us Q I r q => (pgs_cons h1 h2 hst).run pins s σ H vs us Q I r ?_⟩
    obtain ⟨q1, q2⟩ := q
    cases vs with
    | nil => cases q1
    | cons v vs => exact ⟨v, vs, rfl, by simpa using q1, q2⟩
theorem assign_len : ∀ {es : List Expr}, (∀ e ∈ es, noStar e = true) → (assignEach es X.env).length = es.length ∧ (assignEach es X.env).findIdx? (·.1) = none
  | [], _ => ⟨rfl, rfl⟩
  | e :: es, hs => by
    obtain ⟨h1, h2⟩ := assign_len (es := es) fun x hx => hs x (by simp [hx])
    have he : assignEach (e :: es) X.env = (false, assign e X.env) :: assignEach es X.env := by
      have := hs e (by simp)
      cases e <;> first | rfl | (simp [noStar] at this)
    rw [he]
    refine ⟨by simp [h1], ?_⟩
    rw [List.findIdx?_cons, h2]; rfl
theorem EnvR.setAll {K : PySem.W.Frag} {w : Wd} : ∀ {is : List Nat} {vs : List L2.V} {rs : List R} {σ : L2.St} {ρ : Env}, EnvR K cl W w σ ρ → RepRs K cl w vs rs → is.length = rs.length → EnvR K cl W w (SV.setAll σ is vs) ((is.zip rs).foldl (fun ρ p => ρ.set p.1 (some p.2)) ρ) ∧ (SV.setAll σ is vs).length = σ.length
  | [], _, _, σ, ρ, h, .nil, _ => ⟨h, rfl⟩
  | [], _, _, σ, ρ, h, .cons _ _, e => by cases e
  | _ :: _, _, _, σ, ρ, h, .nil, e => by cases e
  | i :: is, _, _, σ, ρ, h, .cons (a := v) r t, e => by
    obtain ⟨h1, h2⟩ := EnvR.setAll (is := is) (h.set (i := i) r) t (by simpa using e)
    exact ⟨h1, by rw [show SV.setAll σ (i :: is) (v :: _) = SV.setAll (σ.set i (some v)) is _ from rfl, h2]; simp⟩
theorem setAll_out : ∀ {is : List Nat} {vs : List L2.V} {σ : L2.St} {j : Nat}, j ∉ is → (SV.setAll σ is vs)[j]? = σ[j]?
  | [], _, _, _, _ => by cases ‹List L2.V› <;> rfl
  | _ :: _, [], _, _, _ => rfl
  | i :: is, v :: vs, σ, j, h => by
    rw [show SV.setAll σ (i :: is) (v :: vs) = SV.setAll (σ.set i (some v)) is vs from rfl, setAll_out (fun z => h (by simp [z])), List.getElem?_set_ne (fun z => h (by simp [z]))]
theorem vg_many {es : List Expr} {is : List Nat} {kt : Nat} (hc : X.calm = true) (h : ∀ p ∈ es.zip is, PG X p.1 (gName p.2)) (hl : es.length = is.length) (hs : ∀ e ∈ es, noStar e = true) : VG X cl W (.Tuple es kt pos) (.many is) := by
  obtain ⟨l1, l2⟩ := assign_len (X := X) hs
  have p1 := pg_tup (pos := pos) (k := kt) hc (pgs_many h hl hs) l1 l2
  have p2 := pg_lst (pos := pos) (k := kt) hc (pgs_many h hl hs) l1 l2
  refine ⟨fun pins s σ H v u Q I r q => ?_⟩
  obtain ⟨w, ρ, st, rr, ρ', st', S, e, hr, hb, k⟩ := q
  simp only [bindTg] at hb
  obtain ⟨xs, st1, q1, hb2⟩ := M.bind_inv hb
  obtain ⟨rfl, p, vs, rfl, hq, rs⟩ := items_ok S hr q1
  split at hb2
  · rename_i hlen
    cases hb2
    obtain ⟨h1, h2⟩ := EnvR.setAll (is := is) e rs hlen.symm
    have fin := k _ h1 h2 fun j hj => setAll_out hj
    have hv : vs.length = is.length := by rw [rs.length, hlen]
    rcases hq with hq | hq
    · exact p2.run pins s σ H _ u Q I r ⟨p, vs, rfl, hq, by rw [hv, hl], hv, fin⟩
    · exact p1.run pins s σ H _ u Q I r ⟨p, vs, rfl, hq, by rw [hv, hl], hv, fin⟩
  · cases hb2
/-! ### assignments -/
theorem vs_asg {i : Nat} {x : Str} {p : Pos} (hN : X.N.Nodup) (hi : X.N[i]? = some x) (hx : Loc X.env.scope x) (hf : X.fn x = true ∨ X.env.scope.names.lookup x = some .local) (he : VE X cl W a ma) (hs : swapsWith a (some (.Name x p)) pos.line X.env = pure false) :
    VS X cl W (.Assign [.Name x p] a pos) (fun ρ st => (ma ρ st).to ρ fun r st1 => .nx (ρ.set i (some r)) st1) := by
  refine PS.imp (ps_set (i := i) hN hi hx he hs hf) fun D σ H h => ?_
  obtain ⟨w, ρ, st, s, e, h⟩ := h
  refine (tG.to (m := ma) s e h).mono fun v H1 ⟨w1, r, st1, e1, s1, en1, r1, h1⟩ => ?_
  exact h1 _ w1 H1 (Ext.refl _ _) s1 (en1.set r1)
theorem vs_unp {is : List Nat} (hg : VG X cl W tg (.many is)) (he : VE X cl W a ma) (hs : swapsWithSole [tg] a pos.line X.env = pure false) (hw : swappedStores [tg] a X.env = pure none) (h1 : (assignEach [tg] X.env).map (·.2) = [assign tg X.env]) :
    VS X cl W (.Assign [tg] a pos) (fun ρ st => (ma ρ st).to ρ fun r st1 => (bindTg (.many is) r ρ st1).to ρ fun ρ1 st2 => .nx ρ1 st2) := by
  refine PS.imp (ps_asg he hg hs hw h1) fun D σ H h => ?_
  obtain ⟨w, ρ, st, s, e, h⟩ := h
  refine (tG.to (m := ma) s e h).mono fun v H1 ⟨w1, r, st1, e1, s1, en1, r1, h1⟩ => ?_
  cases q : bindTg (.many is) r ρ st1 with
  | bad => rw [q] at h1; exact False.elim h1
  | exc c fs z =>
    simp only [bindTg, M.bind] at q
    cases q2 : items r st1 with
    | bad => rw [q2] at q; cases q
    | exc c fs z => exact absurd q2 (items_ne c fs z)
    | ok xs st2 =>
      rw [q2] at q
      simp only [Out.bind_ok] at q
      split at q <;> cases q
  | ok ρ1 st2 =>
    rw [q] at h1
    have hst : st2 = st1 := by
      simp only [bindTg] at q
      obtain ⟨xs, st3, q1, q2⟩ := M.bind_inv q
      obtain ⟨e3, _⟩ := items_ok s1 r1 q1
      split at q2
      · cases q2; exact e3
      · cases q2
    subst hst
    exact ⟨w1, ρ, st2, r, ρ1, st2, s1, en1, r1, q, fun σ' e' _ _ => h1 σ' w1 H1 (Ext.refl _ _) s1 e'⟩
theorem vs_par {i j : Nat} {x y : Str} {px py pt : Pos} {kt k2 : Nat} {pt2 : Pos} (hc : X.calm = true) (hN : X.N.Nodup) (hi : X.N[i]? = some x) (hj : X.N[j]? = some y) (hij : i ≠ j)
    (hx : X.env.scope.names.lookup x = some .local) (hy : X.env.scope.names.lookup y = some .local) (hsa : noStar a = true) (hsb : noStar b = true) (ha : VE X cl W a ma) (hb : VE X cl W b mb)
    (hw : swappedStores [.Tuple [.Name x px, .Name y py] kt pt] (.Tuple [a, b] k2 pt2) X.env = pure (some [x, y])) :
    VS X cl W (.Assign [.Tuple [.Name x px, .Name y py] kt pt] (.Tuple [a, b] k2 pt2) pos) (fun ρ st => (ma ρ st).to ρ fun x st1 => (mb ρ st1).to ρ fun y st2 => .nx ((ρ.set i (some x)).set j (some y)) st2) := by
  refine PS.imp (ps_par (i := i) (j := j) hc hN hi hj hij hx hy (pa_cons ha (pa_cons hb pa_nil (star_cons hsb _ _)) (star_cons hsa _ _)) hw rfl) fun D σ H h => ?_
  obtain ⟨w, ρ, st, s, e, h⟩ := h
  refine (tG.to (m := ma) s e h).mono fun v H1 ⟨w1, r, st1, e1, s1, en1, r1, h1⟩ => ?_
  refine (tG.to (m := mb) s1 en1 h1).mono fun u H2 ⟨w2, r', st2, e2, s2, en2, r2, h2⟩ => ?_
  exact ⟨v, u, rfl, h2 _ w2 H2 (Ext.refl _ _) s2 ((en2.set (r1.ext e2)).set r2)⟩
theorem vs_par3 {i j l : Nat} {x y z : Str} {px py pz pt : Pos} {kt k2 : Nat} {pt2 : Pos} (hc : X.calm = true) (hN : X.N.Nodup) (hi : X.N[i]? = some x) (hj : X.N[j]? = some y) (hl : X.N[l]? = some z) (hij : i ≠ j) (hil : i ≠ l) (hjl : j ≠ l)
    (hx : X.env.scope.names.lookup x = some .local) (hy : X.env.scope.names.lookup y = some .local) (hz : X.env.scope.names.lookup z = some .local) (hsa : noStar a = true) (hsb : noStar b = true) (hsc : noStar c = true) (ha : VE X cl W a ma) (hb : VE X cl W b mb) (hcc : VE X cl W c mc)
    (hw : swappedStores [.Tuple [.Name x px, .Name y py, .Name z pz] kt pt] (.Tuple [a, b, c] k2 pt2) X.env = pure (some [x, y, z])) :
    VS X cl W (.Assign [.Tuple [.Name x px, .Name y py, .Name z pz] kt pt] (.Tuple [a, b, c] k2 pt2) pos) (fun ρ st => (ma ρ st).to ρ fun x st1 => (mb ρ st1).to ρ fun y st2 => (mc ρ st2).to ρ fun z st3 => .nx (((ρ.set i (some x)).set j (some y)).set l (some z)) st3) := by
  refine PS.imp (ps_par3 (i := i) (j := j) (l := l) hc hN hi hj hl hij hil hjl hx hy hz (pa_cons ha (pa_cons hb (pa_cons hcc pa_nil (star_cons hsc _ _)) (star_cons hsb _ _)) (star_cons hsa _ _)) hw rfl) fun D σ H h => ?_
  obtain ⟨w, ρ, st, s, e, h⟩ := h
  refine (tG.to (m := ma) s e h).mono fun v H1 ⟨w1, r, st1, e1, s1, en1, r1, h1⟩ => ?_
  refine (tG.to (m := mb) s1 en1 h1).mono fun u H2 ⟨w2, r', st2, e2, s2, en2, r2, h2⟩ => ?_
  refine (tG.to (m := mc) s2 en2 h2).mono fun t H3 ⟨w3, r'', st3, e3, s3, en3, r3, h3⟩ => ?_
  exact ⟨v, u, t, rfl, h3 _ w3 H3 (Ext.refl _ _) s3 (((en3.set ((r1.ext e2).ext e3)).set (r2.ext e3)).set r3)⟩
theorem setCell_ne {o k e : R} {st : Store} : ∀ c fs s, setCell o k e st ≠ .exc c fs s := fun c fs s h => by
  unfold setCell intOf at h
  simp only [M.bind] at h
  cases q : rdD k st with
  | bad => rw [q] at h; cases h
  | exc c fs z => exact absurd q (rdD_ne c fs z)
  | ok d st1 =>
    rw [q] at h
    simp only [Out.bind_ok] at h
    cases d with
    | int i =>
      simp only [M.pure, Out.bind_ok] at h
      split at h
      · split at h
        · split at h <;> cases h
        · cases h
      · cases h
    | _ => cases h
theorem setCell_ok {K : PySem.W.Frag} {w : Wd} {H : Hp} {st st' : Store} {o k e : R} {u : Unit} {x y : L2.V} (s : SR K cl w H st) (ro : RepR K cl w x o) (rk : RepR K cl w y k) (h : setCell o k e st = .ok u st') :
    ∃ n a i xs vs j, o = .ref n ∧ w.io[n]? = some a ∧ x = .ref a ∧ y = .int i ∧ st[n]? = some (.lst xs) ∧ H a = some (.lst vs) ∧ RepRs K cl w vs xs ∧ ixN xs.length i = some j ∧ st' = st.set n (.lst (xs.set j e)) := by
  unfold setCell intOf at h
  simp only [M.bind] at h
  cases q : rdD k st with
  | bad => rw [q] at h; cases h
  | exc c fs z => exact absurd q (rdD_ne c fs z)
  | ok d st1 =>
    rw [q] at h
    obtain ⟨f1, rfl⟩ := rdD_ok q
    simp only [Out.bind_ok] at h
    have rd := force_rep s rk f1
    cases d with
    | int i =>
      have hy := repH_int rd
      subst hy
      simp only [M.pure, Out.bind_ok] at h
      split at h
      · rename_i n
        obtain ⟨a, ha, rfl⟩ := ro
        split at h
        · rename_i xs hc
          split at h
          · rename_i j hj
            cases h
            obtain ⟨_, vs, hv, rs⟩ := s.cell n _ a hc ha
            exact ⟨n, a, i, xs, vs, j, rfl, ha, rfl, rfl, hc, hv, rs, hj, rfl⟩
          · cases h
        · cases h
      · cases h
    | _ => cases h
theorem repRs_set {K : PySem.W.Frag} {w : Wd} {v : L2.V} {r : R} (hr : RepR K cl w v r) : ∀ {vs : List L2.V} {rs : List R} (j : Nat), RepRs K cl w vs rs → RepRs K cl w (vs.set j v) (rs.set j r)
  | _, _, _, .nil => by simpa using Paired.nil
  | _, _, 0, .cons _ t => .cons hr t
  | _, _, j + 1, .cons h t => .cons h (repRs_set hr j t)
/-- o[k] = e -/
theorem vs_seti {o k e : Expr} {p' : Pos} {mo mk me : Env → M R} (he : VE X cl W e me) (ho : VE X cl W o mo) (hk : VE X cl W k mk) (hs : swapsWithSole [.Subscript o k p'] e pos.line X.env = pure false)
    (hsl : (match k with | .Slice _ _ _ _ => false | _ => true) = true) :
    VS X cl W (.Assign [.Subscript o k p'] e pos) (fun ρ st => (me ρ st).to ρ fun x st1 => (mo ρ st1).to ρ fun y st2 => (mk ρ st2).to ρ fun z st3 => (setCell y z x st3).to ρ fun _ st4 => .nx ρ st4) := by
  refine PS.imp (ps_asg he (pg_sub ho hk set_list (by intro v; cases k <;> first | rfl | (simp at hsl))) hs rfl rfl) fun D σ H h => ?_
  obtain ⟨w, ρ, st, s, e, h⟩ := h
  refine (tG.to (m := me) s e h).mono fun v H1 ⟨w1, r, st1, e1, s1, en1, r1, h1⟩ => ?_
  refine (tG.to (m := mo) s1 en1 h1).mono fun x H2 ⟨w2, r', st2, e2, s2, en2, r2, h2⟩ => ?_
  refine (tG.to (m := mk) s2 en2 h2).mono fun y H3 ⟨w3, r'', st3, e3, s3, en3, r3, h3⟩ => ?_
  cases q : setCell r' r'' r st3 with
  | bad => rw [q] at h3; exact False.elim h3
  | exc c fs z => exact absurd q (setCell_ne c fs z)
  | ok u st4 =>
    rw [q] at h3
    obtain ⟨n, a, i, xs, vs, j, rfl, ha, rfl, rfl, hc, hv, rs, hj, rfl⟩ := setCell_ok s3 (r2.ext e3) r3 q
    obtain ⟨s5, e5⟩ := s3.write hc ha (repRs_set ((r1.ext e2).ext e3) j rs)
    exact ⟨a, vs, i, j, rfl, rfl, hv, by rw [rs.length]; exact hj, h3 _ w3 _ e5 s5 (en3.ext e5)⟩
theorem vs_ex (he : VE X cl W a ma) (hs : swapsWith a none pos.line X.env = pure false) : VS X cl W (.Expr a pos) (fun ρ st => (ma ρ st).to ρ fun _ st1 => .nx ρ st1) := by
  refine PS.imp (ps_expr he hs) fun D σ H h => ?_
  obtain ⟨w, ρ, st, s, e, h⟩ := h
  refine (tG.to (m := ma) s e h).mono fun v H1 ⟨w1, r, st1, e1, s1, en1, r1, h1⟩ => ?_
  exact h1 _ w1 H1 (Ext.refl _ _) s1 en1
theorem vs_ret (he : VE X cl W a ma) : VS X cl W (.Return (some a) pos) (fun ρ st => (ma ρ st).to ρ fun r st1 => .rt r st1) := by
  refine PS.imp (ps_ret he) fun D σ H h => ?_
  obtain ⟨w, ρ, st, s, e, h⟩ := h
  refine (tG.to (m := ma) s e h).mono fun v H1 ⟨w1, r, st1, e1, s1, en1, r1, h1⟩ => ?_
  exact h1 v w1 H1 (Ext.refl _ _) s1 r1
theorem vs_retN : VS X cl W (.Return none pos) (fun _ st => .rt (.v .non) st) := by
  refine PS.imp ps_retN fun D σ H h => ?_
  obtain ⟨w, ρ, st, s, e, h⟩ := h
  exact h .non w H (Ext.refl _ _) s (show Rep X.K cl w.G _ _ from .non)
theorem vs_pass : VS X cl W (.Pass pos) (fun ρ st => .nx ρ st) := by
  refine PS.imp ps_pass fun D σ H h => ?_
  obtain ⟨w, ρ, st, s, e, h⟩ := h
  exact h σ w H (Ext.refl _ _) s e
theorem vs_brk : VS X cl W (.Break pos) (fun ρ st => .bk ρ st) := by
  refine PS.imp ps_break fun D σ H h => ?_
  obtain ⟨w, ρ, st, s, e, h⟩ := h
  exact h σ w H (Ext.refl _ _) s e
theorem vs_cont : VS X cl W (.Continue pos) (fun ρ st => .ct ρ st) := by
  refine PS.imp ps_continue fun D σ H h => ?_
  obtain ⟨w, ρ, st, s, e, h⟩ := h
  exact h σ w H (Ext.refl _ _) s e
theorem vs_ite {st1 st2 : List Stmt} {m1 m2 : Env → Store → OutS} (hc : VT X cl W c tc) (h1 : VSs X cl W st1 m1) (h2 : VSs X cl W st2 m2) :
    VS X cl W (.If c st1 st2 pos) (fun ρ st => (tc ρ st).to ρ fun k st1 => if k = true then m1 ρ st1 else m2 ρ st1) := by
  refine PS.imp (ps_if hc h1 h2) fun D σ H h => ?_
  obtain ⟨w, ρ, st, s, e, h⟩ := h
  refine (tG.to (m := tc) s e h).mono fun k H1 ⟨w1, k', st1, e1, s1, en1, r1, h1⟩ => ?_
  subst r1
  cases k with
  | true => exact ⟨w1, ρ, st1, s1, en1, h1⟩
  | false => exact ⟨w1, ρ, st1, s1, en1, h1⟩
theorem vss_nil : VSs X cl W [] (fun ρ st => .nx ρ st) := by
  refine PSs.imp pss_nil fun D σ H h => ?_
  obtain ⟨w, ρ, st, s, e, h⟩ := h
  exact h σ w H (Ext.refl _ _) s e
theorem vss_cons {s1 : Stmt} {ss : List Stmt} {m1 m2 : Env → Store → OutS} (h1 : VS X cl W s1 m1) (h2 : VSs X cl W ss m2) : VSs X cl W (s1 :: ss) (fun ρ st => (m1 ρ st).seq fun ρ1 st1 => m2 ρ1 st1) := by
  refine PSs.imp (pss_cons h1 h2) fun D σ H h => ?_
  obtain ⟨w, ρ, st, s, e, h⟩ := h
  refine ⟨w, ρ, st, s, e, ?_⟩
  simp only at h
  cases q : m1 ρ st with
  | nx ρ1 st1 => rw [q] at h; exact fun σ' w' H' e' s' en' => ⟨w', ρ1, st1, s', en', WnS.ext e' h⟩
  | rt r st1 => rw [q] at h; exact h
  | bk ρ1 st1 => rw [q] at h; exact h
  | ct ρ1 st1 => rw [q] at h; exact h
  | exc c fs ρ1 st1 => rw [q] at h; exact h
  | bad => rw [q] at h; exact h
/-! ### loops -/
theorem vs_whl {body : List Stmt} {mb : Env → Store → OutS} (hp : PassesOwn (model X.prog X.w) X.A X.env X.xe) (hc : VT X cl W c tc) (hb : VSs X cl W body mb) : VS X cl W (.While c body [] pos) (fun ρ st => whG tc mb ρ st) := by
  refine PS.imp (ps_while hp hc hb) fun D σ H h => ?_
  obtain ⟨w, ρ, st, s, e, h⟩ := h
  simp only at h
  have hne : whG tc mb ρ st ≠ .bad := fun z => by rw [z] at h; exact h
  obtain ⟨n, hn⟩ := whG_ex hne
  rw [hn] at h
  refine ⟨fun n σ H => ∃ w ρ st, SR X.K cl w H st ∧ EnvR X.K cl W w σ ρ ∧ WnS X.K cl W D w H (whN tc mb n ρ st), ⟨n, w, ρ, st, s, e, h⟩, ?_⟩
  rintro m σ1 H1 ⟨w1, ρ1, st1, s1, en1, h1⟩
  cases m with
  | zero => exact False.elim h1
  | succ m =>
    rw [whN] at h1
    refine (tG.to (m := tc) s1 en1 h1).mono fun k H2 ⟨w2, k', st2, e2, s2, en2, r2, h2⟩ => ?_
    subst r2
    cases k with
    | false => exact h2 _ w2 H2 (Ext.refl _ _) s2 en2
    | true =>
      simp only [if_true] at h2 ⊢
      refine ⟨fun σ' H' => ∃ w ρ st, SR X.K cl w H' st ∧ EnvR X.K cl W w σ' ρ ∧ WnS X.K cl W D w H' (whN tc mb m ρ st), fun σ' H' q => ⟨m, Nat.lt_succ_self _, q⟩, w2, ρ1, st2, s2, en2, ?_⟩
      cases q : mb ρ1 st2 with
      | nx ρ3 st3 => rw [q] at h2; exact fun σ' w' H' e' s' en' => ⟨w', ρ3, st3, s', en', WnS.ext e' h2⟩
      | ct ρ3 st3 => rw [q] at h2; exact fun σ' w' H' e' s' en' => ⟨w', ρ3, st3, s', en', WnS.ext e' h2⟩
      | bk ρ3 st3 => rw [q] at h2; exact h2
      | rt r st3 => rw [q] at h2; exact h2
      | exc c fs ρ3 st3 => rw [q] at h2; exact h2
      | bad => rw [q] at h2; exact h2
theorem bindTg_st {tgt : Tg} {r : R} {ρ ρ1 : Env} {st st1 : Store} (h : bindTg tgt r ρ st = .ok ρ1 st1) : st1 = st := by
  cases tgt with
  | one i => cases h; rfl
  | many is =>
    simp only [bindTg] at h
    obtain ⟨xs, st3, q1, q2⟩ := M.bind_inv h
    have e3 : st3 = st := by
      unfold items at q1
      split at q1
      · cases q1; rfl
      · cases q1; rfl
      · split at q1 <;> first | (cases q1; rfl) | cases q1
      · cases q1
    split at q2
    · cases q2; exact e3
    · cases q2
theorem bindTg_ne {tgt : Tg} {r : R} {ρ : Env} {st : Store} : ∀ c fs s, bindTg tgt r ρ st ≠ .exc c fs s := fun c fs s h => by
  cases tgt with
  | one i => cases h
  | many is =>
    simp only [bindTg, M.bind] at h
    cases q2 : items r st with
    | bad => rw [q2] at h; cases h
    | exc c fs z => exact absurd q2 (items_ne c fs z)
    | ok xs st2 =>
      rw [q2] at h
      simp only [Out.bind_ok] at h
      split at h <;> cases h
theorem vs_frr {iter : Expr} {body : List Stmt} {mi : Env → M (List R)} {mb : Env → Store → OutS} {tgt : Tg} (hp : PassesOwn (model X.prog X.w) X.A X.env X.xe) (hc : X.calm = true) (hi : VI X cl W tg iter mi) (hg : VG X cl W tg tgt) (hb : VSs X cl W body mb) (hs : ∀ x, foldedSetIterable iter X.env x = pure x) :
    VS X cl W (.For tg iter body [] pos) (fun ρ st => (mi ρ st).to ρ fun xs st1 => frGo tgt mb xs ρ st1) := by
  refine PS.imp (ps_for hp hc hi hg hb hs) fun D σ H h => ?_
  obtain ⟨w, ρ, st, s, e, h⟩ := h
  refine (tG.to (m := mi) s e h).mono fun J H1 ⟨w1, xs, st1, e1, s1, en1, it, h1⟩ => ?_
  refine ⟨fun i m σ H => m = xs.length - i ∧ i ≤ xs.length ∧ ∃ w ρ st, Ext w1 H1 w H ∧ SR X.K cl w H st ∧ EnvR X.K cl W w σ ρ ∧ WnS X.K cl W D w H (frGo tgt mb (xs.drop i) ρ st),
    ⟨xs.length, by simp, Nat.zero_le _, w1, ρ, st1, Ext.refl _ _, s1, en1, h1⟩, ?_⟩
  rintro i m σ2 H2 ⟨rfl, hi, w2, ρ2, st2, e2, s2, en2, h2⟩
  obtain ⟨go, stop⟩ := it w2 H2 st2 e2.G s2
  by_cases hlt : i < xs.length
  · have hx : xs[i]? = some xs[i] := by simp [hlt]
    obtain ⟨g1, g2⟩ := go i _ hx
    rw [List.drop_eq_getElem_cons hlt, frGo] at h2
    refine .inr ⟨g1, fun σ' H' => ∃ w ρ st, Ext w1 H1 w H' ∧ SR X.K cl w H' st ∧ EnvR X.K cl W w σ' ρ ∧ WnS X.K cl W D w H' (frGo tgt mb (xs.drop (i + 1)) ρ st), fun σ' H' q => ⟨xs.length - (i + 1), by omega, rfl, hlt, q⟩, fun v H3 y => ?_⟩
    obtain ⟨w3, e3, s3, r3⟩ := g2 v H3 y
    have h3 := WnS.ext e3 h2
    cases q : bindTg tgt xs[i] ρ2 st2 with
    | bad => rw [q] at h3; exact False.elim h3
    | exc c fs z => exact absurd q (bindTg_ne c fs z)
    | ok ρ3 st3 =>
      rw [q] at h3
      have := bindTg_st q
      subst this
      refine ⟨w3, ρ2, st3, xs[i], ρ3, st3, s3, en2.ext e3, r3, q, fun σ' en' _ _ => ⟨w3, ρ3, st3, s3, en', ?_⟩⟩
      simp only [Out.to_ok] at h3
      cases q2 : mb ρ3 st3 with
      | nx ρ4 st4 => rw [q2] at h3; exact fun σ' w' H' e' s' en' => ⟨w', ρ4, st4, (e2.trans e3).trans e', s', en', WnS.ext e' h3⟩
      | ct ρ4 st4 => rw [q2] at h3; exact fun σ' w' H' e' s' en' => ⟨w', ρ4, st4, (e2.trans e3).trans e', s', en', WnS.ext e' h3⟩
      | bk ρ4 st4 => rw [q2] at h3; exact h3
      | rt r st4 => rw [q2] at h3; exact h3
      | exc c fs ρ4 st4 => rw [q2] at h3; exact h3
      | bad => rw [q2] at h3; exact h3
  · have he : i = xs.length := by omega
    subst he
    rw [List.drop_length, frGo] at h2
    exact .inl ⟨stop, h2 σ2 w2 H2 (Ext.refl _ _) s2 en2⟩
end
end SV

set_option maxRecDepth 100000
set_option maxHeartbeats 2000000
/-! SvN: comprehensions -/
namespace SV
open PySem PySem.Spec PyProof.Rows
open L2 hiding It
section
variable {K : PySem.W.Frag} {cl : Nat → Option Addr} {w : Wd} {H : Hp} {st : Store}
/-- another tracked thing beside the world -/
theorem SR.touch (s : SR K cl w H st) {p : Addr} {o : HO} (hg : w.G p = none) (hi : p ∉ w.io) : SR K cl w (upd H p o) st := by
  refine ⟨fun b u q => ?_, s.len, s.nd, fun a ha => ?_, fun n c a q ha => ?_⟩
  · rw [upd_ne (ne_of_none q hg)]; exact s.sub b u q
  · obtain ⟨u, hu⟩ := s.trk a ha
    exact ⟨u, by rw [upd_ne (fun z => hi (by rw [← z]; exact ha))]; exact hu⟩
  · have k := s.cell n c a q ha
    have na : a ≠ p := fun z => hi (by rw [← z]; exact List.mem_of_getElem? ha)
    cases c with
    | lst xs =>
      obtain ⟨h1, vs, h2, h3⟩ := k
      exact ⟨h1, vs, by rw [upd_ne na]; exact h2, h3⟩
    | obj c fs =>
      obtain ⟨h1, C, dx, fvs, h2, h3, h4⟩ := k
      exact ⟨h1, C, dx, fvs, h2, by rw [upd_ne na]; exact h3, h4⟩
    | dct kvs =>
      obtain ⟨h1, vs, h3, h4⟩ := k
      exact ⟨h1, vs, by rw [upd_ne na]; exact h3, h4⟩
    | fz d => exact k
theorem Ext.touch {w1 : Wd} {H1 : Hp} (e : Ext w1 H1 w H) {p : Addr} {o : HO} (hp : H1 p = none) : Ext w1 H1 w (upd H p o) :=
  ⟨e.io, e.G, e.ex, fun a u h n => by rw [upd_ne (ne_of_none h hp)]; exact e.fr a u h n, e.new, e.gnew⟩
/-- what stands beside the world stays there -/
theorem Ext.beside {w' : Wd} {H' : Hp} (e : Ext w H w' H') {p : Addr} {o : HO} (h : H p = some o) (hg : w.G p = none) (hi : p ∉ w.io) : H' p = some o ∧ w'.G p = none ∧ p ∉ w'.io := by
  refine ⟨e.fr p o h hi, ?_, fun z => ?_⟩
  · cases q : w'.G p with
    | none => rfl
    | some u =>
      rcases e.gnew p u q hg with z | z
      · rw [h] at z; cases z
      · exact absurd z hi
  · have := e.new p z hi
    rw [h] at this; cases this
/-- it comes in: frozen -/
theorem SR.adopt (s : SR K cl w H st) {p : Addr} {o : HO} (h : H p = some o) (hg : w.G p = none) (hi : p ∉ w.io) : SR K cl { w with G := upd w.G p o } H st := by
  have sg : Same w.G (upd w.G p o) := fun b u e => by rw [upd_ne (ne_of_none e hg)]; exact e
  have ee : ∀ {v : L2.V} {r : R}, RepR K cl w v r → RepR K cl { w with G := upd w.G p o } v r := fun {v r} q => by
    cases r with
    | v d => exact Rep.mono sg (show Rep K cl w.G v d from q)
    | ref n => exact q
    | ex c fs => exact q
  refine ⟨fun b u q => ?_, s.len, s.nd, s.trk, fun n c a q ha => ?_⟩
  · have q' : upd w.G p o b = some u := q
    by_cases z : b = p
    · subst z; rw [upd_same] at q'; cases q'; exact h
    · rw [upd_ne z] at q'; exact s.sub b u q'
  · have k := s.cell n c a q ha
    have na : a ≠ p := fun z => hi (by rw [← z]; exact List.mem_of_getElem? ha)
    cases c with
    | lst xs =>
      obtain ⟨h1, vs, h2, h3⟩ := k
      exact ⟨by show upd w.G p o a = none; rw [upd_ne na]; exact h1, vs, h2, L2.Paired.mapP h3 fun _ _ z => ee z⟩
    | obj c fs =>
      obtain ⟨h1, C, dx, fvs, h2, h3, h4⟩ := k
      exact ⟨by show upd w.G p o a = none; rw [upd_ne na]; exact h1, C, dx, fvs, h2, h3, L2.Paired.mapP h4 fun _ _ z => ⟨z.1, ee z.2⟩⟩
    | dct kvs =>
      obtain ⟨h1, vs, h3, h4⟩ := k
      exact ⟨by show upd w.G p o a = none; rw [upd_ne na]; exact h1, vs, h3, L2.Paired.mapP h4 fun _ _ z => ⟨z.1, ee z.2⟩⟩
    | fz d => exact Rep.mono sg k
theorem Ext.adopt {w1 : Wd} {H1 : Hp} (e : Ext w1 H1 w H) {p : Addr} {o : HO} (hp : H1 p = none) (hg : w.G p = none) : Ext w1 H1 { w with G := upd w.G p o } H :=
  ⟨e.io, e.G.trans fun b u q => by show upd w.G p o b = some u; rw [upd_ne (ne_of_none q hg)]; exact q, e.ex, e.fr, e.new, fun a u h n => by
    by_cases z : a = p
    · rw [z]; exact .inl hp
    · have h' : upd w.G p o a = some u := h
      rw [upd_ne z] at h'
      exact e.gnew a u h' n⟩
/-- it comes in: as a cell -/
theorem SR.enlist (s : SR K cl w H st) {p : Addr} {vs : List L2.V} {xs : List R} (h : H p = some (.lst vs)) (hg : w.G p = none) (hi : p ∉ w.io) (r : RepRs K cl w vs xs) : SR K cl { w with io := w.io ++ [p] } H (st ++ [.lst xs]) := by
  have ix : ∀ {n : Nat} {a : Addr}, w.io[n]? = some a → (w.io ++ [p])[n]? = some a := fun {n a} q => by
    rw [List.getElem?_append_left (List.getElem?_eq_some_iff.mp q).1]; exact q
  have ee : ∀ {v : L2.V} {r : R}, RepR K cl w v r → RepR K cl { w with io := w.io ++ [p] } v r := fun {v r} q => by
    cases r with
    | v d => exact q
    | ref n => obtain ⟨a, h1, h2⟩ := q; exact ⟨a, ix h1, h2⟩
    | ex c fs => exact q
  refine ⟨s.sub, by simp [s.len], ?_, fun a ha => ?_, fun n c a q ha => ?_⟩
  · show (w.io ++ [p]).Nodup
    rw [List.nodup_append]
    exact ⟨s.nd, by simp, fun a ha b hb => by rw [List.mem_singleton.mp hb]; exact fun z => hi (z ▸ ha)⟩
  · have ha' : a ∈ w.io ++ [p] := ha
    rcases List.mem_append.mp ha' with z | z
    · exact s.trk a z
    · rw [List.mem_singleton.mp z]; exact ⟨_, h⟩
  · have ha' : (w.io ++ [p])[n]? = some a := ha
    by_cases hn : n < w.io.length
    · rw [List.getElem?_append_left hn] at ha'
      rw [List.getElem?_append_left (by rw [← s.len]; exact hn)] at q
      have k := s.cell n c a q ha'
      cases c with
      | lst ys =>
        obtain ⟨h1, us, h2, h3⟩ := k
        exact ⟨h1, us, h2, L2.Paired.mapP h3 fun _ _ z => ee z⟩
      | obj c fs =>
        obtain ⟨h1, C, dx, fvs, h2, h3, h4⟩ := k
        exact ⟨h1, C, dx, fvs, h2, h3, L2.Paired.mapP h4 fun _ _ z => ⟨z.1, ee z.2⟩⟩
      | dct kvs =>
        obtain ⟨h1, vs, h3, h4⟩ := k
        exact ⟨h1, vs, h3, L2.Paired.mapP h4 fun _ _ z => ⟨z.1, ee z.2⟩⟩
      | fz d => exact k
    · have hz : n = w.io.length := by
        have := (List.getElem?_eq_some_iff.mp ha').1
        simp at this; omega
      subst hz
      rw [List.getElem?_concat_length] at ha'
      cases ha'
      rw [s.len, List.getElem?_concat_length] at q
      cases q
      exact ⟨hg, vs, h, L2.Paired.mapP r fun _ _ z => ee z⟩
theorem Ext.enlist {w1 : Wd} {H1 : Hp} (e : Ext w1 H1 w H) {p : Addr} (hp : H1 p = none) : Ext w1 H1 { w with io := w.io ++ [p] } H :=
  ⟨by obtain ⟨l, q⟩ := e.io; exact ⟨l ++ [p], by show w.io ++ [p] = _; rw [q, List.append_assoc]⟩, e.G, e.ex, e.fr, fun a h n => by
    have h' : a ∈ w.io ++ [p] := h
    rcases List.mem_append.mp h' with z | z
    · exact e.new a z n
    · rw [List.mem_singleton.mp z]; exact hp, e.gnew⟩
end
theorem wipe_eq {σ σ' : L2.St} {vs : List Nat} (hl : σ'.length = σ.length) (h : ∀ j, j ∉ vs → σ'[j]? = σ[j]?) : L2.wipe σ' vs = L2.wipe σ vs := by
  apply List.ext_getElem?
  intro i
  by_cases hi : i ∈ vs
  · have z : ∀ (τ : L2.St), τ.length = σ.length → (L2.wipe τ vs)[i]? = if i < σ.length then some none else none := by
      intro τ ht
      clear h
      induction vs with
      | nil => cases hi
      | cons v vs ih =>
        show ((L2.wipe τ vs).set v none)[i]? = _
        by_cases hv : v = i
        · subst hv
          by_cases hlt : v < σ.length
          · rw [List.getElem?_set_self (by rw [L2.wipe_length, ht]; exact hlt), if_pos hlt]
          · rw [List.getElem?_eq_none (by rw [List.length_set, L2.wipe_length, ht]; omega), if_neg hlt]
        · rw [List.getElem?_set_ne hv]
          rcases List.mem_cons.mp hi with e | e
          · exact absurd e.symm hv
          · exact ih e
    rw [z σ' hl, z σ rfl]
  · rw [L2.wipe_out hi, L2.wipe_out hi]
    exact h i hi
abbrev Wf : WY := ⟨fun _ _ _ _ => False, none⟩
section
variable {X : Cx} {cl : Nat → Option Addr} {W : WY}
theorem noExc_ok {α : Type} {m : M α} {st st' : Store} {a : α} (h : noExc m st = .ok a st') : m st = .ok a st' := by
  unfold noExc at h
  cases q : m st with
  | ok b s => rw [q] at h; exact h
  | exc c fs s => rw [q] at h; cases h
  | bad => rw [q] at h; cases h
theorem noExc_ne {α : Type} {m : M α} {st : Store} : ∀ c fs s, noExc m st ≠ .exc c fs s := fun c fs s e => by
  unfold noExc at e
  cases q : m st with
  | ok b s => rw [q] at e; cases e
  | exc c fs s => rw [q] at e; cases e
  | bad => rw [q] at e; cases e
theorem out_ok_of {α β : Type} {o : Out α} {f : α → M β} {b : β} {st : Store} (h : o.bind f = .ok b st) : ∃ a st1, o = .ok a st1 ∧ f a st1 = .ok b st := by
  cases o with
  | ok a s => exact ⟨a, s, rfl, h⟩
  | exc c fs s => cases h
  | bad => cases h
theorem lc_read {cell : Bool} {tgt : Tg} {own : List Nat} {mi : Env → M (List R)} {mc : Env → M Bool} {me : Env → M R} {σ : L2.St} {H : Hp} {Q : VK} (hown : ∀ j ∈ tgt.slots, j ∈ own)
    (h : tV X.K cl W (lcM cell tgt own mi mc me) σ H Q) : tLc (tI X.K cl W mi) (tTg X.K cl Wf tgt) (tB X.K cl Wf mc) (tV X.K cl Wf me) own σ H Q := by
  obtain ⟨w, ρ, st, s, e, h⟩ := h
  -- what is walked, and how long it is
  have A1 : tI X.K cl W mi σ H (fun J H1 => ∃ w1 xs st1, Ext w H w1 H1 ∧ SR X.K cl w1 H1 st1 ∧ EnvR X.K cl W w1 σ ρ ∧ IterOk X.K cl w1 J xs ∧ xs.length ≤ sizeLine ∧ Wn (RepR X.K cl) X.K cl W σ Q w1 H1 (((lcGo (fun x => noExc (lcTurn cell tgt mc me (wipeE ρ own) x)) xs).bind (lcFin cell)) st1)) := by
    refine ⟨w, ρ, st, s, e, ?_⟩
    have h' : Wn (RepR X.K cl) X.K cl W σ Q w H ((mi ρ st).bind fun xs => (chkN xs.length).bind fun _ => (lcGo (fun x => noExc (lcTurn cell tgt mc me (wipeE ρ own) x)) xs).bind (lcFin cell)) := h
    cases q : mi ρ st with
    | bad => rw [q] at h'; exact h'
    | exc c fs z => rw [q] at h'; exact h'
    | ok xs st1 =>
      rw [q] at h'
      simp only [Out.bind_ok, M.bind, chkN] at h'
      split at h'
      · rename_i hl
        exact fun J w1 H1 e1 s1 r1 => ⟨w1, xs, st1, e1, s1, e.ext e1, r1, hl, Wn.ext e1 h'⟩
      · exact False.elim h'
  refine tG.mono A1 fun J H1 ⟨w1, xs, st1, e1, s1, en1, it, hxl, h1⟩ => fun D hD => ?_
  have gD : w1.G D = none := s1.sub.free hD
  have iD : D ∉ w1.io := fun z => by
    obtain ⟨u, hu⟩ := s1.trk D z
    rw [hD] at hu; cases hu
  refine ⟨fun i m H => m = xs.length - i ∧ i ≤ xs.length ∧ ∃ w st ys vs, Ext w1 H1 w H ∧ SR X.K cl w H st ∧ H D = some (.lst vs) ∧ w.G D = none ∧ D ∉ w.io ∧ RepRs X.K cl w vs ys ∧ ys.length ≤ i ∧
      Wn (RepR X.K cl) X.K cl W σ Q w1 H1 (((lcGo (fun x => noExc (lcTurn cell tgt mc me (wipeE ρ own) x)) (xs.drop i)).bind fun zs => lcFin cell (ys ++ zs)) st),
    ⟨xs.length, by simp, Nat.zero_le _, w1, st1, [], [], (Ext.refl _ _).touch hD, s1.touch gD iD, upd_same, gD, iD, .nil, Nat.le_refl _, h1⟩, ?_⟩
  rintro i m H2 ⟨rfl, hi, w2, st2, ys, vs, e2, s2, hDv, g2, i2, rs, hyl, h2⟩
  obtain ⟨go, stop⟩ := it w2 H2 st2 e2.G s2
  by_cases hlt : i < xs.length
  · have hx : xs[i]? = some xs[i] := by simp [hlt]
    obtain ⟨g1, y1⟩ := go i _ hx
    rw [List.drop_eq_getElem_cons hlt] at h2
    simp only [lcGo, M.bind_assoc_at, M.bind_assoc] at h2
    obtain ⟨o, st3, q3, h3⟩ := Wn.step h2 noExc_ne
    have q4 := noExc_ok q3
    refine .inr ⟨g1, fun H' => i + 1 ≤ xs.length ∧ ∃ w st ys vs, Ext w1 H1 w H' ∧ SR X.K cl w H' st ∧ H' D = some (.lst vs) ∧ w.G D = none ∧ D ∉ w.io ∧ RepRs X.K cl w vs ys ∧ ys.length ≤ i + 1 ∧
      Wn (RepR X.K cl) X.K cl W σ Q w1 H1 (((lcGo (fun x => noExc (lcTurn cell tgt mc me (wipeE ρ own) x)) (xs.drop (i + 1))).bind fun zs => lcFin cell (ys ++ zs)) st), fun H' q => ⟨xs.length - (i + 1), by omega, rfl, q⟩, fun v H3 y => ?_⟩
    obtain ⟨w3, e3, s3, r3⟩ := y1 v H3 y
    obtain ⟨d3, g3, i3⟩ := e3.beside hDv g2 i2
    -- the target
    unfold lcTurn at q4
    obtain ⟨ρ1, st4, q5, q6⟩ := M.bind_inv q4
    have := bindTg_st q5
    subst this
    have en3 : EnvR X.K cl Wf w3 (L2.wipe σ own) (wipeE ρ own) := (((en1.ext (e2.trans e3)).wipe).wish trivial)
    refine ⟨w3, wipeE ρ own, st4, xs[i], ρ1, st4, s3, en3, r3, q5, fun σ' en' hl' hj' => ⟨?_, ?_⟩⟩
    · rw [wipe_eq hl' fun j hj => hj' j fun z => hj (hown j z)]
      exact wipe_eq (L2.wipe_length _ _) fun j hj => L2.wipe_out hj
    · obtain ⟨k, st5, q7, q8⟩ := M.bind_inv q6
      refine ⟨w3, ρ1, st4, s3, en', ?_⟩
      rw [q7]
      intro b w4 H4 e4 s4 rb
      subst rb
      obtain ⟨d4, g4, i4⟩ := e4.beside d3 g3 i3
      cases b with
      | false =>
        cases q8
        rw [if_neg Bool.false_ne_true]
        exact ⟨hlt, w4, st3, ys, vs, (e2.trans e3).trans e4, s4, d4, g4, i4, (rs.ext e3).ext e4, by omega, by simpa only [M.bind_assoc_at, M.bind_assoc, M.pure_bind] using h3⟩
      | true =>
        simp only [if_true] at q8 ⊢
        obtain ⟨y, st6, q9, q10⟩ := M.bind_inv q8
        refine ⟨w4, ρ1, st5, s4, en'.ext e4, ?_⟩
        rw [q9]
        intro u w5 H5 e5 s5 ru
        obtain ⟨d5, g5, i5⟩ := e5.beside d4 g4 i4
        have rs5 : RepRs X.K cl w5 vs ys := ((rs.ext e3).ext e4).ext e5
        have hlen5 : vs.length < sizeLine := by rw [rs.length]; omega
        refine ⟨vs, d5, hlen5, hlt, ?_⟩
        cases cell with
        | true =>
          simp only [if_true] at q10
          cases q10
          exact ⟨w5, st3, ys ++ [y], vs ++ [u], (((e2.trans e3).trans e4).trans e5).touch hD, s5.touch g5 i5, upd_same, g5, i5, RepRs.app rs5 (.cons ru .nil), by simp; omega, by
            simpa only [M.bind_assoc_at, M.bind_assoc, M.pure_bind, List.append_assoc, List.singleton_append] using h3⟩
        | false =>
          simp only [Bool.false_eq_true, if_false] at q10
          obtain ⟨d, st7, q11, q12⟩ := M.bind_inv q10
          cases q12
          obtain ⟨w6, e6, s6, r6⟩ := frz_ok s5 ru q11
          obtain ⟨d6, g6, i6⟩ := e6.beside d5 g5 i5
          exact ⟨w6, st3, ys ++ [.v d], vs ++ [u], ((((e2.trans e3).trans e4).trans e5).trans e6).touch hD, s6.touch g6 i6, upd_same, g6, i6, RepRs.app (rs5.ext e6) (.cons (show RepR X.K cl w6 u (.v d) from r6) .nil), by simp; omega, by
            simpa only [M.bind_assoc_at, M.bind_assoc, M.pure_bind, List.append_assoc, List.singleton_append] using h3⟩
  · have he : i = xs.length := by omega
    subst he
    rw [List.drop_length] at h2
    simp only [lcGo] at h2
    have h3 : Wn (RepR X.K cl) X.K cl W σ Q w1 H1 (lcFin cell ys st2) := by simpa [M.bind, M.pure] using h2
    refine .inl ⟨stop, ?_⟩
    unfold lcFin at h3
    cases cell with
    | true =>
      simp only [if_true] at h3
      refine h3 (.ref D) _ H2 (e2.enlist hD) (s2.enlist hDv g2 i2 rs) ⟨D, ?_, rfl⟩
      show (w2.io ++ [D])[List.length st2]? = some D
      rw [← s2.len, List.getElem?_concat_length]
    | false =>
      simp only [Bool.false_eq_true, if_false] at h3
      obtain ⟨ds, st4, q4, h4⟩ := Wn.step h3 frzs_ne
      obtain ⟨w4, e4, s4, r4⟩ := frzs_ok s2 rs q4
      obtain ⟨d4, g4, i4⟩ := e4.beside hDv g2 i2
      exact h4 (.ref D) _ H2 ((e2.trans e4).adopt hD g4) (s4.adopt d4 g4 i4) (show Rep X.K cl _ _ _ from .lst (SqL.of upd_same) (r4.mono fun b u q => by show upd w4.G D _ b = some u; rw [upd_ne (ne_of_none q g4)]; exact q))
end
end SV

set_option maxRecDepth 100000
set_option maxHeartbeats 2000000
/-! SvO: comprehensions as expressions and stored; enumerate, zip; errors raised and caught -/
namespace SV
open PySem PySem.Spec PyProof.Rows
open L2 hiding It
section
variable {X : Cx} {cl : Nat → Option Addr} {W : WY} {a b c tg : Expr} {ma mb mc : Env → M R} {pos : Pos} {m : Mt} {ct : Ctab}
theorem ve_lc {elt iter : Expr} {ifs : List Expr} {scope : Scope} {own : List (Str × Nat)} {cell : Bool} {tgt : Tg} {mi : Env → M (List R)} {mt : Env → M Bool} {me : Env → M R} (hc : X.calm = true) (hN : X.N.Nodup) (hi : VI X cl W tg iter mi) (ok : BlkOk X.N X.env.scope scope own)
    (hg : ∀ (s : Shared) (H : Hp) (C : Addr) (cs : List (Str × Addr)) (fp : List Addr), VG (X.blk s H scope (compEnvC scope cs C X.env) fp) cl Wf tg tgt)
    (ht : ∀ (s : Shared) (H : Hp) (C : Addr) (cs : List (Str × Addr)) (fp : List Addr), PTs (X.blk s H scope (compEnvC scope cs C X.env) fp) ifs (tB X.K cl Wf mt))
    (he : ∀ (s : Shared) (H : Hp) (C : Addr) (cs : List (Str × Addr)) (fp : List Addr), VE (X.blk s H scope (compEnvC scope cs C X.env) fp) cl Wf elt me)
    (hs : ∀ x, foldedSetIterable iter X.env x = pure x) (hown : ∀ j ∈ tgt.slots, j ∈ own.map (·.2)) :
    VE X cl W (.ListComp elt [⟨tg, iter, ifs, 0⟩] scope pos) (lcM cell tgt (own.map (·.2)) mi mt me) :=
  PE.imp (pe_lc hc hN hi ok hg ht he hs) fun σ H Q h => lc_read hown h
theorem vs_asgLc {i : Nat} {y : Str} {py spos : Pos} {elt iter : Expr} {ifs : List Expr} {scope : Scope} {own : List (Str × Nat)} {cell : Bool} {tgt : Tg} {mi : Env → M (List R)} {mt : Env → M Bool} {me : Env → M R} (hc : X.calm = true) (hN : X.N.Nodup) (hy : X.N[i]? = some y) (hyl : X.env.scope.names.lookup y = some .local)
    (hsw : swapsWith (.ListComp elt [⟨tg, iter, ifs, 0⟩] scope pos) (some (.Name y py)) spos.line X.env = pure true) (hi : VI X cl W tg iter mi) (ok : BlkOk X.N X.env.scope scope own)
    (hg : ∀ (s : Shared) (H : Hp) (C : Addr) (cs : List (Str × Addr)) (fp : List Addr), VG (X.blk s H scope (compEnvC scope cs C X.env) fp) cl Wf tg tgt)
    (ht : ∀ (s : Shared) (H : Hp) (C : Addr) (cs : List (Str × Addr)) (fp : List Addr), PTs (X.blk s H scope (compEnvC scope cs C X.env) fp) ifs (tB X.K cl Wf mt))
    (he : ∀ (s : Shared) (H : Hp) (C : Addr) (cs : List (Str × Addr)) (fp : List Addr), VE (X.blk s H scope (compEnvC scope cs C X.env) fp) cl Wf elt me)
    (hs : ∀ x, foldedSetIterable iter X.env x = pure x) (hown : ∀ j ∈ tgt.slots, j ∈ own.map (·.2)) :
    VS X cl W (.Assign [.Name y py] (.ListComp elt [⟨tg, iter, ifs, 0⟩] scope pos) spos) (fun ρ st => (lcM cell tgt (own.map (·.2)) mi mt me ρ st).to ρ fun r st1 => .nx (ρ.set i (some r)) st1) := by
  refine PS.imp (ps_setLc (i := i) (g := tTg X.K cl Wf tgt) (tt := tB X.K cl Wf mt) (te := tV X.K cl Wf me) hc hN hy hyl hsw hi ok hg ht he hs) fun D σ H h => ?_
  obtain ⟨w, ρ, st, s, e, h⟩ := h
  refine lc_read hown ((tG.to (m := lcM cell tgt (own.map (·.2)) mi mt me) s e h).mono fun v H1 ⟨w1, r, st1, e1, s1, en1, r1, h1⟩ => ?_)
  exact h1 _ w1 H1 (Ext.refl _ _) s1 (en1.set r1)
/-! ### enumerate, zip -/
theorem enumD_get : ∀ {ds : List D} {k i : Nat} {x : R}, (enumD k ds)[i]? = some x → ∃ d, ds[i]? = some d ∧ x = .v (.tup [.int ((k + i : Nat) : Int), d])
  | [], _, _, _, h => by simp [enumD] at h
  | d :: ds, k, 0, x, h => by simp [enumD] at h; exact ⟨d, rfl, h.symm⟩
  | d :: ds, k, i + 1, x, h => by
    obtain ⟨d', h1, h2⟩ := enumD_get (ds := ds) (k := k + 1) (i := i) (x := x) (by simpa [enumD] using h)
    exact ⟨d', by simpa using h1, by rw [h2, show k + 1 + i = k + (i + 1) by omega]⟩
theorem enumD_len : ∀ {ds : List D} {k : Nat}, (enumD k ds).length = ds.length
  | [], _ => rfl
  | _ :: ds, k => by simp [enumD, enumD_len (ds := ds)]
theorem zipD_get : ∀ {as bs : List D} {i : Nat} {x : R}, (zipD as bs)[i]? = some x → ∃ a b, as[i]? = some a ∧ bs[i]? = some b ∧ x = .v (.tup [a, b])
  | [], _, _, _, h => by simp [zipD] at h
  | _ :: _, [], _, _, h => by simp [zipD] at h
  | a :: as, b :: bs, 0, x, h => by simp [zipD] at h; exact ⟨a, b, rfl, rfl, h.symm⟩
  | a :: as, b :: bs, i + 1, x, h => by
    obtain ⟨a', b', h1, h2, h3⟩ := zipD_get (as := as) (bs := bs) (i := i) (x := x) (by simpa [zipD] using h)
    exact ⟨a', b', by simpa using h1, by simpa using h2, h3⟩
theorem zipD_len : ∀ {as bs : List D}, (zipD as bs).length = min as.length bs.length
  | [], _ => by simp [zipD]
  | _ :: _, [] => by simp [zipD]
  | _ :: as, _ :: bs => by simp [zipD, zipD_len (as := as) (bs := bs)]
theorem lstOf_step {γ δ : Type} {rel : Wd → δ → γ → Prop} {f : List D → M γ} {w : Wd} {H : Hp} {st : Store} {σ : L2.St} {Q : δ → Hp → Prop} {r : R} {x : L2.V} (s : SR X.K cl w H st) (hr : RepR X.K cl w x r)
    (h : Wn rel X.K cl W σ Q w H (((lstOf r).bind f) st)) : ∃ w1 ds st1 p vs, Ext w H w1 H ∧ SR X.K cl w1 H st1 ∧ x = .ref p ∧ SqL X.K w1.G p vs ∧ Reps X.K cl w1.G vs ds ∧ Wn rel X.K cl W σ Q w1 H (f ds st1) := by
  unfold lstOf at h
  rw [M.bind_assoc_at] at h
  obtain ⟨d, st1, q1, h1⟩ := Wn.step h frz_ne
  obtain ⟨w1, e1, s1, r1⟩ := frz_ok s hr q1
  cases d with
  | lst ds =>
    cases r1 with
    | lst hq rr => exact ⟨w1, ds, st1, _, _, e1, s1, rfl, hq, rr, Wn.ext e1 h1⟩
  | _ => exact False.elim h1
theorem iter_enum {K : PySem.W.Frag} {w : Wd} {p : Addr} {vs : List L2.V} {ds : List D} (h : SqL K w.G p vs) (r : Reps K cl w.G vs ds) : IterOk K cl w (Ite K p) (enumD 0 ds) := by
  intro w2 H2 st2 sg s2
  have hq : SqL K H2 p vs := s2.sub.seq (sg.seq h)
  refine ⟨fun i x hx => ?_, ⟨vs, hq, by simp [r.length, enumD_len]⟩⟩
  obtain ⟨d, hd, rfl⟩ := enumD_get hx
  obtain ⟨v, hv, rv⟩ := r.get hd
  refine ⟨⟨vs, v, hq, hv⟩, fun u H3 y => ?_⟩
  obtain ⟨T, x, rfl, hT, rfl, y⟩ := y
  have := y vs hq
  rw [hv] at this; cases this
  obtain ⟨s3, e3⟩ := s2.lay (o := .tup [.int (i : Nat), v]) hT
  refine ⟨_, e3, s3, show Rep K cl (upd w2.G T _) _ _ from .tup (SqT.of upd_same) (.cons ?_ (.cons (Rep.mono e3.G (Rep.mono sg rv)) .nil))⟩
  rw [Nat.zero_add]; exact .int _
theorem vi_enm {elts : List Expr} {kk : Nat} {tpos p : Pos} (hg : Gl X "enumerate") (hm : X.mg "enumerate" = none) (hs : noStar a = true) (ha : VE X cl W a ma) :
    VI X cl W (.Tuple elts kk tpos) (.Call (.Name "enumerate" p) [a] [] pos) (fun ρ => (ma ρ).bind fun x => (lstOf x).bind fun ds => M.pure (enumD 0 ds)) := by
  refine PI.imp (pi_enum hg hm (pa_cons ha pa_nil (star_cons hs _ _)) (star_cons hs _ _)) fun σ H R h => ?_
  obtain ⟨w, ρ, st, s, e, h⟩ := h
  refine (tG.bind (m := ma) s e h).mono fun x H1 ⟨w1, rx, st1, e1, s1, en1, r1, h1⟩ => ?_
  obtain ⟨w2, ds, st2, p, vs, e2, s2, rfl, hq, rr, h2⟩ := lstOf_step s1 r1 h1
  exact ⟨p, vs, rfl, s2.sub.seq hq, h2 _ w2 H1 (Ext.refl _ _) s2 (iter_enum hq rr)⟩
theorem iter_zip {K : PySem.W.Frag} {w : Wd} {p q : Addr} {vs us : List L2.V} {ds es : List D} (h : SqL K w.G p vs) (r : Reps K cl w.G vs ds) (h' : SqL K w.G q us) (r' : Reps K cl w.G us es) : IterOk K cl w (Itz K p q) (zipD ds es) := by
  intro w2 H2 st2 sg s2
  have hq : SqL K H2 p vs := s2.sub.seq (sg.seq h)
  have hq' : SqL K H2 q us := s2.sub.seq (sg.seq h')
  refine ⟨fun i x hx => ?_, ⟨vs, us, hq, hq', by rw [zipD_len, r.length, r'.length]; omega⟩⟩
  obtain ⟨d, d', hd, hd', rfl⟩ := zipD_get hx
  obtain ⟨v, hv, rv⟩ := r.get hd
  obtain ⟨v', hv', rv'⟩ := r'.get hd'
  refine ⟨⟨vs, us, v, v', hq, hq', hv, hv'⟩, fun u H3 y => ?_⟩
  obtain ⟨T, x, x', rfl, hT, rfl, y, y'⟩ := y
  have z := y vs hq
  rw [hv] at z; cases z
  have z := y' us hq'
  rw [hv'] at z; cases z
  obtain ⟨s3, e3⟩ := s2.lay (o := .tup [v, v']) hT
  exact ⟨_, e3, s3, show Rep K cl (upd w2.G T _) _ _ from .tup (SqT.of upd_same) (.cons (Rep.mono e3.G (Rep.mono sg rv)) (.cons (Rep.mono e3.G (Rep.mono sg rv')) .nil))⟩
theorem vi_zip {elts : List Expr} {kk : Nat} {tpos p : Pos} (hg : Gl X "zip") (hm : X.mg "zip" = none) (hs : noStar a = true) (hs' : noStar b = true) (ha : VE X cl W a ma) (hb : VE X cl W b mb) :
    VI X cl W (.Tuple elts kk tpos) (.Call (.Name "zip" p) [a, b] [] pos) (fun ρ => (ma ρ).bind fun x => (mb ρ).bind fun y => (lstOf x).bind fun as => (lstOf y).bind fun bs => M.pure (zipD as bs)) := by
  refine PI.imp (pi_zip hg hm (pa_cons ha (pa_cons hb pa_nil (star_cons hs' _ _)) (star_cons hs _ _)) (star_cons hs _ _) (by rw [star_cons hs']; rfl)) fun σ H R h => ?_
  obtain ⟨w, ρ, st, s, e, h⟩ := h
  refine (tG.bind (m := ma) s e h).mono fun x H1 ⟨w1, rx, st1, e1, s1, en1, r1, h1⟩ => ?_
  refine (tG.bind (m := mb) s1 en1 h1).mono fun y H2 ⟨w2, ry, st2, e2, s2, en2, r2, h2⟩ => ?_
  obtain ⟨w3, ds, st3, p, vs, e3, s3, rfl, hq, rr, h3⟩ := lstOf_step s2 (r1.ext e2) h2
  obtain ⟨w4, es, st4, q, us, e4, s4, rfl, hq', rr', h4⟩ := lstOf_step s3 (r2.ext e3) h3
  exact ⟨p, q, vs, us, rfl, s4.sub.seq (e4.G.seq hq), s4.sub.seq hq', h4 _ w4 H2 (Ext.refl _ _) s4 (iter_zip (e4.G.seq hq) (rr.mono e4.G) hq' rr')⟩
/-! ### errors -/
theorem vs_rse {x z : Str} {j i : Nat} {C : Addr} {p p2 p3 : Pos} (hc : X.calm = true) (tk : Takes X W.f) (O : OwnX X.K C) (hC : cl i = some C) (h100 : ¬ i < 100) (hm : X.mg x = some (.ref C)) (hg : Gl X x) (hdb : (x == ("__debug__" : Str)) = false) :
    VS X cl W (.Raise (some (.Call (.Name x p) [.Constant (.str z) j p2] [] p3)) none pos) (fun ρ st => .exc i [] ρ st) := by
  refine PS.imp (ps_raise hc tk (pmk_own PySem.F.excBase_ValueError O.q hm O.kp (raises_own O.sb O.ty) hg hdb)) fun D σ H h => ?_
  obtain ⟨w, ρ, st, s, e, h⟩ := h
  exact h (.ref C) none σ w H (Ext.refl _ _) s e ⟨⟨C, hC, rfl, h100⟩, .inl ⟨rfl, rfl⟩⟩
/-! ### a suite -/
/-- the wish within a suite that holds the error at a -/
abbrev Wsu (a : Addr) (cls : Value) (d : Option Addr) : WY := ⟨fun _ _ _ _ => False, some (a, cls, d)⟩
theorem takesSu {a : Addr} {cls : Value} {d : Option Addr} : Takes X (Wsu a cls d).f := takes0
theorem clrX_len : ∀ {ρ : Env}, (clrX ρ).length = ρ.length
  | [] => rfl
  | none :: ρ => by simp [clrX, clrX_len (ρ := ρ)]
  | some (.v d) :: ρ => by simp [clrX, clrX_len (ρ := ρ)]
  | some (.ref n) :: ρ => by simp [clrX, clrX_len (ρ := ρ)]
  | some (.ex c fs) :: ρ => by simp [clrX, clrX_len (ρ := ρ)]
theorem clrX_get : ∀ {ρ : Env} {i : Nat} {r : R}, (clrX ρ)[i]? = some (some r) → ρ[i]? = some (some r) ∧ ∀ c fs, r ≠ .ex c fs
  | [], i, r, h => by simp [clrX] at h
  | none :: ρ, 0, r, h => by simp [clrX] at h
  | some (.v d) :: ρ, 0, r, h => by simp [clrX] at h; subst h; exact ⟨rfl, fun _ _ z => by cases z⟩
  | some (.ref n) :: ρ, 0, r, h => by simp [clrX] at h; subst h; exact ⟨rfl, fun _ _ z => by cases z⟩
  | some (.ex c fs) :: ρ, 0, r, h => by simp [clrX] at h
  | none :: ρ, i + 1, r, h => by have := clrX_get (ρ := ρ) (i := i) (r := r) (by simpa [clrX] using h); simpa using this
  | some (.v d) :: ρ, i + 1, r, h => by have := clrX_get (ρ := ρ) (i := i) (r := r) (by simpa [clrX] using h); simpa using this
  | some (.ref n) :: ρ, i + 1, r, h => by have := clrX_get (ρ := ρ) (i := i) (r := r) (by simpa [clrX] using h); simpa using this
  | some (.ex c fs) :: ρ, i + 1, r, h => by have := clrX_get (ρ := ρ) (i := i) (r := r) (by simpa [clrX] using h); simpa using this
/-- the world with another error held -/
theorem SR.hold {K : PySem.W.Frag} {w : Wd} {H : Hp} {st : Store} (s : SR K cl w H st) (x : Option (Addr × Nat × Option Addr)) : SR K cl { w with ex := x } H st := by
  have ee : ∀ {v : L2.V} {r : R}, RepR K cl w v r → RepR K cl { w with ex := x } v r := fun {v r} q => by
    cases r with
    | v d => exact q
    | ref n => exact q
    | ex c fs => exact q
  refine ⟨s.sub, s.len, s.nd, s.trk, fun n c a q ha => ?_⟩
  have k := s.cell n c a q ha
  cases c with
  | lst ys =>
    obtain ⟨h1, us, h2, h3⟩ := k
    exact ⟨h1, us, h2, L2.Paired.mapP h3 fun _ _ z => ee z⟩
  | obj c fs =>
    obtain ⟨h1, C, dx, fvs, h2, h3, h4⟩ := k
    exact ⟨h1, C, dx, fvs, h2, h3, L2.Paired.mapP h4 fun _ _ z => ⟨z.1, ee z.2⟩⟩
  | dct kvs =>
    obtain ⟨h1, vs, h3, h4⟩ := k
    exact ⟨h1, vs, h3, L2.Paired.mapP h4 fun _ _ z => ⟨z.1, ee z.2⟩⟩
  | fz d => exact k
theorem RepR.hold {K : PySem.W.Frag} {w : Wd} {v : L2.V} {r : R} (h : RepR K cl w v r) (x : Option (Addr × Nat × Option Addr)) : RepR K cl { w with ex := x } v r := by
  cases r with
  | v d => exact h
  | ref n => exact h
  | ex c fs => exact h
theorem Ext.hold {w w' : Wd} {H H' : Hp} {x : Option (Addr × Nat × Option Addr)} (e : Ext { w with ex := x } H w' H') : Ext w H { w' with ex := w.ex } H' := ⟨e.io, e.G, rfl, e.fr, e.new, e.gnew⟩
theorem EnvR.unhold {K : PySem.W.Frag} {W' : WY} {w w0 : Wd} {σ : L2.St} {ρ : Env} (h : EnvR K cl W' w σ ρ) (hx : XiOk cl W { w with ex := w0.ex }) : EnvR K cl W { w with ex := w0.ex } σ (clrX ρ) := by
  refine ⟨by rw [clrX_len]; exact h.len, fun i r q => ?_, hx⟩
  obtain ⟨q1, q2⟩ := clrX_get q
  obtain ⟨v, h1, h2⟩ := h.slot i r q1
  refine ⟨v, h1, .inl ?_⟩
  rcases h2 with h2 | h2
  · exact h2.hold _
  · cases r with
    | ex c fs => exact absurd rfl (q2 c fs)
    | v d => exact False.elim h2
    | ref n => exact False.elim h2
theorem XiOk.same {w w' : Wd} (h : XiOk cl W w) (e : w'.ex = w.ex) : XiOk cl W w' := by
  unfold XiOk at h ⊢
  cases q : W.xi with
  | none => trivial
  | some p => rw [q] at h; simp only at h ⊢; rw [e]; exact h
/-- what is told of a try with one clause -/
def triAs (mb ms : Env → Store → OutS) (cs : List Nat) (j : Nat) : Env → Store → OutS := fun ρ st => match mb ρ st with
  | .exc c fs ρ1 st1 => if c ∈ cs then (match ms ((clrX ρ1).set j (some (.ex c fs))) st1 with
      | .nx ρ2 st2 => .nx (clrX (ρ2.set j none)) st2
      | .rt r st2 => .rt r st2
      | _ => .bad) else .exc c fs ρ1 st1
  | o => o
def triOnly (mb ms : Env → Store → OutS) (cs : List Nat) : Env → Store → OutS := fun ρ st => match mb ρ st with
  | .exc c fs ρ1 st1 => if c ∈ cs then (match ms ρ1 st1 with
      | .nx ρ2 st2 => .nx ρ2 st2
      | .rt r st2 => .rt r st2
      | _ => .bad) else .exc c fs ρ1 st1
  | o => o
theorem vs_try_as {x n : Str} {C0 : Addr} {i : Nat} {body suite : List Stmt} {b0 : Stmt} {np pos' : Pos} {mb ms : Env → Store → OutS} {cs : List Nat} (hs : X.stack = X.env :: X.outer) (hf : X.env.frame = some X.env.locals) (hN : X.N.Nodup) (hi : X.N[i]? = some n) (hln : X.env.kindOf n = some .local) (hc : Names X x (.ref C0)) (tk : Takes X W.f)
    (hx : ∀ k C, cl k = some C → ¬ k < 100 → PySem.W.exmOne X.K (.ref C) (.ref C0) = some (decide (k ∈ cs)))
    (hb : ∀ (W' : WX) (pn : List (Addr × Obj)) (xe : Value → Shared → Prop), Takes (X.tr pn xe) W' → PassesOwn (model X.prog X.w) X.A X.env xe → VSs (X.tr pn xe) cl ⟨W', W.xi⟩ body mb)
    (hsu : ∀ (a : Addr) (oe : Obj) (cls : Value) (d : Option Addr) (pn : List (Addr × Obj)), Zc cls d oe → (∃ vs, oe.data = .fields vs) → VSs (X.suite a ((a, oe) :: pn)) cl (Wsu a cls d) (b0 :: suite) ms) :
    VS X cl W (.Try body [.ExceptHandler (some (.Name x np)) (some n) (b0 :: suite) pos'] [] [] pos) (triAs mb ms cs i) := by
  refine PS.imp (ps_try_as (tb := fun W' => tS X.K cl ⟨W', W.xi⟩ mb) (ts := fun a cls d => tS X.K cl (Wsu a cls d) ms) (Wout := W.f) hs hf hN hi hln hc tk hb hsu) fun D σ H h => ?_
  obtain ⟨w, ρ, st, s, e, h⟩ := h
  refine ⟨w, ρ, st, s, e.wish e.xi, ?_⟩
  simp only [triAs] at h
  cases q : mb ρ st with
  | nx ρ1 st1 => rw [q] at h; exact fun σ' w' H' e' s' en' => h σ' w' H' e' s' (en'.wish en'.xi)
  | rt r st1 => rw [q] at h; exact h
  | bk ρ1 st1 => rw [q] at h; exact fun σ' w' H' e' s' en' => h σ' w' H' e' s' (en'.wish en'.xi)
  | ct ρ1 st1 => rw [q] at h; exact fun σ' w' H' e' s' en' => h σ' w' H' e' s' (en'.wish en'.xi)
  | bad => rw [q] at h; exact h
  | exc c fs ρ1 st1 =>
    rw [q] at h
    intro cls d σ' w' H' e' s' en' rx
    obtain ⟨⟨C, hC, rfl, h100⟩, fx⟩ := rx
    refine ⟨decide (c ∈ cs), hx c C hC h100, fun hyes a ha => ?_, fun hno => ?_⟩
    · simp only [if_pos (of_decide_eq_true hyes)] at h
      have en2 : EnvR X.K cl (Wsu a (.ref C) d) { w' with ex := some (a, c, d) } (σ'.set i (some (.ref a))) ((clrX ρ1).set i (some (.ex c fs))) := by
        have xo : XiOk cl (Wsu a (.ref C) d) { w' with ex := some (a, c, d) } := ⟨c, C, rfl, hC, rfl, h100⟩
        have en0 : EnvR X.K cl (Wsu a (.ref C) d) { w' with ex := some (a, c, d) } σ' (clrX ρ1) := EnvR.unhold (w0 := { w' with ex := some (a, c, d) }) en' xo
        exact en0.set' (.inr ⟨a, d, rfl, rfl, fx⟩)
      refine ⟨_, _, st1, s'.hold _, en2, ?_⟩
      cases q2 : ms ((clrX ρ1).set i (some (.ex c fs))) st1 with
      | nx ρ2 st2 =>
        rw [q2] at h
        intro σ2 w3 H3 e3 s3 en3
        exact h (σ2.set i none) _ H3 (e'.trans e3.hold) (s3.hold _) (EnvR.unhold (w0 := w') en3.unset (en'.xi.same rfl))
      | rt r st2 =>
        rw [q2] at h
        intro v w3 H3 e3 s3 r3
        exact h v _ H3 (e'.trans e3.hold) (s3.hold _) (r3.hold _)
      | bk ρ2 st2 => rw [q2] at h; exact False.elim h
      | ct ρ2 st2 => rw [q2] at h; exact False.elim h
      | exc c2 fs2 ρ2 st2 => rw [q2] at h; exact False.elim h
      | bad => rw [q2] at h; exact False.elim h
    · simp only [if_neg (of_decide_eq_false hno)] at h
      exact h (.ref C) d σ' w' H' e' s' (en'.wish en'.xi) ⟨⟨C, hC, rfl, h100⟩, fx⟩
theorem vs_try_only {x : Str} {C0 : Addr} {body suite : List Stmt} {b0 : Stmt} {np pos' : Pos} {mb ms : Env → Store → OutS} {cs : List Nat} (hs : X.stack = X.env :: X.outer) (hf : X.env.frame = some X.env.locals) (hc : Names X x (.ref C0)) (tk : Takes X W.f) (hxi : W.xi = none)
    (hx : ∀ k C, cl k = some C → ¬ k < 100 → PySem.W.exmOne X.K (.ref C) (.ref C0) = some (decide (k ∈ cs)))
    (hb : ∀ (W' : WX) (pn : List (Addr × Obj)) (xe : Value → Shared → Prop), Takes (X.tr pn xe) W' → PassesOwn (model X.prog X.w) X.A X.env xe → VSs (X.tr pn xe) cl ⟨W', W.xi⟩ body mb)
    (hsu : ∀ (a : Addr) (oe : Obj) (cls : Value) (d : Option Addr) (pn : List (Addr × Obj)), Zc cls d oe → (∃ vs, oe.data = .fields vs) → VSs (X.suite a ((a, oe) :: pn)) cl Wf (b0 :: suite) ms) :
    VS X cl W (.Try body [.ExceptHandler (some (.Name x np)) none (b0 :: suite) pos'] [] [] pos) (triOnly mb ms cs) := by
  refine PS.imp (ps_try_only (tb := fun W' => tS X.K cl ⟨W', W.xi⟩ mb) (ts := fun a cls d => tS X.K cl Wf ms) (Wout := W.f) hs hf hc tk hb hsu) fun D σ H h => ?_
  obtain ⟨w, ρ, st, s, e, h⟩ := h
  have xt : ∀ w, XiOk cl W w := fun w => by unfold XiOk; rw [hxi]; trivial
  refine ⟨w, ρ, st, s, e.wish e.xi, ?_⟩
  simp only [triOnly] at h
  cases q : mb ρ st with
  | nx ρ1 st1 => rw [q] at h; exact fun σ' w' H' e' s' en' => h σ' w' H' e' s' (en'.wish en'.xi)
  | rt r st1 => rw [q] at h; exact h
  | bk ρ1 st1 => rw [q] at h; exact fun σ' w' H' e' s' en' => h σ' w' H' e' s' (en'.wish en'.xi)
  | ct ρ1 st1 => rw [q] at h; exact fun σ' w' H' e' s' en' => h σ' w' H' e' s' (en'.wish en'.xi)
  | bad => rw [q] at h; exact h
  | exc c fs ρ1 st1 =>
    rw [q] at h
    intro cls d σ' w' H' e' s' en' rx
    obtain ⟨⟨C, hC, rfl, h100⟩, fx⟩ := rx
    refine ⟨decide (c ∈ cs), hx c C hC h100, fun hyes a ha => ?_, fun hno => ?_⟩
    · simp only [if_pos (of_decide_eq_true hyes)] at h
      refine ⟨w', ρ1, st1, s', en'.wish trivial, ?_⟩
      cases q2 : ms ρ1 st1 with
      | nx ρ2 st2 =>
        rw [q2] at h
        intro σ2 w3 H3 e3 s3 en3
        exact h σ2 w3 H3 (e'.trans e3) s3 (en3.wish (xt _))
      | rt r st2 =>
        rw [q2] at h
        intro v w3 H3 e3 s3 r3
        exact h v w3 H3 (e'.trans e3) s3 r3
      | bk ρ2 st2 => rw [q2] at h; exact False.elim h
      | ct ρ2 st2 => rw [q2] at h; exact False.elim h
      | exc c2 fs2 ρ2 st2 => rw [q2] at h; exact False.elim h
      | bad => rw [q2] at h; exact False.elim h
    · simp only [if_neg (of_decide_eq_false hno)] at h
      exact h (.ref C) d σ' w' H' e' s' (en'.wish en'.xi) ⟨⟨C, hC, rfl, h100⟩, fx⟩
end
end SV

set_option maxRecDepth 100000
set_option maxHeartbeats 2000000
/-! SvP: in a suite: isinstance of the error, its fields -/
namespace SV
open PySem PySem.Spec PyProof.Rows
open L2 hiding It
section
variable {X : Cx} {cl : Nat → Option Addr} {pos : Pos} {m : Mt} {ct : Ctab} {a : Addr} {oe : Obj} {pn : List (Addr × Obj)} {cls : Value} {d : Option Addr}
theorem instX {pins : List (Addr × Obj)} {s : Shared} {σ : L2.St} {H : Hp} {D : Addr} (hz : Zc (.ref D) d oe) (hf : ∃ vs, oe.data = .fields vs) (hd : d = none ∨ ∃ dd fvs, d = some dd ∧ H dd = some (.xd fvs)) (I : L2.Inv (X.suite a ((a, oe) :: pn)) pins σ H s) : ∃ od, PySem.W.InstAt s.heap a oe D od := by
  obtain ⟨hget, _⟩ := I.pin (a, oe) (List.mem_append.mpr (.inl List.mem_cons_self))
  obtain ⟨vs, hv⟩ := hf
  obtain ⟨oc, od, oda, osl⟩ := oe
  obtain ⟨h1, h2⟩ := hz
  dsimp only at h1 h2 hv
  subst h1 h2 hv
  rcases hd with rfl | ⟨dd, fvs, rfl, hx⟩
  · exact ⟨none, hget, rfl, rfl, trivial⟩
  · obtain ⟨mA, ⟨o, es, ep, e, r⟩, _⟩ := (show ObjOk X.prog X.w H s.heap dd (.xd fvs) from I.hok dd _ hx)
    exact ⟨some o, hget, rfl, rfl, e⟩
def HasD (d : Option Addr) (H : Hp) : Prop := d = none ∨ ∃ dd fvs, d = some dd ∧ H dd = some (.xd fvs)
theorem call_isX (hz : Zc cls d oe) (hf : ∃ vs, oe.data = .fields vs) : CallR (X.suite a ((a, oe) :: pn)) (.builtin "isinstance") (fun xs H Q => ∃ D c cv b, cls = .ref D ∧ ExcC X.K D ∧ HasD d H ∧ xs = [.ref a, c] ∧ ClsV c cv ∧ PySem.W.kitOne X.K (.ref D) cv = some b ∧ Q (.bl b) H) := by
  intro pins s σ H xs us Q I r h
  obtain ⟨D, c, cv, b, rfl, C, hd, rfl, k, e, q⟩ := h
  obtain ⟨u1, u2, rfl, r1, r2⟩ := vals2 r
  have e2 := k.eq r2
  subst e2
  cases (show u1 = Value.ref a from r1)
  obtain ⟨od, J⟩ := instX hz hf hd I
  exact PySem.W.kia_one (PySem.W.kitx_exc (by obtain ⟨cd, hc, _⟩ := PySem.W.any_some C.hd; rw [hc]; rfl) C.hg C.hk C.hs C.ha C.hn C.ht C.hm) I.kIn J e (fun z => nomatch z) fun tk => ⟨.bl b, H, I.tok tk, rfl, q⟩
theorem call_isXT (hz : Zc cls d oe) (hf : ∃ vs, oe.data = .fields vs) : CallR (X.suite a ((a, oe) :: pn)) (.builtin "isinstance") (fun xs H Q => ∃ D tp cs us b, cls = .ref D ∧ ExcC X.K D ∧ HasD d H ∧ xs = [.ref a, .ref tp] ∧ H tp = some (.tup cs) ∧ Paired ClsV cs us ∧ PySem.W.kitAny X.K (.ref D) us = some b ∧ Q (.bl b) H) := by
  intro pins s σ H xs us Q I r h
  obtain ⟨D, tp, cs, ws, b, rfl, C, hd, rfl, hT, k, e, q⟩ := h
  obtain ⟨u1, u2, rfl, r1, r2⟩ := vals2 r
  cases (show u1 = Value.ref a from r1)
  cases (show u2 = Value.ref tp from r2)
  obtain ⟨od, J⟩ := instX hz hf hd I
  obtain ⟨_, its, rv, o, h1, h2, n, h3⟩ := (show ObjOk X.prog X.w H s.heap tp (.tup cs) from I.hok tp _ hT)
  have e3 := ClsV.all k rv
  subst e3
  obtain ⟨oc, od', dt, sl⟩ := o
  simp only at h2 h3
  subst h2 h3
  exact PySem.W.kia_tup (PySem.W.kitx_exc (by obtain ⟨cd, hc, _⟩ := PySem.W.any_some C.hd; rw [hc]; rfl) C.hg C.hk C.hs C.ha C.hn C.ht C.hm) I.kIn J h1 e (fun z => nomatch z) fun tk => ⟨.bl b, H, I.tok tk, rfl, q⟩
/-- the slot that holds the error -/
theorem slotX {K : PySem.W.Frag} {w : Wd} {σ : L2.St} {ρ : Env} {H : Hp} {st : Store} {i c : Nat} {fs : List (Str × D)} (s : SR K cl w H st) (e : EnvR K cl (Wsu a cls d) w σ ρ) (q : ρ[i]? = some (some (.ex c fs))) :
    σ[i]? = some (some (.ref a)) ∧ (∃ C, cl c = some C ∧ cls = .ref C ∧ ¬ c < 100) ∧ FldX K cl w.G d fs := by
  obtain ⟨v, h1, h2⟩ := e.slot i _ q
  rcases h2 with h2 | ⟨a', d', h3, rfl, h5⟩
  · exact False.elim h2
  · obtain ⟨c', C, h6, h7, h8, h9⟩ := (e.xi : ∃ c C, w.ex = some (a, c, d) ∧ cl c = some C ∧ cls = .ref C ∧ ¬ c < 100)
    rw [h3] at h6
    cases h6
    exact ⟨h1, ⟨C, h7, h8, h9⟩, h5⟩
theorem FldX.has {K : PySem.W.Frag} {G H : Hp} {fs : List (Str × D)} (h : FldX K cl G d fs) (s : Same G H) : HasD d H := by
  rcases h with ⟨h, _⟩ | ⟨dd, fvs, h1, h2, _⟩
  · exact .inl h
  · exact .inr ⟨dd, fvs, h1, s _ _ h2⟩
theorem kit_exc (M0 : Mok m X.K X.mg cl ct) {c : Nat} {C : Addr} {k : Nat ⊕ String} {v : L2.V} {u : Value} (hC : cl c = some C) (hk : ClsR m X.K X.mg cl k v u) : PySem.W.kitOne X.K (.ref C) u = some (isExc1 ct c k) := by
  cases k with
  | inl i => obtain ⟨D, hD, rfl, rfl⟩ := hk; exact M0.ko c i C D hC hD
  | inr T => obtain ⟨hT, rfl, rfl⟩ := hk; exact M0.kb c C T hC hT
theorem kit_excAny (M0 : Mok m X.K X.mg cl ct) {c : Nat} {C : Addr} (hC : cl c = some C) : ∀ {ks : List (Nat ⊕ String)} {vs : List L2.V} {us : List Value}, (Paired (fun k (p : L2.V × Value) => ClsR m X.K X.mg cl k p.1 p.2) ks (vs.zip us)) → vs.length = us.length → PySem.W.kitAny X.K (.ref C) us = some (ks.any (isExc1 ct c))
  | [], [], [], _, _ => rfl
  | [], v :: vs, u :: us, h, _ => by cases h
  | _, [], _ :: _, _, h => by cases h
  | _, _ :: _, [], _, h => by cases h
  | k :: ks, [], [], h, _ => by cases h
  | k :: ks, v :: vs, u :: us, .cons h t, hl => by
    unfold PySem.W.kitAny
    rw [kit_exc M0 hC h, List.any_cons]
    cases isExc1 ct c k with
    | true => rfl
    | false => exact kit_excAny M0 hC t (by simpa using hl)
abbrev isxM (ct : Ctab) (i : Nat) (ks : List (Nat ⊕ String)) : Env → M R := fun ρ => match ρ[i]? with
  | some (some (.ex c _)) => M.pure (.v (.bl (ks.any (isExc1 ct c))))
  | _ => M.bad
theorem isxM_ex {i : Nat} {ks : List (Nat ⊕ String)} {ρ : Env} {st : Store} {P : Out R → Prop} (h : P (isxM ct i ks ρ st)) (hb : ¬ P .bad) : ∃ c fs, ρ[i]? = some (some (.ex c fs)) ∧ P (.ok (.v (.bl (ks.any (isExc1 ct c)))) st) := by
  cases q : ρ[i]? with
  | none => simp only [isxM, q] at h; exact absurd h hb
  | some o =>
    cases o with
    | none => simp only [isxM, q] at h; exact absurd h hb
    | some r =>
      cases r with
      | ex c fs => simp only [isxM, q] at h; exact ⟨c, fs, rfl, h⟩
      | v d => simp only [isxM, q] at h; exact absurd h hb
      | ref n => simp only [isxM, q] at h; exact absurd h hb
theorem ve_isx1 {p p1 : Pos} {i : Nat} {y : Str} {c : Expr} {k : Nat ⊕ String} {v : L2.V} {u : Value} (hz : Zc cls d oe) (hf : ∃ vs, oe.data = .fields vs) (M0 : Mok m X.K X.mg cl ct) (hg : Gl X "isinstance") (hm : X.mg "isinstance" = none) (hs' : noStar c = true)
    (hN : X.N[i]? = some y) (hv : Vis X.env.scope y) (hd : (y == ("__debug__" : Str)) = false) (hcd : (y == ("__classdict__" : Str)) = false) (hc : PE (X.suite a ((a, oe) :: pn)) c (tC v)) (hk : ClsR m X.K X.mg cl k v u) :
    VE (X.suite a ((a, oe) :: pn)) cl (Wsu a cls d) (.Call (.Name "isinstance" p) [.Name y p1, c] [] pos) (isxM ct i [k]) := by
  refine PE.imp (pe_callB (call_isX hz hf) hg hm (by decide +kernel) (pa_cons (pe_var (i := i) hN hv hd hcd) (pa_cons hc pa_nil (star_cons hs' _ _)) (star_cons rfl _ _)) (by decide) (by decide) (star_cons rfl _ _) (by rw [star_cons hs']; rfl)) fun σ H Q h => ?_
  obtain ⟨w, ρ, st, s, e, h⟩ := h
  obtain ⟨c0, fs, q, h⟩ := isxM_ex (P := Wn (RepR X.K cl) X.K cl (Wsu a cls d) σ Q w H) h id
  obtain ⟨h1, ⟨C, hC, hcl, h100⟩, fx⟩ := slotX s e q
  exact ⟨_, h1, C, v, u, _, hcl, M0.xc c0 C hC h100, fx.has s.sub, rfl, clsR_v hk, kit_exc M0 hC hk, by simpa using h (.bl _) w H (Ext.refl _ _) s (Rep.bl _)⟩
theorem ve_isxT {p p1 p2 : Pos} {i j : Nat} {y : Str} {es : List Expr} {ks : List (Nat ⊕ String)} {vs : List L2.V} {us : List Value} (hz : Zc cls d oe) (hf : ∃ vs, oe.data = .fields vs) (M0 : Mok m X.K X.mg cl ct) (hg : Gl X "isinstance") (hm : X.mg "isinstance" = none)
    (hN : X.N[i]? = some y) (hv : Vis X.env.scope y) (hd : (y == ("__debug__" : Str)) = false) (hcd : (y == ("__classdict__" : Str)) = false) (hc : PCs (X.suite a ((a, oe) :: pn)) es vs)
    (hk : Paired (fun k (p : L2.V × Value) => ClsR m X.K X.mg cl k p.1 p.2) ks (vs.zip us)) (hl : vs.length = us.length) (hzl : vs.length ≤ sizeLine) :
    VE (X.suite a ((a, oe) :: pn)) cl (Wsu a cls d) (.Call (.Name "isinstance" p) [.Name y p1, .Tuple es j p2] [] pos) (isxM ct i ks) := by
  refine PE.imp (pe_callB (call_isXT hz hf) hg hm (by decide +kernel) (pa_cons (pe_var (i := i) hN hv hd hcd) (pa_cons (pe_tup hc) pa_nil (star_cons rfl _ _)) (star_cons rfl _ _)) (by decide) (by decide) (star_cons rfl _ _) (by rw [star_cons rfl]; rfl)) fun σ H Q h => ?_
  obtain ⟨w, ρ, st, s, e, h⟩ := h
  obtain ⟨c0, fs, q, h⟩ := isxM_ex (P := Wn (RepR X.K cl) X.K cl (Wsu a cls d) σ Q w H) h id
  obtain ⟨h1, ⟨C, hC, hcl, h100⟩, fx⟩ := slotX s e q
  refine ⟨_, h1, hzl, fun t ht => ?_⟩
  obtain ⟨s4, e4⟩ := s.lay (o := .tup vs) ht
  exact ⟨C, t, vs, us, _, hcl, M0.xc c0 C hC h100, (fx.mono e4.G).has s4.sub, rfl, upd_same, paired_cls hk hl, kit_excAny M0 hC hk hl, h (.bl _) _ _ e4 s4 (Rep.bl _)⟩
abbrev xatM (i : Nat) (f : Str) : Env → M R := fun ρ => match ρ[i]? with
  | some (some (.ex _ fs)) => M.of ((fs.lookup f).map R.v)
  | _ => M.bad
end
end SV

set_option maxRecDepth 100000
set_option maxHeartbeats 4000000
/-! SvPb: own objects: made, their methods called, their fields stored -/
namespace SV
open PySem PySem.Spec PyProof.Rows L2
theorem assem_len : ∀ {pm : List (Nat ⊕ D)} {rs args : List R}, assem rs pm = some args → args.length = pm.length := by
  intro pm
  induction pm with
  | nil => intro rs args e; cases e; rfl
  | cons a pm ih =>
    intro rs args e
    cases a with
    | inl i =>
      simp only [assem] at e
      split at e
      · cases e; simp [ih (by assumption)]
      · cases e
    | inr d =>
      simp only [assem] at e
      cases q : assem rs pm with
      | none => rw [q] at e; cases e
      | some l => rw [q] at e; cases e; simp [ih q]
section
variable {X : Cx} {cl : Nat → Option Addr} {W : WY} {pos : Pos}
/-- C(..): a new instance, then its __init__ -/
theorem run_newP {k : Nat} {f C : Addr} {fd : FuncData} {ps : List Str} {sp : Sp} {pins : List (Addr × Obj)} {σ : L2.St} {H : Hp} {s : Shared} {Q : VK} {us : List Value} {kw : List (Str × Value)} (M0 : Mk X.K C f) (F : FnOk X.prog X.w X.K X.mg X.base (L2.CX X.prog X.w) k f fd ps sp) (hr : Room (k + 1) X.A) (tk : Takes X W.f)
    (I : Inv X pins σ H s) (h : ∀ x dx, H x = none → H dx = none → dx ≠ x → ∃ zs zv, (∀ s' : Shared, X.K.In s'.heap → BindsTo s' fd ⟨.ref x :: us, kw⟩ (ps.zip zs)) ∧ Vals zv zs ∧ sp zv (upd (upd H dx (.own x)) x (.ins C dx [])) (fun v H2 => v = .non ∧ Q (.ref x) H2) (WE W.f σ)) :
    wpAny (model X.prog X.w) X.A (call (.ref C) us kw) (EP X pins σ Q) X.xe s := by
  obtain ⟨zs, zv, hb, r2, hq⟩ := h (s.heap.objs.size + 1) s.heap.objs.size (I.hok.fresh (Nat.le_succ _)) (I.hok.fresh (Nat.le_refl _)) (Nat.ne_of_lt (Nat.lt_succ_self _))
  have I2 := Inv.made (C := C) I
  refine wpAny_call (make_map (f := f) I.kIn M0.makes M0.init (beq_iff_eq.mp M0.fn) (codeAny_mono (F.run _ X.stack _ _ ⟨Value.ref (s.heap.objs.size + 1) :: us, kw⟩ zs zv _ (WE W.f σ) (hr.make C us kw) (I2.env0.make C us kw) (hb _ I2.kIn) r2 hq) fun r s' hq' => ?_))
  cases r with
  | error e => exact passAt tk σ pins _ _ e s' I2 hq'
  | ok fl =>
    cases fl with
    | ret u =>
      obtain ⟨v, H', I3, rv, ev, q3⟩ := I2.after hq'
      subst ev
      exact ⟨rv, ⟨V.ref (s.heap.objs.size + 1), H', I3, rfl, q3⟩⟩
    | next => exact False.elim hq'
    | brk => exact False.elim hq'
    | cont => exact False.elim hq'
abbrev newM (ms mk : Env → M (List R)) (cell : Bool) (c : Nat) (pm : List (Nat ⊕ D)) (F : List R → M R) : Env → M R := fun ρ => (argM ms mk ρ).bind fun rs => newF cell c pm F rs
/-- C(e, .., k = v, ..), C an own class with __init__ -/
theorem ve_new {k c : Nat} {cell : Bool} {C f : Addr} {fd : FuncData} {ps ks : List Str} {n : Nat} {pm : List (Nat ⊕ D)} {Fs : List R → M R} {x : Str} {p : Pos} {es : List Expr} {kws : List Keyword} {ms mk : Env → M (List R)}
    (hcl : cl c = some C ∧ c < 100) (M0 : Mk X.K C f) (F : FnOk X.prog X.w X.K X.mg X.base (L2.CX X.prog X.w) k f fd ps (spF X.K cl ps.length Fs)) (hr : Room (k + 1) X.A) (tk : Takes X W.f) (hg : Gl X x) (hm : X.mg x = some (.ref C)) (hdb : (x == ("__debug__" : Str)) = false)
    (hp : PatOk X.K cl fd ps (n + 1) ks pm) (hpl : pm.length = ps.length) (hn : es.length = n) (hks : kws.map (·.arg) = ks.map some) (hs : es.all noStar = true) (ha : VA X cl W es ms) (hkw : VK' X cl W kws mk)
    (hl : ∀ ρ st rs st', ms ρ st = .ok rs st' → rs.length = es.length) (hl2 : ∀ ρ st rs st', mk ρ st = .ok rs st' → rs.length = kws.length)
    (h0 : es = [] → ms = fun _ => M.pure []) (k0 : kws = [] → mk = fun _ => M.pure []) :
    VE X cl W (.Call (.Name x p) es kws pos) (newM ms mk cell c pm Fs) := by
  obtain ⟨k1, k2, k3⟩ := kw_all (pos := pos) (env := X.env) hks
  obtain ⟨qm, hq, hb⟩ := hp
  have fin : ∀ {pins : List (Addr × Obj)} {σ : L2.St} {Q : VK} {s2 : Shared} {H2 : Hp} {w2 : Wd} {st2 : Store} {vs zs : List L2.V} {us ws : List Value} {rs zr : List R}, Inv X pins σ H2 s2 → Vals vs us → Vals zs ws → SR X.K cl w2 H2 st2 → RepRs X.K cl w2 vs rs → RepRs X.K cl w2 zs zr → rs.length = es.length → zr.length = kws.length →
      Wn (RepR X.K cl) X.K cl W σ Q w2 H2 (newF cell c pm Fs (rs ++ zr) st2) → wpAny (model X.prog X.w) X.A (call (.ref C) us (ks.zip ws)) (EP X pins σ Q) X.xe s2 := by
    intro pins σ Q s2 H2 w2 st2 vs zs us ws rs zr I r rz S rr rzr l1 l2 h
    have hkl : kws.length = ks.length := by have := congrArg List.length hks; simpa using this
    refine run_newP M0 F hr tk I fun x dx hx hdx hne => ?_
    have bnd : ∀ {zs' : List Value}, asmU ((.ref x :: us) ++ ws) qm = some zs' → ∀ s' : Shared, X.K.In s'.heap → BindsTo s' fd ⟨.ref x :: us, ks.zip ws⟩ (ps.zip zs') := fun {zs'} e s' hk => hb s' (.ref x :: us) ws zs' hk (by rw [List.length_cons, ← r.length, rr.length, l1, hn]) (by rw [← rz.length, rzr.length, l2, hkl]) e
    have vals : Vals (V.ref x :: (vs ++ zs)) ((Value.ref x :: us) ++ ws) := .cons rfl (r.append rz)
    unfold newF at h
    split at h
    · rename_i hv
      simp only [Bool.and_eq_true] at hv
      cases e : assem (.ref 0 :: (rs ++ zr)) pm with
      | none => simp only [e] at h; exact False.elim h
      | some args =>
        simp only [e] at h
        have sE : SR X.K cl { G := w2.G, io := [], ex := none } H2 [] := ⟨S.sub, rfl, by simp, fun a z => absurd z (by simp), fun n c a q => by simp at q⟩
        obtain ⟨s0, eE⟩ := sE.allocO hx hdx hne hcl
        simp only [List.nil_append] at s0 eE
        have rr0 : RepRs X.K cl { G := w2.G, io := [x], ex := none } (V.ref x :: (vs ++ zs)) (.ref 0 :: (rs ++ zr)) := .cons ⟨x, rfl, rfl⟩ (repRs_val (RepRs.app rr rzr) (Same.refl _) hv.2)
        obtain ⟨zs', zv, h1, h2, h3⟩ := asm_ok vals rr0 hq e
        refine ⟨zs', zv, bnd h1, h2, by rw [h3.length, assem_len e, hpl], _, args, _, s0, h3, ?_⟩
        cases q : Fs args [.obj c []] with
        | bad => rw [q] at h; exact h
        | exc c' fs s1 =>
          rw [q] at h
          intro cls d w' H1 e' s' rx
          obtain ⟨e2, s2'⟩ := own_back S (eE.trans e') s'.sub
          exact h cls d _ H1 e2 s2' rx
        | ok r0 s1 =>
          rw [q] at h
          cases r0 with
          | ref m => exact False.elim h
          | ex c fs => exact False.elim h
          | v d0 =>
            cases d0 <;> first | exact False.elim h | skip
            intro v w' H1 e' s' rv
            simp only at h
            cases (show Rep X.K cl w'.G v .non from rv)
            cases q2 : frz (.ref 0) s1 with
            | bad => rw [q2] at h; exact False.elim h
            | exc c fs z => exact absurd q2 (frz_ne c fs z)
            | ok d s3 =>
              rw [q2] at h
              obtain ⟨w3, e3, s3', r3⟩ := frz_ok s' (v := .ref x) (r := .ref 0) ⟨x, e'.ix rfl, rfl⟩ q2
              obtain ⟨e4, s4⟩ := own_back S ((eE.trans e').trans e3) s3'.sub
              exact ⟨rfl, h (.ref x) _ H1 e4 s4 r3⟩
    · cases e : assem (.ref st2.length :: (rs ++ zr)) pm with
      | none => simp only [e] at h; exact False.elim h
      | some args =>
        simp only [e] at h
        obtain ⟨s0, eE⟩ := S.allocO hx hdx hne hcl
        have hix : ({ w2 with io := w2.io ++ [x] } : Wd).io[st2.length]? = some x := by
          show (w2.io ++ [x])[st2.length]? = some x
          rw [← S.len, List.getElem?_concat_length]
        have rr0 : RepRs X.K cl { w2 with io := w2.io ++ [x] } (V.ref x :: (vs ++ zs)) (.ref st2.length :: (rs ++ zr)) := .cons ⟨x, hix, rfl⟩ (RepRs.ext eE (RepRs.app rr rzr))
        obtain ⟨zs', zv, h1, h2, h3⟩ := asm_ok vals rr0 hq e
        refine ⟨zs', zv, bnd h1, h2, by rw [h3.length, assem_len e, hpl], _, args, _, s0, h3, ?_⟩
        cases q : Fs args (st2 ++ [.obj c []]) with
        | bad => rw [q] at h; exact h
        | exc c' fs s1 =>
          rw [q] at h
          exact fun cls d w' H1 e' s' rx => h cls d w' H1 (eE.trans e') s' rx
        | ok r0 s1 =>
          rw [q] at h
          cases r0 with
          | ref m => exact False.elim h
          | ex c fs => exact False.elim h
          | v d0 =>
            cases d0 <;> first | exact False.elim h | skip
            intro v w' H1 e' s' rv
            cases (show Rep X.K cl w'.G v .non from rv)
            exact ⟨rfl, h (.ref x) w' H1 (eE.trans e') s' ⟨x, e'.ix hix, rfl⟩⟩
  refine ⟨fun pins s σ H Q I h => ?_⟩
  obtain ⟨w, ρ, st, S, e, h⟩ := h
  simp only [newM, argM, M.bind_assoc_at, M.bind_assoc] at h
  refine wpAny_Call_Name_kw (ld_glob I hg hm ?_ hdb)
  have A1 : tA X.K cl W ms σ H (fun vs H1 => ∃ w1 rs st1, Ext w H w1 H1 ∧ SR X.K cl w1 H1 st1 ∧ EnvR X.K cl W w1 σ ρ ∧ RepRs X.K cl w1 vs rs ∧ rs.length = es.length ∧ Wn (RepR X.K cl) X.K cl W σ Q w1 H1 (((mk ρ).bind fun zr => newF cell c pm Fs (rs ++ zr)) st1)) := by
    refine ⟨w, ρ, st, S, e, ?_⟩
    have h' : Wn (RepR X.K cl) X.K cl W σ Q w H ((ms ρ st).bind fun rs => (mk ρ).bind fun zr => newF cell c pm Fs (rs ++ zr)) := h
    cases q : ms ρ st with
    | bad => rw [q] at h'; exact h'
    | exc c fs z => rw [q] at h'; exact h'
    | ok rs st1 =>
      rw [q] at h'
      exact fun vs w1 H1 e1 s1 r1 => ⟨w1, rs, st1, e1, s1, e.ext e1, r1, hl ρ st rs st1 q, Wn.ext e1 h'⟩
  have A2 : ∀ {w1 : Wd} {H1 : Hp} {st1 : Store} {rs : List R}, SR X.K cl w1 H1 st1 → EnvR X.K cl W w1 σ ρ → Wn (RepR X.K cl) X.K cl W σ Q w1 H1 (((mk ρ).bind fun zr => newF cell c pm Fs (rs ++ zr)) st1) →
      tA X.K cl W mk σ H1 (fun zs H2 => ∃ w2 zr st2, Ext w1 H1 w2 H2 ∧ SR X.K cl w2 H2 st2 ∧ RepRs X.K cl w2 zs zr ∧ zr.length = kws.length ∧ Wn (RepR X.K cl) X.K cl W σ Q w2 H2 (newF cell c pm Fs (rs ++ zr) st2)) := by
    intro w1 H1 st1 rs s1 en1 h1
    refine ⟨w1, ρ, st1, s1, en1, ?_⟩
    have h' : Wn (RepR X.K cl) X.K cl W σ Q w1 H1 ((mk ρ st1).bind fun zr => newF cell c pm Fs (rs ++ zr)) := h1
    cases q : mk ρ st1 with
    | bad => rw [q] at h'; exact h'
    | exc c fs z => rw [q] at h'; exact h'
    | ok zr st2 =>
      rw [q] at h'
      exact fun zs w2 H2 e2 s2 r2 => ⟨w2, zr, st2, e2, s2, r2, hl2 ρ st1 zr st2 q, Wn.ext e2 h'⟩
  cases es with
  | nil =>
    have h0' := h0 rfl
    subst h0'
    cases kws with
    | nil =>
      have k0' := k0 rfl
      subst k0'
      cases ks with
      | cons _ _ => cases hks
      | nil => exact PySem.W.callWith_K0 I.kIn M0.kp (fin (us := []) (ws := []) (vs := []) (zs := []) (rs := []) (zr := []) I .nil .nil S .nil .nil rfl rfl h)
    | cons kw kws =>
      refine PySem.W.callWith_KW0 (h₀ := X.base) I.ok.mod.kin M0.kp k1 ?_ (by rw [k3]; rfl)
      refine thn (hkw.run pos pins s σ H _ I (A2 (rs := []) S e h)) fun ws s2 ⟨zs, H2, I2, rz, w2, zr, st2, e2, s2', r2, l2, h2⟩ => ⟨I2.kIn, ?_⟩
      rw [k2]
      exact fin (us := []) (vs := []) (rs := []) I2 .nil rz s2' .nil r2 rfl l2 h2
  | cons e0 es =>
    have hs' := hs
    simp only [List.all_cons, Bool.and_eq_true] at hs'
    have A3 := ha.run pos pins s σ H _ I A1
    cases kws with
    | nil =>
      have k0' := k0 rfl
      subst k0'
      cases ks with
      | cons _ _ => cases hks
      | nil =>
        refine PySem.W.callWith_K (h₀ := X.base) I.ok.mod.kin M0.kp (thn A3 fun us s1 ⟨vs, H1, I1, r, w1, rs, st1, e1, s1', en1, r1, l1, h1⟩ => ⟨I1.kIn, ?_⟩) (star_cons hs'.1 _ _) (star_any hs'.2)
        exact fin (ws := []) (zs := []) (zr := []) I1 r .nil s1' r1 .nil l1 rfl h1
    | cons kw kws =>
      refine PySem.W.callWith_KW (h₀ := X.base) I.ok.mod.kin M0.kp k1 (thn A3 fun us s1 ⟨vs, H1, I1, r, w1, rs, st1, e1, s1', en1, r1, l1, h1⟩ => ?_) (by rw [star_any hs, k3]; rfl) (star_cons hs'.1 _ _)
      refine thn (hkw.run pos pins s1 σ H1 _ I1 (A2 s1' en1 h1)) fun ws s2 ⟨zs, H2, I2, rz, w2, zr, st2, e2, s2', r2, l2, h2⟩ => ⟨I2.kIn, ?_⟩
      rw [k2]
      exact fin I2 r rz s2' (RepRs.ext e2 r1) r2 l1 l2 h2
end
end SV

set_option maxRecDepth 100000
set_option maxHeartbeats 4000000
/-! SvPc: methods called, fields stored -/
namespace SV
open PySem PySem.Spec PyProof.Rows L2
section
variable {X : Cx} {cl : Nat → Option Addr} {W : WY} {pos : Pos} {m : Mt} {ct : Ctab}
theorem meth_eval {o : Expr} {nm : Str} {apos : Pos} {args : List Expr} {kws : List Keyword} {env : PySem.Env} (hb : attributeBase o nm env (eval o env) = eval o env) (hf : methodCallForm (args.length + kws.length) (backTo pos (starEach args env)) (backToKw pos (keywordEach kws env)) = true) (hl : (apos.endLine == pos.line) = true) :
    eval (.Call (.Attribute o nm apos) args kws pos) env = (do
      let ov ← eval o env
      standAt apos.atName
      let (f, first) ← holding [ov] (getMethod ov nm (do return (← importBound o env).getD true))
      callWith pos f first (backTo pos (starEach args env)) (backToKw pos (keywordEach kws env))) := by
  show (do
    let ov ← attributeBase o nm env (eval o env)
    standAt apos.atName
    methodCall o nm apos pos env ov (args.length + kws.length) (backTo pos (starEach args env)) (backToKw pos (keywordEach kws env))) = _
  rw [hb]
  unfold methodCall calleeOf methodCallPos
  rw [hf, hl]
  rfl
theorem mthOf_ne {nm : Str} {r : R} {st : Store} : ∀ c fs s, mthOf ct nm r st ≠ .exc c fs s := fun c fs s e => by
  unfold mthOf at e
  split at e
  · rename_i d
    cases q : mthD ct nm d with
    | none => rw [q] at e; cases e
    | some f => rw [q] at e; cases e
  · split at e
    · rename_i c' fs' _
      split at e
      · cases q : ct.mth c' nm with
        | none => rw [q] at e; cases e
        | some f => rw [q] at e; cases e
      · cases e
    · rename_i d _
      cases q : mthD ct nm d with
      | none => rw [q] at e; cases e
      | some f => rw [q] at e; cases e
    · cases e
  · cases e
theorem repRF_none {K : PySem.W.Frag} {w : Wd} : ∀ {vs : List (Str × L2.V)} {rs : List (Str × R)} {f : Str}, RepRF K cl w vs rs → rs.lookup f = none → vs.lookup f = none
  | _, _, _, .nil, _ => rfl
  | _, _, f, .cons (a := p) (b := q) h t, e => by
    obtain ⟨p1, p2⟩ := p
    obtain ⟨q1, q2⟩ := q
    obtain ⟨h1, h2⟩ := h
    simp only at h1 h2
    subst h1
    rw [List.lookup_cons] at e ⊢
    cases hb : f == p1 with
    | true => rw [hb] at e; cases e
    | false => rw [hb] at e; exact repRF_none t e
theorem mthOf_ok {K : PySem.W.Frag} {w : Wd} {H : Hp} {st st' : Store} {v : L2.V} {r : R} {nm : Str} {f : Nat} (s : SR K cl w H st) (hr : RepR K cl w v r) (e : mthOf ct nm r st = .ok f st') :
    st' = st ∧ ∃ a C dx fvs c, v = .ref a ∧ H a = some (.ins C dx fvs) ∧ cl c = some C ∧ c < 100 ∧ fvs.lookup nm = none ∧ ct.mth c nm = some f := by
  have dat : ∀ {d : D} {v : L2.V} {st' : Store}, Rep K cl w.G v d → M.of (mthD ct nm d) st = .ok f st' → st' = st ∧ ∃ a C dx fvs c, v = .ref a ∧ H a = some (.ins C dx fvs) ∧ cl c = some C ∧ c < 100 ∧ fvs.lookup nm = none ∧ ct.mth c nm = some f := by
    intro d v st' h e
    cases h with
    | obj hc h' r =>
      rename_i fs
      simp only [mthD] at e
      split at e
      · rename_i hz
        cases q : ct.mth _ nm with
        | none => rw [q] at e; cases e
        | some f' =>
          rw [q] at e
          cases e
          exact ⟨rfl, _, _, _, _, _, rfl, s.sub _ _ h', hc.1, hc.2, r.look_none (by simpa using hz), q⟩
      · cases e
    | _ => cases e
  unfold mthOf at e
  split at e
  · exact dat hr e
  · rename_i n
    obtain ⟨a, ha, rfl⟩ := hr
    split at e
    · rename_i c fs hc
      split at e
      · rename_i hz
        cases q : ct.mth c nm with
        | none => rw [q] at e; cases e
        | some f' =>
          rw [q] at e
          cases e
          obtain ⟨_, C, dx, fvs, hcl, hv, rf⟩ := s.cell n _ a hc ha
          exact ⟨rfl, a, C, dx, fvs, c, rfl, hv, hcl.1, hcl.2, repRF_none rf (by simpa using hz), q⟩
      · cases e
    · rename_i d hc
      exact dat (s.cell n _ a hc ha) e
    · cases e
  · cases e
abbrev mthM (CF : (List R → M R) → List R → M R) (ct : Ctab) (nm : Str) (S : Nat → List R → M R) (ma : Env → M R) (ms mk : Env → M (List R)) (pm : List (Nat ⊕ D)) : Env → M R := fun ρ => (ma ρ).bind fun x => (mthOf ct nm x).bind fun f => (argM ms mk ρ).bind fun rs => (M.of (assem (x :: rs) pm)).bind fun args => CF (S f) args
/-- o.m(e, .., k = v, ..) -/
theorem ve_mth {CF : (List R → M R) → List R → M R} (hcf : CfOk X.K cl CF) {k n : Nat} {nm : Str} {ks : List Str} {pm : List (Nat ⊕ D)} {S : Nat → List R → M R} {o : Expr} {apos : Pos} {es : List Expr} {kws : List Keyword} {ma : Env → M R} {ms mk : Env → M (List R)}
    (M0 : Mok m X.K X.mg cl ct) (FM : ∀ c C f, cl c = some C → c < 100 → ct.mth c nm = some f → ∃ fa fd ps, Meth X.K C nm fa ∧ FnOk X.prog X.w X.K X.mg X.base (L2.CX X.prog X.w) k fa fd ps (spF X.K cl ps.length (S f)) ∧ PatOk X.K cl fd ps (n + 1) ks pm ∧ pm.length = ps.length)
    (hr : Room k X.A) (tk : Takes X W.f) (hb : attributeBase o nm X.env (eval o X.env) = eval o X.env) (hline : (apos.endLine == pos.line) = true) (hfew : es.length + kws.length < 29)
    (hn : es.length = n) (hks : kws.map (·.arg) = ks.map some) (hs : es.all noStar = true) (ho : VE X cl W o ma) (ha : VA X cl W es ms) (hkw : VK' X cl W kws mk)
    (hl : ∀ ρ st rs st', ms ρ st = .ok rs st' → rs.length = es.length) (hl2 : ∀ ρ st rs st', mk ρ st = .ok rs st' → rs.length = kws.length)
    (h0 : es = [] → ms = fun _ => M.pure []) (k0 : kws = [] → mk = fun _ => M.pure []) :
    VE X cl W (.Call (.Attribute o nm apos) es kws pos) (mthM CF ct nm S ma ms mk pm) := by
  obtain ⟨k1, k2, k3⟩ := kw_all (pos := pos) (env := X.env) hks
  have hform : methodCallForm (es.length + kws.length) (backTo pos (starEach es X.env)) (backToKw pos (keywordEach kws X.env)) = true := by
    unfold methodCallForm
    have a1 : (backTo pos (starEach es X.env)).all (fun x => !x.1) = true := by
      have := star_any (pos := pos) (env := X.env) hs
      rw [List.all_eq_true]
      intro x hx
      rw [List.any_eq_false] at this
      simpa using this x hx
    rw [a1, k1]
    simp only [Bool.true_and, decide_eq_true_eq]
    split <;> omega
  refine ⟨fun pins s σ H Q I h => ?_⟩
  obtain ⟨w, ρ, st, S0, e, h⟩ := h
  simp only [mthM] at h
  refine PySem.W.methodCall_KW (thn (ho.run pins s σ H _ I (tG.bind (m := ma) S0 e h)) fun u s1 ⟨v, H1, I1, rv, w1, rx, st1, e1, s1', en1, r1, h1⟩ => ?_) (meth_eval hb hform hline)
  obtain ⟨f, st2, q2, h2⟩ := Wn.step h1 mthOf_ne
  obtain ⟨rfl, a, C, dx, fvs, c, rfl, hv, hcl, h100, hlk, hmt⟩ := mthOf_ok s1' r1 q2
  obtain rfl : u = Value.ref a := rv
  obtain ⟨fa, fd, ps, hme, F, ⟨qm, hq, hbd⟩, hpl⟩ := FM c C f hcl h100 hmt
  refine getmeth_ok I1 hv (M0.oc c C hcl h100).cls hme hlk ?_
  simp only [argM, M.bind_assoc_at, M.bind_assoc] at h2
  have fin : ∀ {s2 : Shared} {H2 : Hp} {w2 : Wd} {st2 : Store} {vs zs : List L2.V} {us ws : List Value} {rs zr : List R}, Inv X pins σ H2 s2 → Ext w1 H1 w2 H2 → Vals vs us → Vals zs ws → SR X.K cl w2 H2 st2 → RepRs X.K cl w2 vs rs → RepRs X.K cl w2 zs zr → rs.length = es.length → zr.length = kws.length →
      Wn (RepR X.K cl) X.K cl W σ Q w2 H2 (((M.of (assem (rx :: (rs ++ zr)) pm)).bind fun args => CF (S f) args) st2) → wpAny (model X.prog X.w) X.A (call (.ref fa) (.ref a :: us) (ks.zip ws)) (EP X pins σ Q) X.xe s2 := by
    intro s2 H2 w2 st2 vs zs us ws rs zr I ex r rz S rr rzr l1 l2 h
    cases e : assem (rx :: (rs ++ zr)) pm with
    | none => rw [e] at h; exact False.elim h
    | some args =>
      rw [e] at h
      have vals : Vals (V.ref a :: (vs ++ zs)) ((Value.ref a :: us) ++ ws) := .cons rfl (r.append rz)
      obtain ⟨zs', zv, h1, h2, h3⟩ := asm_ok vals (.cons (r1.ext ex) (RepRs.app rr rzr)) hq e
      have hkl : kws.length = ks.length := by have := congrArg List.length hks; simpa using this
      refine run_fnP F hr tk I (hbd s2 (.ref a :: us) ws zs' I.kIn (by rw [List.length_cons, ← r.length, rr.length, l1, hn]) (by rw [← rz.length, rzr.length, l2, hkl]) h1) h2 (hcf ?_ S h3 h)
      rw [h3.length, ← hpl]
      exact assem_len e
  have A1 : tA X.K cl W ms σ H1 (fun vs H2 => ∃ w2 rs st2, Ext w1 H1 w2 H2 ∧ SR X.K cl w2 H2 st2 ∧ EnvR X.K cl W w2 σ ρ ∧ RepRs X.K cl w2 vs rs ∧ rs.length = es.length ∧ Wn (RepR X.K cl) X.K cl W σ Q w2 H2 (((mk ρ).bind fun zr => (M.of (assem (rx :: (rs ++ zr)) pm)).bind fun args => CF (S f) args) st2)) := by
    refine ⟨w1, ρ, st2, s1', en1, ?_⟩
    have h' : Wn (RepR X.K cl) X.K cl W σ Q w1 H1 ((ms ρ st2).bind fun rs => (mk ρ).bind fun zr => (M.of (assem (rx :: (rs ++ zr)) pm)).bind fun args => CF (S f) args) := h2
    cases q : ms ρ st2 with
    | bad => rw [q] at h'; exact h'
    | exc c fs z => rw [q] at h'; exact h'
    | ok rs st3 =>
      rw [q] at h'
      exact fun vs w2 H2 e2 s2 r2 => ⟨w2, rs, st3, e2, s2, en1.ext e2, r2, hl ρ st2 rs st3 q, Wn.ext e2 h'⟩
  have A2 : ∀ {w2 : Wd} {H2 : Hp} {st3 : Store} {rs : List R}, SR X.K cl w2 H2 st3 → EnvR X.K cl W w2 σ ρ → Wn (RepR X.K cl) X.K cl W σ Q w2 H2 (((mk ρ).bind fun zr => (M.of (assem (rx :: (rs ++ zr)) pm)).bind fun args => CF (S f) args) st3) →
      tA X.K cl W mk σ H2 (fun zs H3 => ∃ w3 zr st4, Ext w2 H2 w3 H3 ∧ SR X.K cl w3 H3 st4 ∧ RepRs X.K cl w3 zs zr ∧ zr.length = kws.length ∧ Wn (RepR X.K cl) X.K cl W σ Q w3 H3 (((M.of (assem (rx :: (rs ++ zr)) pm)).bind fun args => CF (S f) args) st4)) := by
    intro w2 H2 st3 rs s2 en2 h3
    refine ⟨w2, ρ, st3, s2, en2, ?_⟩
    have h' : Wn (RepR X.K cl) X.K cl W σ Q w2 H2 ((mk ρ st3).bind fun zr => (M.of (assem (rx :: (rs ++ zr)) pm)).bind fun args => CF (S f) args) := h3
    cases q : mk ρ st3 with
    | bad => rw [q] at h'; exact h'
    | exc c fs z => rw [q] at h'; exact h'
    | ok zr st4 =>
      rw [q] at h'
      exact fun zs w3 H3 e3 s3 r3 => ⟨w3, zr, st4, e3, s3, r3, hl2 ρ st3 zr st4 q, Wn.ext e3 h'⟩
  cases es with
  | nil =>
    have h0' := h0 rfl
    subst h0'
    cases kws with
    | nil =>
      have k0' := k0 rfl
      subst k0'
      cases ks with
      | cons _ _ => cases hks
      | nil => exact PySem.W.callWith_K0 (first := [.ref a]) I1.kIn hme.kp (fin (us := []) (ws := []) (vs := []) (zs := []) (rs := []) (zr := []) I1 (Ext.refl _ _) .nil .nil s1' .nil .nil rfl rfl h2)
    | cons kw kws =>
      refine PySem.W.callWith_KW0 (first := [.ref a]) (h₀ := X.base) I.ok.mod.kin hme.kp k1 ?_ (by rw [k3]; rfl)
      refine thn (hkw.run pos pins s1 σ H1 _ I1 (A2 (rs := []) s1' en1 h2)) fun ws s2 ⟨zs, H2, I2, rz, w2, zr, st3, e2, s2', r2, l2, h3⟩ => ⟨I2.kIn, ?_⟩
      rw [k2]
      exact fin (us := []) (vs := []) (rs := []) I2 e2 .nil rz s2' .nil r2 rfl l2 h3
  | cons e0 es =>
    have hs' := hs
    simp only [List.all_cons, Bool.and_eq_true] at hs'
    have A3 := ha.run pos pins s1 σ H1 _ I1 A1
    cases kws with
    | nil =>
      have k0' := k0 rfl
      subst k0'
      cases ks with
      | cons _ _ => cases hks
      | nil =>
        refine PySem.W.callWith_K (first := [.ref a]) (h₀ := X.base) I.ok.mod.kin hme.kp (thn A3 fun us s2 ⟨vs, H2, I2, r, w2, rs, st3, e2, s2', en2, r2, l1, h3⟩ => ⟨I2.kIn, ?_⟩) (star_cons hs'.1 _ _) (star_any hs'.2)
        exact fin (ws := []) (zs := []) (zr := []) I2 e2 r .nil s2' r2 .nil l1 rfl h3
    | cons kw kws =>
      refine PySem.W.callWith_KW (first := [.ref a]) (h₀ := X.base) I.ok.mod.kin hme.kp k1 (thn A3 fun us s2 ⟨vs, H2, I2, r, w2, rs, st3, e2, s2', en2, r2, l1, h3⟩ => ?_) (by rw [star_any hs, k3]; rfl) (star_cons hs'.1 _ _)
      refine thn (hkw.run pos pins s2 σ H2 _ I2 (A2 s2' en2 h3)) fun ws s3 ⟨zs, H3, I3, rz, w3, zr, st4, e3, s3', r3, l2, h4⟩ => ⟨I3.kIn, ?_⟩
      rw [k2]
      exact fin I3 (e2.trans e3) r rz s3' (RepRs.ext e3 r2) r3 l1 l2 h4
/-! ### fields stored -/
theorem repRF_put {K : PySem.W.Frag} {w : Wd} {f : Str} {v : L2.V} {r : R} (hr : RepR K cl w v r) : ∀ {vs : List (Str × L2.V)} {rs : List (Str × R)}, RepRF K cl w vs rs → RepRF K cl w (putF f v vs) (putR f r rs)
  | _, _, .nil => .cons ⟨rfl, hr⟩ .nil
  | _, _, .cons (a := p) (b := q) h t => by
    obtain ⟨p1, p2⟩ := p
    obtain ⟨q1, q2⟩ := q
    obtain ⟨h1, h2⟩ := h
    simp only at h1 h2
    subst h1
    simp only [putF, putR]
    by_cases z : p1 = f
    · rw [if_pos z, if_pos z]; exact .cons ⟨rfl, hr⟩ t
    · rw [if_neg z, if_neg z]; exact .cons ⟨rfl, h2⟩ (repRF_put hr t)
theorem repRF_len {K : PySem.W.Frag} {w : Wd} {vs : List (Str × L2.V)} {rs : List (Str × R)} (h : RepRF K cl w vs rs) : vs.length = rs.length := Paired.length h
theorem vs_setf {o v : Expr} {f : Str} {p' : Pos} {mo mv : Env → M R} (M0 : Mok m X.K X.mg cl ct) (hf : f ∈ m.flds) (ho : VE X cl W o mo) (hv : VE X cl W v mv) (hs : swapsWith v (some (.Attribute o f p')) pos.line X.env = pure false) :
    VS X cl W (.Assign [.Attribute o f p'] v pos) (fun ρ st => (mv ρ st).to ρ fun x st1 => (mo ρ st1).to ρ fun y st2 => (setFld y f x st2).to ρ fun _ st4 => .nx ρ st4) := by
  refine PS.imp (ps_fld ho hv hs) fun D σ H h => ?_
  obtain ⟨w, ρ, st, s, e, h⟩ := h
  refine (tG.to (m := mv) s e h).mono fun x H1 ⟨w1, rx, st1, e1, s1, en1, r1, h1⟩ => ?_
  refine (tG.to (m := mo) s1 en1 h1).mono fun y H2 ⟨w2, ry, st2, e2, s2, en2, r2, h2⟩ => ?_
  unfold setFld at h2
  cases ry with
  | v d => exact False.elim h2
  | ex c fs => exact False.elim h2
  | ref n =>
    obtain ⟨a, ha, rfl⟩ := r2
    cases q : st2[n]? with
    | none => simp only [q] at h2; exact False.elim h2
    | some c0 =>
      simp only [q] at h2
      cases c0 with
      | lst xs => exact False.elim h2
      | fz d => exact False.elim h2
      | dct kvs => exact False.elim h2
      | obj c fs =>
        simp only at h2
        split at h2
        · rename_i hlen
          obtain ⟨ga, C, dx, fvs, hcl, hH, rf⟩ := s2.cell n _ a q ha
          obtain ⟨s3, e3⟩ := s2.writeO q ha hH (repRF_put (r1.ext e2) rf)
          refine ⟨a, C, dx, fvs, rfl, hH, (M0.oc c C hcl.1 hcl.2).cls, M0.na c C hcl.1 f hf, by rw [repRF_len rf]; omega, ?_⟩
          exact h2 σ _ _ e3 s3 (en2.ext e3)
        · exact False.elim h2
end
end SV

set_option maxRecDepth 100000
set_option maxHeartbeats 4000000
/-! SvPd: own errors with fields: made by an __init__ that keeps its arguments; their fields read -/
namespace SV
open PySem PySem.Spec PyProof.Rows L2
/-! ### the class, as one Boolean -/
def oexObj (C : Addr) : Option Obj → Bool
  | some ⟨.type t, _, .cls k, sl⟩ => t == "type" && (match k.mro, sl.toList with
    | .ref c :: rest, [_, _, _, _, some (.builtin nw), _] => c == C && (nw == "ValueError.__new__" && (!k.hasDel && (k.hasDict && PySem.HandSPX.refsVE rest)))
    | _, _ => false)
  | _ => false
def oexB (K : PySem.W.Frag) (C : Addr) : Bool := oexObj C (K.lookup C) && (He.eqO (PySem.W.findIn K (.ref C) "__setattr__") (some (some (.builtin "object.__setattr__"))) &&
  (decide (PySem.W.subIn K (.ref C) (.type "BaseException") = some true) && (decide (PySem.W.typeIn K (.ref C) = some (.type "type")) && PySem.W.keepIn K (.ref C))))
theorem oexB_ok {K : PySem.W.Frag} {C : Addr} (h : oexB K C = true) : OexC K C := by
  simp only [oexB, Bool.and_eq_true, decide_eq_true_eq] at h
  obtain ⟨h1, h2, h3, h4, h5⟩ := h
  refine ⟨?_, He.eqO_ok h2, h3, h4, h5⟩
  cases q : K.lookup C with
  | none => rw [q] at h1; cases h1
  | some o =>
    rw [q] at h1
    obtain ⟨oc, od, dt, sl⟩ := o
    cases oc with
    | type t =>
      cases dt with
      | cls k =>
        simp only [oexObj, Bool.and_eq_true, beq_iff_eq] at h1
        obtain ⟨rfl, h1⟩ := h1
        obtain ⟨nm, bs, mro, ns, qn, hd, sn, sb, ab, col, del⟩ := k
        simp only at h1
        split at h1
        · rename_i x2 c rest k0 k1 k2 k3 nw k5 e2
          simp only [Bool.and_eq_true, beq_iff_eq, Bool.not_eq_true'] at h1
          obtain ⟨rfl, rfl, h6, h7, h8⟩ := h1
          subst h6
          subst h7
          refine ⟨nm, qn, ns, bs, rest, sn, sb, ab, col, od, k0, k1, k2, k3, k5, ?_, h8⟩
          have : sl = #[k0, k1, k2, k3, some (.builtin "ValueError.__new__"), k5] := by
            apply Array.ext'
            rw [e2]
          rw [this]
        · cases h1
      | _ => simp [oexObj] at h1
    | _ => cases dt <;> simp [oexObj] at h1
/-! ### the __init__ -/
/-- B.__init__(self, text): B an own class without own __init__ -/
structure BaseI (K : PySem.W.Frag) (mg : Str → Option Value) (B : Str) : Prop where
  ex : ∃ CB, mg B = some (.ref CB) ∧ ClX.CRead K CB (.type "type") ∧ PySem.W.findCls K (.ref CB) (.type "type") "__init__" = some (.val (.builtin "ValueError.__init__"))
section
variable {X : Cx} {e : Expr} {es : List Expr} {ta : TA} {p1 p2 pos : Pos}
theorem pe_ownInit {B : Str} (hg : Gl X B) (b : BaseI X.K X.mg B) (ha : PA X (e :: es) ta) (hdb : (B == ("__debug__" : Str)) = false) (hline : (p2.endLine == pos.line) = true) (hfew : (e :: es).length < 29) (hs : (e :: es).all noStar = true) :
    PE X (.Call (.Attribute (.Name B p1) "__init__" p2) (e :: es) [] pos) (tVeI X.K ta) := by
  obtain ⟨CB, hm, r, vV⟩ := b.ex
  have hform : methodCallForm ((e :: es).length + ([] : List Keyword).length) (backTo pos (starEach (e :: es) X.env)) (backToKw pos (keywordEach [] X.env)) = true := by
    unfold methodCallForm
    have a1 : (backTo pos (starEach (e :: es) X.env)).all (fun x => !x.1) = true := by
      have := star_any (pos := pos) (env := X.env) hs
      rw [List.all_eq_true]
      intro x hx
      rw [List.any_eq_false] at this
      simpa using this x hx
    rw [a1]
    simp only [List.length_nil, Nat.add_zero, Bool.true_and, decide_eq_true_eq]
    show (true && decide ((e :: es).length + 0 < 30)) = true
    simp only [Bool.true_and, decide_eq_true_eq]
    omega
  have hs' := hs
  simp only [List.all_cons, Bool.and_eq_true] at hs'
  refine ⟨fun pins s σ H Q I h => ?_⟩
  refine PySem.W.methodCall_KW (ld_glob I hg hm (PySem.W.method_cls I.kIn r.ga (PySem.W.cls_value I.kIn r.rd vV (by decide +kernel) ?_)) hdb) (meth_eval rfl hform hline)
  show wpAny _ _ (callWith pos (.builtin "ValueError.__init__") [] (backTo pos (starEach (e :: es) X.env)) []) _ _ _
  refine PyProof.Rows.callWith_method1 (thn (ha.run pos pins _ σ H _ (I.tok _) h) fun zs s1 ⟨vs, H1, I1, rel, a, C, ws, hv, hl, T, hE, hQ⟩ => ?_) (star_cons hs'.1 _ _) (star_any hs'.2)
  subst hv
  cases rel with
  | @cons _ z0 _ zr rel0 relr =>
    obtain rfl : z0 = Value.ref a := rel0
    exact oinit_ok T I1 hE (by rw [← Paired.length relr, sizeLine_eq]; omega) fun s2 J => ⟨.non, H1, J, rfl, hQ⟩
end
def chkAs (self : Str) : List Stmt → List Str → Bool
  | [], [] => true
  | .Assign [.Attribute (.Name s _) f _] (.Name x _) _ :: ss, h :: fs => s == self && (f == h && (x == h && chkAs self ss fs))
  | _, _ => false
def chkInit (B self : Str) (fs : List Str) : List Stmt → Bool
  | .Expr (.Call (.Attribute (.Name b _) i p2) [.Name s _, .Constant (.str _) _ _] [] pos) _ :: ss => b == B && (i == ("__init__" : Str) && (s == self && (p2.endLine == pos.line && chkAs self ss fs)))
  | _ => false
def tAs (K : PySem.W.Frag) : List Str → Nat → TS
  | [], _ => tNext
  | f :: fs, i => tSeq (tOst K f (tVar 0) (tVar i)) (tAs K fs (i + 1))
section
variable {X : Cx}
theorem as_ok {self : Str} (h0 : X.N[0]? = some self) (v0 : Vis X.env.scope self) (d0 : (self == ("__debug__" : Str)) = false) (c0 : (self == ("__classdict__" : Str)) = false) : ∀ {ss : List Stmt} {fs : List Str} {i : Nat}, chkAs self ss fs = true →
    (∀ (j : Nat) f, fs[j]? = some f → X.N[i + j]? = some f ∧ Vis X.env.scope f ∧ (f == ("__debug__" : Str)) = false ∧ (f == ("__classdict__" : Str)) = false) → PSs X ss (tAs X.K fs i)
  | [], [], _, _, _ => pss_nil
  | [], _ :: _, _, h, _ => by simp [chkAs] at h
  | s :: ss, fs, i, h, hv => by
    unfold chkAs at h
    split at h
    · rename_i h2
      cases h2
    · rename_i s' p f p' x p2 pos ss' h' fs' h1
      cases h1
      simp only [Bool.and_eq_true, beq_iff_eq] at h
      obtain ⟨rfl, rfl, rfl, h5⟩ := h
      obtain ⟨a1, a2, a3, a4⟩ := hv 0 x rfl
      refine pss_cons (ps_ost (pe_var h0 v0 d0 c0) (pe_var a1 a2 a3 a4) rfl) (as_ok h0 v0 d0 c0 h5 fun j f e => ?_)
      have := hv (j + 1) f (by simpa using e)
      rw [show i + 1 + j = i + (j + 1) by omega]
      exact this
    · cases h
theorem as_read {K : PySem.W.Frag} {a C dx : Addr} {D : Ends} {σ : L2.St} (T : OexC K C) (ha : σ[0]? = some (some (.ref a))) (hdx : dx ≠ a) : ∀ {fs : List Str} {ws : List L2.V} {gs : List (Str × L2.V)} {i : Nat} {H : Hp}, (∀ f ∈ fs, PySem.W.findIn K (.ref C) f = some none) → ws.length = fs.length → (∀ (j : Nat) v, ws[j]? = some v → σ[i + j]? = some (some v)) → gs.length + fs.length ≤ 900 →
    H a = some (exo a C (some dx)) → H dx = some (exd dx gs) → (∀ H', H' a = some (exo a C (some dx)) → H' dx = some (exd dx ((fs.zip ws).reverse ++ gs)) → (∀ b, b ≠ a → b ≠ dx → H' b = H b) → D.nx σ H') → tAs K fs i D σ H
  | [], ws, gs, i, H, _, _, _, _, h1, h2, h3 => h3 H h1 (by simpa using h2) fun _ _ _ => rfl
  | f :: fs, [], gs, i, H, _, hl, _, _, _, _, _ => by cases hl
  | f :: fs, w :: ws, gs, i, H, hf, hl, hs, hn, h1, h2, h3 => by
    refine ⟨w, by simpa using hs 0 w rfl, .ref a, ha, a, C, rfl, T, hf f (by simp), .inr ⟨dx, gs, h1, h2, by simp at hn; omega, ?_⟩⟩
    refine as_read T ha hdx (ws := ws) (gs := (f, w) :: gs) (i := i + 1) (fun g hg => hf g (by simp [hg])) (by simpa using hl) (fun j v e => ?_) (by simp at hn ⊢; omega) (by rw [upd_ne (Ne.symm hdx)]; exact h1) upd_same fun H' q1 q2 q3 => ?_
    · rw [show i + 1 + j = i + (j + 1) by omega]
      exact hs (j + 1) v (by simpa using e)
    · refine h3 H' q1 (by simpa using q2) fun b hb hb' => ?_
      rw [q3 b hb hb', upd_ne hb']
end
/-- what such an __init__ promises -/
def spI (K : PySem.W.Frag) (fs : List Str) : Sp := fun vs H Q _ => ∃ (a C : Addr) (ws : List L2.V), vs = .ref a :: ws ∧ ws.length = fs.length ∧ OexC K C ∧ (∀ f ∈ fs, PySem.W.findIn K (.ref C) f = some none) ∧ H a = some (exo a C none) ∧
  ∀ d H', H d = none → d ≠ a → H' a = some (exo a C (some d)) → H' d = some (exd d (fs.zip ws).reverse) → (∀ b, b ≠ a → b ≠ d → H' b = H b) → Q .non H'
theorem init_ok {P : Program} {w : World} {K : PySem.W.Frag} {mg : Str → Option Value} {base : Heap} {x qual : Str} {params : Arguments} {body : List Stmt} {scope : Scope} {dvs : List L2.V} {kws : List (Str × L2.V)} {f : Addr} {fd : FuncData} {B self g : Str} {fs : List Str} {k : Nat}
    (F : FunD K x qual params body scope dvs kws f fd) (S : FnScope (self :: g :: fs) (self :: g :: fs) scope) (b : BaseI K mg B) (hc : chkInit B self (g :: fs) body = true) (hB : scope.names.lookup B = some .globalImplicit) (hdb : (B == ("__debug__" : Str)) = false)
    (hnm : ∀ y ∈ self :: g :: fs, (y == ("__debug__" : Str)) = false ∧ (y == ("__classdict__" : Str)) = false) (hlen : fs.length < 800) : FnOk P w K mg base (L2.CX P w) (k + 1) f fd (self :: g :: fs) (spI K (g :: fs)) := by
  refine F.ok S (fun vs H Q E h => ?_) fun cdv A outer s0 H vs Q E hr hsp => ?_
  · obtain ⟨a, C, ws, rfl, hl, _⟩ := h
    simp [hl]
  · unfold chkInit at hc
    split at hc
    · rename_i b' p1 i p2 s' p3 t j p4 pos p5 ss
      simp only [Bool.and_eq_true, beq_iff_eq] at hc
      obtain ⟨rfl, rfl, rfl, h4, h5⟩ := hc
      have vis : ∀ y ∈ s' :: g :: fs, Vis scope y := fun y hy => by
        rcases S.par y hy with z | z
        · exact .inl z
        · exact .inr (.inl z)
      obtain ⟨n1, n2⟩ := hnm s' (by simp)
      refine ⟨_, pss_cons (ps_expr (pe_ownInit (X := cxOf (L2.CX P w) P w K mg base (s' :: g :: fs) qual scope f cdv A outer s0 H E) hB b (pa_cons (pe_var (i := 0) rfl (vis s' (by simp)) n1 n2) (pa_cons pe_str pa_nil rfl) rfl) hdb (by simpa using h4) (by simp) (by rfl)) rfl) (as_ok (X := cxOf (L2.CX P w) P w K mg base (s' :: g :: fs) qual scope f cdv A outer s0 H E) (i := 1) rfl (vis s' (by simp)) n1 n2 h5 fun j y e => ?_), ?_⟩
      · have hy : y ∈ s' :: g :: fs := List.mem_cons_of_mem _ (List.mem_of_getElem? e)
        obtain ⟨m1, m2⟩ := hnm y hy
        refine ⟨?_, vis y hy, m1, m2⟩
        show (s' :: g :: fs)[1 + j]? = some y
        rw [Nat.add_comm]
        simpa using e
      · obtain ⟨a, C, ws, rfl, hl, T, hno, hH, hQ⟩ := hsp
        have st : ∀ (j : Nat) v, ws[j]? = some v → (L2.start (s' :: g :: fs) (.ref a :: ws))[1 + j]? = some (some v) := fun j v e => by
          unfold L2.start
          have hj : j < ws.length := (List.getElem?_eq_some_iff.mp e).1
          rw [List.getElem?_append_left (by simp; omega), List.getElem?_map, Nat.add_comm]
          simp [e]
        have s0' : (L2.start (s' :: g :: fs) (.ref a :: ws))[0]? = some (some (.ref a)) := by
          unfold L2.start
          simp
        cases ws with
        | nil => cases hl
        | cons y ws =>
          refine ⟨.ref a, s0', a, C, [.str t], rfl, by simp, T, hH, ?_⟩
          refine ⟨y, by simpa using st 0 y rfl, .ref a, s0', a, C, rfl, T, hno g (by simp), .inl ⟨hH, fun dx hdx hne => ?_⟩⟩
          refine as_read T s0' hne (ws := ws) (gs := [(g, y)]) (i := 2) (fun q hq => hno q (by simp [hq])) (by simpa using hl) (fun j v e => ?_) (by simp; omega) upd_same (by rw [upd_ne hne]; exact upd_same) fun H' q1 q2 q3 => ?_
          · have := st (j + 1) v (by simpa using e)
            rw [show 1 + (j + 1) = 2 + j by omega] at this
            exact this
          · refine hQ dx H' hdx hne q1 (by simpa using q2) fun b hb hb' => ?_
            rw [q3 b hb hb', upd_ne hb, upd_ne hb']
    · cases hc
end SV

set_option maxRecDepth 100000
set_option maxHeartbeats 4000000
/-! SvPe: raise X(e, ..), X with fields; e.f of a caught error -/
namespace SV
open PySem PySem.Spec PyProof.Rows L2
/-- what is known of an error class with fields -/
def XOk (P : Program) (w : World) (K : PySem.W.Frag) (mg : Str → Option Value) (base : Heap) (C : Addr) (fs : List Str) : Prop :=
  ∃ fI fd self, fs ≠ [] ∧ OexC K C ∧ PySem.W.findIn K (.ref C) "__init__" = some (some (.ref fI)) ∧ PySem.W.typeIn K (.ref fI) = some (.type "function") ∧ FnOk P w K mg base (L2.CX P w) 1 fI fd (self :: fs) (spI K fs) ∧ Binds K fd (self :: fs) [] ∧ ∀ f ∈ fs, PySem.W.findIn K (.ref C) f = some none
section
variable {X : Cx} {cl : Nat → Option Addr} {W : WY} {pos : Pos} {m : Mt} {ct : Ctab}
theorem repF_zip {K : PySem.W.Frag} {G : Hp} : ∀ {fs : List Str} {vs : List L2.V} {ds : List D}, Reps K cl G vs ds → RepF K cl G (fs.zip vs) (fs.zip ds)
  | [], _, _, _ => by simp; exact .nil
  | _ :: _, _, _, .nil => by simp; exact .nil
  | f :: fs, _, _, .cons h r => by simp only [List.zip_cons_cons]; exact .cons h (repF_zip r)
theorem repF_app {K : PySem.W.Frag} {G : Hp} : ∀ {vs vs' : List (Str × L2.V)} {ds ds' : List (Str × D)}, RepF K cl G vs ds → RepF K cl G vs' ds' → RepF K cl G (vs ++ vs') (ds ++ ds')
  | _, _, _, _, .nil, r => r
  | _, _, _, _, .cons h t, r => .cons h (repF_app t r)
theorem repF_rev {K : PySem.W.Frag} {G : Hp} : ∀ {vs : List (Str × L2.V)} {ds : List (Str × D)}, RepF K cl G vs ds → RepF K cl G vs.reverse ds.reverse
  | _, _, .nil => .nil
  | _, _, .cons h t => by simp only [List.reverse_cons]; exact repF_app (repF_rev t) (.cons h .nil)
abbrev rseM (i : Nat) (ms : Env → M (List R)) (fs : List Str) : Env → Store → OutS := fun ρ st => (ms ρ st).to ρ fun rs st1 => (frzs rs st1).to ρ fun ds st2 => if ds.length = fs.length then .exc i (fs.zip ds).reverse ρ st2 else .bad
theorem vs_rseF {x : Str} {i : Nat} {C : Addr} {fs : List Str} {e : Expr} {es : List Expr} {ms : Env → M (List R)} {p p3 : Pos} (hc : X.calm = true) (tk : Takes X W.f) (O : XOk X.prog X.w X.K X.mg X.base C fs) (hr : Room 2 X.A) (hC : cl i = some C) (h100 : ¬ i < 100) (hm : X.mg x = some (.ref C)) (hg : Gl X x)
    (hdb : (x == ("__debug__" : Str)) = false) (hs : (e :: es).all noStar = true) (ha : VA X cl W (e :: es) ms) (hfew : fs.length ≤ 1000) : VS X cl W (.Raise (some (.Call (.Name x p) (e :: es) [] p3)) none pos) (rseM i ms fs) := by
  obtain ⟨fI, fd, self, hne, T, iC, tI, F1, hb, hno⟩ := O
  have hs' := hs
  simp only [List.all_cons, Bool.and_eq_true] at hs'
  refine PS.imp (ps_raise hc tk (pmk_oex (CX := L2.CX X.prog X.w) (ds := []) (dvs := []) T iC tI F1 hr hb .nil (fun pins σ H s e' s' I c => passAt takes0 σ pins H s e' s' I c) hg hm ha hdb (star_cons hs'.1 _ _) (star_any hs'.2))) fun D σ H h => ?_
  obtain ⟨w, ρ, st, s, en, h⟩ := h
  refine (tG.to (m := ms) s en h).mono fun vs H1 ⟨w1, rs, st1, e1, s1, en1, r1, h1⟩ => ?_
  cases q : frzs rs st1 with
  | bad => rw [q] at h1; exact False.elim h1
  | exc c fs z => exact absurd q (frzs_ne c fs z)
  | ok ds st2 =>
    rw [q] at h1
    simp only [Out.to_ok] at h1
    obtain ⟨w2, e2, s2, r2⟩ := frzs_ok s1 r1 q
    split at h1
    · rename_i hl
      have hvl : vs.length = fs.length := by rw [r2.length, hl]
      refine ⟨by rw [hvl]; exact hfew, fun a na => ⟨a, C, vs, by simp, hvl, T, hno, upd_same, fun d H' hd hda q1 q2 q3 => ⟨rfl, d, (fs.zip vs).reverse, q1, q2, ?_, ?_⟩⟩⟩
      · rw [upd_ne hda] at hd; exact hd
      · have hd1 : H1 d = none := by rw [upd_ne hda] at hd; exact hd
        have eH : upd (del H' a) d (.xd (fs.zip vs).reverse) = upd H1 d (.xd (fs.zip vs).reverse) := by
          funext b
          by_cases hbd : b = d
          · subst hbd; rw [upd_same, upd_same]
          · rw [upd_ne hbd, upd_ne hbd]
            by_cases hba : b = a
            · subst hba; rw [del_same, na]
            · rw [del_ne hba, q3 b hba hbd, upd_ne hba]
        rw [eH]
        obtain ⟨s3, e3⟩ := s2.lay (o := .xd (fs.zip vs).reverse) hd1
        exact h1 (.ref C) (some d) σ _ _ (e2.trans e3) s3 (en1.ext (e2.trans e3)) ⟨⟨C, hC, rfl, h100⟩, .inr ⟨d, _, rfl, upd_same, repF_rev (repF_zip (r2.mono e3.G))⟩⟩
    · exact False.elim h1
end
section
variable {X : Cx} {cl : Nat → Option Addr} {a : Addr} {oe : Obj} {pn : List (Addr × Obj)} {cls : Value} {d : Option Addr} {pos : Pos} {m : Mt} {ct : Ctab}
theorem ve_xat {p1 : Pos} {i : Nat} {y f : Str} (hz : Zc cls d oe) (hf : ∃ vs, oe.data = .fields vs) (M0 : Mok m X.K X.mg cl ct) (hfl : f ∈ m.flds) (hN : X.N[i]? = some y) (hv : Vis X.env.scope y) (hd : (y == ("__debug__" : Str)) = false) (hcd : (y == ("__classdict__" : Str)) = false) :
    VE (X.suite a ((a, oe) :: pn)) cl (Wsu a cls d) (.Attribute (.Name y p1) f pos) (xatM i f) := by
  refine ⟨fun pins s σ H Q I h => ?_⟩
  obtain ⟨w, ρ, st, S, e, h⟩ := h
  unfold xatM at h
  cases q : ρ[i]? with
  | none => rw [q] at h; exact False.elim h
  | some o =>
    rw [q] at h
    cases o with
    | none => exact False.elim h
    | some r =>
      cases r with
      | v d => exact False.elim h
      | ref n => exact False.elim h
      | ex c fs =>
        simp only at h
        obtain ⟨h1, ⟨C, hC, hcl, h100⟩, fx⟩ := slotX S e q
        cases ql : fs.lookup f with
        | none => rw [ql] at h; exact False.elim h
        | some dv =>
          rw [ql] at h
          have E := M0.xc c C hC h100
          rcases fx with ⟨_, rfl⟩ | ⟨dd, fvs, hdd, hG, rF⟩
          · cases ql
          · obtain ⟨v, hv1, hv2⟩ := rF.look ql
            refine (pe_xf (C := C) ⟨E.hg, E.hk, E.hs, E.hd⟩ (M0.na c C hC f hfl) hz hf (pe_var (i := i) hN hv hd hcd) rfl).run pins s σ H Q I ?_
            exact ⟨_, h1, rfl, hcl, dd, fvs, v, hdd, S.sub _ _ hG, hv1, h v w H (Ext.refl _ _) S hv2⟩
end
end SV

set_option maxRecDepth 100000
set_option maxHeartbeats 4000000
/-! SvPf: dicts; texts' methods; what lists' methods look for -/
namespace SV
open PySem PySem.Spec PyProof.Rows L2
section
variable {K : PySem.W.Frag} {cl : Nat → Option Addr} {w : Wd} {H : Hp} {st : Store}
/-- a new cell of any kind -/
theorem SR.allocG (s : SR K cl w H st) {p : Addr} {o : HO} {c0 : Cell} (hp : H p = none) (r : ∀ e : Ext w H { w with io := w.io ++ [p] } (upd H p o), CellOk K cl { w with io := w.io ++ [p] } (upd H p o) p c0) :
    SR K cl { w with io := w.io ++ [p] } (upd H p o) (st ++ [c0]) ∧ Ext w H { w with io := w.io ++ [p] } (upd H p o) := by
  have gp : w.G p = none := s.sub.free hp
  have hm : p ∉ w.io := fun z => by
    obtain ⟨u, hu⟩ := s.trk p z
    rw [hp] at hu; cases hu
  have e : Ext w H { w with io := w.io ++ [p] } (upd H p o) := ⟨⟨[p], rfl⟩, Same.refl _, rfl, fun a u h n => by rw [upd_ne (ne_of_none h hp)]; exact h, fun a h n => by
    have h' : a ∈ w.io ++ [p] := h
    rcases List.mem_append.mp h' with z | z
    · exact absurd z n
    · rw [List.mem_singleton.mp z]; exact hp, fun a u h n => by rw [n] at h; cases h⟩
  refine ⟨⟨fun b u q => ?_, by simp [s.len], ?_, fun a ha => ?_, fun n c a q ha => ?_⟩, e⟩
  rotate_left 2
  · have ha' : a ∈ w.io ++ [p] := ha
    rcases List.mem_append.mp ha' with z | z
    · obtain ⟨u, hu⟩ := s.trk a z
      exact ⟨u, by rw [upd_ne (ne_of_none hu hp)]; exact hu⟩
    · rw [List.mem_singleton.mp z]; exact ⟨_, upd_same⟩
  rotate_right 2
  · rw [upd_ne (ne_of_none q gp)]; exact s.sub b u q
  · show (w.io ++ [p]).Nodup
    rw [List.nodup_append]
    exact ⟨s.nd, by simp, fun a ha b hb => by rw [List.mem_singleton.mp hb]; exact fun z => hm (z ▸ ha)⟩
  · have ha' : (w.io ++ [p])[n]? = some a := ha
    by_cases hn : n < w.io.length
    · rw [List.getElem?_append_left hn] at ha'
      rw [List.getElem?_append_left (by rw [← s.len]; exact hn)] at q
      have k := s.cell n c a q ha'
      have na : a ≠ p := fun z => hm (z ▸ List.mem_of_getElem? ha')
      cases c with
      | lst ys =>
        obtain ⟨h1, us, h2, h3⟩ := k
        exact ⟨h1, us, by rw [upd_ne na]; exact h2, h3.ext e⟩
      | obj c fs =>
        obtain ⟨h1, C, dx, fvs, h2, h3, h4⟩ := k
        exact ⟨h1, C, dx, fvs, h2, by rw [upd_ne na]; exact h3, L2.Paired.mapP h4 fun _ _ z => ⟨z.1, z.2.ext e⟩⟩
      | dct kvs =>
        obtain ⟨h1, vs, h3, h4⟩ := k
        exact ⟨h1, vs, by rw [upd_ne na]; exact h3, L2.Paired.mapP h4 fun _ _ z => ⟨z.1, z.2.ext e⟩⟩
      | fz d => exact k
    · have hz : n = w.io.length := by
        have := (List.getElem?_eq_some_iff.mp ha').1
        simp at this; omega
      subst hz
      rw [List.getElem?_concat_length] at ha'
      cases ha'
      rw [s.len, List.getElem?_concat_length] at q
      cases q
      exact r e
/-- a dict cell changed -/
theorem SR.writeD (s : SR K cl w H st) {n : Nat} {a : Addr} {fs fs' : List (L2.Key × R)} {fvs' : List (L2.Key × L2.V)} (q : st[n]? = some (.dct fs)) (ha : w.io[n]? = some a) (r : RepRF K cl w fvs' fs') :
    SR K cl w (upd H a (.dK fvs')) (st.set n (.dct fs')) ∧ Ext w H w (upd H a (.dK fvs')) := by
  obtain ⟨ga, us, hv1, rs⟩ := s.cell n _ a q ha
  have hl : n < st.length := (List.getElem?_eq_some_iff.mp q).1
  have e : Ext w H w (upd H a (.dK fvs')) := ⟨⟨[], by simp⟩, Same.refl _, rfl, fun b u h m => by
    rw [upd_ne (fun (z : b = a) => m (by rw [z]; exact List.mem_of_getElem? ha))]; exact h, fun b h m => absurd h m, fun b u h m => by rw [m] at h; cases h⟩
  refine ⟨⟨fun b u h => ?_, by simp [s.len], s.nd, fun b hb => ?_, fun m c' b qm hb => ?_⟩, e⟩
  rotate_left
  · by_cases z : b = a
    · subst z; exact ⟨_, upd_same⟩
    · obtain ⟨u, hu⟩ := s.trk b hb
      exact ⟨u, by rw [upd_ne z]; exact hu⟩
  rotate_right
  · rw [upd_ne (ne_of_none h ga)]; exact s.sub b u h
  · by_cases z : n = m
    · subst z
      rw [ha] at hb; cases hb
      rw [List.getElem?_set_self hl] at qm
      cases qm
      exact ⟨ga, fvs', upd_same, r⟩
    · rw [List.getElem?_set_ne z] at qm
      have k := s.cell m c' b qm hb
      have nb : b ≠ a := fun y => by
        subst y
        exact z (L2.nd_ix s.nd ha hb)
      cases c' with
      | lst ys =>
        obtain ⟨h1, ws, h2, h3⟩ := k
        exact ⟨h1, ws, by rw [upd_ne nb]; exact h2, h3⟩
      | obj c fs =>
        obtain ⟨h1, C, dx, fvs, h2, h3, h4⟩ := k
        exact ⟨h1, C, dx, fvs, h2, by rw [upd_ne nb]; exact h3, h4⟩
      | dct kvs =>
        obtain ⟨h1, vs, h3, h4⟩ := k
        exact ⟨h1, vs, by rw [upd_ne nb]; exact h3, h4⟩
      | fz d => exact k
/-! ### entries -/
theorem RepF.toR {κ : Type} : ∀ {vs : List (κ × L2.V)} {ds : List (κ × D)}, RepF K cl w.G vs ds → RepRF K cl w vs (ds.map fun p => (p.1, R.v p.2))
  | _, _, .nil => .nil
  | _, _, .cons h r => .cons ⟨rfl, h⟩ (RepF.toR r)
theorem dEnt_ok (s : SR K cl w H st) {v : L2.V} {r : R} {kvs : List (L2.Key × R)} {st' : Store} (h : RepR K cl w v r) (e : dEnt r st = .ok kvs st') : st' = st ∧ ∃ a vs, v = .ref a ∧ H a = some (.dK vs) ∧ RepRF K cl w vs kvs := by
  have dat : ∀ {ds : List (L2.Key × D)} {v : L2.V}, Rep K cl w.G v (.dct ds) → ∃ a vs, v = .ref a ∧ H a = some (.dK vs) ∧ RepRF K cl w vs (ds.map fun p => (p.1, R.v p.2)) := by
    intro ds v h
    cases h with
    | dct hs r => exact ⟨_, _, rfl, s.sub _ _ hs, r.toR⟩
  unfold dEnt at e
  split at e
  · cases e; exact ⟨rfl, dat h⟩
  · rename_i n
    obtain ⟨a, ha, rfl⟩ := h
    split at e
    · rename_i ys hc
      cases e
      obtain ⟨_, vs, hv, rs⟩ := s.cell n _ a hc ha
      exact ⟨rfl, a, vs, rfl, hv, rs⟩
    · rename_i ds hc
      cases e
      exact ⟨rfl, dat (s.cell n _ a hc ha)⟩
    · cases e
  · cases e
theorem dEnt_ne {r : R} {st : Store} : ∀ c fs s, dEnt r st ≠ .exc c fs s := fun c fs s e => by
  unfold dEnt at e
  split at e
  · cases e
  · split at e <;> cases e
  · cases e
theorem keyD_rep {G : Hp} {v : L2.V} {d : D} {k : L2.Key} (h : Rep K cl G v d) (e : keyD d = some k) : v = kV k := by
  cases d <;> simp [keyD] at e <;> subst e <;> cases h <;> rfl
theorem keyM_ok (s : SR K cl w H st) {v : L2.V} {r : R} {k : L2.Key} {st' : Store} (h : RepR K cl w v r) (e : keyM r st = .ok k st') : st' = st ∧ v = kV k := by
  unfold keyM at e
  simp only [M.bind] at e
  cases q : rdD r st with
  | bad => rw [q] at e; cases e
  | exc c fs z => exact absurd q (rdD_ne c fs z)
  | ok d s1 =>
    rw [q] at e
    simp only [Out.bind_ok] at e
    obtain ⟨f1, rfl⟩ := rdD_ok q
    cases q2 : keyD d with
    | none => rw [q2] at e; cases e
    | some k' =>
      rw [q2] at e
      cases e
      refine ⟨rfl, ?_⟩
      have rd := force_rep s h f1
      exact keyD_rep (rd.rep s.sub) q2
theorem keyM_ne {r : R} {st : Store} : ∀ c fs s, keyM r st ≠ .exc c fs s := fun c fs s e => by
  unfold keyM at e
  simp only [M.bind] at e
  cases q : rdD r st with
  | bad => rw [q] at e; cases e
  | exc c fs z => exact absurd q (rdD_ne c fs z)
  | ok d s1 =>
    rw [q] at e
    simp only [Out.bind_ok] at e
    cases q2 : keyD d <;> rw [q2] at e <;> cases e
theorem repRF_at : ∀ {vs : List (L2.Key × L2.V)} {rs : List (L2.Key × R)} {f : L2.Key}, RepRF K cl w vs rs → (∀ r, dAt rs f = some r → ∃ v, valV vs f = some v ∧ RepR K cl w v r) ∧ (dAt rs f = none → valV vs f = none)
  | _, _, _, .nil => ⟨fun d e => by simp [dAt] at e, fun _ => rfl⟩
  | _, _, f, .cons (a := p) (b := q) h t => by
    obtain ⟨g, v⟩ := p
    obtain ⟨g', r⟩ := q
    obtain ⟨h1, h2⟩ := h
    simp only at h1 h2
    subst h1
    by_cases hb : g = f
    · subst hb
      refine ⟨fun d e => ?_, fun e => ?_⟩
      · simp only [dAt, List.find?_cons, decide_true, Option.map_some, Option.some.injEq] at e
        subst e
        exact ⟨v, by simp [valV, List.find?_cons], h2⟩
      · simp [dAt, List.find?_cons] at e
    · have ih := repRF_at (f := f) t
      have e1 : ∀ {α : Type} (x : α) (l : List (L2.Key × α)), dAt ((g, x) :: l) f = dAt l f := fun x l => by simp [dAt, List.find?_cons, hb]
      have e2 : ∀ (x : L2.V) (l : List (L2.Key × L2.V)), valV ((g, x) :: l) f = valV l f := fun x l => by simp [valV, List.find?_cons, hb]
      rw [e1, e2]
      exact ih
theorem repRF_any : ∀ {vs : List (L2.Key × L2.V)} {rs : List (L2.Key × R)} (f : L2.Key), RepRF K cl w vs rs → (vs.any fun kv => decide (kv.1 = f)) = (rs.any fun kv => decide (kv.1 = f))
  | _, _, _, .nil => rfl
  | _, _, f, .cons h t => by
    have := repRF_any f t
    rw [List.any_cons, List.any_cons, this, h.1]
theorem repRF_map {f : L2.Key} {v : L2.V} {r : R} (hr : RepR K cl w v r) : ∀ {vs : List (L2.Key × L2.V)} {rs : List (L2.Key × R)}, RepRF K cl w vs rs → RepRF K cl w (vs.map fun kv => if kv.1 = f then (kv.1, v) else kv) (rs.map fun kv => if kv.1 = f then (kv.1, r) else kv)
  | _, _, .nil => .nil
  | _, _, .cons (a := p) (b := q) h t => by
    refine .cons ?_ (repRF_map hr t)
    show (if p.1 = f then (p.1, v) else p).1 = (if q.1 = f then (q.1, r) else q).1 ∧ RepR K cl w (if p.1 = f then (p.1, v) else p).2 (if q.1 = f then (q.1, r) else q).2
    rw [h.1]
    split
    · exact ⟨rfl, hr⟩
    · exact h
theorem repRF_snoc {f : L2.Key} {v : L2.V} {r : R} (hr : RepR K cl w v r) : ∀ {vs : List (L2.Key × L2.V)} {rs : List (L2.Key × R)}, RepRF K cl w vs rs → RepRF K cl w (vs ++ [(f, v)]) (rs ++ [(f, r)])
  | _, _, .nil => .cons ⟨rfl, hr⟩ .nil
  | _, _, .cons h t => .cons h (repRF_snoc hr t)
theorem repRF_dput {f : L2.Key} {v : L2.V} {r : R} (hr : RepR K cl w v r) {vs : List (L2.Key × L2.V)} {rs : List (L2.Key × R)} (h : RepRF K cl w vs rs) : RepRF K cl w (putK vs f v) (dPut rs f r) := by
  unfold putK dPut
  rw [repRF_any f h]
  split
  · exact repRF_map hr h
  · exact repRF_snoc hr h
theorem repRF_keys : ∀ {vs : List (L2.Key × L2.V)} {rs : List (L2.Key × R)}, RepRF K cl w vs rs → vs.map (·.1) = rs.map (·.1)
  | _, _, .nil => rfl
  | _, _, .cons h t => by rw [List.map_cons, List.map_cons, h.1, repRF_keys t]
end
section
variable {X : Cx} {cl : Nat → Option Addr} {W : WY} {a b c : Expr} {ma mb mc : Env → M R} {pos : Pos}
theorem ve_bad {e : Expr} : VE X cl W e (fun _ => M.bad) := ⟨fun pins s σ H Q I h => by
  obtain ⟨_, _, _, _, _, h⟩ := h
  exact False.elim h⟩
theorem vt_bad {e : Expr} : VT X cl W e (fun _ => M.bad) := ⟨fun pins s σ H Q I h => by
  obtain ⟨_, _, _, _, _, h⟩ := h
  exact False.elim h⟩
theorem ve_dnew : VE X cl W (.Dict [] [] pos) (fun _ => alloc (.dct [])) := by
  refine PE.imp pe_dnewK fun σ H Q h => ?_
  obtain ⟨w, ρ, st, s, e, h⟩ := h
  intro p hp
  obtain ⟨s3, e3⟩ := s.allocG (o := .dK []) (c0 := .dct []) hp fun _ => ⟨s.sub.free hp, [], upd_same, .nil⟩
  refine h (.ref p) _ _ e3 s3 ⟨p, ?_, rfl⟩
  show (w.io ++ [p])[List.length st]? = some p
  rw [← s.len, List.getElem?_concat_length]
theorem ve_dix (hu : X.A.units + 1 < cLine) (hs : NoSl b) (ha : VE X cl W a ma) (hb : VE X cl W b mb) : VE X cl W (.Subscript a b pos) (fun ρ => (ma ρ).bind fun x => (mb ρ).bind fun y => dIx x y) := by
  refine PE.imp (pe_dget hu ha hb hs) fun σ H Q h => ?_
  obtain ⟨w, ρ, st, s, e, h⟩ := h
  refine (tG.bind (m := ma) s e h).mono fun x H1 ⟨w1, rx, st1, e1, s1, en1, r1, h1⟩ => ?_
  refine (tG.bind (m := mb) s1 en1 h1).mono fun y H2 ⟨w2, ry, st2, e2, s2, en2, r2, h2⟩ => ?_
  unfold dIx at h2
  obtain ⟨kvs, st3, q3, h3⟩ := Wn.step h2 dEnt_ne
  obtain ⟨rfl, d, vs, rfl, hd, rs⟩ := dEnt_ok s2 (r1.ext e2) q3
  obtain ⟨k, st4, q4, h4⟩ := Wn.step h3 keyM_ne
  obtain ⟨rfl, rfl⟩ := keyM_ok s2 r2 q4
  cases q5 : dAt kvs k with
  | none => rw [q5] at h4; exact False.elim h4
  | some r =>
    rw [q5] at h4
    obtain ⟨v, hv, rv⟩ := (repRF_at rs).1 r q5
    exact ⟨d, v, rfl, by rw [← hv]; exact DGet.k hd, h4 v w2 H2 (Ext.refl _ _) s2 rv⟩
theorem din_step {neg : Bool} {w : Wd} {H : Hp} {st : Store} {σ : L2.St} {γ δ : Type} {rel : Wd → δ → γ → Prop} {Q : δ → Hp → Prop} {f : R → M γ} {x y : L2.V} {rx ry : R} (s : SR X.K cl w H st) (hx : RepR X.K cl w x rx) (hy : RepR X.K cl w y ry)
    (h : Wn rel X.K cl W σ Q w H (((dIn neg ry rx).bind f) st)) : ∃ d o, x = .ref d ∧ DGet H d y o ∧ Wn rel X.K cl W σ Q w H (f (.v (.bl (if neg = true then !o.isSome else o.isSome))) st) := by
  unfold dIn at h
  rw [M.bind_assoc_at] at h
  obtain ⟨kvs, st3, q3, h3⟩ := Wn.step h dEnt_ne
  obtain ⟨rfl, d, vs, rfl, hd, rs⟩ := dEnt_ok s hx q3
  rw [M.bind_assoc_at] at h3
  obtain ⟨k, st4, q4, h4⟩ := Wn.step h3 keyM_ne
  obtain ⟨rfl, rfl⟩ := keyM_ok s hy q4
  refine ⟨d, valV vs k, rfl, DGet.k hd, ?_⟩
  have e : (valV vs k).isSome = (dAt kvs k).isSome := by
    cases q5 : dAt kvs k with
    | none => rw [(repRF_at rs).2 q5]; rfl
    | some r => obtain ⟨v, hv, _⟩ := (repRF_at rs).1 r q5; rw [hv]; rfl
  rw [e]
  exact h4
theorem ve_din (hu : X.A.units + 1 < cLine) (hk : behindInMarks .In b = false) (ha : VE X cl W a ma) (hb : VE X cl W b mb) : VE X cl W (.Compare a [.In] [b] pos) (fun ρ => (ma ρ).bind fun y => (mb ρ).bind fun x => dIn false y x) := by
  refine PE.imp (pe_cmp (pc_din hu ha hb) hk) fun σ H Q h => ?_
  obtain ⟨w, ρ, st, s, e, h⟩ := h
  refine (tG.bind (m := ma) s e h).mono fun y H1 ⟨w1, ry, st1, e1, s1, en1, r1, h1⟩ => ?_
  refine (tG.bind (m := mb) s1 en1 h1).mono fun x H2 ⟨w2, rx, st2, e2, s2, en2, r2, h2⟩ => ?_
  obtain ⟨d, o, rfl, g, h3⟩ := din_step (f := M.pure) s2 r2 (r1.ext e2) (by rw [M.bind_at]; cases q : dIn false ry rx st2 <;> rw [q] at h2 <;> exact h2)
  exact ⟨d, o, rfl, g, h3 _ w2 H2 (Ext.refl _ _) s2 (Rep.bl _)⟩
theorem ve_dnin (hu : X.A.units + 1 < cLine) (hk : behindInMarks .NotIn b = false) (ha : VE X cl W a ma) (hb : VE X cl W b mb) : VE X cl W (.Compare a [.NotIn] [b] pos) (fun ρ => (ma ρ).bind fun y => (mb ρ).bind fun x => dIn true y x) := by
  refine PE.imp (pe_cmp (pc_dnotin hu ha hb) hk) fun σ H Q h => ?_
  obtain ⟨w, ρ, st, s, e, h⟩ := h
  refine (tG.bind (m := ma) s e h).mono fun y H1 ⟨w1, ry, st1, e1, s1, en1, r1, h1⟩ => ?_
  refine (tG.bind (m := mb) s1 en1 h1).mono fun x H2 ⟨w2, rx, st2, e2, s2, en2, r2, h2⟩ => ?_
  obtain ⟨d, o, rfl, g, h3⟩ := din_step (f := M.pure) s2 r2 (r1.ext e2) (by rw [M.bind_at]; cases q : dIn true ry rx st2 <;> rw [q] at h2 <;> exact h2)
  exact ⟨d, o, rfl, g, h3 _ w2 H2 (Ext.refl _ _) s2 (Rep.bl _)⟩
theorem vt_din (hu : X.A.units + 1 < cLine) (hk : behindInMarks .In b = false) (ha : VE X cl W a ma) (hb : VE X cl W b mb) : VT X cl W (.Compare a [.In] [b] pos) (fun ρ => ((ma ρ).bind fun y => (mb ρ).bind fun x => dIn false y x).bind truth) := by
  refine PT.imp (pt_cmp (pc_din hu ha hb) hk) fun σ H Q h => ?_
  obtain ⟨w, ρ, st, s, e, h⟩ := h
  simp only [M.bind_assoc_at] at h
  refine (tG.bind (m := ma) s e h).mono fun y H1 ⟨w1, ry, st1, e1, s1, en1, r1, h1⟩ => ?_
  rw [M.bind_assoc_at] at h1
  refine (tG.bind (m := mb) s1 en1 h1).mono fun x H2 ⟨w2, rx, st2, e2, s2, en2, r2, h2⟩ => ?_
  obtain ⟨d, o, rfl, g, h3⟩ := din_step s2 r2 (r1.ext e2) h2
  exact ⟨d, o, rfl, g, _, rfl, h3 _ w2 H2 (Ext.refl _ _) s2 rfl⟩
theorem vt_dnin (hu : X.A.units + 1 < cLine) (hk : behindInMarks .NotIn b = false) (ha : VE X cl W a ma) (hb : VE X cl W b mb) : VT X cl W (.Compare a [.NotIn] [b] pos) (fun ρ => ((ma ρ).bind fun y => (mb ρ).bind fun x => dIn true y x).bind truth) := by
  refine PT.imp (pt_cmp (pc_dnotin hu ha hb) hk) fun σ H Q h => ?_
  obtain ⟨w, ρ, st, s, e, h⟩ := h
  simp only [M.bind_assoc_at] at h
  refine (tG.bind (m := ma) s e h).mono fun y H1 ⟨w1, ry, st1, e1, s1, en1, r1, h1⟩ => ?_
  rw [M.bind_assoc_at] at h1
  refine (tG.bind (m := mb) s1 en1 h1).mono fun x H2 ⟨w2, rx, st2, e2, s2, en2, r2, h2⟩ => ?_
  obtain ⟨d, o, rfl, g, h3⟩ := din_step s2 r2 (r1.ext e2) h2
  exact ⟨d, o, rfl, g, _, rfl, h3 _ w2 H2 (Ext.refl _ _) s2 rfl⟩
theorem dget_step {w : Wd} {H : Hp} {st : Store} {σ : L2.St} {Q : VK} {x y z : L2.V} {rx ry rz : R} (s : SR X.K cl w H st) (hx : RepR X.K cl w x rx) (hy : RepR X.K cl w y ry) (hz : RepR X.K cl w z rz)
    (h : Wn (RepR X.K cl) X.K cl W σ Q w H (dGet rx ry rz st)) : ∃ d o, x = .ref d ∧ DGet H d y o ∧ Q (o.getD z) H := by
  unfold dGet at h
  obtain ⟨kvs, st3, q3, h3⟩ := Wn.step h dEnt_ne
  obtain ⟨rfl, d, vs, rfl, hd, rs⟩ := dEnt_ok s hx q3
  obtain ⟨k, st4, q4, h4⟩ := Wn.step h3 keyM_ne
  obtain ⟨rfl, rfl⟩ := keyM_ok s hy q4
  refine ⟨d, valV vs k, rfl, DGet.k hd, ?_⟩
  cases q5 : dAt kvs k with
  | none => rw [q5] at h4; rw [(repRF_at rs).2 q5]; exact h4 z w H (Ext.refl _ _) s hz
  | some r =>
    rw [q5] at h4
    obtain ⟨v, hv, rv⟩ := (repRF_at rs).1 r q5
    rw [hv]
    exact h4 v w H (Ext.refl _ _) s rv
theorem m1_of {m : Str} {ap : Pos} (hbase : attributeBase a m X.env (eval a X.env) = eval a X.env) (hline : (ap.endLine == pos.line) = true) (hs : noStar b = true) : M1 X a m ap b pos :=
  ⟨hbase, by rw [star_cons hs]; rfl, hline, by rw [star_cons hs]; rfl⟩
theorem m2_of {m : Str} {ap : Pos} (hbase : attributeBase a m X.env (eval a X.env) = eval a X.env) (hline : (ap.endLine == pos.line) = true) (hs : noStar b = true) (hs' : noStar c = true) : M2 X a m ap b c pos :=
  ⟨hbase, by rw [star_cons hs, star_cons hs']; rfl, hline, by rw [star_cons hs, star_cons hs']; rfl⟩
theorem ve_dget1 {ap : Pos} (hu : X.A.units + 1 < cLine) (hbase : attributeBase a "get" X.env (eval a X.env) = eval a X.env) (hline : (ap.endLine == pos.line) = true) (hs : noStar b = true) (ha : VE X cl W a ma) (hb : VE X cl W b mb) :
    VE X cl W (.Call (.Attribute a "get" ap) [b] [] pos) (fun ρ => (ma ρ).bind fun x => (dEnt x).bind fun _ => (mb ρ).bind fun y => dGet x y (.v .non)) := by
  refine PE.imp (pe_dget1 hu ha hb (m1_of hbase hline hs)) fun σ H Q h => ?_
  obtain ⟨w, ρ, st, s, e, h⟩ := h
  refine (tG.bind (m := ma) s e h).mono fun x H1 ⟨w1, rx, st1, e1, s1, en1, r1, h1⟩ => ?_
  obtain ⟨kvs, st3, q3, h3⟩ := Wn.step h1 dEnt_ne
  obtain ⟨rfl, d, vs, rfl, hd, rs⟩ := dEnt_ok s1 r1 q3
  refine ⟨d, rfl, .inl ⟨vs, .inl hd⟩, ?_⟩
  refine (tG.bind (m := mb) s1 en1 h3).mono fun y H2 ⟨w2, ry, st2, e2, s2, en2, r2, h2⟩ => ?_
  obtain ⟨d', o, hd', g, q⟩ := dget_step s2 (r1.ext e2) r2 (z := .non) (show RepR X.K cl w2 .non (.v .non) from Rep.non) h2
  cases hd'
  exact ⟨o, g, q⟩
theorem ve_dget2 {ap : Pos} (hu : X.A.units + 1 < cLine) (hbase : attributeBase a "get" X.env (eval a X.env) = eval a X.env) (hline : (ap.endLine == pos.line) = true) (hs : noStar b = true) (hs' : noStar c = true) (ha : VE X cl W a ma) (hb : VE X cl W b mb) (hc : VE X cl W c mc) :
    VE X cl W (.Call (.Attribute a "get" ap) [b, c] [] pos) (fun ρ => (ma ρ).bind fun x => (dEnt x).bind fun _ => (mb ρ).bind fun y => (mc ρ).bind fun z => dGet x y z) := by
  refine PE.imp (pe_dget2 hu ha hb hc (m2_of hbase hline hs hs')) fun σ H Q h => ?_
  obtain ⟨w, ρ, st, s, e, h⟩ := h
  refine (tG.bind (m := ma) s e h).mono fun x H1 ⟨w1, rx, st1, e1, s1, en1, r1, h1⟩ => ?_
  obtain ⟨kvs, st3, q3, h3⟩ := Wn.step h1 dEnt_ne
  obtain ⟨rfl, d, vs, rfl, hd, rs⟩ := dEnt_ok s1 r1 q3
  refine ⟨d, rfl, .inl ⟨vs, .inl hd⟩, ?_⟩
  refine (tG.bind (m := mb) s1 en1 h3).mono fun y H2 ⟨w2, ry, st2, e2, s2, en2, r2, h2⟩ => ?_
  refine (tG.bind (m := mc) s2 en2 h2).mono fun z H3 ⟨w3, rz, st3, e3, s3, en3, r3, h4⟩ => ?_
  obtain ⟨d', o, hd', g, q⟩ := dget_step s3 ((r1.ext e2).ext e3) (r2.ext e3) r3 h4
  cases hd'
  exact ⟨o, g, q⟩
/-- list(d) -/
theorem reps_keys {G : Hp} {K : PySem.W.Frag} : ∀ ks : List L2.Key, Reps K cl G (ks.map kV) (ks.map keyR)
  | [] => .nil
  | .inl i :: ks => .cons (.int i) (reps_keys ks)
  | .inr s :: ks => .cons (.str s) (reps_keys ks)
theorem ve_dkeys {p : Pos} (hc : X.calm = true) (hg : Gl X "list") (hm : X.mg "list" = none) (hs : noStar a = true) (ha : VE X cl W a ma) : VE X cl W (.Call (.Name "list" p) [a] [] pos) (fun ρ => (ma ρ).bind dKeys) := by
  refine PE.imp (pe_callTy (call_listD hc) hg hm (by decide +kernel) (pa_cons ha pa_nil (star_cons hs _ _)) (by decide) (by decide) (star_cons hs _ _) rfl) fun σ H Q h => ?_
  obtain ⟨w, ρ, st, s, e, h⟩ := h
  refine (tG.bind (m := ma) s e h).mono fun x H1 ⟨w1, rx, st1, e1, s1, en1, r1, h1⟩ => ?_
  unfold dKeys at h1
  obtain ⟨kvs, st2, q2, h2⟩ := Wn.step h1 dEnt_ne
  obtain ⟨rfl, d, vs, rfl, hd, rs⟩ := dEnt_ok s1 r1 q2
  refine ⟨d, vs, rfl, .inl hd, fun l hl => ?_⟩
  have ek : (vs.map fun kv => kV kv.1) = (kvs.map (·.1)).map kV := by
    rw [← repRF_keys rs, List.map_map]; rfl
  have ek2 : (kvs.map fun kv => keyR kv.1) = (kvs.map (·.1)).map keyR := by rw [List.map_map]; rfl
  rw [ek]
  obtain ⟨s', e'⟩ := s1.lay (o := .lst ((kvs.map (·.1)).map kV)) hl
  refine h2 _ _ _ e' s' ?_
  show Rep X.K cl _ _ _
  rw [ek2]
  exact .lst (SqL.of upd_same) (reps_keys _)
/-- d[k] = v -/
theorem dPutC_ok {K : PySem.W.Frag} {w : Wd} {H : Hp} {st st' : Store} {x y v : L2.V} {rx ry rv : R} {u : Unit} (s : SR K cl w H st) (hx : RepR K cl w x rx) (hy : RepR K cl w y ry) (hv : RepR K cl w v rv) (e : dPutC rx ry rv st = .ok u st') :
    ∃ d H', x = .ref d ∧ DPut H d y v H' ∧ SR K cl w H' st' ∧ Ext w H w H' := by
  unfold dPutC at e
  simp only [M.bind] at e
  cases q : keyM ry st with
  | bad => rw [q] at e; cases e
  | exc c fs z => exact absurd q (keyM_ne c fs z)
  | ok k s1 =>
    rw [q] at e
    simp only [Out.bind_ok] at e
    obtain ⟨rfl, rfl⟩ := keyM_ok s hy q
    cases rx with
    | v d => cases e
    | ex c fs => cases e
    | ref n =>
      simp only at e
      split at e
      · rename_i kvs hc
        split at e
        · rename_i hl
          cases e
          obtain ⟨d, hd, rfl⟩ := hx
          obtain ⟨ga, vs, hv1, rs⟩ := s.cell n _ d hc hd
          obtain ⟨s2, e2⟩ := s.writeD hc hd (repRF_dput hv rs)
          exact ⟨d, _, rfl, DPut.k hv1 (by rw [Paired.length rs]; exact hl), s2, e2⟩
        · cases e
      · cases e
theorem dPutC_ne {x y v : R} {st : Store} : ∀ c fs s, dPutC x y v st ≠ .exc c fs s := fun c fs s e => by
  unfold dPutC at e
  simp only [M.bind] at e
  cases q : keyM y st with
  | bad => rw [q] at e; cases e
  | exc c fs z => exact absurd q (keyM_ne c fs z)
  | ok k s1 =>
    rw [q] at e
    simp only [Out.bind_ok] at e
    split at e
    · split at e
      · split at e <;> cases e
      · cases e
    · cases e
/-! ### texts -/
theorem reps_strs {G : Hp} {K : PySem.W.Frag} : ∀ ys : List Str, Reps K cl G (ys.map V.str) (ys.map D.str)
  | [] => .nil
  | s :: ks => .cons (.str s) (reps_strs ks)
theorem txM_read {m : Tm} {w : Wd} {H : Hp} {st : Store} {σ : L2.St} {Q : VK} {s0 : Str} {y : L2.V} {ry : R} (s : SR X.K cl w H st) (hy : RepR X.K cl w y ry) (h : Wn (RepR X.K cl) X.K cl W σ Q w H (txM m (.str s0) ry st)) :
    ∃ b, y = .str b ∧ (b.length == 0) = false ∧ s0.length + 2 ≤ sizeLine ∧ NewD X.K cl w H st (match m with | .split => .lst ((Txt.split s0 b).map D.str) | .partition => .tup [.str (Txt.partition s0 b).1, .str (Txt.partition s0 b).2.1, .str (Txt.partition s0 b).2.2]) Q := by
  unfold txM at h
  obtain ⟨d, st6, q6, h6⟩ := Wn.step h rdD_ne
  obtain ⟨f6, rfl⟩ := rdD_ok q6
  have rd := force_rep s hy f6
  cases d with
  | str b =>
    simp only at h6
    split at h6
    · rename_i hz
      refine ⟨b, by cases rd; rfl, hz.1, hz.2, ?_⟩
      cases m <;> exact fun v w' H' e' s' r => h6 v w' H' e' s' r
    · exact False.elim h6
  | _ => exact False.elim h6
theorem ve_split {ap : Pos} (hbase : attributeBase a "split" X.env (eval a X.env) = eval a X.env) (hline : (ap.endLine == pos.line) = true) (hs : noStar b = true) (ha : VE X cl W a ma) (hb : VE X cl W b mb) :
    VE X cl W (.Call (.Attribute a "split" ap) [b] [] pos) (fun ρ => (ma ρ).bind fun x => (rdD x).bind fun d => (chkTx d).bind fun _ => (mb ρ).bind fun y => txM .split d y) := by
  refine PE.imp (pe_split ha hb (by rw [star_cons hs]; rfl) hbase hline) fun σ H Q h => ?_
  obtain ⟨w, ρ, st, s, e, h⟩ := h
  refine (tG.bind (m := ma) s e h).mono fun x H1 ⟨w1, rx, st1, e1, s1, en1, r1, h1⟩ => ?_
  obtain ⟨d, st4, q4, h4⟩ := Wn.step h1 rdD_ne
  obtain ⟨f4, rfl⟩ := rdD_ok q4
  have rd := force_rep s1 r1 f4
  obtain ⟨_, st5, q5, h5⟩ := Wn.step h4 chkTx_ne
  cases d with
  | str b' =>
    cases q5
    have hx : x = .str b' := by cases rd; rfl
    refine ⟨⟨b', hx⟩, ?_⟩
    refine (tG.bind (m := mb) s1 en1 h5).mono fun y H2 ⟨w2, ry, st2, e2, s2, en2, r2, h2⟩ => ?_
    obtain ⟨b, rfl, hb0, hl, n⟩ := txM_read s2 r2 h2
    exact ⟨b', b, hx, rfl, hb0, hl, fun p hp => n.lay s2 hp (.lst (SqL.of upd_same) (reps_strs _))⟩
  | _ => cases q5
theorem ve_partition {ap : Pos} (hbase : attributeBase a "partition" X.env (eval a X.env) = eval a X.env) (hline : (ap.endLine == pos.line) = true) (hs : noStar b = true) (ha : VE X cl W a ma) (hb : VE X cl W b mb) :
    VE X cl W (.Call (.Attribute a "partition" ap) [b] [] pos) (fun ρ => (ma ρ).bind fun x => (rdD x).bind fun d => (chkTx d).bind fun _ => (mb ρ).bind fun y => txM .partition d y) := by
  refine PE.imp (pe_partition ha hb (by rw [star_cons hs]; rfl) hbase hline) fun σ H Q h => ?_
  obtain ⟨w, ρ, st, s, e, h⟩ := h
  refine (tG.bind (m := ma) s e h).mono fun x H1 ⟨w1, rx, st1, e1, s1, en1, r1, h1⟩ => ?_
  obtain ⟨d, st4, q4, h4⟩ := Wn.step h1 rdD_ne
  obtain ⟨f4, rfl⟩ := rdD_ok q4
  have rd := force_rep s1 r1 f4
  obtain ⟨_, st5, q5, h5⟩ := Wn.step h4 chkTx_ne
  cases d with
  | str b' =>
    cases q5
    have hx : x = .str b' := by cases rd; rfl
    refine ⟨⟨b', hx⟩, ?_⟩
    refine (tG.bind (m := mb) s1 en1 h5).mono fun y H2 ⟨w2, ry, st2, e2, s2, en2, r2, h2⟩ => ?_
    obtain ⟨b, rfl, hb0, hl, n⟩ := txM_read s2 r2 h2
    exact ⟨b', b, hx, rfl, hb0, by omega, fun p hp => n.lay s2 hp (.tup (.inl (.inl upd_same)) (.cons (.str _) (.cons (.str _) (.cons (.str _) .nil))))⟩
  | _ => cases q5
/-! ### index, count -/
theorem lsOf_ok {d : D} {ds : List D} {st st' : Store} (h : lsOf d st = .ok ds st') : d = .lst ds ∧ st' = st := by
  cases d <;> cases h
  exact ⟨rfl, rfl⟩
theorem lsOf_ne {d : D} {st : Store} : ∀ c fs s, lsOf d st ≠ .exc c fs s := fun c fs s e => by
  cases d <;> cases e
theorem idxD_some {y : PyData} : ∀ {xs : List PyData} {j : Nat}, idxD y xs = some j → (∃ z, xs[j]? = some z ∧ PyData.eqv z y = true) ∧ ∀ (m : Nat) (z : PyData), m < j → xs[m]? = some z → PyData.eqv z y = false
  | [], _, h => by simp [idxD] at h
  | x :: xs, j, h => by
    simp only [idxD] at h
    split at h
    · rename_i hz
      cases h
      exact ⟨⟨x, rfl, hz⟩, fun m z hm => by omega⟩
    · rename_i hz
      cases q : idxD y xs with
      | none => rw [q] at h; cases h
      | some i =>
        rw [q] at h
        cases h
        obtain ⟨⟨z, h1, h2⟩, h3⟩ := idxD_some q
        refine ⟨⟨z, by simpa using h1, h2⟩, fun m z' hm hz' => ?_⟩
        cases m with
        | zero => simp at hz'; subst hz'; simpa using hz
        | succ m => exact h3 m z' (Nat.lt_of_succ_lt_succ hm) (by simpa using hz')
theorem list_head {K : PySem.W.Frag} {w : Wd} {H : Hp} {st : Store} {x : L2.V} {rx : R} {ds : List D} (s : SR K cl w H st) (r : RepR K cl w x rx) (f : force st rx = some (.lst ds)) : ∃ p vs, x = .ref p ∧ SqL K H p vs ∧ Reps K cl w.G vs ds := force_rep s r f
theorem allI_rep {K : PySem.W.Frag} {G : Hp} : ∀ {vs : List L2.V} {ds : List D} {ns : List Int}, Reps K cl G vs ds → allI ds = some ns → vs = ns.map V.int
  | _, _, ns, .nil, e => by cases e; rfl
  | _, _, ns, .cons (d := d) (ds := ds) h r, e => by
    cases d with
    | int i =>
      cases h
      cases q : allI ds with
      | none => simp only [allI, q] at e; cases e
      | some zs =>
        simp only [allI, q] at e
        cases e
        rw [allI_rep r q]; rfl
    | _ => cases e
theorem ve_index {ap : Pos} (hu : X.A.units + 65 < cLine) (hbase : attributeBase a "index" X.env (eval a X.env) = eval a X.env) (hline : (ap.endLine == pos.line) = true) (hs : noStar b = true) (ha : VE X cl W a ma) (hb : VE X cl W b mb) :
    VE X cl W (.Call (.Attribute a "index" ap) [b] [] pos) (fun ρ => (ma ρ).bind fun x => (rdD x).bind fun d0 => (lsOf d0).bind fun _ => (mb ρ).bind fun y => (rdD x).bind fun d => (lsOf d).bind fun ds => lsM .index ds y) := by
  refine PE.imp (pe_bm PySem.F.plainAttrs_list PySem.F.slot_list_index PySem.F.type_list_index (mt_indexD hu) ha (pa_cons hb pa_nil (star_cons hs _ _)) hbase (by rw [star_cons hs]; rfl) hline (star_cons hs _ _) rfl) fun σ H Q h => ?_
  obtain ⟨w, ρ, st, s, e, h⟩ := h
  refine (tG.bind (m := ma) s e h).mono fun x H1 ⟨w1, rx, st1, e1, s1, en1, r1, h1⟩ => ?_
  obtain ⟨d, st4, q4, h4⟩ := Wn.step h1 rdD_ne
  obtain ⟨f4, rfl⟩ := rdD_ok q4
  obtain ⟨ds0, st5, q5, h5⟩ := Wn.step h4 lsOf_ne
  obtain ⟨rfl, rfl⟩ := lsOf_ok q5
  obtain ⟨p, vs, rfl, hq, _⟩ := list_head s1 r1 f4
  refine ⟨.inl ⟨rfl, vs, hq⟩, ?_⟩
  refine (tG.bind (m := mb) s1 en1 h5).mono fun y H2 ⟨w2, ry, st2, e2, s2, en2, r2, h2⟩ => ?_
  obtain ⟨d, st6, q6, h6⟩ := Wn.step h2 rdD_ne
  obtain ⟨f6, rfl⟩ := rdD_ok q6
  obtain ⟨ds, st7, q7, h7⟩ := Wn.step h6 lsOf_ne
  obtain ⟨rfl, rfl⟩ := lsOf_ok q7
  obtain ⟨p', vs', hp', hq', rr⟩ := list_head s2 (r1.ext e2) f6
  cases hp'
  unfold lsM at h7
  obtain ⟨dy, st8, q8, h8⟩ := Wn.step h7 rdD_ne
  obtain ⟨f8, rfl⟩ := rdD_ok q8
  have rd := (force_rep s2 r2 f8).rep s2.sub
  cases qa : toPs ds with
  | none => simp only [qa] at h8; exact False.elim h8
  | some ps =>
    cases qb : toP dy with
    | none => simp only [qa, qb] at h8; exact False.elim h8
    | some pd =>
      simp only [qa, qb] at h8
      split at h8
      · rename_i hz
        cases qi : idxD pd ps with
        | none => rw [qi] at h8; exact False.elim h8
        | some j =>
          rw [qi] at h8
          obtain ⟨⟨z, z1, z2⟩, z3⟩ := idxD_some qi
          exact ⟨p, y, pd, ps, j, z, rfl, rfl, .lst hq' (Reps.dp (rr.mono s2.sub) qa), Rep.dp rd qb, hz.1, hz.2, z1, z2, z3, h8 _ w2 H2 (Ext.refl _ _) s2 (Rep.int _)⟩
      · exact False.elim h8
theorem mt_or {f : String} {r1 r2 : V → List V → Hp → VK → Prop} (h1 : MtR X f r1) (h2 : MtR X f r2) : MtR X f fun x xs H Q => r1 x xs H Q ∨ r2 x xs H Q := fun pins s σ H x xs v us Q I rx rxs h => h.elim (h1 pins s σ H x xs v us Q I rx rxs) (h2 pins s σ H x xs v us Q I rx rxs)
/-- how often, in a list of data of any depth -/
def rCntD (K : PySem.W.Frag) : V → List V → Hp → VK → Prop := fun x xs H Q => ∃ (a : Addr) (y : V) (d : PyData) (ds : List PyData), x = V.ref a ∧ xs = [y] ∧ Dp K H (V.ref a) (.list ds) ∧ Dp K H y d ∧ SeqAt.shaped (.list ds) = true ∧ SeqAt.shaped d = true ∧ Q (.int (ds.countP fun z => PyData.eqv z d : Nat)) H
theorem mt_countD (hu : X.A.units + 65 < cLine) : MtR X "list.count" (rCntD X.K) := by
  intro pins s σ H x xs v us Q I rx rxs h
  obtain ⟨a, y, d, ds, rfl, rfl, hl, hy, sl, sd, q⟩ := h
  cases rx
  obtain ⟨uy, rfl, ry⟩ := rxs.one
  obtain ⟨bs, r1⟩ := Dp.reads I d y uy hy ry
  have lay := SeqAt.canLay_of_shaped sl
  cases hl with
  | lst hs ha =>
    obtain ⟨its, rv, ⟨⟨cls, dd, data, sls⟩, n, ho, hc, hdn, hdt⟩, hlen⟩ := I.list hs
    simp only at hc hdt
    subst hc hdt
    obtain ⟨as, h4⟩ := Dp.readsAll I ds _ its ha rv
    have em : its.map (SeqAt.readOf s.heap) = ds := SeqAt.readsAll_map ds its as lay h4
    refine call_meets PySem.F.slot_list_count ⟨_, ho, rfl⟩ PySem.F.entry_list_count (PySem.F.args_list_count_2 _ _)
      (SeqAt.list_countAt a its.toArray n dd sls uy fun u => PyData.eqv (SeqAt.readOf s.heap u) d) ⟨ho, SeqAt.items_eqAt (vs := its.toArray) (by simpa using h4) r1 lay (SeqAt.canLay_of_shaped sd) (room_in_shaped sd hu), ⟨.int (ds.countP fun z => PyData.eqv z d : Nat), H, I.tok _, ⟨s.toks, ?_⟩, q⟩⟩
    have ec : its.toArray.toList.countP (fun u => PyData.eqv (SeqAt.readOf s.heap u) d) = ds.countP fun z => PyData.eqv z d := by
      rw [← em, List.countP_map]; rfl
    rw [← ec]
theorem ve_count {ap : Pos} (hu : X.A.units + 65 < cLine) (hbase : attributeBase a "count" X.env (eval a X.env) = eval a X.env) (hline : (ap.endLine == pos.line) = true) (hs : noStar b = true) (ha : VE X cl W a ma) (hb : VE X cl W b mb) :
    VE X cl W (.Call (.Attribute a "count" ap) [b] [] pos) (fun ρ => (ma ρ).bind fun x => (rdD x).bind fun d0 => (lsOf d0).bind fun _ => (mb ρ).bind fun y => (rdD x).bind fun d => (lsOf d).bind fun ds => lsM .count ds y) := by
  refine PE.imp (pe_bm PySem.F.plainAttrs_list PySem.F.slot_list_count PySem.F.type_list_count (mt_or mt_lcount (mt_countD hu)) ha (pa_cons hb pa_nil (star_cons hs _ _)) hbase (by rw [star_cons hs]; rfl) hline (star_cons hs _ _) rfl) fun σ H Q h => ?_
  obtain ⟨w, ρ, st, s, e, h⟩ := h
  refine (tG.bind (m := ma) s e h).mono fun x H1 ⟨w1, rx, st1, e1, s1, en1, r1, h1⟩ => ?_
  obtain ⟨d, st4, q4, h4⟩ := Wn.step h1 rdD_ne
  obtain ⟨f4, rfl⟩ := rdD_ok q4
  obtain ⟨ds0, st5, q5, h5⟩ := Wn.step h4 lsOf_ne
  obtain ⟨rfl, rfl⟩ := lsOf_ok q5
  obtain ⟨p, vs, rfl, hq, _⟩ := list_head s1 r1 f4
  refine ⟨.inl ⟨rfl, vs, hq⟩, ?_⟩
  refine (tG.bind (m := mb) s1 en1 h5).mono fun y H2 ⟨w2, ry, st2, e2, s2, en2, r2, h2⟩ => ?_
  obtain ⟨d, st6, q6, h6⟩ := Wn.step h2 rdD_ne
  obtain ⟨f6, rfl⟩ := rdD_ok q6
  obtain ⟨ds, st7, q7, h7⟩ := Wn.step h6 lsOf_ne
  obtain ⟨rfl, rfl⟩ := lsOf_ok q7
  obtain ⟨p', vs', hp', hq', rr⟩ := list_head s2 (r1.ext e2) f6
  cases hp'
  unfold lsM at h7
  obtain ⟨dy, st8, q8, h8⟩ := Wn.step h7 rdD_ne
  obtain ⟨f8, rfl⟩ := rdD_ok q8
  have rd := force_rep s2 r2 f8
  have deep : Wn (RepR X.K cl) X.K cl W σ Q w2 H2 ((match toPs ds, toP dy with
      | some ps, some p => if SeqAt.shaped (.list ps) = true ∧ SeqAt.shaped p = true then M.pure (.v (.int (ps.countP fun z => PyData.eqv z p : Nat))) else M.bad
      | _, _ => M.bad : M R) st8) → rCntD X.K (V.ref p) [y] H2 Q := fun h9 => by
    cases qa : toPs ds with
    | none => simp only [qa] at h9; exact False.elim h9
    | some ps =>
      cases qb : toP dy with
      | none => simp only [qa, qb] at h9; exact False.elim h9
      | some pd =>
        simp only [qa, qb] at h9
        split at h9
        · rename_i hz
          exact ⟨p, y, pd, ps, rfl, rfl, .lst hq' (Reps.dp (rr.mono s2.sub) qa), Rep.dp (rd.rep s2.sub) qb, hz.1, hz.2, h9 _ w2 H2 (Ext.refl _ _) s2 (Rep.int _)⟩
        · exact False.elim h9
  cases qa : allI ds with
  | none => simp only [qa] at h8; exact .inr (deep h8)
  | some ns =>
    cases dy with
    | int k =>
      simp only [qa] at h8
      have hy := repH_int rd
      subst hy
      have hv := allI_rep rr qa
      subst hv
      exact .inl ⟨p, ns, k, rfl, rfl, hq', h8 _ w2 H2 (Ext.refl _ _) s2 (Rep.int _)⟩
    | _ => simp only [qa] at h8; exact .inr (deep h8)
end
end SV

set_option maxRecDepth 100000
set_option maxHeartbeats 4000000
/-! SvPg: comprehensions of dicts; comprehensions with two clauses -/
namespace SV
open PySem PySem.Spec PyProof.Rows
open L2 hiding It
section
variable {K : PySem.W.Frag} {cl : Nat → Option Addr} {w : Wd} {H : Hp} {st : Store}
/-- a tracked dict comes in as a cell -/
theorem SR.enlistD (s : SR K cl w H st) {p : Addr} {vs : List (L2.Key × L2.V)} {xs : List (L2.Key × R)} (h : H p = some (.dK vs)) (hg : w.G p = none) (hi : p ∉ w.io) (r : RepRF K cl w vs xs) : SR K cl { w with io := w.io ++ [p] } H (st ++ [.dct xs]) := by
  have ee : ∀ {v : L2.V} {r : R}, RepR K cl w v r → RepR K cl { w with io := w.io ++ [p] } v r := fun {v r} q => by
    cases r with
    | v d => exact q
    | ref n =>
      obtain ⟨a, h1, h2⟩ := q
      exact ⟨a, by show (w.io ++ [p])[n]? = some a; rw [List.getElem?_append_left (List.getElem?_eq_some_iff.mp h1).1]; exact h1, h2⟩
    | ex c fs => exact q
  refine ⟨s.sub, by simp [s.len], ?_, fun a ha => ?_, fun n c a q ha => ?_⟩
  · show (w.io ++ [p]).Nodup
    rw [List.nodup_append]
    exact ⟨s.nd, by simp, fun a ha b hb => by rw [List.mem_singleton.mp hb]; exact fun z => hi (z ▸ ha)⟩
  · have ha' : a ∈ w.io ++ [p] := ha
    rcases List.mem_append.mp ha' with z | z
    · exact s.trk a z
    · rw [List.mem_singleton.mp z]; exact ⟨_, h⟩
  · have ha' : (w.io ++ [p])[n]? = some a := ha
    by_cases hn : n < w.io.length
    · rw [List.getElem?_append_left hn] at ha'
      rw [List.getElem?_append_left (by rw [← s.len]; exact hn)] at q
      have k := s.cell n c a q ha'
      cases c with
      | lst ys =>
        obtain ⟨h1, us, h2, h3⟩ := k
        exact ⟨h1, us, h2, L2.Paired.mapP h3 fun _ _ z => ee z⟩
      | obj c fs =>
        obtain ⟨h1, C, dx, fvs, h2, h3, h4⟩ := k
        exact ⟨h1, C, dx, fvs, h2, h3, L2.Paired.mapP h4 fun _ _ z => ⟨z.1, ee z.2⟩⟩
      | dct kvs =>
        obtain ⟨h1, vs, h3, h4⟩ := k
        exact ⟨h1, vs, h3, L2.Paired.mapP h4 fun _ _ z => ⟨z.1, ee z.2⟩⟩
      | fz d => exact k
    · have hz : n = w.io.length := by
        have := (List.getElem?_eq_some_iff.mp ha').1
        simp at this; omega
      subst hz
      rw [List.getElem?_concat_length] at ha'
      cases ha'
      rw [s.len, List.getElem?_concat_length] at q
      cases q
      exact ⟨hg, vs, h, L2.Paired.mapP r fun _ _ z => ⟨z.1, ee z.2⟩⟩
theorem RepRF.ext {κ : Type} {w' : Wd} {H' : Hp} (e : Ext w H w' H') {vs : List (κ × L2.V)} {rs : List (κ × R)} (h : RepRF K cl w vs rs) : RepRF K cl w' vs rs := L2.Paired.mapP h fun _ _ q => ⟨q.1, q.2.ext e⟩
theorem dPut_len {α : Type} (kvs : List (L2.Key × α)) (k : L2.Key) (v : α) : (dPut kvs k v).length ≤ kvs.length + 1 := by
  unfold dPut
  split <;> simp
end
section
variable {X : Cx} {cl : Nat → Option Addr} {W : WY}
theorem dc_read {tgt : Tg} {own : List Nat} {mi : Env → M (List R)} {mc : Env → M Bool} {mk mv : Env → M R} {σ : L2.St} {H : Hp} {Q : VK} (hown : ∀ j ∈ tgt.slots, j ∈ own)
    (h : tV X.K cl W (dcM tgt own mi mc mk mv) σ H Q) : tDc (tI X.K cl W mi) (tTg X.K cl Wf tgt) (tB X.K cl Wf mc) (tV X.K cl Wf mk) (tV X.K cl Wf mv) own σ H Q := by
  obtain ⟨w, ρ, st, s, e, h⟩ := h
  have A1 : tI X.K cl W mi σ H (fun J H1 => ∃ w1 xs st1, Ext w H w1 H1 ∧ SR X.K cl w1 H1 st1 ∧ EnvR X.K cl W w1 σ ρ ∧ IterOk X.K cl w1 J xs ∧ xs.length ≤ sizeLine ∧ Wn (RepR X.K cl) X.K cl W σ Q w1 H1 (((dcGo (fun x => noExc (dcTurn tgt mc mk mv (wipeE ρ own) x)) xs []).bind fun kvs => alloc (.dct kvs)) st1)) := by
    refine ⟨w, ρ, st, s, e, ?_⟩
    have h' : Wn (RepR X.K cl) X.K cl W σ Q w H ((mi ρ st).bind fun xs => (chkN xs.length).bind fun _ => (dcGo (fun x => noExc (dcTurn tgt mc mk mv (wipeE ρ own) x)) xs []).bind fun kvs => alloc (.dct kvs)) := h
    cases q : mi ρ st with
    | bad => rw [q] at h'; exact h'
    | exc c fs z => rw [q] at h'; exact h'
    | ok xs st1 =>
      rw [q] at h'
      simp only [Out.bind_ok, M.bind, chkN] at h'
      split at h'
      · rename_i hl
        exact fun J w1 H1 e1 s1 r1 => ⟨w1, xs, st1, e1, s1, e.ext e1, r1, hl, Wn.ext e1 h'⟩
      · exact False.elim h'
  refine tG.mono A1 fun J H1 ⟨w1, xs, st1, e1, s1, en1, it, hxl, h1⟩ => fun D hD => ?_
  have gD : w1.G D = none := s1.sub.free hD
  have iD : D ∉ w1.io := fun z => by
    obtain ⟨u, hu⟩ := s1.trk D z
    rw [hD] at hu; cases hu
  refine ⟨fun i m H => m = xs.length - i ∧ i ≤ xs.length ∧ ∃ w st ys vs, Ext w1 H1 w H ∧ SR X.K cl w H st ∧ H D = some (.dK vs) ∧ w.G D = none ∧ D ∉ w.io ∧ RepRF X.K cl w vs ys ∧ ys.length ≤ i ∧
      Wn (RepR X.K cl) X.K cl W σ Q w1 H1 (((dcGo (fun x => noExc (dcTurn tgt mc mk mv (wipeE ρ own) x)) (xs.drop i) ys).bind fun kvs => alloc (.dct kvs)) st),
    ⟨xs.length, by simp, Nat.zero_le _, w1, st1, [], [], (Ext.refl _ _).touch hD, s1.touch gD iD, upd_same, gD, iD, .nil, Nat.le_refl _, h1⟩, ?_⟩
  rintro i m H2 ⟨rfl, hi, w2, st2, ys, vs, e2, s2, hDv, g2, i2, rs, hyl, h2⟩
  obtain ⟨go, stop⟩ := it w2 H2 st2 e2.G s2
  by_cases hlt : i < xs.length
  · have hx : xs[i]? = some xs[i] := by simp [hlt]
    obtain ⟨g1, y1⟩ := go i _ hx
    rw [List.drop_eq_getElem_cons hlt] at h2
    simp only [dcGo, M.bind_assoc_at, M.bind_assoc] at h2
    obtain ⟨o, st3, q3, h3⟩ := Wn.step h2 noExc_ne
    have q4 := noExc_ok q3
    refine .inr ⟨g1, fun H' => i + 1 ≤ xs.length ∧ ∃ w st ys vs, Ext w1 H1 w H' ∧ SR X.K cl w H' st ∧ H' D = some (.dK vs) ∧ w.G D = none ∧ D ∉ w.io ∧ RepRF X.K cl w vs ys ∧ ys.length ≤ i + 1 ∧
      Wn (RepR X.K cl) X.K cl W σ Q w1 H1 (((dcGo (fun x => noExc (dcTurn tgt mc mk mv (wipeE ρ own) x)) (xs.drop (i + 1)) ys).bind fun kvs => alloc (.dct kvs)) st), fun H' q => ⟨xs.length - (i + 1), by omega, rfl, q⟩, fun v H3 y => ?_⟩
    obtain ⟨w3, e3, s3, r3⟩ := y1 v H3 y
    obtain ⟨d3, g3, i3⟩ := e3.beside hDv g2 i2
    unfold dcTurn at q4
    obtain ⟨ρ1, st4, q5, q6⟩ := M.bind_inv q4
    have := bindTg_st q5
    subst this
    have en3 : EnvR X.K cl Wf w3 (L2.wipe σ own) (wipeE ρ own) := (((en1.ext (e2.trans e3)).wipe).wish trivial)
    refine ⟨w3, wipeE ρ own, st4, xs[i], ρ1, st4, s3, en3, r3, q5, fun σ' en' hl' hj' => ⟨?_, ?_⟩⟩
    · rw [wipe_eq hl' fun j hj => hj' j fun z => hj (hown j z)]
      exact wipe_eq (L2.wipe_length _ _) fun j hj => L2.wipe_out hj
    · obtain ⟨k, st5, q7, q8⟩ := M.bind_inv q6
      refine ⟨w3, ρ1, st4, s3, en', ?_⟩
      rw [q7]
      intro b w4 H4 e4 s4 rb
      subst rb
      obtain ⟨d4, g4, i4⟩ := e4.beside d3 g3 i3
      cases b with
      | false =>
        cases q8
        rw [if_neg Bool.false_ne_true]
        exact ⟨hlt, w4, st3, ys, vs, (e2.trans e3).trans e4, s4, d4, g4, i4, (rs.ext e3).ext e4, by omega, h3⟩
      | true =>
        simp only [if_true] at q8 ⊢
        obtain ⟨y, st6, q9, q10⟩ := M.bind_inv q8
        refine ⟨w4, ρ1, st5, s4, en'.ext e4, ?_⟩
        rw [q9]
        intro u w5 H5 e5 s5 ru
        obtain ⟨d5, g5, i5⟩ := e5.beside d4 g4 i4
        obtain ⟨z, st7, q11, q12⟩ := M.bind_inv q10
        refine ⟨w5, ρ1, st6, s5, (en'.ext e4).ext e5, ?_⟩
        rw [q11]
        intro u2 w6 H6 e6 s6 ru2
        obtain ⟨d6, g6, i6⟩ := e6.beside d5 g5 i5
        obtain ⟨dz, st8, q13, q14⟩ := M.bind_inv q12
        obtain ⟨w7, e7, s7, r7⟩ := frz_ok s6 ru2 q13
        obtain ⟨d7, g7, i7⟩ := e7.beside d6 g6 i6
        obtain ⟨kk, st9, q15, q16⟩ := M.bind_inv q14
        obtain ⟨rfl, rfl⟩ := keyM_ok s7 ((ru.ext e6).ext e7) q15
        cases q16
        have rs7 : RepRF X.K cl w7 vs ys := ((((rs.ext e3).ext e4).ext e5).ext e6).ext e7
        have hlen : vs.length < sizeLine := by rw [Paired.length rs7]; omega
        refine ⟨vs, kk, rfl, d7, hlen, hlt, w7, st3, dPut ys kk (.v dz), putK vs kk u2, (((((e2.trans e3).trans e4).trans e5).trans e6).trans e7).touch hD, s7.touch g7 i7, upd_same, g7, i7, repRF_dput (show RepR X.K cl w7 u2 (.v dz) from r7) rs7, ?_, h3⟩
        have := dPut_len ys kk (R.v dz)
        omega
  · have he : i = xs.length := by omega
    subst he
    rw [List.drop_length] at h2
    simp only [dcGo] at h2
    have h3 : Wn (RepR X.K cl) X.K cl W σ Q w1 H1 (alloc (.dct ys) st2) := by simpa [M.bind, M.pure] using h2
    refine .inl ⟨stop, ?_⟩
    refine h3 (.ref D) _ H2 (e2.enlist hD) (s2.enlistD hDv g2 i2 rs) ⟨D, ?_, rfl⟩
    show (w2.io ++ [D])[List.length st2]? = some D
    rw [← s2.len, List.getElem?_concat_length]
theorem lc2_read {cell : Bool} {tgt tgt1 : Tg} {own : List Nat} {mi mi1 : Env → M (List R)} {mc mc1 : Env → M Bool} {me : Env → M R} {σ : L2.St} {H : Hp} {Q : VK} (hown : ∀ j ∈ tgt.slots, j ∈ own)
    (h : tV X.K cl W (lc2M cell tgt own mi mc tgt1 mi1 mc1 me) σ H Q) : tLc2 (tI X.K cl W mi) (tTg X.K cl Wf tgt) (tB X.K cl Wf mc) (tI X.K cl Wf mi1) (tTg X.K cl Wf tgt1) (tB X.K cl Wf mc1) (tV X.K cl Wf me) own tgt1.slots σ H Q := by
  obtain ⟨w, ρ, st, s, e, h⟩ := h
  have A1 : tI X.K cl W mi σ H (fun J H1 => ∃ w1 xs st1, Ext w H w1 H1 ∧ SR X.K cl w1 H1 st1 ∧ EnvR X.K cl W w1 σ ρ ∧ IterOk X.K cl w1 J xs ∧ xs.length ≤ 4096 ∧ Wn (RepR X.K cl) X.K cl W σ Q w1 H1 (((lc2Go (fun x => noExc (lc2Turn cell tgt mc tgt1 mi1 mc1 me (wipeE ρ own) x)) xs).bind (lcFin cell)) st1)) := by
    refine ⟨w, ρ, st, s, e, ?_⟩
    have h' : Wn (RepR X.K cl) X.K cl W σ Q w H ((mi ρ st).bind fun xs => (chk4 xs.length).bind fun _ => (lc2Go (fun x => noExc (lc2Turn cell tgt mc tgt1 mi1 mc1 me (wipeE ρ own) x)) xs).bind (lcFin cell)) := h
    cases q : mi ρ st with
    | bad => rw [q] at h'; exact h'
    | exc c fs z => rw [q] at h'; exact h'
    | ok xs st1 =>
      rw [q] at h'
      simp only [Out.bind_ok, M.bind, chk4] at h'
      split at h'
      · rename_i hl
        exact fun J w1 H1 e1 s1 r1 => ⟨w1, xs, st1, e1, s1, e.ext e1, r1, hl, Wn.ext e1 h'⟩
      · exact False.elim h'
  refine tG.mono A1 fun J H1 ⟨w1, xs, st1, e1, s1, en1, it, hxl, h1⟩ => fun D hD => ?_
  have gD : w1.G D = none := s1.sub.free hD
  have iD : D ∉ w1.io := fun z => by
    obtain ⟨u, hu⟩ := s1.trk D z
    rw [hD] at hu; cases hu
  refine ⟨fun i m H => m = xs.length - i ∧ i ≤ xs.length ∧ ∃ w st ys vs, Ext w1 H1 w H ∧ SR X.K cl w H st ∧ H D = some (.lst vs) ∧ w.G D = none ∧ D ∉ w.io ∧ RepRs X.K cl w vs ys ∧ ys.length ≤ i * 4096 ∧
      Wn (RepR X.K cl) X.K cl W σ Q w1 H1 (((lc2Go (fun x => noExc (lc2Turn cell tgt mc tgt1 mi1 mc1 me (wipeE ρ own) x)) (xs.drop i)).bind fun zs => lcFin cell (ys ++ zs)) st),
    ⟨xs.length, by simp, Nat.zero_le _, w1, st1, [], [], (Ext.refl _ _).touch hD, s1.touch gD iD, upd_same, gD, iD, .nil, by simp, h1⟩, ?_⟩
  rintro i m H2 ⟨rfl, hi, w2, st2, ys, vs, e2, s2, hDv, g2, i2, rs, hyl, h2⟩
  obtain ⟨go, stop⟩ := it w2 H2 st2 e2.G s2
  by_cases hlt : i < xs.length
  · have hx : xs[i]? = some xs[i] := by simp [hlt]
    obtain ⟨g1, y1⟩ := go i _ hx
    rw [List.drop_eq_getElem_cons hlt] at h2
    simp only [lc2Go, M.bind_assoc_at, M.bind_assoc] at h2
    obtain ⟨zs0, st3, q3, h3⟩ := Wn.step h2 noExc_ne
    have q4 := noExc_ok q3
    have h3' : Wn (RepR X.K cl) X.K cl W σ Q w1 H1 (((lc2Go (fun x => noExc (lc2Turn cell tgt mc tgt1 mi1 mc1 me (wipeE ρ own) x)) (xs.drop (i + 1))).bind fun zs => lcFin cell ((ys ++ zs0) ++ zs)) st3) := by
      simpa only [M.bind_assoc_at, M.bind_assoc, M.pure_bind, List.append_assoc] using h3
    refine .inr ⟨g1, fun H' => i + 1 ≤ xs.length ∧ ∃ w st ys vs, Ext w1 H1 w H' ∧ SR X.K cl w H' st ∧ H' D = some (.lst vs) ∧ w.G D = none ∧ D ∉ w.io ∧ RepRs X.K cl w vs ys ∧ ys.length ≤ (i + 1) * 4096 ∧
      Wn (RepR X.K cl) X.K cl W σ Q w1 H1 (((lc2Go (fun x => noExc (lc2Turn cell tgt mc tgt1 mi1 mc1 me (wipeE ρ own) x)) (xs.drop (i + 1))).bind fun zs => lcFin cell (ys ++ zs)) st), fun H' q => ⟨xs.length - (i + 1), by omega, rfl, q⟩, fun v H3 y => ?_⟩
    obtain ⟨w3, e3, s3, r3⟩ := y1 v H3 y
    obtain ⟨d3, g3, i3⟩ := e3.beside hDv g2 i2
    unfold lc2Turn at q4
    obtain ⟨ρ1, st4, q5, q6⟩ := M.bind_inv q4
    have := bindTg_st q5
    subst this
    have en3 : EnvR X.K cl Wf w3 (L2.wipe σ own) (wipeE ρ own) := (((en1.ext (e2.trans e3)).wipe).wish trivial)
    refine ⟨w3, wipeE ρ own, st4, xs[i], ρ1, st4, s3, en3, r3, q5, fun σ' en' hl' hj' => ⟨?_, ?_⟩⟩
    · rw [wipe_eq hl' fun j hj => hj' j fun z => hj (hown j z)]
      exact wipe_eq (L2.wipe_length _ _) fun j hj => L2.wipe_out hj
    · obtain ⟨k, st5, q7, q8⟩ := M.bind_inv q6
      refine ⟨w3, ρ1, st4, s3, en', ?_⟩
      rw [q7]
      intro b w4 H4 e4 s4 rb
      subst rb
      obtain ⟨d4, g4, i4⟩ := e4.beside d3 g3 i3
      cases b with
      | false =>
        cases q8
        rw [if_neg Bool.false_ne_true]
        exact ⟨hlt, w4, st3, ys, vs, (e2.trans e3).trans e4, s4, d4, g4, i4, (rs.ext e3).ext e4, by omega, by simpa using h3'⟩
      | true =>
        simp only [if_true] at q8 ⊢
        obtain ⟨us, st6, q9, q10⟩ := M.bind_inv q8
        obtain ⟨_, st7, q11, q12⟩ := M.bind_inv q10
        have hus : us.length ≤ 4096 ∧ st7 = st6 := by
          unfold chk4 at q11
          split at q11
          · rename_i hz; cases q11; exact ⟨hz, rfl⟩
          · cases q11
        obtain ⟨hus, rfl⟩ := hus
        refine ⟨w4, ρ1, st5, s4, en'.ext e4, ?_⟩
        rw [q9]
        intro J1 w5 H5 e5 s5 it1
        obtain ⟨d5, g5, i5⟩ := e5.beside d4 g4 i4
        have rs5 : RepRs X.K cl w5 vs ys := ((rs.ext e3).ext e4).ext e5
        refine ⟨fun j k H => k = us.length - j ∧ j ≤ us.length ∧ ∃ w st ys1 vs zs1, Ext w1 H1 w H ∧ (Same w5.G w.G ∧ EnvR X.K cl Wf w σ' ρ1) ∧ SR X.K cl w H st ∧ H D = some (.lst vs) ∧ w.G D = none ∧ D ∉ w.io ∧ RepRs X.K cl w vs (ys ++ ys1) ∧ ys1.length ≤ j ∧
            lcGo (fun y => noExc (lcTurn cell tgt1 mc1 me (wipeE ρ1 tgt1.slots) y)) (us.drop j) st = .ok zs1 st3 ∧ zs0 = ys1 ++ zs1,
          ⟨us.length, by simp, Nat.zero_le _, w5, st7, [], vs, zs0, ((e2.trans e3).trans e4).trans e5, ⟨Same.refl _, (en'.ext e4).ext e5⟩, s5, d5, g5, i5, by simpa using rs5, Nat.le_refl _, by simpa using q12, rfl⟩, ?_⟩
        rintro j k H6 ⟨rfl, hj, w6, st8, ys1, vs6, zs1, e6, ⟨sg6, en6⟩, s6, d6, g6, i6, rs6, hy1, q13, hz0⟩
        obtain ⟨go1, stop1⟩ := it1 w6 H6 st8 sg6 s6
        by_cases hlt1 : j < us.length
        · have hx1 : us[j]? = some us[j] := by simp [hlt1]
          obtain ⟨gg, yy⟩ := go1 j _ hx1
          rw [List.drop_eq_getElem_cons hlt1] at q13
          simp only [lcGo] at q13
          obtain ⟨o, st9, q14, q15⟩ := M.bind_inv q13
          have q14 := noExc_ok q14
          obtain ⟨zs2, st10, q16, q17⟩ := M.bind_inv q15
          refine .inr ⟨gg, fun H' => j + 1 ≤ us.length ∧ ∃ w st ys1 vs zs1, Ext w1 H1 w H' ∧ (Same w5.G w.G ∧ EnvR X.K cl Wf w σ' ρ1) ∧ SR X.K cl w H' st ∧ H' D = some (.lst vs) ∧ w.G D = none ∧ D ∉ w.io ∧ RepRs X.K cl w vs (ys ++ ys1) ∧ ys1.length ≤ j + 1 ∧
            lcGo (fun y => noExc (lcTurn cell tgt1 mc1 me (wipeE ρ1 tgt1.slots) y)) (us.drop (j + 1)) st = .ok zs1 st3 ∧ zs0 = ys1 ++ zs1, fun H' q => ⟨us.length - (j + 1), by omega, rfl, q⟩, fun v7 H7 y7 => ?_⟩
          obtain ⟨w7, e7, s7, r7⟩ := yy v7 H7 y7
          obtain ⟨d7, g7, i7⟩ := e7.beside d6 g6 i6
          unfold lcTurn at q14
          obtain ⟨ρ2, st11, q18, q19⟩ := M.bind_inv q14
          have := bindTg_st q18
          subst this
          have en7 : EnvR X.K cl Wf w7 (L2.wipe σ' tgt1.slots) (wipeE ρ1 tgt1.slots) := (en6.ext e7).wipe
          refine ⟨w7, wipeE ρ1 tgt1.slots, st11, us[j], ρ2, st11, s7, en7, r7, q18, fun σ2 en2 hl2 hj2 => ⟨?_, ?_⟩⟩
          · rw [wipe_eq hl2 fun q hq => hj2 q hq]
            exact wipe_eq (L2.wipe_length _ _) fun q hq => L2.wipe_out hq
          · obtain ⟨k2, st12, q20, q21⟩ := M.bind_inv q19
            refine ⟨w7, ρ2, st11, s7, en2, ?_⟩
            rw [q20]
            intro b8 w8 H8 e8 s8 rb8
            subst rb8
            obtain ⟨d8, g8, i8⟩ := e8.beside d7 g7 i7
            cases b8 with
            | false =>
              cases q21
              simp only [M.pure, Out.ok.injEq] at q17
              obtain ⟨rfl, rfl⟩ := q17
              rw [if_neg Bool.false_ne_true]
              exact ⟨hlt1, w8, st9, ys1, vs6, zs2, (e6.trans e7).trans e8, ⟨(sg6.trans e7.G).trans e8.G, (en6.ext e7).ext e8⟩, s8, d8, g8, i8, (rs6.ext e7).ext e8, by omega, q16, hz0⟩
            | true =>
              simp only [if_true] at q21 ⊢
              obtain ⟨y9, st13, q22, q23⟩ := M.bind_inv q21
              refine ⟨w8, ρ2, st12, s8, en2.ext e8, ?_⟩
              rw [q22]
              intro u9 w9 H9 e9 s9 ru9
              obtain ⟨d9, g9, i9⟩ := e9.beside d8 g8 i8
              have rs9 : RepRs X.K cl w9 vs6 (ys ++ ys1) := ((rs6.ext e7).ext e8).ext e9
              have hlen9 : vs6.length < sizeLine := by
                rw [rs9.length, List.length_append]
                have : i * 4096 + 4096 ≤ 4096 * 4096 := by omega
                exact Nat.lt_of_lt_of_le (show ys.length + ys1.length < 4096 * 4096 by omega) (by decide)
              refine ⟨vs6, d9, hlen9, hlt1, ?_⟩
              cases cell with
              | true =>
                simp only [if_true] at q23
                cases q23
                simp only [M.pure, Out.ok.injEq] at q17
                obtain ⟨rfl, rfl⟩ := q17
                exact ⟨w9, st9, ys1 ++ [y9], vs6 ++ [u9], zs2, (((e6.trans e7).trans e8).trans e9).touch hD, ⟨((sg6.trans e7.G).trans e8.G).trans e9.G, ((en6.ext e7).ext e8).ext e9⟩, s9.touch g9 i9, upd_same, g9, i9, by rw [← List.append_assoc]; exact RepRs.app rs9 (.cons ru9 .nil), by simp; omega, q16, by rw [hz0]; simp⟩
              | false =>
                simp only [Bool.false_eq_true, if_false] at q23
                obtain ⟨d, st14, q24, q25⟩ := M.bind_inv q23
                cases q25
                simp only [M.pure, Out.ok.injEq] at q17
                obtain ⟨rfl, rfl⟩ := q17
                obtain ⟨wa, ea, sa, ra⟩ := frz_ok s9 ru9 q24
                obtain ⟨da, ga, ia⟩ := ea.beside d9 g9 i9
                exact ⟨wa, st9, ys1 ++ [.v d], vs6 ++ [u9], zs2, ((((e6.trans e7).trans e8).trans e9).trans ea).touch hD, ⟨(((sg6.trans e7.G).trans e8.G).trans e9.G).trans ea.G, (((en6.ext e7).ext e8).ext e9).ext ea⟩, sa.touch ga ia, upd_same, ga, ia, by rw [← List.append_assoc]; exact RepRs.app (rs9.ext ea) (.cons (show RepR X.K cl wa u9 (.v d) from ra) .nil), by simp; omega, q16, by rw [hz0]; simp⟩
        · have he : j = us.length := by omega
          subst he
          rw [List.drop_length] at q13
          cases q13
          refine .inl ⟨stop1, hlt, w6, st3, ys ++ ys1, vs6, e6, s6, d6, g6, i6, rs6, by rw [List.length_append]; omega, ?_⟩
          rw [hz0, List.append_nil] at h3'
          exact h3'
  · have he : i = xs.length := by omega
    subst he
    rw [List.drop_length] at h2
    simp only [lc2Go] at h2
    have h3 : Wn (RepR X.K cl) X.K cl W σ Q w1 H1 (lcFin cell ys st2) := by simpa [M.bind, M.pure] using h2
    refine .inl ⟨stop, ?_⟩
    unfold lcFin at h3
    cases cell with
    | true =>
      simp only [if_true] at h3
      refine h3 (.ref D) _ H2 (e2.enlist hD) (s2.enlist hDv g2 i2 rs) ⟨D, ?_, rfl⟩
      show (w2.io ++ [D])[List.length st2]? = some D
      rw [← s2.len, List.getElem?_concat_length]
    | false =>
      simp only [Bool.false_eq_true, if_false] at h3
      obtain ⟨ds, st4, q4, h4⟩ := Wn.step h3 frzs_ne
      obtain ⟨w4, e4, s4, r4⟩ := frzs_ok s2 rs q4
      obtain ⟨d4, g4, i4⟩ := e4.beside hDv g2 i2
      exact h4 (.ref D) _ H2 ((e2.trans e4).adopt hD g4) (s4.adopt d4 g4 i4) (show Rep X.K cl _ _ _ from .lst (SqL.of upd_same) (r4.mono fun b u q => by show upd w4.G D _ b = some u; rw [upd_ne (ne_of_none q g4)]; exact q))
section
variable {a b c tg : Expr} {ma mb : Env → M R} {pos : Pos}
theorem ve_dc {kx vx iter : Expr} {ifs : List Expr} {scope : Scope} {own : List (Str × Nat)} {tgt : Tg} {mi : Env → M (List R)} {mt : Env → M Bool} {mk mv : Env → M R} (hc : X.calm = true) (hN : X.N.Nodup) (hi : VI X cl W tg iter mi) (ok : BlkOk X.N X.env.scope scope own)
    (hg : ∀ (s : Shared) (H : Hp) (C : Addr) (cs : List (Str × Addr)) (fp : List Addr), VG (X.blk s H scope (compEnvC scope cs C X.env) fp) cl Wf tg tgt)
    (ht : ∀ (s : Shared) (H : Hp) (C : Addr) (cs : List (Str × Addr)) (fp : List Addr), PTs (X.blk s H scope (compEnvC scope cs C X.env) fp) ifs (tB X.K cl Wf mt))
    (hk : ∀ (s : Shared) (H : Hp) (C : Addr) (cs : List (Str × Addr)) (fp : List Addr), VE (X.blk s H scope (compEnvC scope cs C X.env) fp) cl Wf kx mk)
    (he : ∀ (s : Shared) (H : Hp) (C : Addr) (cs : List (Str × Addr)) (fp : List Addr), VE (X.blk s H scope (compEnvC scope cs C X.env) fp) cl Wf vx mv)
    (hs : ∀ x, foldedSetIterable iter X.env x = pure x) (hown : ∀ j ∈ tgt.slots, j ∈ own.map (·.2)) :
    VE X cl W (.DictComp kx vx [⟨tg, iter, ifs, 0⟩] scope pos) (dcM tgt (own.map (·.2)) mi mt mk mv) :=
  PE.imp (pe_dc hc hN hi ok hg ht hk he hs) fun σ H Q h => dc_read hown h
theorem ve_lc2 {elt iter tg1 iter1 : Expr} {ifs ifs1 : List Expr} {scope : Scope} {own : List (Str × Nat)} {cell : Bool} {tgt tgt1 : Tg} {mi mi1 : Env → M (List R)} {mt mt1 : Env → M Bool} {me : Env → M R} (hc : X.calm = true) (hN : X.N.Nodup) (hi : VI X cl W tg iter mi) (ok : BlkOk X.N X.env.scope scope own)
    (hg : ∀ (s : Shared) (H : Hp) (C : Addr) (cs : List (Str × Addr)) (fp : List Addr), VG (X.blk s H scope (compEnvC scope cs C X.env) fp) cl Wf tg tgt)
    (ht : ∀ (s : Shared) (H : Hp) (C : Addr) (cs : List (Str × Addr)) (fp : List Addr), PTs (X.blk s H scope (compEnvC scope cs C X.env) fp) ifs (tB X.K cl Wf mt))
    (hi1 : ∀ (s : Shared) (H : Hp) (C : Addr) (cs : List (Str × Addr)) (fp : List Addr), VI (X.blk s H scope (compEnvC scope cs C X.env) fp) cl Wf tg1 iter1 mi1)
    (hg1 : ∀ (s : Shared) (H : Hp) (C : Addr) (cs : List (Str × Addr)) (fp : List Addr), VG (X.blk s H scope (compEnvC scope cs C X.env) fp) cl Wf tg1 tgt1)
    (ht1 : ∀ (s : Shared) (H : Hp) (C : Addr) (cs : List (Str × Addr)) (fp : List Addr), PTs (X.blk s H scope (compEnvC scope cs C X.env) fp) ifs1 (tB X.K cl Wf mt1))
    (he : ∀ (s : Shared) (H : Hp) (C : Addr) (cs : List (Str × Addr)) (fp : List Addr), VE (X.blk s H scope (compEnvC scope cs C X.env) fp) cl Wf elt me)
    (hs : ∀ x, foldedSetIterable iter X.env x = pure x) (hs1 : ∀ env x, foldedSetIterable iter1 env x = pure x) (hown : ∀ j ∈ tgt.slots, j ∈ own.map (·.2)) (hown1 : ∀ j ∈ tgt1.slots, j ∈ own.map (·.2)) :
    VE X cl W (.ListComp elt [⟨tg, iter, ifs, 0⟩, ⟨tg1, iter1, ifs1, 0⟩] scope pos) (lc2M cell tgt (own.map (·.2)) mi mt tgt1 mi1 mt1 me) :=
  PE.imp (pe_lc2 hc hN hi ok hown1 hg ht hi1 hg1 ht1 he hs hs1) fun σ H Q h => lc2_read hown h
theorem vs_asgLc2 {i : Nat} {y : Str} {py spos : Pos} {elt iter tg1 iter1 : Expr} {ifs ifs1 : List Expr} {scope : Scope} {own : List (Str × Nat)} {cell : Bool} {tgt tgt1 : Tg} {mi mi1 : Env → M (List R)} {mt mt1 : Env → M Bool} {me : Env → M R} (hc : X.calm = true) (hN : X.N.Nodup) (hy : X.N[i]? = some y) (hyl : X.env.scope.names.lookup y = some .local)
    (hsw : swapsWith (.ListComp elt [⟨tg, iter, ifs, 0⟩, ⟨tg1, iter1, ifs1, 0⟩] scope pos) (some (.Name y py)) spos.line X.env = pure true) (hi : VI X cl W tg iter mi) (ok : BlkOk X.N X.env.scope scope own)
    (hg : ∀ (s : Shared) (H : Hp) (C : Addr) (cs : List (Str × Addr)) (fp : List Addr), VG (X.blk s H scope (compEnvC scope cs C X.env) fp) cl Wf tg tgt)
    (ht : ∀ (s : Shared) (H : Hp) (C : Addr) (cs : List (Str × Addr)) (fp : List Addr), PTs (X.blk s H scope (compEnvC scope cs C X.env) fp) ifs (tB X.K cl Wf mt))
    (hi1 : ∀ (s : Shared) (H : Hp) (C : Addr) (cs : List (Str × Addr)) (fp : List Addr), VI (X.blk s H scope (compEnvC scope cs C X.env) fp) cl Wf tg1 iter1 mi1)
    (hg1 : ∀ (s : Shared) (H : Hp) (C : Addr) (cs : List (Str × Addr)) (fp : List Addr), VG (X.blk s H scope (compEnvC scope cs C X.env) fp) cl Wf tg1 tgt1)
    (ht1 : ∀ (s : Shared) (H : Hp) (C : Addr) (cs : List (Str × Addr)) (fp : List Addr), PTs (X.blk s H scope (compEnvC scope cs C X.env) fp) ifs1 (tB X.K cl Wf mt1))
    (he : ∀ (s : Shared) (H : Hp) (C : Addr) (cs : List (Str × Addr)) (fp : List Addr), VE (X.blk s H scope (compEnvC scope cs C X.env) fp) cl Wf elt me)
    (hs : ∀ x, foldedSetIterable iter X.env x = pure x) (hs1 : ∀ env x, foldedSetIterable iter1 env x = pure x) (hown : ∀ j ∈ tgt.slots, j ∈ own.map (·.2)) (hown1 : ∀ j ∈ tgt1.slots, j ∈ own.map (·.2)) :
    VS X cl W (.Assign [.Name y py] (.ListComp elt [⟨tg, iter, ifs, 0⟩, ⟨tg1, iter1, ifs1, 0⟩] scope pos) spos) (fun ρ st => (lc2M cell tgt (own.map (·.2)) mi mt tgt1 mi1 mt1 me ρ st).to ρ fun r st1 => .nx (ρ.set i (some r)) st1) := by
  refine PS.imp (ps_setLc2 (i := i) (g := tTg X.K cl Wf tgt) (tt := tB X.K cl Wf mt) (g1 := tTg X.K cl Wf tgt1) (tt1 := tB X.K cl Wf mt1) (wi1 := tI X.K cl Wf mi1) (te := tV X.K cl Wf me) hc hN hy hyl hsw hi ok hown1 hg ht hi1 hg1 ht1 he hs hs1) fun D σ H h => ?_
  obtain ⟨w, ρ, st, s, e, h⟩ := h
  refine lc2_read hown ((tG.to (m := lc2M cell tgt (own.map (·.2)) mi mt tgt1 mi1 mt1 me) s e h).mono fun v H1 ⟨w1, r, st1, e1, s1, en1, r1, h1⟩ => ?_)
  exact h1 _ w1 H1 (Ext.refl _ _) s1 (en1.set r1)
theorem vs_dput {o k e : Expr} {p' : Pos} {mo mk me : Env → M R} (hu : X.A.units + 1 < cLine) (he : VE X cl W e me) (ho : VE X cl W o mo) (hk : VE X cl W k mk) (hs : swapsWith e (some (.Subscript o k p')) pos.line X.env = pure false) :
    VS X cl W (.Assign [.Subscript o k p'] e pos) (fun ρ st => (me ρ st).to ρ fun x st1 => (mo ρ st1).to ρ fun y st2 => (mk ρ st2).to ρ fun z st3 => (dPutC y z x st3).to ρ fun _ st4 => .nx ρ st4) := by
  refine PS.imp (ps_dput hu ho hk he hs) fun D σ H h => ?_
  obtain ⟨w, ρ, st, s, e, h⟩ := h
  refine (tG.to (m := me) s e h).mono fun v H1 ⟨w1, r, st1, e1, s1, en1, r1, h1⟩ => ?_
  refine (tG.to (m := mo) s1 en1 h1).mono fun x H2 ⟨w2, r', st2, e2, s2, en2, r2, h2⟩ => ?_
  refine (tG.to (m := mk) s2 en2 h2).mono fun y H3 ⟨w3, r'', st3, e3, s3, en3, r3, h3⟩ => ?_
  cases q : dPutC r' r'' r st3 with
  | bad => rw [q] at h3; exact False.elim h3
  | exc c fs z => exact absurd q (dPutC_ne c fs z)
  | ok u st4 =>
    rw [q] at h3
    obtain ⟨d, H', rfl, g, s5, e5⟩ := dPutC_ok s3 (r2.ext e3) r3 ((r1.ext e2).ext e3) q
    exact ⟨d, H', rfl, g, h3 _ w3 _ e5 s5 (en3.ext e5)⟩
theorem vs_bad {s : Stmt} : VS X cl W s (fun _ _ => .bad) := ⟨fun pins s σ H D I h => by
  obtain ⟨_, _, _, _, _, h⟩ := h
  exact False.elim h⟩
end
end
end SV

set_option maxRecDepth 100000
set_option maxHeartbeats 4000000
/-! SvPh: lists walked while they stay as they are; dict(pairs) -/
namespace SV
open PySem PySem.Spec PyProof.Rows
open L2 hiding It
/-- an iterator that yields just these values while lists stay -/
def IterC (K : PySem.W.Frag) (cl : Nat → Option Addr) (w : Wd) (J : L2.It) (p : List R × List (R × List D)) : Prop := ∀ w2 H2 st2, (∃ l, w2.io = w.io ++ l) → Same w.G w2.G → SR K cl w2 H2 st2 → stays p.2 st2 →
  (∀ i x, p.1[i]? = some x → J.go i H2 ∧ ∀ v H3, J.yld i H2 v H3 → ∃ w3, Ext w2 H2 w3 H3 ∧ SR K cl w3 H3 st2 ∧ RepR K cl w3 v x) ∧ J.stop p.1.length H2
abbrev tIc (K : PySem.W.Frag) (cl : Nat → Option Addr) (W : WY) (m : Env → M (List R × List (R × List D))) : TI := tG (fun w J p => IterC K cl w J p) K cl W m
abbrev VIc (X : Cx) (cl : Nat → Option Addr) (W : WY) (tg e : Expr) (m : Env → M (List R × List (R × List D))) : Prop := PI X tg e (tIc X.K cl W m)
theorem RepR.pre {K : PySem.W.Frag} {cl : Nat → Option Addr} {w w2 : Wd} (hio : ∃ l, w2.io = w.io ++ l) (hG : Same w.G w2.G) {v : L2.V} {r : R} (h : RepR K cl w v r) : RepR K cl w2 v r := by
  cases r with
  | v d => exact Rep.mono hG (show Rep K cl w.G v d from h)
  | ref n =>
    obtain ⟨a, h1, h2⟩ := h
    obtain ⟨l, q⟩ := hio
    exact ⟨a, by rw [q, List.getElem?_append_left (List.getElem?_eq_some_iff.mp h1).1]; exact h1, h2⟩
  | ex c fs => exact h
section
variable {X : Cx} {cl : Nat → Option Addr} {W : WY} {a b c tg : Expr} {ma mb mc : Env → M R} {pos : Pos}
theorem plD_ok {K : PySem.W.Frag} {w : Wd} {H : Hp} {st st' : Store} {v : L2.V} {r : R} {ds : List D} (s : SR K cl w H st) (h : RepR K cl w v r) (e : plD r st = .ok ds st') : st' = st ∧ force st r = some (.lst ds) ∧ ∃ p vs, v = .ref p ∧ SqL K H p vs ∧ Reps K cl w.G vs ds := by
  unfold plD at e
  obtain ⟨d, st1, q1, q2⟩ := M.bind_inv e
  obtain ⟨f, rfl⟩ := rdD_ok q1
  obtain ⟨rfl, rfl⟩ := lsOf_ok q2
  exact ⟨rfl, f, list_head s h f⟩
theorem plD_ne {r : R} {st : Store} : ∀ c fs s, plD r st ≠ .exc c fs s := fun c fs s e => by
  unfold plD at e
  simp only [M.bind] at e
  cases q : rdD r st with
  | bad => rw [q] at e; cases e
  | exc c fs z => exact absurd q (rdD_ne c fs z)
  | ok d s1 => rw [q] at e; exact lsOf_ne c fs s e
theorem iterC_list {K : PySem.W.Frag} {w : Wd} {p : Addr} {x : R} {ds : List D} (h : RepR K cl w (.ref p) x) : IterC K cl w (Itl K p) (ds.map R.v, [(x, ds)]) := by
  intro w2 H2 st2 hio hG s2 hst
  have f := hst (x, ds) (by simp)
  obtain ⟨p', vs, hp, hq, r⟩ := list_head s2 (h.pre hio hG) f
  cases hp
  refine ⟨fun i x hx => ?_, ⟨vs, hq, by simp [r.length]⟩⟩
  simp only [List.getElem?_map] at hx
  cases q : ds[i]? with
  | none => rw [q] at hx; cases hx
  | some d =>
    rw [q] at hx
    cases hx
    obtain ⟨v, hv, rv⟩ := r.get q
    refine ⟨⟨vs, v, hq, hv⟩, fun u H3 y => ?_⟩
    obtain ⟨rfl, y⟩ := y
    have := y vs hq
    rw [hv] at this; cases this
    exact ⟨w2, Ext.refl _ _, s2, rv⟩
theorem vi_overC (ha : VE X cl W a ma) : VIc X cl W tg a (fun ρ => (ma ρ).bind fun x => (plD x).bind fun ds => M.pure (ds.map R.v, [(x, ds)])) := by
  refine PI.imp (pi_seq ha) fun σ H R h => ?_
  obtain ⟨w, ρ, st, s, e, h⟩ := h
  refine (tG.bind (m := ma) s e h).mono fun x H1 ⟨w1, rx, st1, e1, s1, en1, r1, h1⟩ => ?_
  obtain ⟨ds, st2, q2, h2⟩ := Wn.step h1 plD_ne
  obtain ⟨rfl, f, p, vs, rfl, hq, rr⟩ := plD_ok s1 r1 q2
  exact .inl ⟨p, rfl, ⟨vs, hq⟩, h2 _ w1 H1 (Ext.refl _ _) s1 (iterC_list r1)⟩
theorem iterC_enum {K : PySem.W.Frag} {w : Wd} {p : Addr} {x : R} {ds : List D} (h : RepR K cl w (.ref p) x) : IterC K cl w (Ite K p) (enumD 0 ds, [(x, ds)]) := by
  intro w2 H2 st2 hio hG s2 hst
  have f := hst (x, ds) (by simp)
  obtain ⟨p', vs, hp, hq, r⟩ := list_head s2 (h.pre hio hG) f
  cases hp
  refine ⟨fun i x hx => ?_, ⟨vs, hq, by simp [r.length, enumD_len]⟩⟩
  obtain ⟨d, hd, rfl⟩ := enumD_get hx
  obtain ⟨v, hv, rv⟩ := r.get hd
  refine ⟨⟨vs, v, hq, hv⟩, fun u H3 y => ?_⟩
  obtain ⟨T, x, rfl, hT, rfl, y⟩ := y
  have := y vs hq
  rw [hv] at this; cases this
  obtain ⟨s3, e3⟩ := s2.lay (o := .tup [.int (i : Nat), v]) hT
  refine ⟨_, e3, s3, show Rep K cl (upd w2.G T _) _ _ from .tup (SqT.of upd_same) (.cons ?_ (.cons (Rep.mono e3.G rv) .nil))⟩
  rw [Nat.zero_add]; exact .int _
theorem vi_enmC {elts : List Expr} {kk : Nat} {tpos p : Pos} (hg : Gl X "enumerate") (hm : X.mg "enumerate" = none) (hs : noStar a = true) (ha : VE X cl W a ma) :
    VIc X cl W (.Tuple elts kk tpos) (.Call (.Name "enumerate" p) [a] [] pos) (fun ρ => (ma ρ).bind fun x => (plD x).bind fun ds => M.pure (enumD 0 ds, [(x, ds)])) := by
  refine PI.imp (pi_enum hg hm (pa_cons ha pa_nil (star_cons hs _ _)) (star_cons hs _ _)) fun σ H R h => ?_
  obtain ⟨w, ρ, st, s, e, h⟩ := h
  refine (tG.bind (m := ma) s e h).mono fun x H1 ⟨w1, rx, st1, e1, s1, en1, r1, h1⟩ => ?_
  obtain ⟨ds, st2, q2, h2⟩ := Wn.step h1 plD_ne
  obtain ⟨rfl, f, p, vs, rfl, hq, rr⟩ := plD_ok s1 r1 q2
  exact ⟨p, vs, rfl, hq, h2 _ w1 H1 (Ext.refl _ _) s1 (iterC_enum r1)⟩
theorem iterC_zip {K : PySem.W.Frag} {w : Wd} {p q : Addr} {x y : R} {ds es : List D} (h : RepR K cl w (.ref p) x) (h' : RepR K cl w (.ref q) y) : IterC K cl w (Itz K p q) (zipD ds es, [(x, ds), (y, es)]) := by
  intro w2 H2 st2 hio hG s2 hst
  have f := hst (x, ds) (by simp)
  have f' := hst (y, es) (by simp)
  obtain ⟨p', vs, hp, hq, r⟩ := list_head s2 (h.pre hio hG) f
  cases hp
  obtain ⟨p', us, hp, hq', r'⟩ := list_head s2 (h'.pre hio hG) f'
  cases hp
  refine ⟨fun i x hx => ?_, ⟨vs, us, hq, hq', by
    show vs.length ≤ (zipD ds es).length ∨ us.length ≤ (zipD ds es).length
    have l1 : vs.length = ds.length := r.length
    have l2 : us.length = es.length := r'.length
    rw [zipD_len, l1, l2]; omega⟩⟩
  obtain ⟨d, d', hd, hd', rfl⟩ := zipD_get hx
  obtain ⟨v, hv, rv⟩ := r.get hd
  obtain ⟨v', hv', rv'⟩ := r'.get hd'
  refine ⟨⟨vs, us, v, v', hq, hq', hv, hv'⟩, fun u H3 y => ?_⟩
  obtain ⟨T, x, x', rfl, hT, rfl, y, y'⟩ := y
  have z := y vs hq
  rw [hv] at z; cases z
  have z := y' us hq'
  rw [hv'] at z; cases z
  obtain ⟨s3, e3⟩ := s2.lay (o := .tup [v, v']) hT
  exact ⟨_, e3, s3, show Rep K cl (upd w2.G T _) _ _ from .tup (SqT.of upd_same) (.cons (Rep.mono e3.G rv) (.cons (Rep.mono e3.G rv') .nil))⟩
theorem vi_zipC {elts : List Expr} {kk : Nat} {tpos p : Pos} (hg : Gl X "zip") (hm : X.mg "zip" = none) (hs : noStar a = true) (hs' : noStar b = true) (ha : VE X cl W a ma) (hb : VE X cl W b mb) :
    VIc X cl W (.Tuple elts kk tpos) (.Call (.Name "zip" p) [a, b] [] pos) (fun ρ => (ma ρ).bind fun x => (mb ρ).bind fun y => (plD x).bind fun as => (plD y).bind fun bs => M.pure (zipD as bs, [(x, as), (y, bs)])) := by
  refine PI.imp (pi_zip hg hm (pa_cons ha (pa_cons hb pa_nil (star_cons hs' _ _)) (star_cons hs _ _)) (star_cons hs _ _) (by rw [star_cons hs']; rfl)) fun σ H R h => ?_
  obtain ⟨w, ρ, st, s, e, h⟩ := h
  refine (tG.bind (m := ma) s e h).mono fun x H1 ⟨w1, rx, st1, e1, s1, en1, r1, h1⟩ => ?_
  refine (tG.bind (m := mb) s1 en1 h1).mono fun y H2 ⟨w2, ry, st2, e2, s2, en2, r2, h2⟩ => ?_
  obtain ⟨ds, st3, q3, h3⟩ := Wn.step h2 plD_ne
  obtain ⟨rfl, f, p, vs, rfl, hq, rr⟩ := plD_ok s2 (r1.ext e2) q3
  obtain ⟨es, st4, q4, h4⟩ := Wn.step h3 plD_ne
  obtain ⟨rfl, f', q, us, rfl, hq', rr'⟩ := plD_ok s2 r2 q4
  exact ⟨p, q, vs, us, rfl, hq, hq', h4 _ w2 H2 (Ext.refl _ _) s2 (iterC_zip (r1.ext e2) r2)⟩
theorem guardM_ok {gd : Store → Prop} {st st' : Store} {u : Unit} (h : guardM gd st = .ok u st') : gd st ∧ st' = st := by
  unfold guardM at h
  split at h
  · rename_i z; cases h; exact ⟨z, rfl⟩
  · cases h
theorem guardM_ne {gd : Store → Prop} {st : Store} : ∀ c fs s, guardM gd st ≠ .exc c fs s := fun c fs s e => by
  unfold guardM at e
  split at e <;> cases e
theorem WnS.guard {K : PySem.W.Frag} {D : Ends} {w : Wd} {H : Hp} {gd : Store → Prop} {ρ : Env} {st : Store} {k : Unit → Store → OutS} (h : WnS K cl W D w H ((guardM gd st).to ρ k)) : gd st ∧ WnS K cl W D w H (k () st) := by
  cases q : guardM gd st with
  | ok u s => rw [q] at h; obtain ⟨g, rfl⟩ := guardM_ok q; exact ⟨g, h⟩
  | exc c fs s => exact absurd q (guardM_ne c fs s)
  | bad => rw [q] at h; exact False.elim h
theorem vs_frrC {iter : Expr} {body : List Stmt} {mi : Env → M (List R × List (R × List D))} {mb : Env → Store → OutS} {tgt : Tg} (hp : PassesOwn (model X.prog X.w) X.A X.env X.xe) (hc : X.calm = true) (hi : VIc X cl W tg iter mi) (hg : VG X cl W tg tgt) (hb : VSs X cl W body mb) (hs : ∀ x, foldedSetIterable iter X.env x = pure x) :
    VS X cl W (.For tg iter body [] pos) (fun ρ st => (mi ρ st).to ρ fun p st1 => frGoC (stays p.2) tgt mb p.1 ρ st1) := by
  refine PS.imp (ps_for hp hc hi hg hb hs) fun D σ H h => ?_
  obtain ⟨w, ρ, st, s, e, h⟩ := h
  refine (tG.to (m := mi) s e h).mono fun J H1 ⟨w1, p, st1, e1, s1, en1, it, h1⟩ => ?_
  obtain ⟨xs, gs⟩ := p
  simp only at h1
  refine ⟨fun i m σ H => m = xs.length - i ∧ i ≤ xs.length ∧ ∃ w ρ st, Ext w1 H1 w H ∧ SR X.K cl w H st ∧ EnvR X.K cl W w σ ρ ∧ WnS X.K cl W D w H (frGoC (stays gs) tgt mb (xs.drop i) ρ st),
    ⟨xs.length, by simp, Nat.zero_le _, w1, ρ, st1, Ext.refl _ _, s1, en1, h1⟩, ?_⟩
  rintro i m σ2 H2 ⟨rfl, hi, w2, ρ2, st2, e2, s2, en2, h2⟩
  by_cases hlt : i < xs.length
  · rw [List.drop_eq_getElem_cons hlt, frGoC] at h2
    obtain ⟨gd, h2⟩ := WnS.guard h2
    obtain ⟨go, stop⟩ := it w2 H2 st2 e2.io e2.G s2 gd
    have hx : xs[i]? = some xs[i] := by simp [hlt]
    obtain ⟨g1, g2⟩ := go i _ hx
    refine .inr ⟨g1, fun σ' H' => ∃ w ρ st, Ext w1 H1 w H' ∧ SR X.K cl w H' st ∧ EnvR X.K cl W w σ' ρ ∧ WnS X.K cl W D w H' (frGoC (stays gs) tgt mb (xs.drop (i + 1)) ρ st), fun σ' H' q => ⟨xs.length - (i + 1), by omega, rfl, hlt, q⟩, fun v H3 y => ?_⟩
    obtain ⟨w3, e3, s3, r3⟩ := g2 v H3 y
    have h3 := WnS.ext e3 h2
    cases q : bindTg tgt xs[i] ρ2 st2 with
    | bad => rw [q] at h3; exact False.elim h3
    | exc c fs z => exact absurd q (bindTg_ne c fs z)
    | ok ρ3 st3 =>
      rw [q] at h3
      have := bindTg_st q
      subst this
      refine ⟨w3, ρ2, st3, xs[i], ρ3, st3, s3, en2.ext e3, r3, q, fun σ' en' _ _ => ⟨w3, ρ3, st3, s3, en', ?_⟩⟩
      simp only [Out.to_ok] at h3
      cases q2 : mb ρ3 st3 with
      | nx ρ4 st4 => rw [q2] at h3; exact fun σ' w' H' e' s' en' => ⟨w', ρ4, st4, (e2.trans e3).trans e', s', en', WnS.ext e' h3⟩
      | ct ρ4 st4 => rw [q2] at h3; exact fun σ' w' H' e' s' en' => ⟨w', ρ4, st4, (e2.trans e3).trans e', s', en', WnS.ext e' h3⟩
      | bk ρ4 st4 => rw [q2] at h3; exact h3
      | rt r st4 => rw [q2] at h3; exact h3
      | exc c fs ρ4 st4 => rw [q2] at h3; exact h3
      | bad => rw [q2] at h3; exact h3
  · have he : i = xs.length := by omega
    subst he
    rw [List.drop_length, frGoC] at h2
    obtain ⟨gd, h2⟩ := WnS.guard h2
    obtain ⟨go, stop⟩ := it w2 H2 st2 e2.io e2.G s2 gd
    exact .inl ⟨stop, h2 σ2 w2 H2 (Ext.refl _ _) s2 en2⟩
theorem lcC_read {cell : Bool} {tgt : Tg} {own : List Nat} {mi : Env → M (List R × List (R × List D))} {mc : Env → M Bool} {me : Env → M R} {σ : L2.St} {H : Hp} {Q : VK} (hown : ∀ j ∈ tgt.slots, j ∈ own)
    (h : tV X.K cl W (lcMC cell tgt own mi mc me) σ H Q) : tLc (tIc X.K cl W mi) (tTg X.K cl Wf tgt) (tB X.K cl Wf mc) (tV X.K cl Wf me) own σ H Q := by
  obtain ⟨w, ρ, st, s, e, h⟩ := h
  have A1 : tIc X.K cl W mi σ H (fun J H1 => ∃ w1 xs gs st1, Ext w H w1 H1 ∧ SR X.K cl w1 H1 st1 ∧ EnvR X.K cl W w1 σ ρ ∧ IterC X.K cl w1 J (xs, gs) ∧ xs.length ≤ sizeLine ∧ Wn (RepR X.K cl) X.K cl W σ Q w1 H1 (((lcGoC (stays gs) (fun x => noExc (lcTurn cell tgt mc me (wipeE ρ own) x)) xs).bind (lcFin cell)) st1)) := by
    refine ⟨w, ρ, st, s, e, ?_⟩
    have h' : Wn (RepR X.K cl) X.K cl W σ Q w H ((mi ρ st).bind fun p => (chkN p.1.length).bind fun _ => (lcGoC (stays p.2) (fun x => noExc (lcTurn cell tgt mc me (wipeE ρ own) x)) p.1).bind (lcFin cell)) := h
    cases q : mi ρ st with
    | bad => rw [q] at h'; exact h'
    | exc c fs z => rw [q] at h'; exact h'
    | ok p st1 =>
      obtain ⟨xs, gs⟩ := p
      rw [q] at h'
      simp only [Out.bind_ok, M.bind, chkN] at h'
      split at h'
      · rename_i hl
        exact fun J w1 H1 e1 s1 r1 => ⟨w1, xs, gs, st1, e1, s1, e.ext e1, r1, hl, Wn.ext e1 h'⟩
      · exact False.elim h'
  refine tG.mono A1 fun J H1 ⟨w1, xs, gs, st1, e1, s1, en1, it, hxl, h1⟩ => fun D hD => ?_
  have gD : w1.G D = none := s1.sub.free hD
  have iD : D ∉ w1.io := fun z => by
    obtain ⟨u, hu⟩ := s1.trk D z
    rw [hD] at hu; cases hu
  refine ⟨fun i m H => m = xs.length - i ∧ i ≤ xs.length ∧ ∃ w st ys vs, Ext w1 H1 w H ∧ SR X.K cl w H st ∧ H D = some (.lst vs) ∧ w.G D = none ∧ D ∉ w.io ∧ RepRs X.K cl w vs ys ∧ ys.length ≤ i ∧
      Wn (RepR X.K cl) X.K cl W σ Q w1 H1 (((lcGoC (stays gs) (fun x => noExc (lcTurn cell tgt mc me (wipeE ρ own) x)) (xs.drop i)).bind fun zs => lcFin cell (ys ++ zs)) st),
    ⟨xs.length, by simp, Nat.zero_le _, w1, st1, [], [], (Ext.refl _ _).touch hD, s1.touch gD iD, upd_same, gD, iD, .nil, Nat.le_refl _, h1⟩, ?_⟩
  rintro i m H2 ⟨rfl, hi, w2, st2, ys, vs, e2, s2, hDv, g2, i2, rs, hyl, h2⟩
  by_cases hlt : i < xs.length
  · have hx : xs[i]? = some xs[i] := by simp [hlt]
    rw [List.drop_eq_getElem_cons hlt] at h2
    simp only [lcGoC, M.bind_assoc_at, M.bind_assoc] at h2
    obtain ⟨u0, st0, q0, h2b⟩ := Wn.step h2 guardM_ne
    clear h2
    obtain ⟨gd, rfl⟩ := guardM_ok q0
    obtain ⟨go, stop⟩ := it w2 H2 st0 e2.io e2.G s2 gd
    obtain ⟨g1, y1⟩ := go i _ hx
    obtain ⟨o, st3, q3, h3⟩ := Wn.step h2b noExc_ne
    have q4 := noExc_ok q3
    refine .inr ⟨g1, fun H' => i + 1 ≤ xs.length ∧ ∃ w st ys vs, Ext w1 H1 w H' ∧ SR X.K cl w H' st ∧ H' D = some (.lst vs) ∧ w.G D = none ∧ D ∉ w.io ∧ RepRs X.K cl w vs ys ∧ ys.length ≤ i + 1 ∧
      Wn (RepR X.K cl) X.K cl W σ Q w1 H1 (((lcGoC (stays gs) (fun x => noExc (lcTurn cell tgt mc me (wipeE ρ own) x)) (xs.drop (i + 1))).bind fun zs => lcFin cell (ys ++ zs)) st), fun H' q => ⟨xs.length - (i + 1), by omega, rfl, q⟩, fun v H3 y => ?_⟩
    obtain ⟨w3, e3, s3, r3⟩ := y1 v H3 y
    obtain ⟨d3, g3, i3⟩ := e3.beside hDv g2 i2
    unfold lcTurn at q4
    obtain ⟨ρ1, st4, q5, q6⟩ := M.bind_inv q4
    have := bindTg_st q5
    subst this
    have en3 : EnvR X.K cl Wf w3 (L2.wipe σ own) (wipeE ρ own) := (((en1.ext (e2.trans e3)).wipe).wish trivial)
    refine ⟨w3, wipeE ρ own, st4, xs[i], ρ1, st4, s3, en3, r3, q5, fun σ' en' hl' hj' => ⟨?_, ?_⟩⟩
    · rw [wipe_eq hl' fun j hj => hj' j fun z => hj (hown j z)]
      exact wipe_eq (L2.wipe_length _ _) fun j hj => L2.wipe_out hj
    · obtain ⟨k, st5, q7, q8⟩ := M.bind_inv q6
      refine ⟨w3, ρ1, st4, s3, en', ?_⟩
      rw [q7]
      intro b w4 H4 e4 s4 rb
      subst rb
      obtain ⟨d4, g4, i4⟩ := e4.beside d3 g3 i3
      cases b with
      | false =>
        cases q8
        rw [if_neg Bool.false_ne_true]
        exact ⟨hlt, w4, st3, ys, vs, (e2.trans e3).trans e4, s4, d4, g4, i4, (rs.ext e3).ext e4, by omega, by simpa only [M.bind_assoc_at, M.bind_assoc, M.pure_bind] using h3⟩
      | true =>
        simp only [if_true] at q8 ⊢
        obtain ⟨y, st6, q9, q10⟩ := M.bind_inv q8
        refine ⟨w4, ρ1, st5, s4, en'.ext e4, ?_⟩
        rw [q9]
        intro u w5 H5 e5 s5 ru
        obtain ⟨d5, g5, i5⟩ := e5.beside d4 g4 i4
        have rs5 : RepRs X.K cl w5 vs ys := ((rs.ext e3).ext e4).ext e5
        have hlen5 : vs.length < sizeLine := by rw [rs.length]; omega
        refine ⟨vs, d5, hlen5, hlt, ?_⟩
        cases cell with
        | true =>
          simp only [if_true] at q10
          cases q10
          exact ⟨w5, st3, ys ++ [y], vs ++ [u], (((e2.trans e3).trans e4).trans e5).touch hD, s5.touch g5 i5, upd_same, g5, i5, RepRs.app rs5 (.cons ru .nil), by simp; omega, by
            simpa only [M.bind_assoc_at, M.bind_assoc, M.pure_bind, List.append_assoc, List.singleton_append] using h3⟩
        | false =>
          simp only [Bool.false_eq_true, if_false] at q10
          obtain ⟨d, st7, q11, q12⟩ := M.bind_inv q10
          cases q12
          obtain ⟨w6, e6, s6, r6⟩ := frz_ok s5 ru q11
          obtain ⟨d6, g6, i6⟩ := e6.beside d5 g5 i5
          exact ⟨w6, st3, ys ++ [.v d], vs ++ [u], ((((e2.trans e3).trans e4).trans e5).trans e6).touch hD, s6.touch g6 i6, upd_same, g6, i6, RepRs.app (rs5.ext e6) (.cons (show RepR X.K cl w6 u (.v d) from r6) .nil), by simp; omega, by
            simpa only [M.bind_assoc_at, M.bind_assoc, M.pure_bind, List.append_assoc, List.singleton_append] using h3⟩
  · have he : i = xs.length := by omega
    subst he
    rw [List.drop_length] at h2
    simp only [lcGoC, M.bind_assoc_at, M.bind_assoc] at h2
    obtain ⟨u0, st0, q0, h2b⟩ := Wn.step h2 guardM_ne
    clear h2
    obtain ⟨gd, rfl⟩ := guardM_ok q0
    obtain ⟨go, stop⟩ := it w2 H2 st0 e2.io e2.G s2 gd
    have h3 : Wn (RepR X.K cl) X.K cl W σ Q w1 H1 (lcFin cell ys st0) := by simpa [M.bind, M.pure] using h2b
    refine .inl ⟨stop, ?_⟩
    unfold lcFin at h3
    cases cell with
    | true =>
      simp only [if_true] at h3
      refine h3 (.ref D) _ H2 (e2.enlist hD) (s2.enlist hDv g2 i2 rs) ⟨D, ?_, rfl⟩
      show (w2.io ++ [D])[List.length st0]? = some D
      rw [← s2.len, List.getElem?_concat_length]
    | false =>
      simp only [Bool.false_eq_true, if_false] at h3
      obtain ⟨ds, st4, q4, h4⟩ := Wn.step h3 frzs_ne
      obtain ⟨w4, e4, s4, r4⟩ := frzs_ok s2 rs q4
      obtain ⟨d4, g4, i4⟩ := e4.beside hDv g2 i2
      exact h4 (.ref D) _ H2 ((e2.trans e4).adopt hD g4) (s4.adopt d4 g4 i4) (show Rep X.K cl _ _ _ from .lst (SqL.of upd_same) (r4.mono fun b u q => by show upd w4.G D _ b = some u; rw [upd_ne (ne_of_none q g4)]; exact q))
theorem ve_lcC {elt iter : Expr} {ifs : List Expr} {scope : Scope} {own : List (Str × Nat)} {cell : Bool} {tgt : Tg} {mi : Env → M (List R × List (R × List D))} {mt : Env → M Bool} {me : Env → M R} (hc : X.calm = true) (hN : X.N.Nodup) (hi : VIc X cl W tg iter mi) (ok : BlkOk X.N X.env.scope scope own)
    (hg : ∀ (s : Shared) (H : Hp) (C : Addr) (cs : List (Str × Addr)) (fp : List Addr), VG (X.blk s H scope (compEnvC scope cs C X.env) fp) cl Wf tg tgt)
    (ht : ∀ (s : Shared) (H : Hp) (C : Addr) (cs : List (Str × Addr)) (fp : List Addr), PTs (X.blk s H scope (compEnvC scope cs C X.env) fp) ifs (tB X.K cl Wf mt))
    (he : ∀ (s : Shared) (H : Hp) (C : Addr) (cs : List (Str × Addr)) (fp : List Addr), VE (X.blk s H scope (compEnvC scope cs C X.env) fp) cl Wf elt me)
    (hs : ∀ x, foldedSetIterable iter X.env x = pure x) (hown : ∀ j ∈ tgt.slots, j ∈ own.map (·.2)) :
    VE X cl W (.ListComp elt [⟨tg, iter, ifs, 0⟩] scope pos) (lcMC cell tgt (own.map (·.2)) mi mt me) :=
  PE.imp (pe_lc hc hN hi ok hg ht he hs) fun σ H Q h => lcC_read hown h
theorem vs_asgLcC {i : Nat} {y : Str} {py spos : Pos} {elt iter : Expr} {ifs : List Expr} {scope : Scope} {own : List (Str × Nat)} {cell : Bool} {tgt : Tg} {mi : Env → M (List R × List (R × List D))} {mt : Env → M Bool} {me : Env → M R} (hc : X.calm = true) (hN : X.N.Nodup) (hy : X.N[i]? = some y) (hyl : X.env.scope.names.lookup y = some .local)
    (hsw : swapsWith (.ListComp elt [⟨tg, iter, ifs, 0⟩] scope pos) (some (.Name y py)) spos.line X.env = pure true) (hi : VIc X cl W tg iter mi) (ok : BlkOk X.N X.env.scope scope own)
    (hg : ∀ (s : Shared) (H : Hp) (C : Addr) (cs : List (Str × Addr)) (fp : List Addr), VG (X.blk s H scope (compEnvC scope cs C X.env) fp) cl Wf tg tgt)
    (ht : ∀ (s : Shared) (H : Hp) (C : Addr) (cs : List (Str × Addr)) (fp : List Addr), PTs (X.blk s H scope (compEnvC scope cs C X.env) fp) ifs (tB X.K cl Wf mt))
    (he : ∀ (s : Shared) (H : Hp) (C : Addr) (cs : List (Str × Addr)) (fp : List Addr), VE (X.blk s H scope (compEnvC scope cs C X.env) fp) cl Wf elt me)
    (hs : ∀ x, foldedSetIterable iter X.env x = pure x) (hown : ∀ j ∈ tgt.slots, j ∈ own.map (·.2)) :
    VS X cl W (.Assign [.Name y py] (.ListComp elt [⟨tg, iter, ifs, 0⟩] scope pos) spos) (fun ρ st => (lcMC cell tgt (own.map (·.2)) mi mt me ρ st).to ρ fun r st1 => .nx (ρ.set i (some r)) st1) := by
  refine PS.imp (ps_setLc (i := i) (g := tTg X.K cl Wf tgt) (tt := tB X.K cl Wf mt) (te := tV X.K cl Wf me) hc hN hy hyl hsw hi ok hg ht he hs) fun D σ H h => ?_
  obtain ⟨w, ρ, st, s, e, h⟩ := h
  refine lcC_read hown ((tG.to (m := lcMC cell tgt (own.map (·.2)) mi mt me) s e h).mono fun v H1 ⟨w1, r, st1, e1, s1, en1, r1, h1⟩ => ?_)
  exact h1 _ w1 H1 (Ext.refl _ _) s1 (en1.set r1)
/-! ### dict(pairs) -/
theorem pairOf_rep {K : PySem.W.Frag} {G : Hp} {v : L2.V} {d : D} {p : L2.Key × D} (h : Rep K cl G v d) (e : pairOf d = some p) : ∃ a u, v = .ref a ∧ SqT K G a [kV p.1, u] ∧ Rep K cl G u p.2 := by
  cases d with
  | tup ds =>
    match ds, e with
    | [k, w], e =>
      simp only [pairOf] at e
      cases q : keyD k with
      | none => rw [q] at e; cases e
      | some kk =>
        rw [q] at e
        cases e
        cases h with
        | tup hs r =>
          cases r with
          | cons hk r2 =>
            cases r2 with
            | cons hw r3 =>
              cases r3
              have := keyD_rep hk q
              subst this
              exact ⟨_, _, rfl, hs, hw⟩
    | [], e => cases e
    | [_], e => cases e
    | _ :: _ :: _ :: _, e => cases e
  | _ => cases e
theorem allP_rep {K : PySem.W.Frag} {G : Hp} : ∀ {vs : List L2.V} {ds : List D} {ps : List (L2.Key × D)}, Reps K cl G vs ds → allP ds = some ps → ∃ (as : List Addr) (kvs : List (L2.Key × L2.V)), vs = as.map V.ref ∧ Paired (fun p (kv : L2.Key × L2.V) => SqT K G p [kV kv.1, kv.2]) as kvs ∧ RepF K cl G kvs ps
  | _, _, _, .nil, e => by cases e; exact ⟨[], [], rfl, .nil, .nil⟩
  | _, _, ps, .cons (d := d) (ds := ds) h r, e => by
    rw [allP] at e
    cases q1 : pairOf d with
    | none => rw [q1] at e; cases e
    | some p =>
      cases q2 : allP ds with
      | none => rw [q1, q2] at e; cases e
      | some qs =>
        rw [q1, q2] at e
        cases e
        obtain ⟨a, u, rfl, h1, h2⟩ := pairOf_rep h q1
        obtain ⟨as, kvs, rfl, h3, h4⟩ := allP_rep r q2
        exact ⟨a :: as, (p.1, u) :: kvs, rfl, .cons h1 h3, .cons h2 h4⟩
theorem merge_rep {K : PySem.W.Frag} {w : Wd} : ∀ {kvs : List (L2.Key × L2.V)} {ps : List (L2.Key × D)} {acc : List (L2.Key × L2.V)} {racc : List (L2.Key × D)}, RepF K cl w.G kvs ps → RepRF K cl w acc (racc.map fun p => (p.1, R.v p.2)) →
    RepRF K cl w (kvs.foldl (fun acc kv => putK acc kv.1 kv.2) acc) ((ps.foldl (fun acc kv => dPut acc kv.1 kv.2) racc).map fun p => (p.1, R.v p.2))
  | _, _, _, _, .nil, h => h
  | _, _, acc, racc, .cons (f := f) (v := v) (d := d) hv r, h => by
    rw [List.foldl_cons, List.foldl_cons]
    refine merge_rep r ?_
    have e : (dPut racc f d).map (fun p => (p.1, R.v p.2)) = dPut (racc.map fun p => (p.1, R.v p.2)) f (R.v d) := by
      unfold dPut
      have a : ((racc.map fun p => (p.1, R.v p.2)).any fun kv => decide (kv.1 = f)) = racc.any fun kv => decide (kv.1 = f) := by rw [List.any_map]; rfl
      rw [a]
      split
      · rw [List.map_map, List.map_map]
        apply List.map_congr_left
        intro p _
        simp only [Function.comp]
        split <;> rfl
      · simp
    show RepRF K cl w (putK acc f v) ((dPut racc f d).map fun p => (p.1, R.v p.2))
    rw [e]
    exact repRF_dput (show RepR K cl w v (.v d) from hv) h
theorem ve_dpairs {p : Pos} (hc : X.calm = true) (hg : Gl X "dict") (hm : X.mg "dict" = none) (hs : noStar a = true) (ha : VE X cl W a ma) : VE X cl W (.Call (.Name "dict" p) [a] [] pos) (fun ρ => (ma ρ).bind fun x => (plD x).bind fun ds => match allP ds with
      | some kvs => if kvs.length ≤ 16777216 then alloc (.dct ((mergeD kvs).map fun p => (p.1, R.v p.2))) else M.bad
      | none => M.bad) := by
  refine PE.imp (pe_callTy (call_dictP hc) hg hm (by decide +kernel) (pa_cons ha pa_nil (star_cons hs _ _)) (by decide) (by decide) (star_cons hs _ _) rfl) fun σ H Q h => ?_
  obtain ⟨w, ρ, st, s, e, h⟩ := h
  refine (tG.bind (m := ma) s e h).mono fun x H1 ⟨w1, rx, st1, e1, s1, en1, r1, h1⟩ => ?_
  obtain ⟨ds, st2, q2, h2⟩ := Wn.step h1 plD_ne
  obtain ⟨rfl, f, p, vs, rfl, hq, rr⟩ := plD_ok s1 r1 q2
  cases q : allP ds with
  | none => rw [q] at h2; exact False.elim h2
  | some ps =>
    rw [q] at h2
    simp only [] at h2
    split at h2
    · obtain ⟨as, kvs, rfl, h3, h4⟩ := allP_rep rr q
      refine ⟨p, as, kvs, rfl, hq, L2.Paired.mapP h3 fun _ _ z => seqT_same s1.sub z, fun l hl => ?_⟩
      obtain ⟨s3, e3⟩ := s1.allocG (o := .dK (mergeK [] kvs)) (c0 := .dct ((mergeD ps).map fun (p : L2.Key × D) => (p.1, R.v p.2))) hl fun e => ⟨s1.sub.free hl, mergeK [] kvs, upd_same, RepRF.ext e (show RepRF X.K cl w1 (mergeK [] kvs) ((mergeD ps).map fun (p : L2.Key × D) => (p.1, R.v p.2)) from merge_rep (acc := []) (racc := []) h4 .nil)⟩
      refine h2 (.ref l) _ _ e3 s3 ⟨l, ?_, rfl⟩
      show (w1.io ++ [l])[List.length st2]? = some l
      rw [← s1.len, List.getElem?_concat_length]
    · exact False.elim h2
end
end SV

set_option maxRecDepth 100000
set_option maxHeartbeats 4000000
/-! SvPi: sets made of a list of numbers and texts -/
namespace SV
open PySem PySem.Spec PyProof.Rows L2
theorem onceK_snoc {K : Type} [DecidableEq K] (ks : List K) (k : K) : onceK (ks ++ [k]) = if k ∈ onceK ks then onceK ks else onceK ks ++ [k] := by
  unfold onceK onceG; rw [List.foldl_append]; rfl
theorem onceG_mem {K : Type} [DecidableEq K] (k : K) : ∀ (ks acc : List K), k ∈ onceG acc ks ↔ k ∈ acc ∨ k ∈ ks
  | [], acc => by simp [onceG]
  | x :: xs, acc => by
    have ih := onceG_mem k xs
    show k ∈ onceG (if x ∈ acc then acc else acc ++ [x]) xs ↔ _
    rw [ih]
    split
    · rename_i h
      constructor
      · rintro (z | z)
        · exact .inl z
        · exact .inr (List.mem_cons_of_mem _ z)
      · rintro (z | z)
        · exact .inl z
        · rcases List.mem_cons.mp z with rfl | z
          · exact .inl h
          · exact .inr z
    · rw [List.mem_append, List.mem_singleton, List.mem_cons, or_assoc]
theorem onceK_mem {K : Type} [DecidableEq K] (ks : List K) (k : K) : k ∈ onceK ks ↔ k ∈ ks := by rw [onceK, onceG_mem]; simp
theorem onceG_len {K : Type} [DecidableEq K] : ∀ (ks acc : List K), (onceG acc ks).length ≤ acc.length + ks.length
  | [], acc => by simp [onceG]
  | x :: xs, acc => by
    have ih := onceG_len xs (if x ∈ acc then acc else acc ++ [x])
    show (onceG (if x ∈ acc then acc else acc ++ [x]) xs).length ≤ _
    rw [List.length_cons]
    split at ih <;> rename_i h
    · rw [if_pos h]; omega
    · rw [if_neg h]; rw [List.length_append] at ih; simp at ih; omega
theorem onceK_len {K : Type} [DecidableEq K] (ks : List K) : (onceK ks).length ≤ ks.length := by have := onceG_len ks []; simpa [onceK] using this
def memK {K : Type} [DecidableEq K] (ks : List K) (k : K) : Bool := decide (k ∈ ks)
section
variable {P : Program} {w : World} {A : Around}
abbrev emptyS (b : Bool) : Obj := { cls := .type "set", dict := none, data := .set #[] 0 (.fresh 0 0 b) }
/-- the values us are the keys ks -/
def KeysAre {K : Type} [DecidableEq K] (knd : PySem.KeyKind P w K) (us : Array Value) (ks : List K) : Prop := us.size = ks.length ∧ ∀ (i : Nat) (u : Value), us[i]? = some u → ∃ k, ks[i]? = some k ∧ knd.is k u = true ∧ u.scannable = true
/-- what is laid at a: after so many things -/
structure Lays (P : Program) (w : World) (A : Around) (a : Addr) (Pv : Nat → Value → Prop) (Tab : Nat → Heap → Prop) : Prop where
  keep : ∀ i h h', Tab i h → (∀ o, h.get? a = some o → h'.get? a = some o) → Tab i h'
  step : ∀ i u (z : Shared) (Q : Bool → Shared → Prop) (E : Value → Shared → Prop), Pv i u → Tab i z.heap → (∀ b h', Heap.SameBut a z.heap h' → Tab (i + 1) h' → Q b { z with heap := h', toks := z.toks + 1 }) → wpAny (model P w) A (setAdd a u) Q E z
theorem fill_set {it : Addr} {fp wr : List Addr} {G : Array GenState → Array GenState → Prop} {n : Nat} {Pv : Nat → Value → Prop} {St : Nat → Shared → Prop} {C : Result → Shared → Prop} {a : Addr} {Tab : Nat → Heap → Prop}
    (Wk : WalksS P w A.in1 it fp wr G n Pv St) (ha : a ∉ fp) (L : Lays P w A.in1 a Pv Tab) :
    ∀ (left done : Nat) (s : Shared), done + left = n → St done s → Tab done s.heap → (∀ z, Moved (a :: wr) G s z → Tab n z.heap → C (.ok (.ret .none)) z) → codeAny (model P w) A (.builtin "set.update.loop" ⟨[.ref a, .ref it], []⟩) C s := by
  have aw : a ∉ wr := fun h => ha (Wk.sub _ h)
  intro left
  induction left with
  | zero =>
    intro done s e hst hS hC
    obtain rfl : done = n := by omega
    refine codeAny_builtin F.entry_set_update_loop (by
      rw [Around.under_plainId F.plain_set_update_loop _]
      exact wpAny_bind (Wk.done s _ _ hst fun z hm => wpAny_pure (hC z (hm.mono fun b hb => List.mem_cons_of_mem _ hb) (L.keep _ _ _ hS fun o e => hm.heap a o aw e))))
  | succ left ih =>
    intro done s e hst hS hC
    refine codeAny_builtin F.entry_set_update_loop (by
      rw [Around.under_plainId F.plain_set_update_loop _]
      refine wpAny_bind (Wk.item done s _ _ (by omega) hst fun u z hP hst' hm => ?_)
      have hZ := L.keep _ _ _ hS fun o e => hm.heap a o aw e
      refine wpAny_bind (wpAny_holding (L.step done u z _ _ hP hZ fun b h' sb e2 => ?_))
      exact wpAny_pure ⟨plainId_quiet F.plain_set_update_loop _, ih (done + 1) _ (by omega) (Wk.frame _ z _ _ hst' (Nat.le_succ _) fun b hb o q => (sb.2 b fun h => ha (h ▸ hb)) ▸ q) e2 fun y hm2 hy =>
        hC y (Moved.trans Wk.gtrans ((hm.mono fun b hb => List.mem_cons_of_mem _ hb).then_heap (Nat.le_succ _) fun b o hb q => (sb.2 b fun h => hb (h ▸ List.mem_cons_self)) ▸ q) hm2) hy⟩)
/-- keys laid, each once -/
theorem lays_keys {K : Type} [DecidableEq K] {knd : PySem.KeyKind P w K} {a : Addr} {Pv : Nat → Value → Prop} {ks : List K} (room : ks.length + 1 < scanBound) (hv : ∀ i u, Pv i u → ∃ k, ks[i]? = some k ∧ knd.is k u = true ∧ u.scannable = true) :
    Lays P w A a Pv fun i h => h.SetOf knd a (memK (onceK (ks.take i))) (onceK (ks.take i)).length where
  keep := fun i h h' ⟨o, es, ep, t, ho, r⟩ q => ⟨o, es, ep, t, q o ho, r⟩
  step := fun i u z Q E hP hZ fin => by
    obtain ⟨k, hk, hi, hsc⟩ := hv i u hP
    refine wpAny_holding (wpAny_bind (knd.pyHash (k := k) hi ?_))
    have l1 := onceK_len (ks.take i)
    rw [List.length_take] at l1
    refine wpAny_setAddHashed_of (s := { z with toks := z.toks + 1 }) hi hsc hZ (by omega) fun h' sb hS2 => fin _ h' sb ?_
    have tk : ks.take (i + 1) = ks.take i ++ [k] := by rw [List.take_add_one, hk]; rfl
    rw [tk, onceK_snoc]
    by_cases q : k ∈ onceK (ks.take i)
    · rw [if_pos q]
      have f : (fun k' => memK (onceK (ks.take i)) k' || decide (k' = k)) = memK (onceK (ks.take i)) := by
        funext j
        unfold memK
        by_cases jk : j = k
        · subst jk; simp [q]
        · simp [jk]
      rw [f] at hS2
      simpa [memK, q] using hS2
    · rw [if_neg q]
      have f : (fun k' => memK (onceK (ks.take i)) k' || decide (k' = k)) = memK (onceK (ks.take i) ++ [k]) := by
        funext j
        unfold memK
        rw [← Bool.decide_or]
        congr 1
        simp
      rw [f] at hS2
      simpa [memK, q] using hS2
/-- numbers laid -/
theorem lays_ints {a : Addr} {Pv : Nat → Value → Prop} {ns : List Int} (room : ns.length + 1 < scanBound) (hv : ∀ i u, Pv i u → ∃ k t, ns[i]? = some k ∧ u = .int k t) :
    Lays P w A a Pv fun i h => ∃ c, c ≤ i ∧ c ≤ ns.length ∧ SetR w h a (fun j => decide (j ∈ ns.take i)) c where
  keep := fun i h h' ⟨c, hc, hc2, hS⟩ q => ⟨c, hc, hc2, hS.at q⟩
  step := fun i u z Q E hP ⟨c, hc, hc2, hS⟩ fin => by
    obtain ⟨k, t, hk, rfl⟩ := hv i u hP
    refine wpAny_holding (wpAny_bind ((intKind P w).pyHash (k := k) (intKind_is _ _ _ _) ?_))
    have hi := (List.getElem?_eq_some_iff.mp hk).1
    refine setR_add_hashed (s := { z with toks := z.toks + 1 }) hS (by omega) fun h' sb hS2 => fin _ h' sb ⟨_, ?_, ?_, hS2.congr fun j => ?_⟩
    · split <;> omega
    · split <;> omega
    · rw [List.take_add_one, hk]
      simp [List.mem_append]
/-- set(l), l a list at its address -/
theorem make_set {E : Value → Shared → Prop} {s : Shared} {l : Addr} {us : Array Value} {Tab : Nat → Heap → Prop} {Q : Value → Shared → Prop} (calm : A.handled = none) (hl : s.heap.IsList l us)
    (L : ∀ A', Lays P w A' s.heap.objs.size (fun i v => us[i]? = some v) Tab) (h0 : ∀ h, h.get? s.heap.objs.size = some (emptyS (!w.params.followText "set-order")) → Tab 0 h)
    (fin : ∀ (h' : Heap) (tk : Nat), Tab us.size h' → (∀ b o, s.heap.get? b = some o → h'.get? b = some o) → Q (.ref s.heap.objs.size) { s with heap := h', toks := tk }) :
    wpAny (model P w) A (call (.type "set") [.ref l]) Q E s := by
  generalize en : s.heap.objs.size = new at *
  obtain ⟨c, tl, mro⟩ := PySem.F.called_set.mro
  have q1 := PySem.F.called_set.made
  have q2 := PySem.F.called_set.sub
  have q3 := PySem.F.called_set.notType
  have q4 := PySem.F.called_set.canCreate
  have q5 := PySem.F.typeCall_set_1 (.ref l)
  refine wpAny_call (codeAny_of_tree (wpAny_pure ⟨Code.quiet_builtin _ (by decide +kernel), codeAny_builtin PySem.F.entry_type_call (by
    rw [Around.under_plain (weight_type_call_type "set" [.ref l] []) rfl]
    repeat (any_goals (first | assumption | wp_step))
    refine codeAny_mono (code_set_led1 (.ref l) (E := E) (Q₁ := fun v t => ∃ b : Bool, v = .ref new ∧ t = { s with heap := s.heap.push (emptyS b) } ∧ b = !w.params.followText "set-order") ⟨_, by rw [en], rfl, rfl⟩) fun r t hr => ?_
    match r, hr with
    | .error e, hr => exact hr
    | .ok (.ret v), ⟨b, ev, et, eb⟩ =>
      subst ev; subst et
      have at0 : (s.heap.push (emptyS b)).get? new = some (emptyS b) := en ▸ Heap.get?_push_size _ rfl
      have ty : Shared.TypeIs { s with heap := s.heap.push (emptyS b) } (.ref new) "set" := ⟨_, at0, rfl⟩
      have q6 := PySem.F.called_set.init.lookup
      have q7 := PySem.F.called_set.init.bind (.ref new)
      repeat (any_goals (first | assumption | wp_step))
      refine codeAny_mono (codeAny_call_builtin (R := wants (fun r t => r = .none ∧ ∃ h' tk, t = { s with heap := h', toks := tk } ∧ Tab us.size h' ∧ ∀ b o, s.heap.get? b = some o → h'.get? b = some o) E) PySem.F.called_set.init.plain PySem.F.entry_set_init (check_set_init_1 ty ?_)) fun r t hr => ?_
      · obtain ⟨⟨oc, od, odt, os⟩, ho, e1, nl, e2⟩ := hl
        simp only at e1 e2
        subst e1 e2
        have lnew : l < new := en ▸ Heap.lt_size ho
        have ho' : (s.heap.push (emptyS b)).get? l = some { cls := .type "list", dict := od, data := .seq us nl, slots := os } := Heap.get?_push_of_some _ ho
        have isl : (s.heap.push (emptyS b)).IsList l us := ⟨_, ho', rfl, nl, rfl⟩
        have z1 := PySem.F.sub_list_set
        have z2 := PySem.F.sub_list_frozenset
        have z3 : (Value.type "list" == Value.type "dict") = false := by decide
        have size2 : (s.heap.push (emptyS b)).objs.size = new + 1 := by rw [Heap.size_push, en]
        unfold Builtin.«set.__init__» noKeywords Builtin.Frozenset.updateFrom
        generalize hPI : pyIter = PI
        wp_walk
        subst hPI
        refine wpAny_pyIter_list isl (wpAny_bind (wpAny_runValue ?_))
        have calm3 : A.in1.in1.in1.handled = none := by simp [calm]
        have ne1 : l ≠ (s.heap.push (emptyS b)).objs.size := by rw [size2]; exact Nat.ne_of_lt (Nat.lt_succ_of_lt lnew)
        refine fill_set ((Walks.list calm3 _ l ne1 us).toS) (by
          rw [size2]
          simp only [List.mem_cons, List.not_mem_nil, or_false, not_or]
          exact ⟨Nat.ne_of_lt (Nat.lt_succ_self _), Nat.ne_of_gt lnew⟩) (L _) us.size 0 _ (by omega) ⟨⟨_, Heap.get?_push_size _ rfl, rfl, rfl⟩, isl.push _⟩ ?_ ?_
        · have at1 : ((s.heap.push (emptyS b)).push { cls := .type "list_iterator", data := .fields #[.ref l, .int 0 0] }).get? new = some (emptyS b) := Heap.get?_push_of_some _ at0
          exact h0 _ (eb ▸ at1)
        · rintro ⟨h', g', d', tk', os'⟩ hm hS
          obtain rfl : g' = s.gens := hm.gens
          obtain rfl : d' = s.drawn := hm.drawn
          obtain rfl : os' = s.os := hm.os
          refine wpAny_pure (wpAny_pure ⟨rfl, h', tk', rfl, hS, fun b o e => ?_⟩)
          have b0 : b < new := en ▸ Heap.lt_size e
          refine hm.heap b o ?_ (Heap.get?_push_of_some _ (Heap.get?_push_of_some _ e))
          rw [size2]
          simp only [List.mem_cons, List.not_mem_nil, or_false, not_or]
          exact ⟨Nat.ne_of_lt b0, Nat.ne_of_lt (Nat.lt_succ_of_lt b0)⟩
      · match r, hr with
        | .error e, hr => exact hr
        | .ok (.ret v), ⟨ev, h', tk, et, hS, hk'⟩ =>
          subst ev; subst et
          repeat (any_goals (first | assumption | wp_step))
          exact fin _ _ hS hk'
        | .ok .next, hr => exact hr.elim
        | .ok .brk, hr => exact hr.elim
        | .ok .cont, hr => exact hr.elim
    | .ok .next, hr => exact hr.elim
    | .ok .brk, hr => exact hr.elim
    | .ok .cont, hr => exact hr.elim)⟩))
end
theorem nodup_le {α : Type} [DecidableEq α] : ∀ (xs ys : List α), xs.Nodup → (∀ x ∈ xs, x ∈ ys) → xs.length ≤ ys.length
  | [], ys, _, _ => Nat.zero_le _
  | x :: xs, ys, n, h => by
    rw [List.nodup_cons] at n
    have hx := h x (by simp)
    have := nodup_le xs (ys.erase x) n.2 fun y hy => (List.mem_erase_of_ne (fun z => n.1 (by rw [← z]; exact hy))).mpr (h y (by simp [hy]))
    have l := List.length_erase_of_mem hx
    have l0 : 0 < ys.length := List.length_pos_of_mem hx
    rw [List.length_cons]; omega
theorem onceG_nodup {K : Type} [DecidableEq K] : ∀ (ks acc : List K), acc.Nodup → (onceG acc ks).Nodup
  | [], acc, h => h
  | x :: xs, acc, h => by
    show (onceG (if x ∈ acc then acc else acc ++ [x]) xs).Nodup
    refine onceG_nodup xs _ ?_
    split
    · exact h
    · rename_i q
      rw [List.nodup_append]
      exact ⟨h, by simp, fun a ha b hb => by simp at hb; subst hb; exact fun z => q (z ▸ ha)⟩
theorem onceK_nodup {K : Type} [DecidableEq K] (ks : List K) : (onceK ks).Nodup := onceG_nodup ks [] List.nodup_nil
theorem once_len_eq {K : Type} [DecidableEq K] {ks L : List K} (n : L.Nodup) (h1 : ∀ k ∈ L, k ∈ ks) (h2 : ∀ k ∈ ks, k ∈ L) : L.length = (onceK ks).length := by
  have a := nodup_le L (onceK ks) n fun k hk => (onceK_mem ks k).mpr (h1 k hk)
  have b := nodup_le (onceK ks) L (onceK_nodup ks) fun k hk => h2 k ((onceK_mem ks k).mp hk)
  omega
section
variable {X : Cx}
theorem vals_at : ∀ {vs : List L2.V} {us : List Value} {i : Nat} {u : Value}, Vals vs us → us[i]? = some u → ∃ v, vs[i]? = some v ∧ L2.RelV v u
  | _, _, _, _, .nil, e => by simp at e
  | _, _, 0, _, .cons h _, e => by simp at e; subst e; exact ⟨_, rfl, h⟩
  | _, _, i + 1, u, .cons _ r, e => by
    obtain ⟨v, h1, h2⟩ := vals_at (i := i) (u := u) r (by simpa using e)
    exact ⟨v, by simpa using h1, h2⟩
/-- set(xs), xs a list of numbers and texts -/
def rSetOfK (K : PySem.W.Frag) (P : Program) (w : World) : List V → Hp → VK → Prop := fun xs H Q => ∃ (l : Addr) (ks : List L2.Key), xs = [V.ref l] ∧ SqL K H l (ks.map kV) ∧ ks.length ≤ 4000 ∧ ∀ a, H a = none → Q (.ref a) (upd H a (SetK P w a (memK (onceK ks)) (onceK ks).length))
theorem cr_setOfK (hc : X.calm = true) : CallR X (.type "set") (rSetOfK X.K X.prog X.w) := by
  intro pins s σ H xs us Q I r h
  obtain ⟨l, ks, rfl, hl, hk, q⟩ := h
  rw [Vals.ref1 r]
  obtain ⟨its, rv, pl, hz⟩ := I.list hl
  have hn : H s.heap.objs.size = none := I.hok.fresh (Nat.le_refl _)
  have el : its.toArray.size = ks.length := by rw [List.size_toArray, ← rv.length, List.length_map]
  refine make_set (Tab := fun i h => h.SetOf (mixKind X.prog X.w) s.heap.objs.size (memK (onceK (ks.take i))) (onceK (ks.take i)).length) (I.ok.hd hc) pl.isList (fun A' => lays_keys (by unfold scanBound; omega) fun i u hu => ?_) (fun h h0 => ?_) fun h' tk hS k => ?_
  · rw [List.getElem?_toArray] at hu
    obtain ⟨v, h1, h2⟩ := vals_at rv hu
    rw [List.getElem?_map] at h1
    obtain ⟨key, h3, rfl⟩ := Option.map_eq_some_iff.mp h1
    exact ⟨key, h3, kV_is h2, key_scan h2⟩
  · have z : h.SetOf (mixKind X.prog X.w) s.heap.objs.size (fun _ => false) 0 := ⟨_, #[], 0, _, h0, ⟨rfl, rfl, rfl⟩, rfl, (fun e he => by simp at he), (fun k => by simp), (by decide), (by rfl), rfl⟩
    have e : memK (onceK (ks.take 0)) = fun _ => false := by funext k; simp [memK, onceK, onceG]
    show h.SetOf _ _ (memK (onceK (ks.take 0))) (onceK (ks.take 0)).length
    rw [e]
    exact z
  · rw [el, List.take_of_length_le (Nat.le_refl _)] at hS
    exact ⟨.ref s.heap.objs.size, upd H s.heap.objs.size (SetK X.prog X.w s.heap.objs.size (memK (onceK ks)) (onceK ks).length), I.laid (t' := tk) k (Nat.le_refl _) (setK_new hS), rfl, q _ hn⟩
/-- set(xs), xs a list of numbers -/
def rSetOfI (K : PySem.W.Frag) (w : World) : List V → Hp → VK → Prop := fun xs H Q => ∃ (l : Addr) (ns : List Int), xs = [V.ref l] ∧ SqL K H l (ns.map V.int) ∧ ns.length < 64 ∧ ∀ a c, H a = none → c ≤ ns.length → Q (.ref a) (upd H a (SetO w a (fun k => decide (k ∈ ns)) c))
theorem cr_setOfI (hc : X.calm = true) : CallR X (.type "set") (rSetOfI X.K X.w) := by
  intro pins s σ H xs us Q I r h
  obtain ⟨l, ns, rfl, hl, hk, q⟩ := h
  rw [Vals.ref1 r]
  obtain ⟨its, rv, pl, hz⟩ := I.list hl
  have hn : H s.heap.objs.size = none := I.hok.fresh (Nat.le_refl _)
  have el : its.toArray.size = ns.length := by rw [List.size_toArray, ← rv.length, List.length_map]
  refine make_set (Tab := fun i h => ∃ c, c ≤ i ∧ c ≤ ns.length ∧ SetR X.w h s.heap.objs.size (fun j => decide (j ∈ ns.take i)) c) (I.ok.hd hc) pl.isList (fun A' => lays_ints (by unfold scanBound; omega) fun i u hu => ?_) (fun h h0 => ⟨0, Nat.zero_le _, Nat.zero_le _, setR_new_at h0⟩) fun h' tk ⟨c, _, hc2, hS⟩ k => ?_
  · rw [List.getElem?_toArray] at hu
    obtain ⟨v, h1, h2⟩ := vals_at rv hu
    rw [List.getElem?_map] at h1
    obtain ⟨n, h3, rfl⟩ := Option.map_eq_some_iff.mp h1
    obtain ⟨t, rfl⟩ := h2
    exact ⟨n, t, h3, rfl⟩
  · rw [el, List.take_of_length_le (Nat.le_refl _)] at hS
    exact ⟨.ref s.heap.objs.size, upd H s.heap.objs.size (SetO X.w s.heap.objs.size (fun k => decide (k ∈ ns)) c), I.laid (t' := tk) k (Nat.le_refl _) (setO_new hS), rfl, q _ c hn hc2⟩
/-- len of such a set -/
def rLenK (P : Program) (w : World) : List V → Hp → VK → Prop := fun xs H Q => ∃ (a : Addr) (S : L2.Key → Bool) (n : Nat), xs = [V.ref a] ∧ H a = some (SetK P w a S n) ∧ Q (.int (n : Nat)) H
theorem cr_lenK : CallR X (.builtin "len") (rLenK X.prog X.w) := by
  intro pins s σ H xs us Q I r h
  obtain ⟨a, S, n, rfl, ha, q⟩ := h
  rw [Vals.ref1 r]
  obtain ⟨o, es, ep, t, ho, hex, hd, _, _, hb, hf, hn⟩ := setK_get I ha
  refine call_len_set ho hex hd hf (by unfold scanBound at hb; omega) ⟨.int (n : Nat), H, I.tok _, ⟨_, by rw [hn]⟩, q⟩
/-- len of a set of tuples -/
def rLenT (K : PySem.W.Frag) (P : Program) (w : World) : List V → Hp → VK → Prop := fun xs H Q => ∃ (a : Addr) (L : List (Addr × List Int)), xs = [V.ref a] ∧ H a = some (SetTO P w a L) ∧ (∀ p ∈ L, SqT K H p.1 (p.2.map V.int)) ∧ ((L.map (·.2)).Nodup → Q (.int (L.length : Nat)) H)
theorem cr_lenT : CallR X (.builtin "len") (rLenT X.K X.prog X.w) := by
  intro pins s σ H xs us Q I r h
  obtain ⟨a, L, rfl, ha, hL, q⟩ := h
  rw [Vals.ref1 r]
  have T0 : SetT0 X.prog X.w s.heap a L := (I.hok a _ ha).1
  obtain ⟨es, ep, t, R⟩ := T0.full fun p hp => I.isT (hL p hp)
  obtain ⟨o, ho, hex, hd⟩ := R.ob
  refine call_len_set ho hex hd R.fits (by have := R.size; have := R.few; omega) ⟨.int (L.length : Nat), H, I.tok _, ⟨_, by rw [R.size]⟩, q R.nd⟩
/-- list(r), r a range -/
def rListR : List V → Hp → VK → Prop := fun xs H Q => ∃ (a : Addr) (i j : Int), xs = [V.ref a] ∧ H a = some (.rng i j) ∧ (-1000000 ≤ i ∧ i ≤ 1000000 ∧ -1000000 ≤ j ∧ j ≤ 1000000) ∧ ∀ p, H p = none → Q (.ref p) (upd H p (.lst ((List.range (j - i).toNat).map fun (k : Nat) => V.int (i + (k : Int)))))
theorem vals_range {i : Int} : ∀ (us : List Value) (n m : Nat), us.length = m → (∀ (k : Nat) (v : Value), us[k]? = some v → ∃ t, v = .int (i + ((n + k : Nat) : Int)) t) → Vals ((List.range' n m).map fun (k : Nat) => V.int (i + (k : Int))) us
  | [], n, m, e, _ => by cases e; exact .nil
  | u :: us, n, m, e, h => by
    cases e
    rw [List.length_cons, List.range'_succ, List.map_cons]
    obtain ⟨t, ht⟩ := h 0 u rfl
    exact .cons ⟨t, by simpa using ht⟩ (vals_range us (n + 1) us.length rfl fun k v hv => by
      obtain ⟨t, ht⟩ := h (k + 1) v (by simpa using hv)
      exact ⟨t, by rw [ht]; congr 1; omega⟩)
theorem cr_listR (hc : X.calm = true) : CallR X (.type "list") rListR := by
  intro pins s σ H xs us Q I r h
  obtain ⟨a, i, j, rfl, ha, hb, q⟩ := h
  rw [Vals.ref1 r]
  obtain ⟨t, u, v, ho⟩ := I.hok a _ ha
  have hn : H s.heap.objs.size = none := I.hok.fresh (Nat.le_refl _)
  have hsz := PyProof.Rows.rangeSize_nat i j
  refine call_list_range (a := i) (b := j) (c := 1) (t := t) (u := u) (v := v) (n := (j - i).toNat) (I.ok.hd hc) ho (small_one (by omega) (by omega) (by omega) (by omega)) hsz (by omega) fun h' tk acc c' k hS hi => ?_
  have vs : Vals ((List.range (j - i).toNat).map fun (k : Nat) => V.int (i + (k : Int))) acc.toList := by
    rw [List.range_eq_range']
    refine vals_range acc.toList 0 _ (by rw [Array.length_toList]; exact hi.1) fun k v hv => ?_
    rw [Array.getElem?_toList] at hv
    obtain ⟨t, ht⟩ := hi.2 k v hv
    exact ⟨t, by rw [ht, Int.mul_one, Nat.zero_add]⟩
  exact ⟨.ref s.heap.objs.size, upd H s.heap.objs.size (.lst ((List.range (j - i).toNat).map fun (k : Nat) => V.int (i + (k : Int)))), I.laid (t' := tk) k (Nat.le_refl _) ⟨by rw [List.length_map, List.length_range, sizeLine_eq]; omega, acc.toList, c', vs, by simpa using hS⟩, rfl, q _ hn⟩
end
end SV

set_option maxRecDepth 100000
set_option maxHeartbeats 4000000
/-! SvPj: len(set(..)), sorted(set(..)), list(range(..)), dicts made of lists walked while they stay -/
namespace SV
open PySem PySem.Spec PyProof.Rows
open L2 hiding It
section
variable {X : Cx} {cl : Nat → Option Addr} {W : WY} {a b tg : Expr} {ma mb : Env → M R} {pos : Pos}
theorem of_ok {α : Type} {o : Option α} {st st' : Store} {v : α} (h : M.of o st = .ok v st') : o = some v ∧ st' = st := by
  cases o with
  | none => cases h
  | some w => cases h; exact ⟨rfl, rfl⟩
theorem of_ne {α : Type} {o : Option α} {st : Store} : ∀ c fs s, M.of o st ≠ .exc c fs s := fun c fs s e => by cases o <;> cases e
theorem keys_rep {K : PySem.W.Frag} {G : Hp} : ∀ {vs : List L2.V} {ds : List D} {ks : List L2.Key}, Reps K cl G vs ds → allK ds = some ks → vs = ks.map kV
  | _, _, _, .nil, e => by cases e; rfl
  | _, _, _, .cons (d := d) (ds := ds) h r, e => by
    simp only [allK] at e
    cases q1 : keyD d with
    | none => rw [q1] at e; cases e
    | some k =>
      cases q2 : allK ds with
      | none => rw [q1, q2] at e; cases e
      | some ks =>
        rw [q1, q2] at e
        cases e
        rw [List.map_cons, ← keys_rep r q2]
        cases d <;> simp only [keyD] at q1 <;> cases q1 <;> cases h <;> rfl
theorem tups_rep {K : PySem.W.Frag} {G : Hp} : ∀ {vs : List L2.V} {ds : List D} {ts : List (List Int)}, Reps K cl G vs ds → allT ds = some ts → ∃ ps : List (Addr × List Int), vs = ps.map (fun p => V.ref p.1) ∧ (∀ p ∈ ps, SqT K G p.1 (p.2.map V.int)) ∧ ps.map (·.2) = ts
  | _, _, _, .nil, e => by cases e; exact ⟨[], rfl, by simp, rfl⟩
  | _, _, _, .cons (d := d) (ds := ds) h r, e => by
    cases d with
    | tup xs =>
      simp only [allT] at e
      cases q1 : allI xs with
      | none => rw [q1] at e; cases e
      | some t =>
        cases q2 : allT ds with
        | none => rw [q1, q2] at e; cases e
        | some ts =>
          rw [q1, q2] at e
          cases e
          obtain ⟨ps, rfl, h1, h2⟩ := tups_rep r q2
          cases h with
          | tup hs rr =>
            rw [ints_rep rr q1] at hs
            refine ⟨(_, t) :: ps, rfl, fun p hp => ?_, by rw [List.map_cons, h2]⟩
            rcases List.mem_cons.mp hp with rfl | hp
            · exact hs
            · exact h1 p hp
    | _ => simp [allT] at e
theorem sqT_keep {K : PySem.W.Frag} {H : Hp} {a l : Addr} {o : HO} {xs : List V} (hl : H l = none) (h : SqT K H a xs) : SqT K (upd H l o) a xs := seqT_same (fun b u e => by rw [upd_ne (ne_of_none e hl)]; exact e) h
theorem cr_or {f : Value} {r1 r2 : List V → Hp → VK → Prop} (h1 : CallR X f r1) (h2 : CallR X f r2) : CallR X f fun xs H Q => r1 xs H Q ∨ r2 xs H Q := fun pins s σ H xs us Q I r h => h.elim (h1 pins s σ H xs us Q I r) (h2 pins s σ H xs us Q I r)
theorem allT_len : ∀ {ds : List D} {ts : List (List Int)}, allT ds = some ts → ts.length = ds.length
  | [], _, e => by cases e; rfl
  | d :: ds, _, e => by
    cases d with
    | tup xs =>
      simp only [allT] at e
      cases q1 : allI xs with
      | none => rw [q1] at e; cases e
      | some t =>
        cases q2 : allT ds with
        | none => rw [q1, q2] at e; cases e
        | some ts => rw [q1, q2] at e; cases e; simp [allT_len q2]
    | _ => simp [allT] at e
theorem ve_lenset {p p2 q : Pos} (hc : X.calm = true) (hu : X.A.units + 64 < cLine) (hg : Gl X "len") (hm : X.mg "len" = none) (hg2 : Gl X "set") (hm2 : X.mg "set" = none) (hs : noStar a = true) (ha : VE X cl W a ma) :
    VE X cl W (.Call (.Name "len" p) [.Call (.Name "set" p2) [a] [] q] [] pos) (fun ρ => (ma ρ).bind fun x => (plD x).bind fun ds => (M.of (lenSet ds)).bind fun n => M.pure (.v (.int (n : Nat)))) := by
  refine PE.imp (pe_callB (cr_or cr_lenK cr_lenT) hg hm (by decide +kernel) (pa_cons (pe_callTy (cr_or (cr_setOfK hc) (cr_setOfT hc hu)) hg2 hm2 (by decide +kernel) (pa_cons ha pa_nil (star_cons hs _ _)) (by decide) (by decide) (star_cons hs _ _) rfl) pa_nil rfl) (by decide) (by decide) rfl rfl) fun σ H Q h => ?_
  obtain ⟨w, ρ, st, s, e, h⟩ := h
  refine (tG.bind (m := ma) s e h).mono fun x H1 ⟨w1, rx, st1, e1, s1, en1, r1, h1⟩ => ?_
  obtain ⟨ds, st2, q2, h2⟩ := Wn.step h1 plD_ne
  obtain ⟨rfl, f, l, vs, rfl, hq, rr⟩ := plD_ok s1 r1 q2
  obtain ⟨n, st3, q3, h3⟩ := Wn.step h2 of_ne
  obtain ⟨en, rfl⟩ := of_ok q3
  unfold lenSet at en
  cases k : allK ds with
  | some ks =>
    rw [k] at en
    simp only [Option.ite_none_right_eq_some, Option.some.injEq] at en
    obtain ⟨hl, rfl⟩ := en
    refine .inl ⟨l, ks, rfl, keys_rep rr k ▸ hq, hl, fun t ht => .inl ⟨t, _, _, rfl, upd_same, ?_⟩⟩
    obtain ⟨s', e'⟩ := s1.lay (o := SetK X.prog X.w t (memK (onceK ks)) (onceK ks).length) ht
    exact h3 _ _ _ e' s' (.int _)
  | none =>
    rw [k] at en
    cases k2 : allT ds with
    | none => rw [k2] at en; cases en
    | some ts =>
      rw [k2] at en
      simp only [Option.ite_none_right_eq_some, Option.some.injEq] at en
      obtain ⟨hl, rfl⟩ := en
      obtain ⟨ps, rfl, hp, e2⟩ := tups_rep rr k2
      have lp : ps.length < 64 := by rw [← e2, List.length_map] at hl; exact hl
      refine .inr ⟨l, ps, rfl, hq, fun p hp' => seqT_same s1.sub (hp p hp'), lp, fun t L ht h4 h5 => .inr ⟨t, L, rfl, upd_same, fun p hp' => sqT_keep ht (seqT_same s1.sub (hp p (h4 p hp'))), fun nd => ?_⟩⟩
      obtain ⟨s', e'⟩ := s1.lay (o := SetTO X.prog X.w t L) ht
      have le : L.length = (onceK ts).length := by
        have := once_len_eq (ks := ts) nd (fun k hk => by
          obtain ⟨p, hp', rfl⟩ := List.mem_map.mp hk
          rw [← e2]; exact List.mem_map.mpr ⟨p, h4 p hp', rfl⟩) (fun k hk => by
          rw [← e2] at hk
          obtain ⟨p, hp', rfl⟩ := List.mem_map.mp hk
          exact h5 p hp')
        rwa [List.length_map] at this
      rw [le]
      exact h3 _ _ _ e' s' (.int _)
theorem sortSet_of {ns ms : List Int} (h1 : ms.Pairwise (· < ·)) (h2 : ∀ k, k ∈ ms ↔ decide (k ∈ ns) = true) : ms = sortI (onceK ns) := by
  refine sortI_eq ?_ (h1.imp fun h => Int.le_of_lt h)
  have nd : ms.Nodup := h1.imp fun h => Int.ne_of_lt h
  rw [List.perm_iff_count]
  intro k
  rw [nd.count, (onceK_nodup ns).count]
  have := h2 k
  rw [decide_eq_true_eq] at this
  simp only [onceK_mem, this]
theorem ve_sortset {p p2 q : Pos} (hc : X.calm = true) (hg : Gl X "sorted") (hm : X.mg "sorted" = none) (hg2 : Gl X "set") (hm2 : X.mg "set" = none) (hs : noStar a = true) (ha : VE X cl W a ma) :
    VE X cl W (.Call (.Name "sorted" p) [.Call (.Name "set" p2) [a] [] q] [] pos) (fun ρ => (ma ρ).bind fun x => (plD x).bind fun ds => (M.of (sortSet ds)).bind fun ns => M.pure (.v (.lst (ns.map D.int)))) := by
  refine PE.imp (pe_callB (cr_sortedSet hc) hg hm (by decide +kernel) (pa_cons (pe_callTy (cr_setOfI hc) hg2 hm2 (by decide +kernel) (pa_cons ha pa_nil (star_cons hs _ _)) (by decide) (by decide) (star_cons hs _ _) rfl) pa_nil rfl) (by decide) (by decide) rfl rfl) fun σ H Q h => ?_
  obtain ⟨w, ρ, st, s, e, h⟩ := h
  refine (tG.bind (m := ma) s e h).mono fun x H1 ⟨w1, rx, st1, e1, s1, en1, r1, h1⟩ => ?_
  obtain ⟨ds, st2, q2, h2⟩ := Wn.step h1 plD_ne
  obtain ⟨rfl, f, l, vs, rfl, hq, rr⟩ := plD_ok s1 r1 q2
  obtain ⟨n, st3, q3, h3⟩ := Wn.step h2 of_ne
  obtain ⟨en, rfl⟩ := of_ok q3
  unfold sortSet at en
  cases k : allI ds with
  | none => rw [k] at en; cases en
  | some ns =>
    rw [k] at en
    simp only [Option.ite_none_right_eq_some, Option.some.injEq] at en
    obtain ⟨hl, rfl⟩ := en
    refine ⟨l, ns, rfl, ints_rep rr k ▸ hq, hl, fun t c ht hcl => ⟨t, _, c, rfl, upd_same, by omega, fun ms pp hw hmem hlen hpp => ?_⟩⟩
    have em := sortSet_of hw hmem
    subst em
    obtain ⟨s', e'⟩ := s1.lay (o := SetO X.w t (fun k => decide (k ∈ ns)) c) ht
    obtain ⟨s'', e''⟩ := s'.lay (o := .lst ((sortI (onceK ns)).map V.int)) hpp
    exact h3 _ _ _ (e'.trans e'') s'' (show Rep X.K cl _ _ _ from .lst (SqL.of upd_same) (reps_ints _))
theorem reps_range {K : PySem.W.Frag} {G : Hp} (i : Int) (l : List Nat) : Reps K cl G (l.map fun (k : Nat) => V.int (i + (k : Int))) (l.map fun (k : Nat) => D.int (i + (k : Int))) := by
  induction l with
  | nil => exact .nil
  | cons x l ih => exact .cons (.int _) ih
theorem ve_lrng {p p2 q : Pos} (hc : X.calm = true) (hg : Gl X "list") (hm : X.mg "list" = none) (hg2 : Gl X "range") (hm2 : X.mg "range" = none) (hs : noStar a = true) (hs' : noStar b = true) (ha : VE X cl W a ma) (hb : VE X cl W b mb) :
    VE X cl W (.Call (.Name "list" p) [.Call (.Name "range" p2) [a, b] [] q] [] pos) (fun ρ => (ma ρ).bind fun x => (mb ρ).bind fun y => (intOf x).bind fun i => (intOf y).bind fun j => lRng i j) := by
  refine PE.imp (pe_callTy (cr_listR hc) hg hm (by decide +kernel) (pa_cons (pe_callTy cr_range2 hg2 hm2 (by decide +kernel) (pa_cons ha (pa_cons hb pa_nil (star_cons hs' _ _)) (star_cons hs _ _)) (by decide) (by decide) (star_cons hs _ _) (star_any (by simp [hs']))) pa_nil rfl) (by decide) (by decide) rfl rfl) fun σ H Q h => ?_
  obtain ⟨w, ρ, st, s, e, h⟩ := h
  refine (tG.bind (m := ma) s e h).mono fun x H1 ⟨w1, rx, st1, e1, s1, en1, r1, h1⟩ => ?_
  refine (tG.bind (m := mb) s1 en1 h1).mono fun y H2 ⟨w2, ry, st2, e2, s2, en2, r2, h2⟩ => ?_
  obtain ⟨i, rfl, h3⟩ := intOf_step s2 (r1.ext e2) h2
  obtain ⟨j, rfl, h4⟩ := intOf_step s2 r2 h3
  unfold lRng at h4
  split at h4
  · rename_i hb
    refine ⟨i, j, rfl, fun t ht => ⟨t, i, j, rfl, upd_same, hb, fun pp hpp => ?_⟩⟩
    obtain ⟨s', e'⟩ := s2.lay (o := .rng i j) ht
    obtain ⟨s'', e''⟩ := s'.lay (o := .lst ((List.range (j - i).toNat).map fun (k : Nat) => V.int (i + (k : Int)))) hpp
    exact h4 _ _ _ (e'.trans e'') s'' (show Rep X.K cl _ _ _ from .lst (SqL.of upd_same) (reps_range i _))
  · exact False.elim h4
/-- {k: v for .. in a list that stays} -/
theorem dcC_read {tgt : Tg} {own : List Nat} {mi : Env → M (List R × List (R × List D))} {mc : Env → M Bool} {mk mv : Env → M R} {σ : L2.St} {H : Hp} {Q : VK} (hown : ∀ j ∈ tgt.slots, j ∈ own)
    (h : tV X.K cl W (dcMC tgt own mi mc mk mv) σ H Q) : tDc (tIc X.K cl W mi) (tTg X.K cl Wf tgt) (tB X.K cl Wf mc) (tV X.K cl Wf mk) (tV X.K cl Wf mv) own σ H Q := by
  obtain ⟨w, ρ, st, s, e, h⟩ := h
  have A1 : tIc X.K cl W mi σ H (fun J H1 => ∃ w1 xs gs st1, Ext w H w1 H1 ∧ SR X.K cl w1 H1 st1 ∧ EnvR X.K cl W w1 σ ρ ∧ IterC X.K cl w1 J (xs, gs) ∧ xs.length ≤ sizeLine ∧ Wn (RepR X.K cl) X.K cl W σ Q w1 H1 (((dcGoC (stays gs) (fun x => noExc (dcTurn tgt mc mk mv (wipeE ρ own) x)) xs []).bind fun kvs => alloc (.dct kvs)) st1)) := by
    refine ⟨w, ρ, st, s, e, ?_⟩
    have h' : Wn (RepR X.K cl) X.K cl W σ Q w H ((mi ρ st).bind fun p => (chkN p.1.length).bind fun _ => (dcGoC (stays p.2) (fun x => noExc (dcTurn tgt mc mk mv (wipeE ρ own) x)) p.1 []).bind fun kvs => alloc (.dct kvs)) := h
    cases q : mi ρ st with
    | bad => rw [q] at h'; exact h'
    | exc c fs z => rw [q] at h'; exact h'
    | ok p st1 =>
      obtain ⟨xs, gs⟩ := p
      rw [q] at h'
      simp only [Out.bind_ok, M.bind, chkN] at h'
      split at h'
      · rename_i hl
        exact fun J w1 H1 e1 s1 r1 => ⟨w1, xs, gs, st1, e1, s1, e.ext e1, r1, hl, Wn.ext e1 h'⟩
      · exact False.elim h'
  refine tG.mono A1 fun J H1 ⟨w1, xs, gs, st1, e1, s1, en1, it, hxl, h1⟩ => fun D hD => ?_
  have gD : w1.G D = none := s1.sub.free hD
  have iD : D ∉ w1.io := fun z => by
    obtain ⟨u, hu⟩ := s1.trk D z
    rw [hD] at hu; cases hu
  refine ⟨fun i m H => m = xs.length - i ∧ i ≤ xs.length ∧ ∃ w st ys vs, Ext w1 H1 w H ∧ SR X.K cl w H st ∧ H D = some (.dK vs) ∧ w.G D = none ∧ D ∉ w.io ∧ RepRF X.K cl w vs ys ∧ ys.length ≤ i ∧
      Wn (RepR X.K cl) X.K cl W σ Q w1 H1 (((dcGoC (stays gs) (fun x => noExc (dcTurn tgt mc mk mv (wipeE ρ own) x)) (xs.drop i) ys).bind fun kvs => alloc (.dct kvs)) st),
    ⟨xs.length, by simp, Nat.zero_le _, w1, st1, [], [], (Ext.refl _ _).touch hD, s1.touch gD iD, upd_same, gD, iD, .nil, Nat.le_refl _, h1⟩, ?_⟩
  rintro i m H2 ⟨rfl, hi, w2, st2, ys, vs, e2, s2, hDv, g2, i2, rs, hyl, h2⟩
  by_cases hlt : i < xs.length
  · have hx : xs[i]? = some xs[i] := by simp [hlt]
    rw [List.drop_eq_getElem_cons hlt] at h2
    simp only [dcGoC, M.bind_assoc_at, M.bind_assoc] at h2
    obtain ⟨u0, st0, q0, h2b⟩ := Wn.step h2 guardM_ne
    clear h2
    obtain ⟨gd, rfl⟩ := guardM_ok q0
    obtain ⟨go, stop⟩ := it w2 H2 st0 e2.io e2.G s2 gd
    obtain ⟨g1, y1⟩ := go i _ hx
    obtain ⟨o, st3, q3, h3⟩ := Wn.step h2b noExc_ne
    have q4 := noExc_ok q3
    refine .inr ⟨g1, fun H' => i + 1 ≤ xs.length ∧ ∃ w st ys vs, Ext w1 H1 w H' ∧ SR X.K cl w H' st ∧ H' D = some (.dK vs) ∧ w.G D = none ∧ D ∉ w.io ∧ RepRF X.K cl w vs ys ∧ ys.length ≤ i + 1 ∧
      Wn (RepR X.K cl) X.K cl W σ Q w1 H1 (((dcGoC (stays gs) (fun x => noExc (dcTurn tgt mc mk mv (wipeE ρ own) x)) (xs.drop (i + 1)) ys).bind fun kvs => alloc (.dct kvs)) st), fun H' q => ⟨xs.length - (i + 1), by omega, rfl, q⟩, fun v H3 y => ?_⟩
    obtain ⟨w3, e3, s3, r3⟩ := y1 v H3 y
    obtain ⟨d3, g3, i3⟩ := e3.beside hDv g2 i2
    unfold dcTurn at q4
    obtain ⟨ρ1, st4, q5, q6⟩ := M.bind_inv q4
    have := bindTg_st q5
    subst this
    have en3 : EnvR X.K cl Wf w3 (L2.wipe σ own) (wipeE ρ own) := (((en1.ext (e2.trans e3)).wipe).wish trivial)
    refine ⟨w3, wipeE ρ own, st4, xs[i], ρ1, st4, s3, en3, r3, q5, fun σ' en' hl' hj' => ⟨?_, ?_⟩⟩
    · rw [wipe_eq hl' fun j hj => hj' j fun z => hj (hown j z)]
      exact wipe_eq (L2.wipe_length _ _) fun j hj => L2.wipe_out hj
    · obtain ⟨k, st5, q7, q8⟩ := M.bind_inv q6
      refine ⟨w3, ρ1, st4, s3, en', ?_⟩
      rw [q7]
      intro b w4 H4 e4 s4 rb
      subst rb
      obtain ⟨d4, g4, i4⟩ := e4.beside d3 g3 i3
      cases b with
      | false =>
        cases q8
        rw [if_neg Bool.false_ne_true]
        exact ⟨hlt, w4, st3, ys, vs, (e2.trans e3).trans e4, s4, d4, g4, i4, (rs.ext e3).ext e4, by omega, h3⟩
      | true =>
        simp only [if_true] at q8 ⊢
        obtain ⟨y, st6, q9, q10⟩ := M.bind_inv q8
        refine ⟨w4, ρ1, st5, s4, en'.ext e4, ?_⟩
        rw [q9]
        intro u w5 H5 e5 s5 ru
        obtain ⟨d5, g5, i5⟩ := e5.beside d4 g4 i4
        obtain ⟨z, st7, q11, q12⟩ := M.bind_inv q10
        refine ⟨w5, ρ1, st6, s5, (en'.ext e4).ext e5, ?_⟩
        rw [q11]
        intro u2 w6 H6 e6 s6 ru2
        obtain ⟨d6, g6, i6⟩ := e6.beside d5 g5 i5
        obtain ⟨dz, st8, q13, q14⟩ := M.bind_inv q12
        obtain ⟨w7, e7, s7, r7⟩ := frz_ok s6 ru2 q13
        obtain ⟨d7, g7, i7⟩ := e7.beside d6 g6 i6
        obtain ⟨kk, st9, q15, q16⟩ := M.bind_inv q14
        obtain ⟨rfl, rfl⟩ := keyM_ok s7 ((ru.ext e6).ext e7) q15
        cases q16
        have rs7 : RepRF X.K cl w7 vs ys := ((((rs.ext e3).ext e4).ext e5).ext e6).ext e7
        have hlen : vs.length < sizeLine := by rw [Paired.length rs7]; omega
        refine ⟨vs, kk, rfl, d7, hlen, hlt, w7, st3, dPut ys kk (.v dz), putK vs kk u2, (((((e2.trans e3).trans e4).trans e5).trans e6).trans e7).touch hD, s7.touch g7 i7, upd_same, g7, i7, repRF_dput (show RepR X.K cl w7 u2 (.v dz) from r7) rs7, ?_, h3⟩
        have := dPut_len ys kk (R.v dz)
        omega
  · have he : i = xs.length := by omega
    subst he
    rw [List.drop_length] at h2
    simp only [dcGoC, M.bind_assoc_at, M.bind_assoc] at h2
    obtain ⟨u0, st0, q0, h2b⟩ := Wn.step h2 guardM_ne
    clear h2
    obtain ⟨gd, rfl⟩ := guardM_ok q0
    obtain ⟨go, stop⟩ := it w2 H2 st0 e2.io e2.G s2 gd
    have h3 : Wn (RepR X.K cl) X.K cl W σ Q w1 H1 (alloc (.dct ys) st0) := by simpa [M.bind, M.pure] using h2b
    refine .inl ⟨stop, ?_⟩
    refine h3 (.ref D) _ H2 (e2.enlist hD) (s2.enlistD hDv g2 i2 rs) ⟨D, ?_, rfl⟩
    show (w2.io ++ [D])[List.length st0]? = some D
    rw [← s2.len, List.getElem?_concat_length]
theorem ve_dcC {kx vx iter : Expr} {ifs : List Expr} {scope : Scope} {own : List (Str × Nat)} {tgt : Tg} {mi : Env → M (List R × List (R × List D))} {mt : Env → M Bool} {mk mv : Env → M R} (hc : X.calm = true) (hN : X.N.Nodup) (hi : VIc X cl W tg iter mi) (ok : BlkOk X.N X.env.scope scope own)
    (hg : ∀ (s : Shared) (H : Hp) (C : Addr) (cs : List (Str × Addr)) (fp : List Addr), VG (X.blk s H scope (compEnvC scope cs C X.env) fp) cl Wf tg tgt)
    (ht : ∀ (s : Shared) (H : Hp) (C : Addr) (cs : List (Str × Addr)) (fp : List Addr), PTs (X.blk s H scope (compEnvC scope cs C X.env) fp) ifs (tB X.K cl Wf mt))
    (hk : ∀ (s : Shared) (H : Hp) (C : Addr) (cs : List (Str × Addr)) (fp : List Addr), VE (X.blk s H scope (compEnvC scope cs C X.env) fp) cl Wf kx mk)
    (he : ∀ (s : Shared) (H : Hp) (C : Addr) (cs : List (Str × Addr)) (fp : List Addr), VE (X.blk s H scope (compEnvC scope cs C X.env) fp) cl Wf vx mv)
    (hs : ∀ x, foldedSetIterable iter X.env x = pure x) (hown : ∀ j ∈ tgt.slots, j ∈ own.map (·.2)) :
    VE X cl W (.DictComp kx vx [⟨tg, iter, ifs, 0⟩] scope pos) (dcMC tgt (own.map (·.2)) mi mt mk mv) :=
  PE.imp (pe_dc hc hN hi ok hg ht hk he hs) fun σ H Q h => dcC_read hown h
end
end SV

set_option maxRecDepth 100000
set_option maxHeartbeats 4000000
/-! SvQ: the checker: this piece of Python is that piece of our language; expressions -/
namespace SV
open PySem PySem.Spec PyProof.Rows
open L2 hiding It
mutual
def beqD : D → D → Bool
  | .non, .non => true
  | .bl a, .bl b => a == b
  | .int a, .int b => a == b
  | .str a, .str b => a == b
  | .tup a, .tup b => beqDs a b
  | .lst a, .lst b => beqDs a b
  | .obj c a, .obj d b => c == d && beqDf a b
  | _, _ => false
def beqDs : List D → List D → Bool
  | [], [] => true
  | a :: as, b :: bs => beqD a b && beqDs as bs
  | _, _ => false
def beqDf : List (Str × D) → List (Str × D) → Bool
  | [], [] => true
  | (f, a) :: as, (g, b) :: bs => f == g && beqD a b && beqDf as bs
  | _, _ => false
end
mutual
theorem beqD_eq : ∀ {a b : D}, beqD a b = true → a = b
  | .non, b, h => by cases b <;> simp [beqD] at h ⊢
  | .bl x, b, h => by cases b <;> simp [beqD] at h ⊢; exact h
  | .int x, b, h => by cases b <;> simp [beqD] at h ⊢; exact h
  | .str x, b, h => by cases b <;> simp [beqD] at h ⊢; exact h
  | .tup x, b, h => by cases b <;> simp [beqD] at h ⊢; exact beqDs_eq h
  | .lst x, b, h => by cases b <;> simp [beqD] at h ⊢; exact beqDs_eq h
  | .obj c x, b, h => by cases b <;> simp [beqD] at h ⊢; exact ⟨h.1, beqDf_eq h.2⟩
  | .dct x, b, h => by cases b <;> simp [beqD] at h
theorem beqDs_eq : ∀ {a b : List D}, beqDs a b = true → a = b
  | [], b, h => by cases b <;> simp [beqDs] at h ⊢
  | x :: xs, b, h => by cases b <;> simp [beqDs] at h ⊢; exact ⟨beqD_eq h.1, beqDs_eq h.2⟩
theorem beqDf_eq : ∀ {a b : List (Str × D)}, beqDf a b = true → a = b
  | [], b, h => by cases b <;> simp [beqDf] at h ⊢
  | (f, x) :: xs, b, h => by
    cases b with
    | nil => simp [beqDf] at h
    | cons p ps =>
      obtain ⟨g, y⟩ := p
      simp [beqDf] at h ⊢
      exact ⟨⟨h.1.1, beqD_eq h.1.2⟩, beqDf_eq h.2⟩
end
def beqPm : List (Nat ⊕ D) → List (Nat ⊕ D) → Bool
  | [], [] => true
  | .inl i :: as, .inl j :: bs => i == j && beqPm as bs
  | .inr a :: as, .inr b :: bs => beqD a b && beqPm as bs
  | _, _ => false
theorem beqPm_eq : ∀ {a b : List (Nat ⊕ D)}, beqPm a b = true → a = b
  | [], [], _ => rfl
  | [], _ :: _, h => by simp [beqPm] at h
  | .inl i :: as, [], h => by simp [beqPm] at h
  | .inr i :: as, [], h => by simp [beqPm] at h
  | .inl i :: as, .inl j :: bs, h => by simp [beqPm] at h; rw [h.1, beqPm_eq h.2]
  | .inr i :: as, .inr j :: bs, h => by simp [beqPm] at h; rw [beqD_eq h.1, beqPm_eq h.2]
  | .inl i :: as, .inr j :: bs, h => by simp [beqPm] at h
  | .inr i :: as, .inl j :: bs, h => by simp [beqPm] at h
/-- where a piece of text stands -/
structure Ctx where
  m : Mt
  N : List Str
  sc : List (Str × NameKind)
  calm : Bool
  top : Bool
  exn : Option Nat
def isVar (c : Ctx) (y : Str) (i : Nat) : Bool := c.N[i]? == some y && (c.sc.lookup y == some .local || c.sc.lookup y == some .cell || c.sc.lookup y == some .free) && !(y == ("__debug__" : Str)) && !(y == ("__classdict__" : Str))
def isGl (c : Ctx) (y : Str) : Bool := c.sc.lookup y == some .globalImplicit && !(y == ("__debug__" : Str))
def constD : Const → Option D
  | .none => some .non
  | .bool b => some (.bl b)
  | .int i => some (.int i)
  | .str s => some (.str s)
  | _ => none
def plainB : Expr → Bool
  | .Call (.Name _ _) [] [] _ => false
  | _ => true
def notSlice : Expr → Bool
  | .Slice _ _ _ _ => false
  | _ => true
def notSet : Expr → Bool
  | .Set _ _ _ => false
  | _ => true
def plainHead : Expr → Bool
  | .UnaryOp .Not _ _ => false
  | .BoolOp _ _ _ => false
  | .IfExp _ _ _ _ => false
  | .Compare _ _ _ _ => false
  | _ => true
def chkCl (c : Ctx) : Expr → (Nat ⊕ String) → Bool
  | .Name y _, .inl i => isGl c y && c.m.cls.lookup y == some i
  | .Name y _, .inr T => isGl c y && c.m.blt.lookup y == some (.type T) && c.m.tys.contains T
  | _, _ => false
def chk2 {α β : Type} (f : α → β → Bool) : List α → List β → Bool
  | [], [] => true
  | a :: as, b :: bs => f a b && chk2 f as bs
  | _, _ => false
def relC (sc : List (Str × NameKind)) (names : List (Str × NameKind)) : List (Str × NameKind) := names.map fun (n, k) => if (k == .free && sc.lookup n == some .cell) then (n, .cell) else (n, k)
def isTgt (c : Ctx) (y : Str) (i : Nat) : Bool := c.N[i]? == some y && (c.sc.lookup y == some .local || (c.top && c.sc.lookup y == some .cell))
def chkTg (c : Ctx) : Expr → Tg → Bool
  | .Name y _, .one i => isTgt c y i
  | .Tuple es _ _, .many is => c.calm && chk2 (fun e i => match e with | .Name y _ => isTgt c y i | _ => false) es is
  | _, _ => false
def ctxB (c : Ctx) (scope : Scope) : Ctx := { c with sc := relC c.sc scope.names, top := false, exn := none }
def bmName : Bm → Str
  | .append => "append"
  | .insert => "insert"
  | .pop => "pop"
  | .popAt => "pop"
  | .reverse => "reverse"
  | .clear => "clear"
def tmName : Tm → Str
  | .split => "split"
  | .partition => "partition"
def lmName : Lm → Str
  | .index => "index"
  | .count => "count"
def blkN (c : Ctx) (own : List Nat) (scope : Scope) : Bool := blkC c.N { kind := .function, names := c.sc, isGenerator := false, isCoroutine := false } scope (own.map fun i => (c.N.getD i "", i))
def isBlt (c : Ctx) (y : Str) (v : Value) : Bool := isGl c y && c.m.blt.lookup y == some v
/-- f(..), f an own def -/
def chkCallW (chk : Expr → Ex → Bool) (c : Ctx) (e : Expr) (f : Nat) (es : List Ex) (pm : List (Nat ⊕ D)) : Bool := match e with
  | .Call (.Name y _) args kws _ => c.calm && (isGl c y && (args.all noStar && (match c.m.fns[f]? with
    | some fi => fi.name == y && (fi.at_.2 == none && (decide (pm.length = fi.ps.length) && (fi.pats.any (fun p => p.n == args.length && (kws.map (·.arg) == p.ks.map some && beqPm pm p.pm)) &&
        (chk2 chk args (es.take args.length) && chk2 (fun (k : Keyword) x => chk k.value x) kws (es.drop args.length)))))
    | none => false)))
  | _ => false
/-- o.m(..), o of some own classes -/
def chkMthW (chk : Expr → Ex → Bool) (c : Ctx) (cs : Nat → Bool) (e : Expr) (o : Ex) (nm : Str) (es : List Ex) (pm : List (Nat ⊕ D)) : Bool := match e with
  | .Call (.Attribute l nm' ap) args kws pos => c.calm && (nm' == nm && (plainB l && (ap.endLine == pos.line && (args.all noStar && (decide (args.length + kws.length < 29) && (kws.all (fun k => k.arg.isSome) && (chk l o &&
      (chk2 chk args (es.take args.length) && (chk2 (fun (k : Keyword) x => chk k.value x) kws (es.drop args.length) &&
      c.m.mths.all (fun q => !(q.1.2 == nm) || (!(cs q.1.1) || (match c.m.fns[q.2]? with
        | some fi => decide (pm.length = fi.ps.length) && fi.pats.any (fun p => p.n == args.length + 1 && (kws.map (·.arg) == p.ks.map some && beqPm pm p.pm))
        | none => false))))))))))))
  | _ => false
mutual
def chkE : Nat → Ctx → Expr → Ex → Bool
  | 0, _, _, _ => false
  | n + 1, c, e, x => match x with
    | .var i => (match e with | .Name y _ => isVar c y i | _ => false)
    | .con d => (match e with
      | .Constant k _ _ => (match constD k with | some d' => beqD d d' | none => false)
      | .Name y _ => isGl c y && (match c.m.gcs.lookup y with | some d' => beqD d d' | none => false)
      | _ => false)
    | .bin o a b => (match e with | .BinOp l op r _ => opOk op o && (chkE n c l a && chkE n c r b) | _ => false)
    | .neg a => (match e with | .UnaryOp .USub l _ => chkE n c l a | _ => false)
    | .not a => (match e with | .UnaryOp .Not l _ => chkE n c l a | _ => false)
    | .cmp o a b => (match e with | .Compare l [op] [r] _ => copOk op o && (!behindInMarks op r && (chkE n c l a && chkE n c r b)) | _ => false)
    | .chn o p a b d => (match e with | .Compare l [op, op'] [r, s] _ => copOk op o && (copOk op' p && (!lastMarks [op, op'] [r, s] && (chkE n c l a && (chkE n c r b && chkE n c s d)))) | _ => false)
    | .and a b => (match e with
      | .BoolOp .And [l, r] _ => chkE n c l a && chkE n c r b
      | .BoolOp .And (l :: r :: s :: rest) pos => chkE n c l a && chkE n c (.BoolOp .And (r :: s :: rest) pos) b
      | _ => false)
    | .or a b => (match e with
      | .BoolOp .Or [l, r] _ => chkE n c l a && chkE n c r b
      | .BoolOp .Or (l :: r :: s :: rest) pos => chkE n c l a && chkE n c (.BoolOp .Or (r :: s :: rest) pos) b
      | _ => false)
    | .ite t a b => (match e with | .IfExp s l r _ => chkT n c s t && (chkE n c l a && chkE n c r b) | _ => false)
    | .tup es => (match e with | .Tuple ts _ _ => decide (ts.length ≤ 1000) && (ts.all noStar && chk2 (chkE n c) ts es) | _ => false)
    | .lst _ es => (match e with | .List ts _ => decide (ts.length ≤ 1000) && (ts.all noStar && chk2 (chkE n c) ts es) | _ => false)
    | .ix a b => (match e with | .Subscript l r _ => notSlice r && (chkE n c l a && chkE n c r b) | _ => false)
    | .sl a lo hi => (match e with | .Subscript l (.Slice l1 l2 none _) _ => chkE n c l a && (chkO n c l1 lo && chkO n c l2 hi) | _ => false)
    | .call f es pm => chkCallW (chkE n c) c e f es pm
    | .callT f es pm => chkCallW (chkE n c) c e f es pm
    | .blt b es => (match e with
      | .Call (.Name y _) (a :: args) [] _ => isBlt c y (bfVal b) && (!(y == ("__name__" : Str)) && ((!bfCalm b || c.calm) && ((a :: args).all noStar && chk2 (chkE n c) (a :: args) es)))
      | _ => false)
    | .bm m o es => (match e with
      | .Call (.Attribute l nm ap) args [] pos => nm == bmName m && (plainB l && (ap.endLine == pos.line && (args.all noStar && (chkE n c l o && (chk2 (chkE n c) args es && (match m with
        | .append => args.length == 1
        | .insert => args.length == 2
        | .pop => args.length == 0
        | .reverse => args.length == 0
        | .clear => args.length == 0
        | _ => false))))))
      | _ => false)
    | .isi a cs => (match e with
      | .Call (.Name y _) [l, .Tuple ks _ _] [] _ => y == ("isinstance" : Str) && (isBlt c y (.builtin "isinstance") && (noStar l && (chkE n c l a && (decide (ks.length ≤ 1000) && (ks.all noStar && chk2 (chkCl c) ks cs)))))
      | .Call (.Name y _) [l, .Name z p] [] _ => y == ("isinstance" : Str) && (isBlt c y (.builtin "isinstance") && (noStar l && (chkE n c l a && chk2 (chkCl c) [.Name z p] cs)))
      | _ => false)
    | .attr a f => (match e with | .Attribute l f' _ => f' == f && (c.m.flds.contains f && (plainB l && chkE n c l a)) | _ => false)
    | .isx i cs => (match e with
      | .Call (.Name y _) [.Name v _, .Tuple ks _ _] [] _ => c.exn == some i && (y == ("isinstance" : Str) && (isBlt c y (.builtin "isinstance") && (isVar c v i && (decide (ks.length ≤ 1000) && (ks.all noStar && chk2 (chkCl c) ks cs)))))
      | .Call (.Name y _) [.Name v _, .Name z p] [] _ => c.exn == some i && (y == ("isinstance" : Str) && (isBlt c y (.builtin "isinstance") && (isVar c v i && chk2 (chkCl c) [.Name z p] cs)))
      | _ => false)
    | .xat i f => (match e with
      | .Attribute (.Name v _) f' _ => c.exn == some i && (f' == f && (c.m.flds.contains f && isVar c v i))
      | _ => false)
    | .new _ ci f es pm => (match e with
      | .Call (.Name y _) args kws _ => c.calm && (isGl c y && (args.all noStar && (c.m.cls.lookup y == some ci && (decide (ci < 100) && (c.m.ct.mth ci "__init__" == some f && (match c.m.fns[f]? with
        | some fi => decide (pm.length = fi.ps.length) && (fi.pats.any (fun p => p.n == args.length + 1 && (kws.map (·.arg) == p.ks.map some && beqPm pm p.pm)) &&
            (chk2 (chkE n c) args (es.take args.length) && chk2 (fun (k : Keyword) x => chkE n c k.value x) kws (es.drop args.length)))
        | none => false))))))
      | _ => false)
    | .mth o nm es pm => chkMthW (chkE n c) c (fun _ => true) e o nm es pm
    | .mthA _ cs o nm es pm => chkMthW (chkE n c) c cs.contains e o nm es pm
    | .fz a => chkE n c e a
    | .rep es k => (match e with | .BinOp (.List ts _) .Mult r _ => decide (ts.length ≤ 1000) && (ts.all noStar && (chk2 (chkE n c) ts es && chkE n c r k)) | _ => false)
    | .rev a => (match e with | .Subscript l (.Slice none none (some (.UnaryOp .USub (.Constant (.int i) _ _) _)) _) _ => i == 1 && chkE n c l a | _ => false)
    | .lstc a => (match e with | .Call (.Name y _) [l] [] _ => y == ("list" : Str) && (isBlt c y (.type "list") && (noStar l && chkE n c l a)) | _ => false)
    | .join a b => (match e with | .Call (.Attribute l nm ap) [r] [] pos => nm == ("join" : Str) && (plainB l && (ap.endLine == pos.line && (noStar r && (chkE n c l a && chkE n c r b)))) | _ => false)
    | .catc a b => (match e with | .BinOp l .Add r _ => chkE n c l a && chkE n c r b | _ => false)
    | .slc a lo hi => (match e with | .Subscript l (.Slice l1 l2 none _) _ => chkE n c l a && (chkO n c l1 lo && chkO n c l2 hi) | _ => false)
    | .bad => true
    | .dnew => (match e with | .Dict [] [] _ => true | _ => false)
    | .dix a b => (match e with | .Subscript l r _ => notSlice r && (chkE n c l a && chkE n c r b) | _ => false)
    | .din neg a b => (match e with
      | .Compare l [.In] [r] _ => !neg && (!behindInMarks .In r && (chkE n c l a && chkE n c r b))
      | .Compare l [.NotIn] [r] _ => neg && (!behindInMarks .NotIn r && (chkE n c l a && chkE n c r b))
      | _ => false)
    | .dget a b d => (match e with
      | .Call (.Attribute l nm ap) (r :: rs) [] pos => nm == ("get" : Str) && (plainB l && (ap.endLine == pos.line && (noStar r && (chkE n c l a && (chkE n c r b && (match rs, d with
        | [], none => true
        | [s], some d => noStar s && chkE n c s d
        | _, _ => false))))))
      | _ => false)
    | .dkeys a => (match e with | .Call (.Name y _) [l] [] _ => c.calm && (y == ("list" : Str) && (isBlt c y (.type "list") && (noStar l && chkE n c l a))) | _ => false)
    | .txm m a b => (match e with | .Call (.Attribute l nm ap) [r] [] pos => nm == tmName m && (plainB l && (ap.endLine == pos.line && (noStar r && (chkE n c l a && chkE n c r b)))) | _ => false)
    | .lsm m a b => (match e with | .Call (.Attribute l nm ap) [r] [] pos => nm == lmName m && (plainB l && (ap.endLine == pos.line && (noStar r && (chkE n c l a && chkE n c r b)))) | _ => false)
    | .dc kx vx tg it cond own => (match e with
      | .DictComp kx' vx' [⟨tg', iter, ifs, 0⟩] scope _ => c.calm && (notSet iter && (tg.slots.all own.contains && (blkN c own scope && (chkIt n c tg' iter it && (chkTg (ctxB c scope) tg' tg && (chkE n (ctxB c scope) kx' kx && (chkE n (ctxB c scope) vx' vx && chkIfs n (ctxB c scope) ifs cond)))))))
      | _ => false)
    | .lcC cell elt tg it cond own => (match e with
      | .ListComp elt' [⟨tg', iter, ifs, 0⟩] scope _ => c.calm && (notSet iter && (tg.slots.all own.contains && (blkN c own scope && (chkIc n c tg' iter it && (chkTg (ctxB c scope) tg' tg && (chkE n (ctxB c scope) elt' elt && chkIfs n (ctxB c scope) ifs cond))))))
      | _ => false)
    | .dcC kx vx tg it cond own => (match e with
      | .DictComp kx' vx' [⟨tg', iter, ifs, 0⟩] scope _ => c.calm && (notSet iter && (tg.slots.all own.contains && (blkN c own scope && (chkIc n c tg' iter it && (chkTg (ctxB c scope) tg' tg && (chkE n (ctxB c scope) kx' kx && (chkE n (ctxB c scope) vx' vx && chkIfs n (ctxB c scope) ifs cond)))))))
      | _ => false)
    | .lenset a => (match e with | .Call (.Name y _) [.Call (.Name z _) [l] [] _] [] _ => c.calm && (y == ("len" : Str) && (z == ("set" : Str) && (isBlt c y (.builtin "len") && (isBlt c z (.type "set") && (noStar l && chkE n c l a))))) | _ => false)
    | .sortset a => (match e with | .Call (.Name y _) [.Call (.Name z _) [l] [] _] [] _ => c.calm && (y == ("sorted" : Str) && (z == ("set" : Str) && (isBlt c y (.builtin "sorted") && (isBlt c z (.type "set") && (noStar l && chkE n c l a))))) | _ => false)
    | .lrng a b => (match e with | .Call (.Name y _) [.Call (.Name z _) [l, r] [] _] [] _ => c.calm && (y == ("list" : Str) && (z == ("range" : Str) && (isBlt c y (.type "list") && (isBlt c z (.type "range") && (noStar l && (noStar r && (chkE n c l a && chkE n c r b))))))) | _ => false)
    | .dpairs a => (match e with | .Call (.Name y _) [l] [] _ => c.calm && (y == ("dict" : Str) && (isBlt c y (.type "dict") && (noStar l && chkE n c l a))) | _ => false)
    | .lc2 cell elt tg it cond tg1 it1 cond1 own => (match e with
      | .ListComp elt' [⟨tg', iter, ifs, 0⟩, ⟨tg1', iter1, ifs1, 0⟩] scope _ => c.calm && (notSet iter && (notSet iter1 && (tg.slots.all own.contains && (tg1.slots.all own.contains && (blkN c own scope && (chkIt n c tg' iter it && (chkTg (ctxB c scope) tg' tg && (chkIt n (ctxB c scope) tg1' iter1 it1 && (chkTg (ctxB c scope) tg1' tg1 && (chkE n (ctxB c scope) elt' elt && (chkIfs n (ctxB c scope) ifs cond && chkIfs n (ctxB c scope) ifs1 cond1)))))))))))
      | _ => false)
    | .lc cell elt tg it cond own => (match e with
      | .ListComp elt' [⟨tg', iter, ifs, 0⟩] scope _ => c.calm && (notSet iter && (tg.slots.all own.contains && (blkN c own scope && (chkIt n c tg' iter it && (chkTg (ctxB c scope) tg' tg && (chkE n (ctxB c scope) elt' elt && chkIfs n (ctxB c scope) ifs cond))))))
      | _ => false)
def chkT : Nat → Ctx → Expr → Ex → Bool
  | 0, _, _, _ => false
  | n + 1, c, e, x => match x with
    | .not a => (match e with | .UnaryOp .Not l _ => chkT n c l a | _ => false)
    | .and a b => (match e with
      | .BoolOp .And [l, r] _ => chkT n c l a && chkT n c r b
      | .BoolOp .And (l :: r :: s :: rest) pos => chkT n c l a && chkT n c (.BoolOp .And (r :: s :: rest) pos) b
      | _ => false)
    | .or a b => (match e with
      | .BoolOp .Or [l, r] _ => chkT n c l a && chkT n c r b
      | .BoolOp .Or (l :: r :: s :: rest) pos => chkT n c l a && chkT n c (.BoolOp .Or (r :: s :: rest) pos) b
      | _ => false)
    | .ite t a b => (match e with | .IfExp s l r _ => chkT n c s t && (chkT n c l a && chkT n c r b) | _ => false)
    | .cmp o a b => (match e with | .Compare l [op] [r] _ => copOk op o && (!behindInMarks op r && (chkE n c l a && chkE n c r b)) | _ => false)
    | .chn o p a b d => (match e with | .Compare l [op, op'] [r, s] _ => copOk op o && (copOk op' p && (!lastMarks [op, op'] [r, s] && (chkE n c l a && (chkE n c r b && chkE n c s d)))) | _ => false)
    | .bad => true
    | .din neg a b => (match e with
      | .Compare l [.In] [r] _ => !neg && (!behindInMarks .In r && (chkE n c l a && chkE n c r b))
      | .Compare l [.NotIn] [r] _ => neg && (!behindInMarks .NotIn r && (chkE n c l a && chkE n c r b))
      | _ => false)
    | x => plainHead e && chkE n c e x
def chkO : Nat → Ctx → Option Expr → Option Ex → Bool
  | 0, _, _, _ => false
  | n + 1, c, e, x => match e, x with
    | none, none => true
    | some e, some x => chkE n c e x
    | _, _ => false
def chkIfs : Nat → Ctx → List Expr → Option Ex → Bool
  | 0, _, _, _ => false
  | n + 1, c, e, x => match e, x with
    | [], none => true
    | [e], some x => chkT n c e x
    | _, _ => false
def chkIt : Nat → Ctx → Expr → Expr → It → Bool
  | 0, _, _, _, _ => false
  | n + 1, c, tg, e, it => match it with
    | .over a => chkE n c e a
    | .rng a => (match e with | .Call (.Name y _) [l] [] _ => y == ("range" : Str) && (isBlt c y (.type "range") && (noStar l && chkE n c l a)) | _ => false)
    | .rng2 a b => (match e with | .Call (.Name y _) [l, r] [] _ => y == ("range" : Str) && (isBlt c y (.type "range") && (noStar l && (noStar r && (chkE n c l a && chkE n c r b)))) | _ => false)
    | .enm a => (match tg, e with | .Tuple _ _ _, .Call (.Name y _) [l] [] _ => y == ("enumerate" : Str) && (isBlt c y (.type "enumerate") && (noStar l && chkE n c l a)) | _, _ => false)
    | .zip a b => (match tg, e with | .Tuple _ _ _, .Call (.Name y _) [l, r] [] _ => y == ("zip" : Str) && (isBlt c y (.type "zip") && (noStar l && (noStar r && (chkE n c l a && chkE n c r b)))) | _, _ => false)
def chkIc : Nat → Ctx → Expr → Expr → Ic → Bool
  | 0, _, _, _, _ => false
  | n + 1, c, tg, e, it => match it with
    | .over a => chkE n c e a
    | .enm a => (match tg, e with | .Tuple _ _ _, .Call (.Name y _) [l] [] _ => y == ("enumerate" : Str) && (isBlt c y (.type "enumerate") && (noStar l && chkE n c l a)) | _, _ => false)
    | .zip a b => (match tg, e with | .Tuple _ _ _, .Call (.Name y _) [l, r] [] _ => y == ("zip" : Str) && (isBlt c y (.type "zip") && (noStar l && (noStar r && (chkE n c l a && chkE n c r b)))) | _, _ => false)
end
end SV

set_option maxRecDepth 100000
set_option maxHeartbeats 4000000
/-! SvR: the checker is right: expressions -/
namespace SV
open PySem PySem.Spec PyProof.Rows
open L2 hiding It
/-- a def that stands by its name, to a depth of calls -/
def FOk (P : Program) (w : World) (K : PySem.W.Frag) (mg : Str → Option Value) (base : Heap) (k : Nat) (cl : Nat → Option Addr) (F : List R → M R) (fi : FI) : Prop :=
  ∃ fd, (fi.at_.2 = none → mg fi.name = some (.ref (He.fAd K fi.at_))) ∧ PySem.W.keepIn K (.ref (He.fAd K fi.at_)) = true ∧ FnOk P w K mg base (L2.CX P w) k (He.fAd K fi.at_) fd fi.ps (spF K cl fi.ps.length F) ∧ ∀ p ∈ fi.pats, PatOk K cl fd fi.ps p.n p.ks p.pm
structure Cok (c : Ctx) (k : Nat) (X : Cx) (cl : Nat → Option Addr) (W : WY) (g : Sg) : Prop where
  N : X.N = c.N
  nd : X.N.Nodup
  sc : X.env.scope.names = c.sc
  kd : X.env.scope.kind = .function
  calm : c.calm = true → X.calm = true
  tk : Takes X W.f
  hu : X.A.units + 100 < cLine
  hr : c.calm = true → Room (k + 3) X.A
  po : PassesOwn (model X.prog X.w) X.A X.env X.xe
  mo : Mok c.m X.K X.mg cl g.ct
  fn : ∀ f fi, c.m.fns[f]? = some fi → FOk X.prog X.w X.K X.mg X.base k cl (g.S f) fi
  gct : g.ct = c.m.ct
  xo : ∀ i C fs, cl i = some C → c.m.xfs.lookup i = some fs → XOk X.prog X.w X.K X.mg X.base C fs
  tp : c.top = true → (∀ x, X.fn x = true) ∧ X.stack = X.env :: X.outer ∧ X.env.frame = some X.env.locals
  xw : c.exn = none → W.xi = none
  su : ∀ i, c.exn = some i → ∃ (X0 : Cx) (a : Addr) (oe : Obj) (pn : List (Addr × Obj)) (cls : Value) (d : Option Addr), X = X0.suite a ((a, oe) :: pn) ∧ W = Wsu a cls d ∧ Zc cls d oe ∧ (∃ vs, oe.data = .fields vs)
section
variable {c : Ctx} {k : Nat} {X : Cx} {cl : Nat → Option Addr} {W : WY} {g : Sg}
theorem Cok.hu64 (o : Cok c k X cl W g) : X.A.units + 64 < cLine := by have := o.hu; omega
theorem Cok.hu1 (o : Cok c k X cl W g) : X.A.units + 1 < cLine := by have := o.hu; omega
theorem Cok.hu65 (o : Cok c k X cl W g) : X.A.units + 65 < cLine := by have := o.hu; omega
theorem Cok.gl (o : Cok c k X cl W g) {y : Str} (h : isGl c y = true) : Gl X y ∧ (y == ("__debug__" : Str)) = false := by
  simp only [isGl, Bool.and_eq_true, beq_iff_eq, Bool.not_eq_true'] at h
  refine ⟨?_, h.2⟩
  show X.env.scope.names.lookup y = some .globalImplicit
  rw [o.sc]; exact h.1
theorem Cok.var (o : Cok c k X cl W g) {y : Str} {i : Nat} (h : isVar c y i = true) : X.N[i]? = some y ∧ Vis X.env.scope y ∧ (y == ("__debug__" : Str)) = false ∧ (y == ("__classdict__" : Str)) = false := by
  simp only [isVar, Bool.and_eq_true, Bool.or_eq_true, beq_iff_eq, Bool.not_eq_true'] at h
  obtain ⟨⟨⟨h1, h2⟩, h3⟩, h4⟩ := h
  refine ⟨by rw [o.N]; exact h1, ?_, h3, h4⟩
  unfold Vis
  rw [o.sc]
  rcases h2 with (h2 | h2) | h2
  · exact .inl h2
  · exact .inr (.inl h2)
  · exact .inr (.inr h2)
theorem Cok.blt (o : Cok c k X cl W g) {y : Str} {v : Value} (h : isBlt c y v = true) : Gl X y ∧ (y == ("__debug__" : Str)) = false ∧ X.mg y = none ∧ bootBuiltins y = some v ∧ y ≠ "__name__" := by
  simp only [isBlt, Bool.and_eq_true, beq_iff_eq] at h
  obtain ⟨h1, h2⟩ := o.gl h.1
  obtain ⟨h3, h4, h5⟩ := o.mo.bl y v h.2
  exact ⟨h1, h2, h3, h4, h5⟩
theorem Cok.tgt (o : Cok c k X cl W g) {y : Str} {i : Nat} (h : isTgt c y i = true) : X.N[i]? = some y ∧ Loc X.env.scope y ∧ (X.fn y = true ∨ X.env.scope.names.lookup y = some .local) := by
  simp only [isTgt, Bool.and_eq_true, Bool.or_eq_true, beq_iff_eq] at h
  obtain ⟨h1, h2⟩ := h
  refine ⟨by rw [o.N]; exact h1, ?_, ?_⟩
  · unfold L2.Loc
    rw [o.sc]
    rcases h2 with h2 | h2
    · exact .inl h2
    · exact .inr h2.2
  · rcases h2 with h2 | h2
    · exact .inr (by rw [o.sc]; exact h2)
    · exact .inl ((o.tp h2.1).1 y)
theorem Cok.tg (o : Cok c k X cl W g) {e : Expr} {tg : Tg} (h : chkTg c e tg = true) : VG X cl W e tg := by
  cases tg with
  | one i =>
    cases e <;> simp [chkTg] at h
    obtain ⟨h1, h2, h3⟩ := o.tgt h
    exact vg_one o.nd h1 h2 h3
  | many is =>
    cases e <;> simp [chkTg] at h
    rename_i es kt p
    obtain ⟨hc, h⟩ := h
    have all : ∀ {es : List Expr} {is : List Nat}, chk2 (fun e i => match e with | .Name y _ => isTgt c y i | _ => false) es is = true → (∀ p ∈ es.zip is, PG X p.1 (gName p.2)) ∧ es.length = is.length ∧ ∀ e ∈ es, noStar e = true := by
      intro es
      induction es with
      | nil => intro is h; cases is with
        | nil => exact ⟨by simp, rfl, by simp⟩
        | cons => simp [chk2] at h
      | cons e es ih =>
        intro is h
        cases is with
        | nil => simp [chk2] at h
        | cons i is =>
          simp only [chk2, Bool.and_eq_true] at h
          obtain ⟨h1, h2⟩ := h
          obtain ⟨a1, a2, a3⟩ := ih h2
          cases e <;> simp at h1
          obtain ⟨g1, g2, g3⟩ := o.tgt h1
          refine ⟨fun p hp => ?_, by simp [a2], fun e he => ?_⟩
          · rw [List.zip_cons_cons] at hp
            rcases List.mem_cons.mp hp with rfl | hp
            · exact pg_name (i := i) o.nd g1 g2 g3
            · exact a1 p hp
          · rcases List.mem_cons.mp he with rfl | he
            · rfl
            · exact a3 e he
    obtain ⟨a1, a2, a3⟩ := all h
    exact vg_many (o.calm hc) a1 a2 a3
theorem plainIx_of {e : Expr} (h : notSlice e = true) : PlainIx e := by
  intro o i
  cases e <;> first | rfl | (simp [notSlice] at h)
theorem base_of {e : Expr} {f : Str} {env : PySem.Env} (h : plainB e = true) : attributeBase e f env (eval e env) = eval e env := by
  unfold attributeBase
  cases e <;> try rfl
  rename_i fn args kws p
  cases fn <;> try rfl
  cases args <;> try rfl
  cases kws <;> try rfl
  simp [plainB] at h
theorem folded_of {e : Expr} {env : PySem.Env} (h : notSet e = true) : ∀ x, foldedSetIterable e env x = pure x := by
  intro x
  unfold foldedSetIterable
  cases e <;> first | rfl | (simp [notSet] at h)
theorem head_of {e : Expr} {env : PySem.Env} (h : plainHead e = true) : ∀ whole, isTrue e env whole = (do let v ← whole; standAt e.pos; holding [v] (truthy v)) := by
  intro w
  cases e <;> first | rfl | (simp [plainHead] at h; done) | skip
  rename_i op x p
  cases op <;> first | rfl | (simp [plainHead] at h)
/-- a class's name -/
theorem Cok.cls (o : Cok c k X cl W g) {e : Expr} {q : Nat ⊕ String} (h : chkCl c e q = true) : ∃ v u, PE X e (tC v) ∧ ClsR c.m X.K X.mg cl q v u := by
  cases e <;> cases q <;> simp [chkCl] at h
  · obtain ⟨h1, h2⟩ := h
    obtain ⟨g1, g2⟩ := o.gl h1
    obtain ⟨C, hC, hm⟩ := o.mo.cn _ _ h2
    exact ⟨.ref C, .ref C, pe_glob g1 hm rfl g2, C, hC, rfl, rfl⟩
  · obtain ⟨⟨h1, h2⟩, h3⟩ := h
    obtain ⟨g1, g2⟩ := o.gl h1
    obtain ⟨m1, m2, m3⟩ := o.mo.bl _ _ h2
    exact ⟨.ty _, .type _, pe_bltn g1 m1 m2 rfl m3 g2, h3, rfl, rfl⟩
theorem Cok.clss (o : Cok c k X cl W g) : ∀ {es : List Expr} {qs : List (Nat ⊕ String)}, es.all noStar = true → chk2 (chkCl c) es qs = true → ∃ vs us, PCs X es vs ∧ vs.length = us.length ∧ vs.length = es.length ∧ Paired (fun k (p : L2.V × Value) => ClsR c.m X.K X.mg cl k p.1 p.2) qs (vs.zip us)
  | [], [], _, _ => ⟨[], [], pcs_nil, rfl, rfl, .nil⟩
  | [], _ :: _, _, h => by simp [chk2] at h
  | _ :: _, [], _, h => by simp [chk2] at h
  | e :: es, q :: qs, hs, h => by
    simp only [chk2, Bool.and_eq_true] at h
    simp only [List.all_cons, Bool.and_eq_true] at hs
    obtain ⟨v, u, h1, h2⟩ := o.cls h.1
    obtain ⟨vs, us, h3, h4, h5, h6⟩ := Cok.clss o hs.2 h.2
    exact ⟨v :: vs, u :: us, pcs_cons h1 h3 hs.1, by simp [h4], by simp [h5], .cons h2 h6⟩
theorem le_line {n : Nat} (h : n ≤ 1000) : n ≤ sizeLine := Nat.le_trans h (by decide)
/-- in a comprehension's block -/
theorem Cok.blk (o : Cok c k X cl W g) (hc : c.calm = true) (s : Shared) (H : Hp) (scope : Scope) (hk : scope.kind = .function) (C : Addr) (cs : List (Str × Addr)) (fp : List Addr) : Cok (ctxB c scope) k (X.blk s H scope (compEnvC scope cs C X.env) fp) cl Wf g where
  N := o.N
  nd := o.nd
  sc := by
    show (relabel scope X.env).names = relC c.sc scope.names
    unfold relabel relC
    apply List.map_congr_left
    intro p hp
    obtain ⟨n, q⟩ := p
    have : X.env.kindOf n = c.sc.lookup n := by show X.env.scope.names.lookup n = _; rw [o.sc]
    simp only [o.kd, this]
    simp
  kd := hk
  calm := o.calm
  tk := takes0
  hu := o.hu
  hr := o.hr
  po := PassesOwn.never
  mo := o.mo
  fn := o.fn
  gct := o.gct
  xo := o.xo
  tp := fun h => by cases h
  xw := fun _ => rfl
  su := fun i h => by cases h
end
end SV

set_option maxRecDepth 100000
set_option maxHeartbeats 8000000
/-! SvS: the checker is right: expressions, the induction -/
namespace SV
open PySem PySem.Spec PyProof.Rows
open L2 hiding It
theorem denEs_len {g : Sg} : ∀ {es : List Ex} {ρ : Env} {st : Store} {rs : List R} {st' : Store}, denEs g es ρ st = .ok rs st' → rs.length = es.length
  | [], ρ, st, rs, st', h => by simp only [denEs] at h; cases h; rfl
  | e :: es, ρ, st, rs, st', h => by
    simp only [denEs] at h
    obtain ⟨r, s1, _, h⟩ := M.bind_inv h
    obtain ⟨rs', s2, h2, h⟩ := M.bind_inv h
    cases h
    simp [denEs_len h2]
theorem denEs_append {g : Sg} : ∀ {as bs : List Ex} {ρ : Env}, denEs g (as ++ bs) ρ = argM (fun ρ => denEs g as ρ) (fun ρ => denEs g bs ρ) ρ
  | [], bs, ρ => by
    simp only [argM, denEs, List.nil_append, M.pure_bind]
    funext st
    show _ = (denEs g bs ρ st).bind fun ks => M.pure ks
    cases denEs g bs ρ st <;> rfl
  | a :: as, bs, ρ => by
    simp only [List.cons_append, denEs, argM, M.bind_assoc, M.pure_bind]
    congr 1
    funext r
    rw [denEs_append]
    simp only [argM, M.bind_assoc, M.pure_bind, List.cons_append]
theorem kw_names : ∀ {kws : List Keyword}, kws.all (fun k => k.arg.isSome) = true → ∃ ks : List Str, kws.map (·.arg) = ks.map some
  | [], _ => ⟨[], rfl⟩
  | k :: kws, h => by
    simp only [List.all_cons, Bool.and_eq_true] at h
    obtain ⟨ks, e⟩ := kw_names h.2
    obtain ⟨a, ha⟩ := Option.isSome_iff_exists.mp h.1
    exact ⟨a :: ks, by simp [ha, e]⟩
section
variable {cl : Nat → Option Addr} {g : Sg} {k : Nat}
/-- what one level of the checker says -/
structure Lv (cl : Nat → Option Addr) (g : Sg) (k n : Nat) : Prop where
  e : ∀ {c : Ctx} {X : Cx} {W : WY}, Cok c k X cl W g → ∀ {e : Expr} {x : Ex}, chkE n c e x = true → VE X cl W e (fun ρ => (den g x ρ).e)
  t : ∀ {c : Ctx} {X : Cx} {W : WY}, Cok c k X cl W g → ∀ {e : Expr} {x : Ex}, chkT n c e x = true → VT X cl W e (fun ρ => (den g x ρ).t)
  o : ∀ {c : Ctx} {X : Cx} {W : WY}, Cok c k X cl W g → ∀ {e : Option Expr} {x : Option Ex}, chkO n c e x = true → VO X cl W e (fun ρ => denO g x ρ)
  i : ∀ {c : Ctx} {X : Cx} {W : WY}, Cok c k X cl W g → ∀ {e : List Expr} {x : Option Ex}, chkIfs n c e x = true → PTs X e (tB X.K cl W (fun ρ => denC g x ρ))
  w : ∀ {c : Ctx} {X : Cx} {W : WY}, Cok c k X cl W g → ∀ {tg e : Expr} {x : It}, chkIt n c tg e x = true → VI X cl W tg e (fun ρ => denIt g x ρ)
  wc : ∀ {c : Ctx} {X : Cx} {W : WY}, Cok c k X cl W g → ∀ {tg e : Expr} {x : Ic}, chkIc n c tg e x = true → VIc X cl W tg e (fun ρ => denIc g x ρ)
theorem Lv.es {n : Nat} (L : Lv cl g k n) {c : Ctx} {X : Cx} {W : WY} (o : Cok c k X cl W g) : ∀ {es : List Expr} {xs : List Ex}, es.all noStar = true → chk2 (chkE n c) es xs = true → VA X cl W es (fun ρ => denEs g xs ρ) ∧ es.length = xs.length
  | [], [], _, _ => ⟨by simpa only [denEs] using va_nil, rfl⟩
  | [], _ :: _, _, h => by simp [chk2] at h
  | _ :: _, [], _, h => by simp [chk2] at h
  | e :: es, x :: xs, hs, h => by
    simp only [chk2, Bool.and_eq_true] at h
    simp only [List.all_cons, Bool.and_eq_true] at hs
    obtain ⟨h1, h2⟩ := Lv.es L o hs.2 h.2
    exact ⟨by simpa only [denEs] using va_cons (L.e o h.1) h1 (star_cons hs.1 _ _), by simp [h2]⟩
theorem Lv.ks {n : Nat} (L : Lv cl g k n) {c : Ctx} {X : Cx} {W : WY} (o : Cok c k X cl W g) : ∀ {es : List Keyword} {xs : List Ex}, chk2 (fun (k : Keyword) x => chkE n c k.value x) es xs = true → VK' X cl W es (fun ρ => denEs g xs ρ) ∧ es.length = xs.length
  | [], [], _ => ⟨by simpa only [denEs] using vk_nil, rfl⟩
  | [], _ :: _, h => by simp [chk2] at h
  | _ :: _, [], h => by simp [chk2] at h
  | e :: es, x :: xs, h => by
    simp only [chk2, Bool.and_eq_true] at h
    obtain ⟨h1, h2⟩ := Lv.ks L o h.2
    obtain ⟨nm, v, p⟩ := e
    exact ⟨by simpa only [denEs] using vk_cons (L.e o h.1) h1, by simp [h2]⟩
theorem const_ve {X : Cx} {W : WY} {q : Const} {j : Nat} {pos : Pos} {d : D} (h : constD q = some d) : VE X cl W (.Constant q j pos) (fun _ => M.pure (.v d)) := by
  cases q <;> simp [constD] at h <;> subst h
  · exact ve_con pe_non .non
  · exact ve_con pe_bl (.bl _)
  · exact ve_con pe_int (.int _)
  · exact ve_con pe_str (.str _)
/-- a test of three and more: the rest is a test of its own -/
theorem PT.and3 {X : Cx} {W : WY} {l r s : Expr} {rest : List Expr} {pos : Pos} {ta tb : Env → M Bool} (ha : VT X cl W l ta) (hb : VT X cl W (.BoolOp .And (r :: s :: rest) pos) tb) :
    VT X cl W (.BoolOp .And (l :: r :: s :: rest) pos) (fun ρ => (ta ρ).bind fun k => if k = true then tb ρ else M.pure false) := by
  refine (vw_and ha ⟨fun wh pins s0 σ H Q I q => ?_⟩).pt
  exact hb.run pins s0 σ H Q I q
theorem PT.or3 {X : Cx} {W : WY} {l r s : Expr} {rest : List Expr} {pos : Pos} {ta tb : Env → M Bool} (ha : VT X cl W l ta) (hb : VT X cl W (.BoolOp .Or (r :: s :: rest) pos) tb) :
    VT X cl W (.BoolOp .Or (l :: r :: s :: rest) pos) (fun ρ => (ta ρ).bind fun k => if k = true then M.pure true else tb ρ) := by
  refine (vw_or ha ⟨fun wh pins s0 σ H Q I q => ?_⟩).pt
  exact hb.run pins s0 σ H Q I q
theorem Lv.call {n : Nat} (L : Lv cl g k n) {c : Ctx} {X : Cx} {W : WY} (o : Cok c k X cl W g) {CF : (List R → M R) → List R → M R} (hcf : CfOk X.K cl CF) {e : Expr} {f : Nat} {es : List Ex} {pm : List (Nat ⊕ D)} (h : chkCallW (chkE n c) c e f es pm = true) :
    VE X cl W e (fun ρ => (denEs g es ρ).bind fun rs => (M.of (assem rs pm)).bind fun args => CF (g.S f) args) := by
  cases e <;> simp only [chkCallW, Bool.false_eq_true] at h
  rename_i fe args kws p
  cases fe <;> simp only [Bool.false_eq_true] at h
  rename_i y p1
  simp only [Bool.and_eq_true] at h
  obtain ⟨hc, hg, hst, h⟩ := h
  cases e1 : c.m.fns[f]? with
  | none => rw [e1] at h; cases h
  | some fi =>
    rw [e1] at h
    simp only [Bool.and_eq_true, beq_iff_eq, decide_eq_true_eq] at h
    obtain ⟨hn, hat, hpl, hp, ha, hk⟩ := h
    obtain ⟨pt, hpt, hp⟩ := List.any_eq_true.mp hp
    simp only [Bool.and_eq_true, beq_iff_eq] at hp
    obtain ⟨q1, q2, q3⟩ := hp
    have q3 := beqPm_eq q3
    subst q3
    obtain ⟨fd, m1, m2, F, pats⟩ := o.fn f fi e1
    have m1 := m1 hat
    subst hn
    obtain ⟨g1, g2⟩ := o.gl hg
    obtain ⟨a1, a2⟩ := L.es o hst ha
    obtain ⟨k1, k2⟩ := L.ks o hk
    have hes : es = es.take args.length ++ es.drop args.length := (List.take_append_drop _ _).symm
    have V := ve_call hcf (p := p1) (pos := p) F ((o.hr hc).mono (Nat.le_add_right _ 3)) o.tk g1 m1 m2 g2 (pats pt hpt) hpl q1.symm q2 hst a1 k1 (fun ρ st rs st' q => by rw [denEs_len q, ← a2]) (fun ρ st rs st' q => by rw [denEs_len q, ← k2])
      (fun z => by subst z; funext ρ; rw [show (es.take ([] : List Expr).length) = [] from rfl]; simp only [denEs]) (fun z => by
        subst z
        funext ρ
        have : (es.drop args.length) = [] := List.eq_nil_of_length_eq_zero k2.symm
        rw [this]; simp only [denEs])
    have ee : ∀ ρ, denEs g es ρ = argM (fun ρ => denEs g (es.take args.length) ρ) (fun ρ => denEs g (es.drop args.length) ρ) ρ := fun ρ => by
      conv => lhs; rw [hes]
      exact denEs_append
    simp only [ee]
    exact V
theorem Mok.restrict {m : Mt} {K : PySem.W.Frag} {mg : Str → Option Value} {ct : Ctab} (M0 : Mok m K mg cl ct) (cs : List Nat) : Mok m K mg cl (ctR cs ct) := by
  have hm : ∀ c nm f, (ctR cs ct).mth c nm = some f → ct.mth c nm = some f := fun c nm f h => by
    simp only [ctR] at h
    split at h
    · exact h
    · cases h
  exact ⟨M0.gc, M0.bl, M0.cn, M0.kt, M0.kc, M0.ko, M0.kb, M0.oc, M0.xc, M0.na, M0.cd, M0.ox, M0.ex, fun c C nm f fi h1 h2 h3 h4 => M0.me c C nm f fi h1 h2 (hm _ _ _ h3) h4, fun c C f fi h1 h2 h3 h4 => M0.mkr c C f fi h1 h2 (hm _ _ _ h3) h4, fun c nm f h => M0.mi c nm f (hm _ _ _ h)⟩
theorem Lv.mth {n : Nat} (L : Lv cl g k n) {c : Ctx} {X : Cx} {W : WY} (o : Cok c k X cl W g) {CF : (List R → M R) → List R → M R} (hcf : CfOk X.K cl CF) {ct : Ctab} {csB : Nat → Bool} (M0 : Mok c.m X.K X.mg cl ct) (hct : ∀ c nm f, ct.mth c nm = some f → csB c = true) {e : Expr} {ob : Ex} {nm : Str} {es : List Ex} {pm : List (Nat ⊕ D)} (h : chkMthW (chkE n c) c csB e ob nm es pm = true) :
    VE X cl W e (fun ρ => (den g ob ρ).e.bind fun x => (mthOf ct nm x).bind fun f => (denEs g es ρ).bind fun rs => (M.of (assem (x :: rs) pm)).bind fun args => CF (g.S f) args) := by
  unfold chkMthW at h
  split at h
  · rename_i l nm' ap args kws p
    simp only [Bool.and_eq_true, beq_iff_eq, decide_eq_true_eq] at h
    obtain ⟨hc, rfl, hb, hline, hst, hfew, hsm, hol, ha, hk, hall⟩ := h
    obtain ⟨a1, a2⟩ := L.es o hst ha
    obtain ⟨k1, k2⟩ := L.ks o hk
    have hes : es = es.take args.length ++ es.drop args.length := (List.take_append_drop _ _).symm
    have hex : ∃ ks : List Str, kws.map (·.arg) = ks.map some := kw_names hsm
    · obtain ⟨ks, hks⟩ := hex
      have V := ve_mth hcf (k := k) (S := g.S) (ks := ks) (n := args.length) (pos := p) (apos := ap) (pm := pm) M0 (fun c' C' f' h1 h2 h3 => by
        have hmem := M0.mi c' nm' f' h3
        have := List.all_eq_true.mp hall _ hmem
        simp only [beq_self_eq_true, Bool.not_true, Bool.false_or, hct c' nm' f' h3] at this
        cases e1 : c.m.fns[f']? with
        | none => rw [e1] at this; cases this
        | some fi =>
          rw [e1] at this
          simp only [Bool.and_eq_true, decide_eq_true_eq] at this
          obtain ⟨hpl, hp⟩ := this
          obtain ⟨pt, hpt, hp⟩ := List.any_eq_true.mp hp
          simp only [Bool.and_eq_true, beq_iff_eq] at hp
          obtain ⟨q1, q2, q3⟩ := hp
          have q3 := beqPm_eq q3
          subst q3
          obtain ⟨fd, m1, m2, F, pats⟩ := o.fn f' fi e1
          have hkk : pt.ks = ks := by
            rw [q2] at hks
            exact List.map_inj_right (fun _ _ z => Option.some.inj z) |>.mp hks
          refine ⟨_, fd, fi.ps, M0.me c' C' nm' f' fi h1 h2 h3 e1, F, ?_, hpl⟩
          rw [← q1, ← hkk]
          exact pats pt hpt) ((o.hr hc).mono (Nat.le_add_right _ 3)) o.tk (base_of hb) (by simpa using hline) hfew rfl hks hst (L.e o hol) a1 k1 (fun ρ st rs st' q => by rw [denEs_len q, ← a2]) (fun ρ st rs st' q => by rw [denEs_len q, ← k2])
        (fun z => by subst z; funext ρ; rw [show (es.take ([] : List Expr).length) = [] from rfl]; simp only [denEs]) (fun z => by
          subst z
          funext ρ
          have : (es.drop args.length) = [] := List.eq_nil_of_length_eq_zero k2.symm
          rw [this]; simp only [denEs])
      have ee : ∀ ρ, denEs g es ρ = argM (fun ρ => denEs g (es.take args.length) ρ) (fun ρ => denEs g (es.drop args.length) ρ) ρ := fun ρ => by
        conv => lhs; rw [hes]
        exact denEs_append
      simp only [ee]
      exact V
  · cases h
theorem cf_of {K : PySem.W.Frag} (t : Bool) : CfOk K cl (cfOf t) := by
  cases t
  · exact cf_call
  · exact cf_thaw
theorem chk_ok : ∀ n, Lv cl g k n
  | 0 => ⟨fun _ _ _ h => by simp [chkE] at h, fun _ _ _ h => by simp [chkT] at h, fun _ _ _ h => by simp [chkO] at h, fun _ _ _ h => by simp [chkIfs] at h, fun _ _ _ _ h => by simp [chkIt] at h, fun _ _ _ _ h => by simp [chkIc] at h⟩
  | n + 1 => by
    have L := chk_ok n
    refine ⟨fun {c X W} o {e x} h => ?_, fun {c X W} o {e x} h => ?_, fun {c X W} o {e x} h => ?_, fun {c X W} o {e x} h => ?_, fun {c X W} o {tg e x} h => ?_, fun {c X W} o {tg e x} h => ?_⟩
    · -- expressions
      cases x with
      | var i =>
        cases e <;> simp only [chkE, Bool.false_eq_true] at h
        obtain ⟨h1, h2, h3, h4⟩ := o.var h
        simp only [den]
        exact ve_var h1 h2 h3 h4
      | con d =>
        cases e <;> simp only [chkE, Bool.false_eq_true] at h
        · rename_i q j p
          cases e1 : constD q with
          | none => rw [e1] at h; cases h
          | some d' =>
            rw [e1] at h
            have := beqD_eq h
            subst this
            simpa only [den] using const_ve e1
        · rename_i y p
          simp only [Bool.and_eq_true] at h
          cases e1 : c.m.gcs.lookup y with
          | none => rw [e1] at h; cases h.2
          | some d' =>
            rw [e1] at h
            have := beqD_eq h.2
            subst this
            obtain ⟨g1, g2⟩ := o.gl h.1
            obtain ⟨u, v, m1, m2, m3⟩ := o.mo.gc y d e1
            simpa only [den] using ve_con (pe_glob g1 m1 m2 g2) m3
      | bin op a b =>
        cases e <;> simp only [chkE, Bool.false_eq_true, Bool.and_eq_true] at h
        simpa only [den] using ve_bin h.1 (L.e o h.2.1) (L.e o h.2.2)
      | neg a =>
        cases e <;> simp only [chkE, Bool.false_eq_true] at h
        rename_i op l p
        cases op <;> simp only [Bool.false_eq_true] at h
        simpa only [den] using ve_neg (L.e o h)
      | not a =>
        cases e <;> simp only [chkE, Bool.false_eq_true] at h
        rename_i op l p
        cases op <;> simp only [Bool.false_eq_true] at h
        simpa only [den] using ve_not (L.e o h)
      | cmp op a b =>
        cases e <;> simp only [chkE, Bool.false_eq_true] at h
        rename_i l ops rs p
        split at h
        · simp only [Bool.and_eq_true, Bool.not_eq_true'] at h
          rename_i l' op' r' p' he
          cases he
          simpa only [den] using ve_cmp o.hu65 h.1 h.2.1 (L.e o h.2.2.1) (L.e o h.2.2.2)
        · cases h
      | chn op p a b d =>
        cases e <;> simp only [chkE, Bool.false_eq_true] at h
        split at h
        · simp only [Bool.and_eq_true, Bool.not_eq_true'] at h
          rename_i he
          cases he
          simp only [den]
          exact ve_chn o.hu65 h.1 h.2.1 h.2.2.1 (L.e o h.2.2.2.1) (L.e o h.2.2.2.2.1) (L.e o h.2.2.2.2.2)
        · cases h
      | and a b =>
        simp only [chkE] at h
        split at h
        · simp only [Bool.and_eq_true] at h
          simpa only [den] using ve_and (L.e o h.1) (ve_one (L.e o h.2))
        · simp only [Bool.and_eq_true] at h
          simpa only [den] using ve_and (L.e o h.1) (L.e o h.2)
        · cases h
      | or a b =>
        simp only [chkE] at h
        split at h
        · simp only [Bool.and_eq_true] at h
          simpa only [den] using ve_or (L.e o h.1) (ve_one (L.e o h.2))
        · simp only [Bool.and_eq_true] at h
          simpa only [den] using ve_or (L.e o h.1) (L.e o h.2)
        · cases h
      | ite t a b =>
        cases e <;> simp only [chkE, Bool.false_eq_true, Bool.and_eq_true] at h
        simpa only [den] using ve_ite (L.t o h.1) (L.e o h.2.1) (L.e o h.2.2)
      | tup es =>
        cases e <;> simp only [chkE, Bool.false_eq_true, Bool.and_eq_true, decide_eq_true_eq] at h
        obtain ⟨h1, h2⟩ := L.es o h.2.1 h.2.2
        simpa only [den] using ve_tup h1 fun ρ st rs st' q => by rw [denEs_len q, ← h2]; exact le_line h.1
      | lst cell es =>
        cases e <;> simp only [chkE, Bool.false_eq_true, Bool.and_eq_true, decide_eq_true_eq] at h
        obtain ⟨h1, h2⟩ := L.es o h.2.1 h.2.2
        simpa only [den] using ve_lst (cell := cell) h1 fun ρ st rs st' q => by rw [denEs_len q, ← h2]; exact le_line h.1
      | ix a b =>
        cases e <;> simp only [chkE, Bool.false_eq_true, Bool.and_eq_true] at h
        simpa only [den] using ve_ix (plainIx_of h.1) (L.e o h.2.1) (L.e o h.2.2)
      | sl a lo hi =>
        cases e <;> simp only [chkE, Bool.false_eq_true] at h
        split at h
        · simp only [Bool.and_eq_true] at h
          rename_i he
          cases he
          simpa only [den] using ve_sl (L.e o h.1) (L.o o h.2.1) (L.o o h.2.2)
        · cases h
      | call f es pm =>
        simp only [chkE] at h
        simpa only [den] using L.call o cf_call h
      | callT f es pm =>
        simp only [chkE] at h
        simpa only [den] using L.call o cf_thaw h
      | blt b es =>
        simp only [chkE] at h
        split at h
        · rename_i y p1 a args p
          simp only [Bool.and_eq_true, Bool.or_eq_true, Bool.not_eq_true'] at h
          obtain ⟨h1, h2, h3, h4, h5⟩ := h
          obtain ⟨b1, b2, b3, b4, b5⟩ := o.blt h1
          obtain ⟨a1, a2⟩ := L.es o h4 h5
          simp only [den]
          exact ve_blt (fun z => by
            rcases h3 with h3 | h3
            · rw [z] at h3; cases h3
            · exact o.calm h3) b1 b3 b4 b5 b2 h4 a1
        · cases h
      | bm m' q es =>
        simp only [chkE] at h
        split at h
        · rename_i l nm ap args p
          simp only [Bool.and_eq_true, beq_iff_eq] at h
          obtain ⟨rfl, h2, h3, h4, h5, h6, h7⟩ := h
          obtain ⟨a1, a2⟩ := L.es o h4 h6
          simp only [den]
          cases m' <;> simp only [Bool.false_eq_true, beq_iff_eq] at h7
          · obtain ⟨b, rfl⟩ : ∃ b, args = [b] := by
              cases args with
              | nil => cases h7
              | cons b t => cases t with
                | nil => exact ⟨b, rfl⟩
                | cons => simp at h7
            simp only [List.all_cons, List.all_nil, Bool.and_true] at h4
            exact ve_append (base_of h2) (by simpa using h3) h4 (L.e o h5) a1
          · obtain ⟨b, b', rfl⟩ : ∃ b b', args = [b, b'] := by
              cases args with
              | nil => cases h7
              | cons b t => cases t with
                | nil => simp at h7
                | cons b' t => cases t with
                  | nil => exact ⟨b, b', rfl⟩
                  | cons => simp at h7
            simp only [List.all_cons, List.all_nil, Bool.and_true, Bool.and_eq_true] at h4
            exact ve_insert (base_of h2) (by simpa using h3) h4.1 h4.2 (L.e o h5) a1
          · have hz : args = [] := List.eq_nil_of_length_eq_zero (by simpa using h7)
            subst hz
            obtain rfl : es = [] := List.eq_nil_of_length_eq_zero a2.symm
            simp only [denEs]
            exact ve_pop (base_of h2) (by simpa using h3) (L.e o h5)
          · have hz : args = [] := List.eq_nil_of_length_eq_zero (by simpa using h7)
            subst hz
            obtain rfl : es = [] := List.eq_nil_of_length_eq_zero a2.symm
            simp only [denEs]
            exact ve_reverse (base_of h2) (by simpa using h3) (L.e o h5)
          · have hz : args = [] := List.eq_nil_of_length_eq_zero (by simpa using h7)
            subst hz
            obtain rfl : es = [] := List.eq_nil_of_length_eq_zero a2.symm
            simp only [denEs]
            exact ve_clear (base_of h2) (by simpa using h3) (L.e o h5)
        · cases h
      | isi a cs =>
        simp only [chkE] at h
        split at h
        · simp only [Bool.and_eq_true, beq_iff_eq, decide_eq_true_eq] at h
          obtain ⟨rfl, h1, h2, h3, h4, h5, h6⟩ := h
          obtain ⟨b1, b2, b3, b4, b5⟩ := o.blt h1
          obtain ⟨vs, us, c1, c2, c3, c4⟩ := o.clss h5 h6
          simp only [den]
          exact ve_isiT o.mo b1 b3 h2 (L.e o h3) c1 c4 c2 (by rw [c3]; exact le_line h4)
        · simp only [Bool.and_eq_true, beq_iff_eq] at h
          obtain ⟨rfl, h1, h2, h3, h4⟩ := h
          obtain ⟨b1, b2, b3, b4, b5⟩ := o.blt h1
          cases cs with
          | nil => simp [chk2] at h4
          | cons q cs =>
            cases cs with
            | cons => simp [chk2] at h4
            | nil =>
              simp only [chk2, Bool.and_true] at h4
              obtain ⟨v, u, c1, c2⟩ := o.cls h4
              simp only [den]
              exact ve_isi1 o.mo b1 b3 h2 rfl (L.e o h3) c1 c2
        · cases h
      | attr a f =>
        cases e <;> simp only [chkE, Bool.false_eq_true, Bool.and_eq_true, beq_iff_eq, List.contains_iff_mem] at h
        obtain ⟨rfl, h2, h3, h4⟩ := h
        simpa only [den] using ve_attr o.mo h2 (base_of h3) (L.e o h4)
      | isx i cs =>
        simp only [chkE] at h
        split at h
        · simp only [Bool.and_eq_true, beq_iff_eq, decide_eq_true_eq] at h
          obtain ⟨h0, rfl, h1, h2, h4, h5, h6⟩ := h
          obtain ⟨b1, b2, b3, b4, b5⟩ := o.blt h1
          obtain ⟨vs, us, c1, c2, c3, c4⟩ := o.clss h5 h6
          obtain ⟨v1, v2, v3, v4⟩ := o.var h2
          obtain ⟨X0, a, oe, pn, cls, d, rfl, rfl, hz, hf⟩ := o.su i h0
          simp only [den]
          exact ve_isxT hz hf o.mo b1 b3 v1 v2 v3 v4 c1 c4 c2 (by rw [c3]; exact le_line h4)
        · simp only [Bool.and_eq_true, beq_iff_eq] at h
          obtain ⟨h0, rfl, h1, h2, h4⟩ := h
          obtain ⟨b1, b2, b3, b4, b5⟩ := o.blt h1
          obtain ⟨v1, v2, v3, v4⟩ := o.var h2
          cases cs with
          | nil => simp [chk2] at h4
          | cons q cs =>
            cases cs with
            | cons => simp [chk2] at h4
            | nil =>
              simp only [chk2, Bool.and_true] at h4
              obtain ⟨v, u, c1, c2⟩ := o.cls h4
              obtain ⟨X0, a, oe, pn, cls, d, rfl, rfl, hz, hf⟩ := o.su i h0
              simp only [den]
              exact ve_isx1 hz hf o.mo b1 b3 rfl v1 v2 v3 v4 c1 c2
        · cases h
      | xat i f =>
        simp only [chkE] at h
        split at h
        · simp only [Bool.and_eq_true, beq_iff_eq, List.contains_iff_mem] at h
          obtain ⟨h0, rfl, h2, h3⟩ := h
          obtain ⟨v1, v2, v3, v4⟩ := o.var h3
          obtain ⟨X0, a, oe, pn, cls, d, rfl, rfl, hz, hf⟩ := o.su i h0
          simp only [den]
          exact ve_xat hz hf o.mo h2 v1 v2 v3 v4
        · cases h
      | new cell ci f es pm =>
        cases e <;> simp only [chkE, Bool.false_eq_true] at h
        rename_i fe args kws p
        cases fe <;> simp only [Bool.false_eq_true] at h
        rename_i y p1
        simp only [Bool.and_eq_true, beq_iff_eq, decide_eq_true_eq] at h
        obtain ⟨hc, hg, hst, hcl, h100, hmt, h⟩ := h
        cases e1 : c.m.fns[f]? with
        | none => rw [e1] at h; cases h
        | some fi =>
          rw [e1] at h
          simp only [Bool.and_eq_true, decide_eq_true_eq] at h
          obtain ⟨hpl, hp, ha, hk⟩ := h
          obtain ⟨pt, hpt, hp⟩ := List.any_eq_true.mp hp
          simp only [Bool.and_eq_true, beq_iff_eq] at hp
          obtain ⟨q1, q2, q3⟩ := hp
          have q3 := beqPm_eq q3
          subst q3
          obtain ⟨fd, m1, m2, F, pats⟩ := o.fn f fi e1
          obtain ⟨g1, g2⟩ := o.gl hg
          obtain ⟨C, hC, hm⟩ := o.mo.cn _ _ hcl
          have M0 := o.mo.mkr ci C f fi hC h100 (by rw [o.gct]; exact hmt) e1
          obtain ⟨a1, a2⟩ := L.es o hst ha
          obtain ⟨k1, k2⟩ := L.ks o hk
          have hes : es = es.take args.length ++ es.drop args.length := (List.take_append_drop _ _).symm
          have V := ve_new (p := p1) (pos := p) (n := args.length) (cell := cell) ⟨hC, h100⟩ M0 F ((o.hr hc).mono (by omega)) o.tk g1 hm g2 (by rw [← q1]; exact pats pt hpt) hpl rfl q2 hst a1 k1 (fun ρ st rs st' q => by rw [denEs_len q, ← a2]) (fun ρ st rs st' q => by rw [denEs_len q, ← k2])
            (fun z => by subst z; funext ρ; rw [show (es.take ([] : List Expr).length) = [] from rfl]; simp only [denEs]) (fun z => by
              subst z
              funext ρ
              have : (es.drop args.length) = [] := List.eq_nil_of_length_eq_zero k2.symm
              rw [this]; simp only [denEs])
          have ee : ∀ ρ, denEs g es ρ = argM (fun ρ => denEs g (es.take args.length) ρ) (fun ρ => denEs g (es.drop args.length) ρ) ρ := fun ρ => by
            conv => lhs; rw [hes]
            exact denEs_append
          simp only [den, ee]
          exact V
      | mth ob nm es pm =>
        simp only [chkE] at h
        simpa only [den] using L.mth o cf_call o.mo (fun _ _ _ _ => rfl) h
      | mthA t cs ob nm es pm =>
        simp only [chkE] at h
        simpa only [den] using L.mth o (cf_of t) (o.mo.restrict cs) (fun c' nm' f' z => by
          simp only [ctR] at z
          split at z
          · assumption
          · cases z) h
      | fz a =>
        simp only [chkE] at h
        simpa only [den] using ve_fz (L.e o h)
      | rep es q =>
        simp only [chkE] at h
        split at h
        · simp only [Bool.and_eq_true, decide_eq_true_eq] at h
          obtain ⟨h1, h2⟩ := L.es o h.2.1 h.2.2.1
          simpa only [den] using ve_rep h1 (L.e o h.2.2.2) fun ρ st rs st' q => by rw [denEs_len q, ← h2]; exact le_line h.1
        · cases h
      | rev a =>
        simp only [chkE] at h
        split at h
        · simp only [Bool.and_eq_true, beq_iff_eq] at h
          obtain ⟨rfl, h2⟩ := h
          simpa only [den] using ve_rev (L.e o h2)
        · cases h
      | lstc a =>
        simp only [chkE] at h
        split at h
        · simp only [Bool.and_eq_true, beq_iff_eq] at h
          obtain ⟨rfl, h1, h2, h3⟩ := h
          obtain ⟨b1, b2, b3, b4, b5⟩ := o.blt h1
          simpa only [den] using ve_lstc b1 b3 h2 (L.e o h3)
        · cases h
      | join a b =>
        simp only [chkE] at h
        split at h
        · simp only [Bool.and_eq_true, beq_iff_eq] at h
          obtain ⟨rfl, h2, h3, h4, h5, h6⟩ := h
          simpa only [den] using ve_join (base_of h2) (by simpa using h3) h4 (L.e o h5) (L.e o h6)
        · cases h
      | bad => simpa only [den] using ve_bad
      | dnew =>
        simp only [chkE] at h
        split at h
        · simpa only [den] using ve_dnew
        · cases h
      | dix a b =>
        simp only [chkE] at h
        split at h
        · simp only [Bool.and_eq_true] at h
          simpa only [den] using ve_dix o.hu1 (plainIx_of h.1) (L.e o h.2.1) (L.e o h.2.2)
        · cases h
      | din neg a b =>
        simp only [chkE] at h
        split at h
        · simp only [Bool.and_eq_true, Bool.not_eq_true'] at h
          obtain ⟨rfl, h1, h2, h3⟩ := h
          simpa only [den] using ve_din o.hu1 h1 (L.e o h2) (L.e o h3)
        · simp only [Bool.and_eq_true, Bool.not_eq_true'] at h
          obtain ⟨rfl, h1, h2, h3⟩ := h
          simpa only [den] using ve_dnin o.hu1 h1 (L.e o h2) (L.e o h3)
        · cases h
      | dget a b d =>
        simp only [chkE] at h
        split at h
        · simp only [Bool.and_eq_true, beq_iff_eq] at h
          obtain ⟨rfl, h2, h3, h4, h5, h6, h7⟩ := h
          split at h7
          · simpa only [den] using ve_dget1 o.hu1 (base_of h2) (by simpa using h3) h4 (L.e o h5) (L.e o h6)
          · simp only [Bool.and_eq_true] at h7
            simpa only [den] using ve_dget2 o.hu1 (base_of h2) (by simpa using h3) h4 h7.1 (L.e o h5) (L.e o h6) (L.e o h7.2)
          · cases h7
        · cases h
      | dkeys a =>
        simp only [chkE] at h
        split at h
        · simp only [Bool.and_eq_true, beq_iff_eq] at h
          obtain ⟨hc, rfl, h1, h2, h3⟩ := h
          obtain ⟨b1, b2, b3, b4, b5⟩ := o.blt h1
          simpa only [den] using ve_dkeys (o.calm hc) b1 b3 h2 (L.e o h3)
        · cases h
      | txm m a b =>
        simp only [chkE] at h
        split at h
        · simp only [Bool.and_eq_true, beq_iff_eq] at h
          obtain ⟨rfl, h2, h3, h4, h5, h6⟩ := h
          cases m
          · simpa only [den, tmName] using ve_split (base_of h2) (by simpa using h3) h4 (L.e o h5) (L.e o h6)
          · simpa only [den, tmName] using ve_partition (base_of h2) (by simpa using h3) h4 (L.e o h5) (L.e o h6)
        · cases h
      | lsm m a b =>
        simp only [chkE] at h
        split at h
        · simp only [Bool.and_eq_true, beq_iff_eq] at h
          obtain ⟨rfl, h2, h3, h4, h5, h6⟩ := h
          cases m
          · simpa only [den, lmName] using ve_index o.hu65 (base_of h2) (by simpa using h3) h4 (L.e o h5) (L.e o h6)
          · simpa only [den, lmName] using ve_count o.hu65 (base_of h2) (by simpa using h3) h4 (L.e o h5) (L.e o h6)
        · cases h
      | dc kx vx tg it cond own =>
        simp only [chkE] at h
        split at h
        · rename_i kx' vx' tg' iter ifs scope pc
          simp only [Bool.and_eq_true] at h
          obtain ⟨hc, h1, h2, h3, h4, h5, h6, h6b, h7⟩ := h
          have B0 := blkOk_by h3
          have B : BlkOk X.N X.env.scope scope (own.map fun i => (c.N.getD i "", i)) := ⟨B0.kind, B0.uniq, by rw [o.N]; exact B0.ix, by rw [o.sc]; exact B0.free, by rw [o.N]; exact B0.own⟩
          have ow : (own.map fun i => (c.N.getD i "", i)).map (·.2) = own := by simp [Function.comp_def]
          have V := ve_dc (X := X) (cl := cl) (W := W) (pos := pc) (own := own.map fun i => (c.N.getD i "", i)) (tgt := tg) (mi := fun ρ => denIt g it ρ) (mt := fun ρ => denC g cond ρ) (mk := fun ρ => (den g kx ρ).e) (mv := fun ρ => (den g vx ρ).e) (kx := kx') (vx := vx') (tg := tg') (iter := iter) (ifs := ifs) (scope := scope)
            (o.calm hc) o.nd (L.w o h4) B (fun s H C cs fp => (o.blk hc s H scope B0.kind C cs fp).tg h5) (fun s H C cs fp => L.i (o.blk hc s H scope B0.kind C cs fp) h7) (fun s H C cs fp => L.e (o.blk hc s H scope B0.kind C cs fp) h6) (fun s H C cs fp => L.e (o.blk hc s H scope B0.kind C cs fp) h6b) (folded_of h1)
            (fun j hj => by rw [ow]; have := List.all_eq_true.mp h2 j hj; simpa using this)
          rw [ow] at V
          simp only [den]
          exact V
        · cases h
      | lcC cell elt tg it cond own =>
        simp only [chkE] at h
        split at h
        · rename_i elt' tg' iter ifs scope pc
          simp only [Bool.and_eq_true] at h
          obtain ⟨hc, h1, h2, h3, h4, h5, h6, h7⟩ := h
          have B0 := blkOk_by h3
          have B : BlkOk X.N X.env.scope scope (own.map fun i => (c.N.getD i "", i)) := ⟨B0.kind, B0.uniq, by rw [o.N]; exact B0.ix, by rw [o.sc]; exact B0.free, by rw [o.N]; exact B0.own⟩
          have ow : (own.map fun i => (c.N.getD i "", i)).map (·.2) = own := by simp [Function.comp_def]
          have V := ve_lcC (X := X) (cl := cl) (W := W) (pos := pc) (cell := cell) (own := own.map fun i => (c.N.getD i "", i)) (tgt := tg) (mi := fun ρ => denIc g it ρ) (mt := fun ρ => denC g cond ρ) (me := fun ρ => (den g elt ρ).e) (elt := elt') (tg := tg') (iter := iter) (ifs := ifs) (scope := scope)
            (o.calm hc) o.nd (L.wc o h4) B (fun s H C cs fp => (o.blk hc s H scope B0.kind C cs fp).tg h5) (fun s H C cs fp => L.i (o.blk hc s H scope B0.kind C cs fp) h7) (fun s H C cs fp => L.e (o.blk hc s H scope B0.kind C cs fp) h6) (folded_of h1)
            (fun j hj => by rw [ow]; have := List.all_eq_true.mp h2 j hj; simpa using this)
          rw [ow] at V
          simp only [den]
          exact V
        · cases h
      | dcC kx vx tg it cond own =>
        simp only [chkE] at h
        split at h
        · rename_i kx' vx' tg' iter ifs scope pc
          simp only [Bool.and_eq_true] at h
          obtain ⟨hc, h1, h2, h3, h4, h5, h6, h6b, h7⟩ := h
          have B0 := blkOk_by h3
          have B : BlkOk X.N X.env.scope scope (own.map fun i => (c.N.getD i "", i)) := ⟨B0.kind, B0.uniq, by rw [o.N]; exact B0.ix, by rw [o.sc]; exact B0.free, by rw [o.N]; exact B0.own⟩
          have ow : (own.map fun i => (c.N.getD i "", i)).map (·.2) = own := by simp [Function.comp_def]
          have V := ve_dcC (X := X) (cl := cl) (W := W) (pos := pc) (own := own.map fun i => (c.N.getD i "", i)) (tgt := tg) (mi := fun ρ => denIc g it ρ) (mt := fun ρ => denC g cond ρ) (mk := fun ρ => (den g kx ρ).e) (mv := fun ρ => (den g vx ρ).e) (kx := kx') (vx := vx') (tg := tg') (iter := iter) (ifs := ifs) (scope := scope)
            (o.calm hc) o.nd (L.wc o h4) B (fun s H C cs fp => (o.blk hc s H scope B0.kind C cs fp).tg h5) (fun s H C cs fp => L.i (o.blk hc s H scope B0.kind C cs fp) h7) (fun s H C cs fp => L.e (o.blk hc s H scope B0.kind C cs fp) h6) (fun s H C cs fp => L.e (o.blk hc s H scope B0.kind C cs fp) h6b) (folded_of h1)
            (fun j hj => by rw [ow]; have := List.all_eq_true.mp h2 j hj; simpa using this)
          rw [ow] at V
          simp only [den]
          exact V
        · cases h
      | lenset a =>
        simp only [chkE] at h
        split at h
        · simp only [Bool.and_eq_true, beq_iff_eq] at h
          obtain ⟨hc, rfl, rfl, h1, h1', h2, h3⟩ := h
          obtain ⟨b1, b2, b3, b4, b5⟩ := o.blt h1
          obtain ⟨b1', b2', b3', b4', b5'⟩ := o.blt h1'
          simpa only [den] using ve_lenset (o.calm hc) o.hu64 b1 b3 b1' b3' h2 (L.e o h3)
        · cases h
      | sortset a =>
        simp only [chkE] at h
        split at h
        · simp only [Bool.and_eq_true, beq_iff_eq] at h
          obtain ⟨hc, rfl, rfl, h1, h1', h2, h3⟩ := h
          obtain ⟨b1, b2, b3, b4, b5⟩ := o.blt h1
          obtain ⟨b1', b2', b3', b4', b5'⟩ := o.blt h1'
          simpa only [den] using ve_sortset (o.calm hc) b1 b3 b1' b3' h2 (L.e o h3)
        · cases h
      | lrng a b =>
        simp only [chkE] at h
        split at h
        · simp only [Bool.and_eq_true, beq_iff_eq] at h
          obtain ⟨hc, rfl, rfl, h1, h1', h2, h2', h3, h4⟩ := h
          obtain ⟨b1, b2, b3, b4, b5⟩ := o.blt h1
          obtain ⟨b1', b2', b3', b4', b5'⟩ := o.blt h1'
          simpa only [den] using ve_lrng (o.calm hc) b1 b3 b1' b3' h2 h2' (L.e o h3) (L.e o h4)
        · cases h
      | dpairs a =>
        simp only [chkE] at h
        split at h
        · simp only [Bool.and_eq_true, beq_iff_eq] at h
          obtain ⟨hc, rfl, h1, h2, h3⟩ := h
          obtain ⟨b1, b2, b3, b4, b5⟩ := o.blt h1
          simp only [den]
          exact ve_dpairs (o.calm hc) b1 b3 h2 (L.e o h3)
        · cases h
      | lc2 cell elt tg it cond tg1 it1 cond1 own =>
        simp only [chkE] at h
        split at h
        · rename_i elt' tg' iter ifs tg1' iter1 ifs1 scope pc
          simp only [Bool.and_eq_true] at h
          obtain ⟨hc, h1, h1b, h2, h2b, h3, h4, h5, h4b, h5b, h6, h7, h7b⟩ := h
          have B0 := blkOk_by h3
          have B : BlkOk X.N X.env.scope scope (own.map fun i => (c.N.getD i "", i)) := ⟨B0.kind, B0.uniq, by rw [o.N]; exact B0.ix, by rw [o.sc]; exact B0.free, by rw [o.N]; exact B0.own⟩
          have ow : (own.map fun i => (c.N.getD i "", i)).map (·.2) = own := by simp [Function.comp_def]
          have V := ve_lc2 (X := X) (cl := cl) (W := W) (pos := pc) (cell := cell) (own := own.map fun i => (c.N.getD i "", i)) (tgt := tg) (tgt1 := tg1) (mi := fun ρ => denIt g it ρ) (mi1 := fun ρ => denIt g it1 ρ) (mt := fun ρ => denC g cond ρ) (mt1 := fun ρ => denC g cond1 ρ) (me := fun ρ => (den g elt ρ).e) (elt := elt') (tg := tg') (iter := iter) (ifs := ifs) (tg1 := tg1') (iter1 := iter1) (ifs1 := ifs1) (scope := scope)
            (o.calm hc) o.nd (L.w o h4) B (fun s H C cs fp => (o.blk hc s H scope B0.kind C cs fp).tg h5) (fun s H C cs fp => L.i (o.blk hc s H scope B0.kind C cs fp) h7) (fun s H C cs fp => L.w (o.blk hc s H scope B0.kind C cs fp) h4b) (fun s H C cs fp => (o.blk hc s H scope B0.kind C cs fp).tg h5b) (fun s H C cs fp => L.i (o.blk hc s H scope B0.kind C cs fp) h7b) (fun s H C cs fp => L.e (o.blk hc s H scope B0.kind C cs fp) h6) (folded_of h1) (fun env => folded_of (env := env) h1b)
            (fun j hj => by rw [ow]; have := List.all_eq_true.mp h2 j hj; simpa using this) (fun j hj => by rw [ow]; have := List.all_eq_true.mp h2b j hj; simpa using this)
          rw [ow] at V
          simp only [den]
          exact V
        · cases h
      | catc a b =>
        simp only [chkE] at h
        split at h
        · simp only [Bool.and_eq_true] at h
          simpa only [den] using ve_catc (L.e o h.1) (L.e o h.2)
        · cases h
      | slc a lo hi =>
        simp only [chkE] at h
        split at h
        · simp only [Bool.and_eq_true] at h
          simpa only [den] using ve_slc (L.e o h.1) (L.o o h.2.1) (L.o o h.2.2)
        · cases h
      | lc cell elt tg it cond own =>
        simp only [chkE] at h
        split at h
        · rename_i elt' tg' iter ifs scope p
          simp only [Bool.and_eq_true] at h
          obtain ⟨hc, h1, h2, h3, h4, h5, h6, h7⟩ := h
          have B0 := blkOk_by h3
          have B : BlkOk X.N X.env.scope scope (own.map fun i => (c.N.getD i "", i)) := ⟨B0.kind, B0.uniq, by rw [o.N]; exact B0.ix, by rw [o.sc]; exact B0.free, by rw [o.N]; exact B0.own⟩
          have ow : (own.map fun i => (c.N.getD i "", i)).map (·.2) = own := by simp [Function.comp_def]
          have V := ve_lc (X := X) (cl := cl) (W := W) (pos := p) (cell := cell) (own := own.map fun i => (c.N.getD i "", i)) (tgt := tg) (mi := fun ρ => denIt g it ρ) (mt := fun ρ => denC g cond ρ) (me := fun ρ => (den g elt ρ).e) (elt := elt') (tg := tg') (iter := iter) (ifs := ifs) (scope := scope)
            (o.calm hc) o.nd (L.w o h4) B (fun s H C cs fp => (o.blk hc s H scope B0.kind C cs fp).tg h5) (fun s H C cs fp => L.i (o.blk hc s H scope B0.kind C cs fp) h7) (fun s H C cs fp => L.e (o.blk hc s H scope B0.kind C cs fp) h6) (folded_of h1)
            (fun j hj => by rw [ow]; have := List.all_eq_true.mp h2 j hj; simpa using this)
          rw [ow] at V
          simp only [den]
          exact V
        · cases h
    · -- tests
      have gen : plainHead e = true → chkE n c e x = true → (∀ ρ, (den g x ρ).t = (den g x ρ).e.bind truth) → VT X cl W e (fun ρ => (den g x ρ).t) := fun h1 h2 h3 => by
        simp only [h3]
        exact vt_truth (L.e o h2) (head_of h1)
      cases x with
      | not a =>
        cases e <;> simp only [chkT, Bool.false_eq_true] at h
        rename_i op l p
        cases op <;> simp only [Bool.false_eq_true] at h
        simpa only [den] using vt_not (L.t o h)
      | and a b =>
        simp only [chkT] at h
        split at h
        · simp only [Bool.and_eq_true] at h
          simpa only [den] using (vw_and (L.t o h.1) (pw_and1 (L.t o h.2))).pt
        · simp only [Bool.and_eq_true] at h
          rename_i l r s rest p
          have V := L.t o h.2
          simp only [den]
          exact PT.and3 (L.t o h.1) V
        · cases h
      | or a b =>
        simp only [chkT] at h
        split at h
        · simp only [Bool.and_eq_true] at h
          simpa only [den] using (vw_or (L.t o h.1) (pw_or1 (L.t o h.2))).pt
        · simp only [Bool.and_eq_true] at h
          rename_i l r s rest p
          have V := L.t o h.2
          simp only [den]
          exact PT.or3 (L.t o h.1) V
        · cases h
      | ite t a b =>
        cases e <;> simp only [chkT, Bool.false_eq_true, Bool.and_eq_true] at h
        simpa only [den] using vt_ite (L.t o h.1) (L.t o h.2.1) (L.t o h.2.2)
      | cmp op a b =>
        cases e <;> simp only [chkT, Bool.false_eq_true] at h
        split at h
        · simp only [Bool.and_eq_true, Bool.not_eq_true'] at h
          rename_i he
          cases he
          simp only [den]
          exact vt_cmp o.hu65 h.1 h.2.1 (L.e o h.2.2.1) (L.e o h.2.2.2)
        · cases h
      | chn op p a b d =>
        cases e <;> simp only [chkT, Bool.false_eq_true] at h
        split at h
        · simp only [Bool.and_eq_true, Bool.not_eq_true'] at h
          rename_i he
          cases he
          simp only [den]
          exact vt_chn o.hu65 h.1 h.2.1 h.2.2.1 (L.e o h.2.2.2.1) (L.e o h.2.2.2.2.1) (L.e o h.2.2.2.2.2)
        · cases h
      | var _ => simp only [chkT, Bool.and_eq_true] at h; exact gen h.1 h.2 fun ρ => by simp only [den]
      | con _ => simp only [chkT, Bool.and_eq_true] at h; exact gen h.1 h.2 fun ρ => by simp only [den]
      | bin _ _ _ => simp only [chkT, Bool.and_eq_true] at h; exact gen h.1 h.2 fun ρ => by simp only [den]
      | neg _ => simp only [chkT, Bool.and_eq_true] at h; exact gen h.1 h.2 fun ρ => by simp only [den]
      | tup _ => simp only [chkT, Bool.and_eq_true] at h; exact gen h.1 h.2 fun ρ => by simp only [den]
      | lst _ _ => simp only [chkT, Bool.and_eq_true] at h; exact gen h.1 h.2 fun ρ => by simp only [den]
      | ix _ _ => simp only [chkT, Bool.and_eq_true] at h; exact gen h.1 h.2 fun ρ => by simp only [den]
      | sl _ _ _ => simp only [chkT, Bool.and_eq_true] at h; exact gen h.1 h.2 fun ρ => by simp only [den]
      | call _ _ _ => simp only [chkT, Bool.and_eq_true] at h; exact gen h.1 h.2 fun ρ => by simp only [den]
      | blt _ _ => simp only [chkT, Bool.and_eq_true] at h; exact gen h.1 h.2 fun ρ => by simp only [den]
      | bm _ _ _ => simp only [chkT, Bool.and_eq_true] at h; exact gen h.1 h.2 fun ρ => by simp only [den]
      | isi _ _ => simp only [chkT, Bool.and_eq_true] at h; exact gen h.1 h.2 fun ρ => by simp only [den]
      | attr _ _ => simp only [chkT, Bool.and_eq_true] at h; exact gen h.1 h.2 fun ρ => by simp only [den]
      | new _ _ _ _ _ => simp only [chkT, Bool.and_eq_true] at h; exact gen h.1 h.2 fun ρ => by simp only [den]
      | mth _ _ _ _ => simp only [chkT, Bool.and_eq_true] at h; exact gen h.1 h.2 fun ρ => by simp only [den]
      | isx _ _ => simp only [chkT, Bool.and_eq_true] at h; exact gen h.1 h.2 fun ρ => by simp only [den]
      | xat _ _ => simp only [chkT, Bool.and_eq_true] at h; exact gen h.1 h.2 fun ρ => by simp only [den]
      | lc _ _ _ _ _ _ => simp only [chkT, Bool.and_eq_true] at h; exact gen h.1 h.2 fun ρ => by simp only [den]
      | fz _ => simp only [chkT, Bool.and_eq_true] at h; exact gen h.1 h.2 fun ρ => by simp only [den]
      | rep _ _ => simp only [chkT, Bool.and_eq_true] at h; exact gen h.1 h.2 fun ρ => by simp only [den]
      | rev _ => simp only [chkT, Bool.and_eq_true] at h; exact gen h.1 h.2 fun ρ => by simp only [den]
      | lstc _ => simp only [chkT, Bool.and_eq_true] at h; exact gen h.1 h.2 fun ρ => by simp only [den]
      | join _ _ => simp only [chkT, Bool.and_eq_true] at h; exact gen h.1 h.2 fun ρ => by simp only [den]
      | catc _ _ => simp only [chkT, Bool.and_eq_true] at h; exact gen h.1 h.2 fun ρ => by simp only [den]
      | dnew => simp only [chkT, Bool.and_eq_true] at h; exact gen h.1 h.2 fun ρ => by simp only [den]
      | dix _ _ => simp only [chkT, Bool.and_eq_true] at h; exact gen h.1 h.2 fun ρ => by simp only [den]
      | dget _ _ _ => simp only [chkT, Bool.and_eq_true] at h; exact gen h.1 h.2 fun ρ => by simp only [den]
      | dkeys _ => simp only [chkT, Bool.and_eq_true] at h; exact gen h.1 h.2 fun ρ => by simp only [den]
      | txm _ _ _ => simp only [chkT, Bool.and_eq_true] at h; exact gen h.1 h.2 fun ρ => by simp only [den]
      | lsm _ _ _ => simp only [chkT, Bool.and_eq_true] at h; exact gen h.1 h.2 fun ρ => by simp only [den]
      | dc _ _ _ _ _ _ => simp only [chkT, Bool.and_eq_true] at h; exact gen h.1 h.2 fun ρ => by simp only [den]
      | lcC _ _ _ _ _ _ => simp only [chkT, Bool.and_eq_true] at h; exact gen h.1 h.2 fun ρ => by simp only [den]
      | dcC _ _ _ _ _ _ => simp only [chkT, Bool.and_eq_true] at h; exact gen h.1 h.2 fun ρ => by simp only [den]
      | lenset _ => simp only [chkT, Bool.and_eq_true] at h; exact gen h.1 h.2 fun ρ => by simp only [den]
      | sortset _ => simp only [chkT, Bool.and_eq_true] at h; exact gen h.1 h.2 fun ρ => by simp only [den]
      | lrng _ _ => simp only [chkT, Bool.and_eq_true] at h; exact gen h.1 h.2 fun ρ => by simp only [den]
      | dpairs _ => simp only [chkT, Bool.and_eq_true] at h; exact gen h.1 h.2 fun ρ => by simp only [den]
      | lc2 _ _ _ _ _ _ _ _ _ => simp only [chkT, Bool.and_eq_true] at h; exact gen h.1 h.2 fun ρ => by simp only [den]
      | bad => simp only [den]; exact vt_bad
      | din neg a b =>
        simp only [chkT] at h
        split at h
        · simp only [Bool.and_eq_true, Bool.not_eq_true'] at h
          obtain ⟨rfl, h1, h2, h3⟩ := h
          simpa only [den] using vt_din o.hu1 h1 (L.e o h2) (L.e o h3)
        · simp only [Bool.and_eq_true, Bool.not_eq_true'] at h
          obtain ⟨rfl, h1, h2, h3⟩ := h
          simpa only [den] using vt_dnin o.hu1 h1 (L.e o h2) (L.e o h3)
        · cases h
      | slc _ _ _ => simp only [chkT, Bool.and_eq_true] at h; exact gen h.1 h.2 fun ρ => by simp only [den]
      | callT _ _ _ => simp only [chkT, Bool.and_eq_true] at h; exact gen h.1 h.2 fun ρ => by simp only [den]
      | mthA _ _ _ _ _ _ => simp only [chkT, Bool.and_eq_true] at h; exact gen h.1 h.2 fun ρ => by simp only [den]
    · cases e <;> cases x <;> simp only [chkO, Bool.false_eq_true] at h
      · simpa only [denO] using vo_none
      · simpa only [denO] using vo_some (L.e o h)
    · simp only [chkIfs] at h
      split at h
      · simp only [denC]
        exact ⟨fun pins s σ H Q I q => pts_nil.run pins s σ H Q I (by
          obtain ⟨w, ρ, st, s', e', q⟩ := q
          exact q true w H (Ext.refl _ _) s' rfl)⟩
      · simpa only [denC] using pts_one (L.t o h)
      · cases h
    · cases x with
      | over a =>
        simp only [chkIt] at h
        simpa only [denIt] using vi_over (L.e o h)
      | rng a =>
        simp only [chkIt] at h
        split at h
        · simp only [Bool.and_eq_true, beq_iff_eq] at h
          obtain ⟨rfl, h1, h2, h3⟩ := h
          obtain ⟨b1, b2, b3, b4, b5⟩ := o.blt h1
          simpa only [denIt] using vi_rng b1 b3 h2 (L.e o h3)
        · cases h
      | rng2 a b =>
        simp only [chkIt] at h
        split at h
        · simp only [Bool.and_eq_true, beq_iff_eq] at h
          obtain ⟨rfl, h1, h2, h3, h4, h5⟩ := h
          obtain ⟨b1, b2, b3, b4, b5⟩ := o.blt h1
          simpa only [denIt] using vi_rng2 b1 b3 h2 h3 (L.e o h4) (L.e o h5)
        · cases h
      | enm a =>
        simp only [chkIt] at h
        split at h
        · simp only [Bool.and_eq_true, beq_iff_eq] at h
          obtain ⟨rfl, h1, h2, h3⟩ := h
          obtain ⟨b1, b2, b3, b4, b5⟩ := o.blt h1
          simpa only [denIt] using vi_enm b1 b3 h2 (L.e o h3)
        · cases h
      | zip a b =>
        simp only [chkIt] at h
        split at h
        · simp only [Bool.and_eq_true, beq_iff_eq] at h
          obtain ⟨rfl, h1, h2, h3, h4, h5⟩ := h
          obtain ⟨b1, b2, b3, b4, b5⟩ := o.blt h1
          simpa only [denIt] using vi_zip b1 b3 h2 h3 (L.e o h4) (L.e o h5)
        · cases h
    · cases x with
      | over a =>
        simp only [chkIc] at h
        simpa only [denIc] using vi_overC (L.e o h)
      | enm a =>
        simp only [chkIc] at h
        split at h
        · simp only [Bool.and_eq_true, beq_iff_eq] at h
          obtain ⟨rfl, h1, h2, h3⟩ := h
          obtain ⟨b1, b2, b3, b4, b5⟩ := o.blt h1
          simpa only [denIc] using vi_enmC b1 b3 h2 (L.e o h3)
        · cases h
      | zip a b =>
        simp only [chkIc] at h
        split at h
        · simp only [Bool.and_eq_true, beq_iff_eq] at h
          obtain ⟨rfl, h1, h2, h3, h4, h5⟩ := h
          obtain ⟨b1, b2, b3, b4, b5⟩ := o.blt h1
          simpa only [denIc] using vi_zipC b1 b3 h2 h3 (L.e o h4) (L.e o h5)
        · cases h
end
end SV

set_option maxRecDepth 100000
set_option maxHeartbeats 8000000
/-! SvT: the checker, statements -/
namespace SV
open PySem PySem.Spec PyProof.Rows
open L2 hiding It
def isLoc (c : Ctx) (y : Str) : Bool := c.sc.lookup y == some .local
def swB (c : Ctx) (y : Str) (p : Pos) : Expr → Bool
  | .ListComp _ _ scope pos => isLoc c y && p.line == pos.line && !(scope.names.any fun (n, k) => n == y && (k == .local || k == .cell))
  | _ => false
def notComp : Expr → Bool
  | .ListComp _ _ _ _ => false
  | .SetComp _ _ _ _ => false
  | .DictComp _ _ _ _ _ => false
  | _ => true
def noSD : Expr → Bool
  | .SetComp _ _ _ _ => false
  | .DictComp _ _ _ _ _ => false
  | _ => true
def notTup : Expr → Bool
  | .Tuple _ _ _ => false
  | _ => true
/-- a, b, .. = x, y, ..: built as a tuple, then parted -/
def noSwap (c : Ctx) (ts : List Expr) : Expr → Bool
  | .Tuple vs _ _ => (!(ts.length == 2) && !(ts.length == 3)) || (vs.all noStar && ts.any (fun | .Name y _ => !(isLoc c y) | _ => false))
  | _ => true
mutual
def chkS : Nat → Ctx → Stmt → Sm → Bool
  | 0, _, _, _ => false
  | n + 1, c, s, x => match x with
    | .asg i a => (match s with
      | .Assign [.Name y p] e pos => isTgt c y i && (noSD e && (if swB c y p e then (match e, a with
          | .ListComp elt' [⟨tg', iter, ifs, 0⟩] scope _, .lc cell elt tg it cond own => c.calm && (notSet iter && (tg.slots.all own.contains && (blkN c own scope && (chkIt n c tg' iter it && (chkTg (ctxB c scope) tg' tg && (chkE n (ctxB c scope) elt' elt && chkIfs n (ctxB c scope) ifs cond))))))
          | .ListComp elt' [⟨tg', iter, ifs, 0⟩, ⟨tg1', iter1, ifs1, 0⟩] scope _, .lc2 cell elt tg it cond tg1 it1 cond1 own => c.calm && (notSet iter && (notSet iter1 && (tg.slots.all own.contains && (tg1.slots.all own.contains && (blkN c own scope && (chkIt n c tg' iter it && (chkTg (ctxB c scope) tg' tg && (chkIt n (ctxB c scope) tg1' iter1 it1 && (chkTg (ctxB c scope) tg1' tg1 && (chkE n (ctxB c scope) elt' elt && (chkIfs n (ctxB c scope) ifs cond && chkIfs n (ctxB c scope) ifs1 cond1)))))))))))
          | .ListComp elt' [⟨tg', iter, ifs, 0⟩] scope _, .lcC cell elt tg it cond own => c.calm && (notSet iter && (tg.slots.all own.contains && (blkN c own scope && (chkIc n c tg' iter it && (chkTg (ctxB c scope) tg' tg && (chkE n (ctxB c scope) elt' elt && chkIfs n (ctxB c scope) ifs cond))))))
          | _, .bad => true
          | _, _ => false) else chkE n c e a))
      | _ => false)
    | .unp is a => (match s with
      | .Assign [.Tuple ts kt tp] e _ => noSwap c ts e && (chkTg c (.Tuple ts kt tp) (.many is) && chkE n c e a)
      | _ => false)
    | .par i j a b => (match s with
      | .Assign [.Tuple [.Name x px, .Name y py] _ _] (.Tuple [e, f] _ _) _ => c.calm && (c.N[i]? == some x && (c.N[j]? == some y && (!(i == j) && (isLoc c x && (isLoc c y && (px.line == py.line && (!(x == y) &&
          (noStar e && (noStar f && (!([e, f].all (foldedForSure 8)) && (!([e, f].all (constantsAlone 8)) && (chkE n c e a && chkE n c f b))))))))))))
      | _ => false)
    | .par3 i j l a b d => (match s with
      | .Assign [.Tuple [.Name x px, .Name y py, .Name z pz] _ _] (.Tuple [e, f, g] _ _) _ => c.calm && (c.N[i]? == some x && (c.N[j]? == some y && (c.N[l]? == some z && (!(i == j) && (!(i == l) && (!(j == l) && (isLoc c x && (isLoc c y && (isLoc c z && (px.line == py.line && (px.line == pz.line && (!(x == y) && (!(x == z) && (!(y == z) &&
          (noStar e && (noStar f && (noStar g && (!([e, f, g].all (foldedForSure 8)) && (!([e, f, g].all (constantsAlone 8)) && (chkE n c e a && (chkE n c f b && chkE n c g d)))))))))))))))))))))
      | _ => false)
    | .ex a => (match s with | .Expr e _ => notComp e && chkE n c e a | _ => false)
    | .ite t f g => (match s with | .If e s1 s2 _ => chkT n c e t && (chkSs n c s1 f && chkSs n c s2 g) | _ => false)
    | .frr tg it body => (match s with | .For tg' iter b [] _ => c.calm && (notSet iter && (chkIt n c tg' iter it && (chkTg c tg' tg && chkSs n c b body))) | _ => false)
    | .whl t body => (match s with | .While e b [] _ => chkT n c e t && chkSs n c b body | _ => false)
    | .ret a => (match s with | .Return (some e) _ => chkE n c e a | _ => false)
    | .retN => (match s with | .Return none _ => true | _ => false)
    | .rse i es fs => (match es, fs, s with
      | [], [], .Raise (some (.Call (.Name x _) [.Constant (.str _) _ _] [] _)) none _ => c.calm && (isGl c x && (c.m.cls.lookup x == some i && (c.m.own.contains i && !(decide (i < 100)))))
      | es, fs, .Raise (some (.Call (.Name x _) (a :: args) [] _)) none _ => c.calm && (isGl c x && (c.m.cls.lookup x == some i && (!(decide (i < 100)) && (c.m.xfs.lookup i == some fs && (decide (fs.length ≤ 1000) && ((a :: args).all noStar && chk2 (chkE n c) (a :: args) es))))))
      | _, _, _ => false)
    | .tri body cs i suite => (match s with
      | .Try b [.ExceptHandler (some (.Name x _)) nm (b0 :: bs) _] [] [] _ => c.calm && (c.top && (c.exn == none && (isGl c x && ((match c.m.cls.lookup x with
          | some j => !(decide (j < 100)) && c.m.cls.all (fun p => decide (p.2 < 100) || (decide (p.2 ∈ cs) == c.m.ct.sub p.2 j))
          | none => false) && (chkSs n c b body && (match i, nm with
            | some j, some nn => c.N[j]? == some nn && (isLoc c nn && chkSs n { c with calm := false, exn := some j } (b0 :: bs) suite)
            | none, none => chkSs n { c with calm := false } (b0 :: bs) suite
            | _, _ => false))))))
      | _ => false)
    | .seti o q a => (match s with | .Assign [.Subscript l r _] e _ => notSlice r && (notComp e && (chkE n c e a && (chkE n c l o && chkE n c r q))) | _ => false)
    | .setf o f a => (match s with | .Assign [.Attribute l f' _] e _ => f' == f && (c.m.flds.contains f && (chkE n c l o && chkE n c e a)) | _ => false)
    | .bad => true
    | .frrC tg it body => (match s with | .For tg' iter b [] _ => c.calm && (notSet iter && (chkIc n c tg' iter it && (chkTg c tg' tg && chkSs n c b body))) | _ => false)
    | .dput o q a => (match s with | .Assign [.Subscript l r _] e _ => notComp e && (chkE n c e a && (chkE n c l o && chkE n c r q)) | _ => false)
    | .pass => (match s with | .Pass _ => true | _ => false)
    | .brk => (match s with | .Break _ => true | _ => false)
    | .cont => (match s with | .Continue _ => true | _ => false)
def chkSs : Nat → Ctx → List Stmt → List Sm → Bool
  | 0, _, _, _ => false
  | n + 1, c, ss, xs => match ss, xs with
    | [], [] => true
    | s :: ss, x :: xs => chkS n c s x && chkSs n c ss xs
    | _, _ => false
end
section
variable {cl : Nat → Option Addr} {g : Sg} {k : Nat} {c : Ctx} {X : Cx} {W : WY}
theorem Cok.tr (o : Cok c k X cl W g) (hx : c.exn = none) {W' : WX} {pn : List (Addr × Obj)} {xe : Value → Shared → Prop} (tk : Takes (X.tr pn xe) W') (po : PassesOwn (model X.prog X.w) X.A X.env xe) : Cok c k (X.tr pn xe) cl ⟨W', W.xi⟩ g where
  N := o.N
  nd := o.nd
  sc := o.sc
  kd := o.kd
  calm := o.calm
  tk := tk
  hu := o.hu
  hr := o.hr
  po := po
  mo := o.mo
  fn := o.fn
  gct := o.gct
  xo := o.xo
  tp := o.tp
  xw := o.xw
  su := fun i h => by rw [hx] at h; cases h
theorem Cok.suite (o : Cok c k X cl W g) {j : Nat} {a : Addr} {oe : Obj} {cls : Value} {d : Option Addr} {pn : List (Addr × Obj)} (hz : Zc cls d oe) (hf : ∃ vs, oe.data = .fields vs) : Cok { c with calm := false, exn := some j } k (X.suite a ((a, oe) :: pn)) cl (Wsu a cls d) g where
  N := o.N
  nd := o.nd
  sc := o.sc
  kd := o.kd
  calm := fun h => by cases h
  tk := takesSu
  hu := o.hu
  hr := fun h => by cases h
  po := PassesOwn.never
  mo := o.mo
  fn := o.fn
  gct := o.gct
  xo := o.xo
  tp := o.tp
  xw := fun h => by cases h
  su := fun i h => ⟨X, a, oe, pn, cls, d, rfl, rfl, hz, hf⟩
theorem Cok.suite0 (o : Cok c k X cl W g) (hx : c.exn = none) {a : Addr} {oe : Obj} {pn : List (Addr × Obj)} : Cok { c with calm := false } k (X.suite a ((a, oe) :: pn)) cl Wf g where
  N := o.N
  nd := o.nd
  sc := o.sc
  kd := o.kd
  calm := fun h => by cases h
  tk := takes0
  hu := o.hu
  hr := fun h => by cases h
  po := PassesOwn.never
  mo := o.mo
  fn := o.fn
  gct := o.gct
  xo := o.xo
  tp := o.tp
  xw := fun h => rfl
  su := fun i h => by rw [show ({ c with calm := false } : Ctx).exn = c.exn from rfl, hx] at h; cases h
theorem swaps_no {e : Expr} {t : Option Expr} {l : Nat} {env : PySem.Env} (h : notComp e = true) : swapsWith e t l env = pure false := by
  unfold swapsWith
  cases e <;> first | rfl | (simp [notComp] at h)
theorem Cok.bk (o : Cok c k X cl W g) : (X.env.blockKind == ScopeKind.function) = true := by
  unfold PySem.Env.blockKind
  rw [o.kd]; rfl
theorem Cok.kind (o : Cok c k X cl W g) (y : Str) : X.env.kindOf y = c.sc.lookup y := by
  show X.env.scope.names.lookup y = _
  rw [o.sc]
theorem Cok.swap (o : Cok c k X cl W g) {e : Expr} {y : Str} {p : Pos} {l : Nat} (h : noSD e = true) : swapsWith e (some (.Name y p)) l X.env = pure (swB c y p e) := by
  cases e <;> first | rfl | (simp [noSD] at h; done) | skip
  unfold swapsWith swB
  simp only [o.bk, o.kind, isLoc, Bool.true_and]
  rfl
theorem Cok.swapped (o : Cok c k X cl W g) {x y : Str} {px py pt pt2 : Pos} {kt k2 : Nat} {e f : Expr} (hx : isLoc c x = true) (hy : isLoc c y = true) (hl : (px.line == py.line) = true) (hn : (x == y) = false) (he : noStar e = true) (hf : noStar f = true) (h1 : ([e, f].all (foldedForSure 8)) = false) (h2 : ([e, f].all (constantsAlone 8)) = false) :
    swappedStores [.Tuple [.Name x px, .Name y py] kt pt] (.Tuple [e, f] k2 pt2) X.env = pure (some [x, y]) := by
  have hb : (X.env.blockKind != ScopeKind.function) = false := by
    have := o.bk
    rw [bne, this]; rfl
  have hs : ∀ (p : Expr → Bool), p e = false → p f = false → ¬ ([e, f].any p = true) := by intro p a b; simp [a, b]
  have hm : ∀ (p : Expr → Option Str), p (.Name x px) = some x → p (.Name y py) = some y → List.filterMap p [.Name x px, .Name y py] = [x, y] := by intro p a b; simp [a, b]
  have kx : (X.env.kindOf x == some NameKind.local) = true := by rw [o.kind]; exact hx
  have ky : (X.env.kindOf y == some NameKind.local) = true := by rw [o.kind]; exact hy
  have hl' : (py.line == px.line) = true := by rw [beq_iff_eq] at hl ⊢; exact hl.symm
  have hd : ([x, y] : List Str).eraseDups = [x, y] := by
    have : (y == x) = false := by
      cases q : (y == x) with
      | false => rfl
      | true => rw [beq_iff_eq] at q; subst q; simp at hn
    simp [List.eraseDups, List.eraseDupsBy, List.eraseDupsBy.loop, this, hn]
  unfold swappedStores
  simp only [h1, h2, hb, List.length_cons, List.length_nil]
  rw [if_neg (by decide), if_neg (hs _ (by cases e <;> first | rfl | (simp [noStar] at he)) (by cases f <;> first | rfl | (simp [noStar] at hf)))]
  rw [hm _ (by show (if (X.env.kindOf x == some NameKind.local && px.line == px.line) = true then some x else none) = some x; rw [kx]; simp) (by show (if (X.env.kindOf y == some NameKind.local && py.line == px.line) = true then some y else none) = some y; rw [ky, hl']; rfl)]
  rw [hd]
  rfl
theorem Cok.swapped3 (o : Cok c k X cl W g) {x y z : Str} {px py pz pt pt2 : Pos} {kt k2 : Nat} {e f h : Expr} (hx : isLoc c x = true) (hy : isLoc c y = true) (hz : isLoc c z = true) (hl : (px.line == py.line) = true) (hl2 : (px.line == pz.line) = true) (hn : (x == y) = false) (hn2 : (x == z) = false) (hn3 : (y == z) = false)
    (he : noStar e = true) (hf : noStar f = true) (hh : noStar h = true) (h1 : ([e, f, h].all (foldedForSure 8)) = false) (h2 : ([e, f, h].all (constantsAlone 8)) = false) :
    swappedStores [.Tuple [.Name x px, .Name y py, .Name z pz] kt pt] (.Tuple [e, f, h] k2 pt2) X.env = pure (some [x, y, z]) := by
  have hb : (X.env.blockKind != ScopeKind.function) = false := by
    have := o.bk
    rw [bne, this]; rfl
  have hs : ∀ (p : Expr → Bool), p e = false → p f = false → p h = false → ¬ ([e, f, h].any p = true) := by intro p a b c; simp [a, b, c]
  have hm : ∀ (p : Expr → Option Str), p (.Name x px) = some x → p (.Name y py) = some y → p (.Name z pz) = some z → List.filterMap p [.Name x px, .Name y py, .Name z pz] = [x, y, z] := by intro p a b c; simp [a, b, c]
  have kx : (X.env.kindOf x == some NameKind.local) = true := by rw [o.kind]; exact hx
  have ky : (X.env.kindOf y == some NameKind.local) = true := by rw [o.kind]; exact hy
  have kz : (X.env.kindOf z == some NameKind.local) = true := by rw [o.kind]; exact hz
  have hl' : (py.line == px.line) = true := by rw [beq_iff_eq] at hl ⊢; exact hl.symm
  have hl2' : (pz.line == px.line) = true := by rw [beq_iff_eq] at hl2 ⊢; exact hl2.symm
  have sy : ∀ {a b : Str}, (a == b) = false → (b == a) = false := fun {a b} h => by
    cases q : (b == a) with
    | false => rfl
    | true => rw [beq_iff_eq] at q; subst q; simp at h
  have hd : ([x, y, z] : List Str).eraseDups = [x, y, z] := by
    simp [List.eraseDups, List.eraseDupsBy, List.eraseDupsBy.loop, hn, hn2, hn3, sy hn, sy hn2, sy hn3]
  unfold swappedStores
  simp only [h1, h2, hb, List.length_cons, List.length_nil]
  rw [if_neg (by decide), if_neg (hs _ (by cases e <;> first | rfl | (simp [noStar] at he)) (by cases f <;> first | rfl | (simp [noStar] at hf)) (by cases h <;> first | rfl | (simp [noStar] at hh)))]
  rw [hm _ (by show (if (X.env.kindOf x == some NameKind.local && px.line == px.line) = true then some x else none) = some x; rw [kx]; simp) (by show (if (X.env.kindOf y == some NameKind.local && py.line == px.line) = true then some y else none) = some y; rw [ky, hl']; rfl) (by show (if (X.env.kindOf z == some NameKind.local && pz.line == px.line) = true then some z else none) = some z; rw [kz, hl2']; rfl)]
  rw [hd]
  rfl
theorem fm_short {ts : List Expr} {p : Expr → Option Str} {q : Expr → Bool} (h : ts.any q = true) (hp : ∀ e, q e = true → p e = none) : ((ts.filterMap p).length == ts.length) = false := by
  induction ts with
  | nil => simp at h
  | cons t ts ih =>
    have le : (ts.filterMap p).length ≤ ts.length := List.length_filterMap_le _ _
    simp only [List.any_cons, Bool.or_eq_true] at h
    rw [List.filterMap_cons]
    rcases h with h | h
    · rw [hp t h]
      simp
      omega
    · have := ih h
      cases p t with
      | none => simp; omega
      | some x => simpa using this
theorem Cok.unswapped (o : Cok c k X cl W g) {ts : List Expr} {kt : Nat} {tp : Pos} {e : Expr} (h : noSwap c ts e = true) : swappedStores [.Tuple ts kt tp] e X.env = pure none := by
  cases e with
  | Tuple vs k2 p2 =>
    simp only [noSwap, Bool.or_eq_true, Bool.and_eq_true, Bool.not_eq_true'] at h
    unfold swappedStores
    simp only []
    rcases h with ⟨h1, h2⟩ | ⟨h1, h2⟩
    · rw [if_pos (by rw [h1, h2]; rfl)]
    · split
      · rfl
      · rw [if_neg (by
          intro z
          rw [List.any_eq_true] at z
          obtain ⟨x, hx, hz⟩ := z
          have := List.all_eq_true.mp h1 x hx
          cases x <;> first | (simp at hz; done) | (simp [noStar] at this; done))]
        rw [if_pos (by
          rw [bne, fm_short h2 (fun e he => by
            cases e <;> simp at he
            rename_i y p
            show (if _ then _ else _) = none
            rw [if_neg (by
              rw [o.kind]
              have : isLoc c y = false := by simpa using he
              unfold isLoc at this
              rw [this]; simp)])]
          rfl)]
  | _ => rfl
theorem denS_rse {i : Nat} {ρ : Env} {st : Store} : denS g (.rse i [] []) ρ st = .exc i [] ρ st := by
  simp [denS, denEs, frzs, M.pure, Out.to]
end
end SV

set_option maxRecDepth 100000
set_option maxHeartbeats 8000000
/-! SvU: the checker is right: statements -/
namespace SV
open PySem PySem.Spec PyProof.Rows
open L2 hiding It
section
variable {cl : Nat → Option Addr} {g : Sg} {k : Nat}
structure LvS (cl : Nat → Option Addr) (g : Sg) (k n : Nat) : Prop where
  s : ∀ {c : Ctx} {X : Cx} {W : WY}, Cok c k X cl W g → ∀ {s : Stmt} {x : Sm}, chkS n c s x = true → VS X cl W s (fun ρ st => denS g x ρ st)
  l : ∀ {c : Ctx} {X : Cx} {W : WY}, Cok c k X cl W g → ∀ {s : List Stmt} {x : List Sm}, chkSs n c s x = true → VSs X cl W s (fun ρ st => denSs g x ρ st)
theorem chkS_ok : ∀ n, LvS cl g k n
  | 0 => ⟨fun _ _ _ h => by simp [chkS] at h, fun _ _ _ h => by simp [chkSs] at h⟩
  | n + 1 => by
    have L : Lv cl g k n := chk_ok n
    have S := chkS_ok n
    refine ⟨fun {c X W} o {s x} h => ?_, fun {c X W} o {s x} h => ?_⟩
    · cases x with
      | asg i a =>
        simp only [chkS] at h
        split at h
        · rename_i y p e pos
          simp only [Bool.and_eq_true] at h
          obtain ⟨h1, h2, h3⟩ := h
          obtain ⟨t1, t2, t3⟩ := o.tgt h1
          have sw := o.swap (y := y) (p := p) (l := pos.line) h2
          split at h3
          · rename_i hb
            rw [hb] at sw
            split at h3
            · rename_i elt' tg' iter ifs scope pc cell elt tg it cond own
              simp only [Bool.and_eq_true] at h3
              obtain ⟨hc, h1, h2, h3, h4, h5, h6, h7⟩ := h3
              have B0 := blkOk_by h3
              have B : BlkOk X.N X.env.scope scope (own.map fun i => (c.N.getD i "", i)) := ⟨B0.kind, B0.uniq, by rw [o.N]; exact B0.ix, by rw [o.sc]; exact B0.free, by rw [o.N]; exact B0.own⟩
              have ow : (own.map fun i => (c.N.getD i "", i)).map (·.2) = own := by simp [Function.comp_def]
              have hl : X.env.scope.names.lookup y = some .local := by
                simp only [swB, isLoc, Bool.and_eq_true, beq_iff_eq] at hb
                rw [o.sc]; exact hb.1.1
              have V := vs_asgLc (X := X) (cl := cl) (W := W) (pos := pc) (spos := pos) (py := p) (i := i) (y := y) (cell := cell) (own := own.map fun i => (c.N.getD i "", i)) (tgt := tg) (mi := fun ρ => denIt g it ρ) (mt := fun ρ => denC g cond ρ) (me := fun ρ => (den g elt ρ).e) (elt := elt') (tg := tg') (iter := iter) (ifs := ifs) (scope := scope)
                (o.calm hc) o.nd t1 hl sw (L.w o h4) B (fun s H C cs fp => (o.blk hc s H scope B0.kind C cs fp).tg h5) (fun s H C cs fp => L.i (o.blk hc s H scope B0.kind C cs fp) h7) (fun s H C cs fp => L.e (o.blk hc s H scope B0.kind C cs fp) h6) (folded_of h1)
                (fun j hj => by rw [ow]; have := List.all_eq_true.mp h2 j hj; simpa using this)
              rw [ow] at V
              simp only [denS, den]
              exact V
            · rename_i elt' tg' iter ifs tg1' iter1 ifs1 scope pc cell elt tg it cond tg1 it1 cond1 own
              simp only [Bool.and_eq_true] at h3
              obtain ⟨hc, h1, h1b, h2, h2b, h3, h4, h5, h4b, h5b, h6, h7, h7b⟩ := h3
              have B0 := blkOk_by h3
              have B : BlkOk X.N X.env.scope scope (own.map fun i => (c.N.getD i "", i)) := ⟨B0.kind, B0.uniq, by rw [o.N]; exact B0.ix, by rw [o.sc]; exact B0.free, by rw [o.N]; exact B0.own⟩
              have ow : (own.map fun i => (c.N.getD i "", i)).map (·.2) = own := by simp [Function.comp_def]
              have hl : X.env.scope.names.lookup y = some .local := by
                simp only [swB, isLoc, Bool.and_eq_true, beq_iff_eq] at hb
                rw [o.sc]; exact hb.1.1
              have V := vs_asgLc2 (X := X) (cl := cl) (W := W) (pos := pc) (spos := pos) (py := p) (i := i) (y := y) (cell := cell) (own := own.map fun i => (c.N.getD i "", i)) (tgt := tg) (tgt1 := tg1) (mi := fun ρ => denIt g it ρ) (mi1 := fun ρ => denIt g it1 ρ) (mt := fun ρ => denC g cond ρ) (mt1 := fun ρ => denC g cond1 ρ) (me := fun ρ => (den g elt ρ).e) (elt := elt') (tg := tg') (iter := iter) (ifs := ifs) (tg1 := tg1') (iter1 := iter1) (ifs1 := ifs1) (scope := scope)
                (o.calm hc) o.nd t1 hl sw (L.w o h4) B (fun s H C cs fp => (o.blk hc s H scope B0.kind C cs fp).tg h5) (fun s H C cs fp => L.i (o.blk hc s H scope B0.kind C cs fp) h7) (fun s H C cs fp => L.w (o.blk hc s H scope B0.kind C cs fp) h4b) (fun s H C cs fp => (o.blk hc s H scope B0.kind C cs fp).tg h5b) (fun s H C cs fp => L.i (o.blk hc s H scope B0.kind C cs fp) h7b) (fun s H C cs fp => L.e (o.blk hc s H scope B0.kind C cs fp) h6) (folded_of h1) (fun env => folded_of (env := env) h1b)
                (fun j hj => by rw [ow]; have := List.all_eq_true.mp h2 j hj; simpa using this) (fun j hj => by rw [ow]; have := List.all_eq_true.mp h2b j hj; simpa using this)
              rw [ow] at V
              simp only [denS, den]
              exact V
            · rename_i elt' tg' iter ifs scope pc cell elt tg it cond own
              simp only [Bool.and_eq_true] at h3
              obtain ⟨hc, h1, h2, h3, h4, h5, h6, h7⟩ := h3
              have B0 := blkOk_by h3
              have B : BlkOk X.N X.env.scope scope (own.map fun i => (c.N.getD i "", i)) := ⟨B0.kind, B0.uniq, by rw [o.N]; exact B0.ix, by rw [o.sc]; exact B0.free, by rw [o.N]; exact B0.own⟩
              have ow : (own.map fun i => (c.N.getD i "", i)).map (·.2) = own := by simp [Function.comp_def]
              have hl : X.env.scope.names.lookup y = some .local := by
                simp only [swB, isLoc, Bool.and_eq_true, beq_iff_eq] at hb
                rw [o.sc]; exact hb.1.1
              have V := vs_asgLcC (X := X) (cl := cl) (W := W) (pos := pc) (spos := pos) (py := p) (i := i) (y := y) (cell := cell) (own := own.map fun i => (c.N.getD i "", i)) (tgt := tg) (mi := fun ρ => denIc g it ρ) (mt := fun ρ => denC g cond ρ) (me := fun ρ => (den g elt ρ).e) (elt := elt') (tg := tg') (iter := iter) (ifs := ifs) (scope := scope)
                (o.calm hc) o.nd t1 hl sw (L.wc o h4) B (fun s H C cs fp => (o.blk hc s H scope B0.kind C cs fp).tg h5) (fun s H C cs fp => L.i (o.blk hc s H scope B0.kind C cs fp) h7) (fun s H C cs fp => L.e (o.blk hc s H scope B0.kind C cs fp) h6) (folded_of h1)
                (fun j hj => by rw [ow]; have := List.all_eq_true.mp h2 j hj; simpa using this)
              rw [ow] at V
              simp only [denS, den]
              exact V
            · simp only [denS, den]
              exact PS.imp vs_bad fun D σ H z => z
            · cases h3
          · rename_i hb
            rw [Bool.eq_false_iff.mpr hb] at sw
            simp only [denS]
            exact vs_asg o.nd t1 t2 t3 (L.e o h3) sw
        · cases h
      | unp is a =>
        simp only [chkS] at h
        split at h
        · rename_i ts kt tp e pos
          simp only [Bool.and_eq_true] at h
          obtain ⟨h1, h2, h3⟩ := h
          simp only [denS]
          refine vs_unp (o.tg h2) (L.e o h3) ?_ ?_ rfl
          · unfold swapsWithSole swapsWith
            cases e <;> rfl
          · exact o.unswapped h1
        · cases h
      | par i j a b =>
        simp only [chkS] at h
        split at h
        · simp only [Bool.and_eq_true, Bool.not_eq_true', beq_iff_eq] at h
          obtain ⟨hc, h1, h2, h3, h4, h5, h6, h7, h8, h9, h10, h11, h12, h13⟩ := h
          simp only [denS]
          refine vs_par (o.calm hc) o.nd (by rw [o.N]; exact h1) (by rw [o.N]; exact h2) (by simpa using h3) (by rw [o.sc]; simpa [isLoc] using h4) (by rw [o.sc]; simpa [isLoc] using h5) h8 h9 (L.e o h12) (L.e o h13) (o.swapped h4 h5 (by simpa using h6) h7 h8 h9 h10 h11)
        · cases h
      | par3 i j l a b d =>
        simp only [chkS] at h
        split at h
        · simp only [Bool.and_eq_true, Bool.not_eq_true', beq_iff_eq] at h
          obtain ⟨hc, h1, h2, h3, h4, h5, h6, h7, h8, h9, h10, h11, h12, h13, h14, h15, h16, h17, h18, h19, h20, h21, h22⟩ := h
          simp only [denS]
          refine vs_par3 (o.calm hc) o.nd (by rw [o.N]; exact h1) (by rw [o.N]; exact h2) (by rw [o.N]; exact h3) (by simpa using h4) (by simpa using h5) (by simpa using h6) (by rw [o.sc]; simpa [isLoc] using h7) (by rw [o.sc]; simpa [isLoc] using h8) (by rw [o.sc]; simpa [isLoc] using h9) h15 h16 h17 (L.e o h20) (L.e o h21) (L.e o h22) (o.swapped3 h7 h8 h9 (by simpa using h10) (by simpa using h11) h12 h13 h14 h15 h16 h17 h18 h19)
        · cases h
      | ex a =>
        simp only [chkS] at h
        split at h
        · simp only [Bool.and_eq_true] at h
          simp only [denS]
          exact vs_ex (L.e o h.2) (swaps_no h.1)
        · cases h
      | ite t f e =>
        simp only [chkS] at h
        split at h
        · simp only [Bool.and_eq_true] at h
          simp only [denS]
          exact vs_ite (L.t o h.1) (S.l o h.2.1) (S.l o h.2.2)
        · cases h
      | frr tg it body =>
        simp only [chkS] at h
        split at h
        · simp only [Bool.and_eq_true] at h
          obtain ⟨hc, h1, h2, h3, h4⟩ := h
          simp only [denS]
          exact vs_frr o.po (o.calm hc) (L.w o h2) (o.tg h3) (S.l o h4) (folded_of h1)
        · cases h
      | frrC tg it body =>
        simp only [chkS] at h
        split at h
        · simp only [Bool.and_eq_true] at h
          obtain ⟨hc, h1, h2, h3, h4⟩ := h
          simp only [denS]
          exact vs_frrC o.po (o.calm hc) (L.wc o h2) (o.tg h3) (S.l o h4) (folded_of h1)
        · cases h
      | whl t body =>
        simp only [chkS] at h
        split at h
        · simp only [Bool.and_eq_true] at h
          simp only [denS]
          exact vs_whl o.po (L.t o h.1) (S.l o h.2)
        · cases h
      | ret a =>
        simp only [chkS] at h
        split at h
        · simp only [denS]
          exact vs_ret (L.e o h)
        · cases h
      | retN =>
        simp only [chkS] at h
        split at h
        · simp only [denS]
          exact vs_retN
        · cases h
      | rse i es fs =>
        simp only [chkS] at h
        split at h
        · simp only [Bool.and_eq_true, Bool.not_eq_true', beq_iff_eq] at h
          obtain ⟨hc, h1, h2, h3, h4⟩ := h
          obtain ⟨g1, g2⟩ := o.gl h1
          obtain ⟨C, hC, hm⟩ := o.mo.cn _ _ h2
          simp only [denS_rse]
          exact vs_rse (o.calm hc) o.tk (o.mo.ox i C hC (by simpa using h3)) hC (of_decide_eq_false h4) hm g1 g2
        · simp only [Bool.and_eq_true, Bool.not_eq_true', beq_iff_eq, decide_eq_false_iff_not, decide_eq_true_eq] at h
          obtain ⟨hc, h1, h2, h3, h4, h5, h6, h7⟩ := h
          obtain ⟨g1, g2⟩ := o.gl h1
          obtain ⟨C, hC, hm⟩ := o.mo.cn _ _ h2
          obtain ⟨a1, a2⟩ := L.es o h6 h7
          simp only [denS]
          exact vs_rseF (o.calm hc) o.tk (o.xo i C fs hC h4) ((o.hr hc).mono (by omega)) hC h3 hm g1 g2 h6 a1 h5
        · cases h
      | tri body cs i suite =>
        simp only [chkS] at h
        split at h
        · rename_i b x np nm b0 bs pos' pos
          simp only [Bool.and_eq_true, beq_iff_eq] at h
          obtain ⟨hc, ht, hx, h1, h2, h3, h4⟩ := h
          obtain ⟨_, hst, hfr⟩ := o.tp ht
          obtain ⟨g1, g2⟩ := o.gl h1
          cases q : c.m.cls.lookup x with
          | none => rw [q] at h2; cases h2
          | some j0 =>
            rw [q] at h2
            simp only [Bool.and_eq_true, Bool.not_eq_true', decide_eq_false_iff_not] at h2
            obtain ⟨hj, hall⟩ := h2
            obtain ⟨C0, hC0, hm⟩ := o.mo.cn _ _ q
            have hxm : ∀ k C, cl k = some C → ¬ k < 100 → PySem.W.exmOne X.K (.ref C) (.ref C0) = some (decide (k ∈ cs)) := fun k' C hC h100 => by
              rw [o.mo.ex k' j0 C C0 hC hC0 h100 hj, o.gct]
              obtain ⟨p, hp, rfl⟩ := List.mem_map.mp (o.mo.cd k' C hC)
              have := List.all_eq_true.mp hall p hp
              simp only [Bool.or_eq_true, decide_eq_true_eq, beq_iff_eq] at this
              rcases this with z | z
              · exact absurd z h100
              · rw [z]
            have hnm : Names X x (.ref C0) := ⟨g1, g2, .inl hm⟩
            have bo := fun (W' : WX) (pn : List (Addr × Obj)) (xe : Value → Shared → Prop) (tk : Takes (X.tr pn xe) W') (po : PassesOwn (model X.prog X.w) X.A X.env xe) => S.l (o.tr hx tk po) h3
            cases i with
            | none =>
              cases nm with
              | some nn => cases h4
              | none =>
                simp only at h4
                have V := vs_try_only (pos := pos) (np := np) (pos' := pos') (mb := fun ρ st => denSs g body ρ st) (ms := fun ρ st => denSs g suite ρ st) hst hfr hnm o.tk (o.xw hx) hxm bo (fun a oe cls d pn hz hf => S.l (o.suite0 hx) h4)
                refine PS.imp V fun D σ H z => ?_
                simp only [denS] at z
                exact z
            | some j =>
              cases nm with
              | none => cases h4
              | some nn =>
                simp only [Bool.and_eq_true, beq_iff_eq] at h4
                obtain ⟨h5, h6, h7⟩ := h4
                have V := vs_try_as (pos := pos) (np := np) (pos' := pos') (i := j) (mb := fun ρ st => denSs g body ρ st) (ms := fun ρ st => denSs g suite ρ st) hst hfr o.nd (by rw [o.N]; exact h5) (by rw [o.kind]; simpa [isLoc] using h6) hnm o.tk hxm bo (fun a oe cls d pn hz hf => S.l (o.suite hz hf) h7)
                refine PS.imp V fun D σ H z => ?_
                simp only [denS] at z
                exact z
        · cases h
      | seti ob q a =>
        simp only [chkS] at h
        split at h
        · simp only [Bool.and_eq_true] at h
          obtain ⟨h1, h2, h3, h4, h5⟩ := h
          simp only [denS]
          refine vs_seti (L.e o h3) (L.e o h4) (L.e o h5) ?_ ?_
          · unfold swapsWithSole
            exact swaps_no h2
          · rename_i r _ _ _
            cases r <;> first | rfl | (simp [notSlice] at h1)
        · cases h
      | setf ob f a =>
        simp only [chkS] at h
        split at h
        · simp only [Bool.and_eq_true, beq_iff_eq, List.contains_iff_mem] at h
          obtain ⟨rfl, h2, h3, h4⟩ := h
          simp only [denS]
          refine vs_setf o.mo h2 (L.e o h3) (L.e o h4) ?_
          unfold swapsWith
          rename_i e' _
          cases e' <;> rfl
        · cases h
      | bad => simp only [denS]; exact vs_bad
      | dput ob q a =>
        simp only [chkS] at h
        split at h
        · simp only [Bool.and_eq_true] at h
          obtain ⟨h2, h3, h4, h5⟩ := h
          simp only [denS]
          exact vs_dput o.hu1 (L.e o h3) (L.e o h4) (L.e o h5) (swaps_no h2)
        · cases h
      | pass =>
        simp only [chkS] at h
        split at h
        · simp only [denS]; exact vs_pass
        · cases h
      | brk =>
        simp only [chkS] at h
        split at h
        · simp only [denS]; exact vs_brk
        · cases h
      | cont =>
        simp only [chkS] at h
        split at h
        · simp only [denS]; exact vs_cont
        · cases h
    · simp only [chkSs] at h
      split at h
      · simp only [denSs]; exact vss_nil
      · simp only [Bool.and_eq_true] at h
        simp only [denSs]
        exact vss_cons (S.s o h.1) (S.l o h.2)
      · cases h
end
end SV

set_option maxRecDepth 100000
set_option maxHeartbeats 4000000
/-! SvV: defs, by depth of calls -/
namespace SV
open PySem PySem.Spec PyProof.Rows
open L2 hiding It
/-- one def of the text: where it lies, its names, what it means -/
structure Src where
  d : He.DefD
  N : List Str
  ps : List Str
  fn : Fn
def scB (N ps : List Str) (sc : Scope) : Bool := sc.kind == .function && (!sc.isCoroutine && (!sc.isGenerator && (decide N.Nodup && (N.take ps.length == ps && (ps.all (fun x => sc.names.lookup x == some .local || sc.names.lookup x == some .cell) && sc.names.all (fun y => !(y.2 == .free)))))))
theorem scB_ok {N ps : List Str} {sc : Scope} (h : scB N ps sc = true) : FnScope N ps sc := by
  simp only [scB, Bool.and_eq_true, beq_iff_eq, Bool.not_eq_true', decide_eq_true_eq] at h
  obtain ⟨h1, h2, h3, h4, h5, h6, h7⟩ := h
  refine ⟨h1, h2, h3, h4, h5, fun x hx => ?_, fun y hy => ?_⟩
  · have := List.all_eq_true.mp h6 x hx
    simpa using this
  · have := List.all_eq_true.mp h7 y hy
    simpa using this
def ctx0 (m : Mt) (s : Src) : Ctx := ⟨m, s.N, s.d.scope.names, true, true, none⟩
def srcB (m : Mt) (s : Src) : Bool := scB s.N s.ps s.d.scope && (s.fn.n == s.N.length && chkSs 400 (ctx0 m s) s.d.body s.fn.body)
section
variable {P : Program} {w : World} {K : PySem.W.Frag} {mg : Str → Option Value} {base : Heap} {cl : Nat → Option Addr} {m : Mt}
theorem reps_start {wd : Wd} : ∀ {vs : List L2.V} {rs : List R}, RepRs K cl wd vs rs → ∀ (i : Nat) (r : R), (rs.map some)[i]? = some (some r) → ∃ v, (vs.map some)[i]? = some (some v) ∧ RepR K cl wd v r := by
  intro vs rs h i r e
  rw [List.getElem?_map] at e
  cases q : rs[i]? with
  | none => rw [q] at e; cases e
  | some r' =>
    rw [q] at e
    cases e
    obtain ⟨v, hv, rv⟩ := h.get q
    exact ⟨v, by rw [List.getElem?_map, hv]; rfl, rv⟩
/-- a def keeps what its meaning says, if its callees do -/
theorem fn_step {k : Nat} {g : Sg} {s : Src} {f : Addr} {fd : FuncData} (F : FunD K s.d.name s.d.qual s.d.params s.d.body s.d.scope (s.d.dvs K) (s.d.kws K) f fd) (hs : srcB m s = true) (mo : Mok m K mg cl g.ct) (hct : g.ct = m.ct)
    (fn : ∀ f fi, m.fns[f]? = some fi → FOk P w K mg base k cl (g.S f) fi) (xo : ∀ i C fs, cl i = some C → m.xfs.lookup i = some fs → XOk P w K mg base C fs) : FnOk P w K mg base (L2.CX P w) (k + 4) f fd s.ps (spF K cl s.ps.length (denF g s.fn)) := by
  simp only [srcB, Bool.and_eq_true, beq_iff_eq] at hs
  obtain ⟨h1, h2, h3⟩ := hs
  have S := scB_ok h1
  refine F.ok S (fun vs H Q E h => h.1) fun cdv A outer s0 H vs Q E hr hsp => ?_
  have o : Cok (ctx0 m s) k (cxOf (L2.CX P w) P w K mg base s.N s.d.qual s.d.scope f cdv A outer s0 H E) cl ⟨fun cls d _ H => E cls d H, none⟩ g :=
    { N := rfl, nd := S.nd, sc := rfl, kd := S.kind, calm := fun _ => rfl, tk := takes_of rfl rfl rfl rfl, hu := Nat.lt_of_le_of_lt (by show _ ≤ _ + 16 * _ + 200; exact Nat.add_le_add (Nat.le_add_right _ _) (by decide)) hr.un, hr := fun _ => hr, po := passes_of rfl, mo := mo, fn := fn, gct := hct, xo := xo, tp := fun _ => ⟨fun _ => rfl, rfl, rfl⟩, xw := fun _ => rfl, su := fun i h => by cases h }
  refine ⟨_, (chkS_ok 400).l o h3, ?_⟩
  obtain ⟨hl, wd, rs, st, sr, rr, h⟩ := hsp
  refine ⟨wd, rs.map some ++ List.replicate (s.fn.n - rs.length) none, st, sr, ⟨?_, fun i r q => ?_, trivial⟩, ?_⟩
  · have := rr.length
    simp [L2.start, h2, this]
  · by_cases hi : i < rs.length
    · rw [List.getElem?_append_left (by simpa using hi)] at q
      obtain ⟨v, hv, rv⟩ := reps_start rr i r q
      refine ⟨v, ?_, .inl rv⟩
      unfold L2.start
      rw [List.getElem?_append_left (by simpa [rr.length] using hi)]
      exact hv
    · rw [List.getElem?_append_right (by simpa using hi)] at q
      simp [List.getElem?_replicate] at q
  · simp only [denF] at h
    show WnS K cl _ _ wd H (denSs g s.fn.body (rs.map some ++ List.replicate (s.fn.n - rs.length) none) st)
    cases q : denSs g s.fn.body (rs.map some ++ List.replicate (s.fn.n - rs.length) none) st with
    | nx ρ st1 => rw [q] at h; exact fun σ w' H' e' s' en' => h .non w' H' e' s' (show Rep K cl w'.G _ _ from .non)
    | rt r st1 => rw [q] at h; exact h
    | bk ρ st1 => rw [q] at h; exact False.elim h
    | ct ρ st1 => rw [q] at h; exact False.elim h
    | exc c fs ρ st1 => rw [q] at h; exact fun cls d σ w' H' e' s' en' rx => h cls d w' H' e' s' rx
    | bad => rw [q] at h; exact False.elim h
/-! ### patterns of calls -/
/-- where each parameter comes from: an argument, a default -/
def pmOf (ds : List D) : List (Nat ⊕ Nat) → Option (List (Nat ⊕ D))
  | [] => some []
  | .inl i :: q => (pmOf ds q).map (.inl i :: ·)
  | .inr j :: q => match ds[j]?, pmOf ds q with
    | some d, some l => some (.inr d :: l)
    | _, _ => none
def asmI (us its : List Value) : List (Nat ⊕ Nat) → Option (List Value)
  | [] => some []
  | .inl i :: q => match us[i]?, asmI us its q with
    | some r, some l => some (r :: l)
    | _, _ => none
  | .inr j :: q => match its[j]?, asmI us its q with
    | some r, some l => some (r :: l)
    | _, _ => none
theorem asmI_of {dvs : List L2.V} {its : List Value} {ds : List D} (hv : Vals dvs its) (hd : Reps K cl (fun _ => none) dvs ds) : ∀ {q : List (Nat ⊕ Nat)} {pm : List (Nat ⊕ D)}, pmOf ds q = some pm →
    ∃ qm, Paired (PmR K cl) pm qm ∧ ∀ us zs, asmU us qm = some zs → asmI us its q = some zs
  | [], pm, e => by cases e; exact ⟨[], .nil, fun us zs h => h⟩
  | .inl i :: q, pm, e => by
    simp only [pmOf] at e
    cases e1 : pmOf ds q with
    | none => rw [e1] at e; cases e
    | some l =>
      rw [e1] at e; cases e
      obtain ⟨qm, h1, h2⟩ := asmI_of hv hd e1
      refine ⟨.inl i :: qm, .cons rfl h1, fun us zs h => ?_⟩
      simp only [asmU] at h
      cases e2 : us[i]? with
      | none => rw [e2] at h; cases h
      | some x =>
        cases e3 : asmU us qm with
        | none => rw [e2, e3] at h; cases h
        | some l =>
          rw [e2, e3] at h
          cases h
          simp only [asmI, e2, h2 us l e3]
  | .inr j :: q, pm, e => by
    simp only [pmOf] at e
    cases e0 : ds[j]? with
    | none => rw [e0] at e; cases e
    | some d =>
      cases e1 : pmOf ds q with
      | none => rw [e0, e1] at e; cases e
      | some l =>
        rw [e0, e1] at e; cases e
        obtain ⟨qm, h1, h2⟩ := asmI_of hv hd e1
        obtain ⟨v, hv1, rv⟩ := hd.get e0
        obtain ⟨u, hu, ru⟩ := hv.get hv1
        refine ⟨.inr (v, u) :: qm, .cons ⟨ru, rv⟩ h1, fun us zs h => ?_⟩
        simp only [asmU] at h
        cases e3 : asmU us qm with
        | none => rw [e3] at h; cases h
        | some l =>
          rw [e3] at h
          cases h
          simp only [asmI, hu, h2 us l e3]
section
variable {x qual : Str} {params : Arguments} {body : List Stmt} {scope : Scope} {dvs : List L2.V} {kws : List (Str × L2.V)} {f : Addr} {fd : FuncData} {ps ks : List Str} {n : Nat}
theorem pat0 (q : List (Nat ⊕ Nat)) {pm : List (Nat ⊕ D)} (F : FunD K x qual params body scope [] kws f fd) (hq : pmOf [] q = some pm)
    (h : ∀ (kV doc pm : Value) (an : Option Addr) (cdv ct : Value) (us ws : List Value), us.length = n → ws.length = ks.length → ∃ zs, asmI (us ++ ws) [] q = some zs ∧ bindArgs (PySem.W.fnOf x qual params body scope .none kV doc pm an cdv ct) ⟨us, ks.zip ws⟩ = pure (ps.zip zs)) : PatOk K cl fd ps n ks pm := by
  obtain ⟨oc, od, dV, kV, doc, pm', an, cdv, ct, osl, rfl, lk, hcd, hD, hK⟩ := F.ex
  obtain ⟨qm, h1, h2⟩ := asmI_of (K := K) (cl := cl) (dvs := []) (its := []) (ds := []) .nil .nil hq
  rcases hD with ⟨_, rfl⟩ | ⟨e, _⟩
  · refine ⟨qm, h1, fun s us ws zs _ l1 l2 e => ?_⟩
    obtain ⟨zs', e1, e2⟩ := h kV doc pm' an cdv ct us ws l1 l2
    have e3 := h2 _ _ e
    rw [e1] at e3
    cases e3
    exact BindsTo.of_eq e2
  · exact absurd rfl e
theorem pat1 (q : List (Nat ⊕ Nat)) (ds : List D) {pm : List (Nat ⊕ D)} (F : FunD K x qual params body scope dvs kws f fd) (hd : dvs ≠ []) (hds : Reps K cl (fun _ => none) dvs ds) (hq : pmOf ds q = some pm)
    (h : ∀ (T : Addr) (kV doc pm : Value) (an : Option Addr) (cdv ct : Value) (us its ws : List Value), us.length = n → its.length = dvs.length → ws.length = ks.length → ∃ zs k, asmI (us ++ ws) its q = some zs ∧ bindArgs (PySem.W.fnOf x qual params body scope (.ref T) kV doc pm an cdv ct) ⟨us, ks.zip ws⟩ = seqItems? (.ref T) >>= k ∧ k (some its.toArray) = pure (ps.zip zs)) : PatOk K cl fd ps n ks pm := by
  obtain ⟨oc, od, dV, kV, doc, pm', an, cdv, ct, osl, rfl, lk, hcd, hD, hK⟩ := F.ex
  rcases hD with ⟨e, _⟩ | ⟨_, T, o, its, mm, rfl, lT, oT, rT⟩
  · exact absurd e hd
  · obtain ⟨qm, h1, h2⟩ := asmI_of (K := K) (cl := cl) rT hds hq
    refine ⟨qm, h1, fun s us ws zs X l1 l2 e => ?_⟩
    obtain ⟨zs', k, e1, e2, e4⟩ := h T kV doc pm' an cdv ct us its ws l1 rT.length.symm l2
    have e3 := h2 _ _ e
    rw [e1] at e3
    cases e3
    refine BindsTo.of_looks fun M => ?_
    rw [e2]
    exact looks_items X lT oT (.of_pure e4)
end
section
variable {x qual : Str} {params : Arguments} {body : List Stmt} {scope : Scope} {kws : List (Str × L2.V)} {f : Addr} {fd : FuncData} {ps ks : List Str} {n : Nat}
/-- keyword-only parameters that are not told: their defaults -/
theorem patK (q : List (Nat ⊕ Nat)) (ms : List (Str × L2.V)) (ds : List D) {pm : List (Nat ⊕ D)} (F : FunD K x qual params body scope [] kws f fd) (hk : kws ≠ []) (hms : ∀ p ∈ ms, p ∈ kws) (hds : Reps K cl (fun _ => none) (ms.map (·.2)) ds) (hq : pmOf ds q = some pm)
    (h : ∀ (D : Addr) (doc pm : Value) (an : Option Addr) (cdv ct : Value) (us mv ws : List Value), us.length = n → mv.length = ms.length → ws.length = ks.length → ∃ zs, asmI (us ++ ws) mv q = some zs ∧ KwChain D ((ms.map (·.1)).zip mv) (bindArgs (PySem.W.fnOf x qual params body scope .none (.ref D) doc pm an cdv ct) ⟨us, ks.zip ws⟩) (ps.zip zs)) : PatOk K cl fd ps n ks pm := by
  obtain ⟨oc, od, dV, kV, doc, pm', an, cdv, ct, osl, rfl, lk, hcd, hD, hK⟩ := F.ex
  rcases hD with ⟨_, rfl⟩ | ⟨e, _⟩
  · rcases hK with e | ⟨D, rfl, hq'⟩
    · exact absurd e hk
    · obtain ⟨mv, hl, rk, hks⟩ := kwd_vals (ms := ms) fun q hm => hq' q (hms q hm)
      obtain ⟨qm, h1, h2⟩ := asmI_of (K := K) (cl := cl) rk hds hq
      refine ⟨qm, h1, fun s us ws zs X l1 l2 e => ?_⟩
      obtain ⟨zs', e1, e2⟩ := h D doc pm' an cdv ct us mv ws l1 hl l2
      have e3 := h2 _ _ e
      rw [e1] at e3
      cases e3
      exact BindsTo.of_looks fun M => KwChain.looks X hks e2
  · exact absurd rfl e
end
/-! ### all defs -/
/-- what is known of one def of the table -/
def SrcOk (K : PySem.W.Frag) (mg : Str → Option Value) (cl : Nat → Option Addr) (m : Mt) (s : Src) (fi : FI) : Prop :=
  srcB m s = true ∧ fi.ps = s.ps ∧ (fi.at_.2 = none → mg fi.name = some (.ref (He.fAd K fi.at_))) ∧ ∃ fd, FunD K s.d.name s.d.qual s.d.params s.d.body s.d.scope (s.d.dvs K) (s.d.kws K) (He.fAd K fi.at_) fd ∧ ∀ p ∈ fi.pats, PatOk K cl fd fi.ps p.n p.ks p.pm
theorem all_ok {T : List Fn} {tab : List Src} (hT : T = tab.map (·.fn)) (mo : Mok m K mg cl m.ct) (h : ∀ (i : Nat) fi, m.fns[i]? = some fi → ∃ s, tab[i]? = some s ∧ SrcOk K mg cl m s fi) (xo : ∀ i C fs, cl i = some C → m.xfs.lookup i = some fs → XOk P w K mg base C fs) : ∀ k, ∀ (i : Nat) fi, m.fns[i]? = some fi → FOk P w K mg base (4 * k) cl (sem T m.ct k i) fi
  | 0, i, fi, e => by
    obtain ⟨s, hs, h1, h2, h3, fd, h4, h5⟩ := h i fi e
    refine ⟨fd, h3, h4.kp, ⟨fun vs H Q E z => z.1, fun A outer s H args us vs Q E _ _ _ _ z => ?_⟩, h5⟩
    obtain ⟨_, wd, rs, st, _, _, z⟩ := z
    exact False.elim z
  | k + 1, i, fi, e => by
    obtain ⟨s, hs, h1, h2, h3, fd, h4, h5⟩ := h i fi e
    have st := fn_step (P := P) (w := w) (base := base) (g := ⟨sem T m.ct k, m.ct⟩) h4 h1 mo rfl (all_ok hT mo h xo k) xo
    refine ⟨fd, h3, h4.kp, ?_, h5⟩
    have e1 : sem T m.ct (k + 1) i = denF ⟨sem T m.ct k, m.ct⟩ s.fn := by
      funext args
      have : T[i]? = some s.fn := by rw [hT, List.getElem?_map, hs]; rfl
      simp only [sem, this]
    rw [e1, h2]
    exact st
end
end SV

set_option maxRecDepth 100000
set_option maxHeartbeats 4000000
/-! SvW: what the head tells of the module, as one Boolean; the law's end -/
namespace SV
open PySem PySem.Spec PyProof.Rows
open L2 hiding It
def clN (m : Mt) (i : Nat) : Option Str := (m.cls.find? fun p => p.2 == i).map (·.1)
def clOf (m : Mt) (K : PySem.W.Frag) (i : Nat) : Option Addr := (clN m i).map (He.ga K)
/-! ### constants -/
mutual
def dvB (K : PySem.W.Frag) : Value → D → Bool
  | .none, .non => true
  | .bool b, .bl c => b == c
  | .int i _, .int j => decide (i = j)
  | .str x _, .str y => decide (x = y)
  | .ref a, .tup ds => (match K.lookup a with
    | some ⟨.type c, _, .seq its _, _⟩ => decide (c = "tuple") && (decide (its.size ≤ sizeLine) && dvsB K its.toList ds)
    | _ => false)
  | .ref a, .lst ds => (match K.lookup a with
    | some ⟨.type c, none, .seq its _, _⟩ => decide (c = "list") && (decide (its.size ≤ sizeLine) && dvsB K its.toList ds)
    | _ => false)
  | _, _ => false
def dvsB (K : PySem.W.Frag) : List Value → List D → Bool
  | [], [] => true
  | u :: us, d :: ds => dvB K u d && dvsB K us ds
  | _, _ => false
end
section
variable {K : PySem.W.Frag} {cl : Nat → Option Addr}
mutual
theorem dvB_ok : ∀ {d : D} {u : Value}, dvB K u d = true → ∃ v, RelV v u ∧ Rep K cl (fun _ => none) v d
  | .non, u, h => by
    cases u <;> simp [dvB] at h
    exact ⟨.non, rfl, .non⟩
  | .bl b, u, h => by
    cases u <;> simp [dvB] at h
    subst h
    exact ⟨.bl _, rfl, .bl _⟩
  | .int i, u, h => by
    cases u <;> simp [dvB] at h
    subst h
    exact ⟨.int _, ⟨_, rfl⟩, .int _⟩
  | .str x, u, h => by
    cases u <;> simp [dvB] at h
    subst h
    exact ⟨.str _, ⟨_, rfl⟩, .str _⟩
  | .obj c fs, u, h => by cases u <;> simp [dvB] at h
  | .dct kvs, u, h => by cases u <;> simp [dvB] at h
  | .tup ds, u, h => by
    cases u with
    | ref a =>
      simp only [dvB] at h
      cases q : K.lookup a with
      | none => rw [q] at h; cases h
      | some o =>
        obtain ⟨oc, od, dt, osl⟩ := o
        rw [q] at h
        cases oc with
        | type c =>
          cases dt with
          | seq its n =>
            simp only [Bool.and_eq_true, decide_eq_true_eq] at h
            obtain ⟨rfl, h2, h3⟩ := h
            obtain ⟨vs, h4, h5⟩ := dvsB_ok h3
            exact ⟨.ref a, rfl, .tup (.inr ⟨_, its, n, q, rfl, rfl, h2, h4⟩) h5⟩
          | _ => cases h
        | _ => cases dt <;> cases h
    | _ => simp [dvB] at h
  | .lst ds, u, h => by
    cases u with
    | ref a =>
      simp only [dvB] at h
      cases q : K.lookup a with
      | none => rw [q] at h; cases h
      | some o =>
        obtain ⟨oc, od, dt, osl⟩ := o
        rw [q] at h
        cases oc with
        | type c =>
          cases od with
          | none =>
            cases dt with
            | seq its n =>
              simp only [Bool.and_eq_true, decide_eq_true_eq] at h
              obtain ⟨rfl, h2, h3⟩ := h
              obtain ⟨vs, h4, h5⟩ := dvsB_ok h3
              exact ⟨.ref a, rfl, .lst (.inr ⟨_, its, n, q, rfl, rfl, rfl, h2, h4⟩) h5⟩
            | _ => cases h
          | some _ => cases dt <;> cases h
        | _ => cases od <;> cases dt <;> cases h
    | _ => simp [dvB] at h
theorem dvsB_ok : ∀ {ds : List D} {us : List Value}, dvsB K us ds = true → ∃ vs, Vals vs us ∧ Reps K cl (fun _ => none) vs ds
  | [], [], _ => ⟨[], .nil, .nil⟩
  | [], _ :: _, h => by simp [dvsB] at h
  | _ :: _, [], h => by simp [dvsB] at h
  | d :: ds, u :: us, h => by
    simp only [dvsB, Bool.and_eq_true] at h
    obtain ⟨v, h1, h2⟩ := dvB_ok (d := d) (u := u) h.1
    obtain ⟨vs, h3, h4⟩ := dvsB_ok (ds := ds) (us := us) h.2
    exact ⟨v :: vs, .cons h1 h3, .cons h2 h4⟩
end
end
/-! ### the module -/
def gcB (K : PySem.W.Frag) (x : Str) (d : D) : Bool := match PySem.W.nsIn K mainGlobals x with
  | some (some u) => dvB K u d
  | _ => false
def gloB (K : PySem.W.Frag) (x : Str) : Bool := He.eqO (PySem.W.nsIn K mainGlobals x) (some (some (.ref (He.ga K x))))
def objB (K : PySem.W.Frag) (C : Addr) : Bool := PySem.W.plainGet K C Str.empty && (PySem.W.hasDictIn K C && (PySem.W.plainOver K C && (He.eqO (PySem.W.findIn K (.ref C) "__setattr__") (some (some (.builtin "object.__setattr__"))) &&
  (He.eqO (PySem.W.findIn K (.ref C) "__class__") (some (some (.builtin "object.__class__"))) && (He.eqO (PySem.W.specialIn K (.builtin "object.__class__") "__get__") (some (some (.builtin "getset_descriptor.__get__"))) &&
  (decide (PySem.W.takesIn K (.builtin "object.__class__") = some true) && decide (PySem.W.mroIn K C (.type "object") = some true)))))))
def excB (K : PySem.W.Frag) (C : Addr) : Bool := He.eqO (PySem.W.findIn K (.ref C) "__getattribute__") (some (some (.builtin "BaseException.__getattribute__"))) && (He.eqO (PySem.W.findIn K (.ref C) "__getattr__") (some none) &&
  (decide (PySem.W.subIn K (.ref C) (.type "BaseException") = some true) && (PySem.W.hasDictIn K C && (He.eqO (PySem.W.findIn K (.ref C) "__class__") (some (some (.builtin "object.__class__"))) &&
  (He.eqO (PySem.W.specialIn K (.builtin "object.__class__") "__get__") (some (some (.builtin "getset_descriptor.__get__"))) && (decide (PySem.W.takesIn K (.builtin "object.__class__") = some true) && decide (PySem.W.mroIn K C (.type "object") = some true)))))))
def ownB (K : PySem.W.Frag) (C : Addr) : Bool := PySem.W.excIn K C He.veBase "ValueError.__new__" && (PySem.W.keepIn K (.ref C) && (decide (PySem.W.subIn K (.ref C) (.type "BaseException") = some true) && decide (PySem.W.typeIn K (.ref C) = some (.type "type"))))
def clsB (m : Mt) (K : PySem.W.Frag) (p : Str × Nat) : Bool := gloB K p.1 && (tyNames.all (fun t => decide (PySem.W.kitOne K (.type t) (.ref (He.ga K p.1)) = some false)) &&
  (m.cls.all (fun q => decide (PySem.W.kitOne K (.ref (He.ga K p.1)) (.ref (He.ga K q.1)) = some (m.ct.sub p.2 q.2))) &&
  (m.tys.all (fun T => decide (PySem.W.kitOne K (.ref (He.ga K p.1)) (.type T) = some (m.ct.bas p.2 T))) &&
  ((if p.2 < 100 then objB K (He.ga K p.1) else excB K (He.ga K p.1)) &&
  (m.flds.all (fun f => He.eqO (PySem.W.findIn K (.ref (He.ga K p.1)) f) (some none)) &&
  ((!(m.own.contains p.2) || ownB K (He.ga K p.1)) &&
  m.cls.all (fun q => decide (p.2 < 100) || (decide (q.2 < 100) || decide (PySem.W.exmOne K (.ref (He.ga K p.1)) (.ref (He.ga K q.1)) = some (m.ct.sub p.2 q.2))))))))))
/-- a method -/
def mthB (m : Mt) (K : PySem.W.Frag) (q : (Nat × Str) × Nat) : Bool := match clN m q.1.1, m.fns[q.2]? with
  | some x, some fi => He.eqO (PySem.W.findIn K (.ref (He.ga K x)) q.1.2) (some (some (.ref (He.fAd K fi.at_)))) && (PySem.W.isFn K (.ref (He.fAd K fi.at_)) && (PySem.W.keepIn K (.ref (He.fAd K fi.at_)) &&
      (!(q.1.2 == ("__init__" : Str)) || (PySem.W.makesIn K (He.ga K x) && PySem.W.keepIn K (.ref (He.ga K x))))))
  | _, _ => false
/-- an error class with fields: its class, the class whose __init__ it calls, its own name for self, its fields -/
structure ISrc where
  d : He.DefD
  c : Nat
  B : Str
  self : Str
  fs : List Str
def baseB (K : PySem.W.Frag) (B : Str) : Bool := gloB K B && (PySem.W.readsIn K (He.ga K B) (.type "type") && (He.eqO (PySem.W.specialIn K (.ref (He.ga K B)) "__getattribute__") (some (some (.builtin "type.__getattribute__"))) &&
  (match PySem.W.findCls K (.ref (He.ga K B)) (.type "type") "__init__" with
    | some (.val v) => decide (v = .builtin "ValueError.__init__")
    | _ => false)))
def xfB' (m : Mt) (K : PySem.W.Frag) (s : ISrc) : Bool := match clN m s.c with
  | some x => oexB K (He.ga K x) && (He.eqO (PySem.W.findIn K (.ref (He.ga K x)) "__init__") (some (some (.ref (He.fAd K s.d.at_)))) && (decide (PySem.W.typeIn K (.ref (He.fAd K s.d.at_)) = some (.type "function")) &&
      (s.fs.all (fun f => He.eqO (PySem.W.findIn K (.ref (He.ga K x)) f) (some none)) && baseB K s.B)))
  | none => false
/-- the text of such an __init__ -/
def isrcB (s : ISrc) : Bool := chkInit s.B s.self s.fs s.d.body && (scB (s.self :: s.fs) (s.self :: s.fs) s.d.scope && (s.d.scope.names.lookup s.B == some .globalImplicit && (!(s.B == ("__debug__" : Str)) &&
  ((s.self :: s.fs).all (fun y => !(y == ("__debug__" : Str)) && !(y == ("__classdict__" : Str))) && (!s.fs.isEmpty && decide (s.fs.length < 700))))))
/-- what the head must tell of K -/
def mokB (m : Mt) (K : PySem.W.Frag) : Bool := m.gcs.all (fun p => gcB K p.1 p.2) && (m.blt.all (fun p => He.eqO (PySem.W.nsIn K mainGlobals p.1) (some none)) && (m.cls.all (clsB m K) && (m.fns.all (fun f => f.at_.2.isSome || gloB K f.name) && m.mths.all (mthB m K))))
/-- what holds of the table alone -/
def mtB (m : Mt) : Bool := m.blt.all (fun p => decide (bootBuiltins p.1 = some p.2) && !(p.1 == ("__name__" : Str))) && (m.cls.all (fun p => clN m p.2 == some p.1) && m.tys.all (fun T => tyNames.all fun t => decide (kitB t T = some (isTy t T))))
theorem lookup_memS {α : Type} {x : Str} {v : α} : ∀ {l : List (Str × α)}, l.lookup x = some v → (x, v) ∈ l
  | [], h => by simp at h
  | (y, u) :: l, h => by
    rw [List.lookup_cons] at h
    cases q : (x == y) with
    | true => rw [q] at h; cases h; rw [beq_iff_eq.mp q]; exact List.mem_cons_self
    | false => rw [q] at h; exact List.mem_cons_of_mem _ (lookup_memS h)
theorem clN_mem {m : Mt} {i : Nat} {x : Str} (h : clN m i = some x) : (x, i) ∈ m.cls := by
  unfold clN at h
  cases q : m.cls.find? (fun p => p.2 == i) with
  | none => rw [q] at h; cases h
  | some p =>
    rw [q] at h
    cases h
    have h1 := List.mem_of_find?_eq_some q
    have h2 := List.find?_some q
    have h3 : p.2 = i := by simpa using h2
    rw [← h3]; exact h1
theorem lookup_memP {α β : Type} [BEq α] [LawfulBEq α] {x : α} {v : β} : ∀ {l : List (α × β)}, l.lookup x = some v → (x, v) ∈ l
  | [], h => by simp at h
  | (y, u) :: l, h => by
    rw [List.lookup_cons] at h
    cases q : (x == y) with
    | true => rw [q] at h; cases h; rw [beq_iff_eq.mp q]; exact List.mem_cons_self
    | false => rw [q] at h; exact List.mem_cons_of_mem _ (lookup_memP h)
theorem mok_of {m : Mt} {K : PySem.W.Frag} {h : Heap} {mg : Str → Option Value} (X : K.In h) (G : h.Ns mainGlobals mg) (hk : mokB m K = true) (hm : mtB m = true) (hmt : m.ct.mth = fun c nm => m.mths.lookup (c, nm)) : Mok m K mg (clOf m K) m.ct := by
  simp only [mokB, Bool.and_eq_true] at hk
  simp only [mtB, Bool.and_eq_true] at hm
  obtain ⟨k1, k2, k3, k4, k5⟩ := hk
  obtain ⟨m1, m2, m3⟩ := hm
  have cls : ∀ i C, clOf m K i = some C → ∃ x, C = He.ga K x ∧ (x, i) ∈ m.cls := fun i C e => by
    unfold clOf at e
    cases q : clN m i with
    | none => rw [q] at e; cases e
    | some x => rw [q] at e; cases e; exact ⟨x, rfl, clN_mem q⟩
  have fact : ∀ x i, (x, i) ∈ m.cls → clsB m K (x, i) = true := fun x i hx => List.all_eq_true.mp k3 _ hx
  refine ⟨fun x d e => ?_, fun x v e => ?_, fun x i e => ?_, fun T hT t ht => ?_, fun i C e t ht => ?_, fun i j Ci Cj e1 e2 => ?_, fun i C T e hT => ?_, fun i C e hi => ?_, fun i C e hi => ?_, fun i C e f hf => ?_, fun i C e => ?_, fun i C e hi => ?_, fun i j C D e1 e2 hi hj => ?_, fun c C nm f fi e1 hc e2 e3 => ?_, fun c C f fi e1 hc e2 e3 => ?_, fun c nm f e => ?_⟩
  · have := List.all_eq_true.mp k1 _ (lookup_memS e)
    simp only [gcB] at this
    cases q : PySem.W.nsIn K mainGlobals x with
    | none => rw [q] at this; cases this
    | some o =>
      rw [q] at this
      cases o with
      | none => cases this
      | some u =>
        obtain ⟨v, h1, h2⟩ := dvB_ok this
        exact ⟨u, v, PySem.W.mg_of X G q, h1, h2⟩
  · have a := List.all_eq_true.mp k2 _ (lookup_memS e)
    have b := List.all_eq_true.mp m1 _ (lookup_memS e)
    simp only [Bool.and_eq_true, decide_eq_true_eq, Bool.not_eq_true'] at b
    refine ⟨PySem.W.mg_none_of X G (He.eqO_ok a), b.1, fun z => ?_⟩
    rw [z] at b; simp at b
  · have hx := lookup_memS e
    have b := List.all_eq_true.mp m2 _ hx
    have f := fact _ _ hx
    simp only [clsB, Bool.and_eq_true] at f
    refine ⟨He.ga K x, ?_, PySem.W.mg_of X G (He.eqO_ok f.1)⟩
    unfold clOf
    rw [show clN m i = some x from by simpa using b]; rfl
  · have := List.all_eq_true.mp (List.all_eq_true.mp m3 T hT) t ht
    simpa using this
  · obtain ⟨x, rfl, hx⟩ := cls i C e
    have f := fact _ _ hx
    simp only [clsB, Bool.and_eq_true] at f
    simpa using List.all_eq_true.mp f.2.1 t ht
  · obtain ⟨x, rfl, hx⟩ := cls i Ci e1
    obtain ⟨y, rfl, hy⟩ := cls j Cj e2
    have f := fact _ _ hx
    simp only [clsB, Bool.and_eq_true] at f
    simpa using List.all_eq_true.mp f.2.2.1 _ hy
  · obtain ⟨x, rfl, hx⟩ := cls i C e
    have f := fact _ _ hx
    simp only [clsB, Bool.and_eq_true] at f
    simpa using List.all_eq_true.mp f.2.2.2.1 T hT
  · obtain ⟨x, rfl, hx⟩ := cls i C e
    have f := fact _ _ hx
    simp only [clsB, Bool.and_eq_true] at f
    have o := f.2.2.2.2.1
    rw [if_pos hi] at o
    simp only [objB, Bool.and_eq_true, decide_eq_true_eq] at o
    obtain ⟨o1, o2, o3, o4, o5, o6, o7, o8⟩ := o
    exact ⟨⟨o1, o2, o3, He.eqO_ok o4⟩, He.eqO_ok o5, He.eqO_ok o6, o7, o8⟩
  · obtain ⟨x, rfl, hx⟩ := cls i C e
    have f := fact _ _ hx
    simp only [clsB, Bool.and_eq_true] at f
    have o := f.2.2.2.2.1
    rw [if_neg hi] at o
    simp only [excB, Bool.and_eq_true, decide_eq_true_eq] at o
    obtain ⟨o1, o2, o3, o4, o5, o6, o7, o8⟩ := o
    exact ⟨He.eqO_ok o1, He.eqO_ok o2, o3, o4, He.eqO_ok o5, He.eqO_ok o6, o7, o8⟩
  · obtain ⟨x, rfl, hx⟩ := cls i C e
    have g := fact _ _ hx
    simp only [clsB, Bool.and_eq_true] at g
    exact He.eqO_ok (List.all_eq_true.mp g.2.2.2.2.2.1 f hf)
  · obtain ⟨x, rfl, hx⟩ := cls i C e
    exact List.mem_map.mpr ⟨_, hx, rfl⟩
  · obtain ⟨x, rfl, hx⟩ := cls i C e
    have f := fact _ _ hx
    simp only [clsB, Bool.and_eq_true, Bool.or_eq_true] at f
    rcases f.2.2.2.2.2.2.1 with o | o
    · have : m.own.contains i = true := by simpa using hi
      rw [this] at o; cases o
    · simp only [ownB, Bool.and_eq_true, decide_eq_true_eq] at o
      obtain ⟨o1, o2, o3, o4⟩ := o
      exact ⟨o1, o2, o3, o4⟩
  · obtain ⟨x, rfl, hx⟩ := cls i C e1
    obtain ⟨y, rfl, hy⟩ := cls j D e2
    have f := fact _ _ hx
    simp only [clsB, Bool.and_eq_true] at f
    have z := List.all_eq_true.mp f.2.2.2.2.2.2.2 _ hy
    simp only [Bool.or_eq_true, decide_eq_true_eq] at z
    rcases z with z | z | z
    · exact absurd z hi
    · exact absurd z hj
    · exact z
  · rw [hmt] at e2
    have z := List.all_eq_true.mp k5 _ (lookup_memP e2)
    unfold mthB at z
    have hC : clN m c = none ∨ ∃ x, clN m c = some x ∧ C = He.ga K x := by
      unfold clOf at e1
      cases q : clN m c with
      | none => exact .inl rfl
      | some x => rw [q] at e1; cases e1; exact .inr ⟨x, rfl, rfl⟩
    rcases hC with q | ⟨x, q, rfl⟩
    · simp only [q] at z; cases z
    · simp only [q, e3, Bool.and_eq_true] at z
      obtain ⟨z1, z2, z3, z4⟩ := z
      exact ⟨He.eqO_ok z1, z2, z3⟩
  · rw [hmt] at e2
    have z := List.all_eq_true.mp k5 _ (lookup_memP e2)
    unfold mthB at z
    have hC : clN m c = none ∨ ∃ x, clN m c = some x ∧ C = He.ga K x := by
      unfold clOf at e1
      cases q : clN m c with
      | none => exact .inl rfl
      | some x => rw [q] at e1; cases e1; exact .inr ⟨x, rfl, rfl⟩
    rcases hC with q | ⟨x, q, rfl⟩
    · simp only [q] at z; cases z
    · simp only [q, e3, Bool.and_eq_true, beq_self_eq_true, Bool.not_true, Bool.false_or] at z
      obtain ⟨z1, z2, z3, z4, z5⟩ := z
      exact ⟨z4, He.eqO_ok z1, z2, z5⟩
  · rw [hmt] at e
    exact lookup_memP e
theorem xok_of {P : Program} {w : World} {base : Heap} {m : Mt} {K : PySem.W.Frag} {h : Heap} {mg : Str → Option Value} (X : K.In h) (G : h.Ns mainGlobals mg) {s : ISrc} {x : Str} (hx : clN m s.c = some x) (hk : xfB' m K s = true) (ht : isrcB s = true)
    {fd : FuncData} (F : FunD K s.d.name s.d.qual s.d.params s.d.body s.d.scope (s.d.dvs K) (s.d.kws K) (He.fAd K s.d.at_) fd) (hb : Binds K fd (s.self :: s.fs) []) : XOk P w K mg base (He.ga K x) s.fs := by
  unfold xfB' at hk
  simp only [hx, Bool.and_eq_true, decide_eq_true_eq] at hk
  obtain ⟨k1, k2, k3, k4, k5⟩ := hk
  simp only [isrcB, Bool.and_eq_true, beq_iff_eq, Bool.not_eq_true', decide_eq_true_eq] at ht
  obtain ⟨t1, t2, t3, t4, t5, t6, t7⟩ := ht
  simp only [baseB, Bool.and_eq_true] at k5
  obtain ⟨b1, b2, b3, b4⟩ := k5
  have bi : BaseI K mg s.B := ⟨He.ga K s.B, PySem.W.mg_of X G (He.eqO_ok b1), ⟨b2, He.eqO_ok b3⟩, by
    cases q : PySem.W.findCls K (.ref (He.ga K s.B)) (.type "type") "__init__" with
    | none => rw [q] at b4; cases b4
    | some r =>
      rw [q] at b4
      cases r with
      | val v => rw [of_decide_eq_true b4]
      | get _ _ _ _ => cases b4⟩
  have hne : s.fs ≠ [] := fun z => by rw [z] at t6; cases t6
  refine ⟨_, fd, s.self, hne, oexB_ok k1, He.eqO_ok k2, k3, ?_, hb, fun f hf => He.eqO_ok (List.all_eq_true.mp k4 f hf)⟩
  have S := scB_ok t2
  have nm : ∀ y ∈ s.self :: s.fs, (y == ("__debug__" : Str)) = false ∧ (y == ("__classdict__" : Str)) = false := fun y hy => by
    have := List.all_eq_true.mp t5 y hy
    simpa using this
  cases q : s.fs with
  | nil => exact absurd q hne
  | cons g gs =>
    rw [q] at S t1 nm t7
    exact init_ok (k := 0) F S bi t1 t3 t4 nm (by simp at t7; omega)
/-! ### the Hook -/
abbrev AlV : Type := He.AlD × Bool
def allB' (m : Mt) (it : List ISrc) (K : PySem.W.Frag) : Bool := mokB m K && it.all (xfB' m K)
def obsV (n : Nat) (m : Mt) (it : List ISrc) (fn : List He.DefD) (g : Addr → Option Obj) : AlV := (He.obsD [] fn (He.frG g (cStatics :: He.asD g n)), allB' m it (He.frG g (cStatics :: He.asD g n)))
def hookV (n : Nat) (m : Mt) (it : List ISrc) (fn : List He.DefD) : PySem.W.Hook where
  α := AlV
  obs := fun s => obsV n m it fn s.heap.get?
  val := fun _ => (He.valD fn, true)
  says := fun _ h => ∃ K : PySem.W.Frag, K.In h ∧ He.SaysD [] fn K ∧ allB' m it K = true
  of := fun _ _ e => ⟨_, He.frG_in, congrArg (fun z : AlV => z.1) e, congrArg (fun z : AlV => z.2) e⟩
  keeps := fun _ _ _ ⟨K, hK, c⟩ k => ⟨K, PySem.W.Frag.In.keeps hK k, c⟩
theorem obsV_eq {n : Nat} {m : Mt} {it : List ISrc} {fn : List He.DefD} {g : Addr → Option Obj} {s : Shared} (h : ∀ a, g a = s.heap.get? a) : obsV n m it fn g = (hookV n m it fn).obs s := by
  have e : g = s.heap.get? := funext h
  rw [e] <;> rfl
/-- how each def is called, whatever K is -/
def PatsOk (m : Mt) (tab : List Src) : Prop := ∀ (i : Nat) (s : Src) (fi : FI), tab[i]? = some s → m.fns[i]? = some fi → ∀ (K : PySem.W.Frag) (cl : Nat → Option Addr) (f : Addr) (fd : FuncData), FunD K s.d.name s.d.qual s.d.params s.d.body s.d.scope (s.d.dvs K) (s.d.kws K) f fd → ∀ p ∈ fi.pats, PatOk K cl fd fi.ps p.n p.ks p.pm
def IBinds (it : List ISrc) : Prop := ∀ s ∈ it, ∀ (K : PySem.W.Frag) (f : Addr) (fd : FuncData), FunD K s.d.name s.d.qual s.d.params s.d.body s.d.scope (s.d.dvs K) (s.d.kws K) f fd → Binds K fd (s.self :: s.fs) []
/-- the table fits -/
def tabB (m : Mt) (tab : List Src) : Bool := m.fns.length == tab.length && (m.fns.zip tab).all (fun p => p.1.at_ == p.2.d.at_ && ((p.1.at_.2.isSome || p.1.name == p.2.d.at_.1) && (p.1.ps == p.2.ps && srcB m p.2)))
def itabB (m : Mt) (it : List ISrc) : Bool := it.all isrcB && (m.xfs == it.map (fun s => (s.c, s.fs)))
theorem zip_get {α β : Type} : ∀ {as : List α} {bs : List β} {i : Nat} {a : α} {b : β}, as[i]? = some a → bs[i]? = some b → (a, b) ∈ as.zip bs
  | [], _, _, _, _, h, _ => by simp at h
  | _ :: _, [], _, _, _, _, h => by simp at h
  | x :: as, y :: bs, 0, a, b, h1, h2 => by simp at h1 h2; subst h1; subst h2; simp
  | x :: as, y :: bs, i + 1, a, b, h1, h2 => by
    have := zip_get (as := as) (bs := bs) (i := i) (by simpa using h1) (by simpa using h2)
    simp [this]
theorem ints_reps {K : PySem.W.Frag} {cl : Nat → Option Addr} {G : Hp} : ∀ ns : List Int, Reps K cl G (ns.map V.int) (ns.map D.int)
  | [] => .nil
  | n :: ns => .cons (.int n) (ints_reps ns)
/-- a law by what it means -/
theorem walk_sv {l : PySem.W.OpenLaw} {n k nn li : Nat} {q : Program} {loose : List Str} {XP : (Str → Option Value) → Heap → Prop} {d : DefRec} {x : Str} {m : Mt} {tab : List Src} {it : List ISrc} {fl : FI}
    (hn : l.most = some n) (hn2 : n ≤ sizeLine) (hdf : d.params.defaults = []) (hr : Room (4 * k + 4) callerA) (hm : mtB m = true) (hmt : m.ct.mth = fun c nm => m.mths.lookup (c, nm)) (ht : tabB m tab = true) (hit : itabB m it = true) (hp : PatsOk m tab) (hib : IBinds it) (hl : m.fns[li]? = some fl) (hat : fl.at_ = (fl.name, none)) (hd : d.name = fl.name) (hps : fl.ps = [x])
    (hp0 : ∀ (s : Src), tab[li]? = some s → ∀ (K : PySem.W.Frag) (f : Addr) (fd : FuncData), FunD K s.d.name s.d.qual s.d.params s.d.body s.d.scope (s.d.dvs K) (s.d.kws K) f fd → ∀ (s : Shared) (u : Value), BindsTo s fd ⟨[u], []⟩ [(x, u)])
    (hs : ∀ ns : List Int, ns.length ≤ n → ∃ st, sem (tab.map (·.fn)) m.ct (k + 1) li [.v (.lst (ns.map D.int))] [] = .ok (.v (.bl true)) st) :
    PySem.W.WalkO q loose XP (hookV nn m it (tab.map (·.d) ++ it.map (·.d))).says l.row.toRowW d [] (fun f vs => PySem.call f vs) := by
  refine Att.attach_call hn hdf fun w s₀ s₁ mg mb fa o pm cd doc a vs ns G Y ho hd' hcd hmg hobj hints hlen hg => ?_
  obtain ⟨K, KX, c, hk⟩ := Y
  simp only [allB', Bool.and_eq_true] at hk
  obtain ⟨hk, hkx⟩ := hk
  simp only [tabB, Bool.and_eq_true, beq_iff_eq] at ht
  obtain ⟨t1, t2⟩ := ht
  simp only [itabB, Bool.and_eq_true, beq_iff_eq] at hit
  obtain ⟨i1, i2⟩ := hit
  have mo := mok_of KX G.T.g hk hm hmt
  have xo : ∀ base : Heap, ∀ i C fs, clOf m K i = some C → m.xfs.lookup i = some fs → XOk l.prog w K mg base C fs := fun base i C fs e1 e2 => by
    have hmem := lookup_memP e2
    rw [i2] at hmem
    obtain ⟨s, hs, es⟩ := List.mem_map.mp hmem
    simp only [Prod.mk.injEq] at es
    obtain ⟨rfl, rfl⟩ := es
    obtain ⟨j, hj⟩ := List.mem_iff_getElem?.mp hs
    unfold clOf at e1
    cases q : clN m s.c with
    | none => rw [q] at e1; cases e1
    | some y =>
      rw [q] at e1
      cases e1
      obtain ⟨fd, F⟩ := c.def_ (tab.length + j) (d := s.d) (by
        rw [List.getElem?_append_right (by simp)]
        simp [hj])
      exact xok_of KX G.T.g q (List.all_eq_true.mp hkx s hs) (List.all_eq_true.mp i1 s hs) F (hib s hs K _ fd F)
  have src : ∀ (i : Nat) fi, m.fns[i]? = some fi → ∃ s, tab[i]? = some s ∧ SrcOk K mg (clOf m K) m s fi := fun i fi e => by
    have hi : i < tab.length := by rw [← t1]; exact (List.getElem?_eq_some_iff.mp e).1
    have e2 : tab[i]? = some tab[i] := List.getElem?_eq_getElem hi
    have := List.all_eq_true.mp t2 _ (zip_get e e2)
    simp only [Bool.and_eq_true, Bool.or_eq_true, beq_iff_eq] at this
    obtain ⟨h1, h2, h3, h4⟩ := this
    obtain ⟨fd, F⟩ := c.def_ i (d := tab[i].d) (by
      rw [List.getElem?_append_left (by simpa using hi)]
      rw [List.getElem?_map, e2]; rfl)
    rw [← h1] at F
    refine ⟨_, e2, h4, h3, fun hnone => ?_, fd, F, hp i _ fi e2 e K (clOf m K) _ fd F⟩
    rcases h2 with h2 | h2
    · rw [hnone] at h2; cases h2
    · simp only [mokB, Bool.and_eq_true] at hk
      have g := List.all_eq_true.mp hk.2.2.2.1 fi (List.mem_of_getElem? e)
      simp only [Bool.or_eq_true] at g
      rcases g with g | g
      · rw [hnone] at g; cases g
      · have : He.fAd K fi.at_ = He.ga K fi.name := by
          unfold He.fAd
          rw [hnone, h1, h2]
        rw [this]
        exact PySem.W.mg_of KX G.T.g (He.eqO_ok g)
  obtain ⟨s, e2, h4, h3, h5, fd, F, h6⟩ := src li fl hl
  have h5 := h5 (by rw [hat])
  have hfa : He.fAd K fl.at_ = fa := by
    rw [hd, h5] at hmg
    cases hmg; rfl
  rw [hfa] at F h5
  have FF : ∀ base : Heap, K.In base → base.Ns mainGlobals mg → FnOk l.prog w K mg base (L2.CX l.prog w) (4 * k + 4) fa fd [x] (spF K (clOf m K) 1 (sem (tab.map (·.fn)) m.ct (k + 1) li)) := fun base _ _ => by
    have st := fn_step (P := l.prog) (w := w) (base := base) (g := ⟨sem (tab.map (·.fn)) m.ct k, m.ct⟩) F h4 mo rfl (all_ok rfl mo src (xo base) k) (xo base)
    have e1 : sem (tab.map (·.fn)) m.ct (k + 1) li = denF ⟨sem (tab.map (·.fn)) m.ct k, m.ct⟩ s.fn := by
      funext args
      have : (tab.map (·.fn))[li]? = some s.fn := by rw [List.getElem?_map, e2]; rfl
      simp only [sem, this]
    rw [← h3, hps] at st
    rw [e1]
    exact st
  refine law_call (sp := spF K (clOf m K) 1 (sem (tab.map (·.fn)) m.ct (k + 1) li)) KX G.T.g G.T.b G.T.builtins G.T.nolimit hg hobj hints (Nat.le_trans hlen hn2) hr FF (hp0 s e2 K fa fd F) (fun H hO hS => ?_) fun H e s' z => ?_
  · obtain ⟨st, e⟩ := hs ns hlen
    refine ⟨rfl, { G := H, io := [], ex := none }, [.v (.lst (ns.map D.int))], [], ⟨fun _ _ z => z, rfl, by simp, fun a z => absurd z (by simp), fun n c a q => by simp at q⟩, .cons (show Rep K (clOf m K) H _ _ from .lst hS (ints_reps ns)) .nil, ?_⟩
    rw [e]
    intro v w' H' _ _ r
    cases (show Rep K (clOf m K) w'.G v (.bl true) from r)
    rfl
  · obtain ⟨_, _, _, _, _, _, _, _, _, _, _, _, z⟩ := z
    exact z
end SV

set_option maxRecDepth 100000
set_option maxHeartbeats 4000000
/-! SvX: reading what a text means, by simp -/
namespace SV
open PySem PySem.Spec PyProof.Rows
open L2 hiding It
@[simp] theorem rd_v (d : D) (st : Store) : rdD (.v d) st = .ok d st := id rfl
@[simp] theorem frz_v (d : D) (st : Store) : frz (.v d) st = .ok d st := id rfl
@[simp] theorem frzs_nil (st : Store) : frzs [] st = .ok [] st := id rfl
@[simp] theorem frzs_v (d : D) (rs : List R) (st : Store) : frzs (.v d :: rs) st = (frzs rs st).bind fun ds s => .ok (d :: ds) s := id rfl
@[simp] theorem intOf_v (i : Int) (st : Store) : intOf (.v (.int i)) st = .ok i st := id rfl
@[simp] theorem truth_v (d : D) (st : Store) : truth (.v d) st = M.of (truD d) st := id rfl
@[simp] theorem items_lst (ds : List D) (st : Store) : items (.v (.lst ds)) st = .ok (ds.map R.v) st := id rfl
@[simp] theorem items_tup (ds : List D) (st : Store) : items (.v (.tup ds)) st = .ok (ds.map R.v) st := id rfl
@[simp] theorem head_v (d : D) (st : Store) : headM (.v d) st = .ok d st := id rfl
theorem sem_at {T : List Fn} {ct : Ctab} {k f : Nat} {fn : Fn} {args : List R} (h : T[f]? = some fn) : sem T ct (k + 1) f args = denF ⟨sem T ct k, ct⟩ fn args := by
  simp only [sem, h]
/-- a call of plain data -/
theorem callF_ok {F : List R → M R} {args : List R} {r : R} {d : D} {s1 s2 : Store} (hv : (args.all fun r => (valOf r).isSome) = true) (h : F args [] = .ok r s1) (hf : frz r s1 = .ok d s2) : callF F args = M.pure (.v d) := by
  funext st
  simp only [callF, hv, if_true, h, hf]
theorem callF_exc {F : List R → M R} {args : List R} {c : Nat} {fs : List (Str × D)} {s1 : Store} (hv : (args.all fun r => (valOf r).isSome) = true) (h : F args [] = .exc c fs s1) : callF F args = fun st => .exc c fs st := by
  funext st
  simp only [callF, hv, if_true, h]
/-! ### equality -/
theorem deq_of {a b : D} {p q : PyData} (ha : toP a = some p) (hb : toP b = some q) (h1 : SeqAt.shaped p = true) (h2 : SeqAt.shaped q = true) : deq a b = some (PyData.eqv p q) := by
  simp only [deq, ha, hb, h1, h2, and_self, if_true]
theorem deq_int (a b : Int) : deq (.int a) (.int b) = some (decide (a = b)) := by
  rw [deq_of (p := .int a) (q := .int b) rfl rfl rfl rfl, PyData.eqv]
  by_cases h : a = b
  · simp [h]
  · simp [h]
theorem deq_bl (a b : Bool) : deq (.bl a) (.bl b) = some (a == b) := by
  rw [deq_of (p := .bool a) (q := .bool b) rfl rfl rfl rfl, PyData.eqv]
theorem shaped_ii (a b : Int) : SeqAt.shaped (.tuple [.int a, .int b]) = true := by
  simp [SeqAt.shaped, PyData.canLay0, PyData.canLayAll0, PyData.depth, PyData.depthAll]
theorem deq_ii (a b c d : Int) : deq (.tup [.int a, .int b]) (.tup [.int c, .int d]) = some (decide (a = c) && decide (b = d)) := by
  rw [deq_of (p := .tuple [.int a, .int b]) (q := .tuple [.int c, .int d]) rfl rfl (shaped_ii _ _) (shaped_ii _ _)]
  simp only [PyData.eqv, PyData.eqvAll, Bool.and_true]
  congr 2 <;> (rw [Bool.eq_iff_iff]; simp)
theorem toPs_ints : ∀ ns : List Int, toPs (ns.map D.int) = some (ns.map PyData.int)
  | [] => rfl
  | n :: ns => by simp [toPs, toP, toPs_ints ns]
theorem lay_ints : ∀ ns : List Int, PyData.canLayAll0 (ns.map PyData.int) = true
  | [] => by simp [PyData.canLayAll0]
  | n :: ns => by simp [PyData.canLayAll0, PyData.canLay0, lay_ints ns]
theorem dep_ints : ∀ ns : List Int, PyData.depthAll (ns.map PyData.int) ≤ 1
  | [] => by simp [PyData.depthAll]
  | n :: ns => by
    have := dep_ints ns
    simp [PyData.depthAll, PyData.depth]
    omega
theorem shaped_ints (ns : List Int) : SeqAt.shaped (.list (ns.map PyData.int)) = true := by
  have := dep_ints ns
  simp [SeqAt.shaped, PyData.canLay0, lay_ints, PyData.depth]
  omega
theorem deq_ints_nil (ns : List Int) : deq (.lst (ns.map D.int)) (.lst []) = some ns.isEmpty := by
  rw [deq_of (p := .list (ns.map PyData.int)) (q := .list []) (by simp [toP, toPs_ints]) rfl (shaped_ints ns) (shaped_ints [])]
  cases ns <;> simp [PyData.eqv, PyData.eqvAll]

/-! ### an expression, step by step: what follows is a name, never a lambda -/
section
variable (g : Sg) (ρ : Env) (st : Store)
noncomputable def cRdT : R → M Bool := truth
noncomputable def cBin2 (o : Bop) (x y : R) : M R := fun st => (rdD x st).bind fun dx => (rdD y).bind fun dy => (M.of (opB o dx dy)).bind fun d => M.pure (.v d)
noncomputable def cBin1 (o : Bop) (b : Ex) (ρ : Env) (x : R) : M R := fun st => ((den g b ρ).e st).bind (cBin2 o x)
@[simp] theorem E_bin (o : Bop) (a b : Ex) : (den g (.bin o a b) ρ).e st = ((den g a ρ).e st).bind (cBin1 g o b ρ) := by simp only [den]; rfl
@[simp] theorem cBin1_at (o : Bop) (b : Ex) (x : R) : cBin1 g o b ρ x st = ((den g b ρ).e st).bind (cBin2 o x) := id rfl
noncomputable def vOf : D → M R := fun d st => .ok (.v d) st
@[simp] theorem vOf_at (d : D) : vOf d st = .ok (.v d) st := id rfl
noncomputable def blOf : Bool → M R := fun b st => .ok (.v (.bl b)) st
@[simp] theorem blOf_at (b : Bool) : blOf b st = .ok (.v (.bl b)) st := id rfl
@[simp] theorem cBin2_v (o : Bop) (a b : D) : cBin2 o (.v a) (.v b) st = (M.of (opB o a b) st).bind vOf := id rfl
@[simp] theorem mof_some {α : Type} (a : α) : M.of (some a) st = .ok a st := id rfl
@[simp] theorem E_con (d : D) : (den g (.con d) ρ).e st = .ok (.v d) st := by simp only [den]
noncomputable def rdVar (ρ : Env) (i : Nat) : M R := match ρ[i]? with
    | some (some (.v d)) => M.pure (.v d)
    | some (some (.ref n)) => M.pure (.ref n)
    | _ => M.bad
@[simp] theorem E_var (i : Nat) : (den g (.var i) ρ).e st = rdVar ρ i st := by simp only [den]; rfl
@[simp] theorem rdVar_0v (d : D) (ρ : Env) : rdVar (some (.v d) :: ρ) 0 st = .ok (.v d) st := id rfl
@[simp] theorem rdVar_0r (n : Nat) (ρ : Env) : rdVar (some (.ref n) :: ρ) 0 st = .ok (.ref n) st := id rfl
@[simp] theorem rdVar_s (o : Option R) (i : Nat) (ρ : Env) : rdVar (o :: ρ) (i + 1) st = rdVar ρ i st := by simp [rdVar]
noncomputable def cNeg (x : R) : M R := fun st => (intOf x st).bind fun i => M.pure (.v (.int (-i)))
@[simp] theorem E_neg (a : Ex) : (den g (.neg a) ρ).e st = ((den g a ρ).e st).bind cNeg := by simp only [den]; rfl
@[simp] theorem cNeg_v (i : Int) : cNeg (.v (.int i)) st = .ok (.v (.int (-i))) st := id rfl
noncomputable def cNot (b : Bool) : M R := fun st => .ok (.v (.bl (!b))) st
noncomputable def cNotT (b : Bool) : M Bool := fun st => .ok (!b) st
@[simp] theorem E_not (a : Ex) : (den g (.not a) ρ).e st = (((den g a ρ).e st).bind truth).bind cNot := by
  simp only [den, M.bind]
  cases (den g a ρ).e st <;> rfl
@[simp] theorem cNot_at (b : Bool) : cNot b st = .ok (.v (.bl (!b))) st := id rfl
@[simp] theorem T_not (a : Ex) : (den g (.not a) ρ).t st = ((den g a ρ).t st).bind cNotT := by simp only [den]; rfl
@[simp] theorem cNotT_at (b : Bool) : cNotT b st = .ok (!b) st := id rfl
noncomputable def cCmp2 (o : Cop) (x y : R) : M R := fun st => (rdD x st).bind fun dx => (rdD y).bind fun dy => (M.of (opC o dx dy)).bind fun b => M.pure (.v (.bl b))
noncomputable def cCmp1 (o : Cop) (b : Ex) (ρ : Env) (x : R) : M R := fun st => ((den g b ρ).e st).bind (cCmp2 o x)
@[simp] theorem E_cmp (o : Cop) (a b : Ex) : (den g (.cmp o a b) ρ).e st = ((den g a ρ).e st).bind (cCmp1 g o b ρ) := by simp only [den]; rfl
@[simp] theorem cCmp1_at (o : Cop) (b : Ex) (x : R) : cCmp1 g o b ρ x st = ((den g b ρ).e st).bind (cCmp2 o x) := id rfl
@[simp] theorem cCmp2_v (o : Cop) (a b : D) : cCmp2 o (.v a) (.v b) st = (M.of (opC o a b) st).bind blOf := id rfl
noncomputable def cAnd (b : Ex) (ρ : Env) (x : R) (k : Bool) : M R := fun st => if k = true then (den g b ρ).e st else .ok x st
noncomputable def cAnd0 (b : Ex) (ρ : Env) (x : R) : M R := fun st => (truth x st).bind (cAnd g b ρ x)
@[simp] theorem E_and (a b : Ex) : (den g (.and a b) ρ).e st = ((den g a ρ).e st).bind (cAnd0 g b ρ) := by
  simp only [den, M.bind]
  cases (den g a ρ).e st with
  | ok x s =>
    simp only [Out.bind_ok, cAnd0, M.bind]
    cases truth x s with
    | ok k s2 => cases k <;> rfl
    | exc c fs s2 => rfl
    | bad => rfl
  | exc c fs s => rfl
  | bad => rfl
@[simp] theorem cAnd0_v (b : Ex) (d : D) : cAnd0 g b ρ (.v d) st = (M.of (truD d) st).bind (cAnd g b ρ (.v d)) := id rfl
@[simp] theorem cAnd_t (b : Ex) (x : R) : cAnd g b ρ x true st = (den g b ρ).e st := id rfl
@[simp] theorem cAnd_f (b : Ex) (x : R) : cAnd g b ρ x false st = .ok x st := id rfl
noncomputable def cOr (b : Ex) (ρ : Env) (x : R) (k : Bool) : M R := fun st => if k = true then .ok x st else (den g b ρ).e st
noncomputable def cOr0 (b : Ex) (ρ : Env) (x : R) : M R := fun st => (truth x st).bind (cOr g b ρ x)
@[simp] theorem E_or (a b : Ex) : (den g (.or a b) ρ).e st = ((den g a ρ).e st).bind (cOr0 g b ρ) := by
  simp only [den, M.bind]
  cases (den g a ρ).e st with
  | ok x s =>
    simp only [Out.bind_ok, cOr0, M.bind]
    cases truth x s with
    | ok k s2 => cases k <;> rfl
    | exc c fs s2 => rfl
    | bad => rfl
  | exc c fs s => rfl
  | bad => rfl
@[simp] theorem cOr0_v (b : Ex) (d : D) : cOr0 g b ρ (.v d) st = (M.of (truD d) st).bind (cOr g b ρ (.v d)) := id rfl
@[simp] theorem cOr_t (b : Ex) (x : R) : cOr g b ρ x true st = .ok x st := id rfl
@[simp] theorem cOr_f (b : Ex) (x : R) : cOr g b ρ x false st = (den g b ρ).e st := id rfl
noncomputable def cAndT (b : Ex) (ρ : Env) (k : Bool) : M Bool := fun st => if k = true then (den g b ρ).t st else .ok false st
@[simp] theorem T_and (a b : Ex) : (den g (.and a b) ρ).t st = ((den g a ρ).t st).bind (cAndT g b ρ) := by
  simp only [den, M.bind]
  cases (den g a ρ).t st with
  | ok k s => cases k <;> rfl
  | exc c fs s => rfl
  | bad => rfl
@[simp] theorem cAndT_t (b : Ex) : cAndT g b ρ true st = (den g b ρ).t st := id rfl
@[simp] theorem cAndT_f (b : Ex) : cAndT g b ρ false st = .ok false st := id rfl
noncomputable def cOrT (b : Ex) (ρ : Env) (k : Bool) : M Bool := fun st => if k = true then .ok true st else (den g b ρ).t st
@[simp] theorem T_or (a b : Ex) : (den g (.or a b) ρ).t st = ((den g a ρ).t st).bind (cOrT g b ρ) := by
  simp only [den, M.bind]
  cases (den g a ρ).t st with
  | ok k s => cases k <;> rfl
  | exc c fs s => rfl
  | bad => rfl
@[simp] theorem cOrT_t (b : Ex) : cOrT g b ρ true st = .ok true st := id rfl
@[simp] theorem cOrT_f (b : Ex) : cOrT g b ρ false st = (den g b ρ).t st := id rfl
noncomputable def cIte (a b : Ex) (ρ : Env) (k : Bool) : M R := fun st => if k = true then (den g a ρ).e st else (den g b ρ).e st
@[simp] theorem E_ite (c a b : Ex) : (den g (.ite c a b) ρ).e st = ((den g c ρ).t st).bind (cIte g a b ρ) := by
  simp only [den, M.bind]
  cases (den g c ρ).t st with
  | ok k s => cases k <;> rfl
  | exc c fs s => rfl
  | bad => rfl
@[simp] theorem cIte_t (a b : Ex) : cIte g a b ρ true st = (den g a ρ).e st := id rfl
@[simp] theorem cIte_f (a b : Ex) : cIte g a b ρ false st = (den g b ρ).e st := id rfl
-- tests of values
@[simp] theorem T_var (i : Nat) : (den g (.var i) ρ).t st = ((den g (.var i) ρ).e st).bind truth := by simp only [den]
@[simp] theorem T_con (d : D) : (den g (.con d) ρ).t st = M.of (truD d) st := by simp only [den]; rfl
@[simp] theorem T_cmp (o : Cop) (a b : Ex) : (den g (.cmp o a b) ρ).t st = ((den g (.cmp o a b) ρ).e st).bind truth := by simp only [den]
@[simp] theorem T_call (f : Nat) (es : List Ex) (pm : List (Nat ⊕ D)) : (den g (.call f es pm) ρ).t st = ((den g (.call f es pm) ρ).e st).bind truth := by simp only [den]
@[simp] theorem T_blt (f : Bf) (es : List Ex) : (den g (.blt f es) ρ).t st = ((den g (.blt f es) ρ).e st).bind truth := by simp only [den]
@[simp] theorem T_isi (a : Ex) (cs : List (Nat ⊕ String)) : (den g (.isi a cs) ρ).t st = ((den g (.isi a cs) ρ).e st).bind truth := by simp only [den]
@[simp] theorem T_isx (a : Nat) (cs : List (Nat ⊕ String)) : (den g (.isx a cs) ρ).t st = ((den g (.isx a cs) ρ).e st).bind truth := by simp only [den]
@[simp] theorem T_chn (o p : Cop) (a b c : Ex) : (den g (.chn o p a b c) ρ).t st = ((den g (.chn o p a b c) ρ).e st).bind truth := by simp only [den]
@[simp] theorem T_ix (a b : Ex) : (den g (.ix a b) ρ).t st = ((den g (.ix a b) ρ).e st).bind truth := by simp only [den]
-- displays
noncomputable def cEs (es : List Ex) (ρ : Env) (r : R) : M (List R) := fun st => (denEs g es ρ st).bind fun rs => M.pure (r :: rs)
noncomputable def cCons (r : R) (rs : List R) : M (List R) := fun st => .ok (r :: rs) st
@[simp] theorem Es_nil : denEs g [] ρ st = .ok [] st := by simp only [denEs]
@[simp] theorem Es_cons (e : Ex) (es : List Ex) : denEs g (e :: es) ρ st = ((den g e ρ).e st).bind (cEs g es ρ) := by simp only [denEs]; rfl
@[simp] theorem cEs_at (es : List Ex) (r : R) : cEs g es ρ r st = (denEs g es ρ st).bind (cCons r) := id rfl
@[simp] theorem cCons_at (r : R) (rs : List R) : cCons r rs st = .ok (r :: rs) st := id rfl
noncomputable def cTup (rs : List R) : M R := fun st => (frzs rs st).bind fun ds => M.pure (.v (.tup ds))
noncomputable def cLst (rs : List R) : M R := fun st => (frzs rs st).bind fun ds => M.pure (.v (.lst ds))
noncomputable def cCel (rs : List R) : M R := alloc (.lst rs)
noncomputable def toTup : List D → M R := fun ds st => .ok (.v (.tup ds)) st
noncomputable def toLst : List D → M R := fun ds st => .ok (.v (.lst ds)) st
@[simp] theorem toTup_at (ds : List D) : toTup ds st = .ok (.v (.tup ds)) st := id rfl
@[simp] theorem toLst_at (ds : List D) : toLst ds st = .ok (.v (.lst ds)) st := id rfl
@[simp] theorem E_tup (es : List Ex) : (den g (.tup es) ρ).e st = (denEs g es ρ st).bind cTup := by simp only [den]; rfl
@[simp] theorem cTup_at (rs : List R) : cTup rs st = (frzs rs st).bind toTup := id rfl
@[simp] theorem E_lstF (es : List Ex) : (den g (.lst false es) ρ).e st = (denEs g es ρ st).bind cLst := by simp only [den]; rfl
@[simp] theorem cLst_at (rs : List R) : cLst rs st = (frzs rs st).bind toLst := id rfl
@[simp] theorem E_lstT (es : List Ex) : (den g (.lst true es) ρ).e st = (denEs g es ρ st).bind cCel := by simp only [den]; rfl
@[simp] theorem cCel_at (rs : List R) : cCel rs st = .ok (.ref st.length) (st ++ [.lst rs]) := id rfl
noncomputable def consD (d : D) (ds : List D) : M (List D) := fun st => .ok (d :: ds) st
@[simp] theorem consD_at (d : D) (ds : List D) : consD d ds st = .ok (d :: ds) st := id rfl
@[simp] theorem frzs_v2 (d : D) (rs : List R) : frzs (.v d :: rs) st = (frzs rs st).bind (consD d) := id rfl
-- index, slice
noncomputable def cIx (b : Ex) (ρ : Env) (x : R) : M R := fun st => ((den g b ρ).e st).bind (index x)
@[simp] theorem E_ix (a b : Ex) : (den g (.ix a b) ρ).e st = ((den g a ρ).e st).bind (cIx g b ρ) := by simp only [den]; rfl
@[simp] theorem cIx_at (b : Ex) (x : R) : cIx g b ρ x st = ((den g b ρ).e st).bind (index x) := id rfl
@[simp] theorem index_tup (ds : List D) (i : Int) : index (.v (.tup ds)) (.v (.int i)) st = M.of (L2.atI (ds.map R.v) i) st := id rfl
@[simp] theorem index_lst (ds : List D) (i : Int) : index (.v (.lst ds)) (.v (.int i)) st = M.of (L2.atI (ds.map R.v) i) st := id rfl
-- calls
noncomputable def cPm (F : List R → M R) (pm : List (Nat ⊕ D)) (rs : List R) : M R := fun st => (M.of (assem rs pm) st).bind (callF F)
@[simp] theorem E_call (f : Nat) (es : List Ex) (pm : List (Nat ⊕ D)) : (den g (.call f es pm) ρ).e st = (denEs g es ρ st).bind (cPm (g.S f) pm) := by simp only [den]; rfl
theorem cPm_at (F : List R → M R) (pm : List (Nat ⊕ D)) (rs args : List R) (h : assem rs pm = some args) : cPm F pm rs st = callF F args st := by simp only [cPm, h]; rfl
noncomputable def rdsK (b : Bf) (rs : List R) : M R := fun st => (rdDs rs st).bind fun ds => (M.of (opF b ds)).bind fun d => M.pure (.v d)
noncomputable def opFK (b : Bf) (ds : List D) : M R := fun st => (M.of (opF b ds) st).bind vOf
@[simp] theorem E_blt (b : Bf) (es : List Ex) : (den g (.blt b es) ρ).e st = (denEs g es ρ st).bind (rdsK b) := by simp only [den]; rfl
@[simp] theorem rdsK_at (b : Bf) (rs : List R) : rdsK b rs st = (rdDs rs st).bind (opFK b) := id rfl
@[simp] theorem opFK_at (b : Bf) (ds : List D) : opFK b ds st = (M.of (opF b ds) st).bind vOf := id rfl
@[simp] theorem rdDs_nil : rdDs [] st = .ok [] st := id rfl
@[simp] theorem rdDs_v (d : D) (rs : List R) : rdDs (.v d :: rs) st = (rdDs rs st).bind (consD d) := id rfl
noncomputable def cIsi (ct : Ctab) (cs : List (Nat ⊕ String)) (d : D) : M R := fun st => (M.of (isAny ct d cs) st).bind blOf
noncomputable def cHead (ct : Ctab) (cs : List (Nat ⊕ String)) (x : R) : M R := fun st => (headM x st).bind (cIsi ct cs)
@[simp] theorem E_isi (a : Ex) (cs : List (Nat ⊕ String)) : (den g (.isi a cs) ρ).e st = ((den g a ρ).e st).bind (cHead g.ct cs) := by simp only [den]; rfl
@[simp] theorem cHead_v (ct : Ctab) (cs : List (Nat ⊕ String)) (d : D) : cHead ct cs (.v d) st = cIsi ct cs d st := id rfl
@[simp] theorem cIsi_at (ct : Ctab) (cs : List (Nat ⊕ String)) (d : D) : cIsi ct cs d st = (M.of (isAny ct d cs) st).bind blOf := id rfl
-- lists that change
noncomputable def cBm2 (m : Bm) (x : R) (rs : List R) : M R := opM m x rs
noncomputable def cBm1 (m : Bm) (es : List Ex) (ρ : Env) (x : R) : M R := fun st => (chkL x st).bind fun _ st1 => (denEs g es ρ st1).bind (opM m x)
@[simp] theorem E_bm (m : Bm) (o : Ex) (es : List Ex) : (den g (.bm m o es) ρ).e st = ((den g o ρ).e st).bind (cBm1 g m es ρ) := by simp only [den]; rfl
theorem cBm1_at (m : Bm) (es : List Ex) (n : Nat) (xs : List R) (h : st[n]? = some (.lst xs)) : cBm1 g m es ρ (.ref n) st = (denEs g es ρ st).bind (opM m (.ref n)) := by simp only [cBm1, chkL, h, Out.bind_ok]
theorem opM_append (n : Nat) (a : R) (xs : List R) (h : st[n]? = some (.lst xs)) (hl : xs.length < sizeLine) : opM .append (.ref n) [a] st = .ok (.v .non) (st.set n (.lst (xs ++ [a]))) := by simp only [opM, onCell, h, hl, if_true]
end
/-! ### statements -/
section
variable (g : Sg) (ρ : Env) (st : Store)
noncomputable def kAsg (i : Nat) (ρ : Env) (r : R) (st : Store) : OutS := .nx (ρ.set i (some r)) st
@[simp] theorem kAsg_at (i : Nat) (r : R) : kAsg i ρ r st = .nx (ρ.set i (some r)) st := id rfl
@[simp] theorem S_asg (i : Nat) (e : Ex) : denS g (.asg i e) ρ st = ((den g e ρ).e st).to ρ (kAsg i ρ) := by simp only [denS]; rfl
noncomputable def kPar2 (i j : Nat) (ρ : Env) (x y : R) (st : Store) : OutS := .nx ((ρ.set i (some x)).set j (some y)) st
noncomputable def kPar1 (i j : Nat) (b : Ex) (ρ : Env) (x : R) (st : Store) : OutS := ((den g b ρ).e st).to ρ (kPar2 i j ρ x)
@[simp] theorem kPar2_at (i j : Nat) (x y : R) : kPar2 i j ρ x y st = .nx ((ρ.set i (some x)).set j (some y)) st := id rfl
@[simp] theorem kPar1_at (i j : Nat) (b : Ex) (x : R) : kPar1 g i j b ρ x st = ((den g b ρ).e st).to ρ (kPar2 i j ρ x) := id rfl
@[simp] theorem S_par (i j : Nat) (a b : Ex) : denS g (.par i j a b) ρ st = ((den g a ρ).e st).to ρ (kPar1 g i j b ρ) := by simp only [denS]; rfl
noncomputable def kUnp2 (ρ : Env) (ρ1 : Env) (st : Store) : OutS := .nx ρ1 st
noncomputable def kUnp (is : List Nat) (ρ : Env) (r : R) (st : Store) : OutS := (bindTg (.many is) r ρ st).to ρ .nx
@[simp] theorem S_unp (is : List Nat) (e : Ex) : denS g (.unp is e) ρ st = ((den g e ρ).e st).to ρ (kUnp is ρ) := by simp only [denS]; rfl
@[simp] theorem kUnp_at (is : List Nat) (r : R) : kUnp is ρ r st = (bindTg (.many is) r ρ st).to ρ .nx := id rfl
noncomputable def kEx (ρ : Env) (_ : R) (st : Store) : OutS := .nx ρ st
@[simp] theorem kEx_at (r : R) : kEx ρ r st = .nx ρ st := id rfl
@[simp] theorem S_ex (e : Ex) : denS g (.ex e) ρ st = ((den g e ρ).e st).to ρ (kEx ρ) := by simp only [denS]; rfl
noncomputable def kIte (t f : List Sm) (ρ : Env) (k : Bool) (st : Store) : OutS := if k = true then denSs g t ρ st else denSs g f ρ st
@[simp] theorem kIte_t (t f : List Sm) : kIte g t f ρ true st = denSs g t ρ st := id rfl
@[simp] theorem kIte_f (t f : List Sm) : kIte g t f ρ false st = denSs g f ρ st := id rfl
@[simp] theorem S_ite (c : Ex) (t f : List Sm) : denS g (.ite c t f) ρ st = ((den g c ρ).t st).to ρ (kIte g t f ρ) := by simp only [denS]; rfl
noncomputable def FR (g : Sg) (tg : Tg) (body : List Sm) (xs : List R) (ρ : Env) (st : Store) : OutS := frGo tg (fun ρ2 st2 => denSs g body ρ2 st2) xs ρ st
noncomputable def kFr1 (g : Sg) (tg : Tg) (body : List Sm) (xs : List R) (ρ : Env) (st : Store) : OutS := (denSs g body ρ st).turn (FR g tg body xs)
noncomputable def kFr (g : Sg) (tg : Tg) (body : List Sm) (ρ : Env) (xs : List R) (st : Store) : OutS := FR g tg body xs ρ st
@[simp] theorem kFr_at (tg : Tg) (body : List Sm) (xs : List R) : kFr g tg body ρ xs st = FR g tg body xs ρ st := id rfl
@[simp] theorem S_frr (tg : Tg) (it : It) (body : List Sm) : denS g (.frr tg it body) ρ st = (denIt g it ρ st).to ρ (kFr g tg body ρ) := by simp only [denS]; rfl
theorem FR_nil (tg : Tg) (body : List Sm) : FR g tg body [] ρ st = .nx ρ st := rfl
theorem FR_cons (tg : Tg) (body : List Sm) (x : R) (xs : List R) : FR g tg body (x :: xs) ρ st = (bindTg tg x ρ st).to ρ (kFr1 g tg body xs) := rfl
@[simp] theorem kFr1_at (tg : Tg) (body : List Sm) (xs : List R) : kFr1 g tg body xs ρ st = (denSs g body ρ st).turn (FR g tg body xs) := id rfl
noncomputable def WH (g : Sg) (c : Ex) (body : List Sm) (ρ : Env) (st : Store) : OutS := whG (fun ρ2 => (den g c ρ2).t) (fun ρ2 st2 => denSs g body ρ2 st2) ρ st
noncomputable def kWh (g : Sg) (c : Ex) (body : List Sm) (ρ : Env) (k : Bool) (st : Store) : OutS := if k = true then (denSs g body ρ st).turn (WH g c body) else .nx ρ st
@[simp] theorem kWh_t (c : Ex) (body : List Sm) : kWh g c body ρ true st = (denSs g body ρ st).turn (WH g c body) := id rfl
@[simp] theorem kWh_f (c : Ex) (body : List Sm) : kWh g c body ρ false st = .nx ρ st := id rfl
@[simp] theorem S_whl (c : Ex) (body : List Sm) : denS g (.whl c body) ρ st = WH g c body ρ st := by simp only [denS]; rfl
theorem WH_step (c : Ex) (body : List Sm) : WH g c body ρ st = ((den g c ρ).t st).to ρ (kWh g c body ρ) := by
  unfold WH
  rw [whG_step]
  cases (den g c ρ).t st with
  | ok k s => cases k <;> rfl
  | exc c fs s => rfl
  | bad => rfl
@[simp] theorem S_ret (e : Ex) : denS g (.ret e) ρ st = ((den g e ρ).e st).to ρ .rt := by simp only [denS]
@[simp] theorem S_retN : denS g .retN ρ st = .rt (.v .non) st := by simp only [denS]
@[simp] theorem S_rse0 (i : Nat) : denS g (.rse i [] []) ρ st = .exc i [] ρ st := denS_rse
@[simp] theorem S_pass : denS g .pass ρ st = .nx ρ st := by simp only [denS]
@[simp] theorem S_brk : denS g .brk ρ st = .bk ρ st := by simp only [denS]
@[simp] theorem S_cont : denS g .cont ρ st = .ct ρ st := by simp only [denS]
@[simp] theorem Ss_nil : denSs g [] ρ st = .nx ρ st := by simp only [denSs]
@[simp] theorem Ss_cons (s : Sm) (ss : List Sm) : denSs g (s :: ss) ρ st = (denS g s ρ st).seq (denSs g ss) := by simp only [denSs]
noncomputable def itK : R → M (List R) := itOver
@[simp] theorem It_over (e : Ex) : denIt g (.over e) ρ st = ((den g e ρ).e st).bind itOver := by simp only [denIt]
noncomputable def rngK (x : R) : M (List R) := fun st => (intOf x st).bind (itRng 0)
@[simp] theorem rngK_v (i : Int) : rngK (.v (.int i)) st = itRng 0 i st := by unfold rngK; rw [show intOf (.v (.int i)) st = .ok i st from rfl, Out.bind_ok]
@[simp] theorem It_rng (e : Ex) : denIt g (.rng e) ρ st = ((den g e ρ).e st).bind rngK := by simp only [denIt]; unfold rngK; rfl
@[simp] theorem itOver_lst (ds : List D) : itOver (.v (.lst ds)) st = .ok (ds.map R.v) st := id rfl
@[simp] theorem itOver_tup (ds : List D) : itOver (.v (.tup ds)) st = .ok (ds.map R.v) st := id rfl
theorem itRng_ok (i j : Int) (h : -1000000 ≤ i) (h2 : i ≤ 1000000) (h3 : -1000000 ≤ j) (h4 : j ≤ 1000000) : itRng i j = M.pure ((List.range (j - i).toNat).map fun (k : Nat) => R.v (.int (i + (k : Int)))) := by
  unfold itRng
  exact if_pos ⟨by omega, by omega, by omega, by omega⟩
theorem rng0_ok (n : Nat) (h : n ≤ 1000000) : itRng 0 n st = .ok ((List.range n).map fun (k : Nat) => R.v (.int (k : Int))) st := by
  have e := itRng_ok 0 n (by decide) (by decide) (by omega) (by omega)
  rw [e]
  simp only [Int.sub_zero, Int.toNat_natCast, Int.zero_add]
@[simp] theorem bind_one (i : Nat) (r : R) : bindTg (.one i) r ρ st = .ok (ρ.set i (some r)) st := id rfl
end
/-! ### operators -/
@[simp] theorem opB_add (i j : Int) : opB .add (.int i) (.int j) = some (.int (i + j)) := id rfl
@[simp] theorem opB_sub (i j : Int) : opB .sub (.int i) (.int j) = some (.int (i - j)) := id rfl
theorem opB_mod (i j : Int) (h : j ≠ 0) : opB .mod (.int i) (.int j) = some (.int (i.fmod j)) := if_pos h
theorem opB_fdiv (i j : Int) (h : j ≠ 0) (h2 : j.natAbs.log2 < 9000) : opB .fdiv (.int i) (.int j) = some (.int (i.fdiv j)) := if_pos ⟨h, h2⟩
theorem opB_mul (i j : Int) (h : i.natAbs.log2 + j.natAbs.log2 < 1000000) : opB .mul (.int i) (.int j) = some (.int (i * j)) := if_pos (.inl h)
@[simp] theorem opC_lt (i j : Int) : opC .lt (.int i) (.int j) = some (decide (i < j)) := id rfl
@[simp] theorem opC_le (i j : Int) : opC .le (.int i) (.int j) = some (decide (i ≤ j)) := id rfl
@[simp] theorem opC_gt (i j : Int) : opC .gt (.int i) (.int j) = some (decide (j < i)) := id rfl
@[simp] theorem opC_ge (i j : Int) : opC .ge (.int i) (.int j) = some (decide (j ≤ i)) := id rfl
@[simp] theorem opC_eqI (i j : Int) : opC .eq (.int i) (.int j) = some (decide (i = j)) := deq_int i j
@[simp] theorem opC_neI (i j : Int) : opC .ne (.int i) (.int j) = some (!decide (i = j)) := by simp only [opC, deq_int]; rfl
@[simp] theorem opC_neB (i j : Bool) : opC .ne (.bl i) (.bl j) = some (!(i == j)) := by simp only [opC, deq_bl]; rfl
@[simp] theorem opC_eqT (a b c d : Int) : opC .eq (.tup [.int a, .int b]) (.tup [.int c, .int d]) = some (decide (a = c) && decide (b = d)) := deq_ii a b c d
@[simp] theorem opC_neT (a b c d : Int) : opC .ne (.tup [.int a, .int b]) (.tup [.int c, .int d]) = some (!(decide (a = c) && decide (b = d))) := by simp only [opC, deq_ii]; rfl
@[simp] theorem truD_bl (b : Bool) : truD (.bl b) = some b := id rfl
@[simp] theorem opF_abs (i : Int) : opF .abs [.int i] = some (.int i.natAbs) := by
  show some (D.int (if i < 0 then -i else i)) = _
  congr 2
  split <;> omega
end SV

set_option maxRecDepth 100000
set_option maxHeartbeats 4000000
/-! SvXb: more readings: equality of data, slices, comprehensions, tries, loops -/
namespace SV
open PySem PySem.Spec PyProof.Rows
open L2 hiding It
/-! ### data of some depth -/
mutual
noncomputable def okD : Nat → D → Bool
  | _, .non => true
  | _, .bl _ => true
  | _, .int _ => true
  | _, .str s => PyData.strOk s
  | n + 1, .tup xs => okDs n xs
  | n + 1, .lst xs => okDs n xs
  | _, _ => false
noncomputable def okDs : Nat → List D → Bool
  | _, [] => true
  | n, x :: xs => okD n x && okDs n xs
end
mutual
noncomputable def deqB : D → D → Bool
  | .non, .non => true
  | .bl a, .bl b => a == b
  | .bl a, .int j => (if a then 1 else 0) == j
  | .int i, .bl b => i == (if b then 1 else 0)
  | .int i, .int j => i == j
  | .str x, .str y => x == y
  | .tup xs, .tup ys => deqBs xs ys
  | .lst xs, .lst ys => deqBs xs ys
  | _, _ => false
noncomputable def deqBs : List D → List D → Bool
  | [], [] => true
  | x :: xs, y :: ys => deqB x y && deqBs xs ys
  | _, _ => false
end
mutual
theorem okD_toP : ∀ {n : Nat} {d : D}, okD n d = true → ∃ p, toP d = some p ∧ p.canLay0 = true ∧ p.depth ≤ n
  | n, .non, _ => ⟨.none, rfl, by simp [PyData.canLay0], by simp [PyData.depth]⟩
  | n, .bl b, _ => ⟨.bool b, rfl, by simp [PyData.canLay0], by simp [PyData.depth]⟩
  | n, .int b, _ => ⟨.int b, rfl, by simp [PyData.canLay0], by simp [PyData.depth]⟩
  | n, .str b, h => ⟨.str b, rfl, by simpa [PyData.canLay0, okD] using h, by simp [PyData.depth]⟩
  | 0, .tup xs, h => by simp [okD] at h
  | 0, .lst xs, h => by simp [okD] at h
  | n, .obj c fs, h => by simp [okD] at h
  | n, .dct kvs, h => by simp [okD] at h
  | n + 1, .tup xs, h => by
    obtain ⟨ps, h1, h2, h3⟩ := okDs_toP (n := n) (d := xs) (by simpa [okD] using h)
    exact ⟨.tuple ps, by simp [toP, h1], by simpa [PyData.canLay0] using h2, by simp [PyData.depth]; exact h3⟩
  | n + 1, .lst xs, h => by
    obtain ⟨ps, h1, h2, h3⟩ := okDs_toP (n := n) (d := xs) (by simpa [okD] using h)
    exact ⟨.list ps, by simp [toP, h1], by simpa [PyData.canLay0] using h2, by simp [PyData.depth]; exact h3⟩
theorem okDs_toP : ∀ {n : Nat} {d : List D}, okDs n d = true → ∃ p, toPs d = some p ∧ PyData.canLayAll0 p = true ∧ PyData.depthAll p ≤ n
  | n, [], _ => ⟨[], rfl, by simp [PyData.canLayAll0], by simp [PyData.depthAll]⟩
  | n, x :: xs, h => by
    simp only [okDs, Bool.and_eq_true] at h
    obtain ⟨p, h1, h2, h3⟩ := okD_toP h.1
    obtain ⟨ps, h4, h5, h6⟩ := okDs_toP h.2
    exact ⟨p :: ps, by simp [toPs, h1, h4], by simp [PyData.canLayAll0, h2, h5], by simp only [PyData.depthAll]; exact Nat.max_le.mpr ⟨h3, h6⟩⟩
end
mutual
theorem eqv_deqB : ∀ {a b : D} {p q : PyData}, toP a = some p → toP b = some q → PyData.eqv p q = deqB a b
  | .non, b, p, q, h1, h2 => by cases h1; cases b <;> simp [toP] at h2 <;> (try (obtain ⟨z, _, rfl⟩ := h2)) <;> (try subst h2) <;> simp [PyData.eqv, deqB]
  | .bl a, b, p, q, h1, h2 => by cases h1; cases b <;> simp [toP] at h2 <;> (try (obtain ⟨z, _, rfl⟩ := h2)) <;> (try subst h2) <;> simp [PyData.eqv, deqB]
  | .int a, b, p, q, h1, h2 => by cases h1; cases b <;> simp [toP] at h2 <;> (try (obtain ⟨z, _, rfl⟩ := h2)) <;> (try subst h2) <;> simp [PyData.eqv, deqB]
  | .str a, b, p, q, h1, h2 => by cases h1; cases b <;> simp [toP] at h2 <;> (try (obtain ⟨z, _, rfl⟩ := h2)) <;> (try subst h2) <;> simp [PyData.eqv, deqB]
  | .obj c fs, b, p, q, h1, h2 => by simp [toP] at h1
  | .dct kvs, b, p, q, h1, h2 => by simp [toP] at h1
  | .tup xs, b, p, q, h1, h2 => by
    simp only [toP, Option.map_eq_some_iff] at h1
    obtain ⟨z, hz, rfl⟩ := h1
    cases b with
    | tup ys =>
      simp only [toP, Option.map_eq_some_iff] at h2
      obtain ⟨y, hy, rfl⟩ := h2
      rw [PyData.eqv, deqB]; exact eqvs_deqBs hz hy
    | lst ys =>
      simp only [toP, Option.map_eq_some_iff] at h2
      obtain ⟨y, hy, rfl⟩ := h2
      simp [PyData.eqv, deqB]
    | obj c fs => simp [toP] at h2
    | dct kvs => simp [toP] at h2
    | non => cases h2; simp [PyData.eqv, deqB]
    | bl _ => cases h2; simp [PyData.eqv, deqB]
    | int _ => cases h2; simp [PyData.eqv, deqB]
    | str _ => cases h2; simp [PyData.eqv, deqB]
  | .lst xs, b, p, q, h1, h2 => by
    simp only [toP, Option.map_eq_some_iff] at h1
    obtain ⟨z, hz, rfl⟩ := h1
    cases b with
    | lst ys =>
      simp only [toP, Option.map_eq_some_iff] at h2
      obtain ⟨y, hy, rfl⟩ := h2
      rw [PyData.eqv, deqB]; exact eqvs_deqBs hz hy
    | tup ys =>
      simp only [toP, Option.map_eq_some_iff] at h2
      obtain ⟨y, hy, rfl⟩ := h2
      simp [PyData.eqv, deqB]
    | obj c fs => simp [toP] at h2
    | dct kvs => simp [toP] at h2
    | non => cases h2; simp [PyData.eqv, deqB]
    | bl _ => cases h2; simp [PyData.eqv, deqB]
    | int _ => cases h2; simp [PyData.eqv, deqB]
    | str _ => cases h2; simp [PyData.eqv, deqB]
theorem eqvs_deqBs : ∀ {a b : List D} {p q : List PyData}, toPs a = some p → toPs b = some q → PyData.eqvAll p q = deqBs a b
  | [], [], p, q, h1, h2 => by cases h1; cases h2; simp [PyData.eqvAll, deqBs]
  | [], y :: ys, p, q, h1, h2 => by
    cases h1
    simp only [toPs] at h2
    split at h2
    · cases h2; simp [PyData.eqvAll, deqBs]
    · cases h2
  | x :: xs, [], p, q, h1, h2 => by
    cases h2
    simp only [toPs] at h1
    split at h1
    · cases h1; simp [PyData.eqvAll, deqBs]
    · cases h1
  | x :: xs, y :: ys, p, q, h1, h2 => by
    simp only [toPs] at h1 h2
    split at h1
    · cases h1
      rename_i e1 e2
      split at h2
      · cases h2
        rename_i e3 e4
        simp [PyData.eqvAll, deqBs, eqv_deqB e1 e3, eqvs_deqBs e2 e4]
      · cases h2
    · cases h1
end
theorem deq_ok {a b : D} (ha : okD 64 a = true) (hb : okD 64 b = true) : deq a b = some (deqB a b) := by
  obtain ⟨p, h1, h2, h3⟩ := okD_toP ha
  obtain ⟨q, h4, h5, h6⟩ := okD_toP hb
  rw [deq_of h1 h4 (by simp [SeqAt.shaped, h2, h3]) (by simp [SeqAt.shaped, h5, h6]), eqv_deqB h1 h4]
mutual
theorem okD_mono : ∀ {n : Nat} {d : D}, okD n d = true → okD (n + 1) d = true
  | _, .non, _ => by simp [okD]
  | _, .bl _, _ => by simp [okD]
  | _, .int _, _ => by simp [okD]
  | n, .str s, h => by simp [okD] at h ⊢; exact h
  | 0, .tup xs, h => by simp [okD] at h
  | 0, .lst xs, h => by simp [okD] at h
  | n, .obj c fs, h => by simp [okD] at h
  | n, .dct kvs, h => by simp [okD] at h
  | n + 1, .tup xs, h => by simp only [okD] at h ⊢; exact okDs_mono h
  | n + 1, .lst xs, h => by simp only [okD] at h ⊢; exact okDs_mono h
theorem okDs_mono : ∀ {n : Nat} {d : List D}, okDs n d = true → okDs (n + 1) d = true
  | _, [], _ => by simp [okDs]
  | _, x :: xs, h => by simp only [okDs, Bool.and_eq_true] at h ⊢; exact ⟨okD_mono h.1, okDs_mono h.2⟩
end
theorem okD_le {n m : Nat} {d : D} (h : okD n d = true) (hl : n ≤ m) : okD m d = true := by
  obtain ⟨k, rfl⟩ := Nat.exists_eq_add_of_le hl
  clear hl
  induction k with
  | zero => exact h
  | succ k ih => exact okD_mono ih
@[simp] theorem okD_non (n : Nat) : okD n .non = true := by cases n <;> simp [okD]
@[simp] theorem okD_bl (n : Nat) (b : Bool) : okD n (.bl b) = true := by cases n <;> simp [okD]
@[simp] theorem okD_int (n : Nat) (b : Int) : okD n (.int b) = true := by cases n <;> simp [okD]
@[simp] theorem okD_str (n : Nat) (b : Str) : okD n (.str b) = PyData.strOk b := by cases n <;> simp [okD]
@[simp] theorem okD_tup (n : Nat) (xs : List D) : okD (n + 1) (.tup xs) = okDs n xs := by simp [okD]
@[simp] theorem okD_lst (n : Nat) (xs : List D) : okD (n + 1) (.lst xs) = okDs n xs := by simp [okD]
@[simp] theorem okDs_nil (n : Nat) : okDs n [] = true := by simp [okDs]
@[simp] theorem okDs_cons (n : Nat) (x : D) (xs : List D) : okDs n (x :: xs) = (okD n x && okDs n xs) := by simp [okDs]
theorem okDs_all {n : Nat} {xs : List D} (h : ∀ x ∈ xs, okD n x = true) : okDs n xs = true := by
  induction xs with
  | nil => simp
  | cons x xs ih => simp [h x (by simp), ih fun y hy => h y (by simp [hy])]
@[simp] theorem deqB_non : deqB .non .non = true := by simp [deqB]
@[simp] theorem deqB_bl (a b : Bool) : deqB (.bl a) (.bl b) = (a == b) := by simp [deqB]
@[simp] theorem deqB_int (a b : Int) : deqB (.int a) (.int b) = decide (a = b) := by simp [deqB]; rfl
@[simp] theorem deqB_str (a b : Str) : deqB (.str a) (.str b) = decide (a = b) := by simp [deqB]; rfl
@[simp] theorem deqB_tup (a b : List D) : deqB (.tup a) (.tup b) = deqBs a b := by simp [deqB]
@[simp] theorem deqB_lst (a b : List D) : deqB (.lst a) (.lst b) = deqBs a b := by simp [deqB]
@[simp] theorem deqBs_nil : deqBs [] [] = true := by simp [deqBs]
@[simp] theorem deqBs_cons (x y : D) (xs ys : List D) : deqBs (x :: xs) (y :: ys) = (deqB x y && deqBs xs ys) := by simp [deqBs]
@[simp] theorem deqBs_nc (y : D) (ys : List D) : deqBs [] (y :: ys) = false := by simp [deqBs]
@[simp] theorem deqBs_cn (y : D) (ys : List D) : deqBs (y :: ys) [] = false := by simp [deqBs]
mutual
theorem deqB_refl : ∀ {n : Nat} {d : D}, okD n d = true → deqB d d = true
  | _, .non, _ => by simp
  | _, .bl _, _ => by simp
  | _, .int _, _ => by simp
  | n, .str s, h => by simp
  | 0, .tup xs, h => by simp [okD] at h
  | 0, .lst xs, h => by simp [okD] at h
  | n, .obj c fs, h => by simp [okD] at h
  | n, .dct kvs, h => by simp [okD] at h
  | n + 1, .tup xs, h => by simp only [okD_tup, deqB_tup] at h ⊢; exact deqBs_refl h
  | n + 1, .lst xs, h => by simp only [okD_lst, deqB_lst] at h ⊢; exact deqBs_refl h
theorem deqBs_refl : ∀ {n : Nat} {d : List D}, okDs n d = true → deqBs d d = true
  | _, [], _ => by simp
  | _, x :: xs, h => by simp only [okDs_cons, deqBs_cons, Bool.and_eq_true] at h ⊢; exact ⟨deqB_refl h.1, deqBs_refl h.2⟩
end
theorem opC_eqD {a b : D} (ha : okD 64 a = true) (hb : okD 64 b = true) : opC .eq a b = some (deqB a b) := deq_ok ha hb
theorem opC_neD {a b : D} (ha : okD 64 a = true) (hb : okD 64 b = true) : opC .ne a b = some (!deqB a b) := by simp only [opC, deq_ok ha hb]; rfl
theorem opC_eqS {a : D} (ha : okD 64 a = true) : opC .eq a a = some true := by rw [opC_eqD ha ha, deqB_refl ha]
theorem opC_neS {a : D} (ha : okD 64 a = true) : opC .ne a a = some false := by rw [opC_neD ha ha, deqB_refl ha]; rfl
/-! ### slices -/
section
variable (g : Sg) (ρ : Env) (st : Store)
noncomputable def cSl2 (x : R) (l : Option Int) (h : Option Int) : M R := slice x l h
noncomputable def cSl1 (g : Sg) (hi : Option Ex) (ρ : Env) (x : R) (l : Option Int) : M R := fun st => (denO g hi ρ st).bind (cSl2 x l)
noncomputable def cSl (g : Sg) (lo hi : Option Ex) (ρ : Env) (x : R) : M R := fun st => (denO g lo ρ st).bind (cSl1 g hi ρ x)
@[simp] theorem E_sl (a : Ex) (lo hi : Option Ex) : (den g (.sl a lo hi) ρ).e st = ((den g a ρ).e st).bind (cSl g lo hi ρ) := by simp only [den]; rfl
@[simp] theorem cSl_at (lo hi : Option Ex) (x : R) : cSl g lo hi ρ x st = (denO g lo ρ st).bind (cSl1 g hi ρ x) := id rfl
@[simp] theorem cSl1_at (hi : Option Ex) (x : R) (l : Option Int) : cSl1 g hi ρ x l st = (denO g hi ρ st).bind (cSl2 x l) := id rfl
noncomputable def someI (r : R) : M (Option Int) := fun st => (intOf r st).bind fun i => M.pure (some i)
@[simp] theorem O_none : denO g none ρ st = .ok none st := by simp only [denO]
@[simp] theorem O_some (e : Ex) : denO g (some e) ρ st = ((den g e ρ).e st).bind someI := by simp only [denO]; rfl
@[simp] theorem someI_v (i : Int) : someI (.v (.int i)) st = .ok (some i) st := id rfl
@[simp] theorem cSl2_lst (ds : List D) (l h : Option Int) : cSl2 (.v (.lst ds)) l h st = .ok (.v (.lst (cutR ds l h))) st := id rfl
@[simp] theorem cSl2_tup (ds : List D) (l h : Option Int) : cSl2 (.v (.tup ds)) l h st = .ok (.v (.tup (cutR ds l h))) st := id rfl
theorem cut_take {α : Type} (xs : List α) (n : Nat) : cutR xs none (some (n : Int)) = xs.take n := by
  unfold cutR
  rw [HT.sIx_none, HT.sIx_nat, List.drop_zero, Nat.sub_zero]
  rcases Nat.le_total n xs.length with h | h
  · rw [Nat.min_eq_left h]
  · rw [Nat.min_eq_right h, List.take_of_length_le h, List.take_of_length_le (Nat.le_refl _)]
theorem cutR_map {α β : Type} (f : α → β) (xs : List α) (l h : Option Int) : cutR (xs.map f) l h = (cutR xs l h).map f := by
  unfold cutR
  simp [List.map_drop, List.map_take]
/-! ### unpacking -/
noncomputable def kMany (is : List Nat) (ρ : Env) (xs : List R) : M Env := fun st => if xs.length = is.length then .ok ((is.zip xs).foldl (fun ρ p => ρ.set p.1 (some p.2)) ρ) st else .bad
@[simp] theorem bind_many (is : List Nat) (r : R) : bindTg (.many is) r ρ st = (items r st).bind (kMany is ρ) := by
  show (items r st).bind _ = _
  cases items r st with
  | ok xs s =>
    simp only [Out.bind_ok, kMany]
    split <;> rfl
  | exc c fs s => rfl
  | bad => rfl
theorem items_ref {n : Nat} {xs : List R} (h : st[n]? = some (.lst xs)) : items (.ref n) st = .ok xs st := by simp only [items, h]
@[simp] theorem kMany2 (i j : Nat) (x y : R) : kMany [i, j] ρ [x, y] st = .ok ((ρ.set i (some x)).set j (some y)) st := id rfl
@[simp] theorem kMany3 (i j k : Nat) (x y z : R) : kMany [i, j, k] ρ [x, y, z] st = .ok (((ρ.set i (some x)).set j (some y)).set k (some z)) st := id rfl
@[simp] theorem kMany5 (i j k l m : Nat) (x y z u v : R) : kMany [i, j, k, l, m] ρ [x, y, z, u, v] st = .ok (((((ρ.set i (some x)).set j (some y)).set k (some z)).set l (some u)).set m (some v)) st := id rfl
@[simp] theorem kMany4 (i j k l : Nat) (x y z u : R) : kMany [i, j, k, l] ρ [x, y, z, u] st = .ok ((((ρ.set i (some x)).set j (some y)).set k (some z)).set l (some u)) st := id rfl
theorem index_ref {n : Nat} {xs : List R} {i : Int} (h : st[n]? = some (.lst xs)) : index (.ref n) (.v (.int i)) st = M.of (L2.atI xs i) st := by
  show (items (.ref n) st).bind _ = _
  simp only [items, h, Out.bind_ok]
/-! ### comprehensions -/
noncomputable def lcF (g : Sg) (cell : Bool) (elt : Ex) (tg : Tg) (cond : Option Ex) (ρ : Env) (x : R) : M (Option R) := noExc (lcTurn cell tg (fun ρ => denC g cond ρ) (fun ρ => (den g elt ρ).e) ρ x)
noncomputable def kLc (g : Sg) (cell : Bool) (elt : Ex) (tg : Tg) (cond : Option Ex) (ρ : Env) (xs : List R) : M R := fun st => (chkN xs.length st).bind fun _ st => (lcGo (lcF g cell elt tg cond ρ) xs st).bind (lcFin cell)
@[simp] theorem E_lc (cell : Bool) (elt : Ex) (tg : Tg) (it : It) (cond : Option Ex) (own : List Nat) : (den g (.lc cell elt tg it cond own) ρ).e st = (denIt g it ρ st).bind (kLc g cell elt tg cond (wipeE ρ own)) := by simp only [den]; rfl
theorem lcGo_map {f : R → M (Option R)} {h : R → R} : ∀ {xs : List R}, (∀ x ∈ xs, f x st = .ok (some (h x)) st) → lcGo f xs st = .ok (xs.map h) st
  | [], _ => rfl
  | x :: xs, hh => by
    show (f x st).bind _ = _
    rw [hh x (by simp)]
    show (lcGo f xs st).bind _ = _
    rw [lcGo_map fun y hy => hh y (by simp [hy])]
    rfl
theorem lcGo_filterMap {f : R → M (Option R)} {h : R → Option R} : ∀ {xs : List R}, (∀ x ∈ xs, f x st = .ok (h x) st) → lcGo f xs st = .ok (xs.filterMap h) st
  | [], _ => rfl
  | x :: xs, hh => by
    show (f x st).bind _ = _
    rw [hh x (by simp)]
    show (lcGo f xs st).bind _ = _
    rw [lcGo_filterMap fun y hy => hh y (by simp [hy])]
    rw [Out.bind_ok, List.filterMap_cons]
    cases h x <;> rfl
theorem frzs_vs (ds : List D) : frzs (ds.map R.v) st = .ok ds st := by
  induction ds with
  | nil => rfl
  | cons d ds ih => simp [ih]
/-- [e for x in xs] of data -/
theorem kLc_map {elt : Ex} {tg : Tg} {xs : List R} {h : R → D} (hl : xs.length ≤ 100000) (hh : ∀ x ∈ xs, lcF g false elt tg none ρ x st = .ok (some (.v (h x))) st) : kLc g false elt tg none ρ xs st = .ok (.v (.lst (xs.map h))) st := by
  simp only [kLc, chkN, if_pos (Nat.le_trans hl (show 100000 ≤ sizeLine by decide)), Out.bind_ok]
  rw [lcGo_map (h := fun x => .v (h x)) st hh]
  simp only [Out.bind_ok, lcFin]
  have : xs.map (fun x => R.v (h x)) = (xs.map h).map R.v := by simp
  rw [this]
  show (frzs ((xs.map h).map R.v) st).bind _ = _
  rw [frzs_vs]; rfl
theorem kLc_filterMap {elt : Ex} {tg : Tg} {cond : Option Ex} {xs : List R} {h : R → Option D} (hl : xs.length ≤ 100000) (hh : ∀ x ∈ xs, lcF g false elt tg cond ρ x st = .ok ((h x).map R.v) st) : kLc g false elt tg cond ρ xs st = .ok (.v (.lst (xs.filterMap h))) st := by
  simp only [kLc, chkN, if_pos (Nat.le_trans hl (show 100000 ≤ sizeLine by decide)), Out.bind_ok]
  rw [lcGo_filterMap (h := fun x => (h x).map R.v) st hh]
  simp only [Out.bind_ok, lcFin]
  have : xs.filterMap (fun x => (h x).map R.v) = (xs.filterMap h).map R.v := by
    rw [List.map_filterMap]
  rw [this]
  show (frzs ((xs.filterMap h).map R.v) st).bind _ = _
  rw [frzs_vs]; rfl
noncomputable def kTurn2 (y : R) : M (Option R) := fun st => (frz y st).bind fun d => M.pure (some (.v d))
noncomputable def kTurn1 (g : Sg) (elt : Ex) (ρ : Env) (k : Bool) : M (Option R) := fun st => if k = true then ((den g elt ρ).e st).bind kTurn2 else .ok none st
noncomputable def kTurn (g : Sg) (elt : Ex) (cond : Option Ex) (ρ1 : Env) : M (Option R) := fun st => (denC g cond ρ1 st).bind (kTurn1 g elt ρ1)
noncomputable def noX {α : Type} : Out α → Out α
  | .exc _ _ _ => .bad
  | o => o
@[simp] theorem noX_ok {α : Type} (a : α) (s : Store) : noX (.ok a s) = .ok a s := id rfl
theorem lcF_at (elt : Ex) (tg : Tg) (cond : Option Ex) (x : R) : lcF g false elt tg cond ρ x st = noX ((bindTg tg x ρ st).bind (kTurn g elt cond)) := by
  have e : lcTurn false tg (fun ρ => denC g cond ρ) (fun ρ => (den g elt ρ).e) ρ x st = (bindTg tg x ρ st).bind (kTurn g elt cond) := by
    show (bindTg tg x ρ st).bind _ = _
    cases bindTg tg x ρ st with
    | ok ρ1 s1 =>
      show (denC g cond ρ1 s1).bind _ = (denC g cond ρ1 s1).bind _
      cases denC g cond ρ1 s1 with
      | ok k s2 => cases k <;> rfl
      | exc c fs s => rfl
      | bad => rfl
    | exc c fs s => rfl
    | bad => rfl
  rw [← e]
  show noExc _ st = _
  unfold noExc noX
  rfl
@[simp] theorem kTurn_at (elt : Ex) (cond : Option Ex) : kTurn g elt cond ρ st = (denC g cond ρ st).bind (kTurn1 g elt ρ) := id rfl
@[simp] theorem kTurn1_t (elt : Ex) : kTurn1 g elt ρ true st = ((den g elt ρ).e st).bind kTurn2 := id rfl
@[simp] theorem kTurn1_f (elt : Ex) : kTurn1 g elt ρ false st = .ok none st := id rfl
@[simp] theorem kTurn2_v (d : D) : kTurn2 (.v d) st = .ok (some (.v d)) st := id rfl
@[simp] theorem C_none : denC g none ρ st = .ok true st := by simp only [denC]
@[simp] theorem C_some (e : Ex) : denC g (some e) ρ st = (den g e ρ).t st := by simp only [denC]
/-! ### tries -/
noncomputable def clrR : OutS → OutS
  | .nx ρ2 st2 => .nx ρ2 st2
  | .rt r st2 => .rt r st2
  | _ => .bad
noncomputable def clrJ (j : Nat) : OutS → OutS
  | .nx ρ2 st2 => .nx (clrX (ρ2.set j none)) st2
  | .rt r st2 => .rt r st2
  | _ => .bad
@[simp] theorem clrR_nx : clrR (.nx ρ st) = .nx ρ st := id rfl
@[simp] theorem clrR_rt (r : R) : clrR (.rt r st) = .rt r st := id rfl
@[simp] theorem clrJ_nx (j : Nat) : clrJ j (.nx ρ st) = .nx (clrX (ρ.set j none)) st := id rfl
@[simp] theorem clrJ_rt (j : Nat) (r : R) : clrJ j (.rt r st) = .rt r st := id rfl
noncomputable def triK (g : Sg) (cs : List Nat) (i : Option Nat) (suite : List Sm) : OutS → OutS
  | .exc c fs ρ1 st1 => if c ∈ cs then (match i with
      | some j => clrJ j (denSs g suite ((clrX ρ1).set j (some (.ex c fs))) st1)
      | none => clrR (denSs g suite ρ1 st1)) else .exc c fs ρ1 st1
  | o => o
@[simp] theorem S_tri (body : List Sm) (cs : List Nat) (i : Option Nat) (suite : List Sm) : denS g (.tri body cs i suite) ρ st = triK g cs i suite (denSs g body ρ st) := by
  simp only [denS]
  cases denSs g body ρ st with
  | exc c fs ρ1 st1 =>
    simp only [triK]
    split
    · cases i with
      | none => simp only; cases denSs g suite ρ1 st1 <;> rfl
      | some j => simp only; cases denSs g suite ((clrX ρ1).set j (some (.ex c fs))) st1 <;> rfl
    · rfl
  | _ => rfl
@[simp] theorem triK_nx (cs : List Nat) (i : Option Nat) (suite : List Sm) : triK g cs i suite (.nx ρ st) = .nx ρ st := id rfl
@[simp] theorem triK_rt (cs : List Nat) (i : Option Nat) (suite : List Sm) (r : R) : triK g cs i suite (.rt r st) = .rt r st := id rfl
@[simp] theorem triK_bk (cs : List Nat) (i : Option Nat) (suite : List Sm) : triK g cs i suite (.bk ρ st) = .bk ρ st := id rfl
@[simp] theorem triK_ct (cs : List Nat) (i : Option Nat) (suite : List Sm) : triK g cs i suite (.ct ρ st) = .ct ρ st := id rfl
theorem triK_exc {c : Nat} {cs : List Nat} (h : c ∈ cs) (j : Nat) (suite : List Sm) (fs : List (Str × D)) : triK g cs (some j) suite (.exc c fs ρ st) = clrJ j (denSs g suite ((clrX ρ).set j (some (.ex c fs))) st) := if_pos h
theorem triK_exc0 {c : Nat} {cs : List Nat} (h : c ∈ cs) (suite : List Sm) (fs : List (Str × D)) : triK g cs none suite (.exc c fs ρ st) = clrR (denSs g suite ρ st) := if_pos h
theorem triK_excN {c : Nat} {cs : List Nat} (h : ¬ c ∈ cs) (i : Option Nat) (suite : List Sm) (fs : List (Str × D)) : triK g cs i suite (.exc c fs ρ st) = .exc c fs ρ st := if_neg h
noncomputable def isxK (ct : Ctab) (cs : List (Nat ⊕ String)) (o : Option (Option R)) : M R := match o with
    | some (some (.ex c _)) => M.pure (.v (.bl (cs.any (isExc1 ct c))))
    | _ => M.bad
@[simp] theorem E_isx (i : Nat) (cs : List (Nat ⊕ String)) : (den g (.isx i cs) ρ).e st = isxK g.ct cs ρ[i]? st := by simp only [den]; rfl
@[simp] theorem isxK_at (ct : Ctab) (cs : List (Nat ⊕ String)) (c : Nat) (fs : List (Str × D)) : isxK ct cs (some (some (.ex c fs))) st = .ok (.v (.bl (cs.any (isExc1 ct c)))) st := id rfl
@[simp] theorem clrX_nil : clrX [] = [] := id rfl
@[simp] theorem clrX_n (ρ : Env) : clrX (none :: ρ) = none :: clrX ρ := id rfl
@[simp] theorem clrX_v (d : D) (ρ : Env) : clrX (some (.v d) :: ρ) = some (.v d) :: clrX ρ := id rfl
@[simp] theorem clrX_ref (n : Nat) (ρ : Env) : clrX (some (.ref n) :: ρ) = some (.ref n) :: clrX ρ := id rfl
@[simp] theorem clrX_x (c : Nat) (fs : List (Str × D)) (ρ : Env) : clrX (some (.ex c fs) :: ρ) = none :: clrX ρ := id rfl
@[simp] theorem wipeE_nil : wipeE ρ [] = ρ := id rfl
@[simp] theorem wipeE_cons (v : Nat) (vs : List Nat) : wipeE ρ (v :: vs) = (wipeE ρ vs).set v none := id rfl
end
/-! ### ranges, None -/
section
variable (g : Sg) (ρ : Env) (st : Store)
noncomputable def rng2B (x y : R) : M (List R) := fun st => (intOf x st).bind fun i => (intOf y).bind fun j => itRng i j
noncomputable def rng2A (g : Sg) (b : Ex) (ρ : Env) (x : R) : M (List R) := fun st => ((den g b ρ).e st).bind (rng2B x)
@[simp] theorem It_rng2 (a b : Ex) : denIt g (.rng2 a b) ρ st = ((den g a ρ).e st).bind (rng2A g b ρ) := by simp only [denIt]; rfl
@[simp] theorem rng2A_at (b : Ex) (x : R) : rng2A g b ρ x st = ((den g b ρ).e st).bind (rng2B x) := id rfl
@[simp] theorem rng2B_v (i j : Int) : rng2B (.v (.int i)) (.v (.int j)) st = itRng i j st := by unfold rng2B; rw [show intOf (.v (.int i)) st = .ok i st from rfl, Out.bind_ok, M.bind_at, show intOf (.v (.int j)) st = .ok j st from rfl, Out.bind_ok]
end
@[simp] theorem isN_nn : opC .isN .non .non = some true := id rfl
@[simp] theorem isN_i (i : Int) : opC .isN (.int i) .non = some false := id rfl
@[simp] theorem isN_s (i : Str) : opC .isN (.str i) .non = some false := id rfl
@[simp] theorem isN_t (i : List D) : opC .isN (.tup i) .non = some false := id rfl
@[simp] theorem isN_l (i : List D) : opC .isN (.lst i) .non = some false := id rfl
@[simp] theorem isN_b (i : Bool) : opC .isN (.bl i) .non = some false := id rfl
@[simp] theorem isntN_nn : opC .isntN .non .non = some false := id rfl
@[simp] theorem isntN_i (i : Int) : opC .isntN (.int i) .non = some true := id rfl
@[simp] theorem isntN_s (i : Str) : opC .isntN (.str i) .non = some true := id rfl
@[simp] theorem isntN_t (i : List D) : opC .isntN (.tup i) .non = some true := id rfl
@[simp] theorem isntN_l (i : List D) : opC .isntN (.lst i) .non = some true := id rfl
@[simp] theorem isntN_b (i : Bool) : opC .isntN (.bl i) .non = some true := id rfl
@[simp] theorem len_tup (xs : List D) : opF .len [.tup xs] = some (.int xs.length) := id rfl
@[simp] theorem len_lst (xs : List D) : opF .len [.lst xs] = some (.int xs.length) := id rfl
/-! ### classes of data -/
@[simp] theorem isOne_non (ct : Ctab) (T : String) : isOne ct .non (.inr T) = some (isTy "NoneType" T) := id rfl
@[simp] theorem isOne_bl (ct : Ctab) (b : Bool) (T : String) : isOne ct (.bl b) (.inr T) = some (isTy "bool" T) := id rfl
@[simp] theorem isOne_int (ct : Ctab) (b : Int) (T : String) : isOne ct (.int b) (.inr T) = some (isTy "int" T) := id rfl
@[simp] theorem isOne_str (ct : Ctab) (b : Str) (T : String) : isOne ct (.str b) (.inr T) = some (isTy "str" T) := id rfl
@[simp] theorem isOne_tup (ct : Ctab) (b : List D) (T : String) : isOne ct (.tup b) (.inr T) = some (isTy "tuple" T) := id rfl
@[simp] theorem isOne_lst (ct : Ctab) (b : List D) (T : String) : isOne ct (.lst b) (.inr T) = some (isTy "list" T) := id rfl
@[simp] theorem isOne_obj (ct : Ctab) (c : Nat) (fs : List (Str × D)) (T : String) : isOne ct (.obj c fs) (.inr T) = some (ct.bas c T) := id rfl
@[simp] theorem isOne_objC (ct : Ctab) (c : Nat) (fs : List (Str × D)) (C : Nat) : isOne ct (.obj c fs) (.inl C) = some (ct.sub c C) := id rfl
@[simp] theorem isAny_nil (ct : Ctab) (d : D) : isAny ct d [] = some false := id rfl
theorem isAny_t (ct : Ctab) (d : D) (c : Nat ⊕ String) (cs : List (Nat ⊕ String)) (h : isOne ct d c = some true) : isAny ct d (c :: cs) = some true := by simp only [isAny, h]
theorem isAny_f (ct : Ctab) (d : D) (c : Nat ⊕ String) (cs : List (Nat ⊕ String)) (h : isOne ct d c = some false) : isAny ct d (c :: cs) = isAny ct d cs := by simp only [isAny, h]
@[simp] theorem isAny_1 (ct : Ctab) (d : D) (c : Nat ⊕ String) : isAny ct d [c] = isOne ct d c := by
  simp only [isAny]
  split <;> simp [*]
@[simp] theorem isTy_same (T : String) : isTy T T = true := by simp [isTy]
@[simp] theorem isTy_bi : isTy "bool" "int" = true := by decide
@[simp] theorem isTy_ib : isTy "int" "bool" = false := by decide
@[simp] theorem isTy_tb : isTy "tuple" "bool" = false := by decide
@[simp] theorem isTy_ti : isTy "tuple" "int" = false := by decide
@[simp] theorem isTy_lb : isTy "list" "bool" = false := by decide
@[simp] theorem isTy_li : isTy "list" "int" = false := by decide
@[simp] theorem isTy_sb : isTy "str" "bool" = false := by decide
@[simp] theorem isTy_si : isTy "str" "int" = false := by decide
@[simp] theorem isTy_nb : isTy "NoneType" "bool" = false := by decide
@[simp] theorem isTy_ni : isTy "NoneType" "int" = false := by decide
@[simp] theorem isTy_bt : isTy "bool" "tuple" = false := by decide
@[simp] theorem isTy_it : isTy "int" "tuple" = false := by decide
@[simp] theorem isTy_lt : isTy "list" "tuple" = false := by decide
@[simp] theorem isTy_st : isTy "str" "tuple" = false := by decide
@[simp] theorem isTy_nt : isTy "NoneType" "tuple" = false := by decide
@[simp] theorem isTy_bl : isTy "bool" "list" = false := by decide
@[simp] theorem isTy_il : isTy "int" "list" = false := by decide
@[simp] theorem isTy_tl : isTy "tuple" "list" = false := by decide
@[simp] theorem isTy_sl : isTy "str" "list" = false := by decide
@[simp] theorem isTy_nl : isTy "NoneType" "list" = false := by decide
@[simp] theorem isTy_bs : isTy "bool" "str" = false := by decide
@[simp] theorem isTy_is : isTy "int" "str" = false := by decide
@[simp] theorem isTy_ts : isTy "tuple" "str" = false := by decide
@[simp] theorem isTy_ls : isTy "list" "str" = false := by decide
@[simp] theorem isTy_ns : isTy "NoneType" "str" = false := by decide
/-! ### freezing -/
@[simp] theorem frzN_v (k : Nat) (d : D) (st : Store) : frzN k (.v d) st = .ok d st := by cases k <;> rfl
theorem frzL_vs (k : Nat) (ds : List D) (st : Store) : frzL (frzN k) (ds.map R.v) st = .ok ds st := by
  induction ds with
  | nil => rfl
  | cons d ds ih =>
    show (frzN k (.v d) st).bind _ = _
    rw [frzN_v]
    show (frzL (frzN k) (ds.map R.v) st).bind _ = _
    rw [ih]; rfl
theorem frzN_lst {st : Store} {n : Nat} {ds : List D} (k : Nat) (h : st[n]? = some (.lst (ds.map R.v))) : frzN (k + 1) (.ref n) st = .ok (.lst ds) (st.set n (.fz (.lst ds))) := by
  simp only [frzN, h, frzL_vs, Out.bind_ok, isL, if_true]
theorem frz_lst {st : Store} {n : Nat} {ds : List D} (h : st[n]? = some (.lst (ds.map R.v))) : frz (.ref n) st = .ok (.lst ds) (st.set n (.fz (.lst ds))) := frzN_lst 5 h
noncomputable def kFl {κ : Type} (f : R → M D) (nm : κ) (ps : List (κ × R)) (d : D) : M (List (κ × D)) := fun st => (frzFl f ps st).bind fun ds => M.pure ((nm, d) :: ds)
@[simp] theorem frzFl_nil {κ : Type} (f : R → M D) (st : Store) : frzFl f ([] : List (κ × R)) st = .ok [] st := id rfl
@[simp] theorem frzFl_cons {κ : Type} (f : R → M D) (nm : κ) (r : R) (ps : List (κ × R)) (st : Store) : frzFl f ((nm, r) :: ps) st = (f r st).bind (kFl f nm ps) := id rfl
noncomputable def consF {κ : Type} (nm : κ) (d : D) (ds : List (κ × D)) : M (List (κ × D)) := fun st => .ok ((nm, d) :: ds) st
@[simp] theorem consF_at {κ : Type} (nm : κ) (d : D) (ds : List (κ × D)) (st : Store) : consF nm d ds st = .ok ((nm, d) :: ds) st := id rfl
@[simp] theorem kFl_at {κ : Type} (f : R → M D) (nm : κ) (ps : List (κ × R)) (d : D) (st : Store) : kFl f nm ps d st = (frzFl f ps st).bind (consF nm d) := id rfl
theorem frz_obj {st st1 : Store} {n c : Nat} {fs : List (Str × R)} {ds : List (Str × D)} (h : st[n]? = some (.obj c fs)) (h1 : frzFl (frzN 5) fs st = .ok ds st1) (h2 : isO st1[n]? = true) : frz (.ref n) st = .ok (.obj c ds) (st1.set n (.fz (.obj c ds))) := by
  have e : ∀ k, frzFl (frzN k) fs st = .ok ds st1 → frzN (k + 1) (.ref n) st = .ok (.obj c ds) (st1.set n (.fz (.obj c ds))) := fun k hk => by
    rw [frzN]
    simp only [h, hk, Out.bind_ok, h2, if_true]
  exact e 5 h1
/-! ### objects -/
section
variable (g : Sg) (ρ : Env) (st : Store)
noncomputable def cNew (cell : Bool) (c : Nat) (pm : List (Nat ⊕ D)) (F : List R → M R) (rs : List R) : M R := newF cell c pm F rs
@[simp] theorem E_new (cell : Bool) (c f : Nat) (es : List Ex) (pm : List (Nat ⊕ D)) : (den g (.new cell c f es pm) ρ).e st = (denEs g es ρ st).bind (cNew cell c pm (g.S f)) := by simp only [den]; rfl
noncomputable def cMth2 (S : Nat → List R → M R) (pm : List (Nat ⊕ D)) (f : Nat) (x : R) (rs : List R) : M R := fun st => (M.of (assem (x :: rs) pm) st).bind (callF (S f))
noncomputable def cMth1 (g : Sg) (es : List Ex) (pm : List (Nat ⊕ D)) (ρ : Env) (x : R) (f : Nat) : M R := fun st => (denEs g es ρ st).bind (cMth2 g.S pm f x)
noncomputable def cMth (g : Sg) (nm : Str) (es : List Ex) (pm : List (Nat ⊕ D)) (ρ : Env) (x : R) : M R := fun st => (mthOf g.ct nm x st).bind (cMth1 g es pm ρ x)
@[simp] theorem E_mth (o : Ex) (nm : Str) (es : List Ex) (pm : List (Nat ⊕ D)) : (den g (.mth o nm es pm) ρ).e st = ((den g o ρ).e st).bind (cMth g nm es pm ρ) := by simp only [den]; rfl
@[simp] theorem cMth_at (nm : Str) (es : List Ex) (pm : List (Nat ⊕ D)) (x : R) : cMth g nm es pm ρ x st = (mthOf g.ct nm x st).bind (cMth1 g es pm ρ x) := id rfl
@[simp] theorem cMth1_at (es : List Ex) (pm : List (Nat ⊕ D)) (x : R) (f : Nat) : cMth1 g es pm ρ x f st = (denEs g es ρ st).bind (cMth2 g.S pm f x) := id rfl
@[simp] theorem cMth2_at (S : Nat → List R → M R) (pm : List (Nat ⊕ D)) (f : Nat) (x : R) (rs : List R) : cMth2 S pm f x rs st = (M.of (assem (x :: rs) pm) st).bind (callF (S f)) := id rfl
@[simp] theorem T_new (cell : Bool) (c f : Nat) (es : List Ex) (pm : List (Nat ⊕ D)) : (den g (.new cell c f es pm) ρ).t st = ((den g (.new cell c f es pm) ρ).e st).bind truth := by simp only [den]
@[simp] theorem T_mth (o : Ex) (nm : Str) (es : List Ex) (pm : List (Nat ⊕ D)) : (den g (.mth o nm es pm) ρ).t st = ((den g (.mth o nm es pm) ρ).e st).bind truth := by simp only [den]
theorem mthOf_v {ct : Ctab} {nm : Str} {d : D} {f : Nat} (h : mthD ct nm d = some f) : mthOf ct nm (.v d) st = .ok f st := by simp only [mthOf, h]
theorem mthOf_cell {ct : Ctab} {nm : Str} {n c f : Nat} {fs : List (Str × R)} (h : st[n]? = some (.obj c fs)) (h1 : fs.lookup nm = none) (h2 : ct.mth c nm = some f) : mthOf ct nm (.ref n) st = .ok f st := by
  simp only [mthOf, h, h1, h2]; rfl
noncomputable def cAttr (f : Str) (x : R) : M R := attrR x f
@[simp] theorem E_attr (a : Ex) (f : Str) : (den g (.attr a f) ρ).e st = ((den g a ρ).e st).bind (cAttr f) := by simp only [den]; rfl
@[simp] theorem T_attr (a : Ex) (f : Str) : (den g (.attr a f) ρ).t st = ((den g (.attr a f) ρ).e st).bind truth := by simp only [den]
theorem cAttr_v {c : Nat} {fs : List (Str × D)} {f : Str} {d : D} (h : fs.lookup f = some d) : cAttr f (.v (.obj c fs)) st = .ok (.v d) st := by simp only [cAttr, attrR, h]
theorem cAttr_cell {n c : Nat} {fs : List (Str × R)} {f : Str} {r : R} (h : st[n]? = some (.obj c fs)) (h1 : fs.lookup f = some r) : cAttr f (.ref n) st = .ok r st := by simp only [cAttr, attrR, h, h1]
noncomputable def kSetf3 (ρ : Env) (_ : Unit) (st : Store) : OutS := .nx ρ st
noncomputable def kSetf2 (f : Str) (x : R) (ρ : Env) (y : R) (st : Store) : OutS := (setFld y f x st).to ρ (kSetf3 ρ)
noncomputable def kSetf1 (g : Sg) (o : Ex) (f : Str) (ρ : Env) (x : R) (st : Store) : OutS := ((den g o ρ).e st).to ρ (kSetf2 f x ρ)
@[simp] theorem S_setf (o : Ex) (f : Str) (e : Ex) : denS g (.setf o f e) ρ st = ((den g e ρ).e st).to ρ (kSetf1 g o f ρ) := by simp only [denS]; rfl
@[simp] theorem kSetf1_at (o : Ex) (f : Str) (x : R) : kSetf1 g o f ρ x st = ((den g o ρ).e st).to ρ (kSetf2 f x ρ) := id rfl
@[simp] theorem kSetf2_at (f : Str) (x y : R) : kSetf2 f x ρ y st = (setFld y f x st).to ρ (kSetf3 ρ) := id rfl
@[simp] theorem kSetf3_at (u : Unit) : kSetf3 ρ u st = .nx ρ st := id rfl
theorem setFld_cell {n c : Nat} {fs : List (Str × R)} {f : Str} {r : R} (h : st[n]? = some (.obj c fs)) (hl : fs.length < 900) : setFld (.ref n) f r st = .ok () (st.set n (.obj c (putR f r fs))) := by simp only [setFld, h, hl, if_true]
@[simp] theorem putR_nil (f : Str) (r : R) : putR f r [] = [(f, r)] := id rfl
/-- raise with fields -/
noncomputable def kRse2 (c : Nat) (fs : List Str) (ρ : Env) (ds : List D) (st : Store) : OutS := if ds.length = fs.length then .exc c (fs.zip ds).reverse ρ st else .bad
noncomputable def kRse (c : Nat) (fs : List Str) (ρ : Env) (rs : List R) (st : Store) : OutS := (frzs rs st).to ρ (kRse2 c fs ρ)
theorem S_rse (c : Nat) (es : List Ex) (fs : List Str) : denS g (.rse c es fs) ρ st = (denEs g es ρ st).to ρ (kRse c fs ρ) := by simp only [denS]; rfl
@[simp] theorem S_rse1 (c : Nat) (e : Ex) (es : List Ex) (fs : List Str) : denS g (.rse c (e :: es) fs) ρ st = (denEs g (e :: es) ρ st).to ρ (kRse c fs ρ) := S_rse g ρ st c _ fs
@[simp] theorem kRse_at (c : Nat) (fs : List Str) (rs : List R) : kRse c fs ρ rs st = (frzs rs st).to ρ (kRse2 c fs ρ) := id rfl
@[simp] theorem kRse2_1 (c : Nat) (f : Str) (d : D) : kRse2 c [f] ρ [d] st = .exc c [(f, d)] ρ st := id rfl
@[simp] theorem kRse2_2 (c : Nat) (f f' : Str) (d d' : D) : kRse2 c [f, f'] ρ [d, d'] st = .exc c [(f', d'), (f, d)] ρ st := id rfl
@[simp] theorem kRse2_3 (c : Nat) (f f' f'' : Str) (d d' d'' : D) : kRse2 c [f, f', f''] ρ [d, d', d''] st = .exc c [(f'', d''), (f', d'), (f, d)] ρ st := id rfl
noncomputable def xatK (f : Str) (o : Option (Option R)) : M R := match o with
    | some (some (.ex _ fs)) => M.of ((fs.lookup f).map R.v)
    | _ => M.bad
@[simp] theorem E_xat (i : Nat) (f : Str) : (den g (.xat i f) ρ).e st = xatK f ρ[i]? st := by simp only [den]; rfl
@[simp] theorem T_xat (i : Nat) (f : Str) : (den g (.xat i f) ρ).t st = ((den g (.xat i f) ρ).e st).bind truth := by simp only [den]
@[simp] theorem xatK_at (f : Str) (c : Nat) (fs : List (Str × D)) : xatK f (some (some (.ex c fs))) st = M.of ((fs.lookup f).map R.v) st := id rfl
end
/-! ### stores -/
@[simp] theorem store_last (st : Store) (c : Cell) : (st ++ [c])[st.length]? = some c := by simp
@[simp] theorem store_setLast (st : Store) (c d : Cell) : (st ++ [c]).set st.length d = st ++ [d] := by simp
@[simp] theorem back_nx (ρ : Env) (st : Store) : OutS.back (.nx ρ st) = .ok (.v .non) st := id rfl
@[simp] theorem back_rt (r : R) (st : Store) : OutS.back (.rt r st) = .ok r st := id rfl
@[simp] theorem back_exc (c : Nat) (fs : List (Str × D)) (ρ : Env) (st : Store) : OutS.back (.exc c fs ρ st) = .exc c fs st := id rfl
/-- a for whose turns all go through: an invariant of the number of turns done -/
theorem FR_inv {g : Sg} {tg : Tg} {body : List Sm} (I : Nat → Env → Store → Prop) {xs : List R} {ρ : Env} {st : Store} (h0 : I 0 ρ st)
    (h : ∀ (k : Nat) (x : R), xs[k]? = some x → ∀ ρ st, I k ρ st → ∃ ρ1 st1, bindTg tg x ρ st = .ok ρ1 st1 ∧ ∃ ρ2 st2, (denSs g body ρ1 st1 = .nx ρ2 st2 ∨ denSs g body ρ1 st1 = .ct ρ2 st2) ∧ I (k + 1) ρ2 st2) :
    ∃ ρ' st', FR g tg body xs ρ st = .nx ρ' st' ∧ I xs.length ρ' st' := by
  suffices H : ∀ (ys : List R) (k : Nat), xs.drop k = ys → ∀ ρ st, I k ρ st → ∃ ρ' st', FR g tg body ys ρ st = .nx ρ' st' ∧ I (k + ys.length) ρ' st' by
    obtain ⟨ρ', st', h1, h2⟩ := H xs 0 (by simp) ρ st h0
    exact ⟨ρ', st', h1, by simpa using h2⟩
  intro ys
  induction ys with
  | nil => intro k _ ρ st hI; exact ⟨ρ, st, FR_nil g ρ st tg body, by simpa using hI⟩
  | cons y ys ih =>
    intro k hk ρ st hI
    have hy : xs[k]? = some y := by
      have := congrArg (·[0]?) hk
      simpa [List.getElem?_drop] using this
    have hd : xs.drop (k + 1) = ys := by
      have := congrArg (List.drop 1) hk
      simpa [List.drop_drop] using this
    obtain ⟨ρ1, st1, e1, ρ2, st2, e2, hI2⟩ := h k y hy ρ st hI
    obtain ⟨ρ', st', e3, hI3⟩ := ih (k + 1) hd ρ2 st2 hI2
    refine ⟨ρ', st', ?_, by rw [List.length_cons]; rw [show k + (ys.length + 1) = k + 1 + ys.length by omega]; exact hI3⟩
    rw [FR_cons, e1, Out.to_ok, kFr1_at]
    rcases e2 with e2 | e2 <;> rw [e2] <;> simpa using e3
end SV

/-! Rq: lowest terms, by gcd and floor division -/
namespace SV
theorem fdiv_exact {g a : Int} (hg : g ≠ 0) : (g * a).fdiv g = a := by
  rw [Int.mul_comm]; exact Int.mul_fdiv_cancel a hg
/-- lowest terms -/
theorem low_num (a b : Int) (hb : b ≠ 0) : a.fdiv (if b < 0 then -(Int.gcd a b : Int) else (Int.gcd a b : Int)) = (Rat.divInt a b).num ∧ b.fdiv (if b < 0 then -(Int.gcd a b : Int) else (Int.gcd a b : Int)) = ((Rat.divInt a b).den : Int) := by
  rw [Rat.num_divInt, Rat.den_divInt, if_neg hb, Int.gcd_comm b a]
  have hg : 0 < Int.gcd a b := Int.gcd_pos_of_ne_zero_right a hb
  generalize hG : Int.gcd a b = G at *
  have ha : (G : Int) ∣ a := hG ▸ Int.gcd_dvd_left a b
  have hb' : (G : Int) ∣ b := hG ▸ Int.gcd_dvd_right a b
  obtain ⟨x, rfl⟩ := ha
  obtain ⟨y, rfl⟩ := hb'
  have hG0 : (G : Int) ≠ 0 := by omega
  have hGp : (0 : Int) < G := by omega
  have hy : y ≠ 0 := by rintro rfl; simp at hb
  have hyn : (((G * y : Int).natAbs / G : Nat) : Int) = (y.natAbs : Int) := by
    rw [Int.natAbs_mul, Int.natAbs_natCast, Nat.mul_div_cancel_left _ hg]
  rw [hyn]
  by_cases h : (G : Int) * y < 0
  · have hy0 : y < 0 := by
      rcases Int.lt_or_le y 0 with q | q
      · exact q
      · exact absurd (Int.mul_nonneg (Int.le_of_lt hGp) q) (by omega)
    rw [if_pos h, show (G * y : Int).sign = -1 from Int.sign_eq_neg_one_of_neg h]
    refine ⟨?_, ?_⟩
    · rw [show (G : Int) * x = (-(G : Int)) * (-x) by grind, fdiv_exact (by omega)]
      rw [show (-1 : Int) * (-(G : Int) * -x) = (G : Int) * (-x) by grind, Int.mul_ediv_cancel_left _ hG0]
    · rw [show (G : Int) * y = (-(G : Int)) * (-y) by grind, fdiv_exact (by omega)]
      omega
  · have hy0 : 0 < y := by
      rcases Int.lt_or_le 0 y with q | q
      · exact q
      · exact absurd (show (G : Int) * y < 0 from Int.mul_neg_of_pos_of_neg hGp (by omega)) h
    rw [if_neg h, show (G * y : Int).sign = 1 from Int.sign_eq_one_of_pos (Int.mul_pos hGp hy0), Int.one_mul]
    refine ⟨?_, ?_⟩
    · rw [fdiv_exact hG0, Int.mul_ediv_cancel_left _ hG0]
    · rw [fdiv_exact hG0]; omega
theorem divInt_add' (p q : Rat) : Rat.divInt (p.num * q.den + q.num * p.den) (p.den * q.den) = p + q := by
  rw [Rat.add_def', ← Rat.divInt_ofNat]; rfl
theorem divInt_sub' (p q : Rat) : Rat.divInt (p.num * q.den - q.num * p.den) (p.den * q.den) = p - q := by
  rw [Rat.sub_def', ← Rat.divInt_ofNat]; rfl
theorem divInt_mul' (p q : Rat) : Rat.divInt (p.num * q.num) (p.den * q.den) = p * q := by
  rw [Rat.mul_def', ← Rat.divInt_ofNat]; rfl
theorem divInt_div' (p q : Rat) : Rat.divInt (p.num * q.den) (p.den * q.num) = p / q := by
  rw [Rat.div_def, Rat.inv_def]
  conv => rhs; rw [← Rat.num_divInt_den p]
  rw [Rat.divInt_mul_divInt]
theorem rat_eq_iff (p q : Rat) : p = q ↔ p.num = q.num ∧ (p.den : Int) = q.den := by
  constructor
  · rintro rfl; exact ⟨rfl, rfl⟩
  · rintro ⟨h1, h2⟩; exact Rat.ext h1 (by omega)
/-- floor of a quotient, as the program reckons it -/
theorem fdiv_floor (p q : Rat) (hp : 0 < p) : (q.num * p.den).fdiv (q.den * p.num) = (q / p).floor := by
  have hpn : 0 < p.num := by
    have := (Rat.lt_iff 0 p).mp hp
    simpa using this
  have hqd : (0 : Int) < q.den := by have := q.den_nz; omega
  have hpd : (0 : Int) < p.den := by have := p.den_nz; omega
  have hd : (0 : Int) < q.den * p.num := Int.mul_pos hqd hpn
  rw [Int.fdiv_eq_ediv_of_nonneg _ (Int.le_of_lt hd), ← divInt_div', Rat.floor_def]
  have hb : (q.den * p.num : Int) ≠ 0 := by omega
  obtain ⟨h1, h2⟩ := low_num (q.num * p.den) (q.den * p.num) hb
  rw [← h1, ← h2, if_neg (by omega)]
  have hg : 0 < Int.gcd (q.num * p.den) (q.den * p.num) := Int.gcd_pos_of_ne_zero_right _ hb
  generalize hG : Int.gcd (q.num * p.den) (q.den * p.num) = G at *
  have ha : (G : Int) ∣ (q.num * p.den) := hG ▸ Int.gcd_dvd_left _ _
  have hb' : (G : Int) ∣ (q.den * p.num) := hG ▸ Int.gcd_dvd_right _ _
  generalize (q.num * p.den : Int) = A at *
  generalize (q.den * p.num : Int) = B at *
  obtain ⟨x, rfl⟩ := ha
  obtain ⟨y, rfl⟩ := hb'
  have hG0 : (G : Int) ≠ 0 := by omega
  have hGp : (0 : Int) < G := by omega
  rw [fdiv_exact hG0, fdiv_exact hG0, Int.mul_ediv_mul_of_pos _ _ hGp]
end SV

set_option maxRecDepth 100000
set_option maxHeartbeats 4000000
/-! SvY: worths as rationals: what the program's own small defs tell -/
namespace SV
open PySem PySem.Spec PyProof.Rows
open L2 hiding It
/-- a call of plain data tells d -/
def Ret (F : List R → M R) (ds : List D) (d : D) : Prop := ∀ st, callF F (ds.map R.v) st = .ok (.v d) st
/-- .. raises -/
def Rse (F : List R → M R) (ds : List D) (c : Nat) (fs : List (Str × D)) : Prop := ∀ st, callF F (ds.map R.v) st = .exc c fs st
theorem all_v (ds : List D) : ((ds.map R.v).all fun r => (valOf r).isSome) = true := by
  induction ds with
  | nil => rfl
  | cons d ds ih => simp [valOf] 
theorem ret_of {F : List R → M R} {ds : List D} {d : D} {s1 : Store} (h : F (ds.map R.v) [] = .ok (.v d) s1) : Ret F ds d := fun st => by
  rw [callF_ok (all_v ds) h (frz_v d s1)]
theorem ret_of_frz {F : List R → M R} {ds : List D} {r : R} {d : D} {s1 s2 : Store} (h : F (ds.map R.v) [] = .ok r s1) (h2 : frz r s1 = .ok d s2) : Ret F ds d := fun st => by
  rw [callF_ok (all_v ds) h h2]
theorem rse_of {F : List R → M R} {ds : List D} {c : Nat} {fs : List (Str × D)} {s1 : Store} (h : F (ds.map R.v) [] = .exc c fs s1) : Rse F ds c fs := fun st => by
  rw [callF_exc (all_v ds) h]
theorem Ret.c1 {F : List R → M R} {a d : D} (h : Ret F [a] d) (st : Store) : callF F [.v a] st = .ok (.v d) st := h st
theorem Ret.c2 {F : List R → M R} {a b d : D} (h : Ret F [a, b] d) (st : Store) : callF F [.v a, .v b] st = .ok (.v d) st := h st
theorem Ret.c3 {F : List R → M R} {a b c d : D} (h : Ret F [a, b, c] d) (st : Store) : callF F [.v a, .v b, .v c] st = .ok (.v d) st := h st
theorem Rse.c1 {F : List R → M R} {a : D} {c : Nat} {fs : List (Str × D)} (h : Rse F [a] c fs) (st : Store) : callF F [.v a] st = .exc c fs st := h st
theorem Rse.c2 {F : List R → M R} {a b : D} {c : Nat} {fs : List (Str × D)} (h : Rse F [a, b] c fs) (st : Store) : callF F [.v a, .v b] st = .exc c fs st := h st
/-! ### calls -/
@[simp] theorem assem_nil (rs : List R) : assem rs [] = some [] := id rfl
@[simp] theorem assem_d (rs : List R) (d : D) (pm : List (Nat ⊕ D)) : assem rs (.inr d :: pm) = (assem rs pm).map (R.v d :: ·) := id rfl
theorem assem_k {rs : List R} {k : Nat} {r : R} {pm : List (Nat ⊕ D)} (h : rs[k]? = some r) : assem rs (.inl k :: pm) = (assem rs pm).map (r :: ·) := by
  simp only [assem, h]
  cases assem rs pm <;> rfl
@[simp] theorem assem_0 (r : R) (rs : List R) (pm : List (Nat ⊕ D)) : assem (r :: rs) (.inl 0 :: pm) = (assem (r :: rs) pm).map (r :: ·) := assem_k rfl
@[simp] theorem assem_1 (a r : R) (rs : List R) (pm : List (Nat ⊕ D)) : assem (a :: r :: rs) (.inl 1 :: pm) = (assem (a :: r :: rs) pm).map (r :: ·) := assem_k rfl
@[simp] theorem assem_2 (a b r : R) (rs : List R) (pm : List (Nat ⊕ D)) : assem (a :: b :: r :: rs) (.inl 2 :: pm) = (assem (a :: b :: r :: rs) pm).map (r :: ·) := assem_k rfl
@[simp] theorem assem_3 (a b c r : R) (rs : List R) (pm : List (Nat ⊕ D)) : assem (a :: b :: c :: r :: rs) (.inl 3 :: pm) = (assem (a :: b :: c :: r :: rs) pm).map (r :: ·) := assem_k rfl
@[simp] theorem assem_4 (a b c e r : R) (rs : List R) (pm : List (Nat ⊕ D)) : assem (a :: b :: c :: e :: r :: rs) (.inl 4 :: pm) = (assem (a :: b :: c :: e :: r :: rs) pm).map (r :: ·) := assem_k rfl
@[simp] theorem cPm_def (F : List R → M R) (pm : List (Nat ⊕ D)) (rs : List R) (st : Store) : cPm F pm rs st = (M.of (assem rs pm) st).bind (callF F) := id rfl
/-! ### places -/
@[simp] theorem atI_natCast {α : Type} (xs : List α) (n : Nat) : L2.atI xs (n : Int) = xs[n]? := by
  unfold L2.atI L2.ixN
  by_cases h : n < xs.length
  · rw [if_pos (by omega), if_pos (by omega)]; rfl
  · rw [if_pos (by omega), if_neg (by omega)]
    rw [List.getElem?_eq_none (by omega)]; rfl
@[simp] theorem atI_lit {α : Type} (xs : List α) (n : Nat) : L2.atI xs (no_index (OfNat.ofNat n : Int)) = xs[n]? := atI_natCast xs n
@[simp] theorem atI_neg1 {α : Type} (xs : List α) : L2.atI xs (-1) = xs.getLast? := by
  unfold L2.atI L2.ixN
  rw [List.getLast?_eq_getElem?]
  by_cases h : xs = []
  · subst h; rfl
  · have : 0 < xs.length := List.length_pos_iff.mpr h
    rw [if_neg (by omega), if_pos (by omega)]
    show xs[(-1 + (xs.length : Int)).toNat]? = _
    congr 1; omega
/-! ### worths -/
def wD (q : Rat) : D := .tup [.int q.num, .int q.den]
/-- not too great -/
def BIG : Nat := 2 ^ 4000
def Sz (q : Rat) : Prop := q.num.natAbs < BIG ∧ q.den < BIG
theorem big_ge : 2 ^ 250 ≤ BIG := Nat.pow_le_pow_right (by decide) (by decide)
theorem den_pos (q : Rat) : (0 : Int) < q.den := by have := q.den_nz; omega
@[simp] theorem tyD_w (q : Rat) : tyD (wD q) = some "tuple" := id rfl
@[simp] theorem len_w (q : Rat) : opF .len [wD q] = some (.int 2) := id rfl
@[simp] theorem isOne_w (ct : Ctab) (q : Rat) (T : String) : isOne ct (wD q) (.inr T) = some (isTy "tuple" T) := id rfl
@[simp] theorem ix_w0 (q : Rat) (st : Store) : index (.v (wD q)) (.v (.int 0)) st = .ok (.v (.int q.num)) st := id rfl
@[simp] theorem ix_w1 (q : Rat) (st : Store) : index (.v (wD q)) (.v (.int 1)) st = .ok (.v (.int q.den)) st := id rfl
@[simp] theorem opC_eqW (p q : Rat) : opC .eq (wD p) (wD q) = some (decide (p = q)) := by
  unfold wD
  rw [opC_eqT]
  congr 1
  rw [Bool.eq_iff_iff]
  simp [rat_eq_iff p q]
@[simp] theorem opC_neW (p q : Rat) : opC .ne (wD p) (wD q) = some (!decide (p = q)) := by
  have := opC_eqW p q
  simp only [opC] at this ⊢
  rw [this]; rfl
theorem log2_lt {n : Nat} {k : Nat} (h : n < 2 ^ k) (hk : 0 < k) : n.log2 < k := by
  by_cases hn : n = 0
  · subst hn; simpa using hk
  · exact (Nat.log2_lt hn).mpr h
theorem mul_szs {a b : Int} (ha : a.natAbs < BIG) (hb : b.natAbs < BIG) : opB .mul (.int a) (.int b) = some (.int (a * b)) := by
  refine opB_mul a b ?_
  have h1 := log2_lt (k := 4000) ha (by decide)
  have h2 := log2_lt (k := 4000) hb (by decide)
  omega
theorem Sz.nn {p q : Rat} (hp : Sz p) (hq : Sz q) : opB .mul (.int p.num) (.int q.num) = some (.int (p.num * q.num)) := mul_szs hp.1 hq.1
theorem Sz.nd {p q : Rat} (hp : Sz p) (hq : Sz q) : opB .mul (.int p.num) (.int q.den) = some (.int (p.num * q.den)) := mul_szs hp.1 (by simpa using hq.2)
theorem Sz.dn {p q : Rat} (hp : Sz p) (hq : Sz q) : opB .mul (.int p.den) (.int q.num) = some (.int (p.den * q.num)) := mul_szs (by simpa using hp.2) hq.1
theorem Sz.dd {p q : Rat} (hp : Sz p) (hq : Sz q) : opB .mul (.int p.den) (.int q.den) = some (.int (p.den * q.den)) := mul_szs (by simpa using hp.2) (by simpa using hq.2)
end SV

set_option maxRecDepth 100000
set_option maxHeartbeats 4000000
/-! SvZ: the program's small defs over worths -/
namespace SV
open PySem PySem.Spec PyProof.Rows
open L2 hiding It
section
variable {g : Sg}
/-! ### is_whole -/
def isWholeFn : Fn := ⟨[.ret (.and (.isi (.var 0) [.inr "int"]) (.not (.isi (.var 0) [.inr "bool"])))], 1⟩
theorem isWhole_int (i : Int) : Ret (denF g isWholeFn) [.int i] (.bl true) := by
  apply ret_of (s1 := [])
  simp [denF, isWholeFn, OutS.back]
/-! ### common_part -/
def cpFn : Fn := ⟨[.par 0 1 (.blt .abs [(.var 0)]) (.blt .abs [(.var 1)]), .whl (.cmp .gt (.var 1) (.con (D.int 0))) [.par 0 1 (.var 1) (.bin .mod (.var 0) (.var 1))], .ret (.var 0)], 2⟩
theorem cp_loop (st : Store) : ∀ (n a b : Nat), b ≤ n → WH g (.cmp .gt (.var 1) (.con (D.int 0))) [.par 0 1 (.var 1) (.bin .mod (.var 0) (.var 1))] [some (.v (.int a)), some (.v (.int b))] st = .nx [some (.v (.int (Nat.gcd a b : Nat))), some (.v (.int 0))] st := by
  intro n
  induction n with
  | zero =>
    intro a b h
    obtain rfl : b = 0 := by omega
    rw [WH_step]; simp
  | succ n ih =>
    intro a b h
    rw [WH_step]
    by_cases hb : b = 0
    · subst hb; simp
    · have hb' : (b : Int) ≠ 0 := by omega
      have hpos : (0 : Int) < b := by omega
      have hm : ((a : Int).fmod b) = ((a % b : Nat) : Int) := by
        rw [Int.fmod_eq_emod_of_nonneg _ (by omega)]; rfl
      have hlt : a % b < b := Nat.mod_lt _ (by omega)
      simp [show 0 < b by omega, opB_mod _ _ hb', hm]
      have := ih b (a % b) (by omega)
      rw [Nat.gcd_comm b, ← Nat.gcd_rec, Nat.gcd_comm] at this
      simpa using this
theorem cp_ok (a b : Int) : Ret (denF g cpFn) [.int a, .int b] (.int (Int.gcd a b : Nat)) := by
  apply ret_of (s1 := [])
  simp [denF, cpFn, cp_loop [] b.natAbs a.natAbs b.natAbs (Nat.le_refl _), OutS.back, Int.gcd]
/-! ### is_worth -/
def isWorthFn (iw cp : Nat) : Fn := ⟨[.ite (.or (.not (.isi (.var 0) [.inr "tuple"])) (.or (.cmp .ne (.blt .len [(.var 0)]) (.con (D.int 2))) (.or (.not (.call iw [(.ix (.var 0) (.con (D.int 0)))] [.inl 0])) (.not (.call iw [(.ix (.var 0) (.con (D.int 1)))] [.inl 0]))))) [.ret (.con (D.bl false))] [], .ret (.and (.cmp .gt (.ix (.var 0) (.con (D.int 1))) (.con (D.int 0))) (.cmp .eq (.call cp [(.ix (.var 0) (.con (D.int 0))), (.ix (.var 0) (.con (D.int 1)))] [.inl 0, .inl 1]) (.con (D.int 1))))], 1⟩
def IsWholeOk (F : List R → M R) : Prop := ∀ i : Int, Ret F [.int i] (.bl true)
def CpOk (F : List R → M R) : Prop := ∀ a b : Int, Ret F [.int a, .int b] (.int (Int.gcd a b : Nat))
theorem IsWholeOk.s {F : List R → M R} (h : IsWholeOk F) (i : Int) (st : Store) : callF F [.v (.int i)] st = .ok (.v (.bl true)) st := h i st
theorem CpOk.s {F : List R → M R} (h : CpOk F) (i j : Int) (st : Store) : callF F [.v (.int i), .v (.int j)] st = .ok (.v (.int (Int.gcd i j : Nat))) st := h i j st
theorem isWorth_w {iw cp : Nat} (h1 : IsWholeOk (g.S iw)) (h2 : CpOk (g.S cp)) (q : Rat) : Ret (denF g (isWorthFn iw cp)) [wD q] (.bl true) := by
  apply ret_of (s1 := [])
  have hd := den_pos q
  have hd' := q.den_nz
  have hg : Int.gcd q.num q.den = 1 := q.reduced
  simp [denF, isWorthFn, OutS.back, h1.s, h2.s, hg, show 0 < q.den by omega]
/-! ### worth -/
def worthFn (iw cp e : Nat) : Fn := ⟨[.ite (.or (.not (.call iw [(.var 0)] [.inl 0])) (.or (.not (.call iw [(.var 1)] [.inl 0])) (.cmp .eq (.var 1) (.con (D.int 0))))) [.rse e [] []] [], .asg 2 (.call cp [(.var 0), (.var 1)] [.inl 0, .inl 1]), .ite (.cmp .lt (.var 1) (.con (D.int 0))) [.asg 2 (.neg (.var 2))] [], .ret (.tup [(.bin .fdiv (.var 0) (.var 2)), (.bin .fdiv (.var 1) (.var 2))])], 3⟩
theorem gcd_log {a b : Int} (hb : b ≠ 0) (h : b.natAbs < BIG * BIG) : (Int.gcd a b : Int).natAbs.log2 < 9000 ∧ (-(Int.gcd a b : Int)).natAbs.log2 < 9000 := by
  have hp : 0 < b.natAbs := by omega
  have h1 : Int.gcd a b ≤ b.natAbs := Nat.le_of_dvd hp (Int.gcd_dvd_natAbs_right a b)
  have h2 : Int.gcd a b < 2 ^ 8000 := by
    have : BIG * BIG = 2 ^ 8000 := by unfold BIG; rw [← Nat.pow_add]
    omega
  have := log2_lt h2 (by decide)
  constructor
  · rw [Int.natAbs_natCast]; omega
  · rw [Int.natAbs_neg, Int.natAbs_natCast]; omega
theorem worth_ok {iw cp e : Nat} (h1 : IsWholeOk (g.S iw)) (h2 : CpOk (g.S cp)) (a b : Int) (hb : b ≠ 0) (hB : b.natAbs < BIG * BIG) : Ret (denF g (worthFn iw cp e)) [.int a, .int b] (wD (Rat.divInt a b)) := by
  apply ret_of (s1 := [])
  obtain ⟨l1, l2⟩ := gcd_log (a := a) hb hB
  obtain ⟨e1, e2⟩ := low_num a b hb
  have hg : 0 < Int.gcd a b := Int.gcd_pos_of_ne_zero_right a hb
  by_cases hn : b < 0
  · rw [if_pos hn] at e1 e2
    simp [denF, worthFn, OutS.back, h1.s, h2.s, hb, hn, opB_fdiv _ _ (show -(Int.gcd a b : Int) ≠ 0 by omega) l2, e1, e2, wD]
  · rw [if_neg hn] at e1 e2
    simp [denF, worthFn, OutS.back, h1.s, h2.s, hb, hn, opB_fdiv _ _ (show (Int.gcd a b : Int) ≠ 0 by omega) l1, e1, e2, wD]
def WorthOk (F : List R → M R) (e : Nat) : Prop := (∀ a b : Int, b ≠ 0 → b.natAbs < BIG * BIG → Ret F [.int a, .int b] (wD (Rat.divInt a b))) ∧ ∀ a : Int, Rse F [.int a, .int 0] e []
theorem worth_0 {iw cp e : Nat} (h1 : IsWholeOk (g.S iw)) (a : Int) : Rse (denF g (worthFn iw cp e)) [.int a, .int 0] e [] := by
  apply rse_of (s1 := [])
  simp [denF, worthFn, OutS.back, h1.s]
theorem WorthOk.s {F : List R → M R} {e : Nat} (h : WorthOk F e) (a b : Int) (hb : b ≠ 0) (hB : b.natAbs < BIG * BIG) (st : Store) : callF F [.v (.int a), .v (.int b)] st = .ok (.v (wD (Rat.divInt a b))) st := h.1 a b hb hB st
theorem dd_lt {p q : Rat} (hp : Sz p) (hq : Sz q) : ((p.den : Int) * q.den).natAbs < BIG * BIG := by
  rw [Int.natAbs_mul, Int.natAbs_natCast, Int.natAbs_natCast]
  exact Nat.mul_lt_mul'' hp.2 hq.2
theorem dd_ne (p q : Rat) : ((p.den : Int) * q.den) ≠ 0 := by
  have := Int.mul_pos (den_pos p) (den_pos q)
  omega
theorem dn_lt {p q : Rat} (hp : Sz p) (hq : Sz q) : ((p.den : Int) * q.num).natAbs < BIG * BIG := by
  rw [Int.natAbs_mul, Int.natAbs_natCast]
  exact Nat.mul_lt_mul'' hp.2 hq.1
theorem num_ne {q : Rat} (h : q ≠ 0) : q.num ≠ 0 := fun z => h (Rat.num_eq_zero.mp z)
theorem dn_ne (p : Rat) {q : Rat} (h : q ≠ 0) : ((p.den : Int) * q.num) ≠ 0 := Int.mul_ne_zero (by have := den_pos p; omega) (num_ne h)
/-! ### plus, minus, times, over, is_less, and the law's own -/
def plusFn (w : Nat) : Fn := ⟨[.ret (.call w [(.bin .add (.bin .mul (.ix (.var 0) (.con (D.int 0))) (.ix (.var 1) (.con (D.int 1)))) (.bin .mul (.ix (.var 1) (.con (D.int 0))) (.ix (.var 0) (.con (D.int 1))))), (.bin .mul (.ix (.var 0) (.con (D.int 1))) (.ix (.var 1) (.con (D.int 1))))] [.inl 0, .inl 1])], 2⟩
def minusFn (w : Nat) : Fn := ⟨[.ret (.call w [(.bin .sub (.bin .mul (.ix (.var 0) (.con (D.int 0))) (.ix (.var 1) (.con (D.int 1)))) (.bin .mul (.ix (.var 1) (.con (D.int 0))) (.ix (.var 0) (.con (D.int 1))))), (.bin .mul (.ix (.var 0) (.con (D.int 1))) (.ix (.var 1) (.con (D.int 1))))] [.inl 0, .inl 1])], 2⟩
def timesFn (w : Nat) : Fn := ⟨[.ret (.call w [(.bin .mul (.ix (.var 0) (.con (D.int 0))) (.ix (.var 1) (.con (D.int 0)))), (.bin .mul (.ix (.var 0) (.con (D.int 1))) (.ix (.var 1) (.con (D.int 1))))] [.inl 0, .inl 1])], 2⟩
def overFn (w e : Nat) : Fn := ⟨[.ite (.cmp .eq (.ix (.var 1) (.con (D.int 0))) (.con (D.int 0))) [.rse e [] []] [], .ret (.call w [(.bin .mul (.ix (.var 0) (.con (D.int 0))) (.ix (.var 1) (.con (D.int 1)))), (.bin .mul (.ix (.var 0) (.con (D.int 1))) (.ix (.var 1) (.con (D.int 0))))] [.inl 0, .inl 1])], 2⟩
def lessFn : Fn := ⟨[.ret (.cmp .lt (.bin .mul (.ix (.var 0) (.con (D.int 0))) (.ix (.var 1) (.con (D.int 1)))) (.bin .mul (.ix (.var 1) (.con (D.int 0))) (.ix (.var 0) (.con (D.int 1)))))], 2⟩
/-- two worths to a worth -/
def Op2 (F : List R → M R) (f : Rat → Rat → Rat) : Prop := ∀ p q, Sz p → Sz q → Ret F [wD p, wD q] (wD (f p q))
def LessOk (F : List R → M R) : Prop := ∀ p q, Sz p → Sz q → Ret F [wD p, wD q] (.bl (decide (p < q)))
def OverOk (F : List R → M R) (e : Nat) : Prop := (∀ p q, Sz p → Sz q → q ≠ 0 → Ret F [wD p, wD q] (wD (p / q))) ∧ ∀ p, Rse F [wD p, wD 0] e []
theorem Op2.s {F : List R → M R} {f : Rat → Rat → Rat} (h : Op2 F f) {p q : Rat} (hp : Sz p) (hq : Sz q) (st : Store) : callF F [.v (wD p), .v (wD q)] st = .ok (.v (wD (f p q))) st := h p q hp hq st
theorem LessOk.s {F : List R → M R} (h : LessOk F) {p q : Rat} (hp : Sz p) (hq : Sz q) (st : Store) : callF F [.v (wD p), .v (wD q)] st = .ok (.v (.bl (decide (p < q)))) st := h p q hp hq st
theorem OverOk.s {F : List R → M R} {e : Nat} (h : OverOk F e) {p q : Rat} (hp : Sz p) (hq : Sz q) (h0 : q ≠ 0) (st : Store) : callF F [.v (wD p), .v (wD q)] st = .ok (.v (wD (p / q))) st := h.1 p q hp hq h0 st
theorem plus_ok {w e : Nat} (h : WorthOk (g.S w) e) : Op2 (denF g (plusFn w)) (· + ·) := fun p q hp hq => by
  apply ret_of (s1 := [])
  simp [denF, plusFn, OutS.back, hp.nd hq, hq.nd hp, hp.dd hq, h.s _ _ (dd_ne p q) (dd_lt hp hq), divInt_add']
theorem minus_ok {w e : Nat} (h : WorthOk (g.S w) e) : Op2 (denF g (minusFn w)) (· - ·) := fun p q hp hq => by
  apply ret_of (s1 := [])
  simp [denF, minusFn, OutS.back, hp.nd hq, hq.nd hp, hp.dd hq, h.s _ _ (dd_ne p q) (dd_lt hp hq), divInt_sub']
theorem times_ok {w e : Nat} (h : WorthOk (g.S w) e) : Op2 (denF g (timesFn w)) (· * ·) := fun p q hp hq => by
  apply ret_of (s1 := [])
  simp [denF, timesFn, OutS.back, hp.nn hq, hp.dd hq, h.s _ _ (dd_ne p q) (dd_lt hp hq), divInt_mul']
theorem less_ok : LessOk (denF g lessFn) := fun p q hp hq => by
  apply ret_of (s1 := [])
  simp [denF, lessFn, OutS.back, hp.nd hq, hq.nd hp, Rat.lt_iff]
theorem over_ok {w e e' : Nat} (h : WorthOk (g.S w) e) : OverOk (denF g (overFn w e')) e' := ⟨fun p q hp hq h0 => by
  apply ret_of (s1 := [])
  simp [denF, overFn, OutS.back, num_ne h0, hp.nd hq, hp.dn hq, h.s _ _ (dn_ne p h0) (dn_lt hp hq), divInt_div'], fun p => by
  apply rse_of (s1 := [])
  simp [denF, overFn, OutS.back]⟩
/-! ### _law_low -/
def lowFn : Fn := ⟨[.par 2 3 (.blt .abs [(.var 0)]) (.blt .abs [(.var 1)]), .whl (.cmp .gt (.var 3) (.con (D.int 0))) [.par 2 3 (.var 3) (.bin .mod (.var 2) (.var 3))], .ite (.cmp .lt (.var 1) (.con (D.int 0))) [.asg 2 (.bin .sub (.con (D.int 0)) (.var 2))] [], .ret (.tup [(.bin .fdiv (.var 0) (.var 2)), (.bin .fdiv (.var 1) (.var 2))])], 4⟩
theorem low_loop (st : Store) (x y : Option R) : ∀ (n a b : Nat), b ≤ n → WH g (.cmp .gt (.var 3) (.con (D.int 0))) [.par 2 3 (.var 3) (.bin .mod (.var 2) (.var 3))] [x, y, some (.v (.int a)), some (.v (.int b))] st = .nx [x, y, some (.v (.int (Nat.gcd a b : Nat))), some (.v (.int 0))] st := by
  intro n
  induction n with
  | zero =>
    intro a b h
    obtain rfl : b = 0 := by omega
    rw [WH_step]; simp
  | succ n ih =>
    intro a b h
    rw [WH_step]
    by_cases hb : b = 0
    · subst hb; simp
    · have hb' : (b : Int) ≠ 0 := by omega
      have hm : ((a : Int).fmod b) = ((a % b : Nat) : Int) := by
        rw [Int.fmod_eq_emod_of_nonneg _ (by omega)]; rfl
      have hlt : a % b < b := Nat.mod_lt _ (by omega)
      simp [show 0 < b by omega, opB_mod _ _ hb', hm]
      have := ih b (a % b) (by omega)
      rw [Nat.gcd_comm b, ← Nat.gcd_rec, Nat.gcd_comm] at this
      simpa using this
def LowOk (F : List R → M R) : Prop := ∀ a b : Int, b ≠ 0 → b.natAbs < BIG * BIG → Ret F [.int a, .int b] (wD (Rat.divInt a b))
theorem LowOk.s {F : List R → M R} (h : LowOk F) (a b : Int) (hb : b ≠ 0) (hB : b.natAbs < BIG * BIG) (st : Store) : callF F [.v (.int a), .v (.int b)] st = .ok (.v (wD (Rat.divInt a b))) st := h a b hb hB st
theorem low_ok : LowOk (denF g lowFn) := fun a b hb hB => by
  apply ret_of (s1 := [])
  obtain ⟨l1, l2⟩ := gcd_log (a := a) hb hB
  obtain ⟨e1, e2⟩ := low_num a b hb
  have hg : 0 < Int.gcd a b := Int.gcd_pos_of_ne_zero_right a hb
  have hL := low_loop (g := g) [] (some (.v (.int a))) (some (.v (.int b))) b.natAbs a.natAbs b.natAbs (Nat.le_refl _)
  rw [show Nat.gcd a.natAbs b.natAbs = Int.gcd a b from rfl] at hL
  by_cases hn : b < 0
  · rw [if_pos hn] at e1 e2
    simp [denF, lowFn, OutS.back, hL, hn, opB_fdiv _ _ (show -(Int.gcd a b : Int) ≠ 0 by omega) l2, e1, e2, wD]
  · rw [if_neg hn] at e1 e2
    simp [denF, lowFn, OutS.back, hL, hn, opB_fdiv _ _ (show (Int.gcd a b : Int) ≠ 0 by omega) l1, e1, e2, wD]
theorem LowOk.worth {F : List R → M R} (h : LowOk F) : ∀ a b : Int, b ≠ 0 → b.natAbs < BIG * BIG → Ret F [.int a, .int b] (wD (Rat.divInt a b)) := h
theorem ladd_ok {w : Nat} (h : LowOk (g.S w)) : Op2 (denF g (plusFn w)) (· + ·) := fun p q hp hq => by
  apply ret_of (s1 := [])
  simp [denF, plusFn, OutS.back, hp.nd hq, hq.nd hp, hp.dd hq, h.s _ _ (dd_ne p q) (dd_lt hp hq), divInt_add']
theorem ltake_ok {w : Nat} (h : LowOk (g.S w)) : Op2 (denF g (minusFn w)) (· - ·) := fun p q hp hq => by
  apply ret_of (s1 := [])
  simp [denF, minusFn, OutS.back, hp.nd hq, hq.nd hp, hp.dd hq, h.s _ _ (dd_ne p q) (dd_lt hp hq), divInt_sub']
theorem lby_ok {w : Nat} (h : LowOk (g.S w)) : Op2 (denF g (timesFn w)) (· * ·) := fun p q hp hq => by
  apply ret_of (s1 := [])
  simp [denF, timesFn, OutS.back, hp.nn hq, hp.dd hq, h.s _ _ (dd_ne p q) (dd_lt hp hq), divInt_mul']
end
end SV

set_option maxRecDepth 100000
set_option maxHeartbeats 4000000
/-! SvZb: a law's digits -/
namespace SV
open PySem PySem.Spec PyProof.Rows
open L2 hiding It
section
variable {g : Sg}
theorem mul_sm {a b : Int} (ha : a.natAbs < 2 ^ 250) (hb : b.natAbs < 2 ^ 250) : opB .mul (.int a) (.int b) = some (.int (a * b)) := mul_szs (Nat.lt_of_lt_of_le ha big_ge) (Nat.lt_of_lt_of_le hb big_ge)
theorem fdiv_sm (a : Int) {b : Int} (h : b ≠ 0) (hb : b.natAbs < 2 ^ 250) : opB .fdiv (.int a) (.int b) = some (.int (a.fdiv b)) := opB_fdiv a b h (Nat.lt_trans (log2_lt hb (by decide)) (by decide))
theorem pow_sm (a b : Nat) (ha : a < 2 ^ 64) (hb : b ≤ 1000000) : opB .pow (.int a) (.int b) = some (.int (a ^ b : Nat)) := by
  have h : ((b : Nat) : Int) ≤ 1000000 := by omega
  simp [opB, ha, h]
def digitsBody : List Sm := [.asg 4 (.bin .mod (.bin .add (.bin .add (.bin .mul (.var 4) (.con (D.int 48271))) (.bin .mul (.con (D.int 30103)) (.var 5))) (.con (D.int 11))) (.con (D.int 2147483647))), .asg 4 (.bin .mod (.bin .mul (.var 4) (.bin .add (.bin .fdiv (.var 4) (.con (D.int 1009))) (.con (D.int 69621)))) (.con (D.int 2147483629))), .ite (.cmp .gt (.var 3) (.con (D.int 0))) [.ex (.bm .append (.var 2) [(.bin .mod (.var 3) (.con (D.int 1009)))]), .asg 3 (.bin .fdiv (.var 3) (.con (D.int 1009)))] [.ex (.bm .append (.var 2) [(.bin .mod (.bin .fdiv (.var 4) (.con (D.int 7))) (.con (D.int 1009)))])]]
def digitsFn : Fn := ⟨[.asg 2 (.lst true []), .asg 3 (.con (D.int 0)), .ite (.cmp .ge (.var 0) (.bin .pow (.con (D.int 10)) (.con (D.int 18)))) [.asg 3 (.var 0)] [], .asg 4 (.bin .mod (.var 0) (.con (D.int 2147483647))), .frr (.one 5) (.rng (.var 1)) digitsBody, .ret (.var 2)], 6⟩
theorem dig_loop (c n : R) : ∀ (m s : Nat) (xs : List Int) (rest num : Int) (o : Option R), xs.length + m ≤ 100000 → s + m ≤ 100000 → 0 ≤ num → num < 2147483647 →
    ∃ rest' num' o' ys, ys.length = m ∧ (∀ y ∈ ys, 0 ≤ y ∧ y < 1009) ∧ FR g (.one 5) digitsBody ((List.range' s m).map fun (k : Nat) => R.v (.int (k : Int))) [some c, some n, some (.ref 0), some (.v (.int rest)), some (.v (.int num)), o] [.lst (xs.map fun x => R.v (.int x))] =
      .nx [some c, some n, some (.ref 0), some (.v (.int rest')), some (.v (.int num')), o'] [.lst ((xs ++ ys).map fun x => R.v (.int x))] := by
  intro m
  induction m with
  | zero =>
    intro s xs rest num o _ _ _ _
    exact ⟨rest, num, o, [], rfl, by simp, by simp [FR_nil]⟩
  | succ m ih =>
    intro s xs rest num o hx hs h0 h1
    have e1 : opB .mul (.int num) (.int 48271) = some (.int (num * 48271)) := mul_sm (by omega) (by omega)
    have e2 : opB .mul (.int 30103) (.int (s : Int)) = some (.int (30103 * s)) := mul_sm (by omega) (by omega)
    generalize hn1 : (num * 48271 + 30103 * (s : Int) + 11).fmod 2147483647 = n1
    have b1 : 0 ≤ n1 ∧ n1 < 2147483647 := by
      rw [← hn1, Int.fmod_eq_emod_of_nonneg _ (by omega)]; omega
    have e3 : opB .mul (.int n1) (.int (n1.fdiv 1009 + 69621)) = some (.int (n1 * (n1.fdiv 1009 + 69621))) := by
      have : 0 ≤ n1.fdiv 1009 ∧ n1.fdiv 1009 ≤ n1 := by
        rw [Int.fdiv_eq_ediv_of_nonneg _ (by omega)]; omega
      exact mul_sm (by omega) (by omega)
    generalize hn2 : (n1 * (n1.fdiv 1009 + 69621)).fmod 2147483629 = n2
    have b2 : 0 ≤ n2 ∧ n2 < 2147483629 := by
      rw [← hn2, Int.fmod_eq_emod_of_nonneg _ (by omega)]; omega
    rw [List.range'_succ, List.map_cons, FR_cons]
    have hl : (xs.map fun x => R.v (.int x)).length < sizeLine := by
      rw [List.length_map]
      exact Nat.lt_of_lt_of_le (show xs.length < 100000 by omega) (by decide)
    by_cases hr : 0 < rest
    · obtain ⟨rest', num', o', ys, h2, h3, h4⟩ := ih (s + 1) (xs ++ [rest.fmod 1009]) (rest.fdiv 1009) n2 (some (.v (.int (s : Int)))) (by simp; omega) (by omega) b2.1 (by omega)
      refine ⟨rest', num', o', rest.fmod 1009 :: ys, by simp [h2], ?_, ?_⟩
      · intro y hy
        rcases List.mem_cons.mp hy with rfl | hy
        · rw [Int.fmod_eq_emod_of_nonneg _ (by omega)]; omega
        · exact h3 y hy
      · rw [List.append_assoc, List.singleton_append] at h4
        rw [← h4]
        simp [digitsBody, e1, e2, hn1, e3, hn2, opB_mod, fdiv_sm, hr, cBm1_at (xs := xs.map fun x => R.v (.int x)), opM_append (xs := xs.map fun x => R.v (.int x)) (hl := hl)]
    · obtain ⟨rest', num', o', ys, h2, h3, h4⟩ := ih (s + 1) (xs ++ [(n2.fdiv 7).fmod 1009]) rest n2 (some (.v (.int (s : Int)))) (by simp; omega) (by omega) b2.1 (by omega)
      refine ⟨rest', num', o', (n2.fdiv 7).fmod 1009 :: ys, by simp [h2], ?_, ?_⟩
      · intro y hy
        rcases List.mem_cons.mp hy with rfl | hy
        · rw [Int.fmod_eq_emod_of_nonneg _ (by omega)]; omega
        · exact h3 y hy
      · rw [List.append_assoc, List.singleton_append] at h4
        rw [← h4]
        simp [digitsBody, e1, e2, hn1, e3, hn2, opB_mod, fdiv_sm, hr, cBm1_at (xs := xs.map fun x => R.v (.int x)), opM_append (xs := xs.map fun x => R.v (.int x)) (hl := hl)]
/-- n digits below 1009 -/
def DigOk (F : List R → M R) : Prop := ∀ (c : Int) (n : Nat), n ≤ 100000 → ∃ ys : List Int, ys.length = n ∧ (∀ y ∈ ys, 0 ≤ y ∧ y < 1009) ∧ Ret F [.int c, .int n] (.lst (ys.map D.int))
theorem mapM_val (xs : List Int) : (xs.map fun x => R.v (.int x)).mapM valOf = some (xs.map D.int) := by
  induction xs with
  | nil => rfl
  | cons x xs ih => simp [valOf, ih]
theorem digits_ok : DigOk (denF g digitsFn) := fun c n hn => by
  have hm : 0 ≤ c.fmod 2147483647 ∧ c.fmod 2147483647 < 2147483647 := by
    rw [Int.fmod_eq_emod_of_nonneg _ (by omega)]; omega
  obtain ⟨rest', num', o', ys, h1, h2, h3⟩ := dig_loop (g := g) (.v (.int c)) (.v (.int n)) n 0 [] (if 1000000000000000000 ≤ c then c else 0) (c.fmod 2147483647) none (by simpa using hn) (by simpa using hn) hm.1 hm.2
  refine ⟨ys, h1, h2, ret_of_frz (ds := [.int c, .int n]) (r := .ref 0) (s1 := [.lst (ys.map fun x => R.v (.int x))]) (s2 := [.fz (.lst (ys.map D.int))]) ?_ ?_⟩
  · simp only [List.map_nil, List.nil_append, ← List.range_eq_range'] at h3
    have hp : opB .pow (.int 10) (.int 18) = some (.int 1000000000000000000) := by simp [opB]
    by_cases hc' : (1000000000000000000 : Int) ≤ c
    · rw [if_pos hc'] at h3
      simp [denF, digitsFn, OutS.back, hp, hc', opB_mod, rng0_ok _ n (by omega), h3]
    · rw [if_neg hc'] at h3
      simp [denF, digitsFn, OutS.back, hp, hc', opB_mod, rng0_ok _ n (by omega), h3]
  · have e : (ys.map fun x => R.v (.int x)) = (ys.map D.int).map R.v := by simp
    rw [e]
    exact frz_lst rfl
/-! ### a law's frame: cells of the script, one by one -/
theorem law_frame {N n : Nat} {ds : List Int} {outer : List Sm} {fn : Fn} (hb : fn.body = [.asg 1 (.sl (.var 0) none (some (.con (D.int N)))), .ite (.cmp .eq (.var 1) (.lst false [])) [.asg 1 (.lst false (ds.map fun d => .con (.int d)))] [], .frr (.one 2) (.over (.var 1)) outer, .ret (.con (.bl true))])
    (hn : fn.n = n + 3) (h : ∀ (c : Int) (o0 o1 : Option R) (os : List (Option R)) (st : Store), os.length = n → ∃ os' st', os'.length = n ∧ denSs g outer (o0 :: o1 :: some (.v (.int c)) :: os) st = .nx (o0 :: o1 :: some (.v (.int c)) :: os') st') (ns : List Int) :
    ∃ st, denF g fn [.v (.lst (ns.map D.int))] [] = .ok (.v (.bl true)) st := by
  have loop : ∀ (cs : List Int) (o0 o1 o2 : Option R) (os : List (Option R)) (st : Store), os.length = n → ∃ ρ st', FR g (.one 2) outer (cs.map fun c => R.v (.int c)) (o0 :: o1 :: o2 :: os) st = .nx ρ st' := by
    intro cs
    induction cs with
    | nil => intro o0 o1 o2 os st _; exact ⟨_, _, FR_nil ..⟩
    | cons c cs ih =>
      intro o0 o1 o2 os st ho
      obtain ⟨os', st', h1, h2⟩ := h c o0 o1 os st ho
      obtain ⟨ρ, st2, h3⟩ := ih o0 o1 (some (.v (.int c))) os' st' h1
      refine ⟨ρ, st2, ?_⟩
      rw [List.map_cons, FR_cons]
      simp only [bind_one, Out.to_ok, kFr1_at, List.set_cons_succ, List.set_cons_zero, h2, OutS.turn_nx, h3]
  have hcut : cutR (ns.map D.int) none (some (N : Int)) = (ns.take N).map D.int := by
    rw [cutR_map]; exact congrArg _ (cut_take ns N)
  have heq : opC .eq (.lst ((ns.take N).map D.int)) (.lst []) = some (ns.take N).isEmpty := deq_ints_nil _
  have hm : ∀ l : List Int, (l.map D.int).map R.v = l.map fun c => R.v (.int c) := fun l => by simp
  have hEs : ∀ (l : List Int) (ρ : Env) (st : Store), denEs g (l.map fun d => .con (.int d)) ρ st = .ok (l.map fun c => R.v (.int c)) st := by
    intro l
    induction l with
    | nil => intro ρ st; simp
    | cons a l ih => intro ρ st; simp [ih]
  unfold denF
  rw [hb, hn]
  generalize ns.take N = cs at *
  simp only [List.map_cons, List.map_nil, List.length_cons, List.length_nil]
  rw [show n + 3 - (0 + 1) = n + 2 by omega, List.replicate_succ, List.replicate_succ]
  have e1 : ∀ o1 o2 o3 : Option R, rdVar (o1 :: some (.v (.lst (cs.map D.int))) :: o2 :: List.replicate n none) 1 [] = .ok (.v (.lst (cs.map D.int))) [] := fun _ _ _ => rfl
  cases q : cs.isEmpty with
  | true =>
    rw [q] at heq
    obtain ⟨ρ, st', h⟩ := loop ds (some (.v (.lst (ns.map D.int)))) (some (.v (.lst (ds.map D.int)))) none (List.replicate n none) [] (by simp)
    refine ⟨st', ?_⟩
    have hfr : ∀ st, frzs (ds.map fun c => R.v (.int c)) st = .ok (ds.map D.int) st := fun st => by
      have := frzs_vs st (ds.map D.int)
      rwa [hm] at this
    simp [hcut, heq, hEs, hfr, -List.map_map, hm, h]
  | false =>
    rw [q] at heq
    obtain ⟨ρ, st', h⟩ := loop cs (some (.v (.lst (ns.map D.int)))) (some (.v (.lst (cs.map D.int)))) none (List.replicate n none) [] (by simp)
    exact ⟨st', by simp [hcut, heq, -List.map_map, hm, h]⟩
end
end SV

set_option maxRecDepth 100000
set_option maxHeartbeats 4000000
/-! SvZc: sizes of worths; rest_of; lines -/
namespace SV
open PySem PySem.Spec PyProof.Rows
open L2 hiding It
/-! ### sizes -/
def Bd (n : Nat) (q : Rat) : Prop := q.num.natAbs < 2 ^ n ∧ q.den < 2 ^ n
theorem Bd.sz {n : Nat} {q : Rat} (h : Bd n q) (hn : n ≤ 4000) : Sz q := by
  have : 2 ^ n ≤ BIG := Nat.pow_le_pow_right (by decide) hn
  exact ⟨Nat.lt_of_lt_of_le h.1 this, Nat.lt_of_lt_of_le h.2 this⟩
theorem Bd.mono {n m : Nat} {q : Rat} (h : Bd n q) (hn : n ≤ m) : Bd m q := by
  have : 2 ^ n ≤ 2 ^ m := Nat.pow_le_pow_right (by decide) hn
  exact ⟨Nat.lt_of_lt_of_le h.1 this, Nat.lt_of_lt_of_le h.2 this⟩
theorem divInt_le {a b : Int} (hb : b ≠ 0) : (Rat.divInt a b).num.natAbs ≤ a.natAbs ∧ (Rat.divInt a b).den ≤ b.natAbs := by
  cases e : Rat.divInt a b with
  | mk' n d z c =>
    obtain ⟨m, m0, e1, e2⟩ := Rat.divInt_num_den hb e
    have hm : 1 ≤ m.natAbs := by omega
    constructor
    · rw [e1, Int.natAbs_mul]
      exact Nat.le_mul_of_pos_right _ hm
    · rw [e2, Int.natAbs_mul]
      exact Nat.le_mul_of_pos_right _ hm
theorem bd_divInt {n : Nat} {a b : Int} (hb : b ≠ 0) (h1 : a.natAbs < 2 ^ n) (h2 : b.natAbs < 2 ^ n) : Bd n (Rat.divInt a b) :=
  ⟨Nat.lt_of_le_of_lt (divInt_le hb).1 h1, Nat.lt_of_le_of_lt (divInt_le hb).2 h2⟩
theorem natAbs_mul_lt {a b : Int} {n m : Nat} (h1 : a.natAbs < 2 ^ n) (h2 : b.natAbs < 2 ^ m) : (a * b).natAbs < 2 ^ (n + m) := by
  rw [Int.natAbs_mul, Nat.pow_add]
  exact Nat.mul_lt_mul'' h1 h2
theorem Bd.dn {n : Nat} {q : Rat} (h : Bd n q) : (q.den : Int).natAbs < 2 ^ n := by simpa using h.2
theorem Bd.add {n m : Nat} {p q : Rat} (hp : Bd n p) (hq : Bd m q) : Bd (n + m + 1) (p + q) := by
  rw [← divInt_add']
  have a1 := natAbs_mul_lt hp.1 hq.dn
  have a2 := natAbs_mul_lt hq.1 hp.dn
  rw [Nat.add_comm m n] at a2
  have a3 := natAbs_mul_lt hp.dn hq.dn
  refine bd_divInt (dd_ne p q) ?_ ?_
  · refine Nat.lt_of_le_of_lt (Int.natAbs_add_le _ _) ?_
    rw [Nat.pow_succ]; omega
  · rw [Nat.pow_succ]; omega
theorem Bd.sub {n m : Nat} {p q : Rat} (hp : Bd n p) (hq : Bd m q) : Bd (n + m + 1) (p - q) := by
  rw [← divInt_sub']
  have a1 := natAbs_mul_lt hp.1 hq.dn
  have a2 := natAbs_mul_lt hq.1 hp.dn
  rw [Nat.add_comm m n] at a2
  have a3 := natAbs_mul_lt hp.dn hq.dn
  refine bd_divInt (dd_ne p q) ?_ ?_
  · refine Nat.lt_of_le_of_lt (Int.natAbs_sub_le _ _) ?_
    rw [Nat.pow_succ]; omega
  · rw [Nat.pow_succ]; omega
theorem Bd.mul {n m : Nat} {p q : Rat} (hp : Bd n p) (hq : Bd m q) : Bd (n + m) (p * q) := by
  rw [← divInt_mul']
  exact bd_divInt (dd_ne p q) (natAbs_mul_lt hp.1 hq.1) (natAbs_mul_lt hp.dn hq.dn)
theorem Bd.div {n m : Nat} {p q : Rat} (hp : Bd n p) (hq : Bd m q) (h0 : q ≠ 0) : Bd (n + m) (p / q) := by
  rw [← divInt_div']
  exact bd_divInt (dn_ne p h0) (natAbs_mul_lt hp.1 hq.dn) (natAbs_mul_lt hp.dn hq.1)
theorem bd_int {n : Nat} {i : Int} (h : i.natAbs < 2 ^ n) (hn : 0 < n) : Bd n (i : Rat) := ⟨h, by show 1 < 2 ^ n; exact Nat.one_lt_two_pow (by omega)⟩
theorem Bd.floor {n : Nat} {q : Rat} (h : Bd n q) : q.floor.natAbs < 2 ^ (n + 1) := by
  have e : q.floor = q.num / q.den := Rat.floor_def q
  have hd := den_pos q
  have h1 : q.num.natAbs < 2 ^ n := h.1
  have h2 : q.floor.natAbs ≤ q.num.natAbs := by
    rw [e]
    rcases Int.le_total 0 q.num with z | z
    · have a := Int.ediv_nonneg z (Int.le_of_lt hd)
      have b := Int.ediv_le_self (q.den : Int) z
      omega
    · have a : q.num / q.den ≤ 0 := by
        have := Int.ediv_le_ediv hd z
        simpa using this
      have b : q.num ≤ q.num / q.den := by
        have := Int.ediv_mul_le q.num (show (q.den : Int) ≠ 0 by omega)
        have c : q.num / q.den * q.den ≤ q.num / q.den * 1 := Int.mul_le_mul_of_nonpos_left a (by omega)
        have d := Int.lt_ediv_add_one_mul_self q.num hd
        rcases Int.lt_or_le (q.num / q.den) q.num with y | y
        · exfalso
          have e1 : (q.num / q.den + 1) * q.den ≤ (q.num / q.den + 1) * 1 := Int.mul_le_mul_of_nonpos_left (by omega) (by omega)
          omega
        · exact y
      omega
  rw [Nat.pow_succ]; omega
/-! ### rounds_in, rest_of -/
def rmod (t x : Rat) : Rat := x - ((x / t).floor : Rat) * t
section
variable {g : Sg}
def roundsFn : Fn := ⟨[.ret (.bin .fdiv (.bin .mul (.ix (.var 1) (.con (D.int 0))) (.ix (.var 0) (.con (D.int 1)))) (.bin .mul (.ix (.var 1) (.con (D.int 1))) (.ix (.var 0) (.con (D.int 0)))))], 2⟩
def RoundsOk (F : List R → M R) : Prop := ∀ t x : Rat, Sz t → Sz x → 0 < t → Ret F [wD t, wD x] (.int (x / t).floor)
theorem RoundsOk.s {F : List R → M R} (h : RoundsOk F) {t x : Rat} (ht : Sz t) (hx : Sz x) (h0 : 0 < t) (st : Store) : callF F [.v (wD t), .v (wD x)] st = .ok (.v (.int (x / t).floor)) st := h t x ht hx h0 st
theorem rounds_ok : RoundsOk (denF g roundsFn) := fun t x ht hx h0 => by
  apply ret_of (s1 := [])
  have hn : t ≠ 0 := fun z => by rw [z] at h0; exact absurd h0 Rat.lt_irrefl
  have hl : ((x.den : Int) * t.num).natAbs.log2 < 9000 := by
    have := dn_lt hx ht
    have h2 : BIG * BIG = 2 ^ 8000 := by unfold BIG; rw [← Nat.pow_add]
    rw [h2] at this
    exact Nat.lt_trans (log2_lt this (by decide)) (by decide)
  simp [denF, roundsFn, hx.nd ht, hx.dn ht, opB_fdiv _ _ (dn_ne x hn) hl, fdiv_floor t x h0]
def restFn (mi ti ri : Nat) : Fn := ⟨[.ret (.call mi [(.var 1), (.call ti [(.tup [(.call ri [(.var 0), (.var 1)] [.inl 0, .inl 1]), (.con (D.int 1))]), (.var 0)] [.inl 0, .inl 1])] [.inl 0, .inl 1])], 2⟩
def RestOk (F : List R → M R) : Prop := ∀ (t x : Rat) (n : Nat), Bd n t → Bd n x → n ≤ 600 → 0 < t → Ret F [wD t, wD x] (wD (rmod t x))
theorem wD_int (i : Int) : D.tup [.int i, .int 1] = wD (i : Rat) := rfl
theorem rest_ok {mi ti ri : Nat} (h1 : Op2 (g.S mi) (· - ·)) (h2 : Op2 (g.S ti) (· * ·)) (h3 : RoundsOk (g.S ri)) : RestOk (denF g (restFn mi ti ri)) := fun t x n ht hx hn h0 => by
  apply ret_of (s1 := [])
  have hne : t ≠ 0 := fun z => by rw [z] at h0; exact absurd h0 Rat.lt_irrefl
  have b1 : Bd (n + n + 1) (((x / t).floor : Int) : Rat) := bd_int (hx.div ht hne).floor (by omega)
  have b2 := b1.mul ht
  simp [denF, restFn, h3.s (ht.sz (by omega)) (hx.sz (by omega)) h0, wD_int, h2.s (b1.sz (by omega)) (ht.sz (by omega)), h1.s (hx.sz (by omega)) (b2.sz (by omega))]
  rfl
theorem RestOk.s {F : List R → M R} (h : RestOk F) {t x : Rat} {n : Nat} (ht : Bd n t) (hx : Bd n x) (hn : n ≤ 600) (h0 : 0 < t) (st : Store) : callF F [.v (wD t), .v (wD x)] st = .ok (.v (wD (rmod t x))) st := h t x n ht hx hn h0 st
end
theorem rmod_nonneg {t : Rat} (h : 0 < t) (x : Rat) : 0 ≤ rmod t x := by
  have h1 := Rat.floor_le (x / t)
  have h2 : ((x / t).floor : Rat) * t ≤ x / t * t := Rat.mul_le_mul_of_nonneg_right h1 (Rat.le_of_lt h)
  rw [Rat.div_mul_cancel (fun z => by rw [z] at h; exact absurd h Rat.lt_irrefl)] at h2
  unfold rmod; grind
theorem rmod_lt {t : Rat} (h : 0 < t) (x : Rat) : rmod t x < t := by
  have h1 := Rat.lt_floor_add_one (x / t)
  have h2 : x / t * t < (((x / t).floor + 1 : Int) : Rat) * t := Rat.mul_lt_mul_of_pos_right h1 h
  rw [Rat.div_mul_cancel (fun z => by rw [z] at h; exact absurd h Rat.lt_irrefl)] at h2
  simp only [Rat.intCast_add, Rat.intCast_one] at h2
  unfold rmod; grind
/-- the rest is the only one between 0 and t that lies a whole number of t off -/
theorem rmod_unique {t x y : Rat} {k : Int} (h : 0 < t) (h1 : 0 ≤ y) (h2 : y < t) (e : x = y + (k : Rat) * t) : rmod t x = y := by
  have hne : t ≠ 0 := fun z => by rw [z] at h; exact absurd h Rat.lt_irrefl
  have e1 : x / t = y / t + k := by
    rw [e, Rat.div_def, Rat.div_def, Rat.add_mul, Rat.mul_assoc, Rat.mul_inv_cancel t hne, Rat.mul_one]
  have e2 : (y / t).floor = 0 := by
    have a : (0 : Int) ≤ (y / t).floor := by
      rw [Rat.le_floor_iff]
      have := Rat.mul_nonneg h1 (Rat.le_of_lt (Rat.inv_pos.mpr h))
      rw [Rat.div_def]; exact_mod_cast this
    have b : (y / t).floor < 1 := by
      rw [Rat.floor_lt_iff, Rat.div_lt_iff h]
      simpa using h2
    omega
  have e3 : (x / t).floor = k := by rw [e1, Rat.floor_add_intCast, e2]; omega
  unfold rmod
  rw [e3, e]; grind
theorem rmod_add_mul {t : Rat} (h : 0 < t) (x : Rat) (k : Int) : rmod t (x + (k : Rat) * t) = rmod t x :=
  rmod_unique (k := (x / t).floor + k) h (rmod_nonneg h x) (rmod_lt h x) (by unfold rmod; rw [Rat.intCast_add]; grind)
/-! ### lines -/
/-- a line as it stands once it is made -/
def lineFs (low high step begin : Rat) : List (Str × D) := [("low", wD low), ("high", wD high), ("step", wD step), ("turn", wD (2 * (high - low))), ("begin", wD begin)]
def lineD (c : Nat) (low high step begin : Rat) : D := .obj c (lineFs low high step begin)
/-- where it begins -/
def phase0 (low high at_ : Rat) (up : Bool) : Rat := if up = false ∧ at_ ≠ low then 2 * (high - low) - (at_ - low) else at_ - low
def phaseR (low high step begin : Rat) (row : Int) : Rat := rmod (2 * (high - low)) (begin + (row : Rat) * step)
def valueR (low high step begin : Rat) (row : Int) : Rat := if phaseR low high step begin row < high - low then low + phaseR low high step begin row else low + (2 * (high - low) - phaseR low high step begin row)
@[simp] theorem fld_low (c : Nat) (a b s p : Rat) (st : Store) : cAttr "low" (.v (lineD c a b s p)) st = .ok (.v (wD a)) st := id rfl
@[simp] theorem fld_high (c : Nat) (a b s p : Rat) (st : Store) : cAttr "high" (.v (lineD c a b s p)) st = .ok (.v (wD b)) st := id rfl
@[simp] theorem fld_step (c : Nat) (a b s p : Rat) (st : Store) : cAttr "step" (.v (lineD c a b s p)) st = .ok (.v (wD s)) st := id rfl
@[simp] theorem fld_turn (c : Nat) (a b s p : Rat) (st : Store) : cAttr "turn" (.v (lineD c a b s p)) st = .ok (.v (wD (2 * (b - a)))) st := id rfl
@[simp] theorem fld_begin (c : Nat) (a b s p : Rat) (st : Store) : cAttr "begin" (.v (lineD c a b s p)) st = .ok (.v (wD p)) st := id rfl
/-- all of a line of some size -/
structure LineB (n : Nat) (low high step begin : Rat) : Prop where
  l : Bd n low
  h : Bd n high
  s : Bd n step
  p : Bd n begin
  t : Bd n (2 * (high - low))
  lt : low < high
theorem LineB.pos {n : Nat} {low high step begin : Rat} (L : LineB n low high step begin) : 0 < 2 * (high - low) := by have := L.lt; grind
section
variable {g : Sg}
/-- o.m(row) -/
theorem mth_line {ct : Ctab} {nm : Str} {c f : Nat} {a b s p : Rat} (st : Store) (h : ct.mth c nm = some f) (hn : (lineFs a b s p).lookup nm = none) : mthOf ct nm (.v (lineD c a b s p)) st = .ok f st := by
  apply mthOf_v
  simp only [lineD, mthD, hn, h]; rfl
def phaseFn (re pl ti : Nat) : Fn := ⟨[.ret (.call re [(.attr (.var 0) "turn"), (.call pl [(.attr (.var 0) "begin"), (.call ti [(.tup [(.var 1), (.con (D.int 1))]), (.attr (.var 0) "step")] [.inl 0, .inl 1])] [.inl 0, .inl 1])] [.inl 0, .inl 1])], 2⟩
def PhaseOk (F : List R → M R) (c : Nat) : Prop := ∀ (low high step begin : Rat) (row : Int), LineB 200 low high step begin → row.natAbs < 2 ^ 150 → Ret F [lineD c low high step begin, .int row] (wD (phaseR low high step begin row))
theorem bd_at {step begin : Rat} {row : Int} (hs : Bd 200 step) (hb : Bd 200 begin) (hr : row.natAbs < 2 ^ 150) : Bd 350 ((row : Rat) * step) ∧ Bd 551 (begin + (row : Rat) * step) := by
  have a : Bd 150 (row : Rat) := bd_int hr (by decide)
  have b := a.mul hs
  exact ⟨b, hb.add b⟩
theorem phase_ok {re pl ti c : Nat} (h1 : RestOk (g.S re)) (h2 : Op2 (g.S pl) (· + ·)) (h3 : Op2 (g.S ti) (· * ·)) : PhaseOk (denF g (phaseFn re pl ti)) c := fun low high step begin row L hr => by
  apply ret_of (s1 := [])
  obtain ⟨b1, b2⟩ := bd_at L.s L.p hr
  have a : Bd 150 (row : Rat) := bd_int hr (by decide)
  simp [denF, phaseFn, wD_int, h3.s (a.sz (by decide)) (L.s.sz (by decide)), h2.s (L.p.sz (by decide)) (b1.sz (by decide)), h1.s (L.t.mono (by decide)) b2 (by decide) L.pos]
  rfl
theorem rmod_bd {n : Nat} {t x : Rat} (ht : Bd n t) (hx : Bd n x) (h0 : 0 < t) : Bd (4 * n + 2) (rmod t x) := by
  have hne : t ≠ 0 := fun z => by rw [z] at h0; exact absurd h0 Rat.lt_irrefl
  have b1 : Bd (n + n + 1) (((x / t).floor : Int) : Rat) := bd_int (hx.div ht hne).floor (by omega)
  exact (hx.sub (b1.mul ht)).mono (by omega)
theorem phaseR_bd {low high step begin : Rat} {row : Int} (L : LineB 200 low high step begin) (hr : row.natAbs < 2 ^ 150) : Bd 2206 (phaseR low high step begin row) :=
  rmod_bd (n := 551) (L.t.mono (by decide)) (bd_at L.s L.p hr).2 L.pos
def risesFn (le mi : Nat) : Fn := ⟨[.ret (.call le [(.mth (.var 0) "phase" [(.var 1)] [.inl 0, .inl 1]), (.call mi [(.attr (.var 0) "high"), (.attr (.var 0) "low")] [.inl 0, .inl 1])] [.inl 0, .inl 1])], 2⟩
def RisesOk (F : List R → M R) (c : Nat) : Prop := ∀ (low high step begin : Rat) (row : Int), LineB 200 low high step begin → row.natAbs < 2 ^ 150 → Ret F [lineD c low high step begin, .int row] (.bl (decide (phaseR low high step begin row < high - low)))
theorem rises_ok {le mi ph c : Nat} (h1 : LessOk (g.S le)) (h2 : Op2 (g.S mi) (· - ·)) (h3 : PhaseOk (g.S ph) c) (hm : g.ct.mth c "phase" = some ph) : RisesOk (denF g (risesFn le mi)) c := fun low high step begin row L hr => by
  apply ret_of (s1 := [])
  have b1 := phaseR_bd L hr
  simp [denF, risesFn, mth_line _ hm rfl, (h3 low high step begin row L hr).c2, h2.s (L.h.sz (by decide)) (L.l.sz (by decide)), h1.s (b1.sz (by decide)) ((L.h.sub L.l).sz (by decide))]
def valueFn (pl mi : Nat) : Fn := ⟨[.asg 2 (.mth (.var 0) "phase" [(.var 1)] [.inl 0, .inl 1]), .ite (.mth (.var 0) "rises" [(.var 1)] [.inl 0, .inl 1]) [.ret (.call pl [(.attr (.var 0) "low"), (.var 2)] [.inl 0, .inl 1])] [], .ret (.call pl [(.attr (.var 0) "low"), (.call mi [(.attr (.var 0) "turn"), (.var 2)] [.inl 0, .inl 1])] [.inl 0, .inl 1])], 3⟩
def ValueOk (F : List R → M R) (c : Nat) : Prop := ∀ (low high step begin : Rat) (row : Int), LineB 200 low high step begin → row.natAbs < 2 ^ 150 → Ret F [lineD c low high step begin, .int row] (wD (valueR low high step begin row))
theorem value_ok {pl mi ph ri c : Nat} (h1 : Op2 (g.S pl) (· + ·)) (h2 : Op2 (g.S mi) (· - ·)) (h3 : PhaseOk (g.S ph) c) (h4 : RisesOk (g.S ri) c) (hm : g.ct.mth c "phase" = some ph) (hm2 : g.ct.mth c "rises" = some ri) : ValueOk (denF g (valueFn pl mi)) c := fun low high step begin row L hr => by
  apply ret_of (s1 := [])
  have b1 := phaseR_bd L hr
  have e1 := (h3 low high step begin row L hr).c2
  have e2 := (h4 low high step begin row L hr).c2
  have e3 := h1.s (L.l.sz (by decide)) (b1.sz (by decide))
  have e4 := h2.s (L.t.sz (by decide)) (b1.sz (by decide))
  have e5 := h1.s (L.l.sz (by decide)) ((L.t.sub b1).sz (by decide))
  unfold valueR
  by_cases hz : phaseR low high step begin row < high - low
  · simp [denF, valueFn, mth_line _ hm rfl, mth_line _ hm2 rfl, e1, e2, e3, hz]
  · simp [denF, valueFn, mth_line _ hm rfl, mth_line _ hm2 rfl, e1, e2, e4, e5, hz]
def returnsFn (ov : Nat) : Fn := ⟨[.asg 1 (.call ov [(.attr (.var 0) "step"), (.attr (.var 0) "turn")] [.inl 0, .inl 1]), .ret (.tup [(.ix (.var 1) (.con (D.int 1))), (.ix (.var 1) (.con (D.int 0)))])], 2⟩
def ReturnsOk (F : List R → M R) (c : Nat) : Prop := ∀ (low high step begin : Rat), LineB 200 low high step begin → Ret F [lineD c low high step begin] (.tup [.int ((step / (2 * (high - low))).den), .int (step / (2 * (high - low))).num])
theorem returns_ok {ov c e : Nat} (h1 : OverOk (g.S ov) e) : ReturnsOk (denF g (returnsFn ov)) c := fun low high step begin L => by
  apply ret_of (s1 := [])
  have hne : 2 * (high - low) ≠ 0 := fun z => by have := L.pos; rw [z] at this; exact absurd this Rat.lt_irrefl
  simp [denF, returnsFn, h1.s (L.s.sz (by decide)) (L.t.sz (by decide)) hne]
/-! ### a line made -/
def phaseOfFn (mi : Nat) : Fn := ⟨[.asg 3 (.call mi [(.var 1), (.attr (.var 0) "low")] [.inl 0, .inl 1]), .ite (.and (.not (.var 2)) (.cmp .ne (.var 1) (.attr (.var 0) "low"))) [.asg 3 (.call mi [(.attr (.var 0) "turn"), (.var 3)] [.inl 0, .inl 1])] [], .ret (.var 3)], 4⟩
/-- .. of a line that is being made: its cell stands at n -/
def PhaseOfOk (F : List R → M R) : Prop := ∀ (low high at_ : Rat) (up : Bool) (n c : Nat) (fs : List (Str × R)) (st : Store), Bd 200 low → Bd 200 at_ → Bd 200 (2 * (high - low)) → st[n]? = some (.obj c fs) → fs.lookup ("low" : Str) = some (.v (wD low)) → fs.lookup ("turn" : Str) = some (.v (wD (2 * (high - low)))) →
  F [.ref n, .v (wD at_), .v (.bl up)] st = .ok (.v (wD (phase0 low high at_ up))) st
theorem phaseOf_ok {mi : Nat} (h : Op2 (g.S mi) (· - ·)) : PhaseOfOk (denF g (phaseOfFn mi)) := fun low high at_ up n c fs st hl ha ht hn h1 h2 => by
  have e1 := cAttr_cell st hn h1
  have e2 := cAttr_cell st hn h2
  have e3 := h.s (ha.sz (by decide)) (hl.sz (by decide))
  have e4 := h.s (ht.sz (by decide)) ((ha.sub hl).sz (by decide))
  unfold phase0
  cases up with
  | true => simp [denF, phaseOfFn, e1, e2, e3]
  | false =>
    by_cases hz : at_ = low
    · subst hz
      simp [denF, phaseOfFn, e1, e2, e3]
    · simp [denF, phaseOfFn, e1, e2, e3, e4, hz]
def initFn (isw le mi ti xc : Nat) : Fn := ⟨[.ite (.or (.not (.call isw [(.var 1)] [.inl 0])) (.call le [(.var 1), (.con (D.tup [(D.int 0), (D.int 1)]))] [.inl 0, .inl 1])) [.rse xc [(.con (D.str "low"))] ["why"]] [], .ite (.or (.not (.call isw [(.var 2)] [.inl 0])) (.not (.call le [(.var 1), (.var 2)] [.inl 0, .inl 1]))) [.rse xc [(.con (D.str "high"))] ["why"]] [], .ite (.or (.not (.call isw [(.var 3)] [.inl 0])) (.or (.not (.call le [(.con (D.tup [(D.int 0), (D.int 1)])), (.var 3)] [.inl 0, .inl 1])) (.call le [(.call mi [(.var 2), (.var 1)] [.inl 0, .inl 1]), (.var 3)] [.inl 0, .inl 1]))) [.rse xc [(.con (D.str "step"))] ["why"]] [], .ite (.or (.not (.call isw [(.var 4)] [.inl 0])) (.or (.call le [(.var 4), (.var 1)] [.inl 0, .inl 1]) (.call le [(.var 2), (.var 4)] [.inl 0, .inl 1]))) [.rse xc [(.con (D.str "at"))] ["why"]] [], .ite (.not (.isi (.var 5) [.inr "bool"])) [.rse xc [(.con (D.str "up"))] ["why"]] [], .setf (.var 0) "low" (.var 1), .setf (.var 0) "high" (.var 2), .setf (.var 0) "step" (.var 3), .setf (.var 0) "turn" (.call ti [(.tup [(.con (D.int 2)), (.con (D.int 1))]), (.call mi [(.var 2), (.var 1)] [.inl 0, .inl 1])] [.inl 0, .inl 1]), .setf (.var 0) "begin" (.mth (.var 0) "phase_of" [(.var 4), (.var 5)] [.inl 0, .inl 1, .inl 2])], 6⟩
/-- what makes a line -/
structure LineOk (low high step at_ : Rat) : Prop where
  l : 0 ≤ low
  h : low < high
  s : 0 < step
  s2 : step ≤ high - low
  a : low ≤ at_
  a2 : at_ ≤ high
def IswOk (F : List R → M R) : Prop := ∀ q : Rat, Ret F [wD q] (.bl true)
theorem IswOk.s {F : List R → M R} (h : IswOk F) (q : Rat) (st : Store) : callF F [.v (wD q)] st = .ok (.v (.bl true)) st := h q st
def lineR (low high step begin : Rat) : List (Str × R) := [("low", .v (wD low)), ("high", .v (wD high)), ("step", .v (wD step)), ("turn", .v (wD (2 * (high - low)))), ("begin", .v (wD begin))]
def InitOk (F : List R → M R) (c : Nat) : Prop := ∀ (low high step at_ : Rat) (up : Bool), LineOk low high step at_ → Bd 90 low → Bd 90 high → Bd 90 step → Bd 200 at_ → F [.ref 0, .v (wD low), .v (wD high), .v (wD step), .v (wD at_), .v (.bl up)] [.obj c []] = .ok (.v .non) [.obj c (lineR low high step (phase0 low high at_ up))]
theorem wD_zero : D.tup [.int 0, .int 1] = wD 0 := rfl
theorem wD_two : D.tup [.int 2, .int 1] = wD 2 := rfl
theorem init_line {isw le mi ti xc po c : Nat} (h1 : IswOk (g.S isw)) (h2 : LessOk (g.S le)) (h3 : Op2 (g.S mi) (· - ·)) (h4 : Op2 (g.S ti) (· * ·)) (h5 : PhaseOfOk (g.S po)) (hm : g.ct.mth c "phase_of" = some po) : InitOk (denF g (initFn isw le mi ti xc)) c := fun low high step at_ up L bl bh bs ba => by
  have z : Bd 90 (0 : Rat) := ⟨by decide, by decide⟩
  have z2 : Bd 2 (2 : Rat) := ⟨by decide, by decide⟩
  have bd := bh.sub bl
  have bt : Bd 200 (2 * (high - low)) := (z2.mul bd).mono (by decide)
  have n1 : ¬ low < 0 := by have := L.l; grind
  have n2 := L.h
  have n3 := L.s
  have n4 : ¬ high - low < step := by have := L.s2; grind
  have n5 : ¬ at_ < low := by have := L.a; grind
  have n6 : ¬ high < at_ := by have := L.a2; grind
  have e1 := h2.s (bl.sz (by decide)) (z.sz (by decide))
  have e2 := h2.s (bl.sz (by decide)) (bh.sz (by decide))
  have e3 := h2.s (z.sz (by decide)) (bs.sz (by decide))
  have e4 := h3.s (bh.sz (by decide)) (bl.sz (by decide))
  have e5 := h2.s (bd.sz (by decide)) (bs.sz (by decide))
  have e6 := h2.s (ba.sz (by decide)) (bl.sz (by decide))
  have e7 := h2.s (bh.sz (by decide)) (ba.sz (by decide))
  have e8 := h4.s (z2.sz (by decide)) (bd.sz (by decide))
  have e9 : ∀ st, st = [Cell.obj c [("low", R.v (wD low)), ("high", .v (wD high)), ("step", .v (wD step)), ("turn", .v (wD (2 * (high - low))))]] → callF (g.S po) [.ref 0, .v (wD at_), .v (.bl up)] st = .ok (.v (wD (phase0 low high at_ up))) st := fun st hst => by
    have := h5 low high at_ up 0 c [("low", .v (wD low)), ("high", .v (wD high)), ("step", .v (wD step)), ("turn", .v (wD (2 * (high - low))))] st (bl.mono (by decide)) ba bt (by rw [hst]; rfl) rfl rfl
    simpa [callF, valOf] using this
  have f1 : setFld (.ref 0) "low" (.v (wD low)) [.obj c []] = .ok () [.obj c [("low", .v (wD low))]] := rfl
  have f2 : setFld (.ref 0) "high" (.v (wD high)) [.obj c [("low", .v (wD low))]] = .ok () [.obj c [("low", .v (wD low)), ("high", .v (wD high))]] := rfl
  have f3 : setFld (.ref 0) "step" (.v (wD step)) [.obj c [("low", .v (wD low)), ("high", .v (wD high))]] = .ok () [.obj c [("low", .v (wD low)), ("high", .v (wD high)), ("step", .v (wD step))]] := rfl
  have f4 : setFld (.ref 0) "turn" (.v (wD (2 * (high - low)))) [.obj c [("low", .v (wD low)), ("high", .v (wD high)), ("step", .v (wD step))]] = .ok () [.obj c [("low", .v (wD low)), ("high", .v (wD high)), ("step", .v (wD step)), ("turn", .v (wD (2 * (high - low))))]] := rfl
  have f5 : setFld (.ref 0) "begin" (.v (wD (phase0 low high at_ up))) [.obj c [("low", .v (wD low)), ("high", .v (wD high)), ("step", .v (wD step)), ("turn", .v (wD (2 * (high - low))))]] = .ok () [.obj c (lineR low high step (phase0 low high at_ up))] := rfl
  have f6 : mthOf g.ct "phase_of" (.ref 0) [.obj c [("low", .v (wD low)), ("high", .v (wD high)), ("step", .v (wD step)), ("turn", .v (wD (2 * (high - low))))]] = .ok po [.obj c [("low", .v (wD low)), ("high", .v (wD high)), ("step", .v (wD step)), ("turn", .v (wD (2 * (high - low))))]] := mthOf_cell _ rfl rfl hm
  have e9' := e9 _ rfl
  simp [denF, initFn, h1.s, wD_zero, wD_two, e1, e2, e3, e4, e5, e6, e7, e8, n1, n2, n3, n4, n5, n6, f1, f2, f3, f4, f5, f6, e9']
/-- Line(..), by whatever order of keywords -/
theorem cNew_line {F : List R → M R} {c : Nat} (h : InitOk F c) {low high step at_ : Rat} {up : Bool} (L : LineOk low high step at_) (bl : Bd 90 low) (bh : Bd 90 high) (bs : Bd 90 step) (ba : Bd 200 at_) {rs : List R} {pm : List (Nat ⊕ D)}
    (hv : (rs.all fun r => (valOf r).isSome) = true) (ha : assem (.ref 0 :: rs) pm = some [.ref 0, .v (wD low), .v (wD high), .v (wD step), .v (wD at_), .v (.bl up)]) (st : Store) : cNew false c pm F rs st = .ok (.v (lineD c low high step (phase0 low high at_ up))) st := by
  have e := h low high step at_ up L bl bh bs ba
  have f : frz (.ref 0) [.obj c (lineR low high step (phase0 low high at_ up))] = .ok (lineD c low high step (phase0 low high at_ up)) [.fz (lineD c low high step (phase0 low high at_ up))] := frz_obj (st1 := [.obj c (lineR low high step (phase0 low high at_ up))]) (fs := lineR low high step (phase0 low high at_ up)) (ds := lineFs low high step (phase0 low high at_ up)) rfl rfl rfl
  simp only [cNew, newF, hv, Bool.not_false, Bool.and_self, if_true, ha, e, f]
end
end SV

set_option maxRecDepth 100000
set_option maxHeartbeats 4000000
/-! SvZd: lines as a law draws and walks them -/
namespace SV
open PySem PySem.Spec PyProof.Rows
open L2 hiding It
section
variable {g : Sg}
/-! ### picks -/
theorem fmod_bd {i k : Int} (hk : 0 < k) : 0 ≤ i.fmod k ∧ i.fmod k < k := by
  rw [Int.fmod_eq_emod_of_nonneg _ (by omega)]
  exact ⟨Int.emod_nonneg _ (by omega), Int.emod_lt_of_pos _ hk⟩
/-- one of a list of ints, by a place that lies in it -/
theorem pickI (vs : List Int) (i : Int) (h0 : 0 ≤ i) (h1 : i < vs.length) : ∃ v ∈ vs, L2.atI (vs.map fun v => R.v (D.int v)) i = some (R.v (.int v)) := by
  obtain ⟨n, rfl⟩ := Int.eq_ofNat_of_zero_le h0
  have hn : n < vs.length := by omega
  refine ⟨vs[n], List.getElem_mem hn, ?_⟩
  rw [atI_natCast, List.getElem?_map, List.getElem?_eq_getElem hn]; rfl
def unitFn (lo : Nat) : Fn := ⟨[.ret (.call lo [(.bin .add (.con (D.int 1)) (.bin .mod (.ix (.var 0) (.con (D.int 0))) (.con (D.int 40)))), (.ix (.lst false [(.con (D.int 1)), (.con (D.int 60)), (.con (D.int 2)), (.con (D.int 3600)), (.con (D.int 7))]) (.bin .mod (.ix (.var 0) (.con (D.int 1))) (.con (D.int 5))))] [.inl 0, .inl 1])], 1⟩
def UnitOk (F : List R → M R) : Prop := ∀ (d0 d1 : Int) (ds : List Int), ∃ u : Rat, 0 < u ∧ Bd 12 u ∧ Ret F [.lst ((d0 :: d1 :: ds).map D.int)] (wD u)
theorem divInt_pos {a b : Int} (ha : 0 < a) (hb : 0 < b) : 0 < Rat.divInt a b := by
  rw [Rat.divInt_eq_div, Rat.lt_div_iff (by exact_mod_cast hb)]
  simpa using (show (0 : Rat) < a by exact_mod_cast ha)
theorem big2 {b : Int} (h : b.natAbs < 2 ^ 250) : b.natAbs < BIG * BIG := Nat.lt_of_lt_of_le h (Nat.le_trans big_ge (Nat.le_mul_of_pos_right _ (by decide +kernel)))
theorem unit_ok {lo : Nat} (h : LowOk (g.S lo)) : UnitOk (denF g (unitFn lo)) := fun d0 d1 ds => by
  obtain ⟨v, hv, e⟩ := pickI [1, 60, 2, 3600, 7] (d1.fmod 5) (fmod_bd (by decide)).1 (fmod_bd (by decide)).2
  simp only [List.map_cons, List.map_nil] at e
  have b0 := fmod_bd (i := d0) (show (0 : Int) < 40 by decide)
  have hv1 : 0 < v ∧ v ≤ 3600 := by
    simp only [List.mem_cons, List.not_mem_nil, or_false] at hv
    omega
  refine ⟨Rat.divInt (1 + d0.fmod 40) v, divInt_pos (by omega) hv1.1, bd_divInt (by omega) (by omega) (by omega), ret_of (s1 := []) ?_⟩
  simp [denF, unitFn, opB_mod, e, h.s _ v (show v ≠ 0 by omega) (big2 (by omega))]
def drawnFn (un by_ ad lo : Nat) : Fn := ⟨[.asg 1 (.call un [(.var 0)] [.inl 0]), .asg 2 (.bin .add (.con (D.int 1)) (.bin .mod (.ix (.var 0) (.con (D.int 2))) (.con (D.int 30)))), .asg 3 (.call by_ [(.var 1), (.tup [(.bin .mod (.ix (.var 0) (.con (D.int 3))) (.ix (.lst false [(.con (D.int 1)), (.con (D.int 25))]) (.bin .mod (.ix (.var 0) (.con (D.int 4))) (.con (D.int 2))))), (.con (D.int 1))])] [.inl 0, .inl 1]), .asg 4 (.call ad [(.var 3), (.call by_ [(.var 1), (.tup [(.var 2), (.con (D.int 1))])] [.inl 0, .inl 1])] [.inl 0, .inl 1]), .asg 5 (.call by_ [(.var 1), (.call lo [(.bin .add (.con (D.int 1)) (.bin .mod (.ix (.var 0) (.con (D.int 5))) (.bin .mul (.con (D.int 2)) (.var 2)))), (.con (D.int 2))] [.inl 0, .inl 1])] [.inl 0, .inl 1]), .asg 6 (.call ad [(.var 3), (.call by_ [(.var 1), (.call lo [(.bin .mod (.ix (.var 0) (.con (D.int 6))) (.bin .add (.bin .mul (.con (D.int 3)) (.var 2)) (.con (D.int 1)))), (.con (D.int 3))] [.inl 0, .inl 1])] [.inl 0, .inl 1])] [.inl 0, .inl 1]), .ret (.tup [(.var 3), (.var 4), (.var 5), (.var 6), (.cmp .eq (.bin .mod (.ix (.var 0) (.con (D.int 7))) (.con (D.int 2))) (.con (D.int 0)))])], 7⟩
def ruleD (low high step at_ : Rat) (up : Bool) : D := .tup [wD low, wD high, wD step, wD at_, .bl up]
/-- a whole number of G-th parts -/
def Grid (G : Nat) (q : Rat) : Prop := ∃ n : Int, q * (G : Rat) = (n : Rat)
theorem Grid.add {G : Nat} {p q : Rat} (h : Grid G p) (h2 : Grid G q) : Grid G (p + q) := by
  obtain ⟨n, e⟩ := h
  obtain ⟨m, e2⟩ := h2
  exact ⟨n + m, by rw [Rat.intCast_add]; grind⟩
theorem Grid.sub {G : Nat} {p q : Rat} (h : Grid G p) (h2 : Grid G q) : Grid G (p - q) := by
  obtain ⟨n, e⟩ := h
  obtain ⟨m, e2⟩ := h2
  exact ⟨n - m, by rw [Rat.intCast_sub]; grind⟩
theorem Grid.imul {G : Nat} {q : Rat} (h : Grid G q) (k : Int) : Grid G ((k : Rat) * q) := by
  obtain ⟨n, e⟩ := h
  exact ⟨k * n, by rw [Rat.intCast_mul]; grind⟩
theorem Grid.den {G : Nat} {q : Rat} (h : Grid G q) (h0 : 0 < G) : q.den ≤ G := by
  obtain ⟨n, e⟩ := h
  have g0 : (G : Rat) ≠ 0 := by exact_mod_cast (show G ≠ 0 by omega)
  have : q = Rat.divInt n (G : Int) := by
    rw [Rat.divInt_eq_div, ← e, Rat.intCast_natCast]; grind
  rw [this]
  have := (divInt_le (a := n) (b := (G : Int)) (by omega)).2
  simpa using this
theorem den_mul (u : Rat) : u * (u.den : Rat) = (u.num : Rat) := by
  have := Rat.num_divInt_den u
  rw [Rat.divInt_eq_div] at this
  have d0 : (u.den : Rat) ≠ 0 := by exact_mod_cast u.den_nz
  have e3 : (u.num : Rat) / (((u.den : Int)) : Rat) = u := this
  rw [Rat.intCast_natCast] at e3
  generalize (u.num : Rat) = n at *
  generalize (u.den : Rat) = d at *
  rw [← e3]; grind
/-- all of a drawn line is small -/
structure DrB (low high step at_ : Rat) : Prop where
  l : Bd 17 low
  h : Bd 35 high
  s : Bd 18 step
  a : Bd 37 at_
  d : (step / (2 * (high - low))).den ≤ 120
  g : ∃ G : Nat, 0 < G ∧ G < 2 ^ 15 ∧ Grid G low ∧ Grid G high ∧ Grid G step ∧ Grid G at_
def DrawnOk (F : List R → M R) : Prop := ∀ (d0 d1 d2 d3 d4 d5 d6 d7 : Int) (ds : List Int), ∃ (low high step at_ : Rat) (up : Bool), LineOk low high step at_ ∧ DrB low high step at_ ∧ Ret F [.lst ((d0 :: d1 :: d2 :: d3 :: d4 :: d5 :: d6 :: d7 :: ds).map D.int)] (ruleD low high step at_ up)
theorem rat_mul_le {a b c : Rat} (h : 0 ≤ a) (h2 : b ≤ c) : a * b ≤ a * c := Rat.mul_le_mul_of_nonneg_left h2 h
theorem divInt_le' {a b : Int} {q : Rat} (hb : 0 < b) (h : (a : Rat) ≤ q * b) : Rat.divInt a b ≤ q := by
  rw [Rat.divInt_eq_div]
  have hb' : (0 : Rat) < b := by exact_mod_cast hb
  refine Rat.le_of_mul_le_mul_right ?_ hb'
  rw [Rat.div_mul_cancel (fun z => by rw [z] at hb'; exact absurd hb' Rat.lt_irrefl)]
  exact h
theorem divInt_nonneg' {a b : Int} (ha : 0 ≤ a) (hb : 0 < b) : 0 ≤ Rat.divInt a b := Rat.divInt_nonneg ha (Int.le_of_lt hb)
theorem drawn_ok {un by_ ad lo : Nat} (h1 : UnitOk (g.S un)) (h2 : Op2 (g.S by_) (· * ·)) (h3 : Op2 (g.S ad) (· + ·)) (h4 : LowOk (g.S lo)) : DrawnOk (denF g (drawnFn un by_ ad lo)) := fun d0 d1 d2 d3 d4 d5 d6 d7 ds => by
  obtain ⟨u, u0, ub, hu⟩ := h1 d0 d1 (d2 :: d3 :: d4 :: d5 :: d6 :: d7 :: ds)
  obtain ⟨v, hv, e⟩ := pickI [1, 25] (d4.fmod 2) (fmod_bd (by decide)).1 (fmod_bd (by decide)).2
  simp only [List.map_cons, List.map_nil] at e hu
  have hv1 : 0 < v ∧ v ≤ 25 := by
    simp only [List.mem_cons, List.not_mem_nil, or_false] at hv
    omega
  have b2 := fmod_bd (i := d2) (show (0 : Int) < 30 by decide)
  generalize hw : 1 + d2.fmod 30 = w at *
  have b3 := fmod_bd (i := d3) hv1.1
  generalize hl : d3.fmod v = l at *
  have e5 : opB .mul (.int 2) (.int w) = some (.int (2 * w)) := mul_sm (by omega) (by omega)
  have e6 : opB .mul (.int 3) (.int w) = some (.int (3 * w)) := mul_sm (by omega) (by omega)
  have b5 := fmod_bd (i := d5) (show (0 : Int) < 2 * w by omega)
  have b6 := fmod_bd (i := d6) (show (0 : Int) < 3 * w + 1 by omega)
  have m5 : opB .mod (.int d5) (.int (2 * w)) = some (.int (d5.fmod (2 * w))) := opB_mod _ _ (by omega)
  have m6 : opB .mod (.int d6) (.int (3 * w + 1)) = some (.int (d6.fmod (3 * w + 1))) := opB_mod _ _ (by omega)
  have m3 : opB .mod (.int d3) (.int v) = some (.int l) := by rw [opB_mod _ _ (by omega), hl]
  generalize d5.fmod (2 * w) = s5 at *
  generalize d6.fmod (3 * w + 1) = s6 at *
  have bl : Bd 5 (l : Rat) := bd_int (by omega) (by decide)
  have bw : Bd 5 (w : Rat) := bd_int (by omega) (by decide)
  have bs : Bd 6 (Rat.divInt (1 + s5) 2) := bd_divInt (by decide) (by omega) (by decide)
  have ba : Bd 7 (Rat.divInt s6 3) := bd_divInt (by decide) (by omega) (by decide)
  have c1 := ub.mul bl
  have c2 := ub.mul bw
  have c3 := c1.add c2
  have c4 := ub.mul bs
  have c5 := ub.mul ba
  have c6 := c1.add c5
  have u0' := Rat.le_of_lt u0
  have hl0 : (0 : Rat) ≤ l := by exact_mod_cast b3.1
  have hw0 : (0 : Rat) < w := by exact_mod_cast (show (0 : Int) < w by omega)
  have hs0 : 0 < Rat.divInt (1 + s5) 2 := divInt_pos (by omega) (by decide)
  have hs1 : Rat.divInt (1 + s5) 2 ≤ w := divInt_le' (by decide) (by exact_mod_cast (show 1 + s5 ≤ w * 2 by omega))
  have ha0 : 0 ≤ Rat.divInt s6 3 := divInt_nonneg' b6.1 (by decide)
  have ha1 : Rat.divInt s6 3 ≤ w := divInt_le' (by decide) (by exact_mod_cast (show s6 ≤ w * 3 by omega))
  have p1 := Rat.mul_nonneg u0' hl0
  have p2 := Rat.mul_pos u0 hw0
  have p3 := Rat.mul_pos u0 hs0
  have p4 := rat_mul_le u0' hs1
  have p5 := Rat.mul_nonneg u0' ha0
  have p6 := rat_mul_le u0' ha1
  have hden : (u * Rat.divInt (1 + s5) 2 / (2 * (u * l + u * w - u * l))).den ≤ 120 := by
    have hune : u ≠ 0 := fun z => by rw [z] at u0; exact absurd u0 Rat.lt_irrefl
    have hwne : (w : Rat) ≠ 0 := fun z => by rw [z] at hw0; exact absurd hw0 Rat.lt_irrefl
    have e1 : u * Rat.divInt (1 + s5) 2 / (2 * (u * l + u * w - u * l)) = Rat.divInt (1 + s5) (4 * w) := by
      rw [show u * (l : Rat) + u * w - u * l = u * w by grind, Rat.divInt_eq_div, Rat.divInt_eq_div]
      rw [Rat.intCast_mul]
      show u * (((1 + s5 : Int) : Rat) / 2) / (2 * (u * w)) = ((1 + s5 : Int) : Rat) / (4 * w)
      generalize ((1 + s5 : Int) : Rat) = z
      grind
    rw [e1]
    have := (divInt_le (a := 1 + s5) (b := 4 * w) (by omega)).2
    omega
  have hgr : ∃ G : Nat, 0 < G ∧ G < 2 ^ 15 ∧ Grid G (u * l) ∧ Grid G (u * l + u * w) ∧ Grid G (u * Rat.divInt (1 + s5) 2) ∧ Grid G (u * l + u * Rat.divInt s6 3) := by
    have ud := ub.2
    have um := den_mul u
    have eG : ((6 * u.den : Nat) : Rat) = 6 * (u.den : Rat) := by exact_mod_cast rfl
    have gl : Grid (6 * u.den) (u * l) := ⟨6 * l * u.num, by rw [eG, Rat.intCast_mul, Rat.intCast_mul, ← um]; show u * (l : Rat) * (6 * (u.den : Rat)) = 6 * (l : Rat) * (u * (u.den : Rat)); grind⟩
    have gw : Grid (6 * u.den) (u * w) := ⟨6 * w * u.num, by rw [eG, Rat.intCast_mul, Rat.intCast_mul, ← um]; show u * (w : Rat) * (6 * (u.den : Rat)) = 6 * (w : Rat) * (u * (u.den : Rat)); grind⟩
    have gs : Grid (6 * u.den) (u * Rat.divInt (1 + s5) 2) := ⟨3 * (1 + s5) * u.num, by
      rw [eG, Rat.divInt_eq_div, Rat.intCast_mul, Rat.intCast_mul, ← um]
      generalize ((1 + s5 : Int) : Rat) = x
      show u * (x / 2) * (6 * (u.den : Rat)) = 3 * x * (u * (u.den : Rat)); grind⟩
    have ga : Grid (6 * u.den) (u * Rat.divInt s6 3) := ⟨2 * s6 * u.num, by
      rw [eG, Rat.divInt_eq_div, Rat.intCast_mul, Rat.intCast_mul, ← um]
      generalize (s6 : Rat) = x
      show u * (x / 3) * (6 * (u.den : Rat)) = 2 * x * (u * (u.den : Rat)); grind⟩
    exact ⟨6 * u.den, by have := u.den_pos; omega, by omega, gl, gl.add gw, gs, gl.add ga⟩
  refine ⟨u * l, u * l + u * w, u * Rat.divInt (1 + s5) 2, u * l + u * Rat.divInt s6 3, decide (d7.fmod 2 = 0), ⟨p1, by grind, p3, by grind, by grind, by grind⟩, ⟨c1.mono (by decide), c3.mono (by decide), c4.mono (by decide), c6.mono (by decide), hden, hgr⟩, ret_of (s1 := []) ?_⟩
  simp [denF, drawnFn, hu.c1, opB_mod _ _ (show (30 : Int) ≠ 0 by decide), opB_mod _ _ (show (2 : Int) ≠ 0 by decide), hw, e, m3, wD_int, h2.s (ub.sz (by decide)) (bl.sz (by decide)), h2.s (ub.sz (by decide)) (bw.sz (by decide)), h3.s (c1.sz (by decide)) (c2.sz (by decide)), e5, m5, h4.s (1 + s5) 2 (by decide) (big2 (by decide)), h2.s (ub.sz (by decide)) (bs.sz (by decide)), e6, m6, h4.s s6 3 (by decide) (big2 (by decide)), h2.s (ub.sz (by decide)) (ba.sz (by decide)), h3.s (c1.sz (by decide)) (c5.sz (by decide)), ruleD]
/-! ### one row on -/
def oneOn (low high step q : Rat) (f : Bool) : Rat × Bool :=
  bif (bif decide (q = low) then true else bif decide (q = high) then false else f) then (bif decide (q + step < high) then (q + step, true) else (high + high - (q + step), false))
  else (bif decide (low < q - step) then (q - step, false) else (low + low - (q - step), true))
def oneOnFn (ad le ta : Nat) : Fn := ⟨[.unp [3, 4, 5] (.sl (.var 0) none (some (.con (D.int 3)))), .ite (.cmp .eq (.var 1) (.var 4)) [.asg 2 (.con (D.bl false))] [], .ite (.cmp .eq (.var 1) (.var 3)) [.asg 2 (.con (D.bl true))] [], .ite (.var 2) [.asg 1 (.call ad [(.var 1), (.var 5)] [.inl 0, .inl 1]), .ite (.not (.call le [(.var 1), (.var 4)] [.inl 0, .inl 1])) [.ret (.tup [(.call ta [(.call ad [(.var 4), (.var 4)] [.inl 0, .inl 1]), (.var 1)] [.inl 0, .inl 1]), (.con (D.bl false))])] [], .ret (.tup [(.var 1), (.con (D.bl true))])] [], .asg 1 (.call ta [(.var 1), (.var 5)] [.inl 0, .inl 1]), .ite (.not (.call le [(.var 3), (.var 1)] [.inl 0, .inl 1])) [.ret (.tup [(.call ta [(.call ad [(.var 3), (.var 3)] [.inl 0, .inl 1]), (.var 1)] [.inl 0, .inl 1]), (.con (D.bl true))])] [], .ret (.tup [(.var 1), (.con (D.bl false))])], 6⟩
def OneOnOk (F : List R → M R) : Prop := ∀ (low high step at_ : Rat) (up : Bool) (q : Rat) (f : Bool), Bd 90 low → Bd 90 high → Bd 90 step → Bd 3000 q → Ret F [ruleD low high step at_ up, wD q, .bl f] (.tup [wD (oneOn low high step q f).1, .bl (oneOn low high step q f).2])
theorem oneOn_ok {ad le ta : Nat} (h1 : Op2 (g.S ad) (· + ·)) (h2 : LessOk (g.S le)) (h3 : Op2 (g.S ta) (· - ·)) : OneOnOk (denF g (oneOnFn ad le ta)) := fun low high step at_ up q f bl bh bs bq => by
  apply ret_of (s1 := [])
  have c1 := bq.add bs
  have c2 := bq.sub bs
  have c3 := bh.add bh
  have c4 := bl.add bl
  have e1 := h1.s (bq.sz (by decide)) (bs.sz (by decide))
  have e2 := h3.s (bq.sz (by decide)) (bs.sz (by decide))
  have e3 := h1.s (bh.sz (by decide)) (bh.sz (by decide))
  have e4 := h1.s (bl.sz (by decide)) (bl.sz (by decide))
  have e5 := h2.s (c1.sz (by decide)) (bh.sz (by decide))
  have e6 := h2.s (bl.sz (by decide)) (c2.sz (by decide))
  have e7 := h3.s (c3.sz (by decide)) (c1.sz (by decide))
  have e8 := h3.s (c4.sz (by decide)) (c2.sz (by decide))
  have ecut : cutR [wD low, wD high, wD step, wD at_, .bl up] none (some 3) = [wD low, wD high, wD step] := rfl
  have o1 := opC_eqW q high
  have o2 := opC_eqW q low
  unfold oneOn
  generalize decide (q = high) = b1 at *
  generalize decide (q = low) = b2 at *
  generalize decide (q + step < high) = b3 at *
  generalize decide (low < q - step) = b4 at *
  cases b1 <;> cases b2 <;> cases f <;> cases b3 <;> cases b4 <;> simp [-opC_eqW, denF, oneOnFn, ruleD, ecut, o1, o2, e1, e2, e3, e4, e5, e6, e7, e8]
end
/-! ### up and down, by phases -/
def vl (low H p : Rat) : Rat := if p < H then low + p else low + (2 * H - p)
def Cons (H p : Rat) (f : Bool) : Prop := p ≠ 0 → p ≠ H → f = decide (p < H)
def onP (H s p : Rat) : Rat := if p + s < 2 * H then p + s else p + s - 2 * H
theorem oneOn_step {low H s p : Rat} {f : Bool} (hH : 0 < H) (hs : 0 < s) (hs2 : s ≤ H) (h0 : 0 ≤ p) (h1 : p < 2 * H) (hc : Cons H p f) :
    (oneOn low (low + H) s (vl low H p) f).1 = vl low H (onP H s p) ∧ Cons H (onP H s p) (oneOn low (low + H) s (vl low H p) f).2 := by
  have key : (bif decide (vl low H p = low) then true else bif decide (vl low H p = low + H) then false else f) = decide (p < H) := by
    unfold vl
    by_cases hp : p < H
    · rw [if_pos hp]
      by_cases hz : p = 0
      · subst hz
        have : decide (low + 0 = low) = true := by simp; grind
        rw [this]; simp [hp]
      · have e1 : decide (low + p = low) = false := by simp; grind
        have e2 : decide (low + p = low + H) = false := by simp; grind
        rw [e1, e2]
        simp only [cond_false]
        exact hc hz (by grind)
    · rw [if_neg hp]
      have e1 : decide (low + (2 * H - p) = low) = false := by simp; grind
      rw [e1]
      by_cases hz : p = H
      · subst hz
        have e2 : decide (low + (2 * p - p) = low + p) = true := by simp; grind
        rw [e2]; simp [hp]
      · have e2 : decide (low + (2 * H - p) = low + H) = false := by simp; grind
        rw [e2]
        simp only [cond_false]
        exact hc (by grind) hz
  unfold oneOn
  rw [key]
  by_cases hp : p < H
  · have hv : vl low H p = low + p := if_pos hp
    rw [hv]
    simp only [hp, decide_true, cond_true]
    have hon : onP H s p = p + s := if_pos (by grind)
    rw [hon]
    by_cases hz : p + s < H
    · have : decide (low + p + s < low + H) = true := by simp; grind
      rw [this]
      refine ⟨?_, fun _ _ => by simp [hz]⟩
      show low + p + s = vl low H (p + s)
      unfold vl
      rw [if_pos hz]; grind
    · have : decide (low + p + s < low + H) = false := by simp; grind
      rw [this]
      refine ⟨?_, fun _ _ => by simp [hz]⟩
      show low + H + (low + H) - (low + p + s) = vl low H (p + s)
      unfold vl
      rw [if_neg hz]; grind
  · have hv : vl low H p = low + (2 * H - p) := if_neg hp
    rw [hv]
    simp only [hp, decide_false, cond_false]
    by_cases hz : p + s < 2 * H
    · have hon : onP H s p = p + s := if_pos hz
      rw [hon]
      have : decide (low < low + (2 * H - p) - s) = true := by simp; grind
      rw [this]
      have hn : ¬ p + s < H := by grind
      refine ⟨?_, fun _ _ => by simp [hn]⟩
      show low + (2 * H - p) - s = vl low H (p + s)
      unfold vl
      rw [if_neg hn]; grind
    · have hon : onP H s p = p + s - 2 * H := if_neg hz
      rw [hon]
      have : decide (low < low + (2 * H - p) - s) = false := by simp; grind
      rw [this]
      by_cases hn : p + s - 2 * H < H
      · refine ⟨?_, fun _ _ => by simp [hn]⟩
        show low + low - (low + (2 * H - p) - s) = vl low H (p + s - 2 * H)
        unfold vl
        rw [if_pos hn]; grind
      · exfalso; grind
theorem onP_rmod {H s x : Rat} (hH : 0 < H) (hs : 0 < s) (hs2 : s ≤ H) : onP H s (rmod (2 * H) x) = rmod (2 * H) (x + s) := by
  have h2 : 0 < 2 * H := by grind
  have h0 := rmod_nonneg h2 x
  have h1 := rmod_lt h2 x
  unfold onP
  symm
  have ex : x = rmod (2 * H) x + ((x / (2 * H)).floor : Rat) * (2 * H) := by unfold rmod; grind
  by_cases hz : rmod (2 * H) x + s < 2 * H
  · rw [if_pos hz]
    exact rmod_unique (k := (x / (2 * H)).floor) h2 (by grind) hz (by grind)
  · rw [if_neg hz]
    exact rmod_unique (k := (x / (2 * H)).floor + 1) h2 (by grind) (by grind) (by rw [Rat.intCast_add, Rat.intCast_one]; grind)
theorem valueR_vl (low high step begin : Rat) (row : Int) : valueR low high step begin row = vl low (high - low) (phaseR low high step begin row) := rfl
/-- the walk meets the line -/
theorem walk_on {low high step begin : Rat} {row : Int} {f : Bool} (hl : low < high) (hs : 0 < step) (hs2 : step ≤ high - low) (hc : Cons (high - low) (phaseR low high step begin row) f) :
    (oneOn low high step (valueR low high step begin row) f).1 = valueR low high step begin (row + 1) ∧ Cons (high - low) (phaseR low high step begin (row + 1)) (oneOn low high step (valueR low high step begin row) f).2 := by
  have hH : 0 < high - low := by grind
  have h2 : 0 < 2 * (high - low) := by grind
  have e : phaseR low high step begin (row + 1) = onP (high - low) step (phaseR low high step begin row) := by
    unfold phaseR
    rw [onP_rmod hH hs hs2]
    congr 1
    rw [Rat.intCast_add, Rat.intCast_one]; grind
  have := oneOn_step (low := low) hH hs hs2 (rmod_nonneg h2 (begin + (row : Rat) * step)) (rmod_lt h2 _) hc
  rw [show low + (high - low) = high by grind] at this
  rw [e, valueR_vl, valueR_vl, e]
  exact this
/-- turned about -/
def mir (H p : Rat) : Rat := if p = 0 then 0 else 2 * H - p
theorem vl_mir {low H p : Rat} (hH : 0 < H) (h0 : 0 ≤ p) (h1 : p < 2 * H) : vl low H (mir H p) = vl low H p := by
  unfold vl mir
  by_cases hz : p = 0
  · subst hz; rfl
  · rw [if_neg hz]
    by_cases a : p < H
    · rw [if_pos a, if_neg (by grind)]; grind
    · by_cases b : p = H
      · subst b
        rw [if_neg (by grind), if_neg (by grind)]; grind
      · rw [if_neg a, if_pos (by grind)]
theorem cons_mir {H p : Rat} {f : Bool} (hH : 0 < H) (h0 : 0 ≤ p) (h1 : p < 2 * H) (hc : Cons H p f) : Cons H (mir H p) (!f) := fun a b => by
  unfold mir at a b ⊢
  by_cases hz : p = 0
  · rw [if_pos hz] at a; exact absurd rfl a
  · rw [if_neg hz] at a b ⊢
    rw [hc hz (by grind)]
    by_cases c : p < H
    · simp [c]; grind
    · simp [c]; grind
theorem mir_rmod {H x : Rat} (hH : 0 < H) : mir H (rmod (2 * H) x) = rmod (2 * H) (-x) := by
  have h2 : 0 < 2 * H := by grind
  have h0 := rmod_nonneg h2 x
  have h1 := rmod_lt h2 x
  have ex : x = rmod (2 * H) x + ((x / (2 * H)).floor : Rat) * (2 * H) := by unfold rmod; grind
  unfold mir
  symm
  by_cases hz : rmod (2 * H) x = 0
  · rw [if_pos hz]
    exact rmod_unique (k := -(x / (2 * H)).floor) h2 (by grind) (by grind) (by rw [Rat.intCast_neg]; grind)
  · rw [if_neg hz]
    exact rmod_unique (k := -(x / (2 * H)).floor - 1) h2 (by grind) (by grind) (by rw [Rat.intCast_sub, Rat.intCast_neg, Rat.intCast_one]; grind)
/-- .. and back -/
theorem walk_back {low high step begin : Rat} {row : Int} {f : Bool} (hl : low < high) (hs : 0 < step) (hs2 : step ≤ high - low) (hc : Cons (high - low) (phaseR low high step begin row) f) :
    (oneOn low high step (valueR low high step begin row) (!f)).1 = valueR low high step begin (row - 1) ∧ Cons (high - low) (phaseR low high step begin (row - 1)) (!(oneOn low high step (valueR low high step begin row) (!f)).2) := by
  have hH : 0 < high - low := by grind
  have h2 : 0 < 2 * (high - low) := by grind
  have h0 := rmod_nonneg h2 (begin + (row : Rat) * step)
  have h1 := rmod_lt h2 (begin + (row : Rat) * step)
  have em : ∀ r : Int, mir (high - low) (phaseR low high step begin r) = phaseR low high step (-begin) (-r) := fun r => by
    unfold phaseR
    rw [mir_rmod hH]
    congr 1
    rw [Rat.intCast_neg]; grind
  have ev : ∀ r : Int, valueR low high step (-begin) (-r) = valueR low high step begin r := fun r => by
    rw [valueR_vl, valueR_vl, ← em r]
    exact vl_mir hH (rmod_nonneg h2 _) (rmod_lt h2 _)
  have hc' := cons_mir hH h0 h1 hc
  have hm : mir (high - low) (rmod (2 * (high - low)) (begin + (row : Rat) * step)) = phaseR low high step (-begin) (-row) := em row
  rw [hm] at hc'
  have w := walk_on (low := low) (high := high) (step := step) (begin := -begin) (row := -row) hl hs hs2 hc'
  rw [ev row, show -row + 1 = -(row - 1) by omega, ev (row - 1)] at w
  refine ⟨w.1, ?_⟩
  have := cons_mir hH (rmod_nonneg h2 _) (rmod_lt h2 _) w.2
  have e2 : mir (high - low) (phaseR low high step (-begin) (-(row - 1))) = phaseR low high step begin (row - 1) := by
    have := em (row - 1)
    unfold phaseR at this ⊢
    rw [mir_rmod hH]
    congr 1
    rw [Rat.intCast_neg]; grind
  have e3 : mir (high - low) (rmod (2 * (high - low)) (-begin + ((-(row - 1) : Int) : Rat) * step)) = phaseR low high step begin (row - 1) := e2
  rw [e3] at this
  exact this
theorem cons0 {low high step at_ : Rat} {up : Bool} (L : LineOk low high step at_) : valueR low high step (phase0 low high at_ up) 0 = at_ ∧ Cons (high - low) (phaseR low high step (phase0 low high at_ up) 0) up := by
  have h2 : 0 < 2 * (high - low) := by have := L.h; grind
  have hp : phaseR low high step (phase0 low high at_ up) 0 = phase0 low high at_ up := by
    unfold phaseR
    refine rmod_unique (k := 0) h2 ?_ ?_ ?_
    · unfold phase0; have := L.a; have := L.a2; have := L.h; split <;> grind
    · unfold phase0; have := L.a; have := L.a2; have := L.h
      split
      · rename_i z; have := z.2; grind
      · grind
    · simp
  rw [valueR_vl, hp]
  have := L.a; have := L.a2; have := L.h
  cases up with
  | true =>
    have e : phase0 low high at_ true = at_ - low := by unfold phase0; simp
    rw [e]
    refine ⟨?_, fun a b => ?_⟩
    · unfold vl
      split
      · grind
      · grind
    · symm; simp; grind
  | false =>
    by_cases z : at_ = low
    · have e : phase0 low high at_ false = at_ - low := by unfold phase0; simp [z]
      rw [e]
      refine ⟨?_, fun a b => ?_⟩
      · unfold vl
        split
        · grind
        · grind
      · exfalso; exact a (by grind)
    · have e : phase0 low high at_ false = 2 * (high - low) - (at_ - low) := by unfold phase0; simp [z]
      rw [e]
      refine ⟨?_, fun a b => ?_⟩
      · unfold vl
        split
        · grind
        · grind
      · symm; simp; grind
/-- behind a return it is the same -/
theorem phaseR_return {low high step begin : Rat} (hl : low < high) (row k : Int) : phaseR low high step begin (row + k * ((step / (2 * (high - low))).den : Int)) = phaseR low high step begin row := by
  have h2 : 0 < 2 * (high - low) := by grind
  have hne : 2 * (high - low) ≠ 0 := fun z => by rw [z] at h2; exact absurd h2 Rat.lt_irrefl
  unfold phaseR
  generalize hq : step / (2 * (high - low)) = q
  have e1 : step = q * (2 * (high - low)) := by rw [← hq, Rat.div_mul_cancel hne]
  have e2 : (q.den : Rat) * q = q.num := by
    have := Rat.num_divInt_den q
    rw [Rat.divInt_eq_div] at this
    have hd : ((q.den : Int) : Rat) ≠ 0 := by simp [q.den_nz]
    have h3 := Rat.div_mul_cancel (a := (q.num : Rat)) hd
    rw [this] at h3
    rw [← h3, Rat.mul_comm]; rfl
  have e3 : begin + ((row + k * (q.den : Int) : Int) : Rat) * step = begin + (row : Rat) * step + ((k * q.num : Int) : Rat) * (2 * (high - low)) := by
    rw [Rat.intCast_add, Rat.intCast_mul, Rat.intCast_mul, Rat.intCast_natCast]
    rw [show (k : Rat) * (q.num : Rat) = k * ((q.den : Rat) * q) by rw [e2]]
    conv => lhs; rw [e1]
    conv => rhs; rw [e1]
    grind
  rw [e3, rmod_add_mul h2]
theorem valueR_return {low high step begin : Rat} (hl : low < high) (row k : Int) : valueR low high step begin (row + k * ((step / (2 * (high - low))).den : Int)) = valueR low high step begin row := by
  rw [valueR_vl, valueR_vl, phaseR_return hl]
theorem valueR_bd {low high step begin : Rat} {row : Int} (L : LineB 200 low high step begin) (hr : row.natAbs < 2 ^ 150) : Bd 2900 (valueR low high step begin row) := by
  have b := phaseR_bd L hr
  unfold valueR
  split
  · exact (L.l.add b).mono (by decide)
  · exact (L.l.add (L.t.sub b)).mono (by decide)
theorem lineB_of {low high step at_ : Rat} {up : Bool} (L : LineOk low high step at_) (B : DrB low high step at_) : LineB 200 low high step (phase0 low high at_ up) := by
  have z2 : Bd 2 (2 : Rat) := ⟨by decide, by decide⟩
  have t := z2.mul (B.h.sub B.l)
  refine ⟨B.l.mono (by decide), B.h.mono (by decide), B.s.mono (by decide), ?_, t.mono (by decide), L.h⟩
  unfold phase0
  split
  · exact (t.sub (B.a.sub B.l)).mono (by decide)
  · exact (B.a.sub B.l).mono (by decide)
theorem den_lt {low high step at_ : Rat} (L : LineOk low high step at_) (B : DrB low high step at_) : (step / (2 * (high - low))).den < 2 ^ 100 := by
  have hp : 0 < 2 * (high - low) := by have := L.h; grind
  have hne : 2 * (high - low) ≠ 0 := fun z => by rw [z] at hp; exact absurd hp Rat.lt_irrefl
  have z2 : Bd 2 (2 : Rat) := ⟨by decide, by decide⟩
  exact ((B.s.div (z2.mul (B.h.sub B.l)) hne).mono (m := 100) (by decide)).2
theorem rising_eq {low high step begin : Rat} {row : Int} {f : Bool} (hl : low < high) (hc : Cons (high - low) (phaseR low high step begin row) f) :
    (!decide (valueR low high step begin row = high) && (f || decide (valueR low high step begin row = low))) = decide (phaseR low high step begin row < high - low) := by
  have h2 : 0 < 2 * (high - low) := by grind
  have h0 : 0 ≤ phaseR low high step begin row := rmod_nonneg h2 _
  have h1 : phaseR low high step begin row < 2 * (high - low) := rmod_lt h2 _
  rw [valueR_vl]
  unfold vl
  by_cases a : phaseR low high step begin row < high - low
  · rw [if_pos a]
    by_cases z : phaseR low high step begin row = 0
    · rw [z]
      have e1 : decide (low + 0 = high) = false := by simp; grind
      have e2 : decide (low + 0 = low) = true := by simp; grind
      have e3 : decide ((0 : Rat) < high - low) = true := by simp; grind
      rw [e1, e2, e3]; simp
    · have e1 : decide (low + phaseR low high step begin row = high) = false := by simp; grind
      rw [e1, hc z (by grind)]
      simp [a]
  · rw [if_neg a]
    by_cases z : phaseR low high step begin row = high - low
    · have e1 : decide (low + (2 * (high - low) - phaseR low high step begin row) = high) = true := by simp; grind
      rw [e1]; simp [a]
    · have e2 : decide (low + (2 * (high - low) - phaseR low high step begin row) = low) = false := by simp; grind
      rw [e2, hc (by grind) z]
      simp [a]
theorem E_rise {g : Sg} {ρ : Env} {st : Store} {A B F C : Ex} {v h l : Rat} {f : Bool} (hA : (den g A ρ).e st = .ok (.v (wD v)) st) (hB : (den g B ρ).e st = .ok (.v (wD h)) st) (hF : (den g F ρ).e st = .ok (.v (.bl f)) st) (hC : (den g C ρ).e st = .ok (.v (wD l)) st) :
    (den g (.and (.cmp .ne A B) (.or F (.cmp .eq A C))) ρ).e st = .ok (.v (.bl (!decide (v = h) && (f || decide (v = l))))) st := by
  have n1 := opC_neW v h
  have n2 := opC_eqW v l
  generalize decide (v = h) = b1 at *
  generalize decide (v = l) = b2 at *
  cases b1 <;> cases f <;> simp [-opC_neW, -opC_eqW, hA, hB, hF, hC, n1, n2]
/-! ### when it comes again -/
theorem phase_again {low high step begin : Rat} (hl : low < high) (r : Int) (h : phaseR low high step begin r = phaseR low high step begin 0) : ((step / (2 * (high - low))).den : Int) ∣ r := by
  have h2 : 0 < 2 * (high - low) := by grind
  have hne : 2 * (high - low) ≠ 0 := fun z => by rw [z] at h2; exact absurd h2 Rat.lt_irrefl
  unfold phaseR rmod at h
  generalize ((begin + (r : Rat) * step) / (2 * (high - low))).floor = a at h
  generalize ((begin + ((0 : Int) : Rat) * step) / (2 * (high - low))).floor = b at h
  generalize hq : step / (2 * (high - low)) = q
  have e1 : step = q * (2 * (high - low)) := by rw [← hq, Rat.div_mul_cancel hne]
  have e2 : (r : Rat) * step = ((a - b : Int) : Rat) * (2 * (high - low)) := by
    rw [Rat.intCast_sub]
    simp only [Rat.intCast_zero, Rat.zero_mul, Rat.add_zero] at h
    grind
  have e3 : ((r : Rat) * q - ((a - b : Int) : Rat)) * (2 * (high - low)) = 0 := by
    rw [e1] at e2; grind
  have e4 : (r : Rat) * q = ((a - b : Int) : Rat) := by
    rcases Rat.mul_eq_zero.mp e3 with z | z
    · grind
    · exact absurd z hne
  have hd : ((q.den : Int) : Rat) ≠ 0 := by simp [q.den_nz]
  have e5 : q * ((q.den : Int) : Rat) = (q.num : Rat) := by
    have := Rat.num_divInt_den q
    rw [Rat.divInt_eq_div] at this
    have h3 := Rat.div_mul_cancel (a := (q.num : Rat)) hd
    rw [this] at h3
    exact h3
  have e6 : (r * q.num : Int) = (a - b) * q.den := by
    have : ((r * q.num : Int) : Rat) = (((a - b) * q.den : Int) : Rat) := by
      rw [Rat.intCast_mul, Rat.intCast_mul, ← e5, ← e4]; grind
    exact_mod_cast this
  have hcop : Int.gcd (q.den : Int) q.num = 1 := by
    rw [Int.gcd_comm]; exact q.reduced
  have hdiv : (q.den : Int) ∣ q.num * r := ⟨a - b, by rw [Int.mul_comm]; rw [e6]; exact Int.mul_comm _ _⟩
  have hn : q.den ∣ q.num.natAbs * r.natAbs := by
    have := Int.natAbs_dvd_natAbs.mpr hdiv
    rwa [Int.natAbs_mul, Int.natAbs_natCast] at this
  have hc : Nat.Coprime q.den q.num.natAbs := by
    have := q.reduced
    exact Nat.Coprime.symm this
  have := hc.dvd_of_dvd_mul_left hn
  exact Int.ofNat_dvd_left.mpr this
/-- worth and way tell the phase -/
theorem phase_of_vl {low H p p' : Rat} (h0 : 0 ≤ p) (h1 : p < 2 * H) (h0' : 0 ≤ p') (h1' : p' < 2 * H) (hv : vl low H p = vl low H p') (hw : decide (p < H) = decide (p' < H)) : p = p' := by
  unfold vl at hv
  by_cases a : p < H
  · have a' : p' < H := by simpa [a] using hw
    rw [if_pos a, if_pos a'] at hv; grind
  · have a' : ¬ p' < H := by simpa [a] using hw
    rw [if_neg a, if_neg a'] at hv; grind
/-- the return, in rows -/
theorem num_den {low high step : Rat} (hl : low < high) : (2 * (high - low)) * ((step / (2 * (high - low))).num : Rat) = step * (((step / (2 * (high - low))).den : Int) : Rat) := by
  have h2 : 0 < 2 * (high - low) := by grind
  have hne : 2 * (high - low) ≠ 0 := fun z => by rw [z] at h2; exact absurd h2 Rat.lt_irrefl
  generalize hq : step / (2 * (high - low)) = q
  have e1 : step = q * (2 * (high - low)) := by rw [← hq, Rat.div_mul_cancel hne]
  have hd : ((q.den : Int) : Rat) ≠ 0 := by simp [q.den_nz]
  have e5 : q * ((q.den : Int) : Rat) = (q.num : Rat) := by
    have := Rat.num_divInt_den q
    rw [Rat.divInt_eq_div] at this
    have h3 := Rat.div_mul_cancel (a := (q.num : Rat)) hd
    rw [this] at h3
    exact h3
  rw [← e5]
  conv => rhs; rw [e1]
  grind
/-! ### sizes that do not grow with the row -/
theorem den_add_le (p q : Rat) : (p + q).den ≤ p.den * q.den := by
  have := (divInt_le (a := p.num * q.den + q.num * p.den) (b := p.den * q.den) (dd_ne p q)).2
  rw [divInt_add', Int.natAbs_mul, Int.natAbs_natCast, Int.natAbs_natCast] at this
  exact this
theorem den_sub_le (p q : Rat) : (p - q).den ≤ p.den * q.den := by
  have := (divInt_le (a := p.num * q.den - q.num * p.den) (b := p.den * q.den) (dd_ne p q)).2
  rw [divInt_sub', Int.natAbs_mul, Int.natAbs_natCast, Int.natAbs_natCast] at this
  exact this
theorem den_imul_le (i : Int) (q : Rat) : ((i : Rat) * q).den ≤ q.den := by
  have := (divInt_le (a := (i : Rat).num * q.num) (b := (i : Rat).den * q.den) (dd_ne (i : Rat) q)).2
  rw [divInt_mul', Int.natAbs_mul, Int.natAbs_natCast, Int.natAbs_natCast] at this
  simpa using this
/-- between 0 and t, of a small bottom -/
theorem bd_between {q t : Rat} {n k : Nat} (hd : q.den < 2 ^ n) (h0 : 0 ≤ q) (h1 : q < t) (ht : t.num.natAbs < 2 ^ k) : Bd (n + k) q := by
  have a := (Rat.lt_iff q t).mp h1
  have b := Rat.num_nonneg.mpr h0
  have tp := den_pos t
  have qp := den_pos q
  have tn : 0 < t.num := by
    have h2 : 0 < t := by grind
    have := (Rat.lt_iff 0 t).mp h2
    simpa using this
  have c : q.num * 1 ≤ q.num * t.den := Int.mul_le_mul_of_nonneg_left (by omega) b
  have d : q.num < t.num * q.den := by omega
  have e : t.num.natAbs * q.den < 2 ^ k * 2 ^ n := Nat.mul_lt_mul'' ht hd
  refine ⟨?_, Nat.lt_of_lt_of_le hd (Nat.pow_le_pow_right (by decide) (by omega))⟩
  rw [Nat.add_comm, Nat.pow_add]
  have f : (q.num.natAbs : Int) < (t.num.natAbs * q.den : Nat) := by
    rw [Int.natAbs_of_nonneg b, Int.natCast_mul, Int.natAbs_of_nonneg (by omega)]
    exact d
  omega
theorem valueR_sz {low high step at_ : Rat} {up : Bool} (L : LineOk low high step at_) (B : DrB low high step at_) (row : Int) : Bd 400 (valueR low high step (phase0 low high at_ up) row) := by
  have z2 : Bd 2 (2 : Rat) := ⟨by decide, by decide⟩
  have t := z2.mul (B.h.sub B.l)
  have hp : 0 < 2 * (high - low) := by have := L.h; grind
  have bb : Bd 112 (phase0 low high at_ up) := by
    unfold phase0
    split
    · exact (t.sub (B.a.sub B.l)).mono (by decide)
    · exact (B.a.sub B.l).mono (by decide)
  have d1 : (phase0 low high at_ up + (row : Rat) * step).den < 2 ^ 130 := by
    refine Nat.lt_of_le_of_lt (den_add_le _ _) ?_
    refine Nat.lt_of_le_of_lt (Nat.mul_le_mul_left _ (den_imul_le row step)) ?_
    have := Nat.mul_lt_mul'' bb.2 B.s.2
    rw [← Nat.pow_add] at this
    exact this
  have d2 : (phaseR low high step (phase0 low high at_ up) row).den < 2 ^ 186 := by
    unfold phaseR rmod
    refine Nat.lt_of_le_of_lt (den_sub_le _ _) ?_
    refine Nat.lt_of_le_of_lt (Nat.mul_le_mul_left _ (den_imul_le _ _)) ?_
    have := Nat.mul_lt_mul'' d1 t.2
    rw [← Nat.pow_add] at this
    exact Nat.lt_of_lt_of_le this (Nat.pow_le_pow_right (by decide) (by decide))
  have bp : Bd 242 (phaseR low high step (phase0 low high at_ up) row) := (bd_between d2 (rmod_nonneg hp _) (rmod_lt hp _) t.1).mono (by decide)
  unfold valueR
  split
  · exact (B.l.add bp).mono (by decide)
  · exact (B.l.add (t.sub bp)).mono (by decide)
/-! ### turnings counted -/
theorem floor_div_eq {y H : Rat} {n : Int} (hH : 0 < H) (h1 : (n : Rat) * H ≤ y) (h2 : y < ((n + 1 : Int) : Rat) * H) : (y / H).floor = n := by
  have hne : H ≠ 0 := fun z => by rw [z] at hH; exact absurd hH Rat.lt_irrefl
  have a : n ≤ (y / H).floor := by
    rw [Rat.le_floor_iff]
    refine Rat.le_of_mul_le_mul_right ?_ hH
    rw [Rat.div_mul_cancel hne]; exact h1
  have b : (y / H).floor < n + 1 := by
    rw [Rat.floor_lt_iff, Rat.div_lt_iff hH]
    exact h2
  omega
def leftR (H p : Rat) : Rat := if p < H then H - p else 2 * H - p
theorem turn_count {H s x : Rat} (hH : 0 < H) (hs : 0 < s) (hs2 : s ≤ H) : ((x + s) / H).floor - (x / H).floor = if leftR H (rmod (2 * H) x) ≤ s then 1 else 0 := by
  have h2 : 0 < 2 * H := by grind
  have h0 := rmod_nonneg h2 x
  have h1 := rmod_lt h2 x
  have ex : x = rmod (2 * H) x + ((x / (2 * H)).floor : Rat) * (2 * H) := by unfold rmod; grind
  generalize (x / (2 * H)).floor = k at ex
  generalize rmod (2 * H) x = p at *
  unfold leftR
  by_cases a : p < H
  · rw [if_pos a]
    have e1 : (x / H).floor = 2 * k := floor_div_eq hH (by rw [Rat.intCast_mul]; simp; grind) (by rw [Rat.intCast_add, Rat.intCast_mul]; simp; grind)
    by_cases b : H - p ≤ s
    · have e2 : ((x + s) / H).floor = 2 * k + 1 := floor_div_eq hH (by rw [Rat.intCast_add, Rat.intCast_mul]; simp; grind) (by rw [Rat.intCast_add, Rat.intCast_add, Rat.intCast_mul]; simp; grind)
      rw [e1, e2, if_pos b]; omega
    · have e2 : ((x + s) / H).floor = 2 * k := floor_div_eq hH (by rw [Rat.intCast_mul]; simp; grind) (by rw [Rat.intCast_add, Rat.intCast_mul]; simp; grind)
      rw [e1, e2, if_neg b]; omega
  · rw [if_neg a]
    have e1 : (x / H).floor = 2 * k + 1 := floor_div_eq hH (by rw [Rat.intCast_add, Rat.intCast_mul]; simp; grind) (by rw [Rat.intCast_add, Rat.intCast_add, Rat.intCast_mul]; simp; grind)
    by_cases b : 2 * H - p ≤ s
    · have e2 : ((x + s) / H).floor = 2 * k + 2 := floor_div_eq hH (by rw [Rat.intCast_add, Rat.intCast_mul]; simp; grind) (by rw [Rat.intCast_add, Rat.intCast_add, Rat.intCast_mul]; simp; grind)
      rw [e1, e2, if_pos b]; omega
    · have e2 : ((x + s) / H).floor = 2 * k + 1 := floor_div_eq hH (by rw [Rat.intCast_add, Rat.intCast_mul]; simp; grind) (by rw [Rat.intCast_add, Rat.intCast_add, Rat.intCast_mul]; simp; grind)
      rw [e1, e2, if_neg b]; omega
end SV

set_option maxRecDepth 100000
set_option maxHeartbeats 4000000
/-! SvXc: more steps by simp -/
namespace SV
open PySem PySem.Spec PyProof.Rows
open L2 hiding It
section
variable (g : Sg) (ρ : Env) (st : Store)
/-! freezing, turning about, lists laid as cells -/
noncomputable def cFz (x : R) : M R := fun st => (frz x st).bind vOf
@[simp] theorem E_fz (a : Ex) : (den g (.fz a) ρ).e st = ((den g a ρ).e st).bind cFz := by simp only [den]; rfl
@[simp] theorem T_fz (a : Ex) : (den g (.fz a) ρ).t st = ((den g (.fz a) ρ).e st).bind truth := by simp only [den]
@[simp] theorem cFz_at (x : R) : cFz x st = (frz x st).bind vOf := id rfl
@[simp] theorem E_rev (a : Ex) : (den g (.rev a) ρ).e st = ((den g a ρ).e st).bind revD := by simp only [den]
@[simp] theorem revD_v (ds : List D) : revD (.v (.lst ds)) st = .ok (.v (.lst ds.reverse)) st := id rfl
theorem revD_at (x : R) : revD x st = (rdD x st).bind fun d => match d with | .lst ds => M.pure (.v (.lst ds.reverse)) | _ => M.bad := id rfl
noncomputable def cJoin2 (d : D) (y : R) : M R := joinD d y
noncomputable def cJoin1 (g : Sg) (b : Ex) (ρ : Env) (d : D) (_ : Unit) : M R := fun st => ((den g b ρ).e st).bind (cJoin2 d)
noncomputable def cJoin0 (g : Sg) (b : Ex) (ρ : Env) (d : D) : M R := fun st => (chkTx d st).bind (cJoin1 g b ρ d)
noncomputable def cJoin (g : Sg) (b : Ex) (ρ : Env) (x : R) : M R := fun st => (rdD x st).bind (cJoin0 g b ρ)
@[simp] theorem E_join (a b : Ex) : (den g (.join a b) ρ).e st = ((den g a ρ).e st).bind (cJoin g b ρ) := by simp only [den]; rfl
@[simp] theorem cJoin_at (b : Ex) (x : R) : cJoin g b ρ x st = (rdD x st).bind (cJoin0 g b ρ) := id rfl
@[simp] theorem cJoin0_str (b : Ex) (s : Str) : cJoin0 g b ρ (.str s) st = ((den g b ρ).e st).bind (cJoin2 (.str s)) := id rfl
theorem cJoin2_v (s : Str) (ds : List D) {ys : List Str} (h : allS ds = some ys) (hl : (ys.map (·.length)).sum + ys.length * s.length ≤ 16777216) : cJoin2 (.str s) (.v (.lst ds)) st = .ok (.v (.str (Txt.join s ys))) st := by
  show (joinD (.str s) (.v (.lst ds)) st) = _
  simp only [joinD, M.bind, rd_v, Out.bind_ok, h, hl, if_true]
@[simp] theorem E_lstc (a : Ex) : (den g (.lstc a) ρ).e st = ((den g a ρ).e st).bind lstC := by simp only [den]
@[simp] theorem lstC_l (ds : List D) : lstC (.v (.lst ds)) st = .ok (.ref st.length) (st ++ [.lst (ds.map R.v)]) := id rfl
@[simp] theorem lstC_t (ds : List D) : lstC (.v (.tup ds)) st = .ok (.ref st.length) (st ++ [.lst (ds.map R.v)]) := id rfl
noncomputable def cCatc (g : Sg) (b : Ex) (ρ : Env) (x : R) : M R := fun st => ((den g b ρ).e st).bind (catC x)
@[simp] theorem E_catc (a b : Ex) : (den g (.catc a b) ρ).e st = ((den g a ρ).e st).bind (cCatc g b ρ) := by simp only [den]; rfl
@[simp] theorem cCatc_at (b : Ex) (x : R) : cCatc g b ρ x st = ((den g b ρ).e st).bind (catC x) := id rfl
noncomputable def cRep1 (g : Sg) (k : Ex) (ρ : Env) (ds : List D) : M R := fun st => ((den g k ρ).e st).bind (repD ds)
noncomputable def cRep (g : Sg) (k : Ex) (ρ : Env) (rs : List R) : M R := fun st => (frzs rs st).bind (cRep1 g k ρ)
@[simp] theorem E_rep (es : List Ex) (k : Ex) : (den g (.rep es k) ρ).e st = (denEs g es ρ st).bind (cRep g k ρ) := by simp only [den]; rfl
@[simp] theorem cRep_at (k : Ex) (rs : List R) : cRep g k ρ rs st = (frzs rs st).bind (cRep1 g k ρ) := id rfl
@[simp] theorem cRep1_at (k : Ex) (ds : List D) : cRep1 g k ρ ds st = ((den g k ρ).e st).bind (repD ds) := id rfl
theorem repD_v (ds : List D) (k : Int) (h1 : -(2 ^ 63) ≤ k) (h2 : k < 2 ^ 63) (h3 : ds.length * k.toNat ≤ sizeLine) : repD ds (.v (.int k)) st = .ok (.v (.lst (List.replicate k.toNat ds).flatten)) st := by
  simp only [repD, M.bind, intOf_v, Out.bind_ok, h1, h2, h3, and_self, if_true]
/-! calls whose answers may change -/
noncomputable def cPmT (F : List R → M R) (pm : List (Nat ⊕ D)) (rs : List R) : M R := fun st => (M.of (assem rs pm) st).bind (thawF F)
@[simp] theorem E_callT (f : Nat) (es : List Ex) (pm : List (Nat ⊕ D)) : (den g (.callT f es pm) ρ).e st = (denEs g es ρ st).bind (cPmT (g.S f) pm) := by simp only [den]; rfl
@[simp] theorem cPmT_at (F : List R → M R) (pm : List (Nat ⊕ D)) (rs : List R) : cPmT F pm rs st = (M.of (assem rs pm) st).bind (thawF F) := id rfl
theorem thawF_ok {F : List R → M R} {args : List R} {r : R} {s1 : Store} (hv : (args.all fun r => (valOf r).isSome) = true) (h : F args [] = .ok r s1) : thawF F args st = .ok (shR st.length r) (st ++ s1.map (shC st.length)) := by
  simp only [thawF, hv, if_true, h]
theorem thawF_exc {F : List R → M R} {args : List R} {c : Nat} {fs : List (Str × D)} {s1 : Store} (hv : (args.all fun r => (valOf r).isSome) = true) (h : F args [] = .exc c fs s1) : thawF F args st = .exc c fs st := by
  simp only [thawF, hv, if_true, h]
/-- a call with a cell among its arguments -/
theorem callF_cell {F : List R → M R} {args : List R} (h : (args.all fun r => (valOf r).isSome) = false) : callF F args st = F args st := by
  simp only [callF, h]; rfl
@[simp] theorem callF_ref1 {F : List R → M R} (n : Nat) : callF F [.ref n] st = F [.ref n] st := callF_cell st rfl
@[simp] theorem callF_ref2 {F : List R → M R} (n : Nat) (x : R) : callF F [.ref n, x] st = F [.ref n, x] st := callF_cell st rfl
@[simp] theorem callF_ref3 {F : List R → M R} (n : Nat) (x y : R) : callF F [.ref n, x, y] st = F [.ref n, x, y] st := callF_cell st rfl
@[simp] theorem callF_ref4 {F : List R → M R} (n : Nat) (x y z : R) : callF F [.ref n, x, y, z] st = F [.ref n, x, y, z] st := callF_cell st rfl
@[simp] theorem callF_ref5 {F : List R → M R} (n : Nat) (x y z u : R) : callF F [.ref n, x, y, z, u] st = F [.ref n, x, y, z, u] st := callF_cell st rfl
/-! methods of some classes -/
noncomputable def cMthA2 (t : Bool) (S : Nat → List R → M R) (pm : List (Nat ⊕ D)) (f : Nat) (x : R) (rs : List R) : M R := fun st => (M.of (assem (x :: rs) pm) st).bind (cfOf t (S f))
noncomputable def cMthA1 (g : Sg) (t : Bool) (es : List Ex) (pm : List (Nat ⊕ D)) (ρ : Env) (x : R) (f : Nat) : M R := fun st => (denEs g es ρ st).bind (cMthA2 t g.S pm f x)
noncomputable def cMthA (g : Sg) (t : Bool) (cs : List Nat) (nm : Str) (es : List Ex) (pm : List (Nat ⊕ D)) (ρ : Env) (x : R) : M R := fun st => (mthOf (ctR cs g.ct) nm x st).bind (cMthA1 g t es pm ρ x)
@[simp] theorem E_mthA (t : Bool) (cs : List Nat) (o : Ex) (nm : Str) (es : List Ex) (pm : List (Nat ⊕ D)) : (den g (.mthA t cs o nm es pm) ρ).e st = ((den g o ρ).e st).bind (cMthA g t cs nm es pm ρ) := by simp only [den]; rfl
@[simp] theorem T_mthA (t : Bool) (cs : List Nat) (o : Ex) (nm : Str) (es : List Ex) (pm : List (Nat ⊕ D)) : (den g (.mthA t cs o nm es pm) ρ).t st = ((den g (.mthA t cs o nm es pm) ρ).e st).bind truth := by simp only [den]
@[simp] theorem cMthA_at (t : Bool) (cs : List Nat) (nm : Str) (es : List Ex) (pm : List (Nat ⊕ D)) (x : R) : cMthA g t cs nm es pm ρ x st = (mthOf (ctR cs g.ct) nm x st).bind (cMthA1 g t es pm ρ x) := id rfl
@[simp] theorem cMthA1_at (t : Bool) (es : List Ex) (pm : List (Nat ⊕ D)) (x : R) (f : Nat) : cMthA1 g t es pm ρ x f st = (denEs g es ρ st).bind (cMthA2 t g.S pm f x) := id rfl
@[simp] theorem cMthA2_at (t : Bool) (S : Nat → List R → M R) (pm : List (Nat ⊕ D)) (f : Nat) (x : R) (rs : List R) : cMthA2 t S pm f x rs st = (M.of (assem (x :: rs) pm) st).bind (cfOf t (S f)) := id rfl
@[simp] theorem cfOf_f : cfOf false = callF := id rfl
@[simp] theorem cfOf_t : cfOf true = thawF := id rfl
/-! statements -/
noncomputable def kPar3c (i j l : Nat) (x y : R) (ρ : Env) (z : R) (st : Store) : OutS := .nx (((ρ.set i (some x)).set j (some y)).set l (some z)) st
noncomputable def kPar3b (g : Sg) (i j l : Nat) (c : Ex) (x : R) (ρ : Env) (y : R) (st : Store) : OutS := ((den g c ρ).e st).to ρ (kPar3c i j l x y ρ)
noncomputable def kPar3a (g : Sg) (i j l : Nat) (b c : Ex) (ρ : Env) (x : R) (st : Store) : OutS := ((den g b ρ).e st).to ρ (kPar3b g i j l c x ρ)
@[simp] theorem S_par3 (i j l : Nat) (a b c : Ex) : denS g (.par3 i j l a b c) ρ st = ((den g a ρ).e st).to ρ (kPar3a g i j l b c ρ) := by simp only [denS]; rfl
@[simp] theorem kPar3a_at (i j l : Nat) (b c : Ex) (x : R) : kPar3a g i j l b c ρ x st = ((den g b ρ).e st).to ρ (kPar3b g i j l c x ρ) := id rfl
@[simp] theorem kPar3b_at (i j l : Nat) (c : Ex) (x y : R) : kPar3b g i j l c x ρ y st = ((den g c ρ).e st).to ρ (kPar3c i j l x y ρ) := id rfl
@[simp] theorem kPar3c_at (i j l : Nat) (x y z : R) : kPar3c i j l x y ρ z st = .nx (((ρ.set i (some x)).set j (some y)).set l (some z)) st := id rfl
noncomputable def kSeti4 (ρ : Env) (_ : Unit) (st : Store) : OutS := .nx ρ st
noncomputable def kSeti3 (x y : R) (ρ : Env) (z : R) (st : Store) : OutS := (setCell y z x st).to ρ (kSeti4 ρ)
noncomputable def kSeti2 (g : Sg) (k : Ex) (x : R) (ρ : Env) (y : R) (st : Store) : OutS := ((den g k ρ).e st).to ρ (kSeti3 x y ρ)
noncomputable def kSeti1 (g : Sg) (o k : Ex) (ρ : Env) (x : R) (st : Store) : OutS := ((den g o ρ).e st).to ρ (kSeti2 g k x ρ)
@[simp] theorem S_seti (o k e : Ex) : denS g (.seti o k e) ρ st = ((den g e ρ).e st).to ρ (kSeti1 g o k ρ) := by simp only [denS]; rfl
@[simp] theorem kSeti1_at (o k : Ex) (x : R) : kSeti1 g o k ρ x st = ((den g o ρ).e st).to ρ (kSeti2 g k x ρ) := id rfl
@[simp] theorem kSeti2_at (k : Ex) (x y : R) : kSeti2 g k x ρ y st = ((den g k ρ).e st).to ρ (kSeti3 x y ρ) := id rfl
@[simp] theorem kSeti3_at (x y z : R) : kSeti3 x y ρ z st = (setCell y z x st).to ρ (kSeti4 ρ) := id rfl
@[simp] theorem kSeti4_at (u : Unit) : kSeti4 ρ u st = .nx ρ st := id rfl
theorem setCell_at {n j : Nat} {i : Int} {xs : List R} {x : R} (h : st[n]? = some (.lst xs)) (hj : L2.ixN xs.length i = some j) : setCell (.ref n) (.v (.int i)) x st = .ok () (st.set n (.lst (xs.set j x))) := by
  simp only [setCell, M.bind, intOf_v, Out.bind_ok, h, hj]
/-- a cell's item -/
theorem index_cell {n : Nat} {i : Int} {xs : List R} {x : R} (h : st[n]? = some (.lst xs)) (hx : L2.atI xs i = some x) : index (.ref n) (.v (.int i)) st = .ok x st := by
  simp only [index, M.bind, intOf_v, Out.bind_ok, items, h, hx]
/-! comprehensions over few things, turn by turn -/
noncomputable def lcAdd (o : Option R) (ys : List R) : M (List R) := fun st => .ok (match o with | some y => y :: ys | none => ys) st
noncomputable def lcK (f : R → M (Option R)) (xs : List R) (o : Option R) : M (List R) := fun st => (lcGo f xs st).bind (lcAdd o)
@[simp] theorem lcGo_nil (f : R → M (Option R)) : lcGo f [] st = .ok [] st := id rfl
@[simp] theorem lcGo_cons (f : R → M (Option R)) (x : R) (xs : List R) : lcGo f (x :: xs) st = (f x st).bind (lcK f xs) := id rfl
@[simp] theorem lcK_at (f : R → M (Option R)) (xs : List R) (o : Option R) : lcK f xs o st = (lcGo f xs st).bind (lcAdd o) := id rfl
@[simp] theorem lcAdd_s (y : R) (ys : List R) : lcAdd (some y) ys st = .ok (y :: ys) st := id rfl
@[simp] theorem lcAdd_n (ys : List R) : lcAdd none ys st = .ok ys st := id rfl
noncomputable def lstOfDs (ds : List D) : M R := fun st => .ok (.v (.lst ds)) st
@[simp] theorem lstOfDs_at (ds : List D) : lstOfDs ds st = .ok (.v (.lst ds)) st := id rfl
@[simp] theorem lcFin_f (ys : List R) : lcFin false ys st = (frzs ys st).bind lstOfDs := id rfl
@[simp] theorem lcFin_t (ys : List R) : lcFin true ys st = .ok (.ref st.length) (st ++ [.lst ys]) := id rfl
theorem kLc_open (cell : Bool) (elt : Ex) (tg : Tg) (cond : Option Ex) (xs : List R) (h : xs.length ≤ 1000) : kLc g cell elt tg cond ρ xs st = (lcGo (lcF g cell elt tg cond ρ) xs st).bind (lcFin cell) := by
  simp only [kLc, chkN, if_pos (Nat.le_trans h (show 1000 ≤ sizeLine by decide)), Out.bind_ok]
end
theorem seq_end (g : Sg) (o : OutS) : o.seq (denSs g []) = o := by cases o <;> simp [denSs]
@[simp] theorem opF_intB (b : Bool) : opF .int [.bl b] = some (.int (if b = true then 1 else 0)) := id rfl
@[simp] theorem opF_intI (i : Int) : opF .int [.int i] = some (.int i) := id rfl
@[simp] theorem shR_v (k : Nat) (d : D) : shR k (.v d) = .v d := id rfl
@[simp] theorem shR_ref (k n : Nat) : shR k (.ref n) = .ref (k + n) := id rfl
@[simp] theorem shC_lst (k : Nat) (xs : List R) : shC k (.lst xs) = .lst (xs.map (shR k)) := id rfl
@[simp] theorem shC_fz (k : Nat) (d : D) : shC k (.fz d) = .fz d := id rfl
@[simp] theorem ixN_lit (n : Nat) (k : Nat) (h : k < n) : L2.ixN n (no_index (OfNat.ofNat k : Int)) = some k := by
  unfold L2.ixN
  rw [if_pos (by exact Int.natCast_nonneg k), if_pos (by exact Int.ofNat_lt.mpr h)]
  rfl
end SV

set_option maxRecDepth 100000
set_option maxHeartbeats 4000000
/-! SvXd: ends of statements, told by what stands then -/
namespace SV
open PySem PySem.Spec PyProof.Rows
open L2 hiding It
/-- it goes on, and then P -/
def Goes (o : OutS) (P : Env → Store → Prop) : Prop := ∃ ρ st, o = .nx ρ st ∧ P ρ st
@[simp] theorem goes_nx (ρ : Env) (st : Store) (P : Env → Store → Prop) : Goes (.nx ρ st) P ↔ P ρ st := ⟨fun ⟨_, _, e, h⟩ => by cases e; exact h, fun h => ⟨_, _, rfl, h⟩⟩
theorem Goes.mono {o : OutS} {P P' : Env → Store → Prop} (h : Goes o P) (i : ∀ ρ st, P ρ st → P' ρ st) : Goes o P' := by
  obtain ⟨ρ, st, e, p⟩ := h
  exact ⟨ρ, st, e, i _ _ p⟩
theorem Goes.seq {o : OutS} {P P' : Env → Store → Prop} {k : Env → Store → OutS} (h : Goes o P) (i : ∀ ρ st, P ρ st → Goes (k ρ st) P') : Goes (o.seq k) P' := by
  obtain ⟨ρ, st, rfl, p⟩ := h
  exact i _ _ p
/-- a loop whose turns all go on, an invariant kept -/
theorem goes_FR {g : Sg} {tg : Tg} {body : List Sm} (I : Nat → Env → Store → Prop) : ∀ (xs : List R) (k : Nat) (ρ : Env) (st : Store), I k ρ st →
    (∀ j v ρ st, xs[j]? = some v → I (k + j) ρ st → ∃ ρ1 st1, bindTg tg v ρ st = .ok ρ1 st1 ∧ Goes (denSs g body ρ1 st1) (I (k + j + 1))) → Goes (FR g tg body xs ρ st) (I (k + xs.length))
  | [], k, ρ, st, h, _ => by rw [FR_nil]; exact ⟨_, _, rfl, h⟩
  | x :: xs, k, ρ, st, h, s => by
    obtain ⟨ρ1, st1, e, ρ2, st2, e2, h2⟩ := s 0 x ρ st rfl h
    rw [FR_cons, e]
    simp only [Out.to_ok, kFr1_at, e2, OutS.turn_nx]
    have := goes_FR I xs (k + 1) ρ2 st2 h2 fun j v ρ st hv hI => by
      have := s (j + 1) v ρ st (by simpa using hv) (by rw [show k + (j + 1) = k + 1 + j by omega]; exact hI)
      rw [show k + (j + 1) + 1 = k + 1 + j + 1 by omega] at this
      exact this
    rw [show k + (x :: xs).length = k + 1 + xs.length by simp; omega]
    exact this
/-- a law's frame: cells of the script, one by one -/
theorem law_frame2 {g : Sg} {N n : Nat} {ds : List Int} {outer : List Sm} {fn : Fn} (hb : fn.body = [.asg 1 (.sl (.var 0) none (some (.con (D.int N)))), .ite (.cmp .eq (.var 1) (.lst false [])) [.asg 1 (.lst false (ds.map fun d => .con (.int d)))] [], .frr (.one 2) (.over (.var 1)) outer, .ret (.con (.bl true))])
    (hn : fn.n = n + 3) (h : ∀ (c : Int) (o0 o1 : Option R) (os : List (Option R)) (st : Store), os.length = n → Goes (denSs g outer (o0 :: o1 :: some (.v (.int c)) :: os) st) fun ρ _ => ρ.length = n + 3) (ns : List Int) :
    ∃ st, denF g fn [.v (.lst (ns.map D.int))] [] = .ok (.v (.bl true)) st := by
  have loop : ∀ (cs : List Int) (ρ : Env) (st : Store), ρ.length = n + 3 → ∃ ρ' st', FR g (.one 2) outer (cs.map fun c => R.v (.int c)) ρ st = .nx ρ' st' := by
    intro cs
    induction cs with
    | nil => intro ρ st _; exact ⟨_, _, FR_nil ..⟩
    | cons c cs ih =>
      intro ρ st ho
      match ρ, ho with
      | o0 :: o1 :: o2 :: os, ho =>
        obtain ⟨ρ1, st1, e, l⟩ := h c o0 o1 os st (by simpa using ho)
        obtain ⟨ρ2, st2, h3⟩ := ih ρ1 st1 l
        refine ⟨ρ2, st2, ?_⟩
        rw [List.map_cons, FR_cons]
        simp only [bind_one, Out.to_ok, kFr1_at, List.set_cons_succ, List.set_cons_zero, e, OutS.turn_nx, h3]
  have hcut : cutR (ns.map D.int) none (some (N : Int)) = (ns.take N).map D.int := by
    rw [cutR_map]; exact congrArg _ (cut_take ns N)
  have heq : opC .eq (.lst ((ns.take N).map D.int)) (.lst []) = some (ns.take N).isEmpty := deq_ints_nil _
  have hm : ∀ l : List Int, (l.map D.int).map R.v = l.map fun c => R.v (.int c) := fun l => by simp
  have hEs : ∀ (l : List Int) (ρ : Env) (st : Store), denEs g (l.map fun d => .con (.int d)) ρ st = .ok (l.map fun c => R.v (.int c)) st := by
    intro l
    induction l with
    | nil => intro ρ st; simp
    | cons a l ih => intro ρ st; simp [ih]
  unfold denF
  rw [hb, hn]
  generalize ns.take N = cs at *
  simp only [List.map_cons, List.map_nil, List.length_cons, List.length_nil]
  rw [show n + 3 - (0 + 1) = n + 2 by omega, List.replicate_succ, List.replicate_succ]
  cases q : cs.isEmpty with
  | true =>
    rw [q] at heq
    obtain ⟨ρ, st', h⟩ := loop ds (some (.v (.lst (ns.map D.int))) :: some (.v (.lst (ds.map D.int))) :: none :: List.replicate n none) [] (by simp)
    refine ⟨st', ?_⟩
    have hfr : ∀ st, frzs (ds.map fun c => R.v (.int c)) st = .ok (ds.map D.int) st := fun st => by
      have := frzs_vs st (ds.map D.int)
      rwa [hm] at this
    simp [hcut, heq, hEs, hfr, -List.map_map, hm, h]
  | false =>
    rw [q] at heq
    obtain ⟨ρ, st', h⟩ := loop cs (some (.v (.lst (ns.map D.int))) :: some (.v (.lst (cs.map D.int))) :: none :: List.replicate n none) [] (by simp)
    exact ⟨st', by simp [hcut, heq, -List.map_map, hm, h]⟩
theorem denSs_app (g : Sg) : ∀ (a b : List Sm) (ρ : Env) (st : Store), denSs g (a ++ b) ρ st = (denSs g a ρ st).seq fun ρ1 st1 => denSs g b ρ1 st1
  | [], b, ρ, st => by simp [denSs]
  | x :: a, b, ρ, st => by
    rw [List.cons_append, denSs, denSs]
    cases denS g x ρ st with
    | nx ρ1 st1 => simp only [OutS.seq_nx]; exact denSs_app g a b ρ1 st1
    | _ => rfl
/-- a loop over numbers whose turns all go on -/
theorem goes_cells {g : Sg} {i N : Nat} {body : List Sm} (h : ∀ (c : Int) (ρ : Env) (st : Store), ρ.length = N → Goes (denSs g body (ρ.set i (some (.v (.int c)))) st) fun ρ _ => ρ.length = N) : ∀ (cs : List Int) (ρ : Env) (st : Store), ρ.length = N → Goes (FR g (.one i) body (cs.map fun c => R.v (.int c)) ρ st) fun ρ _ => ρ.length = N
  | [], ρ, st, hl => by rw [List.map_nil, FR_nil]; exact ⟨_, _, rfl, hl⟩
  | c :: cs, ρ, st, hl => by
    obtain ⟨ρ1, st1, e, l1⟩ := h c ρ st hl
    obtain ⟨ρ2, st2, e2, l2⟩ := goes_cells h cs ρ1 st1 l1
    refine ⟨ρ2, st2, ?_, l2⟩
    rw [List.map_cons, FR_cons]
    simp only [bind_one, Out.to_ok, kFr1_at, e, OutS.turn_nx, e2]
end SV

set_option maxRecDepth 100000
set_option maxHeartbeats 4000000
/-! SvXe: steps by simp: dicts, texts' methods, index and count, comprehensions with two clauses -/
namespace SV
open PySem PySem.Spec PyProof.Rows
open L2 hiding It
section
variable (g : Sg) (ρ : Env) (st : Store)
@[simp] theorem E_bad : (den g .bad ρ).e st = .bad := by simp only [den]; rfl
@[simp] theorem T_bad : (den g .bad ρ).t st = .bad := by simp only [den]; rfl
@[simp] theorem E_dnew : (den g .dnew ρ).e st = .ok (.ref st.length) (st ++ [.dct []]) := by simp only [den]; rfl
/-! d[k] -/
noncomputable def cDix1 (x y : R) : M R := dIx x y
noncomputable def cDix (g : Sg) (b : Ex) (ρ : Env) (x : R) : M R := fun st => ((den g b ρ).e st).bind (cDix1 x)
@[simp] theorem E_dix (a b : Ex) : (den g (.dix a b) ρ).e st = ((den g a ρ).e st).bind (cDix g b ρ) := by simp only [den]; rfl
@[simp] theorem T_dix (a b : Ex) : (den g (.dix a b) ρ).t st = ((den g (.dix a b) ρ).e st).bind truth := by simp only [den]
@[simp] theorem cDix_at (b : Ex) (x : R) : cDix g b ρ x st = ((den g b ρ).e st).bind (cDix1 x) := id rfl
theorem keyM_v {d : D} {k : L2.Key} (h : keyD d = some k) : keyM (.v d) st = .ok k st := by
  simp only [keyM, M.bind, rd_v, Out.bind_ok, h]
@[simp] theorem keyM_i (i : Int) : keyM (.v (.int i)) st = .ok (.inl i) st := keyM_v st rfl
@[simp] theorem keyM_s (s : Str) : keyM (.v (.str s)) st = .ok (.inr s) st := keyM_v st rfl
@[simp] theorem dEnt_v (kvs : List (L2.Key × D)) : dEnt (.v (.dct kvs)) st = .ok (kvs.map fun p => (p.1, R.v p.2)) st := id rfl
theorem dEnt_cell {n : Nat} {kvs : List (L2.Key × R)} (h : st[n]? = some (.dct kvs)) : dEnt (.ref n) st = .ok kvs st := by simp only [dEnt, h]
theorem dAt_map (kvs : List (L2.Key × D)) (k : L2.Key) : dAt (kvs.map fun p => (p.1, R.v p.2)) k = (dAt kvs k).map R.v := by
  induction kvs with
  | nil => rfl
  | cons p l ih =>
    obtain ⟨q, v⟩ := p
    by_cases h : q = k
    · simp [dAt, List.find?_cons, h]
    · have e1 : dAt ((q, R.v v) :: l.map fun p => (p.1, R.v p.2)) k = dAt (l.map fun p => (p.1, R.v p.2)) k := by simp [dAt, List.find?_cons, h]
      have e2 : dAt ((q, v) :: l) k = dAt l k := by simp [dAt, List.find?_cons, h]
      rw [List.map_cons, e1, e2, ih]
theorem cDix1_v {kvs : List (L2.Key × D)} {d e : D} {k : L2.Key} (hk : keyD d = some k) (h : dAt kvs k = some e) : cDix1 (.v (.dct kvs)) (.v d) st = .ok (.v e) st := by
  simp only [cDix1, dIx, M.bind, dEnt_v, Out.bind_ok, keyM_v st hk, dAt_map, h, Option.map_some]
theorem cDix1_cell {n : Nat} {kvs : List (L2.Key × R)} {d : D} {k : L2.Key} {r : R} (hn : st[n]? = some (.dct kvs)) (hk : keyD d = some k) (h : dAt kvs k = some r) : cDix1 (.ref n) (.v d) st = .ok r st := by
  simp only [cDix1, dIx, M.bind, dEnt_cell st hn, Out.bind_ok, keyM_v st hk, h]
/-! k in d -/
noncomputable def cDin1 (neg : Bool) (y x : R) : M R := dIn neg y x
noncomputable def cDin (g : Sg) (neg : Bool) (b : Ex) (ρ : Env) (y : R) : M R := fun st => ((den g b ρ).e st).bind (cDin1 neg y)
@[simp] theorem E_din (neg : Bool) (a b : Ex) : (den g (.din neg a b) ρ).e st = ((den g a ρ).e st).bind (cDin g neg b ρ) := by simp only [den]; rfl
@[simp] theorem T_din (neg : Bool) (a b : Ex) : (den g (.din neg a b) ρ).t st = ((den g (.din neg a b) ρ).e st).bind truth := by simp only [den]
@[simp] theorem cDin_at (neg : Bool) (b : Ex) (y : R) : cDin g neg b ρ y st = ((den g b ρ).e st).bind (cDin1 neg y) := id rfl
theorem cDin1_v (neg : Bool) {kvs : List (L2.Key × D)} {d : D} {k : L2.Key} (hk : keyD d = some k) : cDin1 neg (.v d) (.v (.dct kvs)) st = .ok (.v (.bl (if neg = true then !(dAt kvs k).isSome else (dAt kvs k).isSome))) st := by
  simp only [cDin1, dIn, M.bind, dEnt_v, Out.bind_ok, keyM_v st hk, dAt_map, M.pure, Option.isSome_map]
theorem cDin1_cell (neg : Bool) {n : Nat} {kvs : List (L2.Key × R)} {d : D} {k : L2.Key} (hn : st[n]? = some (.dct kvs)) (hk : keyD d = some k) : cDin1 neg (.v d) (.ref n) st = .ok (.v (.bl (if neg = true then !(dAt kvs k).isSome else (dAt kvs k).isSome))) st := by
  simp only [cDin1, dIn, M.bind, dEnt_cell st hn, Out.bind_ok, keyM_v st hk, M.pure]
/-! d.get(k), d.get(k, x) -/
noncomputable def cDg3 (x y z : R) : M R := dGet x y z
noncomputable def cDg2 (g : Sg) (c : Option Ex) (ρ : Env) (x y : R) : M R := fun st => match c with
  | none => cDg3 x y (.v .non) st
  | some c => ((den g c ρ).e st).bind (cDg3 x y)
noncomputable def cDg1 (g : Sg) (b : Ex) (c : Option Ex) (ρ : Env) (x : R) (_ : List (L2.Key × R)) : M R := fun st => ((den g b ρ).e st).bind (cDg2 g c ρ x)
noncomputable def cDg (g : Sg) (b : Ex) (c : Option Ex) (ρ : Env) (x : R) : M R := fun st => (dEnt x st).bind (cDg1 g b c ρ x)
@[simp] theorem E_dget (a b : Ex) (c : Option Ex) : (den g (.dget a b c) ρ).e st = ((den g a ρ).e st).bind (cDg g b c ρ) := by
  cases c <;> (simp only [den]; rfl)
@[simp] theorem cDg_at (b : Ex) (c : Option Ex) (x : R) : cDg g b c ρ x st = (dEnt x st).bind (cDg1 g b c ρ x) := id rfl
@[simp] theorem cDg1_at (b : Ex) (c : Option Ex) (x : R) (kvs : List (L2.Key × R)) : cDg1 g b c ρ x kvs st = ((den g b ρ).e st).bind (cDg2 g c ρ x) := id rfl
@[simp] theorem cDg2_n (x y : R) : cDg2 g none ρ x y st = cDg3 x y (.v .non) st := id rfl
@[simp] theorem cDg2_s (c : Ex) (x y : R) : cDg2 g (some c) ρ x y st = ((den g c ρ).e st).bind (cDg3 x y) := id rfl
theorem cDg3_v {kvs : List (L2.Key × D)} {d : D} {k : L2.Key} {z : R} (hk : keyD d = some k) : cDg3 (.v (.dct kvs)) (.v d) z st = .ok (((dAt kvs k).map R.v).getD z) st := by
  simp only [cDg3, dGet, M.bind, dEnt_v, Out.bind_ok, keyM_v st hk, dAt_map, M.pure]
theorem cDg3_cell {n : Nat} {kvs : List (L2.Key × R)} {d : D} {k : L2.Key} {z : R} (hn : st[n]? = some (.dct kvs)) (hk : keyD d = some k) : cDg3 (.ref n) (.v d) z st = .ok ((dAt kvs k).getD z) st := by
  simp only [cDg3, dGet, M.bind, dEnt_cell st hn, Out.bind_ok, keyM_v st hk, M.pure]
/-! list(d) -/
@[simp] theorem E_dkeys (a : Ex) : (den g (.dkeys a) ρ).e st = ((den g a ρ).e st).bind dKeys := by simp only [den]
@[simp] theorem dKeys_v (kvs : List (L2.Key × D)) : dKeys (.v (.dct kvs)) st = .ok (.v (.lst (kvs.map fun kv => keyR kv.1))) st := by
  simp only [dKeys, M.bind, dEnt_v, Out.bind_ok, M.pure, List.map_map]; rfl
theorem dKeys_cell {n : Nat} {kvs : List (L2.Key × R)} (hn : st[n]? = some (.dct kvs)) : dKeys (.ref n) st = .ok (.v (.lst (kvs.map fun kv => keyR kv.1))) st := by
  simp only [dKeys, M.bind, dEnt_cell st hn, Out.bind_ok, M.pure]
/-! texts' methods -/
noncomputable def cTx2 (m : Tm) (d : D) (y : R) : M R := txM m d y
noncomputable def cTx1 (g : Sg) (m : Tm) (b : Ex) (ρ : Env) (d : D) (_ : Unit) : M R := fun st => ((den g b ρ).e st).bind (cTx2 m d)
noncomputable def cTx0 (g : Sg) (m : Tm) (b : Ex) (ρ : Env) (d : D) : M R := fun st => (chkTx d st).bind (cTx1 g m b ρ d)
noncomputable def cTx (g : Sg) (m : Tm) (b : Ex) (ρ : Env) (x : R) : M R := fun st => (rdD x st).bind (cTx0 g m b ρ)
@[simp] theorem E_txm (m : Tm) (a b : Ex) : (den g (.txm m a b) ρ).e st = ((den g a ρ).e st).bind (cTx g m b ρ) := by simp only [den]; rfl
@[simp] theorem cTx_at (m : Tm) (b : Ex) (x : R) : cTx g m b ρ x st = (rdD x st).bind (cTx0 g m b ρ) := id rfl
@[simp] theorem cTx0_str (m : Tm) (b : Ex) (s : Str) : cTx0 g m b ρ (.str s) st = ((den g b ρ).e st).bind (cTx2 m (.str s)) := id rfl
theorem cTx2_split (s t : Str) (h1 : (t.length == 0) = false) (h2 : s.length + 2 ≤ sizeLine) : cTx2 .split (.str s) (.v (.str t)) st = .ok (.v (.lst ((Txt.split s t).map D.str))) st := by
  simp only [cTx2, txM, M.bind, rd_v, Out.bind_ok, h1, h2, and_self, if_true, M.pure]
theorem cTx2_part (s t : Str) (h1 : (t.length == 0) = false) (h2 : s.length + 2 ≤ sizeLine) : cTx2 .partition (.str s) (.v (.str t)) st = .ok (.v (.tup [.str (Txt.partition s t).1, .str (Txt.partition s t).2.1, .str (Txt.partition s t).2.2])) st := by
  simp only [cTx2, txM, M.bind, rd_v, Out.bind_ok, h1, h2, and_self, if_true, M.pure]
/-! index, count -/
noncomputable def cLs3 (m : Lm) (y : R) (ds : List D) : M R := lsM m ds y
noncomputable def cLs2 (m : Lm) (y : R) (d : D) : M R := fun st => (lsOf d st).bind (cLs3 m y)
noncomputable def cLs1 (m : Lm) (x y : R) : M R := fun st => (rdD x st).bind (cLs2 m y)
noncomputable def cLs0b (g : Sg) (m : Lm) (b : Ex) (ρ : Env) (x : R) (_ : List D) : M R := fun st => ((den g b ρ).e st).bind (cLs1 m x)
noncomputable def cLs0 (g : Sg) (m : Lm) (b : Ex) (ρ : Env) (x : R) (d : D) : M R := fun st => (lsOf d st).bind (cLs0b g m b ρ x)
noncomputable def cLs (g : Sg) (m : Lm) (b : Ex) (ρ : Env) (x : R) : M R := fun st => (rdD x st).bind (cLs0 g m b ρ x)
@[simp] theorem E_lsm (m : Lm) (a b : Ex) : (den g (.lsm m a b) ρ).e st = ((den g a ρ).e st).bind (cLs g m b ρ) := by simp only [den]; rfl
@[simp] theorem cLs_at (m : Lm) (b : Ex) (x : R) : cLs g m b ρ x st = (rdD x st).bind (cLs0 g m b ρ x) := id rfl
@[simp] theorem cLs0_l (m : Lm) (b : Ex) (x : R) (ds : List D) : cLs0 g m b ρ x (.lst ds) st = ((den g b ρ).e st).bind (cLs1 m x) := id rfl
@[simp] theorem cLs1_at (m : Lm) (x y : R) : cLs1 m x y st = (rdD x st).bind (cLs2 m y) := id rfl
@[simp] theorem cLs2_l (m : Lm) (y : R) (ds : List D) : cLs2 m y (.lst ds) st = cLs3 m y ds st := id rfl
theorem cLs3_count {ds : List D} {ns : List Int} (h : allI ds = some ns) (k : Int) : cLs3 .count (.v (.int k)) ds st = .ok (.v (.int (ns.count k : Nat))) st := by
  simp only [cLs3, lsM, M.bind, rd_v, Out.bind_ok, h, M.pure]
theorem cLs3_index {ds : List D} {e : D} {ps : List PyData} {p : PyData} {j : Nat} (h1 : toPs ds = some ps) (h2 : toP e = some p) (h3 : SeqAt.shaped (.list ps) = true) (h4 : SeqAt.shaped p = true) (h5 : idxD p ps = some j) : cLs3 .index (.v e) ds st = .ok (.v (.int (j : Nat))) st := by
  simp only [cLs3, lsM, M.bind, rd_v, Out.bind_ok, h1, h2, h3, h4, and_self, if_true, h5, M.pure]
/-! statements -/
@[simp] theorem S_bad : denS g .bad ρ st = .bad := by simp only [denS]
noncomputable def kDput4 (ρ : Env) (_ : Unit) (st : Store) : OutS := .nx ρ st
noncomputable def kDput3 (x y : R) (ρ : Env) (z : R) (st : Store) : OutS := (dPutC y z x st).to ρ (kDput4 ρ)
noncomputable def kDput2 (g : Sg) (k : Ex) (x : R) (ρ : Env) (y : R) (st : Store) : OutS := ((den g k ρ).e st).to ρ (kDput3 x y ρ)
noncomputable def kDput1 (g : Sg) (o k : Ex) (ρ : Env) (x : R) (st : Store) : OutS := ((den g o ρ).e st).to ρ (kDput2 g k x ρ)
@[simp] theorem S_dput (o k e : Ex) : denS g (.dput o k e) ρ st = ((den g e ρ).e st).to ρ (kDput1 g o k ρ) := by simp only [denS]; rfl
@[simp] theorem kDput1_at (o k : Ex) (x : R) : kDput1 g o k ρ x st = ((den g o ρ).e st).to ρ (kDput2 g k x ρ) := id rfl
@[simp] theorem kDput2_at (k : Ex) (x y : R) : kDput2 g k x ρ y st = ((den g k ρ).e st).to ρ (kDput3 x y ρ) := id rfl
@[simp] theorem kDput3_at (x y z : R) : kDput3 x y ρ z st = (dPutC y z x st).to ρ (kDput4 ρ) := id rfl
@[simp] theorem kDput4_at (u : Unit) : kDput4 ρ u st = .nx ρ st := id rfl
theorem dPutC_cell {n : Nat} {kvs : List (L2.Key × R)} {d : D} {k : L2.Key} (v : R) (hn : st[n]? = some (.dct kvs)) (hk : keyD d = some k) (hl : kvs.length < sizeLine) : dPutC (.ref n) (.v d) v st = .ok () (st.set n (.dct (dPut kvs k v))) := by
  simp only [dPutC, M.bind, keyM_v st hk, Out.bind_ok, hn, hl, if_true]
end
section
variable (g : Sg) (ρ : Env) (st : Store)
/-! lists walked while they stay -/
noncomputable def icOver2 (x : R) (ds : List D) : M (List R × List (R × List D)) := fun st => .ok (ds.map R.v, [(x, ds)]) st
noncomputable def icOver (x : R) : M (List R × List (R × List D)) := fun st => (plD x st).bind (icOver2 x)
noncomputable def icEnm2 (x : R) (ds : List D) : M (List R × List (R × List D)) := fun st => .ok (enumD 0 ds, [(x, ds)]) st
noncomputable def icEnm (x : R) : M (List R × List (R × List D)) := fun st => (plD x st).bind (icEnm2 x)
noncomputable def icZip3 (x y : R) (as bs : List D) : M (List R × List (R × List D)) := fun st => .ok (zipD as bs, [(x, as), (y, bs)]) st
noncomputable def icZip2 (x y : R) (as : List D) : M (List R × List (R × List D)) := fun st => (plD y st).bind (icZip3 x y as)
noncomputable def icZip1 (x y : R) : M (List R × List (R × List D)) := fun st => (plD x st).bind (icZip2 x y)
noncomputable def icZip (g : Sg) (b : Ex) (ρ : Env) (x : R) : M (List R × List (R × List D)) := fun st => ((den g b ρ).e st).bind (icZip1 x)
@[simp] theorem Ic_over (e : Ex) : denIc g (.over e) ρ st = ((den g e ρ).e st).bind icOver := by simp only [denIc]; rfl
@[simp] theorem Ic_enm (e : Ex) : denIc g (.enm e) ρ st = ((den g e ρ).e st).bind icEnm := by simp only [denIc]; rfl
@[simp] theorem Ic_zip (a b : Ex) : denIc g (.zip a b) ρ st = ((den g a ρ).e st).bind (icZip g b ρ) := by simp only [denIc]; rfl
@[simp] theorem icOver_at (x : R) : icOver x st = (plD x st).bind (icOver2 x) := id rfl
@[simp] theorem icOver2_at (x : R) (ds : List D) : icOver2 x ds st = .ok (ds.map R.v, [(x, ds)]) st := id rfl
@[simp] theorem icEnm_at (x : R) : icEnm x st = (plD x st).bind (icEnm2 x) := id rfl
@[simp] theorem icEnm2_at (x : R) (ds : List D) : icEnm2 x ds st = .ok (enumD 0 ds, [(x, ds)]) st := id rfl
@[simp] theorem icZip_at (b : Ex) (x : R) : icZip g b ρ x st = ((den g b ρ).e st).bind (icZip1 x) := id rfl
@[simp] theorem icZip1_at (x y : R) : icZip1 x y st = (plD x st).bind (icZip2 x y) := id rfl
@[simp] theorem icZip2_at (x y : R) (as : List D) : icZip2 x y as st = (plD y st).bind (icZip3 x y as) := id rfl
@[simp] theorem icZip3_at (x y : R) (as bs : List D) : icZip3 x y as bs st = .ok (zipD as bs, [(x, as), (y, bs)]) st := id rfl
@[simp] theorem plD_v (ds : List D) : plD (.v (.lst ds)) st = .ok ds st := id rfl
theorem plD_cell {n : Nat} {ds : List D} (h : st[n]? = some (.lst (ds.map R.v))) : plD (.ref n) st = .ok ds st := by
  have m : (ds.map R.v).mapM valOf = some ds := by
    clear h
    induction ds with
    | nil => rfl
    | cons d ds ih => simp [valOf, ih]
  simp only [plD, M.bind, rdD, force, h, m, Option.map_some, Out.bind_ok]; rfl
/-- the loop -/
noncomputable def FRC (g : Sg) (gs : List (R × List D)) (tg : Tg) (body : List Sm) (xs : List R) (ρ : Env) (st : Store) : OutS := frGoC (stays gs) tg (fun ρ2 st2 => denSs g body ρ2 st2) xs ρ st
noncomputable def kFrC (g : Sg) (tg : Tg) (body : List Sm) (ρ : Env) (p : List R × List (R × List D)) (st : Store) : OutS := FRC g p.2 tg body p.1 ρ st
@[simp] theorem S_frrC (tg : Tg) (it : Ic) (body : List Sm) : denS g (.frrC tg it body) ρ st = (denIc g it ρ st).to ρ (kFrC g tg body ρ) := by simp only [denS]; rfl
@[simp] theorem kFrC_at (tg : Tg) (body : List Sm) (xs : List R) (gs : List (R × List D)) : kFrC g tg body ρ (xs, gs) st = FRC g gs tg body xs ρ st := id rfl
theorem guard_t {gd : Store → Prop} (h : gd st) : guardM gd st = .ok () st := by
  unfold guardM
  rw [if_pos h]
noncomputable def kFrC1 (g : Sg) (gs : List (R × List D)) (tg : Tg) (body : List Sm) (xs : List R) (ρ : Env) (st : Store) : OutS := (denSs g body ρ st).turn (FRC g gs tg body xs)
theorem FRC_nil {gs : List (R × List D)} (h : stays gs st) (tg : Tg) (body : List Sm) : FRC g gs tg body [] ρ st = .nx ρ st := by
  simp only [FRC, frGoC, guard_t st h, Out.to_ok]
theorem FRC_cons {gs : List (R × List D)} (h : stays gs st) (tg : Tg) (body : List Sm) (x : R) (xs : List R) : FRC g gs tg body (x :: xs) ρ st = (bindTg tg x ρ st).to ρ (kFrC1 g gs tg body xs) := by
  show frGoC _ _ _ _ _ _ = _
  rw [frGoC, guard_t st h, Out.to_ok]
  rfl
@[simp] theorem kFrC1_at (gs : List (R × List D)) (tg : Tg) (body : List Sm) (xs : List R) : kFrC1 g gs tg body xs ρ st = (denSs g body ρ st).turn (FRC g gs tg body xs) := id rfl
/-- of data it is as any other loop -/
theorem stays_data {gs : List (R × List D)} (h : ∀ p ∈ gs, p.1 = .v (.lst p.2)) (st : Store) : stays gs st := fun p hp => by rw [h p hp]; rfl
theorem FRC_data {gs : List (R × List D)} (h : ∀ p ∈ gs, p.1 = .v (.lst p.2)) (tg : Tg) (body : List Sm) : ∀ (xs : List R) (ρ : Env) (st : Store), FRC g gs tg body xs ρ st = FR g tg body xs ρ st
  | [], ρ, st => by rw [FRC_nil _ _ _ (stays_data h st), FR_nil]
  | x :: xs, ρ, st => by
    rw [FRC_cons _ _ _ (stays_data h st), FR_cons]
    cases bindTg tg x ρ st with
    | ok ρ1 st1 =>
      simp only [Out.to_ok, kFrC1_at, kFr1_at]
      cases denSs g body ρ1 st1 with
      | nx ρ2 st2 => simp only [OutS.turn_nx]; exact FRC_data h tg body xs ρ2 st2
      | ct ρ2 st2 => simp only [OutS.turn_ct]; exact FRC_data h tg body xs ρ2 st2
      | _ => rfl
    | _ => rfl
/-! comprehensions -/
noncomputable def kLcC (g : Sg) (cell : Bool) (elt : Ex) (tg : Tg) (cond : Option Ex) (ρ : Env) (p : List R × List (R × List D)) : M R := fun st => (chkN p.1.length st).bind fun _ st => (lcGoC (stays p.2) (lcF g cell elt tg cond ρ) p.1 st).bind (lcFin cell)
@[simp] theorem E_lcC (cell : Bool) (elt : Ex) (tg : Tg) (it : Ic) (cond : Option Ex) (own : List Nat) : (den g (.lcC cell elt tg it cond own) ρ).e st = (denIc g it ρ st).bind (kLcC g cell elt tg cond (wipeE ρ own)) := by simp only [den]; rfl
theorem lcGoC_stay {gs : List (R × List D)} {f : R → M (Option R)} (hs : stays gs st) (hf : ∀ x o st', f x st = .ok o st' → st' = st) : ∀ xs : List R, (∀ x ∈ xs, ∃ o, f x st = .ok o st) → lcGoC (stays gs) f xs st = lcGo f xs st
  | [], _ => by simp only [lcGoC, lcGo, M.bind, guard_t st hs, Out.bind_ok]
  | x :: xs, h => by
    obtain ⟨o, e⟩ := h x (by simp)
    simp only [lcGoC, lcGo, M.bind, guard_t st hs, Out.bind_ok, e]
    rw [lcGoC_stay hs hf xs fun y hy => h y (List.mem_cons_of_mem _ hy)]
/-- [e for x in xs] of data, nothing changed -/
theorem kLcC_map {elt : Ex} {tg : Tg} {xs : List R} {gs : List (R × List D)} {h : R → D} (hs : stays gs st) (hl : xs.length ≤ 100000) (hh : ∀ x ∈ xs, lcF g false elt tg none ρ x st = .ok (some (.v (h x))) st) : kLcC g false elt tg none ρ (xs, gs) st = .ok (.v (.lst (xs.map h))) st := by
  have e := kLc_map g ρ st hl hh
  have : ∀ ys : List R, (∀ x ∈ ys, x ∈ xs) → lcGoC (stays gs) (lcF g false elt tg none ρ) ys st = lcGo (lcF g false elt tg none ρ) ys st := by
    intro ys
    induction ys with
    | nil => intro _; simp only [lcGoC, lcGo, M.bind, guard_t st hs, Out.bind_ok]
    | cons y ys ih =>
      intro hm
      simp only [lcGoC, lcGo, M.bind, guard_t st hs, Out.bind_ok, hh y (hm y (by simp))]
      rw [ih fun x hx => hm x (List.mem_cons_of_mem _ hx)]
  simp only [kLc, chkN, if_pos (Nat.le_trans hl (show 100000 ≤ sizeLine by decide)), Out.bind_ok] at e
  simp only [kLcC, chkN, if_pos (Nat.le_trans hl (show 100000 ≤ sizeLine by decide)), Out.bind_ok]
  rw [this xs fun _ h => h]
  exact e
theorem kLcC_filterMap {elt : Ex} {tg : Tg} {cond : Option Ex} {xs : List R} {gs : List (R × List D)} {h : R → Option D} (hs : stays gs st) (hl : xs.length ≤ 100000) (hh : ∀ x ∈ xs, lcF g false elt tg cond ρ x st = .ok ((h x).map R.v) st) : kLcC g false elt tg cond ρ (xs, gs) st = .ok (.v (.lst (xs.filterMap h))) st := by
  have e := kLc_filterMap g ρ st hl hh
  have : ∀ ys : List R, (∀ x ∈ ys, x ∈ xs) → lcGoC (stays gs) (lcF g false elt tg cond ρ) ys st = lcGo (lcF g false elt tg cond ρ) ys st := by
    intro ys
    induction ys with
    | nil => intro _; simp only [lcGoC, lcGo, M.bind, guard_t st hs, Out.bind_ok]
    | cons y ys ih =>
      intro hm
      simp only [lcGoC, lcGo, M.bind, guard_t st hs, Out.bind_ok, hh y (hm y (by simp))]
      rw [ih fun x hx => hm x (List.mem_cons_of_mem _ hx)]
  simp only [kLc, chkN, if_pos (Nat.le_trans hl (show 100000 ≤ sizeLine by decide)), Out.bind_ok] at e
  simp only [kLcC, chkN, if_pos (Nat.le_trans hl (show 100000 ≤ sizeLine by decide)), Out.bind_ok]
  rw [this xs fun _ h => h]
  exact e
/-! dict(pairs) -/
noncomputable def cDp2 (ds : List D) : M R := fun st => match allP ds with
  | some kvs => if kvs.length ≤ 16777216 then .ok (.ref st.length) (st ++ [.dct ((mergeD kvs).map fun p => (p.1, R.v p.2))]) else .bad
  | none => .bad
noncomputable def cDp (x : R) : M R := fun st => (plD x st).bind cDp2
@[simp] theorem E_dpairs (a : Ex) : (den g (.dpairs a) ρ).e st = ((den g a ρ).e st).bind cDp := by
  simp only [den]
  show ((den g a ρ).e st).bind _ = _
  cases (den g a ρ).e st with
  | ok x s =>
    simp only [Out.bind_ok, cDp, M.bind]
    cases plD x s with
    | ok ds s2 =>
      simp only [Out.bind_ok, cDp2]
      cases allP ds with
      | none => rfl
      | some kvs => simp only []; split <;> rfl
    | _ => rfl
  | _ => rfl
@[simp] theorem cDp_at (x : R) : cDp x st = (plD x st).bind cDp2 := id rfl
theorem cDp2_ok {ds : List D} {kvs : List (L2.Key × D)} (h : allP ds = some kvs) (hl : kvs.length ≤ 100000) : cDp2 ds st = .ok (.ref st.length) (st ++ [.dct ((mergeD kvs).map fun p => (p.1, R.v p.2))]) := by
  have z : kvs.length ≤ 16777216 := by omega
  simp only [cDp2, h, if_pos z]
end
@[simp] theorem keyD_i (i : Int) : keyD (.int i) = some (.inl i) := id rfl
@[simp] theorem keyD_s (s : Str) : keyD (.str s) = some (.inr s) := id rfl
end SV

set_option maxRecDepth 100000
set_option maxHeartbeats 4000000
/-! SvXf: steps for sets of lists, ranges as lists, dicts made of lists that stay, looks into nested data -/
namespace SV
open PySem PySem.Spec PyProof.Rows
open L2 hiding It
section
variable (g : Sg) (ρ : Env) (st : Store)
noncomputable def numOf (n : Nat) : M R := fun st => .ok (.v (.int (n : Nat))) st
@[simp] theorem numOf_at (n : Nat) : numOf n st = .ok (.v (.int (n : Nat))) st := id rfl
noncomputable def numsOf (ns : List Int) : M R := fun st => .ok (.v (.lst (ns.map D.int))) st
@[simp] theorem numsOf_at (ns : List Int) : numsOf ns st = .ok (.v (.lst (ns.map D.int))) st := id rfl
noncomputable def cLenset2 (ds : List D) : M R := fun st => (M.of (lenSet ds) st).bind numOf
noncomputable def cLenset (x : R) : M R := fun st => (plD x st).bind cLenset2
@[simp] theorem E_lenset (a : Ex) : (den g (.lenset a) ρ).e st = ((den g a ρ).e st).bind cLenset := by simp only [den]; rfl
@[simp] theorem cLenset_at (x : R) : cLenset x st = (plD x st).bind cLenset2 := id rfl
@[simp] theorem cLenset2_at (ds : List D) : cLenset2 ds st = (M.of (lenSet ds) st).bind numOf := id rfl
noncomputable def cSortset2 (ds : List D) : M R := fun st => (M.of (sortSet ds) st).bind numsOf
noncomputable def cSortset (x : R) : M R := fun st => (plD x st).bind cSortset2
@[simp] theorem E_sortset (a : Ex) : (den g (.sortset a) ρ).e st = ((den g a ρ).e st).bind cSortset := by simp only [den]; rfl
@[simp] theorem cSortset_at (x : R) : cSortset x st = (plD x st).bind cSortset2 := id rfl
@[simp] theorem cSortset2_at (ds : List D) : cSortset2 ds st = (M.of (sortSet ds) st).bind numsOf := id rfl
noncomputable def cLrng2 (x y : R) : M R := fun st => (intOf x st).bind fun i => (intOf y).bind fun j => lRng i j
noncomputable def cLrng1 (g : Sg) (b : Ex) (ρ : Env) (x : R) : M R := fun st => ((den g b ρ).e st).bind (cLrng2 x)
@[simp] theorem E_lrng (a b : Ex) : (den g (.lrng a b) ρ).e st = ((den g a ρ).e st).bind (cLrng1 g b ρ) := by simp only [den]; rfl
@[simp] theorem cLrng1_at (b : Ex) (x : R) : cLrng1 g b ρ x st = ((den g b ρ).e st).bind (cLrng2 x) := id rfl
theorem cLrng2_ok (i j : Int) (h : -1000000 ≤ i) (h2 : i ≤ 1000000) (h3 : -1000000 ≤ j) (h4 : j ≤ 1000000) : cLrng2 (.v (.int i)) (.v (.int j)) st = .ok (.v (.lst ((List.range (j - i).toNat).map fun (k : Nat) => D.int (i + (k : Int))))) st := by
  show (lRng i j) st = _
  unfold lRng
  rw [if_pos ⟨h, h2, h3, h4⟩]
/-! dicts made of lists that stay -/
noncomputable def dcF (g : Sg) (k v : Ex) (tg : Tg) (cond : Option Ex) (ρ : Env) (x : R) : M (Option (L2.Key × R)) := noExc (dcTurn tg (fun ρ => denC g cond ρ) (fun ρ => (den g k ρ).e) (fun ρ => (den g v ρ).e) ρ x)
noncomputable def dcEnd (kvs : List (L2.Key × R)) : M R := fun st => .ok (.ref st.length) (st ++ [.dct kvs])
@[simp] theorem dcEnd_at (kvs : List (L2.Key × R)) : dcEnd kvs st = .ok (.ref st.length) (st ++ [.dct kvs]) := id rfl
noncomputable def kDcC (g : Sg) (k v : Ex) (tg : Tg) (cond : Option Ex) (ρ : Env) (p : List R × List (R × List D)) : M R := fun st => (chkN p.1.length st).bind fun _ st => (dcGoC (stays p.2) (dcF g k v tg cond ρ) p.1 [] st).bind dcEnd
@[simp] theorem E_dcC (k v : Ex) (tg : Tg) (it : Ic) (cond : Option Ex) (own : List Nat) : (den g (.dcC k v tg it cond own) ρ).e st = (denIc g it ρ st).bind (kDcC g k v tg cond (wipeE ρ own)) := by simp only [den]; rfl
theorem dcF_at {k v : Ex} {tg : Tg} {x : R} {ρ1 : Env} {d e : D} {key : L2.Key} (h1 : bindTg tg x ρ st = .ok ρ1 st) (h2 : (den g k ρ1).e st = .ok (.v d) st) (h3 : (den g v ρ1).e st = .ok (.v e) st) (h4 : keyD d = some key) : dcF g k v tg none ρ x st = .ok (some (key, .v e)) st := by
  simp only [dcF, noExc, dcTurn, M.bind, h1, Out.bind_ok, C_none, if_true, h2, h3, frz_v, keyM_v st h4, M.pure]
/-- all turns go through: the entries laid one behind the other -/
theorem kDcC_ok {k v : Ex} {tg : Tg} {gs : List (R × List D)} {α : Type} {ks : List α} {e : α → R} {h : α → L2.Key × D} (hs : stays gs st) (hl : ks.length ≤ 100000) (hh : ∀ a ∈ ks, dcF g k v tg none ρ (e a) st = .ok (some ((h a).1, .v (h a).2)) st) :
    kDcC g k v tg none ρ (ks.map e, gs) st = .ok (.ref st.length) (st ++ [.dct ((mergeD (ks.map h)).map fun p => (p.1, R.v p.2))]) := by
  have go : ∀ (ks : List α) (acc : List (L2.Key × D)), (∀ a ∈ ks, dcF g k v tg none ρ (e a) st = .ok (some ((h a).1, .v (h a).2)) st) → dcGoC (stays gs) (dcF g k v tg none ρ) (ks.map e) (acc.map fun p => (p.1, R.v p.2)) st = .ok (((ks.map h).foldl (fun acc kv => dPut acc kv.1 kv.2) acc).map fun p => (p.1, R.v p.2)) st := by
    intro ks
    induction ks with
    | nil => intro acc _; simp only [List.map_nil, dcGoC, M.bind, guard_t st hs, Out.bind_ok, List.foldl_nil, M.pure]
    | cons a ks ih =>
      intro acc hh
      simp only [List.map_cons, dcGoC, M.bind, guard_t st hs, Out.bind_ok, hh a (by simp), List.foldl_cons]
      have e2 : dPut (acc.map fun p => (p.1, R.v p.2)) (h a).1 (R.v (h a).2) = (dPut acc (h a).1 (h a).2).map fun p => (p.1, R.v p.2) := by
        unfold dPut
        have z : ((acc.map fun p => (p.1, R.v p.2)).any fun kv => decide (kv.1 = (h a).1)) = acc.any fun kv => decide (kv.1 = (h a).1) := by rw [List.any_map]; rfl
        rw [z]
        split
        · rw [List.map_map, List.map_map]
          apply List.map_congr_left
          intro p _
          simp only [Function.comp]
          split <;> rfl
        · simp
      rw [e2]
      exact ih _ fun b hb => hh b (by simp [hb])
  have := go ks [] hh
  simp only [kDcC, chkN, if_pos (show (ks.map e).length ≤ sizeLine by rw [List.length_map]; exact Nat.le_trans hl (by decide)), Out.bind_ok]
  rw [show ([] : List (L2.Key × R)) = ([] : List (L2.Key × D)).map (fun p => (p.1, R.v p.2)) from rfl, this]
  rfl
/-! looks into nested data -/
theorem cLs3_countD {ds : List D} {e : D} {ps : List PyData} {p : PyData} (h0 : allI ds = none) (h1 : toPs ds = some ps) (h2 : toP e = some p) (h3 : SeqAt.shaped (.list ps) = true) (h4 : SeqAt.shaped p = true) : cLs3 .count (.v e) ds st = .ok (.v (.int (ps.countP fun z => PyData.eqv z p : Nat))) st := by
  simp only [cLs3, lsM, M.bind, rd_v, Out.bind_ok, h0, h1, h2, h3, h4, and_self, if_true, M.pure]
end
theorem inn_deep {a : D} {xs : List D} {ps : List PyData} {p : PyData} (h : flatD a = none) (h1 : toPs xs = some ps) (h2 : toP a = some p) (h3 : SeqAt.shaped (.list ps) = true) (h4 : SeqAt.shaped p = true) : opC .inn a (.lst xs) = some (ps.any fun z => PyData.eqv z p) := by
  simp only [opC, h, inD, h1, h2, h3, h4, and_self, if_true]
theorem nin_deep {a : D} {xs : List D} {ps : List PyData} {p : PyData} (h : flatD a = none) (h1 : toPs xs = some ps) (h2 : toP a = some p) (h3 : SeqAt.shaped (.list ps) = true) (h4 : SeqAt.shaped p = true) : opC .nin a (.lst xs) = some (!ps.any fun z => PyData.eqv z p) := by
  simp only [opC, h, inD, h1, h2, h3, h4, and_self, if_true]; rfl
/-! comprehensions of two clauses -/
section
variable (g : Sg) (ρ : Env) (st : Store)
noncomputable def lc2C (g : Sg) (cell : Bool) (elt : Ex) (tg1 : Tg) (cond1 : Option Ex) (ρ1 : Env) (ys : List R) : M (List R) := fun st => if ys.length ≤ 4096 then lcGo (lcF g cell elt tg1 cond1 (wipeE ρ1 tg1.slots)) ys st else .bad
noncomputable def lc2B (g : Sg) (cell : Bool) (elt : Ex) (tg1 : Tg) (it1 : It) (cond1 : Option Ex) (ρ1 : Env) (k : Bool) : M (List R) := fun st => if k = true then (denIt g it1 ρ1 st).bind (lc2C g cell elt tg1 cond1 ρ1) else .ok [] st
noncomputable def lc2A (g : Sg) (cell : Bool) (elt : Ex) (cond : Option Ex) (tg1 : Tg) (it1 : It) (cond1 : Option Ex) (ρ1 : Env) : M (List R) := fun st => (denC g cond ρ1 st).bind (lc2B g cell elt tg1 it1 cond1 ρ1)
noncomputable def lc2F (g : Sg) (cell : Bool) (elt : Ex) (tg : Tg) (cond : Option Ex) (tg1 : Tg) (it1 : It) (cond1 : Option Ex) (ρ : Env) (x : R) : M (List R) := noExc (lc2Turn cell tg (fun ρ => denC g cond ρ) tg1 (fun ρ => denIt g it1 ρ) (fun ρ => denC g cond1 ρ) (fun ρ => (den g elt ρ).e) ρ x)
noncomputable def kLc2 (g : Sg) (cell : Bool) (elt : Ex) (tg : Tg) (cond : Option Ex) (tg1 : Tg) (it1 : It) (cond1 : Option Ex) (ρ : Env) (xs : List R) : M R := fun st => (chk4 xs.length st).bind fun _ st => (lc2Go (lc2F g cell elt tg cond tg1 it1 cond1 ρ) xs st).bind (lcFin cell)
@[simp] theorem E_lc2 (cell : Bool) (elt : Ex) (tg : Tg) (it : It) (cond : Option Ex) (tg1 : Tg) (it1 : It) (cond1 : Option Ex) (own : List Nat) : (den g (.lc2 cell elt tg it cond tg1 it1 cond1 own) ρ).e st = (denIt g it ρ st).bind (kLc2 g cell elt tg cond tg1 it1 cond1 (wipeE ρ own)) := by simp only [den]; rfl
theorem lc2F_at (cell : Bool) (elt : Ex) (tg : Tg) (cond : Option Ex) (tg1 : Tg) (it1 : It) (cond1 : Option Ex) (x : R) : lc2F g cell elt tg cond tg1 it1 cond1 ρ x st = noX ((bindTg tg x ρ st).bind (lc2A g cell elt cond tg1 it1 cond1)) := by
  have e : lc2Turn cell tg (fun ρ => denC g cond ρ) tg1 (fun ρ => denIt g it1 ρ) (fun ρ => denC g cond1 ρ) (fun ρ => (den g elt ρ).e) ρ x st = (bindTg tg x ρ st).bind (lc2A g cell elt cond tg1 it1 cond1) := by
    show (bindTg tg x ρ st).bind _ = _
    cases bindTg tg x ρ st with
    | ok ρ1 s1 =>
      show (denC g cond ρ1 s1).bind _ = (denC g cond ρ1 s1).bind _
      cases denC g cond ρ1 s1 with
      | ok k s2 =>
        cases k with
        | false => rfl
        | true =>
          show (denIt g it1 ρ1 s2).bind _ = (denIt g it1 ρ1 s2).bind _
          cases denIt g it1 ρ1 s2 with
          | ok ys s3 =>
            show (chk4 ys.length s3).bind _ = lc2C g cell elt tg1 cond1 ρ1 ys s3
            unfold lc2C chk4
            split <;> rfl
          | exc c fs s => rfl
          | bad => rfl
      | exc c fs s => rfl
      | bad => rfl
    | exc c fs s => rfl
    | bad => rfl
  rw [← e]
  show noExc _ st = _
  unfold noExc noX
  rfl
@[simp] theorem lc2A_at (cell : Bool) (elt : Ex) (cond : Option Ex) (tg1 : Tg) (it1 : It) (cond1 : Option Ex) : lc2A g cell elt cond tg1 it1 cond1 ρ st = (denC g cond ρ st).bind (lc2B g cell elt tg1 it1 cond1 ρ) := id rfl
@[simp] theorem lc2B_t (cell : Bool) (elt : Ex) (tg1 : Tg) (it1 : It) (cond1 : Option Ex) : lc2B g cell elt tg1 it1 cond1 ρ true st = (denIt g it1 ρ st).bind (lc2C g cell elt tg1 cond1 ρ) := id rfl
@[simp] theorem lc2B_f (cell : Bool) (elt : Ex) (tg1 : Tg) (it1 : It) (cond1 : Option Ex) : lc2B g cell elt tg1 it1 cond1 ρ false st = .ok [] st := id rfl
theorem lc2C_ok (cell : Bool) (elt : Ex) (tg1 : Tg) (cond1 : Option Ex) (ys : List R) (h : ys.length ≤ 4096) : lc2C g cell elt tg1 cond1 ρ ys st = lcGo (lcF g cell elt tg1 cond1 (wipeE ρ tg1.slots)) ys st := if_pos h
theorem kLc2_flat {elt : Ex} {tg : Tg} {cond : Option Ex} {tg1 : Tg} {it1 : It} {cond1 : Option Ex} {α : Type} {ks : List α} {e : α → R} {h : α → List D} (hl : ks.length ≤ 4096) (hh : ∀ a ∈ ks, lc2F g false elt tg cond tg1 it1 cond1 ρ (e a) st = .ok ((h a).map R.v) st) :
    kLc2 g false elt tg cond tg1 it1 cond1 ρ (ks.map e) st = .ok (.v (.lst (ks.flatMap h))) st := by
  have go : ∀ ks : List α, (∀ a ∈ ks, lc2F g false elt tg cond tg1 it1 cond1 ρ (e a) st = .ok ((h a).map R.v) st) → lc2Go (lc2F g false elt tg cond tg1 it1 cond1 ρ) (ks.map e) st = .ok ((ks.flatMap h).map R.v) st := by
    intro ks
    induction ks with
    | nil => intro _; rfl
    | cons a ks ih =>
      intro hh
      rw [List.map_cons]
      show (lc2F g false elt tg cond tg1 it1 cond1 ρ (e a) st).bind _ = _
      rw [hh a (by simp), Out.bind_ok]
      show (lc2Go (lc2F g false elt tg cond tg1 it1 cond1 ρ) (ks.map e) st).bind _ = _
      rw [ih fun b hb => hh b (by simp [hb]), Out.bind_ok]
      simp [M.pure]
  simp only [kLc2, chk4, List.length_map, hl, if_true, Out.bind_ok, go ks hh, lcFin_f, frzs_vs, lstOfDs_at]
/-! comprehensions whose turns change the store -/
theorem lcGo_inv {f : R → M (Option R)} (I : Nat → Store → Prop) (P : Nat → Option D → Prop) : ∀ (xs : List R) (k : Nat) (st : Store), I k st →
    (∀ j x st, xs[j]? = some x → I (k + j) st → ∃ o st', f x st = .ok (o.map R.v) st' ∧ P (k + j) o ∧ I (k + j + 1) st') →
    ∃ (os : List (Option D)) (st' : Store), os.length = xs.length ∧ (∀ j o, os[j]? = some o → P (k + j) o) ∧ lcGo f xs st = .ok ((os.filterMap id).map R.v) st' ∧ I (k + xs.length) st'
  | [], k, st, h, _ => ⟨[], st, rfl, fun j o z => by simp at z, rfl, h⟩
  | x :: xs, k, st, h, s => by
    obtain ⟨o, st1, e, p, i1⟩ := s 0 x st rfl h
    obtain ⟨os, st2, l, ps, e2, i2⟩ := lcGo_inv I P xs (k + 1) st1 i1 fun j y st hv hI => by
      have := s (j + 1) y st (by simpa using hv) (by rw [show k + (j + 1) = k + 1 + j by omega]; exact hI)
      rw [show k + (j + 1) = k + 1 + j by omega] at this
      exact this
    refine ⟨o :: os, st2, by simp [l], fun j o' z => ?_, ?_, by rw [show k + (x :: xs).length = k + 1 + xs.length by simp; omega]; exact i2⟩
    · cases j with
      | zero => simp at z; subst z; exact p
      | succ j => have := ps j o' (by simpa using z); rwa [show k + (j + 1) = k + 1 + j by omega]
    · rw [lcGo_cons, e, Out.bind_ok, lcK_at, e2, Out.bind_ok]
      cases o with
      | none => rfl
      | some d => rfl
theorem kLc_inv {elt : Ex} {tg : Tg} {cond : Option Ex} {xs : List R} (I : Nat → Store → Prop) (P : Nat → Option D → Prop) (hl : xs.length ≤ 1000000) (h0 : I 0 st)
    (h : ∀ j x st, xs[j]? = some x → I j st → ∃ o st', lcF g false elt tg cond ρ x st = .ok (o.map R.v) st' ∧ P j o ∧ I (j + 1) st') :
    ∃ (os : List (Option D)) (st' : Store), os.length = xs.length ∧ (∀ j o, os[j]? = some o → P j o) ∧ kLc g false elt tg cond ρ xs st = .ok (.v (.lst (os.filterMap id))) st' ∧ I xs.length st' := by
  obtain ⟨os, st', l, ps, e, i⟩ := lcGo_inv (f := lcF g false elt tg cond ρ) I P xs 0 st h0 fun j x st hv hI => by
    have := h j x st hv (by rwa [Nat.zero_add] at hI)
    rwa [Nat.zero_add]
  refine ⟨os, st', l, fun j o z => by have := ps j o z; rwa [Nat.zero_add] at this, ?_, by rwa [Nat.zero_add] at i⟩
  simp only [kLc, chkN, if_pos (Nat.le_trans hl (show 1000000 ≤ sizeLine by decide)), Out.bind_ok, e, lcFin_f, frzs_vs, lstOfDs_at]
end
/-! dicts frozen -/
theorem frzFl_vs {κ : Type} (k : Nat) (kvs : List (κ × D)) (st : Store) : frzFl (frzN k) (kvs.map fun p => (p.1, R.v p.2)) st = .ok kvs st := by
  induction kvs with
  | nil => rfl
  | cons p ps ih => rw [List.map_cons, frzFl_cons, frzN_v, Out.bind_ok, kFl_at, ih]; rfl
theorem frzN_dct {st : Store} {n : Nat} {kvs : List (L2.Key × D)} (k : Nat) (h : st[n]? = some (.dct (kvs.map fun p => (p.1, R.v p.2)))) : frzN (k + 1) (.ref n) st = .ok (.dct kvs) (st.set n (.fz (.dct kvs))) := by
  rw [frzN]
  simp only [h, frzFl_vs, Out.bind_ok, isDc, if_true]
/-! the same by deqB -/
theorem toPs_cons {x : D} {xs : List D} {ps : List PyData} (h : toPs (x :: xs) = some ps) : ∃ p qs, ps = p :: qs ∧ toP x = some p ∧ toPs xs = some qs := by
  simp only [toPs] at h
  split at h
  · rename_i p qs h1 h2
    cases h
    exact ⟨p, qs, rfl, h1, h2⟩
  · cases h
theorem any_deqB {a : D} {p : PyData} (ha : toP a = some p) : ∀ {xs : List D} {ps : List PyData}, toPs xs = some ps → (ps.any fun z => PyData.eqv z p) = xs.any fun z => deqB z a
  | [], _, h => by cases h; rfl
  | x :: xs, _, h => by
    obtain ⟨q, qs, rfl, h1, h2⟩ := toPs_cons h
    rw [List.any_cons, List.any_cons, eqv_deqB h1 ha, any_deqB ha h2]
theorem count_deqB {a : D} {p : PyData} (ha : toP a = some p) : ∀ {xs : List D} {ps : List PyData}, toPs xs = some ps → (ps.countP fun z => PyData.eqv z p) = xs.countP fun z => deqB z a
  | [], _, h => by cases h; rfl
  | x :: xs, _, h => by
    obtain ⟨q, qs, rfl, h1, h2⟩ := toPs_cons h
    rw [List.countP_cons, List.countP_cons, eqv_deqB h1 ha, count_deqB ha h2]
noncomputable def idxB (a : D) : List D → Option Nat
  | [] => none
  | x :: xs => if deqB x a = true then some 0 else (idxB a xs).map (· + 1)
theorem idx_deqB {a : D} {p : PyData} (ha : toP a = some p) : ∀ {xs : List D} {ps : List PyData}, toPs xs = some ps → idxD p ps = idxB a xs
  | [], _, h => by cases h; rfl
  | x :: xs, _, h => by
    obtain ⟨q, qs, rfl, h1, h2⟩ := toPs_cons h
    rw [idxD, idxB, eqv_deqB h1 ha, idx_deqB ha h2]
theorem okD_sh {d : D} (h : okD 64 d = true) : ∃ p, toP d = some p ∧ SeqAt.shaped p = true := by
  obtain ⟨p, h1, h2, h3⟩ := okD_toP h
  exact ⟨p, h1, by simp [SeqAt.shaped, h2, h3]⟩
theorem okD_shL {xs : List D} (h : okD 64 (.lst xs) = true) : ∃ ps, toPs xs = some ps ∧ SeqAt.shaped (.list ps) = true := by
  obtain ⟨p, h1, h2⟩ := okD_sh h
  rw [toP, Option.map_eq_some_iff] at h1
  obtain ⟨ps, h3, rfl⟩ := h1
  exact ⟨ps, h3, h2⟩
theorem inn_okD {a : D} {xs : List D} (hf : flatD a = none) (h1 : okD 64 (.lst xs) = true) (h2 : okD 64 a = true) : opC .inn a (.lst xs) = some (xs.any fun z => deqB z a) := by
  obtain ⟨ps, e1, s1⟩ := okD_shL h1
  obtain ⟨p, e2, s2⟩ := okD_sh h2
  rw [inn_deep hf e1 e2 s1 s2, any_deqB e2 e1]
theorem nin_okD {a : D} {xs : List D} (hf : flatD a = none) (h1 : okD 64 (.lst xs) = true) (h2 : okD 64 a = true) : opC .nin a (.lst xs) = some (!xs.any fun z => deqB z a) := by
  obtain ⟨ps, e1, s1⟩ := okD_shL h1
  obtain ⟨p, e2, s2⟩ := okD_sh h2
  rw [nin_deep hf e1 e2 s1 s2, any_deqB e2 e1]
theorem cLs3_indexB {a : D} {xs : List D} {j : Nat} (h1 : okD 64 (.lst xs) = true) (h2 : okD 64 a = true) (h : idxB a xs = some j) (st : Store) : cLs3 .index (.v a) xs st = .ok (.v (.int (j : Nat))) st := by
  obtain ⟨ps, e1, s1⟩ := okD_shL h1
  obtain ⟨p, e2, s2⟩ := okD_sh h2
  exact cLs3_index st e1 e2 s1 s2 (by rw [idx_deqB e2 e1, h])
theorem cLs3_countB {a : D} {xs : List D} (h0 : allI xs = none) (h1 : okD 64 (.lst xs) = true) (h2 : okD 64 a = true) (st : Store) : cLs3 .count (.v a) xs st = .ok (.v (.int (xs.countP fun z => deqB z a : Nat))) st := by
  obtain ⟨ps, e1, s1⟩ := okD_shL h1
  obtain ⟨p, e2, s2⟩ := okD_sh h2
  rw [cLs3_countD st h0 e1 e2 s1 s2, count_deqB e2 e1]
/-- the first place, where things are told apart -/
theorem idxB_map {α : Type} [DecidableEq α] {f : α → D} (hf : ∀ a b, deqB (f a) (f b) = decide (a = b)) {q : α} : ∀ {l : List α} {i : Nat}, l.Nodup → l[i]? = some q → idxB (f q) (l.map f) = some i
  | [], i, _, h => by simp at h
  | x :: l, 0, n, h => by
    simp at h; subst h
    rw [List.map_cons, idxB, hf]; simp
  | x :: l, i + 1, n, h => by
    rw [List.nodup_cons] at n
    have h' : l[i]? = some q := by simpa using h
    have ne : x ≠ q := fun z => n.1 (by rw [z]; exact List.mem_of_getElem? h')
    rw [List.map_cons, idxB, hf, idxB_map hf n.2 h']
    simp [ne]
end SV

set_option maxRecDepth 100000
set_option maxHeartbeats 4000000
/-! Rz: a ring of zones, each a width and a step: how far by rows, which place by rows -/
namespace SV
abbrev Zs := List (Rat × Rat)
def tW (zs : Zs) : Rat := (zs.map (·.1)).sum
def tM (zs : Zs) : Rat := (zs.map fun z => z.1 / z.2).sum
@[simp] theorem tW_nil : tW [] = 0 := rfl
@[simp] theorem tM_nil : tM [] = 0 := rfl
@[simp] theorem tW_cons (z : Rat × Rat) (zs : Zs) : tW (z :: zs) = z.1 + tW zs := rfl
@[simp] theorem tM_cons (z : Rat × Rat) (zs : Zs) : tM (z :: zs) = z.1 / z.2 + tM zs := rfl
def PosZ (zs : Zs) : Prop := ∀ z ∈ zs, 0 < z.1 ∧ 0 < z.2
theorem PosZ.hd {z : Rat × Rat} {zs : Zs} (h : PosZ (z :: zs)) : 0 < z.1 ∧ 0 < z.2 := h z (by simp)
theorem PosZ.tl {z : Rat × Rat} {zs : Zs} (h : PosZ (z :: zs)) : PosZ zs := fun y hy => h y (by simp [hy])
theorem rdiv_pos {a b : Rat} (ha : 0 < a) (hb : 0 < b) : 0 < a / b := by rw [Rat.lt_div_iff hb]; simpa using ha
theorem tW_nonneg : ∀ {zs : Zs}, PosZ zs → 0 ≤ tW zs
  | [], _ => by simp
  | z :: zs, h => by have := tW_nonneg h.tl; have := h.hd; simp; grind
theorem tM_nonneg : ∀ {zs : Zs}, PosZ zs → 0 ≤ tM zs
  | [], _ => by simp
  | z :: zs, h => by have := tM_nonneg h.tl; have := rdiv_pos h.hd.1 h.hd.2; simp; grind
/-- the sums of the first k -/
def W (zs : Zs) (k : Nat) : Rat := tW (zs.take k)
def Mk (zs : Zs) (k : Nat) : Rat := tM (zs.take k)
@[simp] theorem W_zero (zs : Zs) : W zs 0 = 0 := by simp [W]
@[simp] theorem Mk_zero (zs : Zs) : Mk zs 0 = 0 := by simp [Mk]
theorem W_succ (z : Rat × Rat) (zs : Zs) (k : Nat) : W (z :: zs) (k + 1) = z.1 + W zs k := by simp [W]
theorem Mk_succ (z : Rat × Rat) (zs : Zs) (k : Nat) : Mk (z :: zs) (k + 1) = z.1 / z.2 + Mk zs k := by simp [Mk]
theorem W_all (zs : Zs) : W zs zs.length = tW zs := by simp [W]
theorem Mk_all (zs : Zs) : Mk zs zs.length = tM zs := by simp [Mk]
/-- one zone on -/
theorem W_next : ∀ {zs : Zs} {k : Nat} {z : Rat × Rat}, zs[k]? = some z → W zs (k + 1) = W zs k + z.1
  | [], _, _, h => by simp at h
  | y :: zs, 0, z, h => by simp at h; subst h; simp [W]; grind
  | y :: zs, k + 1, z, h => by rw [W_succ, W_succ, W_next (zs := zs) (k := k) (z := z) (by simpa using h)]; grind
theorem Mk_next : ∀ {zs : Zs} {k : Nat} {z : Rat × Rat}, zs[k]? = some z → Mk zs (k + 1) = Mk zs k + z.1 / z.2
  | [], _, _, h => by simp at h
  | y :: zs, 0, z, h => by simp at h; subst h; simp [Mk]; grind
  | y :: zs, k + 1, z, h => by rw [Mk_succ, Mk_succ, Mk_next (zs := zs) (k := k) (z := z) (by simpa using h)]; grind
theorem W_mono {zs : Zs} (h : PosZ zs) {i j : Nat} (hij : i < j) (hj : j ≤ zs.length) : W zs i < W zs j := by
  induction j with
  | zero => omega
  | succ j ih =>
    have hz : zs[j]? = some zs[j] := List.getElem?_eq_getElem (by omega)
    have hp := h zs[j] (List.getElem_mem _)
    rw [W_next hz]
    by_cases e : i = j
    · subst e; grind
    · have := ih (by omega) (by omega); grind
theorem Mk_mono {zs : Zs} (h : PosZ zs) {i j : Nat} (hij : i < j) (hj : j ≤ zs.length) : Mk zs i < Mk zs j := by
  induction j with
  | zero => omega
  | succ j ih =>
    have hz : zs[j]? = some zs[j] := List.getElem?_eq_getElem (by omega)
    have hp := h zs[j] (List.getElem_mem _)
    have := rdiv_pos hp.1 hp.2
    rw [Mk_next hz]
    by_cases e : i = j
    · subst e; grind
    · have := ih (by omega) (by omega); grind
theorem W_le {zs : Zs} (h : PosZ zs) {i j : Nat} (hij : i ≤ j) (hj : j ≤ zs.length) : W zs i ≤ W zs j := by
  rcases Nat.eq_or_lt_of_le hij with e | e
  · rw [e]; exact Rat.le_refl
  · exact Rat.le_of_lt (W_mono h e hj)
theorem Mk_le {zs : Zs} (h : PosZ zs) {i j : Nat} (hij : i ≤ j) (hj : j ≤ zs.length) : Mk zs i ≤ Mk zs j := by
  rcases Nat.eq_or_lt_of_le hij with e | e
  · rw [e]; exact Rat.le_refl
  · exact Rat.le_of_lt (Mk_mono h e hj)
/-- y lies in zone i -/
def InZ (zs : Zs) (i : Nat) (y : Rat) : Prop := i < zs.length ∧ W zs i ≤ y ∧ y < W zs (i + 1)
def InM (zs : Zs) (i : Nat) (e : Rat) : Prop := i < zs.length ∧ Mk zs i ≤ e ∧ e < Mk zs (i + 1)
theorem InZ.uniq {zs : Zs} (h : PosZ zs) {i j : Nat} {y : Rat} (a : InZ zs i y) (b : InZ zs j y) : i = j := by
  rcases Nat.lt_trichotomy i j with e | e | e
  · have := W_le h (show i + 1 ≤ j by omega) (by have := b.1; omega); have := a.2.2; have := b.2.1; grind
  · exact e
  · have := W_le h (show j + 1 ≤ i by omega) (by have := a.1; omega); have := b.2.2; have := a.2.1; grind
theorem InM.uniq {zs : Zs} (h : PosZ zs) {i j : Nat} {y : Rat} (a : InM zs i y) (b : InM zs j y) : i = j := by
  rcases Nat.lt_trichotomy i j with e | e | e
  · have := Mk_le h (show i + 1 ≤ j by omega) (by have := b.1; omega); have := a.2.2; have := b.2.1; grind
  · exact e
  · have := Mk_le h (show j + 1 ≤ i by omega) (by have := a.1; omega); have := b.2.2; have := a.2.1; grind
/-- how many of a rising list are not above y -/
def cnt (f : Nat → Rat) (n : Nat) (y : Rat) : Nat := ((List.range n).filter fun i => !decide (y < f i)).length
theorem cnt_le (f : Nat → Rat) (n : Nat) (y : Rat) : cnt f n y ≤ n := by
  unfold cnt
  exact Nat.le_trans (List.length_filter_le _ _) (by simp)
theorem filter_rise {f : Nat → Rat} {n : Nat} (hf : ∀ i j, i < j → j < n → f i < f j) (y : Rat) : (List.range n).filter (fun i => !decide (y < f i)) = List.range (cnt f n y) := by
  induction n with
  | zero => simp [cnt]
  | succ n ih =>
    have ih' := ih fun i j hij hj => hf i j hij (by omega)
    unfold cnt
    rw [List.range_succ, List.filter_append, ih']
    by_cases h : y < f n
    · simp [h]
    · have hc : cnt f n y = n := by
        unfold cnt
        rw [List.filter_eq_self.mpr]
        · simp
        · intro i hi
          have hi' : i < n := by simpa using hi
          have := hf i n hi' (by omega)
          simp; grind
      simp [h, hc, List.range_succ]
theorem cnt_pos {f : Nat → Rat} {n : Nat} {y : Rat} (hn : 0 < n) (h0 : f 0 ≤ y) : 0 < cnt f n y := by
  unfold cnt
  apply List.length_pos_of_mem (a := 0)
  rw [List.mem_filter]
  exact ⟨by simpa using hn, by simp; grind⟩
theorem cnt_spec {f : Nat → Rat} {n : Nat} (hf : ∀ i j, i < j → j < n → f i < f j) {y : Rat} {i : Nat} (hi : i < cnt f n y) : f i ≤ y := by
  have hm : i ∈ List.range (cnt f n y) := by simpa using hi
  rw [← filter_rise hf, List.mem_filter] at hm
  have := hm.2
  simp at this; grind
theorem cnt_spec' {f : Nat → Rat} {n : Nat} (hf : ∀ i j, i < j → j < n → f i < f j) {y : Rat} {i : Nat} (hi : cnt f n y ≤ i) (hn : i < n) : y < f i := by
  rcases (show y < f i ∨ f i ≤ y by grind) with h | h
  · exact h
  · exfalso
    have hm : i ∈ (List.range n).filter (fun i => !decide (y < f i)) := by
      rw [List.mem_filter]
      exact ⟨by simpa using hn, by simp; grind⟩
    rw [filter_rise hf] at hm
    have : i < cnt f n y := by simpa using hm
    omega
def zi (zs : Zs) (y : Rat) : Nat := cnt (W zs) zs.length y - 1
def mi (zs : Zs) (e : Rat) : Nat := cnt (Mk zs) zs.length e - 1
def sAt (zs : Zs) (i : Nat) : Rat := match zs[i]? with | some z => z.2 | none => 1
def wAt (zs : Zs) (i : Nat) : Rat := match zs[i]? with | some z => z.1 | none => 1
def evenR (zs : Zs) (y : Rat) : Rat := Mk zs (zi zs y) + (y - W zs (zi zs y)) / sAt zs (zi zs y)
def placeR (zs : Zs) (e : Rat) : Rat := W zs (mi zs e) + (e - Mk zs (mi zs e)) * sAt zs (mi zs e)
section
variable {zs : Zs}
theorem W_rise (h : PosZ zs) : ∀ i j, i < j → j < zs.length → W zs i < W zs j := fun i j a b => W_mono h a (by omega)
theorem Mk_rise (h : PosZ zs) : ∀ i j, i < j → j < zs.length → Mk zs i < Mk zs j := fun i j a b => Mk_mono h a (by omega)
theorem inZ_zi (h : PosZ zs) (hn : zs ≠ []) {y : Rat} (h0 : 0 ≤ y) (h1 : y < tW zs) : InZ zs (zi zs y) y := by
  have hl : 0 < zs.length := List.length_pos_iff.mpr hn
  have hp : 0 < cnt (W zs) zs.length y := cnt_pos hl (by simpa using h0)
  have hc := cnt_le (W zs) zs.length y
  refine ⟨by unfold zi; omega, cnt_spec (W_rise h) (by unfold zi; omega), ?_⟩
  unfold zi
  rw [show cnt (W zs) zs.length y - 1 + 1 = cnt (W zs) zs.length y by omega]
  by_cases e : cnt (W zs) zs.length y = zs.length
  · rw [e, W_all]; exact h1
  · exact cnt_spec' (W_rise h) (Nat.le_refl _) (by omega)
theorem inM_mi (h : PosZ zs) (hn : zs ≠ []) {y : Rat} (h0 : 0 ≤ y) (h1 : y < tM zs) : InM zs (mi zs y) y := by
  have hl : 0 < zs.length := List.length_pos_iff.mpr hn
  have hp : 0 < cnt (Mk zs) zs.length y := cnt_pos hl (by simpa using h0)
  have hc := cnt_le (Mk zs) zs.length y
  refine ⟨by unfold mi; omega, cnt_spec (Mk_rise h) (by unfold mi; omega), ?_⟩
  unfold mi
  rw [show cnt (Mk zs) zs.length y - 1 + 1 = cnt (Mk zs) zs.length y by omega]
  by_cases e : cnt (Mk zs) zs.length y = zs.length
  · rw [e, Mk_all]; exact h1
  · exact cnt_spec' (Mk_rise h) (Nat.le_refl _) (by omega)
theorem inZ_bd (h : PosZ zs) {i : Nat} {y : Rat} (a : InZ zs i y) : 0 ≤ y ∧ y < tW zs := by
  have h1 := W_le h (Nat.zero_le i) (by have := a.1; omega)
  have h2 := W_le h (show i + 1 ≤ zs.length from a.1) (Nat.le_refl _)
  rw [W_zero] at h1
  rw [W_all] at h2
  have := a.2.1; have := a.2.2
  constructor <;> grind
theorem inM_bd (h : PosZ zs) {i : Nat} {y : Rat} (a : InM zs i y) : 0 ≤ y ∧ y < tM zs := by
  have h1 := Mk_le h (Nat.zero_le i) (by have := a.1; omega)
  have h2 := Mk_le h (show i + 1 ≤ zs.length from a.1) (Nat.le_refl _)
  rw [Mk_zero] at h1
  rw [Mk_all] at h2
  have := a.2.1; have := a.2.2
  constructor <;> grind
theorem zi_of (h : PosZ zs) (hn : zs ≠ []) {i : Nat} {y : Rat} (a : InZ zs i y) : zi zs y = i := by
  obtain ⟨b, c⟩ := inZ_bd h a
  exact InZ.uniq h (inZ_zi h hn b c) a
theorem mi_of (h : PosZ zs) (hn : zs ≠ []) {i : Nat} {y : Rat} (a : InM zs i y) : mi zs y = i := by
  obtain ⟨b, c⟩ := inM_bd h a
  exact InM.uniq h (inM_mi h hn b c) a
theorem at_of {i : Nat} (hi : i < zs.length) : zs[i]? = some (wAt zs i, sAt zs i) := by
  rw [List.getElem?_eq_getElem hi]
  simp [wAt, sAt, List.getElem?_eq_getElem hi]
theorem sAt_pos (h : PosZ zs) {i : Nat} (hi : i < zs.length) : 0 < sAt zs i ∧ 0 < wAt zs i := by
  have := h (wAt zs i, sAt zs i) (List.mem_of_getElem? (at_of hi))
  exact ⟨this.2, this.1⟩
theorem W_nx {i : Nat} (hi : i < zs.length) : W zs (i + 1) = W zs i + wAt zs i := W_next (at_of hi)
theorem Mk_nx {i : Nat} (hi : i < zs.length) : Mk zs (i + 1) = Mk zs i + wAt zs i / sAt zs i := Mk_next (at_of hi)
theorem even_at (h : PosZ zs) (hn : zs ≠ []) {i : Nat} {y : Rat} (a : InZ zs i y) : evenR zs y = Mk zs i + (y - W zs i) / sAt zs i ∧ InM zs i (evenR zs y) := by
  have e : evenR zs y = Mk zs i + (y - W zs i) / sAt zs i := by unfold evenR; rw [zi_of h hn a]
  obtain ⟨sp, wp⟩ := sAt_pos h a.1
  refine ⟨e, a.1, ?_, ?_⟩
  · rw [e]
    have : 0 ≤ (y - W zs i) / sAt zs i := by
      rw [Rat.div_def]
      exact Rat.mul_nonneg (by have := a.2.1; grind) (Rat.le_of_lt (Rat.inv_pos.mpr sp))
    grind
  · rw [e, Mk_nx a.1]
    have h3 := a.2.2
    rw [W_nx a.1] at h3
    have : (y - W zs i) / sAt zs i < wAt zs i / sAt zs i := by
      rw [Rat.div_lt_iff sp, Rat.div_mul_cancel (fun z => by rw [z] at sp; exact absurd sp Rat.lt_irrefl)]; grind
    grind
theorem place_at (h : PosZ zs) (hn : zs ≠ []) {i : Nat} {e : Rat} (a : InM zs i e) : placeR zs e = W zs i + (e - Mk zs i) * sAt zs i ∧ InZ zs i (placeR zs e) := by
  have q : placeR zs e = W zs i + (e - Mk zs i) * sAt zs i := by unfold placeR; rw [mi_of h hn a]
  obtain ⟨sp, wp⟩ := sAt_pos h a.1
  refine ⟨q, a.1, ?_, ?_⟩
  · rw [q]
    have : 0 ≤ (e - Mk zs i) * sAt zs i := Rat.mul_nonneg (by have := a.2.1; grind) (Rat.le_of_lt sp)
    grind
  · rw [q, W_nx a.1]
    have h3 := a.2.2
    rw [Mk_nx a.1] at h3
    have h4 : e - Mk zs i < wAt zs i / sAt zs i := by grind
    have : (e - Mk zs i) * sAt zs i < wAt zs i / sAt zs i * sAt zs i := Rat.mul_lt_mul_of_pos_right h4 sp
    rw [Rat.div_mul_cancel (fun z => by rw [z] at sp; exact absurd sp Rat.lt_irrefl)] at this
    grind
theorem place_even (h : PosZ zs) (hn : zs ≠ []) {y : Rat} (h0 : 0 ≤ y) (h1 : y < tW zs) : placeR zs (evenR zs y) = y := by
  have a := inZ_zi h hn h0 h1
  obtain ⟨e, b⟩ := even_at h hn a
  obtain ⟨q, _⟩ := place_at h hn b
  obtain ⟨sp, _⟩ := sAt_pos h a.1
  have hne : sAt zs (zi zs y) ≠ 0 := fun z => by rw [z] at sp; exact absurd sp Rat.lt_irrefl
  rw [q, e]
  have : (Mk zs (zi zs y) + (y - W zs (zi zs y)) / sAt zs (zi zs y) - Mk zs (zi zs y)) * sAt zs (zi zs y) = y - W zs (zi zs y) := by
    rw [show Mk zs (zi zs y) + (y - W zs (zi zs y)) / sAt zs (zi zs y) - Mk zs (zi zs y) = (y - W zs (zi zs y)) / sAt zs (zi zs y) by grind, Rat.div_mul_cancel hne]
  rw [this]; grind
theorem even_place (h : PosZ zs) (hn : zs ≠ []) {e : Rat} (h0 : 0 ≤ e) (h1 : e < tM zs) : evenR zs (placeR zs e) = e := by
  have a := inM_mi h hn h0 h1
  obtain ⟨q, b⟩ := place_at h hn a
  obtain ⟨r, _⟩ := even_at h hn b
  obtain ⟨sp, _⟩ := sAt_pos h a.1
  have hne : sAt zs (mi zs e) ≠ 0 := fun z => by rw [z] at sp; exact absurd sp Rat.lt_irrefl
  rw [r, q]
  have : (W zs (mi zs e) + (e - Mk zs (mi zs e)) * sAt zs (mi zs e) - W zs (mi zs e)) / sAt zs (mi zs e) = e - Mk zs (mi zs e) := by
    rw [show W zs (mi zs e) + (e - Mk zs (mi zs e)) * sAt zs (mi zs e) - W zs (mi zs e) = (e - Mk zs (mi zs e)) * sAt zs (mi zs e) by grind, Rat.mul_div_cancel hne]
  rw [this]; grind
theorem tM_pos (h : PosZ zs) (hn : zs ≠ []) : 0 < tM zs := by
  have := Mk_mono h (List.length_pos_iff.mpr hn) (Nat.le_refl _)
  rw [Mk_zero, Mk_all] at this
  exact this
theorem tW_pos (h : PosZ zs) (hn : zs ≠ []) : 0 < tW zs := by
  have := W_mono h (List.length_pos_iff.mpr hn) (Nat.le_refl _)
  rw [W_zero, W_all] at this
  exact this
end
/-- the place at a row -/
def zval (zs : Zs) (begin : Rat) (row : Int) : Rat := placeR zs (rmod (tM zs) (begin + row))
def zrnd (zs : Zs) (begin : Rat) (row : Int) : Int := ((begin + row) / tM zs).floor
theorem zval_even {zs : Zs} (h : PosZ zs) (hn : zs ≠ []) (begin : Rat) (row : Int) : evenR zs (zval zs begin row) = rmod (tM zs) (begin + row) :=
  even_place h hn (rmod_nonneg (tM_pos h hn) _) (rmod_lt (tM_pos h hn) _)
theorem zval_bd {zs : Zs} (h : PosZ zs) (hn : zs ≠ []) (begin : Rat) (row : Int) : 0 ≤ zval zs begin row ∧ zval zs begin row < tW zs := by
  have a := inM_mi h hn (rmod_nonneg (tM_pos h hn) (begin + row)) (rmod_lt (tM_pos h hn) _)
  exact inZ_bd h (place_at h hn a).2
theorem zval0 {zs : Zs} (h : PosZ zs) (hn : zs ≠ []) {y : Rat} (h0 : 0 ≤ y) (h1 : y < tW zs) : zval zs (evenR zs y) 0 = y := by
  unfold zval
  have a := (even_at h hn (inZ_zi h hn h0 h1)).2
  obtain ⟨b, c⟩ := inM_bd h a
  rw [show evenR zs y + ((0 : Int) : Rat) = evenR zs y by simp; grind, rmod_unique (k := 0) (tM_pos h hn) b c (by simp; grind), place_even h hn h0 h1]
end SV

set_option maxRecDepth 100000
set_option maxHeartbeats 4000000
/-! SvZe: zones -/
namespace SV
open PySem PySem.Spec PyProof.Rows
open L2 hiding It
/-! ### enumerate, comprehensions with a test -/
section
variable (g : Sg) (ρ : Env) (st : Store)
def enmK (x : R) : M (List R) := fun st => (lstOf x st).bind fun ds => M.pure (enumD 0 ds)
@[simp] theorem It_enm (e : Ex) : denIt g (.enm e) ρ st = ((den g e ρ).e st).bind enmK := by simp only [denIt]; rfl
@[simp] theorem enmK_v (ds : List D) : enmK (.v (.lst ds)) st = .ok (enumD 0 ds) st := id rfl
theorem enumD_range (f : Nat → D) : ∀ (n k : Nat), enumD k ((List.range' k n).map f) = (List.range' k n).map fun (i : Nat) => R.v (.tup [.int (i : Int), f i])
  | 0, k => rfl
  | n + 1, k => by
    rw [List.range'_succ, List.map_cons, List.map_cons]
    show R.v (.tup [.int k, f k]) :: enumD (k + 1) ((List.range' (k + 1) n).map f) = _
    rw [enumD_range f n (k + 1)]
theorem enumD0 (f : Nat → D) (n : Nat) : enumD 0 ((List.range n).map f) = (List.range n).map fun (i : Nat) => R.v (.tup [.int (i : Int), f i]) := by
  rw [List.range_eq_range']; exact enumD_range f n 0
theorem kLc_fm {α : Type} {elt : Ex} {tg : Tg} {cond : Option Ex} {ks : List α} {e : α → R} {h : α → Option D} (hl : ks.length ≤ 100000) (hh : ∀ k ∈ ks, lcF g false elt tg cond ρ (e k) st = .ok ((h k).map R.v) st) : kLc g false elt tg cond ρ (ks.map e) st = .ok (.v (.lst (ks.filterMap h))) st := by
  simp only [kLc, chkN, List.length_map, if_pos (Nat.le_trans hl (show 100000 ≤ sizeLine by decide)), Out.bind_ok]
  have go : ∀ (l : List α), (∀ k ∈ l, lcF g false elt tg cond ρ (e k) st = .ok ((h k).map R.v) st) → lcGo (lcF g false elt tg cond ρ) (l.map e) st = .ok ((l.filterMap h).map R.v) st := by
    intro l
    induction l with
    | nil => intro _; rfl
    | cons a l ih =>
      intro hl
      show (lcF g false elt tg cond ρ (e a) st).bind _ = _
      rw [hl a (by simp)]
      show (lcGo (lcF g false elt tg cond ρ) (l.map e) st).bind _ = _
      rw [ih fun k hk => hl k (by simp [hk]), Out.bind_ok, List.filterMap_cons]
      cases h a <;> rfl
  rw [go ks hh]
  simp only [Out.bind_ok, lcFin]
  show (frzs ((ks.filterMap h).map R.v) st).bind _ = _
  rw [frzs_vs]; rfl
end
theorem allI_ints (ns : List Int) : allI (ns.map D.int) = some ns := by
  induction ns with
  | nil => rfl
  | cons n ns ih => simp [allI, ih]
theorem maxI_range : ∀ n : Nat, 0 < n → maxI ((List.range n).map fun (i : Nat) => (i : Int)) = some ((n : Int) - 1) := by
  intro n hn
  have gen : ∀ (k m : Nat), maxI ((List.range' k (m + 1)).map fun (i : Nat) => (i : Int)) = some ((k + m : Nat) : Int) := by
    intro k m
    induction m generalizing k with
    | zero => rfl
    | succ m ih =>
      rw [List.range'_succ, List.map_cons]
      show some (match maxI ((List.range' (k + 1) (m + 1)).map fun (i : Nat) => (i : Int)) with | none => (k : Int) | some m => if (k : Int) < m then m else k) = _
      rw [ih (k + 1)]
      simp only
      rw [if_pos (by omega)]
      congr 1; omega
  obtain ⟨m, rfl⟩ : ∃ m, n = m + 1 := ⟨n - 1, by omega⟩
  rw [List.range_eq_range', gen 0 m]
  congr 1; omega
theorem max_range (n : Nat) (hn : 0 < n) : opF .maxL [.lst ((List.range n).map fun (i : Nat) => D.int (i : Int))] = some (.int ((n : Int) - 1)) := by
  have e : ((List.range n).map fun (i : Nat) => D.int (i : Int)) = ((List.range n).map fun (i : Nat) => (i : Int)).map D.int := by simp
  show ((allI _).bind maxI).map D.int = _
  rw [e, allI_ints]
  show (maxI _).map D.int = _
  rw [maxI_range n hn]; rfl
theorem filterMap_if {α β : Type} (p : α → Bool) (f : α → β) (l : List α) : l.filterMap (fun a => if p a = true then some (f a) else none) = (l.filter p).map f := by
  induction l with
  | nil => rfl
  | cons a l ih => by_cases h : p a = true <;> simp [List.filterMap_cons, List.filter_cons, h, ih]
/-! ### zones as they stand -/
def bordD (zs : Zs) : List D := (List.range zs.length).map fun i => wD (W zs i)
def markD (zs : Zs) : List D := (List.range (zs.length + 1)).map fun i => wD (Mk zs i)
def stepD (zs : Zs) : List D := (List.range zs.length).map fun i => wD (sAt zs i)
def zonesFs (zs : Zs) (begin : Rat) : List (Str × D) := [("ring", wD (tW zs)), ("borders", .lst (bordD zs)), ("steps", .lst (stepD zs)), ("marks", .lst (markD zs)), ("begin", wD begin)]
def zonesD (c : Nat) (zs : Zs) (begin : Rat) : D := .obj c (zonesFs zs begin)
@[simp] theorem fz_ring (c : Nat) (zs : Zs) (b : Rat) (st : Store) : cAttr "ring" (.v (zonesD c zs b)) st = .ok (.v (wD (tW zs))) st := id rfl
@[simp] theorem fz_borders (c : Nat) (zs : Zs) (b : Rat) (st : Store) : cAttr "borders" (.v (zonesD c zs b)) st = .ok (.v (.lst (bordD zs))) st := id rfl
@[simp] theorem fz_steps (c : Nat) (zs : Zs) (b : Rat) (st : Store) : cAttr "steps" (.v (zonesD c zs b)) st = .ok (.v (.lst (stepD zs))) st := id rfl
@[simp] theorem fz_marks (c : Nat) (zs : Zs) (b : Rat) (st : Store) : cAttr "marks" (.v (zonesD c zs b)) st = .ok (.v (.lst (markD zs))) st := id rfl
@[simp] theorem fz_begin (c : Nat) (zs : Zs) (b : Rat) (st : Store) : cAttr "begin" (.v (zonesD c zs b)) st = .ok (.v (wD b)) st := id rfl
theorem mth_zones {ct : Ctab} {nm : Str} {c f : Nat} {zs : Zs} {b : Rat} (st : Store) (h : ct.mth c nm = some f) (hn : (zonesFs zs b).lookup nm = none) : mthOf ct nm (.v (zonesD c zs b)) st = .ok f st := by
  apply mthOf_v
  simp only [zonesD, mthD, hn, h]; rfl
/-- sizes -/
structure ZB (n : Nat) (zs : Zs) : Prop where
  w : ∀ i, Bd n (W zs i)
  m : ∀ i, Bd n (Mk zs i)
  s : ∀ i, Bd n (sAt zs i)
  pos : PosZ zs
  ne : zs ≠ []
  len : zs.length ≤ 1000
theorem ix_range (f : Nat → D) (n i : Nat) (hi : i < n) (st : Store) : index (.v (.lst ((List.range n).map f))) (.v (.int (i : Int))) st = .ok (.v (f i)) st := by
  rw [index_lst, atI_natCast, List.getElem?_map, List.getElem?_map, List.getElem?_range hi]; rfl
theorem ix_bord {zs : Zs} {i : Nat} (hi : i < zs.length) (st : Store) : index (.v (.lst (bordD zs))) (.v (.int (i : Int))) st = .ok (.v (wD (W zs i))) st := ix_range _ _ i hi st
theorem ix_step {zs : Zs} {i : Nat} (hi : i < zs.length) (st : Store) : index (.v (.lst (stepD zs))) (.v (.int (i : Int))) st = .ok (.v (wD (sAt zs i))) st := ix_range _ _ i hi st
theorem ix_mark {zs : Zs} {i : Nat} (hi : i ≤ zs.length) (st : Store) : index (.v (.lst (markD zs))) (.v (.int (i : Int))) st = .ok (.v (wD (Mk zs i))) st := ix_range _ _ i (by omega) st
theorem mark_last (zs : Zs) : (markD zs).getLast? = some (wD (tM zs)) := by
  unfold markD
  rw [List.range_succ, List.map_append]
  simp [Mk_all]
theorem ix_markL (zs : Zs) (st : Store) : index (.v (.lst (markD zs))) (.v (.int (-1))) st = .ok (.v (wD (tM zs))) st := by
  rw [index_lst, atI_neg1]
  unfold markD
  rw [List.range_succ, List.map_append, List.map_append]
  simp [Mk_all]
section
variable {g : Sg}
def zoneOfFn (le : Nat) : Fn := ⟨[.ret (.blt .maxL [(.lc false (.var 2) (.many [2, 3]) (.enm (.attr (.var 0) "borders")) (some (.not (.call le [(.var 1), (.var 3)] [.inl 0, .inl 1]))) [2, 3])])], 4⟩
/-- the greatest place at which a rising list is not above y -/
theorem lc_max {le : Nat} (h : LessOk (g.S le)) {f : Nat → Rat} {n m : Nat} (hn : n ≤ 1000) (hb : ∀ i, Bd m (f i)) (hm : m ≤ 4000) (hf : ∀ i j, i < j → j < n → f i < f j) {y : Rat} (hy : Sz y) (a b c : Nat) (ρ : Env) (hρ : ∀ (i : Nat) (d : D), rdVar ((ρ.set a (some (.v (.int (i : Int))))).set b (some (.v d))) a = M.pure (.v (.int (i : Int))))
    (hρ2 : ∀ (i : Nat) (d : D), rdVar ((ρ.set a (some (.v (.int (i : Int))))).set b (some (.v d))) b = M.pure (.v d)) (hρ3 : ∀ (i : Nat) (d : D), rdVar ((ρ.set a (some (.v (.int (i : Int))))).set b (some (.v d))) c = M.pure (.v (wD y))) (st : Store) :
    kLc g false (.var a) (.many [a, b]) (some (.not (.call le [(.var c), (.var b)] [.inl 0, .inl 1]))) ρ ((List.range n).map fun (i : Nat) => R.v (.tup [.int (i : Int), wD (f i)])) st = .ok (.v (.lst ((List.range (cnt f n y)).map fun (i : Nat) => D.int (i : Int)))) st := by
  rw [kLc_fm (h := fun i => if (!decide (y < f i)) = true then some (D.int (i : Int)) else none) g ρ st (by simp; omega) (fun i hi => ?_)]
  · rw [filterMap_if, filter_rise hf]
  · have e := h.s hy ((hb i).sz hm)
    have r1 := fun st => congrFun (hρ i (wD (f i))) st
    have r2 := fun st => congrFun (hρ2 i (wD (f i))) st
    have r3 := fun st => congrFun (hρ3 i (wD (f i))) st
    simp only [M.pure] at r1 r2 r3
    generalize decide (y < f i) = b1 at *
    cases b1 <;> simp [lcF_at, r1, r2, r3, e]
def ZoneOfOk (F : List R → M R) (c : Nat) : Prop := ∀ (zs : Zs) (b y : Rat), ZB 400 zs → Sz y → 0 ≤ y → Ret F [zonesD c zs b, wD y] (.int (zi zs y))
theorem zoneOf_ok {le c : Nat} (h : LessOk (g.S le)) : ZoneOfOk (denF g (zoneOfFn le)) c := fun zs b y Z hy h0 => by
  apply ret_of (s1 := [])
  have hl : 0 < zs.length := List.length_pos_iff.mpr Z.ne
  have hp : 0 < cnt (W zs) zs.length y := cnt_pos hl (by simpa using h0)
  have lc := lc_max h Z.len Z.w (by decide) (W_rise Z.pos) hy 2 3 1 [some (.v (zonesD c zs b)), some (.v (wD y)), none, none] (fun _ _ => rfl) (fun _ _ => rfl) (fun _ _ => rfl) []
  have hx := max_range _ hp
  have hz : ((cnt (W zs) zs.length y : Nat) : Int) - 1 = (zi zs y : Nat) := by unfold zi; omega
  rw [hz] at hx
  simp [denF, zoneOfFn, bordD, enumD0, lc, hx]
def placeOfFn (le pl ti mi : Nat) : Fn := ⟨[.asg 2 (.blt .maxL [(.lc false (.var 3) (.many [3, 4]) (.enm (.sl (.attr (.var 0) "marks") none (some (.neg (.con (D.int 1)))))) (some (.not (.call le [(.var 1), (.var 4)] [.inl 0, .inl 1]))) [3, 4])]), .ret (.call pl [(.ix (.attr (.var 0) "borders") (.var 2)), (.call ti [(.call mi [(.var 1), (.ix (.attr (.var 0) "marks") (.var 2))] [.inl 0, .inl 1]), (.ix (.attr (.var 0) "steps") (.var 2))] [.inl 0, .inl 1])] [.inl 0, .inl 1])], 5⟩
def PlaceOfOk (F : List R → M R) (c : Nat) : Prop := ∀ (zs : Zs) (b e : Rat), ZB 400 zs → Bd 2000 e → 0 ≤ e → Ret F [zonesD c zs b, wD e] (wD (placeR zs e))
theorem cut_last (f : Nat → D) (n : Nat) : cutR ((List.range (n + 1)).map f) none (some (-1)) = (List.range n).map f := by
  unfold cutR
  rw [HT.sIx_none]
  simp only [HT.sIx, List.length_map, List.length_range]
  rw [if_pos (by decide), List.drop_zero, Nat.sub_zero, show (-1 + ((n + 1 : Nat) : Int)).toNat = n by omega, ← List.map_take, List.take_range]
  congr 2; omega
theorem placeOf_ok {le pl ti mi' c : Nat} (h : LessOk (g.S le)) (h1 : Op2 (g.S pl) (· + ·)) (h2 : Op2 (g.S ti) (· * ·)) (h3 : Op2 (g.S mi') (· - ·)) : PlaceOfOk (denF g (placeOfFn le pl ti mi')) c := fun zs b e Z be h0 => by
  apply ret_of (s1 := [])
  have hl : 0 < zs.length := List.length_pos_iff.mpr Z.ne
  have hp : 0 < cnt (Mk zs) zs.length e := cnt_pos hl (by simpa using h0)
  have lc := lc_max h Z.len Z.m (by decide) (Mk_rise Z.pos) (be.sz (by decide)) 3 4 1 [some (.v (zonesD c zs b)), some (.v (wD e)), none, none, none] (fun _ _ => rfl) (fun _ _ => rfl) (fun _ _ => rfl) []
  have hx := max_range _ hp
  have hz : ((cnt (Mk zs) zs.length e : Nat) : Int) - 1 = (mi zs e : Nat) := by unfold mi; omega
  rw [hz] at hx
  have hm : mi zs e < zs.length := by have := cnt_le (Mk zs) zs.length e; unfold mi; omega
  have c1 := be.sub (Z.m (mi zs e))
  have c2 := c1.mul (Z.s (mi zs e))
  have e1 := h3.s (be.sz (by decide)) ((Z.m (mi zs e)).sz (by decide))
  have e2 := h2.s (c1.sz (by decide)) ((Z.s (mi zs e)).sz (by decide))
  have e3 := h1.s ((Z.w (mi zs e)).sz (by decide)) (c2.sz (by decide))
  have i1 := fun st => ix_bord hm st
  have i2 := fun st => ix_step hm st
  have i3 := fun st => ix_mark (Nat.le_of_lt hm) st
  have cl : cutR (markD zs) none (some (-1)) = (List.range zs.length).map fun i => wD (Mk zs i) := cut_last _ _
  have ee : enumD 0 (cutR (markD zs) none (some (-1))) = (List.range zs.length).map fun (i : Nat) => R.v (.tup [.int (i : Int), wD (Mk zs i)]) := by rw [cl, enumD0]
  simp [denF, placeOfFn, ee, lc, hx, i1, i2, i3, e1, e2, e3, placeR]
/-! ### evened, value, far, returns -/
def evenedFn (pl ov mi : Nat) : Fn := ⟨[.asg 2 (.mth (.var 0) "zone_of" [(.var 1)] [.inl 0, .inl 1]), .ret (.call pl [(.ix (.attr (.var 0) "marks") (.var 2)), (.call ov [(.call mi [(.var 1), (.ix (.attr (.var 0) "borders") (.var 2))] [.inl 0, .inl 1]), (.ix (.attr (.var 0) "steps") (.var 2))] [.inl 0, .inl 1])] [.inl 0, .inl 1])], 3⟩
/-- .. of zones that are being made -/
def ZoneOfC (F : List R → M R) : Prop := ∀ (zs : Zs) (y : Rat) (c : Nat) (fs : List (Str × R)) (st : Store), ZB 400 zs → Sz y → 0 ≤ y → st[0]? = some (.obj c fs) → fs.lookup ("borders" : Str) = some (.v (.lst (bordD zs))) → F [.ref 0, .v (wD y)] st = .ok (.v (.int (zi zs y))) st
theorem zoneOf_c {le : Nat} (h : LessOk (g.S le)) : ZoneOfC (denF g (zoneOfFn le)) := fun zs y c fs st Z hy h0 hs hf => by
  have hl : 0 < zs.length := List.length_pos_iff.mpr Z.ne
  have hp : 0 < cnt (W zs) zs.length y := cnt_pos hl (by simpa using h0)
  have lc := lc_max h Z.len Z.w (by decide) (W_rise Z.pos) hy 2 3 1 [some (.ref 0), some (.v (wD y)), none, none] (fun _ _ => rfl) (fun _ _ => rfl) (fun _ _ => rfl) st
  have hx := max_range _ hp
  have hz : ((cnt (W zs) zs.length y : Nat) : Int) - 1 = (zi zs y : Nat) := by unfold zi; omega
  rw [hz] at hx
  have e1 := cAttr_cell st hs hf
  simp [denF, zoneOfFn, e1, bordD, enumD0, lc, hx]
theorem callF_ref (F : List R → M R) (n : Nat) (rs : List R) (st : Store) : callF F (.ref n :: rs) st = F (.ref n :: rs) st := by
  simp [callF, valOf]
def EvenC (F : List R → M R) : Prop := ∀ (zs : Zs) (y : Rat) (c : Nat) (fs : List (Str × R)) (st : Store), ZB 400 zs → Bd 400 y → 0 ≤ y → y < tW zs → st[0]? = some (.obj c fs) → fs.lookup ("borders" : Str) = some (.v (.lst (bordD zs))) → fs.lookup ("steps" : Str) = some (.v (.lst (stepD zs))) → fs.lookup ("marks" : Str) = some (.ref 1) → fs.lookup ("zone_of" : Str) = none → st[1]? = some (.lst ((markD zs).map R.v)) →
  F [.ref 0, .v (wD y)] st = .ok (.v (wD (evenR zs y))) st
theorem evened_c {pl ov mi' zo e : Nat} (h1 : Op2 (g.S pl) (· + ·)) (h2 : OverOk (g.S ov) e) (h3 : Op2 (g.S mi') (· - ·)) (h4 : ZoneOfC (g.S zo)) (cc : Nat) (hmc : g.ct.mth cc "zone_of" = some zo) :
    ∀ (zs : Zs) (y : Rat) (fs : List (Str × R)) (st : Store), ZB 400 zs → Bd 400 y → 0 ≤ y → y < tW zs → st[0]? = some (.obj cc fs) → fs.lookup ("borders" : Str) = some (.v (.lst (bordD zs))) → fs.lookup ("steps" : Str) = some (.v (.lst (stepD zs))) → fs.lookup ("marks" : Str) = some (.ref 1) → fs.lookup ("zone_of" : Str) = none → st[1]? = some (.lst ((markD zs).map R.v)) →
    denF g (evenedFn pl ov mi') [.ref 0, .v (wD y)] st = .ok (.v (wD (evenR zs y))) st := fun zs y fs st Z by_ h0 hw hs f1 f2 f3 f4 hs1 => by
  have a := inZ_zi Z.pos Z.ne h0 hw
  have hl := a.1
  obtain ⟨sp, _⟩ := sAt_pos Z.pos hl
  have hne : sAt zs (zi zs y) ≠ 0 := fun z => by rw [z] at sp; exact absurd sp Rat.lt_irrefl
  have e0 := h4 zs y cc fs st Z (by_.sz (by decide)) h0 hs f1
  have c1 := by_.sub (Z.w (zi zs y))
  have c2 := c1.div (Z.s (zi zs y)) hne
  have e1 := h3.s (by_.sz (by decide)) ((Z.w (zi zs y)).sz (by decide))
  have e2 := h2.s (c1.sz (by decide)) ((Z.s (zi zs y)).sz (by decide)) hne
  have e3 := h1.s ((Z.m (zi zs y)).sz (by decide)) (c2.sz (by decide))
  have a1 := cAttr_cell st hs f1
  have a2 := cAttr_cell st hs f2
  have a3 := cAttr_cell st hs f3
  have m1 := mthOf_cell st hs f4 hmc
  have i1 := ix_bord hl st
  have i2 := ix_step hl st
  have i3 : index (.ref 1) (.v (.int (zi zs y : Nat))) st = .ok (.v (wD (Mk zs (zi zs y)))) st := by
    rw [index_ref st hs1, atI_natCast, List.getElem?_map]
    unfold markD
    rw [List.getElem?_map, List.getElem?_range (by omega)]; rfl
  simp [denF, evenedFn, m1, callF_ref, e0, a1, a2, a3, i1, i2, i3, e1, e2, e3, evenR]
def zvalueFn (re pl : Nat) : Fn := ⟨[.ret (.mth (.var 0) "place_of" [(.call re [(.ix (.attr (.var 0) "marks") (.neg (.con (D.int 1)))), (.call pl [(.attr (.var 0) "begin"), (.tup [(.var 1), (.con (D.int 1))])] [.inl 0, .inl 1])] [.inl 0, .inl 1])] [.inl 0, .inl 1])], 2⟩
/-- a row's place among the rows of a round: small whatever the row -/
structure ZBB (zs : Zs) (begin : Rat) : Prop where
  z : ZB 400 zs
  b : Bd 400 begin
theorem rmod_den {t x : Rat} {n m k : Nat} (hx : x.den < 2 ^ n) (ht : t.den < 2 ^ m) (ht2 : t.num.natAbs < 2 ^ k) (h0 : 0 < t) : Bd (n + m + k) (rmod t x) := by
  refine bd_between ?_ (rmod_nonneg h0 x) (rmod_lt h0 x) ht2
  unfold rmod
  refine Nat.lt_of_le_of_lt (den_sub_le _ _) ?_
  refine Nat.lt_of_le_of_lt (Nat.mul_le_mul_left _ (den_imul_le _ _)) ?_
  rw [Nat.pow_add]
  exact Nat.mul_lt_mul'' hx ht
theorem ZBB.tM {zs : Zs} {begin : Rat} (h : ZBB zs begin) : Bd 400 (tM zs) := by
  have := h.z.m zs.length
  rwa [Mk_all] at this
theorem ZBB.tW {zs : Zs} {begin : Rat} (h : ZBB zs begin) : Bd 400 (tW zs) := by
  have := h.z.w zs.length
  rwa [W_all] at this
theorem ZBB.e {zs : Zs} {begin : Rat} (h : ZBB zs begin) (row : Int) : Bd 1200 (rmod (SV.tM zs) (begin + row)) := by
  have t := h.tM
  refine (rmod_den (n := 400) (m := 400) (k := 400) ?_ t.2 t.1 (tM_pos h.z.pos h.z.ne)).mono (by decide)
  refine Nat.lt_of_le_of_lt (den_add_le _ _) ?_
  have : ((row : Rat)).den = 1 := rfl
  rw [this, Nat.mul_one]
  exact h.b.2
theorem ZBB.v {zs : Zs} {begin : Rat} (h : ZBB zs begin) (row : Int) : Bd 2500 (zval zs begin row) := by
  unfold zval placeR
  exact ((h.z.w _).add (((h.e row).sub (h.z.m _)).mul (h.z.s _))).mono (by decide)
def ZValueOk (F : List R → M R) (c : Nat) : Prop := ∀ (zs : Zs) (b : Rat) (row : Int), ZBB zs b → row.natAbs < 2 ^ 150 → Ret F [zonesD c zs b, .int row] (wD (zval zs b row))
theorem zvalue_ok {re pl po c : Nat} (h1 : RestOk (g.S re)) (h2 : Op2 (g.S pl) (· + ·)) (h3 : PlaceOfOk (g.S po) c) (hm : g.ct.mth c "place_of" = some po) : ZValueOk (denF g (zvalueFn re pl)) c := fun zs b row Z hr => by
  apply ret_of (s1 := [])
  have a : Bd 150 (row : Rat) := bd_int hr (by decide)
  have c1 := Z.b.add a
  have e1 := h2.s (Z.b.sz (by decide)) (a.sz (by decide))
  have e2 := h1.s (Z.tM.mono (by decide)) c1 (by decide) (tM_pos Z.z.pos Z.z.ne)
  have e3 := (h3 zs b _ Z.z ((Z.e row).mono (by decide)) (rmod_nonneg (tM_pos Z.z.pos Z.z.ne) _)).c2
  simp [denF, zvalueFn, mark_last, wD_int, e1, e2, mth_zones _ hm rfl, e3]
  rfl
def farFn (ri pl ti : Nat) : Fn := ⟨[.asg 2 (.call ri [(.ix (.attr (.var 0) "marks") (.neg (.con (D.int 1)))), (.call pl [(.attr (.var 0) "begin"), (.tup [(.var 1), (.con (D.int 1))])] [.inl 0, .inl 1])] [.inl 0, .inl 1]), .ret (.call pl [(.call ti [(.tup [(.var 2), (.con (D.int 1))]), (.attr (.var 0) "ring")] [.inl 0, .inl 1]), (.mth (.var 0) "value" [(.var 1)] [.inl 0, .inl 1])] [.inl 0, .inl 1])], 3⟩
def zfar (zs : Zs) (begin : Rat) (row : Int) : Rat := (zrnd zs begin row : Rat) * tW zs + zval zs begin row
def FarOk (F : List R → M R) (c : Nat) : Prop := ∀ (zs : Zs) (b : Rat) (row : Int), ZBB zs b → row.natAbs < 2 ^ 150 → Ret F [zonesD c zs b, .int row] (wD (zfar zs b row))
theorem zrnd_bd {zs : Zs} {b : Rat} (Z : ZBB zs b) {row : Int} (hr : row.natAbs < 2 ^ 150) : Bd 952 ((zrnd zs b row : Int) : Rat) := by
  have a : Bd 150 (row : Rat) := bd_int hr (by decide)
  have hp := tM_pos Z.z.pos Z.z.ne
  have hne : tM zs ≠ 0 := fun z => by rw [z] at hp; exact absurd hp Rat.lt_irrefl
  exact bd_int ((Z.b.add a).div Z.tM hne).floor (by decide)
theorem far_ok {ri pl ti va c : Nat} (h1 : RoundsOk (g.S ri)) (h2 : Op2 (g.S pl) (· + ·)) (h3 : Op2 (g.S ti) (· * ·)) (h4 : ZValueOk (g.S va) c) (hm : g.ct.mth c "value" = some va) : FarOk (denF g (farFn ri pl ti)) c := fun zs b row Z hr => by
  apply ret_of (s1 := [])
  have a : Bd 150 (row : Rat) := bd_int hr (by decide)
  have c1 := Z.b.add a
  have c2 := zrnd_bd Z hr
  have e1 := h2.s (Z.b.sz (by decide)) (a.sz (by decide))
  have e2 := h1.s (Z.tM.sz (by decide)) (c1.sz (by decide)) (tM_pos Z.z.pos Z.z.ne)
  have e3 := h3.s (c2.sz (by decide)) (Z.tW.sz (by decide))
  have e4 := (h4 zs b row Z hr).c2
  have e5 := h2.s ((c2.mul Z.tW).sz (by decide)) ((Z.v row).sz (by decide))
  have e2' : ∀ st, callF (g.S ri) [.v (wD (tM zs)), .v (wD (b + (row : Rat)))] st = .ok (.v (.int (zrnd zs b row))) st := e2
  simp [denF, farFn, mark_last, wD_int, e1, e2', mth_zones _ hm rfl, e3, e4, e5, zfar]
def zreturnsFn : Fn := ⟨[.ret (.ix (.attr (.var 0) "marks") (.neg (.con (D.int 1))))], 1⟩
def ZReturnsOk (F : List R → M R) (c : Nat) : Prop := ∀ (zs : Zs) (b : Rat), Ret F [zonesD c zs b] (wD (tM zs))
theorem zreturns_ok {c : Nat} : ZReturnsOk (denF g zreturnsFn) c := fun zs b => by
  apply ret_of (s1 := [])
  simp [denF, zreturnsFn, mark_last]
end
/-! ### chains, zip, all -/
section
variable (g : Sg) (ρ : Env) (st : Store)
noncomputable def cChn3 (g : Sg) (p : Cop) (c : Ex) (ρ : Env) (y : R) (k : Bool) : M R := fun st => if k = true then ((den g c ρ).e st).bind (cCmp2 p y) else .ok (.v (.bl false)) st
noncomputable def cChn2 (g : Sg) (o p : Cop) (c : Ex) (ρ : Env) (x y : R) : M R := fun st => (rdD x st).bind fun dx => (rdD y).bind fun dy => (M.of (opC o dx dy)).bind (cChn3 g p c ρ y)
noncomputable def cChn1 (g : Sg) (o p : Cop) (b c : Ex) (ρ : Env) (x : R) : M R := fun st => ((den g b ρ).e st).bind (cChn2 g o p c ρ x)
@[simp] theorem E_chn (o p : Cop) (a b c : Ex) : (den g (.chn o p a b c) ρ).e st = ((den g a ρ).e st).bind (cChn1 g o p b c ρ) := by
  have e : ∀ (y : R) (k : Bool), (if k = true then (den g c ρ).e.bind fun z => (rdD y).bind fun dy => (rdD z).bind fun dz => (M.of (opC p dy dz)).bind fun b => M.pure (.v (.bl b)) else M.pure (.v (.bl false))) = cChn3 g p c ρ y k := fun y k => by
    funext st
    cases k <;> rfl
  simp only [den, e]
  rfl
@[simp] theorem cChn1_at (o p : Cop) (b c : Ex) (x : R) : cChn1 g o p b c ρ x st = ((den g b ρ).e st).bind (cChn2 g o p c ρ x) := id rfl
@[simp] theorem cChn2_v (o p : Cop) (c : Ex) (dx dy : D) : cChn2 g o p c ρ (.v dx) (.v dy) st = (M.of (opC o dx dy) st).bind (cChn3 g p c ρ (.v dy)) := id rfl
@[simp] theorem cChn3_t (p : Cop) (c : Ex) (y : R) : cChn3 g p c ρ y true st = ((den g c ρ).e st).bind (cCmp2 p y) := id rfl
@[simp] theorem cChn3_f (p : Cop) (c : Ex) (y : R) : cChn3 g p c ρ y false st = .ok (.v (.bl false)) st := id rfl
noncomputable def zipB (x y : R) : M (List R) := fun st => (lstOf x st).bind fun as => (lstOf y).bind fun bs => M.pure (zipD as bs)
noncomputable def zipA (g : Sg) (b : Ex) (ρ : Env) (x : R) : M (List R) := fun st => ((den g b ρ).e st).bind (zipB x)
@[simp] theorem It_zip (a b : Ex) : denIt g (.zip a b) ρ st = ((den g a ρ).e st).bind (zipA g b ρ) := by simp only [denIt]; rfl
@[simp] theorem zipA_at (b : Ex) (x : R) : zipA g b ρ x st = ((den g b ρ).e st).bind (zipB x) := id rfl
@[simp] theorem zipB_v (as bs : List D) : zipB (.v (.lst as)) (.v (.lst bs)) st = .ok (zipD as bs) st := id rfl
end
theorem zipD_map {α : Type} (f h : α → D) : ∀ l : List α, zipD (l.map f) (l.map h) = l.map fun i => R.v (.tup [f i, h i])
  | [] => rfl
  | a :: l => by
    show R.v (.tup [f a, h a]) :: zipD (l.map f) (l.map h) = _
    rw [zipD_map f h l]; rfl
theorem allB_true {α : Type} : ∀ l : List α, allB (l.map fun _ => D.bl true) = some (l.map fun _ => true)
  | [] => rfl
  | a :: l => by
    show (allB (l.map fun _ => D.bl true)).map _ = _
    rw [allB_true l]; rfl
theorem all_true {α : Type} (l : List α) : opF .all [.lst (l.map fun _ => D.bl true)] = some (.bl true) := by
  show (allB _).map _ = _
  rw [allB_true]
  simp
theorem filterMap_some {α β : Type} (f : α → β) (l : List α) : l.filterMap (fun a => some (f a)) = l.map f := by
  induction l with
  | nil => rfl
  | cons a l ih => simp [ih]
section
variable {g : Sg}
/-! ### zones made -/
def risingFn (isw le : Nat) : Fn := ⟨[.ite (.or (.not (.isi (.var 0) [.inr "list"])) (.not (.chn .le .le (.con (D.int 1)) (.blt .len [(.var 0)]) (.con (D.int 12))))) [.ret (.con (D.bl false))] [], .ite (.or (.not (.blt .all [(.lc false (.call isw [(.var 3)] [.inl 0]) (.one 3) (.over (.var 0)) none [3])])) (.cmp .ne (.ix (.var 0) (.con (D.int 0))) (.con (D.tup [(D.int 0), (D.int 1)])))) [.ret (.con (D.bl false))] [], .asg 2 (.bin .add (.sl (.var 0) (some (.con (D.int 1))) none) (.lst false [(.var 1)])), .ret (.blt .all [(.lc false (.call le [(.var 3), (.var 4)] [.inl 0, .inl 1]) (.many [3, 4]) (.zip (.var 0) (.var 2)) none [3, 4])])], 5⟩
def RisingOk (F : List R → M R) : Prop := ∀ zs : Zs, ZB 400 zs → zs.length ≤ 12 → Ret F [.lst (bordD zs), wD (tW zs)] (.bl true)
theorem bord_add (zs : Zs) : bordD zs ++ [wD (tW zs)] = (List.range (zs.length + 1)).map fun i => wD (W zs i) := by
  unfold bordD
  rw [List.range_succ, List.map_append]
  simp [W_all]
theorem bord_ends (zs : Zs) (hn : zs ≠ []) : cutR (bordD zs) (some 1) none ++ [wD (tW zs)] = (List.range zs.length).map fun i => wD (W zs (i + 1)) := by
  have hl : 0 < zs.length := List.length_pos_iff.mpr hn
  have e : cutR (bordD zs) (some 1) none = (bordD zs).drop 1 := by
    unfold cutR
    rw [HT.sIx_none]
    have hs : HT.sIx (bordD zs).length 0 (some 1) = 1 := by
      have := HT.sIx_nat (bordD zs).length 0 1
      have hb : (bordD zs).length = zs.length := by simp [bordD]
      rw [hb] at this ⊢
      rw [show ((1 : Nat) : Int) = 1 from rfl] at this
      rw [this]; omega
    rw [hs, List.take_of_length_le (by simp)]
  rw [e]
  obtain ⟨m, hm⟩ : ∃ m, zs.length = m + 1 := ⟨zs.length - 1, by omega⟩
  have hW : W zs (m + 1) = tW zs := by rw [← hm, W_all]
  unfold bordD
  rw [hm, List.range_succ_eq_map, List.map_cons, List.drop_one, List.tail_cons, List.map_map]
  have : (List.range (m + 1)).map (fun i => wD (W zs (i + 1))) = (List.range m).map (fun i => wD (W zs (i + 1))) ++ [wD (tW zs)] := by
    rw [List.range_succ, List.map_append]
    simp [hW]
  rw [← List.range_succ_eq_map, this]
  rfl
theorem isTy_list : isTy "list" "list" = true := by decide
theorem rising_ok {isw le : Nat} (h1 : IswOk (g.S isw)) (h2 : LessOk (g.S le)) : RisingOk (denF g (risingFn isw le)) := fun zs Z h12 => by
  apply ret_of (s1 := [])
  have hl : 0 < zs.length := List.length_pos_iff.mpr Z.ne
  have hlen : (bordD zs).length = zs.length := by simp [bordD]
  have c1 : (1 : Int) ≤ (zs.length : Int) := by omega
  have c2 : (zs.length : Int) ≤ 12 := by omega
  have l1 : kLc g false (.call isw [(.var 3)] [.inl 0]) (.one 3) none [some (.v (.lst (bordD zs))), some (.v (wD (tW zs))), none, none, none] ((bordD zs).map R.v) [] = .ok (.v (.lst ((List.range zs.length).map fun _ => .bl true))) [] := by
    unfold bordD
    rw [List.map_map, kLc_fm (h := fun _ => some (.bl true)) g _ _ (by simp; omega) (fun i hi => ?_), filterMap_some]
    simp [lcF_at, h1.s]
  have ez : zipD (bordD zs) (cutR (bordD zs) (some 1) none ++ [wD (tW zs)]) = (List.range zs.length).map fun i => R.v (.tup [wD (W zs i), wD (W zs (i + 1))]) := by
    rw [bord_ends zs Z.ne]
    unfold bordD
    rw [zipD_map]
  have l2 : ∀ o2, kLc g false (.call le [(.var 3), (.var 4)] [.inl 0, .inl 1]) (.many [3, 4]) none [some (.v (.lst (bordD zs))), some (.v (wD (tW zs))), o2, none, none] ((List.range zs.length).map fun i => R.v (.tup [wD (W zs i), wD (W zs (i + 1))])) [] = .ok (.v (.lst ((List.range zs.length).map fun _ => .bl true))) [] := fun o2 => by
    rw [kLc_fm (h := fun _ => some (.bl true)) g _ _ (by simp; omega) (fun i hi => ?_), filterMap_some]
    have hi' : i < zs.length := by simpa using hi
    have lt := W_mono Z.pos (show i < i + 1 by omega) (by omega)
    simp [lcF_at, h2.s ((Z.w i).sz (by decide)) ((Z.w (i + 1)).sz (by decide)), lt]
  have ix0 : index (.v (.lst (bordD zs))) (.v (.int 0)) [] = .ok (.v (wD 0)) [] := by
    have := ix_bord (zs := zs) (i := 0) hl []
    simpa using this
  have hb0 : (bordD zs)[0]? = some (wD 0) := by simp [bordD, hl]
  have add : opB .add (.lst (cutR (bordD zs) (some 1) none)) (.lst [wD (tW zs)]) = some (.lst (cutR (bordD zs) (some 1) none ++ [wD (tW zs)])) := by
    refine if_pos ?_
    have : (cutR (bordD zs) (some 1) none).length ≤ zs.length := by
      unfold cutR
      simp [hlen]
      omega
    exact Nat.le_trans (Nat.add_le_add_right this 1) (Nat.le_trans (show zs.length + 1 ≤ 1001 by have := Z.len; omega) (by decide))
  simp [denF, risingFn, hlen, c1, c2, l1, all_true, hb0, wD_zero, add, ez, l2]
def stepsFn (isw le : Nat) : Fn := ⟨[.ite (.or (.not (.isi (.var 0) [.inr "list"])) (.cmp .ne (.blt .len [(.var 0)]) (.var 1))) [.ret (.con (D.bl false))] [], .ret (.blt .all [(.lc false (.and (.call isw [(.var 2)] [.inl 0]) (.call le [(.con (D.tup [(D.int 0), (D.int 1)])), (.var 2)] [.inl 0, .inl 1])) (.one 2) (.over (.var 0)) none [2])])], 3⟩
def StepsOk (F : List R → M R) : Prop := ∀ zs : Zs, ZB 400 zs → Ret F [.lst (stepD zs), .int zs.length] (.bl true)
theorem steps_ok {isw le : Nat} (h1 : IswOk (g.S isw)) (h2 : LessOk (g.S le)) : StepsOk (denF g (stepsFn isw le)) := fun zs Z => by
  apply ret_of (s1 := [])
  have hlen : (stepD zs).length = zs.length := by simp [stepD]
  have z : Bd 90 (0 : Rat) := ⟨by decide, by decide⟩
  have l1 : kLc g false (.and (.call isw [(.var 2)] [.inl 0]) (.call le [(.con (D.tup [(D.int 0), (D.int 1)])), (.var 2)] [.inl 0, .inl 1])) (.one 2) none [some (.v (.lst (stepD zs))), some (.v (.int zs.length)), none] ((stepD zs).map R.v) [] = .ok (.v (.lst ((List.range zs.length).map fun _ => .bl true))) [] := by
    unfold stepD
    rw [List.map_map, kLc_fm (h := fun _ => some (.bl true)) g _ _ (by simp; have := Z.len; omega) (fun i hi => ?_), filterMap_some]
    have hi' : i < zs.length := by simpa using hi
    have sp := (sAt_pos Z.pos hi').1
    simp [lcF_at, h1.s, wD_zero, h2.s (z.sz (by decide)) ((Z.s i).sz (by decide)), sp]
  simp [denF, stepsFn, hlen, l1, all_true]
end
end SV

set_option maxRecDepth 100000
set_option maxHeartbeats 4000000
/-! SvDa: wells that numbers are drawn from -/
namespace SV
open PySem PySem.Spec PyProof.Rows
open L2 hiding It
/-- a well: its great number, its small one, how often it was asked -/
def wellC (a b k : Int) : Cell := .lst [.v (.int a), .v (.int b), .v (.int k)]
/-- at cell n stands a well, asked at most K times -/
def Wl (n K : Nat) (st : Store) : Prop := ∃ a b k : Int, st[n]? = some (wellC a b k) ∧ 0 ≤ a ∧ 0 ≤ b ∧ b < 2147483629 ∧ 0 ≤ k ∧ k ≤ K
/-- no other cell is changed -/
def Only (n : Nat) (st st' : Store) : Prop := st'.length = st.length ∧ ∀ m, m ≠ n → st'[m]? = st[m]?
theorem Only.refl (n : Nat) (st : Store) : Only n st st := ⟨rfl, fun _ _ => rfl⟩
theorem Only.trans {n : Nat} {a b c : Store} (h : Only n a b) (h' : Only n b c) : Only n a c := ⟨h'.1.trans h.1, fun m hm => (h'.2 m hm).trans (h.2 m hm)⟩
theorem Only.set {n : Nat} {st : Store} {c : Cell} : Only n st (st.set n c) := ⟨by simp, fun m hm => List.getElem?_set_ne (Ne.symm hm)⟩
theorem Wl.mono {n K K' : Nat} {st : Store} (h : Wl n K st) (hk : K ≤ K') : Wl n K' st := by
  obtain ⟨a, b, k, h1, h2, h3, h4, h5, h6⟩ := h
  exact ⟨a, b, k, h1, h2, h3, h4, h5, by omega⟩
def drawFn : Fn := ⟨[.ite (.cmp .gt (.ix (.var 0) (.con (D.int 0))) (.con (D.int 0))) [.asg 3 (.bin .mod (.ix (.var 0) (.con (D.int 0))) (.var 1)), .seti (.var 0) (.con (D.int 0)) (.bin .fdiv (.ix (.var 0) (.con (D.int 0))) (.var 1)), .ret (.var 3)] [], .seti (.var 0) (.con (D.int 2)) (.bin .add (.ix (.var 0) (.con (D.int 2))) (.con (D.int 1))), .asg 2 (.bin .mod (.bin .pow (.bin .add (.bin .add (.ix (.var 0) (.con (D.int 1))) (.bin .mul (.con (D.int 104729)) (.ix (.var 0) (.con (D.int 2))))) (.con (D.int 7))) (.con (D.int 3))) (.con (D.int 2147483647))), .asg 2 (.bin .mod (.bin .mul (.var 2) (.bin .add (.bin .add (.bin .fdiv (.var 2) (.con (D.int 1009))) (.con (D.int 69621))) (.ix (.var 0) (.con (D.int 2))))) (.con (D.int 2147483629))), .ret (.bin .mod (.bin .mod (.bin .mul (.var 2) (.bin .add (.bin .fdiv (.var 2) (.con (D.int 2003))) (.con (D.int 40692)))) (.con (D.int 2147483399))) (.var 1))], 4⟩
def DrawOk (F : List R → M R) : Prop := ∀ (n K : Nat) (st : Store) (w : Int), Wl n K st → K < 1000000 → 1 ≤ w → w < 2 ^ 200 → ∃ x st', 0 ≤ x ∧ x < w ∧ F [.ref n, .v (.int w)] st = .ok (.v (.int x)) st' ∧ Wl n (K + 1) st' ∧ Only n st st'
theorem pow3 {i : Int} (h : i.natAbs < 2 ^ 64) : opB .pow (.int i) (.int 3) = some (.int (i ^ 3)) := by
  simp only [opB]
  rw [if_pos ⟨by decide, by decide, h⟩]; rfl
theorem log_200 {w : Int} (h1 : 1 ≤ w) (h2 : w < 2 ^ 200) : w.natAbs.log2 < 9000 := by
  have : w.natAbs < 2 ^ 200 := by omega
  have := (Nat.log2_lt (by omega)).mpr this
  omega
section
variable {g : Sg}
theorem draw_ok : DrawOk (denF g drawFn) := by
  intro n K st w hw hK h1 h2
  obtain ⟨a, b, k, hc, ha, hb, hb2, hk, hk2⟩ := hw
  have hl : n < st.length := (List.getElem?_eq_some_iff.mp hc).1
  have ix0 : ∀ (s : Store) (a b k : Int), s[n]? = some (wellC a b k) → index (.ref n) (.v (.int 0)) s = .ok (.v (.int a)) s := fun s a b k h => index_cell s h rfl
  have ix1 : ∀ (s : Store) (a b k : Int), s[n]? = some (wellC a b k) → index (.ref n) (.v (.int 1)) s = .ok (.v (.int b)) s := fun s a b k h => index_cell s h rfl
  have ix2 : ∀ (s : Store) (a b k : Int), s[n]? = some (wellC a b k) → index (.ref n) (.v (.int 2)) s = .ok (.v (.int k)) s := fun s a b k h => index_cell s h rfl
  have set0 : ∀ (s : Store) (a b k x : Int), s[n]? = some (wellC a b k) → setCell (.ref n) (.v (.int 0)) (.v (.int x)) s = .ok () (s.set n (wellC x b k)) := fun s a b k x h => setCell_at (j := 0) s h rfl
  have set2 : ∀ (s : Store) (a b k x : Int), s[n]? = some (wellC a b k) → setCell (.ref n) (.v (.int 2)) (.v (.int x)) s = .ok () (s.set n (wellC a b x)) := fun s a b k x h => setCell_at (j := 2) s h rfl
  have wne : w ≠ 0 := by omega
  have wl := log_200 h1 h2
  by_cases hp : 0 < a
  · refine ⟨a.fmod w, st.set n (wellC (a.fdiv w) b k), (fmod_bd (by omega)).1, (fmod_bd (by omega)).2, ?_, ⟨a.fdiv w, b, k, by simp [hl], ?_, hb, hb2, hk, by omega⟩, Only.set⟩
    · simp [denF, drawFn, ix0 st a b k hc, hp, opB_mod _ _ wne, opB_fdiv _ _ wne wl, set0 st a b k _ hc]
    · rw [Int.fdiv_eq_ediv_of_nonneg _ (by omega)]
      exact Int.ediv_nonneg (by omega) (by omega)
  · have hc2 : (st.set n (wellC a b (k + 1)))[n]? = some (wellC a b (k + 1)) := by simp [hl]
    have m1 : opB .mul (.int 104729) (.int (k + 1)) = some (.int (104729 * (k + 1))) := mul_sm (by decide) (by omega)
    have p1 : opB .pow (.int (b + 104729 * (k + 1) + 7)) (.int 3) = some (.int ((b + 104729 * (k + 1) + 7) ^ 3)) := pow3 (by omega)
    generalize hy : (b + 104729 * (k + 1) + 7) ^ 3 = y at p1
    have f1 := fmod_bd (i := y) (show (0 : Int) < 2147483647 by decide)
    generalize hz : y.fmod 2147483647 = z at f1
    have d1 : z.fdiv 1009 = z / 1009 := Int.fdiv_eq_ediv_of_nonneg _ (by decide)
    have m2 : opB .mul (.int z) (.int (z / 1009 + 69621 + (k + 1))) = some (.int (z * (z / 1009 + 69621 + (k + 1)))) := mul_sm (by omega) (by omega)
    generalize hv : z * (z / 1009 + 69621 + (k + 1)) = v at m2
    have f2 := fmod_bd (i := v) (show (0 : Int) < 2147483629 by decide)
    generalize hu : v.fmod 2147483629 = u at f2
    have d2 : u.fdiv 2003 = u / 2003 := Int.fdiv_eq_ediv_of_nonneg _ (by decide)
    have m3 : opB .mul (.int u) (.int (u / 2003 + 40692)) = some (.int (u * (u / 2003 + 40692))) := mul_sm (by omega) (by omega)
    have q1 : opB .fdiv (.int z) (.int 1009) = some (.int (z / 1009)) := by rw [opB_fdiv _ _ (by decide) (by decide), d1]
    have q2 : opB .fdiv (.int u) (.int 2003) = some (.int (u / 2003)) := by rw [opB_fdiv _ _ (by decide) (by decide), d2]
    have r1 : opB .mod (.int y) (.int 2147483647) = some (.int z) := by rw [opB_mod _ _ (by decide), hz]
    have r2 : opB .mod (.int v) (.int 2147483629) = some (.int u) := by rw [opB_mod _ _ (by decide), hu]
    refine ⟨((u * (u / 2003 + 40692)).fmod 2147483399).fmod w, st.set n (wellC a b (k + 1)), (fmod_bd (by omega)).1, (fmod_bd (by omega)).2, ?_, ⟨a, b, k + 1, hc2, ha, hb, hb2, by omega, by omega⟩, Only.set⟩
    simp [denF, drawFn, ix0 st a b k hc, hp, ix2 st a b k hc, set2 st a b k _ hc, ix1 _ _ _ _ hc2, ix2 _ _ _ _ hc2, m1, p1, r1, q1, m2, r2, q2, m3, opB_mod _ _ wne, opB_mod]
def oneFn (dr : Nat) : Fn := ⟨[.ret (.ix (.var 1) (.call dr [(.var 0), (.blt .len [(.var 1)])] [.inl 0, .inl 1]))], 2⟩
def OneOk (F : List R → M R) : Prop := ∀ (n K : Nat) (st : Store) (ds : List D), Wl n K st → K < 1000000 → 1 ≤ ds.length → ds.length < 1000000 → ∃ d st', d ∈ ds ∧ F [.ref n, .v (.lst ds)] st = .ok (.v d) st' ∧ Wl n (K + 1) st' ∧ Only n st st'
theorem atI_mem {ds : List D} {x : Int} (h0 : 0 ≤ x) (h1 : x < ds.length) : ∃ d ∈ ds, L2.atI (ds.map R.v) x = some (R.v d) := by
  obtain ⟨k, rfl⟩ : ∃ k : Nat, x = k := ⟨x.toNat, by omega⟩
  have hk : k < ds.length := by omega
  exact ⟨ds[k], List.getElem_mem hk, by simp [hk]⟩
theorem one_ok {dr : Nat} (h : DrawOk (g.S dr)) : OneOk (denF g (oneFn dr)) := by
  intro n K st ds hw hK h1 h2
  obtain ⟨x, st', x0, x1, e, w', o'⟩ := h n K st ds.length hw hK (by omega) (by omega)
  obtain ⟨d, hd, ed⟩ := atI_mem x0 x1
  refine ⟨d, st', hd, ?_, w', o'⟩
  simp [denF, oneFn, e, index_lst, ed]
def wellFn : Fn := ⟨[.ret (.lst true [(.bin .mul (.var 0) (.blt .int [(.cmp .ge (.var 0) (.bin .pow (.con (D.int 10)) (.con (D.int 18))))])), (.bin .mod (.var 0) (.con (D.int 2147483629))), (.con (D.int 0))])], 1⟩
/-- a well is made of any number -/
def WellOk (F : List R → M R) : Prop := ∀ (c : Int) (st : Store), ∃ a b : Int, 0 ≤ a ∧ 0 ≤ b ∧ b < 2147483629 ∧ thawF F [.v (.int c)] st = .ok (.ref st.length) (st ++ [wellC a b 0])
theorem well_ok : WellOk (denF g wellFn) := by
  intro c st
  have p : opB .pow (.int 10) (.int 18) = some (.int 1000000000000000000) := by simp [opB]
  have f := fmod_bd (i := c) (show (0 : Int) < 2147483629 by decide)
  by_cases h : (1000000000000000000 : Int) ≤ c
  · refine ⟨c, c.fmod 2147483629, by omega, f.1, f.2, ?_⟩
    have m : opB .mul (.int c) (.int 1) = some (.int c) := by
      simp only [opB]
      rw [if_pos (.inr (.inr ⟨by decide, by decide⟩)), Int.mul_one]
    rw [thawF_ok (r := .ref 0) (s1 := [wellC c (c.fmod 2147483629) 0]) st rfl]
    · simp [wellC]
    · simp [denF, wellFn, p, h, m, opB_mod, wellC, alloc]
  · refine ⟨0, c.fmod 2147483629, by omega, f.1, f.2, ?_⟩
    have m : opB .mul (.int c) (.int 0) = some (.int 0) := by
      simp only [opB]
      rw [if_pos (.inr (.inr ⟨by decide, by decide⟩)), Int.mul_zero]
    rw [thawF_ok (r := .ref 0) (s1 := [wellC 0 (c.fmod 2147483629) 0]) st rfl]
    · simp [wellC]
    · simp [denF, wellFn, p, h, m, opB_mod, wellC, alloc]
theorem wl_new {st : Store} {a b : Int} (ha : 0 ≤ a) (hb : 0 ≤ b) (hb2 : b < 2147483629) : Wl st.length 0 (st ++ [wellC a b 0]) := ⟨a, b, 0, by simp, ha, hb, hb2, by decide, by decide⟩
def cellAtFn : Fn := ⟨[.ite (.cmp .lt (.var 1) (.blt .len [(.var 0)])) [.ret (.ix (.var 0) (.var 1))] [], .ret (.con (D.int 0))], 2⟩
def CellAtOk (F : List R → M R) : Prop := ∀ ns : List Int, ∃ c : Int, Ret F [.lst (ns.map D.int), .int 0] (.int c)
theorem cellAt_ok : CellAtOk (denF g cellAtFn) := by
  intro ns
  cases ns with
  | nil =>
    refine ⟨0, ?_⟩
    apply ret_of (s1 := [])
    simp [denF, cellAtFn]
  | cons n ns =>
    refine ⟨n, ?_⟩
    apply ret_of (s1 := [])
    have h : (0 : Int) < (ns.length : Int) + 1 := by omega
    simp [denF, cellAtFn, index_lst, h]
end
end SV

set_option maxRecDepth 100000
set_option maxHeartbeats 4000000
/-! Mo: rounds of years in plain Lean: n years, in some of which a month stands twice -/
namespace MO
/-- years with the month that stands twice in them -/
structure Ok (n : Nat) (ps : List (Nat × Nat)) : Prop where
  n0 : 0 < n
  n1 : n ≤ 1000
  rise : ps.Pairwise fun p q => p.1 < q.1
  yr : ∀ p ∈ ps, p.1 < n
  mo : ∀ p ∈ ps, 1 ≤ p.2 ∧ p.2 ≤ 12
def tw (ps : List (Nat × Nat)) (r : Nat) : Option Nat := (ps.find? fun p => p.1 == r).map (·.2)
/-- pairs ahead of a year -/
def ahead (ps : List (Nat × Nat)) (k : Nat) : Nat := ps.countP fun p => decide (p.1 < k)
def starts (ps : List (Nat × Nat)) (k : Nat) : Nat := 12 * k + ahead ps k
def total (n : Nat) (ps : List (Nat × Nat)) : Nat := starts ps n
def mons (o : Option Nat) : List (Nat × Bool) := (List.range 12).flatMap fun k => (k + 1, false) :: if o = some (k + 1) then [(k + 1, true)] else []
def yIn (n : Nat) (y : Int) : Nat := (y % n).toNat
def begins (n : Nat) (ps : List (Nat × Nat)) (y : Int) : Int := y / n * total n ps + starts ps (yIn n y)
def monsAt (n : Nat) (ps : List (Nat × Nat)) (y : Int) : List (Nat × Bool) := mons (tw ps (yIn n y))
theorem count_eq1 : ∀ {ps : List (Nat × Nat)}, ps.Pairwise (fun p q => p.1 < q.1) → ∀ k, (ps.countP fun p => decide (p.1 = k)) = if (tw ps k).isSome then 1 else 0
  | [], _, k => by simp [tw]
  | p :: ps, h, k => by
    rw [List.pairwise_cons] at h
    have ih := count_eq1 h.2 k
    rw [List.countP_cons]
    by_cases e : p.1 = k
    · subst e
      have z : (ps.countP fun q => decide (q.1 = p.1)) = 0 := by
        rw [List.countP_eq_zero]
        intro q hq
        have := h.1 q hq
        simp; omega
      simp [z, tw]
    · have t : tw (p :: ps) k = tw ps k := by simp [tw, List.find?_cons, e]
      rw [t, ih]; simp [e]
theorem starts_succ {ps : List (Nat × Nat)} (h : ps.Pairwise fun p q => p.1 < q.1) (k : Nat) : starts ps (k + 1) = starts ps k + 12 + if (tw ps k).isSome then 1 else 0 := by
  have e : ahead ps (k + 1) = ahead ps k + ps.countP fun p => decide (p.1 = k) := by
    unfold ahead
    clear h
    induction ps with
    | nil => rfl
    | cons p ps ih =>
      rw [List.countP_cons, List.countP_cons, List.countP_cons, ih]
      rcases Nat.lt_trichotomy p.1 k with z | z | z
      · simp [show p.1 < k + 1 by omega, z, show ¬ p.1 = k by omega]; omega
      · simp [show p.1 < k + 1 by omega, z]; omega
      · simp [show ¬ p.1 < k + 1 by omega, show ¬ p.1 < k by omega, show ¬ p.1 = k by omega]
  unfold starts
  rw [e, count_eq1 h k]
  omega
theorem tw_mo {n : Nat} {ps : List (Nat × Nat)} (h : Ok n ps) {k m : Nat} (e : tw ps k = some m) : 1 ≤ m ∧ m ≤ 12 := by
  unfold tw at e
  rw [Option.map_eq_some_iff] at e
  obtain ⟨p, hp, rfl⟩ := e
  exact h.mo p (List.mem_of_find?_eq_some hp)
theorem mons_len_none : (mons none).length = 12 := by decide
theorem mons_len_some : ∀ m, 1 ≤ m → m ≤ 12 → (mons (some m)).length = 13 := by
  intro m h1 h2
  have : ∀ k : Fin 12, (mons (some (k.val + 1))).length = 13 := by decide
  have := this ⟨m - 1, by omega⟩
  rwa [show m - 1 + 1 = m by omega] at this
theorem mons_len {n : Nat} {ps : List (Nat × Nat)} (h : Ok n ps) (k : Nat) : (mons (tw ps k)).length = 12 + if (tw ps k).isSome then 1 else 0 := by
  cases e : tw ps k with
  | none => exact mons_len_none
  | some m => have := tw_mo h e; rw [mons_len_some m this.1 this.2]; rfl
theorem starts_next {n : Nat} {ps : List (Nat × Nat)} (h : Ok n ps) (k : Nat) : starts ps (k + 1) = starts ps k + (mons (tw ps k)).length := by
  rw [starts_succ h.rise, mons_len h]; omega
theorem starts_mono {n : Nat} {ps : List (Nat × Nat)} (h : Ok n ps) {i j : Nat} (hij : i < j) : starts ps i + (mons (tw ps i)).length ≤ starts ps j := by
  induction j with
  | zero => omega
  | succ j ih =>
    rcases Nat.lt_or_eq_of_le (Nat.le_of_lt_succ hij) with z | z
    · rw [starts_next h j]; have := ih z; omega
    · subst z; rw [starts_next h i]; omega
theorem starts_zero (ps : List (Nat × Nat)) : starts ps 0 = 0 := by simp [starts, ahead]
theorem total_eq {n : Nat} {ps : List (Nat × Nat)} (h : Ok n ps) : total n ps = 12 * n + ps.length := by
  unfold total starts ahead
  have : (ps.countP fun p => decide (p.1 < n)) = ps.length := by
    rw [List.countP_eq_length]
    intro p hp
    simpa using h.yr p hp
  rw [this]
theorem total_pos {n : Nat} {ps : List (Nat × Nat)} (h : Ok n ps) : 0 < total n ps := by rw [total_eq h]; have := h.n0; omega
theorem yIn_lt {n : Nat} (h : 0 < n) (y : Int) : yIn n y < n := by
  have := Int.emod_lt_of_pos y (show (0 : Int) < n by omega)
  have := Int.emod_nonneg y (show (n : Int) ≠ 0 by omega)
  unfold yIn; omega
theorem yIn_cast {n : Nat} (h : 0 < n) (y : Int) : ((yIn n y : Nat) : Int) = y % n := by
  have := Int.emod_nonneg y (show (n : Int) ≠ 0 by omega)
  unfold yIn; omega
/-- the number's year, and which of its months -/
def At (n : Nat) (ps : List (Nat × Nat)) (x : Int) (y : Int) (i : Nat) : Prop := x = begins n ps y + i ∧ i < (monsAt n ps y).length
theorem split {n : Nat} (h : 0 < n) (y : Int) : y = y / n * n + (yIn n y : Nat) := by
  rw [yIn_cast h, Int.mul_comm]
  exact (Int.mul_ediv_add_emod y n).symm
theorem begins_join {n : Nat} {ps : List (Nat × Nat)} (h : 0 < n) (q : Int) {r : Nat} (hr : r < n) : (q * n + r) / n = q ∧ yIn n (q * n + r) = r := by
  have a : (q * n + (r : Int)) / n = q := by
    rw [Int.add_comm, Int.add_mul_ediv_right _ _ (by omega), Int.ediv_eq_zero_of_lt (by omega) (by omega)]; omega
  have b : (q * n + (r : Int)) % n = r := by
    rw [Int.add_comm, Int.add_mul_emod_self_right]
    exact Int.emod_eq_of_lt (by omega) (by omega)
  exact ⟨a, by unfold yIn; rw [b]; omega⟩
theorem begins_succ {n : Nat} {ps : List (Nat × Nat)} (h : Ok n ps) (y : Int) : begins n ps (y + 1) = begins n ps y + (monsAt n ps y).length := by
  have n0 := h.n0
  have l := yIn_lt n0 y
  have s := split n0 y
  unfold begins monsAt
  generalize y / (n : Int) = q at *
  generalize yIn n y = r at *
  by_cases z : r + 1 < n
  · obtain ⟨a, b⟩ := begins_join (ps := ps) n0 q z
    rw [show y + 1 = q * n + ((r + 1 : Nat) : Int) by omega, a, b, starts_next h r]; omega
  · obtain ⟨a, b⟩ := begins_join (ps := ps) n0 (q + 1) n0
    have : y + 1 = (q + 1) * n + ((0 : Nat) : Int) := by rw [Int.add_mul]; omega
    rw [this, a, b, starts_zero, Int.add_mul]
    have e : total n ps = starts ps r + (mons (tw ps r)).length := by
      unfold total; rw [show n = r + 1 by omega, starts_next h r]
    omega
theorem begins_later {n : Nat} {ps : List (Nat × Nat)} (h : Ok n ps) (y : Int) : begins n ps (y + n) = begins n ps y + total n ps ∧ monsAt n ps (y + n) = monsAt n ps y := by
  have n0 := h.n0
  have e : yIn n (y + n) = yIn n y := by
    unfold yIn
    rw [show y + (n : Int) = y + 1 * n by omega, Int.add_mul_emod_self_right]
  have f : (y + n) / (n : Int) = y / n + 1 := by
    rw [show y + (n : Int) = y + 1 * n by omega, Int.add_mul_ediv_right _ _ (by omega)]
  unfold begins monsAt
  rw [e, f, Int.add_mul]
  exact ⟨by omega, rfl⟩
theorem begins_mono {n : Nat} {ps : List (Nat × Nat)} (h : Ok n ps) (y : Int) : ∀ k : Nat, begins n ps y + (monsAt n ps y).length ≤ begins n ps (y + 1 + k)
  | 0 => by rw [Int.natCast_zero, Int.add_zero, begins_succ h]; omega
  | k + 1 => by
    have := begins_mono h y k
    have e := begins_succ h (y + 1 + k)
    rw [show y + 1 + (((k + 1 : Nat)) : Int) = y + 1 + k + 1 by omega, e]; omega
theorem at_uniq {n : Nat} {ps : List (Nat × Nat)} (h : Ok n ps) {x y y' : Int} {i i' : Nat} (a : At n ps x y i) (b : At n ps x y' i') : y = y' ∧ i = i' := by
  have key : ∀ {y y' : Int} {i i' : Nat}, At n ps x y i → At n ps x y' i' → ¬ y < y' := fun {y y' i i'} a b l => by
    have := begins_mono h y (y' - y - 1).toNat
    rw [show y + 1 + (((y' - y - 1).toNat : Nat) : Int) = y' by omega] at this
    have := a.1; have := a.2; have := b.1
    omega
  have e : y = y' := by have := key a b; have := key b a; omega
  subst e
  exact ⟨rfl, by have := a.1; have := b.1; omega⟩
/-- the greatest year of the round that begins no later -/
def place (n : Nat) (ps : List (Nat × Nat)) (rest : Nat) : Nat := ((List.range n).filter fun r => decide (starts ps r ≤ rest)).length - 1
theorem le_starts {n : Nat} {ps : List (Nat × Nat)} (h : Ok n ps) {i j : Nat} (hij : i ≤ j) : starts ps i ≤ starts ps j := by
  rcases Nat.lt_or_eq_of_le hij with z | z
  · have := starts_mono h z; omega
  · subst z; exact Nat.le_refl _
theorem lt_starts {n : Nat} {ps : List (Nat × Nat)} (h : Ok n ps) {i j : Nat} (hij : i < j) : starts ps i < starts ps j := by
  have := starts_mono h hij
  have := mons_len h i
  omega
theorem filter_le {n : Nat} {ps : List (Nat × Nat)} (h : Ok n ps) (rest : Nat) : ∀ m, ∃ c, c ≤ m ∧ (List.range m).filter (fun r => decide (starts ps r ≤ rest)) = List.range c ∧ (∀ r, r < c → starts ps r ≤ rest) ∧ (c < m → rest < starts ps c)
  | 0 => ⟨0, by omega, rfl, fun _ h => absurd h (Nat.not_lt_zero _), fun h => absurd h (Nat.lt_irrefl _)⟩
  | m + 1 => by
    obtain ⟨c, c1, c2, c3, c4⟩ := filter_le h rest m
    rw [List.range_succ, List.filter_append, c2]
    rcases Nat.lt_or_eq_of_le c1 with z | z
    · have l := c4 z
      have : ¬ starts ps m ≤ rest := by have := lt_starts h z; omega
      exact ⟨c, by omega, by simp [this], c3, fun _ => l⟩
    · subst z
      by_cases q : starts ps c ≤ rest
      · refine ⟨c + 1, Nat.le_refl _, by simp [q, List.range_succ], fun r hr => ?_, fun hl => absurd hl (Nat.lt_irrefl _)⟩
        rcases Nat.lt_or_eq_of_le (Nat.le_of_lt_succ hr) with y | y
        · exact c3 r y
        · subst y; exact q
      · exact ⟨c, by omega, by simp [q], c3, fun _ => by omega⟩
theorem place_ok {n : Nat} {ps : List (Nat × Nat)} (h : Ok n ps) {rest : Nat} (hr : rest < total n ps) : ∃ p, p < n ∧ starts ps p ≤ rest ∧ rest < starts ps (p + 1) ∧ (List.range n).filter (fun r => decide (starts ps r ≤ rest)) = List.range (p + 1) := by
  obtain ⟨c, c1, c2, c3, c4⟩ := filter_le h rest n
  have c0 : 0 < c := by
    rcases Nat.eq_zero_or_pos c with z | z
    · subst z
      have := c4 h.n0
      rw [starts_zero] at this; omega
    · exact z
  refine ⟨c - 1, by omega, c3 _ (by omega), ?_, by rw [c2]; congr 1; omega⟩
  rw [show c - 1 + 1 = c by omega]
  rcases Nat.lt_or_eq_of_le c1 with z | z
  · exact c4 z
  · subst z; exact hr
theorem at_of {n : Nat} {ps : List (Nat × Nat)} (h : Ok n ps) (x : Int) {p : Nat} (hp : p < n) (h1 : (starts ps p : Int) ≤ x % total n ps) (h2 : x % total n ps < (starts ps (p + 1) : Int)) :
    At n ps x (x / total n ps * n + p) (x % total n ps - starts ps p).toNat := by
  obtain ⟨a, b⟩ := begins_join (ps := ps) h.n0 (x / total n ps) hp
  have e := Int.mul_ediv_add_emod x (total n ps)
  have s := starts_next h p
  constructor
  · unfold begins
    rw [a, b, Int.mul_comm]; omega
  · unfold monsAt
    rw [b]; omega
theorem mons_nodup (o : Option Nat) (h : ∀ m, o = some m → 1 ≤ m ∧ m ≤ 12) : (mons o).Nodup := by
  cases o with
  | none => decide
  | some m =>
    have := h m rfl
    have z : ∀ k : Fin 12, (mons (some (k.val + 1))).Nodup := by decide
    have := z ⟨m - 1, by omega⟩
    rwa [show m - 1 + 1 = m by omega] at this
end MO

set_option maxRecDepth 100000
set_option maxHeartbeats 4000000
/-! SvMa: rounds of years -/
namespace SV
open PySem PySem.Spec PyProof.Rows MO
open L2 hiding It
section
variable {g : Sg}
def isFromFn (iw : Nat) : Fn := ⟨[.ret (.and (.call iw [(.var 0)] [.inl 0]) (.chn .le .le (.var 1) (.var 0) (.var 2)))], 3⟩
def IsFromOk (F : List R → M R) : Prop := ∀ i a b : Int, Ret F [.int i, .int a, .int b] (.bl (decide (a ≤ i) && decide (i ≤ b)))
theorem isFrom_ok {iw : Nat} (h : IsWholeOk (g.S iw)) : IsFromOk (denF g (isFromFn iw)) := fun i a b => by
  apply ret_of (s1 := [])
  have e := (h i).c1
  by_cases h1 : a ≤ i <;> by_cases h2 : i ≤ b <;> simp [denF, isFromFn, e, h1, h2]
/-! the pairs told -/
def prD (p : Nat × Nat) : D := .tup [.int (p.1 : Int), .int (p.2 : Int)]
def prsD (ps : List (Nat × Nat)) : List D := ps.map prD
/-- a list of data handed in, as data or as a cell -/
def Hand (st : Store) (r : R) (ds : List D) : Prop := r = .v (.lst ds) ∨ ∃ n, r = .ref n ∧ st[n]? = some (.lst (ds.map R.v))
theorem Hand.plD {st : Store} {r : R} {ds : List D} (h : Hand st r ds) : plD r st = .ok ds st := by
  rcases h with rfl | ⟨n, rfl, h⟩
  · rfl
  · exact plD_cell st h
theorem Hand.force {st : Store} {r : R} {ds : List D} (h : Hand st r ds) : force st r = some (.lst ds) := by
  have := h.plD
  unfold SV.plD at this
  obtain ⟨d, st1, q1, q2⟩ := M.bind_inv this
  obtain ⟨f, rfl⟩ := rdD_ok q1
  obtain ⟨rfl, _⟩ := lsOf_ok q2
  exact f
theorem Hand.stays {st : Store} {r : R} {ds : List D} (h : Hand st r ds) : stays [(r, ds)] st := fun p hp => by
  rw [List.mem_singleton] at hp; subst hp; exact h.force
theorem Hand.head {st : Store} {r : R} {ds : List D} (h : Hand st r ds) (ct : Ctab) : cHead ct [.inr "list"] r st = .ok (.v (.bl true)) st := by
  rcases h with rfl | ⟨n, rfl, h⟩
  · rfl
  · show (headM (.ref n) st).bind _ = _
    simp only [headM, headD, h]; rfl
theorem Hand.var {st : Store} {r : R} {ds : List D} (h : Hand st r ds) (ρ : Env) (i : Nat) (e : ρ[i]? = some (some r)) : rdVar ρ i st = .ok r st := by
  unfold rdVar
  rw [e]
  rcases h with rfl | ⟨n, rfl, h⟩ <;> rfl
def doubledBody (fr : Nat) : List Sm := [.ite (.or (.not (.isi (.var 3) [.inr "tuple"])) (.cmp .ne (.blt .len [(.var 3)]) (.con (D.int 2)))) [.ret (.con (D.bl false))] [], .unp [4, 5] (.var 3), .ite (.or (.not (.call fr [(.var 4), (.bin .add (.var 2) (.con (D.int 1))), (.bin .sub (.var 1) (.con (D.int 1)))] [.inl 0, .inl 1, .inl 2])) (.not (.call fr [(.var 5), (.con (D.int 1)), (.con (D.int 12))] [.inl 0, .inl 1, .inl 2]))) [.ret (.con (D.bl false))] [], .asg 2 (.var 4)]
def doubledFn (fr : Nat) : Fn := ⟨[.ite (.not (.isi (.var 0) [.inr "list"])) [.ret (.con (D.bl false))] [], .asg 2 (.neg (.con (D.int 1))), .frrC (.one 3) (.over (.var 0)) (doubledBody fr), .ret (.con (D.bl true))], 6⟩
def DoubledOk (F : List R → M R) : Prop := ∀ (n : Nat) (ps : List (Nat × Nat)) (r : R) (st : Store), Ok n ps → Hand st r (prsD ps) → F [r, .v (.int n)] st = .ok (.v (.bl true)) st
theorem doubled_loop {fr : Nat} (h : IsFromOk (g.S fr)) {n : Nat} {r : R} {ds : List D} {st : Store} (hs : stays [(r, ds)] st) : ∀ (ps : List (Nat × Nat)) (a : Int) (o3 o4 o5 : Option R), -1 ≤ a → ps.Pairwise (fun p q => p.1 < q.1) → (∀ p ∈ ps, a < (p.1 : Int) ∧ p.1 < n ∧ 1 ≤ p.2 ∧ p.2 ≤ 12) →
    ∃ ρ, FRC g [(r, ds)] (.one 3) (doubledBody fr) ((prsD ps).map R.v) [some r, some (.v (.int n)), some (.v (.int a)), o3, o4, o5] st = .nx ρ st
  | [], a, o3, o4, o5, _, _, _ => ⟨_, FRC_nil _ _ _ hs _ _⟩
  | p :: ps, a, o3, o4, o5, ha, hp, hb => by
    rw [List.pairwise_cons] at hp
    have b := hb p (by simp)
    obtain ⟨ρ, e⟩ := doubled_loop h hs ps p.1 (some (.v (prD p))) (some (.v (.int p.1))) (some (.v (.int p.2))) (by omega) hp.2 fun q hq => ⟨by have := hp.1 q hq; omega, (hb q (by simp [hq])).2⟩
    refine ⟨ρ, ?_⟩
    have e1 := (h (p.1 : Int) (a + 1) ((n : Int) - 1)).c3
    have e2 := (h (p.2 : Int) 1 12).c3
    rw [show (decide (a + 1 ≤ (p.1 : Int)) && decide ((p.1 : Int) ≤ (n : Int) - 1)) = true by simp; omega] at e1
    rw [show (decide (1 ≤ (p.2 : Int)) && decide ((p.2 : Int) ≤ 12)) = true by simp; omega] at e2
    have step : denSs g (doubledBody fr) [some r, some (.v (.int n)), some (.v (.int a)), some (.v (prD p)), o4, o5] st = .nx [some r, some (.v (.int n)), some (.v (.int p.1)), some (.v (prD p)), some (.v (.int p.1)), some (.v (.int p.2))] st := by
      have ty : isAny g.ct (prD p) [.inr "tuple"] = some true := rfl
      have ln : opF .len [prD p] = some (.int 2) := rfl
      have it : ∀ s, items (.v (prD p)) s = .ok [.v (.int p.1), .v (.int p.2)] s := fun _ => rfl
      generalize prD p = P at *
      generalize (p.1 : Int) = y at *
      generalize (p.2 : Int) = m at *
      generalize (n : Int) = N at *
      simp [doubledBody, ty, ln, it, e1, e2]
    rw [prsD, List.map_cons, List.map_cons, FRC_cons _ _ _ hs, bind_one, Out.to_ok]
    show ((denSs g (doubledBody fr) _ st).turn _) = _
    simp only [List.set_cons_succ, List.set_cons_zero]
    rw [step, OutS.turn_nx]
    exact e
theorem doubled_ok {fr : Nat} (h : IsFromOk (g.S fr)) : DoubledOk (denF g (doubledFn fr)) := fun n ps r st ok hand => by
  obtain ⟨ρ, e⟩ := doubled_loop h hand.stays ps (-1) none none none (by decide) ok.rise fun p hp => ⟨by omega, ok.yr p hp, ok.mo p hp⟩
  have v0 : ∀ os : List (Option R), rdVar (some r :: os) 0 st = .ok r st := fun os => hand.var _ 0 rfl
  have hd := hand.head g.ct
  have pl := hand.plD
  unfold denF doubledFn
  generalize (prsD ps) = ds at *
  simp [v0, hd, pl, e]
/-! a dict of pairs whose keys are all others -/
theorem merge_nodup {kvs acc : List (L2.Key × D)} (h : kvs.Pairwise fun p q => p.1 ≠ q.1) (h2 : ∀ p ∈ acc, ∀ q ∈ kvs, p.1 ≠ q.1) : kvs.foldl (fun acc kv => dPut acc kv.1 kv.2) acc = acc ++ kvs := by
  induction kvs generalizing acc with
  | nil => simp
  | cons p ps ih =>
    rw [List.pairwise_cons] at h
    rw [List.foldl_cons]
    have e : dPut acc p.1 p.2 = acc ++ [p] := by
      unfold dPut
      rw [if_neg]
      simp only [List.any_eq_true, decide_eq_true_eq, not_exists, not_and]
      exact fun q hq => h2 q hq p (by simp)
    rw [e, ih h.2 fun q hq r hr => by
      rcases List.mem_append.mp hq with hq | hq
      · exact h2 q hq r (by simp [hr])
      · simp at hq; subst hq; exact h.1 r hr]
    simp
def kvD (ps : List (Nat × Nat)) : List (L2.Key × D) := ps.map fun p => (.inl (p.1 : Int), .int (p.2 : Int))
theorem merge_kv {ps : List (Nat × Nat)} (h : ps.Pairwise fun p q => p.1 < q.1) : mergeD (kvD ps) = kvD ps := by
  unfold mergeD
  rw [merge_nodup (acc := []) ?_ (by simp)]
  · rfl
  · unfold kvD
    rw [List.pairwise_map]
    exact h.imp fun l z => by
      simp only [Sum.inl.injEq] at z
      omega
theorem dAt_kv (ps : List (Nat × Nat)) (k : Nat) : dAt (kvD ps) (.inl (k : Int)) = (tw ps k).map fun (m : Nat) => D.int (m : Int) := by
  induction ps with
  | nil => rfl
  | cons p ps ih =>
    by_cases e : p.1 = k
    · subst e; simp [dAt, kvD, tw]
    · have a : dAt (kvD (p :: ps)) (.inl (k : Int)) = dAt (kvD ps) (.inl (k : Int)) := by
        simp only [dAt, kvD, List.map_cons, List.find?_cons]
        rw [show decide ((Sum.inl (p.1 : Int) : L2.Key) = .inl (k : Int)) = false by simp; omega]
      have b : tw (p :: ps) k = tw ps k := by simp [tw, List.find?_cons, e]
      rw [a, b, ih]
def stD (n : Nat) (ps : List (Nat × Nat)) : List D := (List.range (n + 1)).map fun k => .int (starts ps k : Nat)
def roundFs (n : Nat) (ps : List (Nat × Nat)) : List (Str × D) := [("span", .int (n : Nat)), ("twice", .dct (kvD ps)), ("starts", .lst (stD n ps))]
def roundD (c n : Nat) (ps : List (Nat × Nat)) : D := .obj c (roundFs n ps)
def roundBody : List Sm := [.ex (.bm .append (.attr (.var 0) "starts") [(.bin .add (.bin .add (.ix (.attr (.var 0) "starts") (.neg (.con (D.int 1)))) (.con (D.int 12))) (.blt .int [(.din false (.var 3) (.attr (.var 0) "twice"))]))])]
def roundFn (fr ad e : Nat) : Fn := ⟨[.ite (.not (.call fr [(.var 1), (.con (D.int 1)), (.con (D.int 1000))] [.inl 0, .inl 1, .inl 2])) [.rse e [(.con (D.str "years"))] ["why"]] [], .ite (.not (.call ad [(.var 2), (.var 1)] [.inl 0, .inl 1])) [.rse e [(.con (D.str "doubled"))] ["why"]] [], .setf (.var 0) "span" (.var 1), .setf (.var 0) "twice" (.dcC (.var 3) (.var 4) (.many [3, 4]) (.over (.var 2)) none [3, 4]), .setf (.var 0) "starts" (.lst true [(.con (D.int 0))]), .frr (.one 3) (.rng (.var 1)) roundBody], 5⟩
/-- what stands when an object is made at i: the rest of the store, and what came behind it -/
def obS (st : Store) (i c : Nat) (fs : List (Str × R)) (tail : Store) : Store := st.set i (.obj c fs) ++ tail
section
variable {st : Store} {i c : Nat} {fs fs' : List (Str × R)} {tail : Store}
theorem obS_at (h : i < st.length) : (obS st i c fs tail)[i]? = some (.obj c fs) := by
  unfold obS
  rw [List.getElem?_append_left (by simpa using h), List.getElem?_set_self h]
theorem obS_set (h : i < st.length) : (obS st i c fs tail).set i (.obj c fs') = obS st i c fs' tail := by
  unfold obS
  rw [List.set_append_left _ _ (by simpa using h), List.set_set]
theorem obS_len : (obS st i c fs tail).length = st.length + tail.length := by simp [obS]
theorem obS_app (x : Cell) : obS st i c fs tail ++ [x] = obS st i c fs (tail ++ [x]) := by simp [obS]
theorem obS_tl (j : Nat) : (obS st i c fs tail)[st.length + j]? = tail[j]? := by
  unfold obS
  rw [List.getElem?_append_right (by simp)]
  simp
theorem obS_tlset (j : Nat) (x : Cell) : (obS st i c fs tail).set (st.length + j) x = obS st i c fs (tail.set j x) := by
  unfold obS
  rw [List.set_append_right _ _ (by simp)]
  simp
end
theorem Hand.obS {st : Store} {i c : Nat} {fs fs0 : List (Str × R)} {tail : Store} {r : R} {ds : List D} (h : Hand st r ds) (h0 : st[i]? = some (.obj c fs0)) : Hand (obS st i c fs tail) r ds := by
  rcases h with rfl | ⟨n, rfl, h⟩
  · exact .inl rfl
  · refine .inr ⟨n, rfl, ?_⟩
    have ne : n ≠ i := fun z => by rw [z, h0] at h; cases h
    have hl := (List.getElem?_eq_some_iff.mp h).1
    unfold SV.obS
    rw [List.getElem?_append_left (by simpa using hl), List.getElem?_set_ne (Ne.symm ne)]
    exact h
theorem DoubledOk.call {F : List R → M R} (hF : DoubledOk F) {n : Nat} {ps : List (Nat × Nat)} {r : R} {st : Store} (ok : Ok n ps) (h : Hand st r (prsD ps)) : callF F [r, .v (.int n)] st = .ok (.v (.bl true)) st := by
  rcases h with rfl | ⟨k, rfl, h⟩
  · have := hF n ps (.v (.lst (prsD ps))) [] ok (.inl rfl)
    rw [callF_ok (r := .v (.bl true)) (d := .bl true) (s1 := []) (s2 := []) rfl this rfl]
  · rw [callF_ref2]
    exact hF n ps _ st ok (.inr ⟨k, rfl, h⟩)
def stR (ps : List (Nat × Nat)) (k : Nat) : List R := (List.range (k + 1)).map fun j => R.v (.int (starts ps j : Nat))
def roundR (n L : Nat) : List (Str × R) := [("span", .v (.int (n : Nat))), ("twice", .ref L), ("starts", .ref (L + 1))]
def RInitOk (F : List R → M R) (c : Nat) : Prop := ∀ (n : Nat) (ps : List (Nat × Nat)) (r : R) (st : Store) (i : Nat), Ok n ps → Hand st r (prsD ps) → st[i]? = some (.obj c []) →
  F [.ref i, .v (.int n), r] st = .ok (.v .non) (obS st i c (roundR n st.length) [.dct ((kvD ps).map fun p => (p.1, R.v p.2)), .lst (stR ps n)])
theorem round_loop {n : Nat} {ps : List (Nat × Nat)} (ok : Ok n ps) {st : Store} {i c : Nat} (hi : i < st.length) (r : R) (o4 : Option R) : ∀ (m k : Nat) (o3 : Option R), k + m = n →
    ∃ o3', FR g (.one 3) roundBody ((List.range' k m).map fun (j : Nat) => R.v (.int (j : Int))) [some (.ref i), some (.v (.int n)), some r, o3, o4] (obS st i c (roundR n st.length) [.dct ((kvD ps).map fun p => (p.1, R.v p.2)), .lst (stR ps k)]) =
      .nx [some (.ref i), some (.v (.int n)), some r, o3', o4] (obS st i c (roundR n st.length) [.dct ((kvD ps).map fun p => (p.1, R.v p.2)), .lst (stR ps n)])
  | 0, k, o3, e => by
    have : k = n := by omega
    subst this
    exact ⟨o3, FR_nil ..⟩
  | m + 1, k, o3, e => by
    obtain ⟨o3', h⟩ := round_loop ok hi r o4 (c := c) m (k + 1) (some (.v (.int (k : Int)))) (by omega)
    refine ⟨o3', ?_⟩
    rw [List.range'_succ, List.map_cons, FR_cons, bind_one, Out.to_ok, kFr1_at]
    simp only [List.set_cons_succ, List.set_cons_zero]
    have step : denSs g roundBody [some (.ref i), some (.v (.int n)), some r, some (.v (.int (k : Int))), o4] (obS st i c (roundR n st.length) [.dct ((kvD ps).map fun p => (p.1, R.v p.2)), .lst (stR ps k)]) = .nx [some (.ref i), some (.v (.int n)), some r, some (.v (.int (k : Int))), o4] (obS st i c (roundR n st.length) [.dct ((kvD ps).map fun p => (p.1, R.v p.2)), .lst (stR ps (k + 1))]) := by
      have a0 : (obS st i c (roundR n st.length) [.dct ((kvD ps).map fun p => (p.1, R.v p.2)), .lst (stR ps k)])[i]? = some (.obj c (roundR n st.length)) := obS_at hi
      have a1 : (obS st i c (roundR n st.length) [.dct ((kvD ps).map fun p => (p.1, R.v p.2)), .lst (stR ps k)])[st.length]? = some (.dct ((kvD ps).map fun p => (p.1, R.v p.2))) := obS_tl 0
      have a2 : (obS st i c (roundR n st.length) [.dct ((kvD ps).map fun p => (p.1, R.v p.2)), .lst (stR ps k)])[st.length + 1]? = some (.lst (stR ps k)) := obS_tl 1
      have sw : (obS st i c (roundR n st.length) [.dct ((kvD ps).map fun p => (p.1, R.v p.2)), .lst (stR ps k)]).set (st.length + 1) (.lst (stR ps k ++ [.v (.int (starts ps (k + 1) : Nat))])) = obS st i c (roundR n st.length) [.dct ((kvD ps).map fun p => (p.1, R.v p.2)), .lst (stR ps (k + 1))] := by
        rw [obS_tlset]
        have : stR ps k ++ [.v (.int (starts ps (k + 1) : Nat))] = stR ps (k + 1) := by
          unfold stR; rw [List.range_succ (n := k + 1), List.map_append]; rfl
        rw [this]; rfl
      have f1 : ∀ s, s = obS st i c (roundR n st.length) [.dct ((kvD ps).map fun p => (p.1, R.v p.2)), .lst (stR ps k)] → cAttr "starts" (.ref i) s = .ok (.ref (st.length + 1)) s := fun s hs => by subst hs; exact cAttr_cell _ a0 rfl
      have f2 : cAttr "twice" (.ref i) (obS st i c (roundR n st.length) [.dct ((kvD ps).map fun p => (p.1, R.v p.2)), .lst (stR ps k)]) = .ok (.ref st.length) (obS st i c (roundR n st.length) [.dct ((kvD ps).map fun p => (p.1, R.v p.2)), .lst (stR ps k)]) := cAttr_cell _ a0 rfl
      have l1 : L2.atI (stR ps k) (-1) = some (.v (.int (starts ps k : Nat))) := by
        rw [atI_neg1]
        unfold stR
        rw [List.range_succ, List.map_append]
        simp
      have ix := index_cell (obS st i c (roundR n st.length) [.dct ((kvD ps).map fun p => (p.1, R.v p.2)), .lst (stR ps k)]) a2 l1
      have di := cDin1_cell (obS st i c (roundR n st.length) [.dct ((kvD ps).map fun p => (p.1, R.v p.2)), .lst (stR ps k)]) false (d := .int (k : Int)) a1 rfl
      rw [dAt_map, dAt_kv] at di
      have nx := starts_succ ok.rise k
      have hl : (stR ps k).length < sizeLine := by
        have := ok.n1
        rw [stR, List.length_map, List.length_range]
        exact Nat.lt_of_lt_of_le (show k + 1 < 100000 by omega) (by decide)
      have val : ((starts ps k : Nat) : Int) + 12 + (if (tw ps k).isSome = true then 1 else 0) = ((starts ps (k + 1) : Nat) : Int) := by rw [nx]; split <;> simp
      have bm := fun (es : List Ex) (ρ : Env) => cBm1_at g ρ (obS st i c (roundR n st.length) [.dct ((kvD ps).map fun p => (p.1, R.v p.2)), .lst (stR ps k)]) .append es (st.length + 1) (stR ps k) a2
      have ap := opM_append (obS st i c (roundR n st.length) [.dct ((kvD ps).map fun p => (p.1, R.v p.2)), .lst (stR ps k)]) (st.length + 1) (.v (.int (starts ps (k + 1) : Nat))) (stR ps k) a2 hl
      rw [sw] at ap
      have f1' := f1 _ rfl
      clear f1 sw a0 a1 a2 nx l1 hl
      generalize obS st i c (roundR n st.length) [.dct ((kvD ps).map fun p => (p.1, R.v p.2)), .lst (stR ps k)] = S1 at *
      generalize obS st i c (roundR n st.length) [.dct ((kvD ps).map fun p => (p.1, R.v p.2)), .lst (stR ps (k + 1))] = S2 at *
      generalize ((starts ps k : Nat) : Int) = x1 at *
      generalize ((starts ps (k + 1) : Nat) : Int) = x2 at *
      cases hb : (tw ps k).isSome with
      | true =>
        rw [hb] at val
        simp only [Bool.false_eq_true, if_false, Option.isSome_map, hb] at di
        have val : x1 + 12 + 1 = x2 := by simpa using val
        simp [roundBody, f1', f2, bm, ix, di, val, ap]
      | false =>
        rw [hb] at val
        simp only [Bool.false_eq_true, if_false, Option.isSome_map, hb] at di
        have val : x1 + 12 = x2 := by simpa using val
        simp [roundBody, f1', f2, bm, ix, di, val, ap]
    rw [step, OutS.turn_nx]
    exact h
theorem round_init {fr ad e c : Nat} (h1 : IsFromOk (g.S fr)) (h2 : DoubledOk (g.S ad)) : RInitOk (denF g (roundFn fr ad e)) c := fun n ps r st i ok hand hc => by
  have hi := (List.getElem?_eq_some_iff.mp hc).1
  have L0 : st.length ≠ 0 := by omega
  have e1 := (h1 (n : Int) 1 1000).c3
  have := ok.n0
  have := ok.n1
  rw [show (decide (1 ≤ (n : Int)) && decide ((n : Int) ≤ 1000)) = true by simp; omega] at e1
  have e2 := h2.call ok hand
  have v2 : ∀ (o3 o4 : Option R) (s : Store), rdVar [some (.ref i), some (.v (.int n)), some r, o3, o4] 2 s = .ok r s := fun o3 o4 s => by
    rcases hand with rfl | ⟨k, rfl, _⟩ <;> rfl
  have as1 : M.of (assem [r, .v (.int (n : Int))] [.inl 0, .inl 1]) st = .ok [r, .v (.int (n : Int))] st := rfl
  -- span
  have sf1 := setFld_cell (f := "span") (r := .v (.int n)) st hc (by decide)
  have s1 : st.set i (.obj c [("span", .v (.int n))]) = obS st i c [("span", .v (.int n))] [] := by simp [obS]
  rw [putR_nil, s1] at sf1
  -- twice
  have hand1 : Hand (obS st i c [("span", .v (.int n))] []) r (prsD ps) := hand.obS hc
  have dc := kDcC_ok g [some (.ref i), some (.v (.int n)), some r, none, none] (obS st i c [("span", .v (.int n))] []) (k := .var 3) (v := .var 4) (tg := .many [3, 4]) (gs := [(r, prsD ps)]) (ks := ps) (e := fun p => .v (prD p)) (h := fun p => (.inl (p.1 : Int), .int (p.2 : Int))) hand1.stays (by
      have : ∀ (l : List (Nat × Nat)) (a : Nat), l.Pairwise (fun p q => p.1 < q.1) → (∀ p ∈ l, a ≤ p.1 ∧ p.1 < n) → l.length ≤ n - a := by
        intro l
        induction l with
        | nil => intro a _ _; simp
        | cons p l ih =>
          intro a hp hb
          rw [List.pairwise_cons] at hp
          have b := hb p (by simp)
          have := ih (p.1 + 1) hp.2 fun q hq => ⟨by have := hp.1 q hq; omega, (hb q (by simp [hq])).2⟩
          simp; omega
      have := this ps 0 ok.rise fun p hp => ⟨Nat.zero_le _, ok.yr p hp⟩
      omega) (fun p _ => dcF_at g _ _ (ρ1 := [some (.ref i), some (.v (.int n)), some r, some (.v (.int p.1)), some (.v (.int p.2))]) (d := .int p.1) (e := .int p.2) (by simp [prD]) (by simp) (by simp) rfl)
  have mk : mergeD (ps.map fun p => ((.inl (p.1 : Int) : L2.Key), D.int (p.2 : Int))) = kvD ps := merge_kv ok.rise
  rw [mk, obS_len, obS_app] at dc
  simp only [List.length_nil, Nat.add_zero, List.nil_append] at dc
  have hm : (prsD ps).map R.v = ps.map fun p => R.v (prD p) := by simp [prsD]
  rw [← hm] at dc
  have pl := hand1.plD
  have sf2 := setFld_cell (f := "twice") (r := .ref st.length) (obS st i c [("span", .v (.int n))] [.dct ((kvD ps).map fun p => (p.1, R.v p.2))]) (obS_at hi) (by simp)
  rw [obS_set hi] at sf2
  have p2 : putR "twice" (.ref st.length) [("span", .v (.int n))] = ([("span", .v (.int n)), ("twice", .ref st.length)] : List (Str × R)) := rfl
  rw [p2] at sf2
  -- starts
  have ap3 := obS_app (st := st) (i := i) (c := c) (fs := [("span", .v (.int n)), ("twice", .ref st.length)]) (tail := [.dct ((kvD ps).map fun p => (p.1, R.v p.2))]) (.lst [.v (.int 0)])
  have ln3 : (obS st i c [("span", .v (.int n)), ("twice", .ref st.length)] [.dct ((kvD ps).map fun p => (p.1, R.v p.2))]).length = st.length + 1 := by rw [obS_len]; rfl
  have sf3 := setFld_cell (f := "starts") (r := .ref (st.length + 1)) (obS st i c [("span", .v (.int n)), ("twice", .ref st.length)] ([.dct ((kvD ps).map fun p => (p.1, R.v p.2))] ++ [.lst [.v (.int 0)]])) (obS_at hi) (by simp)
  rw [obS_set hi] at sf3
  have p3 : putR "starts" (.ref (st.length + 1)) [("span", .v (.int n)), ("twice", .ref st.length)] = roundR n st.length := rfl
  have p4 : [Cell.dct ((kvD ps).map fun p => (p.1, R.v p.2))] ++ [.lst [.v (.int 0)]] = [.dct ((kvD ps).map fun p => (p.1, R.v p.2)), .lst (stR ps 0)] := by
    show [_, _] = _
    simp [stR, starts_zero]
  rw [p3, p4] at sf3
  rw [p4] at ap3
  obtain ⟨o3', lp⟩ := round_loop (g := g) ok hi (c := c) r none n 0 none (by omega)
  rw [← List.range_eq_range'] at lp
  have rg := fun s => rng0_ok s n (by omega)
  clear s1 p2 p3 p4 hand1 mk
  unfold denF roundFn
  generalize obS st i c (roundR n st.length) [.dct ((kvD ps).map fun p => (p.1, R.v p.2)), .lst (stR ps n)] = Z5 at *
  generalize obS st i c (roundR n st.length) [.dct ((kvD ps).map fun p => (p.1, R.v p.2)), .lst (stR ps 0)] = Z4 at *
  generalize hz3 : obS st i c [("span", .v (.int n)), ("twice", .ref st.length)] [.dct ((kvD ps).map fun p => (p.1, R.v p.2)), .lst (stR ps 0)] = Z3 at *
  generalize obS st i c [("span", .v (.int n)), ("twice", .ref st.length)] [.dct ((kvD ps).map fun p => (p.1, R.v p.2))] = Z2 at *
  generalize obS st i c [("span", .v (.int n))] [.dct ((kvD ps).map fun p => (p.1, R.v p.2))] = Z1 at *
  generalize obS st i c [("span", .v (.int n))] [] = Z0 at *
  generalize prsD ps = ds at *
  generalize (n : Int) = N at *
  simp [e1, v2, as1, e2, sf1, pl, dc, sf2, ln3, ap3, sf3, rg, lp]
theorem stR_map (n : Nat) (ps : List (Nat × Nat)) : stR ps n = (stD n ps).map R.v := by simp [stR, stD]
/-- an object made of data, frozen -/
theorem round_frz {n L i c : Nat} {ps : List (Nat × Nat)} {st : Store} (h0 : st[i]? = some (.obj c (roundR n L))) (h1 : st[L]? = some (.dct ((kvD ps).map fun p => (p.1, R.v p.2)))) (h2 : st[L + 1]? = some (.lst (stR ps n))) :
    frz (.ref i) st = .ok (roundD c n ps) (((st.set L (.fz (.dct (kvD ps)))).set (L + 1) (.fz (.lst (stD n ps)))).set i (.fz (roundD c n ps))) := by
  have ne1 : i ≠ L := fun z => by rw [z, h1] at h0; cases h0
  have ne2 : i ≠ L + 1 := fun z => by rw [z, h2] at h0; cases h0
  refine frz_obj (st1 := (st.set L (.fz (.dct (kvD ps)))).set (L + 1) (.fz (.lst (stD n ps)))) (fs := roundR n L) (ds := roundFs n ps) h0 ?_ ?_
  · have f1 := frzN_dct (n := L) 4 h1
    have h2' : (st.set L (.fz (.dct (kvD ps))))[L + 1]? = some (.lst ((stD n ps).map R.v)) := by
      rw [List.getElem?_set_ne (by omega), h2, stR_map]
    have f2 := frzN_lst (n := L + 1) 4 h2'
    simp only [roundR, frzFl_cons, frzFl_nil, frzN_v, Out.bind_ok, kFl_at, consF_at, roundFs, f1, f2]
  · rw [List.getElem?_set_ne (Ne.symm ne2), List.getElem?_set_ne (Ne.symm ne1), h0]; rfl
theorem cNew_round {F : List R → M R} {c : Nat} (h : RInitOk F c) {n : Nat} {ps : List (Nat × Nat)} (ok : Ok n ps) (st : Store) : cNew false c [.inl 0, .inl 1, .inl 2] F [.v (.int n), .v (.lst (prsD ps))] st = .ok (.v (roundD c n ps)) st := by
  have e := h n ps (.v (.lst (prsD ps))) [.obj c []] 0 ok (.inl rfl) rfl
  have z : obS [.obj c []] 0 c (roundR n 1) [.dct ((kvD ps).map fun p => (p.1, R.v p.2)), .lst (stR ps n)] = [.obj c (roundR n 1), .dct ((kvD ps).map fun p => (p.1, R.v p.2)), .lst (stR ps n)] := rfl
  have e' : F [.ref 0, .v (.int n), .v (.lst (prsD ps))] [.obj c []] = .ok (.v .non) [.obj c (roundR n 1), .dct ((kvD ps).map fun p => (p.1, R.v p.2)), .lst (stR ps n)] := e
  have f := round_frz (n := n) (L := 1) (i := 0) (c := c) (ps := ps) (st := [.obj c (roundR n 1), .dct ((kvD ps).map fun p => (p.1, R.v p.2)), .lst (stR ps n)]) rfl rfl rfl
  have ha : assem (.ref 0 :: [.v (.int n), .v (.lst (prsD ps))]) [.inl 0, .inl 1, .inl 2] = some [.ref 0, .v (.int n), .v (.lst (prsD ps))] := rfl
  have hv : ([R.v (.int n), R.v (.lst (prsD ps))].all fun r => (valOf r).isSome) = true := rfl
  simp only [cNew, newF, hv, Bool.not_false, Bool.and_self, if_true, ha, e', f]
/-! ### what it tells -/
@[simp] theorem rd_span (c n : Nat) (ps : List (Nat × Nat)) (st : Store) : cAttr "span" (.v (roundD c n ps)) st = .ok (.v (.int n)) st := id rfl
@[simp] theorem rd_twice (c n : Nat) (ps : List (Nat × Nat)) (st : Store) : cAttr "twice" (.v (roundD c n ps)) st = .ok (.v (.dct (kvD ps))) st := id rfl
@[simp] theorem rd_starts (c n : Nat) (ps : List (Nat × Nat)) (st : Store) : cAttr "starts" (.v (roundD c n ps)) st = .ok (.v (.lst (stD n ps))) st := id rfl
theorem mth_round {ct : Ctab} {nm : Str} {c f n : Nat} {ps : List (Nat × Nat)} (st : Store) (h : ct.mth c nm = some f) (hn : (roundFs n ps).lookup nm = none) : mthOf ct nm (.v (roundD c n ps)) st = .ok f st := by
  apply mthOf_v
  simp only [roundD, mthD, hn, h]; rfl
theorem ix_st {n : Nat} {ps : List (Nat × Nat)} {k : Nat} (h : k ≤ n) (st : Store) : index (.v (.lst (stD n ps))) (.v (.int (k : Int))) st = .ok (.v (.int (starts ps k : Nat))) st := ix_range _ _ k (by omega) st
def inAllFn : Fn := ⟨[.ret (.ix (.attr (.var 0) "starts") (.neg (.con (D.int 1))))], 1⟩
def InAllOk (F : List R → M R) (c : Nat) : Prop := ∀ (n : Nat) (ps : List (Nat × Nat)), Ret F [roundD c n ps] (.int (total n ps : Nat))
theorem inAll_ok {c : Nat} : InAllOk (denF g inAllFn) c := fun n ps => by
  apply ret_of (s1 := [])
  have l : L2.atI ((stD n ps).map R.v) (-1) = some (.v (.int (starts ps n : Nat))) := by
    rw [atI_neg1]; unfold stD; rw [List.range_succ, List.map_append, List.map_append]; simp
  have ix : ∀ s, index (.v (.lst (stD n ps))) (.v (.int (-1))) s = .ok (.v (.int (starts ps n : Nat))) s := fun s => by rw [index_lst, l]
  have a1 := fun s => rd_starts c n ps s
  unfold total
  generalize stD n ps = Q at *
  generalize roundD c n ps = O at *
  simp [denF, inAllFn, -index_lst, a1, ix]
def beginsFn : Fn := ⟨[.ret (.bin .add (.bin .mul (.bin .fdiv (.var 1) (.attr (.var 0) "span")) (.mth (.var 0) "in_all" [] [.inl 0])) (.ix (.attr (.var 0) "starts") (.bin .mod (.var 1) (.attr (.var 0) "span"))))], 2⟩
def BeginsOk (F : List R → M R) (c : Nat) : Prop := ∀ (n : Nat) (ps : List (Nat × Nat)) (y : Int), Ok n ps → y.natAbs < 2 ^ 100 → Ret F [roundD c n ps, .int y] (.int (begins n ps y))
theorem fdivN {a : Int} {n : Nat} (h : 0 < n) : a.fdiv (n : Int) = a / (n : Int) := by rw [Int.fdiv_eq_ediv_of_nonneg _ (by omega)]
theorem fmodN {a : Int} {n : Nat} (h : 0 < n) : a.fmod (n : Int) = a % (n : Int) := by rw [Int.fmod_eq_emod_of_nonneg _ (by omega)]
theorem begins_ok {ia c : Nat} (h : InAllOk (g.S ia) c) (hm : g.ct.mth c "in_all" = some ia) : BeginsOk (denF g beginsFn) c := fun n ps y ok hy => by
  apply ret_of (s1 := [])
  have n0 := ok.n0
  have n1 := ok.n1
  have a0 := fun s => rd_span c n ps s
  have a1 := fun s => rd_starts c n ps s
  have m1 := fun s => mth_round (ct := g.ct) (nm := "in_all") (c := c) (n := n) (ps := ps) s hm rfl
  have e1 := (h n ps).c1
  have ix := fun s => ix_st (n := n) (ps := ps) (k := yIn n y) (Nat.le_of_lt (yIn_lt n0 y)) s
  rw [yIn_cast n0] at ix
  have d1 : opB .fdiv (.int y) (.int (n : Int)) = some (.int (y / (n : Int))) := by
    rw [fdiv_sm y (by omega) (Nat.lt_of_lt_of_le (show _ < 2 ^ 10 by omega) (by decide)), fdivN n0]
  have d2 : opB .mod (.int y) (.int (n : Int)) = some (.int (y % (n : Int))) := by rw [opB_mod _ _ (by omega), fmodN n0]
  have tb : total n ps ≤ 13000 := by
    have : ∀ k, starts ps k ≤ 13 * k := fun k => by
      induction k with
      | zero => rw [starts_zero]; omega
      | succ k ih => rw [starts_succ ok.rise]; split <;> omega
    have := this n
    unfold total; omega
  have d3 : opB .mul (.int (y / (n : Int))) (.int (total n ps : Nat)) = some (.int (y / (n : Int) * (total n ps : Nat))) := by
    simp only [opB]
    rw [if_pos (.inr (.inr ⟨by omega, by omega⟩))]
  unfold begins
  generalize roundD c n ps = O at *
  generalize stD n ps = Q at *
  generalize ((total n ps : Nat) : Int) = T at *
  generalize ((starts ps (yIn n y) : Nat) : Int) = T2 at *
  simp [denF, beginsFn, -index_lst, a0, a1, m1, e1, d1, d2, d3, ix]
/-! ### months -/
def moD (p : Nat × Bool) : D := .tup [.int (p.1 : Int), .bl p.2]
def monsD (o : Option Nat) : List D := (mons o).map moD
def twD : Option Nat → D
  | none => .non
  | some m => .int (m : Int)
theorem deq_mo (a b : Nat × Bool) : deqB (moD a) (moD b) = decide (a = b) := by
  obtain ⟨a1, a2⟩ := a
  obtain ⟨b1, b2⟩ := b
  simp only [moD, deqB_tup, deqBs_cons, deqB_int, deqB_bl, deqBs_nil, Bool.and_true]
  rw [Bool.eq_iff_iff]
  simp
  omega
theorem ok_mo (p : Nat × Bool) (n : Nat) : okD (n + 1) (moD p) = true := by simp [moD]
theorem ok_mons (o : Option Nat) : okD 64 (.lst (monsD o)) = true := by
  rw [okD_lst]
  exact okDs_all fun x hx => by
    obtain ⟨p, _, rfl⟩ := List.mem_map.mp hx
    exact ok_mo p 62
theorem eq_tw (k : Int) (o : Option Nat) : opC .eq (.int k) (twD o) = some (decide (o.map (fun (m : Nat) => (m : Int)) = some k)) := by
  cases o with
  | none => rw [twD, opC_eqD (by simp) (by simp)]; simp [deqB]
  | some m =>
    rw [twD, opC_eqI]
    congr 1
    rw [Bool.eq_iff_iff]
    simp
    omega
def monthsFn : Fn := ⟨[.asg 2 (.dget (.attr (.var 0) "twice") (.bin .mod (.var 1) (.attr (.var 0) "span")) none), .asg 3 (.tup [(.con (D.bl false)), (.con (D.bl true))]), .ret (.lc2 false (.tup [(.var 4), (.var 5)]) (.one 4) (.rng2 (.con (D.int 1)) (.bin .add (.con (D.int 12)) (.con (D.int 1)))) none (.one 5) (.over (.var 3)) (some (.or (.not (.var 5)) (.cmp .eq (.var 4) (.var 2)))) [4, 5])], 6⟩
def MonthsOk (F : List R → M R) (c : Nat) : Prop := ∀ (n : Nat) (ps : List (Nat × Nat)) (y : Int), Ok n ps → y.natAbs < 2 ^ 100 → Ret F [roundD c n ps, .int y] (.lst (monsD (tw ps (yIn n y))))
theorem months_lc (o : Option Nat) (o0 o1 o3 : Option R) (st : Store) :
    kLc2 g false (.tup [(.var 4), (.var 5)]) (.one 4) none (.one 5) (.over (.var 3)) (some (.or (.not (.var 5)) (.cmp .eq (.var 4) (.var 2)))) [o0, o1, some (.v (twD o)), some (.v (.tup [.bl false, .bl true])), none, none] ((List.range 12).map fun (k : Nat) => R.v (.int (1 + (k : Int)))) st = .ok (.v (.lst (monsD o))) st := by
  rw [kLc2_flat g _ st (h := fun k => moD (k + 1, false) :: if o = some (k + 1) then [moD (k + 1, true)] else []) (by simp) (fun k hk => ?_)]
  · congr 4
    unfold monsD mons
    rw [List.map_flatMap]
    congr 1
    funext k
    split <;> rfl
  · have e := eq_tw (1 + (k : Int)) o
    have z : decide (o.map (fun (m : Nat) => (m : Int)) = some (1 + (k : Int))) = decide (o = some (k + 1)) := by
      rw [Bool.eq_iff_iff, decide_eq_true_eq, decide_eq_true_eq]
      cases o with
      | none => simp
      | some m => simp; omega
    rw [z] at e
    have kk : (1 : Int) + (k : Int) = ((k + 1 : Nat) : Int) := by omega
    rw [kk] at e ⊢
    have md : ∀ b, moD (k + 1, b) = .tup [.int ((k + 1 : Nat) : Int), .bl b] := fun _ => rfl
    simp only [md]
    generalize twD o = T at *
    generalize ((k + 1 : Nat) : Int) = kk at *
    by_cases h : o = some (k + 1)
    · simp only [h, decide_true] at e
      simp [lc2F_at, lc2C_ok, lcF_at, Tg.slots, e, h]
    · simp only [h, decide_false] at e
      simp [lc2F_at, lc2C_ok, lcF_at, Tg.slots, e, h]
theorem months_ok {c : Nat} : MonthsOk (denF g monthsFn) c := fun n ps y ok hy => by
  apply ret_of (s1 := [])
  have n0 := ok.n0
  have n1 := ok.n1
  have a0 := fun s => rd_span c n ps s
  have a1 := fun s => rd_twice c n ps s
  have d2 : opB .mod (.int y) (.int (n : Int)) = some (.int (y % (n : Int))) := by rw [opB_mod _ _ (by omega), fmodN n0]
  have dg := fun s => cDg3_v (z := .v .non) (kvs := kvD ps) (d := .int (y % (n : Int))) s rfl
  rw [← yIn_cast n0] at d2 dg
  rw [dAt_kv] at dg
  have tv : ((Option.map (fun (m : Nat) => D.int (m : Int)) (tw ps (yIn n y))).map R.v).getD (.v .non) = .v (twD (tw ps (yIn n y))) := by cases tw ps (yIn n y) <;> rfl
  rw [tv] at dg
  have de : ∀ s, dEnt (.v (.dct (kvD ps))) s = .ok ((kvD ps).map fun p => (p.1, R.v p.2)) s := fun _ => rfl
  have lc := fun o1 s => months_lc (g := g) (tw ps (yIn n y)) (some (.v (roundD c n ps))) o1 none s
  have lc := fun (o0 o1 o3 : Option R) (s : Store) => months_lc (g := g) (tw ps (yIn n y)) o0 o1 o3 s
  have rg : ∀ s, itRng 1 13 s = .ok ((List.range 12).map fun (k : Nat) => R.v (.int (1 + (k : Int)))) s := fun s => by
    rw [itRng_ok 1 13 (by decide) (by decide) (by decide) (by decide)]; rfl
  generalize tw ps (yIn n y) = o at *
  generalize ((yIn n y : Nat) : Int) = Y at *
  generalize roundD c n ps = O at *
  generalize kvD ps = K at *
  generalize monsD o = L at *
  generalize twD o = T at *
  generalize ((List.range 12).map fun (k : Nat) => R.v (.int (1 + (k : Int)))) = RL at *
  simp [denF, monthsFn, a0, a1, d2, de, dg, rg, lc]
def numberFn (iw mo be e : Nat) : Fn := ⟨[.ite (.or (.not (.call iw [(.var 1)] [.inl 0])) (.or (.not (.call iw [(.var 2)] [.inl 0])) (.not (.isi (.var 3) [.inr "bool"])))) [.rse e [] []] [], .asg 4 (.mth (.var 0) "months_of" [(.var 1)] [.inl 0, .inl 1]), .ite (.cmp .nin (.tup [(.var 2), (.var 3)]) (.var 4)) [.rse e [] []] [], .ret (.bin .add (.mth (.var 0) "begins" [(.var 1)] [.inl 0, .inl 1]) (.lsm .index (.var 4) (.tup [(.var 2), (.var 3)])))], 5⟩
def NumberOk (F : List R → M R) (c : Nat) : Prop := ∀ (n : Nat) (ps : List (Nat × Nat)) (y : Int) (i m : Nat) (b : Bool), Ok n ps → y.natAbs < 2 ^ 100 → (monsAt n ps y)[i]? = some (m, b) → Ret F [roundD c n ps, .int y, .int m, .bl b] (.int (begins n ps y + i))
theorem tw_dom {n : Nat} {ps : List (Nat × Nat)} (ok : Ok n ps) (k m : Nat) (h : tw ps k = some m) : 1 ≤ m ∧ m ≤ 12 := tw_mo ok h
theorem mo_in {o : Option Nat} {i : Nat} {p : Nat × Bool} (h : (mons o)[i]? = some p) : opC .nin (moD p) (.lst (monsD o)) = some false := by
  rw [nin_okD rfl (ok_mons o) (ok_mo p 63)]
  congr 1
  rw [Bool.not_eq_false', List.any_eq_true]
  exact ⟨moD p, List.mem_map.mpr ⟨p, List.mem_of_getElem? h, rfl⟩, by rw [deq_mo]; simp⟩
theorem number_ok {iw mo be e c : Nat} (h0 : IsWholeOk (g.S iw)) (h1 : MonthsOk (g.S mo) c) (h2 : BeginsOk (g.S be) c) (m1 : g.ct.mth c "months_of" = some mo) (m2 : g.ct.mth c "begins" = some be) : NumberOk (denF g (numberFn iw mo be e)) c := fun n ps y i m b ok hy hi => by
  apply ret_of (s1 := [])
  have w1 := (h0 y).c1
  have w2 := (h0 (m : Int)).c1
  have r1 := (h1 n ps y ok hy).c2
  have r2 := (h2 n ps y ok hy).c2
  have q1 := fun s => mth_round (ct := g.ct) (nm := "months_of") (c := c) (n := n) (ps := ps) s m1 rfl
  have q2 := fun s => mth_round (ct := g.ct) (nm := "begins") (c := c) (n := n) (ps := ps) s m2 rfl
  unfold monsAt at hi
  have nn := mo_in hi
  have ix := fun s => cLs3_indexB (a := moD (m, b)) (xs := monsD (tw ps (yIn n y))) (ok_mons _) (ok_mo _ _) (idxB_map deq_mo (mons_nodup _ fun z hz => tw_mo ok hz) hi) s
  have md : D.tup [.int (m : Int), .bl b] = moD (m, b) := rfl
  generalize moD (m, b) = P at *
  generalize monsD (tw ps (yIn n y)) = L at *
  generalize roundD c n ps = O at *
  generalize begins n ps y = B at *
  generalize (m : Int) = M at *
  generalize (i : Int) = I at *
  simp [denF, numberFn, w1, w2, q1, r1, md, nn, q2, r2, ix]
def monthAtFn : Fn := ⟨[.asg 2 (.bin .mod (.var 1) (.mth (.var 0) "in_all" [] [.inl 0])), .asg 3 (.blt .maxL [(.lc false (.var 4) (.one 4) (.rng (.attr (.var 0) "span")) (some (.cmp .le (.ix (.attr (.var 0) "starts") (.var 4)) (.var 2))) [4])]), .asg 4 (.bin .add (.bin .mul (.bin .fdiv (.var 1) (.mth (.var 0) "in_all" [] [.inl 0])) (.attr (.var 0) "span")) (.var 3)), .unp [5, 6] (.ix (.mth (.var 0) "months_of" [(.var 4)] [.inl 0, .inl 1]) (.bin .sub (.var 2) (.ix (.attr (.var 0) "starts") (.var 3)))), .ret (.tup [(.var 4), (.var 5), (.var 6)])], 7⟩
structure AtM (n : Nat) (ps : List (Nat × Nat)) (x y : Int) (i m : Nat) (b : Bool) : Prop where
  a : At n ps x y i
  g : (monsAt n ps y)[i]? = some (m, b)
  s : y.natAbs ≤ x.natAbs + 2000
theorem AtM.uniq {n : Nat} {ps : List (Nat × Nat)} (ok : Ok n ps) {x y y' : Int} {i i' m m' : Nat} {b b' : Bool} (h : AtM n ps x y i m b) (h' : At n ps x y' i') (e : (monsAt n ps y')[i']? = some (m', b')) : y = y' ∧ i = i' ∧ m = m' ∧ b = b' := by
  obtain ⟨rfl, rfl⟩ := at_uniq ok h.a h'
  have := h.g.symm.trans e
  simp only [Option.some.injEq, Prod.mk.injEq] at this
  exact ⟨rfl, rfl, this.1, this.2⟩
def MonthAtOk (F : List R → M R) (c : Nat) : Prop := ∀ (n : Nat) (ps : List (Nat × Nat)) (x : Int), Ok n ps → x.natAbs < 2 ^ 90 → ∃ (y : Int) (i m : Nat) (b : Bool), AtM n ps x y i m b ∧ Ret F [roundD c n ps, .int x] (.tup [.int y, .int m, .bl b])
theorem total_bd {n : Nat} {ps : List (Nat × Nat)} (ok : Ok n ps) : total n ps ≤ 13000 := by
  have : ∀ k, starts ps k ≤ 13 * k := fun k => by
    induction k with
    | zero => rw [starts_zero]; omega
    | succ k ih => rw [starts_succ ok.rise]; split <;> omega
  have := this n
  have := ok.n1
  unfold total; omega
theorem year_bd {n : Nat} {ps : List (Nat × Nat)} (ok : Ok n ps) (x : Int) {p : Nat} (hp : p < n) : (x / total n ps * n + p).natAbs ≤ x.natAbs + 2000 := by
  have t0 := total_pos ok
  have te := total_eq ok
  have n1 := ok.n1
  have e := Int.mul_ediv_add_emod x (total n ps)
  have l := Int.emod_lt_of_pos x (show (0 : Int) < total n ps by omega)
  have l0 := Int.emod_nonneg x (show (total n ps : Int) ≠ 0 by omega)
  generalize x / (total n ps : Int) = q at *
  generalize x % (total n ps : Int) = r at *
  have ez : (total n ps : Int) * q = 12 * (q * n) + q * ps.length := by
    rw [te, Int.natCast_add, Int.natCast_mul, Int.add_mul, Int.mul_comm (ps.length : Int) q, Int.mul_assoc, Int.mul_comm (n : Int) q]; rfl
  rw [ez] at e
  have cl : (ps.length : Int) ≤ n := by
    have : ∀ (l : List (Nat × Nat)) (a : Nat), l.Pairwise (fun p q => p.1 < q.1) → (∀ p ∈ l, a ≤ p.1 ∧ p.1 < n) → l.length ≤ n - a := by
      intro l
      induction l with
      | nil => intro a _ _; simp
      | cons p l ih =>
        intro a hp hb
        rw [List.pairwise_cons] at hp
        have b := hb p (by simp)
        have := ih (p.1 + 1) hp.2 fun q hq => ⟨by have := hp.1 q hq; omega, (hb q (by simp [hq])).2⟩
        simp; omega
    have := this ps 0 ok.rise fun p hp => ⟨Nat.zero_le _, ok.yr p hp⟩
    omega
  rw [te] at l
  by_cases h : 0 ≤ q
  · have a := Int.mul_nonneg h (show (0 : Int) ≤ ps.length by omega)
    have b := Int.mul_nonneg h (show (0 : Int) ≤ n by omega)
    generalize q * (n : Int) = A at *
    generalize q * (ps.length : Int) = B at *
    omega
  · have a : (q + 1) * (ps.length : Int) ≤ 0 := Int.mul_nonpos_of_nonpos_of_nonneg (by omega) (by omega)
    have b : (q + 1) * (n : Int) ≤ 0 := Int.mul_nonpos_of_nonpos_of_nonneg (by omega) (by omega)
    rw [Int.add_mul, Int.one_mul] at a b
    generalize q * (n : Int) = A at *
    generalize q * (ps.length : Int) = B at *
    omega
theorem maxI_rangeC (m : Nat) : opF .maxL [.lst ((List.range (m + 1)).map fun (k : Nat) => D.int (k : Int))] = some (.int (m : Int)) := by
  have := max_range (m + 1) (by omega)
  rw [this]
  congr 2
  omega
theorem at_lc {c n : Nat} {ps : List (Nat × Nat)} (n1 : n ≤ 1000) (rest : Nat) (o1 o3 o5 o6 : Option R) (st : Store) :
    kLc g false (.var 4) (.one 4) (some (.cmp .le (.ix (.attr (.var 0) "starts") (.var 4)) (.var 2))) [some (.v (roundD c n ps)), o1, some (.v (.int (rest : Int))), o3, none, o5, o6] ((List.range n).map fun (k : Nat) => R.v (.int (k : Int))) st = .ok (.v (.lst (((List.range n).filter fun r => decide (starts ps r ≤ rest)).map fun (k : Nat) => D.int (k : Int)))) st := by
  rw [kLc_fm (h := fun k => if decide (starts ps k ≤ rest) = true then some (.int (k : Int)) else none) _ _ _ (by simp; omega) (fun k hk => ?_), filterMap_if]
  have hk := List.mem_range.mp hk
  have ix := fun s => ix_st (n := n) (ps := ps) (k := k) (by omega) s
  have a1 := fun s => rd_starts c n ps s
  generalize roundD c n ps = O at *
  generalize stD n ps = Q at *
  by_cases h : starts ps k ≤ rest
  · have h' : ((starts ps k : Nat) : Int) ≤ (rest : Int) := by omega
    generalize ((starts ps k : Nat) : Int) = X at *
    simp [lcF_at, -index_lst, a1, ix, h, h']
  · have h' : ¬ ((starts ps k : Nat) : Int) ≤ (rest : Int) := by omega
    generalize ((starts ps k : Nat) : Int) = X at *
    simp [lcF_at, -index_lst, a1, ix, h, h']
theorem monthAt_ok {ia mo c : Nat} (h1 : InAllOk (g.S ia) c) (h2 : MonthsOk (g.S mo) c) (m1 : g.ct.mth c "in_all" = some ia) (m2 : g.ct.mth c "months_of" = some mo) : MonthAtOk (denF g monthAtFn) c := fun n ps x ok hx => by
  have n0 := ok.n0
  have n1 := ok.n1
  have t0 := total_pos ok
  have tb := total_bd ok
  have r0 := Int.emod_nonneg x (show (total n ps : Int) ≠ 0 by omega)
  have r1 := Int.emod_lt_of_pos x (show (0 : Int) < total n ps by omega)
  obtain ⟨rest, hrest⟩ : ∃ rest : Nat, (rest : Int) = x % total n ps := ⟨(x % total n ps).toNat, by omega⟩
  obtain ⟨p, hp, p1, p2, pf⟩ := place_ok ok (rest := rest) (by omega)
  have A := MO.at_of ok x hp (by omega) (by omega)
  have si : (x % total n ps - starts ps p).toNat = rest - starts ps p := by omega
  rw [si] at A
  have yb := year_bd ok x hp
  have yj := (begins_join (ps := ps) n0 (x / total n ps) hp).2
  obtain ⟨⟨m, b⟩, hm⟩ : ∃ q, (monsAt n ps (x / total n ps * n + p))[rest - starts ps p]? = some q := ⟨_, List.getElem?_eq_getElem A.2⟩
  refine ⟨x / total n ps * n + p, rest - starts ps p, m, b, ⟨A, hm, yb⟩, ?_⟩
  apply ret_of (s1 := [])
  have d1 : opB .mod (.int x) (.int (total n ps : Nat)) = some (.int (rest : Int)) := by rw [opB_mod _ _ (by omega), fmodN t0, hrest]
  have d2 : opB .fdiv (.int x) (.int (total n ps : Nat)) = some (.int (x / (total n ps : Nat))) := by
    rw [fdiv_sm x (by omega) (Nat.lt_of_lt_of_le (show _ < 2 ^ 14 by omega) (by decide)), fdivN t0]
  have d3 : opB .mul (.int (x / (total n ps : Nat))) (.int (n : Nat)) = some (.int (x / (total n ps : Nat) * (n : Nat))) := by
    simp only [opB]
    rw [if_pos (.inr (.inr ⟨by omega, by omega⟩))]
  have q1 := fun s => mth_round (ct := g.ct) (nm := "in_all") (c := c) (n := n) (ps := ps) s m1 rfl
  have q2 := fun s => mth_round (ct := g.ct) (nm := "months_of") (c := c) (n := n) (ps := ps) s m2 rfl
  have e1 := (h1 n ps).c1
  have e2 := (h2 n ps (x / total n ps * n + p) ok (Nat.lt_of_le_of_lt yb (by
    have : (2 : Nat) ^ 90 + 2000 < 2 ^ 100 := by decide
    omega))).c2
  have ix := fun s => ix_st (n := n) (ps := ps) (k := p) (Nat.le_of_lt hp) s
  have a0 := fun s => rd_span c n ps s
  have a1 := fun s => rd_starts c n ps s
  have lc := fun (o1 o3 o5 o6 : Option R) (s : Store) => at_lc (g := g) (c := c) (ps := ps) n1 rest o1 o3 o5 o6 s
  rw [pf] at lc
  have mx := maxI_rangeC p
  have rg := fun s => rng0_ok s n (by omega)
  have sb : (rest : Int) - ((starts ps p : Nat) : Int) = ((rest - starts ps p : Nat) : Int) := by omega
  have im : ∀ s, index (.v (.lst (monsD (tw ps (yIn n (x / total n ps * n + p)))))) (.v (.int ((rest - starts ps p : Nat) : Int))) s = .ok (.v (moD (m, b))) s := fun s => by
    unfold monsAt at hm
    rw [index_lst, atI_natCast, monsD, List.getElem?_map, List.getElem?_map, hm]; rfl
  have it : ∀ s, items (.v (moD (m, b))) s = .ok [.v (.int (m : Int)), .v (.bl b)] s := fun _ => rfl
  generalize monsD (tw ps (yIn n (x / total n ps * n + p))) = L at *
  generalize moD (m, b) = P at *
  generalize roundD c n ps = O at *
  generalize stD n ps = Q at *
  generalize ((rest - starts ps p : Nat) : Int) = I at *
  generalize ((starts ps p : Nat) : Int) = SP at *
  generalize x / ((total n ps : Nat) : Int) = X at *
  generalize ((total n ps : Nat) : Int) = T at *
  generalize (p : Int) = PP at *
  generalize (m : Int) = MM at *
  generalize ((List.range n).map fun (k : Nat) => R.v (.int (k : Int))) = RL at *
  generalize ((List.range (p + 1)).map fun (k : Nat) => D.int (k : Int)) = RL2 at *
  simp [denF, monthAtFn, -index_lst, q1, e1, d1, a0, rg, lc, mx, d2, d3, q2, e2, a1, ix, sb, im, it]
end
end SV

set_option maxRecDepth 100000
set_option maxHeartbeats 4000000
/-! SvXg: the frame of laws that go through cells, one at least -/
namespace SV
open PySem PySem.Spec PyProof.Rows
open L2 hiding It
theorem opB_addLs (xs ys : List D) (h : xs.length + ys.length ≤ 100000) : opB .add (.lst xs) (.lst ys) = some (.lst (xs ++ ys)) := by
  simp only [opB]
  rw [if_pos (Nat.le_trans h (by decide))]
theorem law_frame3 {g : Sg} {N n ca : Nat} {outer : List Sm} {fn : Fn} (hc : CellAtOk (g.S ca))
    (hb : fn.body = [.frr (.one 1) (.over (.bin .add (.lst false [(.call ca [(.var 0), (.con (D.int 0))] [.inl 0, .inl 1])]) (.sl (.var 0) (some (.con (D.int 1))) (some (.con (D.int N)))))) outer, .ret (.con (D.bl true))])
    (hn : fn.n = n + 2) (h : ∀ (c : Int) (o0 : Option R) (os : List (Option R)) (st : Store), os.length = n → Goes (denSs g outer (o0 :: some (.v (.int c)) :: os) st) fun ρ _ => ρ.length = n + 2) (ns : List Int) (hl : ns.length ≤ 63) :
    ∃ st, denF g fn [.v (.lst (ns.map D.int))] [] = .ok (.v (.bl true)) st := by
  obtain ⟨c0, hc⟩ := hc ns
  have hc := hc.c2
  obtain ⟨cs, hcs, hlen⟩ : ∃ cs : List Int, cutR (ns.map D.int) (some 1) (some (N : Int)) = cs.map D.int ∧ cs.length ≤ 63 := by
    refine ⟨(ns.drop (HT.sIx (ns.map D.int).length 0 (some 1))).take (HT.sIx (ns.map D.int).length (ns.map D.int).length (some (N : Int)) - HT.sIx (ns.map D.int).length 0 (some 1)), by unfold cutR; rw [List.map_take, List.map_drop], ?_⟩
    rw [List.length_take, List.length_drop]
    omega
  obtain ⟨ρ', st', e, l⟩ := goes_FR (g := g) (tg := .one 1) (body := outer) (fun _ ρ _ => ρ.length = n + 2) ((c0 :: cs).map fun c => R.v (.int c)) 0 (some (.v (.lst (ns.map D.int))) :: none :: List.replicate n none) [] (by simp) (fun j v ρ st hv hI => by
    obtain ⟨c, rfl⟩ : ∃ c : Int, v = .v (.int c) := by
      rw [List.getElem?_map] at hv
      cases q : (c0 :: cs)[j]? with
      | none => rw [q] at hv; cases hv
      | some c => rw [q] at hv; cases hv; exact ⟨c, rfl⟩
    match ρ, hI with
    | o0 :: o1 :: os, hI =>
      exact ⟨_, st, rfl, h c o0 os st (by simpa using hI)⟩)
  have cat : opB .add (.lst [.int c0]) (.lst (cs.map D.int)) = some (.lst ((c0 :: cs).map D.int)) := opB_addLs _ _ (by simp; omega)
  have it : ∀ s, itOver (.v (.lst ((c0 :: cs).map D.int))) s = .ok ((c0 :: cs).map fun c => R.v (.int c)) s := fun s => by
    show Out.ok (((c0 :: cs).map D.int).map R.v) s = _
    rw [List.map_map]; rfl
  refine ⟨st', ?_⟩
  unfold denF
  rw [hb, hn]
  simp only [List.map_cons, List.map_nil, List.length_cons, List.length_nil]
  rw [show n + 2 - (0 + 1) = n + 1 by omega, List.replicate_succ]
  generalize (c0 :: cs).map D.int = xs at *
  generalize (c0 :: cs).map (fun c => R.v (D.int c)) = ys at *
  generalize ns.map D.int = zs at *
  simp [hc, hcs, cat, it, e]
end SV

set_option maxRecDepth 100000
set_option maxHeartbeats 4000000
/-! SvMb: the law's drawn round -/
namespace SV
open PySem PySem.Spec PyProof.Rows MO
open L2 hiding It
section
variable {g : Sg}
theorem pairs_of : ∀ (os : List (Option D)) (a : Nat), (∀ j o, os[j]? = some o → o = none ∨ ∃ m, 1 ≤ m ∧ m ≤ 12 ∧ o = some (prD (a + j, m))) → ∃ ps : List (Nat × Nat), os.filterMap id = prsD ps ∧ ps.Pairwise (fun p q => p.1 < q.1) ∧ ∀ p ∈ ps, a ≤ p.1 ∧ p.1 < a + os.length ∧ 1 ≤ p.2 ∧ p.2 ≤ 12
  | [], a, _ => ⟨[], rfl, .nil, by simp⟩
  | o :: os, a, h => by
    obtain ⟨ps, e, r, b⟩ := pairs_of os (a + 1) fun j o z => by
      have := h (j + 1) o (by simpa using z)
      rwa [show a + (j + 1) = a + 1 + j by omega] at this
    rcases h 0 o rfl with rfl | ⟨m, m1, m2, rfl⟩
    · exact ⟨ps, by simpa using e, r, fun p hp => by have := b p hp; simp; omega⟩
    · refine ⟨(a, m) :: ps, by rw [List.filterMap_cons, e]; rfl, ?_, fun p hp => ?_⟩
      · rw [List.pairwise_cons]
        exact ⟨fun p hp => by have := b p hp; simp; omega, r⟩
      · rcases List.mem_cons.mp hp with rfl | hp
        · simp; omega
        · have := b p hp; simp; omega
def drawnRFn (dr : Nat) : Fn := ⟨[.asg 2 (.bin .add (.con (D.int 1)) (.call dr [(.var 0), (.var 1)] [.inl 0, .inl 1])), .asg 3 (.bin .add (.con (D.int 1)) (.call dr [(.var 0), (.con (D.int 5))] [.inl 0, .inl 1])), .asg 4 (.lc false (.tup [(.var 5), (.bin .add (.con (D.int 1)) (.call dr [(.var 0), (.con (D.int 12))] [.inl 0, .inl 1]))]) (.one 5) (.rng (.var 2)) (some (.cmp .eq (.call dr [(.var 0), (.var 3)] [.inl 0, .inl 1]) (.con (D.int 0)))) [5]), .ret (.tup [(.var 2), (.var 4)])], 6⟩
def DrawnROk (F : List R → M R) : Prop := ∀ (w K : Nat) (st : Store) (top : Nat), Wl w K st → K + 3000 < 1000000 → 1 ≤ top → top ≤ 1000 → ∃ (n : Nat) (ps : List (Nat × Nat)) (st' : Store), n ≤ top ∧ Ok n ps ∧ F [.ref w, .v (.int top)] st = .ok (.v (.tup [.int n, .lst (prsD ps)])) st' ∧ Wl w (K + 3000) st' ∧ Only w st st'
theorem drawnR_ok {dr : Nat} (h : DrawOk (g.S dr)) : DrawnROk (denF g (drawnRFn dr)) := fun w K st top hw hK t1 t2 => by
  obtain ⟨x, st1, x0, x1, e1, w1, o1⟩ := h w K st top hw (by omega) (by omega) (by
    have : (1000 : Int) < 2 ^ 200 := by decide
    omega)
  obtain ⟨y, st2, y0, y1, e2, w2, o2⟩ := h w (K + 1) st1 5 w1 (by omega) (by decide) (by decide)
  obtain ⟨n, hn⟩ : ∃ n : Nat, (n : Int) = 1 + x := ⟨(1 + x).toNat, by omega⟩
  obtain ⟨os, st3, ol, op, e3, w3, o3⟩ := kLc_inv g [some (.ref w), some (.v (.int top)), some (.v (.int n)), some (.v (.int (1 + y))), none, none] st2 (elt := .tup [(.var 5), (.bin .add (.con (D.int 1)) (.call dr [(.var 0), (.con (D.int 12))] [.inl 0, .inl 1]))]) (tg := .one 5) (cond := some (.cmp .eq (.call dr [(.var 0), (.var 3)] [.inl 0, .inl 1]) (.con (D.int 0)))) (xs := (List.range n).map fun (k : Nat) => R.v (.int (k : Int)))
    (fun j s => Wl w (K + 2 + 2 * j) s ∧ Only w st2 s) (fun j o => o = none ∨ ∃ m, 1 ≤ m ∧ m ≤ 12 ∧ o = some (prD (j, m))) (by simp; omega) ⟨w2, Only.refl _ _⟩ (by
      rintro j v s hv ⟨wj, oj⟩
      have hj : j < n := by
        have := (List.getElem?_eq_some_iff.mp hv).1
        simpa using this
      have hv' : v = .v (.int (j : Int)) := by
        rw [List.getElem?_map, List.getElem?_range hj] at hv
        simpa using hv.symm
      subst hv'
      obtain ⟨z, s1, z0, z1, f1, ws, os1⟩ := h w (K + 2 + 2 * j) s (1 + y) wj (by omega) (by omega) (by
        have : (10 : Int) < 2 ^ 200 := by decide
        omega)
      by_cases hz : z = 0
      · obtain ⟨m, s2, m0, m1, f2, ws2, os2⟩ := h w (K + 2 + 2 * j + 1) s1 12 ws (by omega) (by decide) (by decide)
        obtain ⟨mm, hmm⟩ : ∃ mm : Nat, (mm : Int) = 1 + m := ⟨(1 + m).toNat, by omega⟩
        refine ⟨some (prD (j, mm)), s2, ?_, .inr ⟨mm, by omega, by omega, rfl⟩, by rw [show K + 2 + 2 * (j + 1) = K + 2 + 2 * j + 1 + 1 by omega]; exact ws2, (oj.trans os1).trans os2⟩
        have pd : prD (j, mm) = .tup [.int (j : Int), .int (1 + m)] := by rw [prD, hmm]
        rw [pd]
        generalize (j : Int) = J at *
        simp [lcF_at, f1, hz, f2]
      · refine ⟨none, s1, ?_, .inl rfl, by
          obtain ⟨a, b, c, k1, k2, k3, k4, k5, k6⟩ := ws
          exact ⟨a, b, c, k1, k2, k3, k4, k5, by omega⟩, oj.trans os1⟩
        generalize (j : Int) = J at *
        simp [lcF_at, f1, hz])
  rw [List.length_map, List.length_range] at w3
  have ol' : os.length = n := by rw [ol]; simp
  obtain ⟨ps, pe, pr, pb⟩ := pairs_of os 0 fun j o z => by simpa using op j o z
  refine ⟨n, ps, st3, by omega, ⟨by omega, by omega, pr, fun p hp => by have := pb p hp; omega, fun p hp => (pb p hp).2.2⟩, ?_, ?_, (o1.trans o2).trans o3⟩
  · rw [pe] at e3
    have rg := fun s => rng0_ok s n (by omega)
    have ez : (1 : Int) + x = (n : Int) := hn.symm
    generalize prsD ps = L at *
    generalize (n : Int) = N at *
    generalize ((List.range n).map fun (k : Nat) => R.v (.int (k : Int))) = RL at *
    simp [denF, drawnRFn, e1, e2, ez, rg, e3]
  · obtain ⟨a, b, c, k1, k2, k3, k4, k5, k6⟩ := w3
    exact ⟨a, b, c, k1, k2, k3, k4, k5, by omega⟩
end
end SV

set_option maxRecDepth 100000
set_option maxHeartbeats 0
namespace K63
open PySem PySem.Spec PyProof.Rows SV
open L2 hiding It
abbrev pw : Program := PySem.Challenge.pw_tabletsky_k63_whole_months_one_behind_an
def top (i : Nat) : Stmt := pw.main.body.getD i (.Pass ⟨0, 0, 0, 0⟩)
def mtop (i j : Nat) : Stmt := match top i with | .ClassDef _ _ _ b _ _ _ _ _ _ _ => b.getD j (.Pass ⟨0, 0, 0, 0⟩) | _ => .Pass ⟨0, 0, 0, 0⟩
def mths : List ((Nat × Str) × Nat) := [((0, "__init__"), 5), ((0, "begins"), 6), ((0, "in_all"), 7), ((0, "month_at"), 12), ((0, "months_of"), 13), ((0, "number_of"), 14)]
def ct : Ctab := ⟨fun i j => [(0, 0), (100, 100), (100, 101), (101, 101), (102, 101), (102, 102)].contains (i, j), fun i T => ([] : List (Nat × String)).contains (i, T), fun c nm => mths.lookup (c, nm)⟩
/-- law: 0 _law_script, 1 _law_cell, 2 _law_well_here, 3 _law_cycle, 4 _law_turn, 5 _law_span, 6 _law_pairs_in -/
def f0 : Fn := ⟨[.frr (.one 1) (.over (.bin .add (.lst false [(.call 1 [(.var 0), (.con (D.int 0))] [.inl 0, .inl 1])]) (.sl (.var 0) (some (.con (D.int 1))) (some (.con (D.int 8)))))) [.asg 2 (.callT 2 [(.var 1)] [.inl 0]), .unp [5, 6] (.call 3 [(.var 2), (.call 4 [(.var 2), (.lst false [(.con (D.int 1)), (.con (D.int 8)), (.con (D.int 19)), (.con (D.int 300)), (.con (D.int 1000))])] [.inl 0, .inl 1])] [.inl 0, .inl 1]), .asg 3 (.new false 0 5 [(.var 5), (.var 6)] [.inl 0, .inl 1, .inl 2]), .ite (.or (.cmp .ne (.mth (.var 3) "begins" [(.con (D.int 0))] [.inl 0, .inl 1]) (.con (D.int 0))) (.cmp .ne (.mth (.var 3) "begins" [(.var 5)] [.inl 0, .inl 1]) (.mth (.var 3) "in_all" [] [.inl 0]))) [.ret (.con (D.bl false))] [], .frr (.one 4) (.rng (.con (D.int 6))) [.ite (.not (.call 8 [(.var 2), (.var 3), (.var 5)] [.inl 0, .inl 1, .inl 2])) [.ret (.con (D.bl false))] []]], .ret (.con (D.bl true))], 7⟩
/-- _law_cell_at: 0 _law_script, 1 _law_k -/
def f1 : Fn := ⟨[.ite (.cmp .lt (.var 1) (.blt .len [(.var 0)])) [.ret (.ix (.var 0) (.var 1))] [], .ret (.con (D.int 0))], 2⟩
/-- _law_well: 0 _law_cell -/
def f2 : Fn := ⟨[.ret (.lst true [(.bin .mul (.var 0) (.blt .int [(.cmp .ge (.var 0) (.bin .pow (.con (D.int 10)) (.con (D.int 18))))])), (.bin .mod (.var 0) (.con (D.int 2147483629))), (.con (D.int 0))])], 1⟩
/-- _law_drawn_round: 0 _law_well_here, 1 _law_top, 2 _law_span, 3 _law_share, 4 _law_pairs_in, 5 _law_year -/
def f3 : Fn := ⟨[.asg 2 (.bin .add (.con (D.int 1)) (.call 9 [(.var 0), (.var 1)] [.inl 0, .inl 1])), .asg 3 (.bin .add (.con (D.int 1)) (.call 9 [(.var 0), (.con (D.int 5))] [.inl 0, .inl 1])), .asg 4 (.lc false (.tup [(.var 5), (.bin .add (.con (D.int 1)) (.call 9 [(.var 0), (.con (D.int 12))] [.inl 0, .inl 1]))]) (.one 5) (.rng (.var 2)) (some (.cmp .eq (.call 9 [(.var 0), (.var 3)] [.inl 0, .inl 1]) (.con (D.int 0)))) [5]), .ret (.tup [(.var 2), (.var 4)])], 6⟩
/-- _law_one: 0 _law_well_here, 1 _law_some -/
def f4 : Fn := ⟨[.ret (.ix (.var 1) (.call 9 [(.var 0), (.blt .len [(.var 1)])] [.inl 0, .inl 1]))], 2⟩
/-- Round.__init__: 0 self, 1 years, 2 doubled, 3 year, 4 month -/
def f5 : Fn := ⟨[.ite (.not (.call 10 [(.var 1), (.con (D.int 1)), (.con (D.int 1000))] [.inl 0, .inl 1, .inl 2])) [.rse 100 [(.con (D.str "years"))] ["why"]] [], .ite (.not (.call 11 [(.var 2), (.var 1)] [.inl 0, .inl 1])) [.rse 100 [(.con (D.str "doubled"))] ["why"]] [], .setf (.var 0) "span" (.var 1), .setf (.var 0) "twice" (.dcC (.var 3) (.var 4) (.many [3, 4]) (.over (.var 2)) none [3, 4]), .setf (.var 0) "starts" (.lst true [(.con (D.int 0))]), .frr (.one 3) (.rng (.var 1)) [.ex (.bm .append (.attr (.var 0) "starts") [(.bin .add (.bin .add (.ix (.attr (.var 0) "starts") (.neg (.con (D.int 1)))) (.con (D.int 12))) (.blt .int [(.din false (.var 3) (.attr (.var 0) "twice"))]))])]], 5⟩
/-- Round.begins: 0 self, 1 year -/
def f6 : Fn := ⟨[.ret (.bin .add (.bin .mul (.bin .fdiv (.var 1) (.attr (.var 0) "span")) (.mth (.var 0) "in_all" [] [.inl 0])) (.ix (.attr (.var 0) "starts") (.bin .mod (.var 1) (.attr (.var 0) "span"))))], 2⟩
/-- Round.in_all: 0 self -/
def f7 : Fn := ⟨[.ret (.ix (.attr (.var 0) "starts") (.neg (.con (D.int 1))))], 1⟩
/-- _law_right: 0 _law_well_here, 1 _law_cycle, 2 _law_span, 3 _law_some, 4 _law_number, 5 _law_months, 6 _law_place, 7 _law_later, 8 _law_names, 9 _law_year, 10 _law_moon, 11 _law_twin, 12 _law_one_here, 13 _law_way -/
def f8 : Fn := ⟨[.asg 3 (.lst false [(.bin .sub (.call 9 [(.var 0), (.con (D.int 2000001))] [.inl 0, .inl 1]) (.con (D.int 1000000))), (.call 9 [(.var 0), (.bin .sub (.bin .pow (.con (D.int 10)) (.con (D.int 12))) (.bin .pow (.con (D.int 10)) (.con (D.int 5))))] [.inl 0, .inl 1]), (.bin .sub (.bin .pow (.con (D.int 10)) (.con (D.int 12))) (.bin .pow (.con (D.int 10)) (.con (D.int 5))))]), .asg 4 (.call 4 [(.var 0), (.bin .add (.var 3) (.lst false [(.bin .sub (.con (D.int 0)) (.ix (.var 3) (.con (D.int 1)))), (.bin .sub (.con (D.int 0)) (.ix (.var 3) (.con (D.int 2))))]))] [.inl 0, .inl 1]), .unp [9, 10, 11] (.mth (.var 1) "month_at" [(.var 4)] [.inl 0, .inl 1]), .asg 5 (.mth (.var 1) "months_of" [(.var 9)] [.inl 0, .inl 1]), .asg 6 (.lsm .index (.var 5) (.tup [(.var 10), (.var 11)])), .ite (.or (.cmp .ne (.var 4) (.bin .add (.mth (.var 1) "begins" [(.var 9)] [.inl 0, .inl 1]) (.var 6))) (.cmp .ne (.mth (.var 1) "number_of" [(.var 9), (.var 10), (.var 11)] [.inl 0, .inl 1, .inl 2, .inl 3]) (.var 4))) [.ret (.con (D.bl false))] [], .ite (.or (.cmp .ne (.bin .sub (.mth (.var 1) "begins" [(.bin .add (.var 9) (.con (D.int 1)))] [.inl 0, .inl 1]) (.mth (.var 1) "begins" [(.var 9)] [.inl 0, .inl 1])) (.blt .len [(.var 5)])) (.cmp .nin (.blt .len [(.var 5)]) (.tup [(.con (D.int 12)), (.con (D.int 13))]))) [.ret (.con (D.bl false))] [], .asg 7 (.bin .add (.tup [(.bin .add (.var 9) (.con (D.int 1)))]) (.ix (.mth (.var 1) "months_of" [(.bin .add (.var 9) (.con (D.int 1)))] [.inl 0, .inl 1]) (.con (D.int 0)))), .ite (.cmp .lt (.bin .add (.var 6) (.con (D.int 1))) (.blt .len [(.var 5)])) [.asg 7 (.bin .add (.tup [(.var 9)]) (.ix (.var 5) (.bin .add (.var 6) (.con (D.int 1)))))] [], .ite (.cmp .ne (.mth (.var 1) "month_at" [(.bin .add (.var 4) (.con (D.int 1)))] [.inl 0, .inl 1]) (.var 7)) [.ret (.con (D.bl false))] [], .ite (.cmp .ne (.mth (.var 1) "month_at" [(.bin .add (.var 4) (.mth (.var 1) "in_all" [] [.inl 0]))] [.inl 0, .inl 1]) (.tup [(.bin .add (.var 9) (.var 2)), (.var 10), (.var 11)])) [.ret (.con (D.bl false))] [], .ite (.or (.cmp .ne (.mth (.var 1) "months_of" [(.bin .sub (.var 9) (.var 2))] [.inl 0, .inl 1]) (.var 5)) (.cmp .ne (.mth (.var 1) "begins" [(.bin .sub (.var 9) (.var 2))] [.inl 0, .inl 1]) (.bin .sub (.mth (.var 1) "begins" [(.var 9)] [.inl 0, .inl 1]) (.mth (.var 1) "in_all" [] [.inl 0])))) [.ret (.con (D.bl false))] [], .asg 8 (.lc false (.var 12) (.many [12, 13]) (.over (.var 5)) none [12, 13]), .ite (.or (.cmp .ne (.var 8) (.blt .sorted [(.var 8)])) (.cmp .ne (.sortset (.var 8)) (.lrng (.con (D.int 1)) (.con (D.int 13))))) [.ret (.con (D.bl false))] [], .ret (.cmp .eq (.lsm .count (.lc false (.var 13) (.many [12, 13]) (.over (.var 5)) none [12, 13]) (.con (D.bl true))) (.bin .sub (.blt .len [(.var 5)]) (.con (D.int 12))))], 14⟩
/-- _law_draw: 0 _law_well_here, 1 _law_wide, 2 _law_number, 3 _law_found -/
def f9 : Fn := ⟨[.ite (.cmp .gt (.ix (.var 0) (.con (D.int 0))) (.con (D.int 0))) [.asg 3 (.bin .mod (.ix (.var 0) (.con (D.int 0))) (.var 1)), .seti (.var 0) (.con (D.int 0)) (.bin .fdiv (.ix (.var 0) (.con (D.int 0))) (.var 1)), .ret (.var 3)] [], .seti (.var 0) (.con (D.int 2)) (.bin .add (.ix (.var 0) (.con (D.int 2))) (.con (D.int 1))), .asg 2 (.bin .mod (.bin .pow (.bin .add (.bin .add (.ix (.var 0) (.con (D.int 1))) (.bin .mul (.con (D.int 104729)) (.ix (.var 0) (.con (D.int 2))))) (.con (D.int 7))) (.con (D.int 3))) (.con (D.int 2147483647))), .asg 2 (.bin .mod (.bin .mul (.var 2) (.bin .add (.bin .add (.bin .fdiv (.var 2) (.con (D.int 1009))) (.con (D.int 69621))) (.ix (.var 0) (.con (D.int 2))))) (.con (D.int 2147483629))), .ret (.bin .mod (.bin .mod (.bin .mul (.var 2) (.bin .add (.bin .fdiv (.var 2) (.con (D.int 2003))) (.con (D.int 40692)))) (.con (D.int 2147483399))) (.var 1))], 4⟩
/-- is_from: 0 thing, 1 low, 2 high -/
def f10 : Fn := ⟨[.ret (.and (.call 15 [(.var 0)] [.inl 0]) (.chn .le .le (.var 1) (.var 0) (.var 2)))], 3⟩
/-- are_doubled: 0 thing, 1 years, 2 ahead, 3 pair, 4 year, 5 month -/
def f11 : Fn := ⟨[.ite (.not (.isi (.var 0) [.inr "list"])) [.ret (.con (D.bl false))] [], .asg 2 (.neg (.con (D.int 1))), .frrC (.one 3) (.over (.var 0)) [.ite (.or (.not (.isi (.var 3) [.inr "tuple"])) (.cmp .ne (.blt .len [(.var 3)]) (.con (D.int 2)))) [.ret (.con (D.bl false))] [], .unp [4, 5] (.var 3), .ite (.or (.not (.call 10 [(.var 4), (.bin .add (.var 2) (.con (D.int 1))), (.bin .sub (.var 1) (.con (D.int 1)))] [.inl 0, .inl 1, .inl 2])) (.not (.call 10 [(.var 5), (.con (D.int 1)), (.con (D.int 12))] [.inl 0, .inl 1, .inl 2]))) [.ret (.con (D.bl false))] [], .asg 2 (.var 4)], .ret (.con (D.bl true))], 6⟩
/-- Round.month_at: 0 self, 1 number, 2 rest, 3 place, 4 year, 5 month, 6 second -/
def f12 : Fn := ⟨[.asg 2 (.bin .mod (.var 1) (.mth (.var 0) "in_all" [] [.inl 0])), .asg 3 (.blt .maxL [(.lc false (.var 4) (.one 4) (.rng (.attr (.var 0) "span")) (some (.cmp .le (.ix (.attr (.var 0) "starts") (.var 4)) (.var 2))) [4])]), .asg 4 (.bin .add (.bin .mul (.bin .fdiv (.var 1) (.mth (.var 0) "in_all" [] [.inl 0])) (.attr (.var 0) "span")) (.var 3)), .unp [5, 6] (.ix (.mth (.var 0) "months_of" [(.var 4)] [.inl 0, .inl 1]) (.bin .sub (.var 2) (.ix (.attr (.var 0) "starts") (.var 3)))), .ret (.tup [(.var 4), (.var 5), (.var 6)])], 7⟩
/-- Round.months_of: 0 self, 1 year, 2 twice, 3 ways, 4 month, 5 way -/
def f13 : Fn := ⟨[.asg 2 (.dget (.attr (.var 0) "twice") (.bin .mod (.var 1) (.attr (.var 0) "span")) none), .asg 3 (.tup [(.con (D.bl false)), (.con (D.bl true))]), .ret (.lc2 false (.tup [(.var 4), (.var 5)]) (.one 4) (.rng2 (.con (D.int 1)) (.bin .add (.con (D.int 12)) (.con (D.int 1)))) none (.one 5) (.over (.var 3)) (some (.or (.not (.var 5)) (.cmp .eq (.var 4) (.var 2)))) [4, 5])], 6⟩
/-- Round.number_of: 0 self, 1 year, 2 month, 3 second, 4 months -/
def f14 : Fn := ⟨[.ite (.or (.not (.call 15 [(.var 1)] [.inl 0])) (.or (.not (.call 15 [(.var 2)] [.inl 0])) (.not (.isi (.var 3) [.inr "bool"])))) [.rse 102 [] []] [], .asg 4 (.mth (.var 0) "months_of" [(.var 1)] [.inl 0, .inl 1]), .ite (.cmp .nin (.tup [(.var 2), (.var 3)]) (.var 4)) [.rse 102 [] []] [], .ret (.bin .add (.mth (.var 0) "begins" [(.var 1)] [.inl 0, .inl 1]) (.lsm .index (.var 4) (.tup [(.var 2), (.var 3)])))], 5⟩
/-- is_whole: 0 thing -/
def f15 : Fn := ⟨[.ret (.and (.isi (.var 0) [.inr "int"]) (.not (.isi (.var 0) [.inr "bool"])))], 1⟩
def fns : List Fn := [f0, f1, f2, f3, f4, f5, f6, f7, f8, f9, f10, f11, f12, f13, f14, f15]
def m : Mt := { gcs := [("MOST_YEARS", (D.int 1000)), ("TWELVE", (D.int 12))], cls := [("Round", 0), ("NoRule", 100), ("SkyError", 101), ("NoMonth", 102)], blt := [("range", .type "range"), ("len", .builtin "len"), ("int", .type "int"), ("sorted", .builtin "sorted"), ("set", .type "set"), ("list", .type "list"), ("isinstance", .builtin "isinstance"), ("tuple", .type "tuple"), ("max", .builtin "max"), ("bool", .type "bool")], fns := [⟨"law", ["_law_script"], [], ("law", none)⟩, ⟨"_law_cell_at", ["_law_script", "_law_k"], [⟨2, [], [.inl 0, .inl 1]⟩], ("_law_cell_at", none)⟩, ⟨"_law_well", ["_law_cell"], [⟨1, [], [.inl 0]⟩], ("_law_well", none)⟩, ⟨"_law_drawn_round", ["_law_well_here", "_law_top"], [⟨2, [], [.inl 0, .inl 1]⟩], ("_law_drawn_round", none)⟩, ⟨"_law_one", ["_law_well_here", "_law_some"], [⟨2, [], [.inl 0, .inl 1]⟩], ("_law_one", none)⟩, ⟨"Round.__init__", ["self", "years", "doubled"], [⟨1, ["years", "doubled"], [.inl 0, .inl 1, .inl 2]⟩], ("Round", some "__init__")⟩, ⟨"Round.begins", ["self", "year"], [⟨2, [], [.inl 0, .inl 1]⟩], ("Round", some "begins")⟩, ⟨"Round.in_all", ["self"], [⟨1, [], [.inl 0]⟩], ("Round", some "in_all")⟩, ⟨"_law_right", ["_law_well_here", "_law_cycle", "_law_span"], [⟨3, [], [.inl 0, .inl 1, .inl 2]⟩], ("_law_right", none)⟩, ⟨"_law_draw", ["_law_well_here", "_law_wide"], [⟨2, [], [.inl 0, .inl 1]⟩], ("_law_draw", none)⟩, ⟨"is_from", ["thing", "low", "high"], [⟨3, [], [.inl 0, .inl 1, .inl 2]⟩], ("is_from", none)⟩, ⟨"are_doubled", ["thing", "years"], [⟨2, [], [.inl 0, .inl 1]⟩], ("are_doubled", none)⟩, ⟨"Round.month_at", ["self", "number"], [⟨2, [], [.inl 0, .inl 1]⟩], ("Round", some "month_at")⟩, ⟨"Round.months_of", ["self", "year"], [⟨2, [], [.inl 0, .inl 1]⟩], ("Round", some "months_of")⟩, ⟨"Round.number_of", ["self", "year", "month", "second"], [⟨3, ["second"], [.inl 0, .inl 1, .inl 2, .inl 3]⟩], ("Round", some "number_of")⟩, ⟨"is_whole", ["thing"], [⟨1, [], [.inl 0]⟩], ("is_whole", none)⟩], flds := ["why", "span", "twice", "starts"], tys := ["list", "tuple", "bool", "int"], own := [102], mths := mths, xfs := [(100, ["why"])], ct := ct }
def d0 : He.DefD := ⟨("law", none), "law", "law", defArgs (top 21), defBody (top 21), defScope (top 21), [], []⟩
def s0 : Src := ⟨d0, ["_law_script", "_law_cell", "_law_well_here", "_law_cycle", "_law_turn", "_law_span", "_law_pairs_in"], ["_law_script"], f0⟩
def d1 : He.DefD := ⟨("_law_cell_at", none), "_law_cell_at", "_law_cell_at", defArgs (top 13), defBody (top 13), defScope (top 13), [], []⟩
def s1 : Src := ⟨d1, ["_law_script", "_law_k"], ["_law_script", "_law_k"], f1⟩
def d2 : He.DefD := ⟨("_law_well", none), "_law_well", "_law_well", defArgs (top 14), defBody (top 14), defScope (top 14), [], []⟩
def s2 : Src := ⟨d2, ["_law_cell"], ["_law_cell"], f2⟩
def d3 : He.DefD := ⟨("_law_drawn_round", none), "_law_drawn_round", "_law_drawn_round", defArgs (top 17), defBody (top 17), defScope (top 17), [], []⟩
def s3 : Src := ⟨d3, ["_law_well_here", "_law_top", "_law_span", "_law_share", "_law_pairs_in", "_law_year"], ["_law_well_here", "_law_top"], f3⟩
def d4 : He.DefD := ⟨("_law_one", none), "_law_one", "_law_one", defArgs (top 16), defBody (top 16), defScope (top 16), [], []⟩
def s4 : Src := ⟨d4, ["_law_well_here", "_law_some"], ["_law_well_here", "_law_some"], f4⟩
def d5 : He.DefD := ⟨("Round", some "__init__"), "__init__", "Round.__init__", defArgs (mtop 11 0), defBody (mtop 11 0), defScope (mtop 11 0), [], []⟩
def s5 : Src := ⟨d5, ["self", "years", "doubled", "year", "month"], ["self", "years", "doubled"], f5⟩
def d6 : He.DefD := ⟨("Round", some "begins"), "begins", "Round.begins", defArgs (mtop 11 2), defBody (mtop 11 2), defScope (mtop 11 2), [], []⟩
def s6 : Src := ⟨d6, ["self", "year"], ["self", "year"], f6⟩
def d7 : He.DefD := ⟨("Round", some "in_all"), "in_all", "Round.in_all", defArgs (mtop 11 1), defBody (mtop 11 1), defScope (mtop 11 1), [], []⟩
def s7 : Src := ⟨d7, ["self"], ["self"], f7⟩
def d8 : He.DefD := ⟨("_law_right", none), "_law_right", "_law_right", defArgs (top 20), defBody (top 20), defScope (top 20), [], []⟩
def s8 : Src := ⟨d8, ["_law_well_here", "_law_cycle", "_law_span", "_law_some", "_law_number", "_law_months", "_law_place", "_law_later", "_law_names", "_law_year", "_law_moon", "_law_twin", "_law_one_here", "_law_way"], ["_law_well_here", "_law_cycle", "_law_span"], f8⟩
def d9 : He.DefD := ⟨("_law_draw", none), "_law_draw", "_law_draw", defArgs (top 15), defBody (top 15), defScope (top 15), [], []⟩
def s9 : Src := ⟨d9, ["_law_well_here", "_law_wide", "_law_number", "_law_found"], ["_law_well_here", "_law_wide"], f9⟩
def d10 : He.DefD := ⟨("is_from", none), "is_from", "is_from", defArgs (top 9), defBody (top 9), defScope (top 9), [], []⟩
def s10 : Src := ⟨d10, ["thing", "low", "high"], ["thing", "low", "high"], f10⟩
def d11 : He.DefD := ⟨("are_doubled", none), "are_doubled", "are_doubled", defArgs (top 10), defBody (top 10), defScope (top 10), [], []⟩
def s11 : Src := ⟨d11, ["thing", "years", "ahead", "pair", "year", "month"], ["thing", "years"], f11⟩
def d12 : He.DefD := ⟨("Round", some "month_at"), "month_at", "Round.month_at", defArgs (mtop 11 5), defBody (mtop 11 5), defScope (mtop 11 5), [], []⟩
def s12 : Src := ⟨d12, ["self", "number", "rest", "place", "year", "month", "second"], ["self", "number"], f12⟩
def d13 : He.DefD := ⟨("Round", some "months_of"), "months_of", "Round.months_of", defArgs (mtop 11 3), defBody (mtop 11 3), defScope (mtop 11 3), [], []⟩
def s13 : Src := ⟨d13, ["self", "year", "twice", "ways", "month", "way"], ["self", "year"], f13⟩
def d14 : He.DefD := ⟨("Round", some "number_of"), "number_of", "Round.number_of", defArgs (mtop 11 4), defBody (mtop 11 4), defScope (mtop 11 4), [], [("second", .bl false)]⟩
def s14 : Src := ⟨d14, ["self", "year", "month", "second", "months"], ["self", "year", "month", "second"], f14⟩
def d15 : He.DefD := ⟨("is_whole", none), "is_whole", "is_whole", defArgs (top 5), defBody (top 5), defScope (top 5), [], []⟩
def s15 : Src := ⟨d15, ["thing"], ["thing"], f15⟩
def tab : List Src := [s0, s1, s2, s3, s4, s5, s6, s7, s8, s9, s10, s11, s12, s13, s14, s15]
theorem src0 : srcB m s0 = true := by decide +kernel
theorem src1 : srcB m s1 = true := by decide +kernel
theorem src2 : srcB m s2 = true := by decide +kernel
theorem src3 : srcB m s3 = true := by decide +kernel
theorem src4 : srcB m s4 = true := by decide +kernel
theorem src5 : srcB m s5 = true := by decide +kernel
theorem src6 : srcB m s6 = true := by decide +kernel
theorem src7 : srcB m s7 = true := by decide +kernel
theorem src8 : srcB m s8 = true := by decide +kernel
theorem src9 : srcB m s9 = true := by decide +kernel
theorem src10 : srcB m s10 = true := by decide +kernel
theorem src11 : srcB m s11 = true := by decide +kernel
theorem src12 : srcB m s12 = true := by decide +kernel
theorem src13 : srcB m s13 = true := by decide +kernel
theorem src14 : srcB m s14 = true := by decide +kernel
theorem src15 : srcB m s15 = true := by decide +kernel
theorem tab_ok : tabB m tab = true := by
  simp only [tabB, m, tab, List.zip_cons_cons, List.zip_nil_right, List.all_cons, List.all_nil, Bool.and_true, Bool.and_eq_true]
  refine ⟨by decide +kernel, ⟨by decide +kernel, by decide +kernel, by decide +kernel, src0⟩, ⟨by decide +kernel, by decide +kernel, by decide +kernel, src1⟩, ⟨by decide +kernel, by decide +kernel, by decide +kernel, src2⟩, ⟨by decide +kernel, by decide +kernel, by decide +kernel, src3⟩, ⟨by decide +kernel, by decide +kernel, by decide +kernel, src4⟩, ⟨by decide +kernel, by decide +kernel, by decide +kernel, src5⟩, ⟨by decide +kernel, by decide +kernel, by decide +kernel, src6⟩, ⟨by decide +kernel, by decide +kernel, by decide +kernel, src7⟩, ⟨by decide +kernel, by decide +kernel, by decide +kernel, src8⟩, ⟨by decide +kernel, by decide +kernel, by decide +kernel, src9⟩, ⟨by decide +kernel, by decide +kernel, by decide +kernel, src10⟩, ⟨by decide +kernel, by decide +kernel, by decide +kernel, src11⟩, ⟨by decide +kernel, by decide +kernel, by decide +kernel, src12⟩, ⟨by decide +kernel, by decide +kernel, by decide +kernel, src13⟩, ⟨by decide +kernel, by decide +kernel, by decide +kernel, src14⟩, ⟨by decide +kernel, by decide +kernel, by decide +kernel, src15⟩⟩
theorem mt_ok : mtB m = true := by decide +kernel
theorem pat1_0 {K : PySem.W.Frag} {cl : Nat → Option Addr} {f : Addr} {fd : FuncData} (F : FunD K d1.name d1.qual d1.params d1.body d1.scope (d1.dvs K) (d1.kws K) f fd) : PatOk K cl fd ["_law_script", "_law_k"] 2 [] [.inl 0, .inl 1] :=
  pat0 [.inl 0, .inl 1] F rfl fun _ _ _ _ _ _ us ws l1 l2 => match us, ws, l1, l2 with | [_, _], [], _, _ => ⟨_, rfl, rfl⟩
theorem pat2_0 {K : PySem.W.Frag} {cl : Nat → Option Addr} {f : Addr} {fd : FuncData} (F : FunD K d2.name d2.qual d2.params d2.body d2.scope (d2.dvs K) (d2.kws K) f fd) : PatOk K cl fd ["_law_cell"] 1 [] [.inl 0] :=
  pat0 [.inl 0] F rfl fun _ _ _ _ _ _ us ws l1 l2 => match us, ws, l1, l2 with | [_], [], _, _ => ⟨_, rfl, rfl⟩
theorem pat3_0 {K : PySem.W.Frag} {cl : Nat → Option Addr} {f : Addr} {fd : FuncData} (F : FunD K d3.name d3.qual d3.params d3.body d3.scope (d3.dvs K) (d3.kws K) f fd) : PatOk K cl fd ["_law_well_here", "_law_top"] 2 [] [.inl 0, .inl 1] :=
  pat0 [.inl 0, .inl 1] F rfl fun _ _ _ _ _ _ us ws l1 l2 => match us, ws, l1, l2 with | [_, _], [], _, _ => ⟨_, rfl, rfl⟩
theorem pat4_0 {K : PySem.W.Frag} {cl : Nat → Option Addr} {f : Addr} {fd : FuncData} (F : FunD K d4.name d4.qual d4.params d4.body d4.scope (d4.dvs K) (d4.kws K) f fd) : PatOk K cl fd ["_law_well_here", "_law_some"] 2 [] [.inl 0, .inl 1] :=
  pat0 [.inl 0, .inl 1] F rfl fun _ _ _ _ _ _ us ws l1 l2 => match us, ws, l1, l2 with | [_, _], [], _, _ => ⟨_, rfl, rfl⟩
theorem pat5_0 {K : PySem.W.Frag} {cl : Nat → Option Addr} {f : Addr} {fd : FuncData} (F : FunD K d5.name d5.qual d5.params d5.body d5.scope (d5.dvs K) (d5.kws K) f fd) : PatOk K cl fd ["self", "years", "doubled"] 1 ["years", "doubled"] [.inl 0, .inl 1, .inl 2] :=
  pat0 [.inl 0, .inl 1, .inl 2] F rfl fun _ _ _ _ _ _ us ws l1 l2 => match us, ws, l1, l2 with | [_], [_, _], _, _ => ⟨_, rfl, rfl⟩
theorem pat6_0 {K : PySem.W.Frag} {cl : Nat → Option Addr} {f : Addr} {fd : FuncData} (F : FunD K d6.name d6.qual d6.params d6.body d6.scope (d6.dvs K) (d6.kws K) f fd) : PatOk K cl fd ["self", "year"] 2 [] [.inl 0, .inl 1] :=
  pat0 [.inl 0, .inl 1] F rfl fun _ _ _ _ _ _ us ws l1 l2 => match us, ws, l1, l2 with | [_, _], [], _, _ => ⟨_, rfl, rfl⟩
theorem pat7_0 {K : PySem.W.Frag} {cl : Nat → Option Addr} {f : Addr} {fd : FuncData} (F : FunD K d7.name d7.qual d7.params d7.body d7.scope (d7.dvs K) (d7.kws K) f fd) : PatOk K cl fd ["self"] 1 [] [.inl 0] :=
  pat0 [.inl 0] F rfl fun _ _ _ _ _ _ us ws l1 l2 => match us, ws, l1, l2 with | [_], [], _, _ => ⟨_, rfl, rfl⟩
theorem pat8_0 {K : PySem.W.Frag} {cl : Nat → Option Addr} {f : Addr} {fd : FuncData} (F : FunD K d8.name d8.qual d8.params d8.body d8.scope (d8.dvs K) (d8.kws K) f fd) : PatOk K cl fd ["_law_well_here", "_law_cycle", "_law_span"] 3 [] [.inl 0, .inl 1, .inl 2] :=
  pat0 [.inl 0, .inl 1, .inl 2] F rfl fun _ _ _ _ _ _ us ws l1 l2 => match us, ws, l1, l2 with | [_, _, _], [], _, _ => ⟨_, rfl, rfl⟩
theorem pat9_0 {K : PySem.W.Frag} {cl : Nat → Option Addr} {f : Addr} {fd : FuncData} (F : FunD K d9.name d9.qual d9.params d9.body d9.scope (d9.dvs K) (d9.kws K) f fd) : PatOk K cl fd ["_law_well_here", "_law_wide"] 2 [] [.inl 0, .inl 1] :=
  pat0 [.inl 0, .inl 1] F rfl fun _ _ _ _ _ _ us ws l1 l2 => match us, ws, l1, l2 with | [_, _], [], _, _ => ⟨_, rfl, rfl⟩
theorem pat10_0 {K : PySem.W.Frag} {cl : Nat → Option Addr} {f : Addr} {fd : FuncData} (F : FunD K d10.name d10.qual d10.params d10.body d10.scope (d10.dvs K) (d10.kws K) f fd) : PatOk K cl fd ["thing", "low", "high"] 3 [] [.inl 0, .inl 1, .inl 2] :=
  pat0 [.inl 0, .inl 1, .inl 2] F rfl fun _ _ _ _ _ _ us ws l1 l2 => match us, ws, l1, l2 with | [_, _, _], [], _, _ => ⟨_, rfl, rfl⟩
theorem pat11_0 {K : PySem.W.Frag} {cl : Nat → Option Addr} {f : Addr} {fd : FuncData} (F : FunD K d11.name d11.qual d11.params d11.body d11.scope (d11.dvs K) (d11.kws K) f fd) : PatOk K cl fd ["thing", "years"] 2 [] [.inl 0, .inl 1] :=
  pat0 [.inl 0, .inl 1] F rfl fun _ _ _ _ _ _ us ws l1 l2 => match us, ws, l1, l2 with | [_, _], [], _, _ => ⟨_, rfl, rfl⟩
theorem pat12_0 {K : PySem.W.Frag} {cl : Nat → Option Addr} {f : Addr} {fd : FuncData} (F : FunD K d12.name d12.qual d12.params d12.body d12.scope (d12.dvs K) (d12.kws K) f fd) : PatOk K cl fd ["self", "number"] 2 [] [.inl 0, .inl 1] :=
  pat0 [.inl 0, .inl 1] F rfl fun _ _ _ _ _ _ us ws l1 l2 => match us, ws, l1, l2 with | [_, _], [], _, _ => ⟨_, rfl, rfl⟩
theorem pat13_0 {K : PySem.W.Frag} {cl : Nat → Option Addr} {f : Addr} {fd : FuncData} (F : FunD K d13.name d13.qual d13.params d13.body d13.scope (d13.dvs K) (d13.kws K) f fd) : PatOk K cl fd ["self", "year"] 2 [] [.inl 0, .inl 1] :=
  pat0 [.inl 0, .inl 1] F rfl fun _ _ _ _ _ _ us ws l1 l2 => match us, ws, l1, l2 with | [_, _], [], _, _ => ⟨_, rfl, rfl⟩
theorem pat14_0 {K : PySem.W.Frag} {cl : Nat → Option Addr} {f : Addr} {fd : FuncData} (F : FunD K d14.name d14.qual d14.params d14.body d14.scope (d14.dvs K) (d14.kws K) f fd) : PatOk K cl fd ["self", "year", "month", "second"] 3 ["second"] [.inl 0, .inl 1, .inl 2, .inl 3] :=
  pat0 [.inl 0, .inl 1, .inl 2, .inl 3] F rfl fun _ _ _ _ _ _ us ws l1 l2 => match us, ws, l1, l2 with | [_, _, _], [_], _, _ => ⟨_, rfl, rfl⟩
theorem pat15_0 {K : PySem.W.Frag} {cl : Nat → Option Addr} {f : Addr} {fd : FuncData} (F : FunD K d15.name d15.qual d15.params d15.body d15.scope (d15.dvs K) (d15.kws K) f fd) : PatOk K cl fd ["thing"] 1 [] [.inl 0] :=
  pat0 [.inl 0] F rfl fun _ _ _ _ _ _ us ws l1 l2 => match us, ws, l1, l2 with | [_], [], _, _ => ⟨_, rfl, rfl⟩
theorem pats_ok : PatsOk m tab := by
  intro i s fi h1 h2 K cl f fd F p hp
  match i, h1, h2 with
  | 0, h1, h2 =>
    cases h1; cases h2
    simp at hp
  | 1, h1, h2 =>
    cases h1; cases h2
    simp only [List.mem_cons, List.not_mem_nil, or_false] at hp
    subst hp; exact pat1_0 F
  | 2, h1, h2 =>
    cases h1; cases h2
    simp only [List.mem_cons, List.not_mem_nil, or_false] at hp
    subst hp; exact pat2_0 F
  | 3, h1, h2 =>
    cases h1; cases h2
    simp only [List.mem_cons, List.not_mem_nil, or_false] at hp
    subst hp; exact pat3_0 F
  | 4, h1, h2 =>
    cases h1; cases h2
    simp only [List.mem_cons, List.not_mem_nil, or_false] at hp
    subst hp; exact pat4_0 F
  | 5, h1, h2 =>
    cases h1; cases h2
    simp only [List.mem_cons, List.not_mem_nil, or_false] at hp
    subst hp; exact pat5_0 F
  | 6, h1, h2 =>
    cases h1; cases h2
    simp only [List.mem_cons, List.not_mem_nil, or_false] at hp
    subst hp; exact pat6_0 F
  | 7, h1, h2 =>
    cases h1; cases h2
    simp only [List.mem_cons, List.not_mem_nil, or_false] at hp
    subst hp; exact pat7_0 F
  | 8, h1, h2 =>
    cases h1; cases h2
    simp only [List.mem_cons, List.not_mem_nil, or_false] at hp
    subst hp; exact pat8_0 F
  | 9, h1, h2 =>
    cases h1; cases h2
    simp only [List.mem_cons, List.not_mem_nil, or_false] at hp
    subst hp; exact pat9_0 F
  | 10, h1, h2 =>
    cases h1; cases h2
    simp only [List.mem_cons, List.not_mem_nil, or_false] at hp
    subst hp; exact pat10_0 F
  | 11, h1, h2 =>
    cases h1; cases h2
    simp only [List.mem_cons, List.not_mem_nil, or_false] at hp
    subst hp; exact pat11_0 F
  | 12, h1, h2 =>
    cases h1; cases h2
    simp only [List.mem_cons, List.not_mem_nil, or_false] at hp
    subst hp; exact pat12_0 F
  | 13, h1, h2 =>
    cases h1; cases h2
    simp only [List.mem_cons, List.not_mem_nil, or_false] at hp
    subst hp; exact pat13_0 F
  | 14, h1, h2 =>
    cases h1; cases h2
    simp only [List.mem_cons, List.not_mem_nil, or_false] at hp
    subst hp; exact pat14_0 F
  | 15, h1, h2 =>
    cases h1; cases h2
    simp only [List.mem_cons, List.not_mem_nil, or_false] at hp
    subst hp; exact pat15_0 F
  | i + 16, h1, h2 => simp [tab] at h1
def x0 : ISrc := ⟨⟨("NoRule", some "__init__"), "__init__", "NoRule.__init__", defArgs (mtop 2 0), defBody (mtop 2 0), defScope (mtop 2 0), [], []⟩, 100, "SkyError", "self", ["why"]⟩
theorem xb0 {K : PySem.W.Frag} {f : Addr} {fd : FuncData} (F : FunD K x0.d.name x0.d.qual x0.d.params x0.d.body x0.d.scope (x0.d.dvs K) (x0.d.kws K) f fd) : Binds K fd (x0.self :: x0.fs) [] := fun s us _ hl => by
  rw [List.append_nil] at hl ⊢
  exact L2.FunD.bindsA (ps := ["self", "why"]) F (fun _ _ _ _ _ _ us hl => match us, hl with | [_, _], _ => rfl) s us hl
def itab : List ISrc := [x0]
theorem it_ok : itabB m itab = true := by decide +kernel
theorem ib_ok : IBinds itab := by
  intro s hs K f fd F
  simp only [itab, List.mem_cons, List.not_mem_nil, or_false] at hs
  subst hs; exact xb0 F
end K63

set_option maxRecDepth 100000
set_option maxHeartbeats 0
namespace K63
open PySem PySem.Spec PyProof.Rows SV
open L2 hiding It
def depth : Nat := 20
abbrev T : List Fn := tab.map (·.fn)
theorem sm {k f : Nat} {fn : Fn} (h : T[f]? = some fn) : sem T ct (k + 1) f = denF ⟨sem T ct k, ct⟩ fn := by
  funext args; exact sem_at h
noncomputable abbrev G (k : Nat) : Sg := ⟨sem T ct k, ct⟩
theorem h_is_whole : ∀ k, 1 ≤ k → IsWholeOk (sem T ct k 15) := fun k hk => by
  obtain ⟨j, rfl⟩ : ∃ j, k = j + 1 := ⟨k - 1, by omega⟩
  rw [sm (fn := isWholeFn) rfl]; exact isWhole_int
theorem h_law_cell_at : ∀ k, 1 ≤ k → CellAtOk (sem T ct k 1) := fun k hk => by
  obtain ⟨j, rfl⟩ : ∃ j, k = j + 1 := ⟨k - 1, by omega⟩
  rw [sm (fn := cellAtFn) rfl]; exact cellAt_ok
theorem h_law_well : ∀ k, 1 ≤ k → WellOk (sem T ct k 2) := fun k hk => by
  obtain ⟨j, rfl⟩ : ∃ j, k = j + 1 := ⟨k - 1, by omega⟩
  rw [sm (fn := wellFn) rfl]; exact well_ok
theorem h_law_draw : ∀ k, 1 ≤ k → DrawOk (sem T ct k 9) := fun k hk => by
  obtain ⟨j, rfl⟩ : ∃ j, k = j + 1 := ⟨k - 1, by omega⟩
  rw [sm (fn := drawFn) rfl]; exact draw_ok
theorem h_law_one : ∀ k, 2 ≤ k → OneOk (sem T ct k 4) := fun k hk => by
  obtain ⟨j, rfl⟩ : ∃ j, k = j + 1 := ⟨k - 1, by omega⟩
  rw [sm (fn := oneFn 9) rfl]; exact one_ok (g := G j) (h_law_draw j (by omega))
theorem h_is_from : ∀ k, 2 ≤ k → IsFromOk (sem T ct k 10) := fun k hk => by
  obtain ⟨j, rfl⟩ : ∃ j, k = j + 1 := ⟨k - 1, by omega⟩
  rw [sm (fn := isFromFn 15) rfl]; exact isFrom_ok (g := G j) (h_is_whole j (by omega))
theorem h_are_doubled : ∀ k, 3 ≤ k → DoubledOk (sem T ct k 11) := fun k hk => by
  obtain ⟨j, rfl⟩ : ∃ j, k = j + 1 := ⟨k - 1, by omega⟩
  rw [sm (fn := doubledFn 10) rfl]; exact doubled_ok (g := G j) (h_is_from j (by omega))
theorem h_Round_new : ∀ k, 4 ≤ k → RInitOk (sem T ct k 5) 0 := fun k hk => by
  obtain ⟨j, rfl⟩ : ∃ j, k = j + 1 := ⟨k - 1, by omega⟩
  rw [sm (fn := roundFn 10 11 100) rfl]; exact round_init (g := G j) (h_is_from j (by omega)) (h_are_doubled j (by omega))
theorem h_Round_in_all : ∀ k, 1 ≤ k → InAllOk (sem T ct k 7) 0 := fun k hk => by
  obtain ⟨j, rfl⟩ : ∃ j, k = j + 1 := ⟨k - 1, by omega⟩
  rw [sm (fn := inAllFn) rfl]; exact inAll_ok
theorem h_Round_begins : ∀ k, 2 ≤ k → BeginsOk (sem T ct k 6) 0 := fun k hk => by
  obtain ⟨j, rfl⟩ : ∃ j, k = j + 1 := ⟨k - 1, by omega⟩
  rw [sm (fn := beginsFn) rfl]; exact begins_ok (g := G j) (h_Round_in_all j (by omega)) rfl
theorem h_Round_months_of : ∀ k, 1 ≤ k → MonthsOk (sem T ct k 13) 0 := fun k hk => by
  obtain ⟨j, rfl⟩ : ∃ j, k = j + 1 := ⟨k - 1, by omega⟩
  rw [sm (fn := monthsFn) rfl]; exact months_ok
theorem h_Round_number_of : ∀ k, 3 ≤ k → NumberOk (sem T ct k 14) 0 := fun k hk => by
  obtain ⟨j, rfl⟩ : ∃ j, k = j + 1 := ⟨k - 1, by omega⟩
  rw [sm (fn := numberFn 15 13 6 102) rfl]; exact number_ok (g := G j) (h_is_whole j (by omega)) (h_Round_months_of j (by omega)) (h_Round_begins j (by omega)) rfl rfl
theorem h_Round_month_at : ∀ k, 2 ≤ k → MonthAtOk (sem T ct k 12) 0 := fun k hk => by
  obtain ⟨j, rfl⟩ : ∃ j, k = j + 1 := ⟨k - 1, by omega⟩
  rw [sm (fn := monthAtFn) rfl]; exact monthAt_ok (g := G j) (h_Round_in_all j (by omega)) (h_Round_months_of j (by omega)) rfl rfl
theorem h_law_drawn_round : ∀ k, 2 ≤ k → DrawnROk (sem T ct k 3) := fun k hk => by
  obtain ⟨j, rfl⟩ : ∃ j, k = j + 1 := ⟨k - 1, by omega⟩
  rw [sm (fn := drawnRFn 9) rfl]; exact drawnR_ok (g := G j) (h_law_draw j (by omega))
end K63

set_option maxRecDepth 100000
set_option maxHeartbeats 0
namespace K63
open PySem PySem.Spec PyProof.Rows SV MO
open L2 hiding It
def nmI (o : Option Nat) : List Int := (mons o).map fun p => (p.1 : Int)
def l12 : List Int := [1, 2, 3, 4, 5, 6, 7, 8, 9, 10, 11, 12]
structure MonsF (o : Option Nat) : Prop where
  le : (nmI o).Pairwise (· ≤ ·)
  a : ∀ k ∈ nmI o, k ∈ l12
  b : ∀ k ∈ l12, k ∈ nmI o
  c : ((mons o).countP fun p => p.2) + 12 = (mons o).length
  z : (mons o)[0]? = some (1, false)
  l : (mons o).length = 12 ∨ (mons o).length = 13
theorem monsF (o : Option Nat) (h : ∀ m, o = some m → 1 ≤ m ∧ m ≤ 12) : MonsF o := by
  cases o with
  | none => exact ⟨by decide, by decide, by decide, by decide, by decide, by decide⟩
  | some m =>
    have := h m rfl
    have z : ∀ k : Fin 12, (nmI (some (k.val + 1))).Pairwise (· ≤ ·) ∧ (∀ j ∈ nmI (some (k.val + 1)), j ∈ l12) ∧ (∀ j ∈ l12, j ∈ nmI (some (k.val + 1))) ∧ ((mons (some (k.val + 1))).countP fun p => p.2) + 12 = (mons (some (k.val + 1))).length ∧ (mons (some (k.val + 1)))[0]? = some (1, false) ∧ ((mons (some (k.val + 1))).length = 12 ∨ (mons (some (k.val + 1))).length = 13) := by decide
    have := z ⟨m - 1, by omega⟩
    rw [show m - 1 + 1 = m by omega] at this
    exact ⟨this.1, this.2.1, this.2.2.1, this.2.2.2.1, this.2.2.2.2.1, this.2.2.2.2.2⟩
theorem MonsF.sort {o : Option Nat} (h : MonsF o) : sortI (nmI o) = nmI o := (sortI_eq (.refl _) h.le).symm
theorem MonsF.set {o : Option Nat} (h : MonsF o) : sortSet ((nmI o).map D.int) = some l12 := by
  unfold sortSet
  rw [allI_ints]
  have l : (nmI o).length < 64 := by
    have := h.l
    rw [nmI, List.length_map]; omega
  simp only [l, if_true]
  rw [sortSet_of (ns := nmI o) (ms := l12) (by decide) fun k => by
    rw [decide_eq_true_eq]
    exact ⟨h.b k, h.a k⟩]
theorem q_all (n : Nat) (ps : List (Nat × Nat)) (s : Store) : mthOf ct "in_all" (.v (roundD 0 n ps)) s = .ok 7 s := mth_round s rfl rfl
theorem q_beg (n : Nat) (ps : List (Nat × Nat)) (s : Store) : mthOf ct "begins" (.v (roundD 0 n ps)) s = .ok 6 s := mth_round s rfl rfl
theorem q_mon (n : Nat) (ps : List (Nat × Nat)) (s : Store) : mthOf ct "months_of" (.v (roundD 0 n ps)) s = .ok 13 s := mth_round s rfl rfl
theorem q_num (n : Nat) (ps : List (Nat × Nat)) (s : Store) : mthOf ct "number_of" (.v (roundD 0 n ps)) s = .ok 14 s := mth_round s rfl rfl
theorem q_at (n : Nat) (ps : List (Nat × Nat)) (s : Store) : mthOf ct "month_at" (.v (roundD 0 n ps)) s = .ok 12 s := mth_round s rfl rfl
def lenI (o : Option Nat) : Int := ((mons o).length : Int)
theorem len_mons (o : Option Nat) : opF .len [.lst (monsD o)] = some (.int (lenI o)) := by simp [monsD, lenI]
theorem ix_mons {o : Option Nat} {i : Nat} {p : Nat × Bool} (h : (mons o)[i]? = some p) (s : Store) : index (.v (.lst (monsD o))) (.v (.int (i : Int))) s = .ok (.v (moD p)) s := by
  rw [index_lst, atI_natCast, monsD, List.getElem?_map, List.getElem?_map, h]; rfl
def drS : List Sm := f8.body.take 2
theorem drawn_number (w K : Nat) (st : Store) (hw : Wl w K st) (hK : K + 10 < 1000000) (o1 o2 : Option R) : ∃ (x : Int) (d3 : D) (st' : Store), x.natAbs ≤ 1000000000000 ∧ Wl w (K + 3) st' ∧ Only w st st' ∧
    denSs (G 19) (f8.body.take 2) [some (.ref w), o1, o2, none, none, none, none, none, none, none, none, none, none, none] st = .nx [some (.ref w), o1, o2, some (.v d3), some (.v (.int x)), none, none, none, none, none, none, none, none, none] st' := by
  obtain ⟨x1, st1, a0, a1, e1, w1, s1⟩ := h_law_draw 19 (by decide) w K st 2000001 hw (by omega) (by decide) (by decide)
  obtain ⟨x2, st2, b0, b1, e2, w2, s2⟩ := h_law_draw 19 (by decide) w (K + 1) st1 999999900000 w1 (by omega) (by decide) (by decide)
  obtain ⟨d, st3, hd, e3, w3, s3⟩ := h_law_one 19 (by decide) w (K + 2) st2 [.int (x1 - 1000000), .int x2, .int 999999900000, .int (0 - x2), .int (0 - 999999900000)] w2 (by omega) (by simp) (by simp)
  obtain ⟨x, rfl, hx⟩ : ∃ x : Int, d = .int x ∧ x.natAbs ≤ 1000000000000 := by
    simp only [List.mem_cons, List.not_mem_nil, or_false] at hd
    rcases hd with rfl | rfl | rfl | rfl | rfl <;> exact ⟨_, rfl, by omega⟩
  refine ⟨x, .lst [.int (x1 - 1000000), .int x2, .int 999999900000], st3, hx, w3, (s1.trans s2).trans s3, ?_⟩
  have p1 : opB .pow (.int 10) (.int 12) = some (.int 1000000000000) := by simp [opB]
  have p2 : opB .pow (.int 10) (.int 5) = some (.int 100000) := by simp [opB]
  have cat : ∀ a b c d e : D, opB .add (.lst [a, b, c]) (.lst [d, e]) = some (.lst [a, b, c, d, e]) := fun a b c d e => by simp [opB, show 5 ≤ sizeLine from by decide]
  have i1 : ∀ (a b c : D) s, index (.v (.lst [a, b, c])) (.v (.int 1)) s = .ok (.v b) s := fun _ _ _ _ => rfl
  have i2 : ∀ (a b c : D) s, index (.v (.lst [a, b, c])) (.v (.int 2)) s = .ok (.v c) s := fun _ _ _ _ => rfl
  simp only [Int.zero_sub] at e3
  simp [f8, e1, p1, p2, e2, -index_lst, i1, i2, cat, e3]
abbrev E1 (w n : Nat) (ps : List (Nat × Nat)) (d3 : D) (x y : Int) (i m : Nat) (b : Bool) (o7 : Option R) : SV.Env := [some (.ref w), some (.v (roundD 0 n ps)), some (.v (.int n)), some (.v d3), some (.v (.int x)), some (.v (.lst (monsD (tw ps (yIn n y))))), some (.v (.int i)), o7, none, some (.v (.int y)), some (.v (.int m)), some (.v (.bl b)), none, none]
theorem nin2 (s a b : Int) (h : s = a ∨ s = b) : opC .nin (.int s) (.tup [.int a, .int b]) = some false := by
  show some (!L2.inV (.int s) [.int a, .int b]) = some false
  rcases h with rfl | rfl <;> simp [L2.inV, L2.eqV]
/-- the number's year, its place, what is told of them -/
theorem part2 (w n : Nat) (ps : List (Nat × Nat)) (ok : Ok n ps) (d3 : D) (x : Int) (hx : x.natAbs ≤ 1000000000000) (st : Store) : ∃ (y : Int) (i m : Nat) (b : Bool), AtM n ps x y i m b ∧
    denSs (G 19) ((f8.body.drop 2).take 5) [some (.ref w), some (.v (roundD 0 n ps)), some (.v (.int n)), some (.v d3), some (.v (.int x)), none, none, none, none, none, none, none, none, none] st = .nx (E1 w n ps d3 x y i m b none) st := by
  obtain ⟨y, i, m, b, A, e1⟩ := h_Round_month_at 19 (by decide) n ps x ok (by omega)
  refine ⟨y, i, m, b, A, ?_⟩
  have ys := A.s
  have yb : y.natAbs < 2 ^ 100 := by omega
  have e1 := e1.c2
  have e2 := (h_Round_months_of 19 (by decide) n ps y ok yb).c2
  have e3 := (h_Round_begins 19 (by decide) n ps y ok yb).c2
  have e4 := (h_Round_begins 19 (by decide) n ps (y + 1) ok (by omega)).c2
  have e5 : ∀ s, callF (sem T ct 19 14) [.v (roundD 0 n ps), .v (.int y), .v (.int m), .v (.bl b)] s = .ok (.v (.int (begins n ps y + i))) s := h_Round_number_of 19 (by decide) n ps y i m b ok yb A.g
  have it : ∀ s, items (.v (.tup [.int y, .int (m : Int), .bl b])) s = .ok [.v (.int y), .v (.int m), .v (.bl b)] s := fun _ => rfl
  have md : D.tup [.int (m : Int), .bl b] = moD (m, b) := rfl
  have F := monsF (tw ps (yIn n y)) fun z hz => tw_mo ok hz
  have ix := fun s => cLs3_indexB (a := moD (m, b)) (xs := monsD (tw ps (yIn n y))) (ok_mons _) (ok_mo _ _) (idxB_map deq_mo (mons_nodup _ fun z hz => tw_mo ok hz) A.g) s
  have xe : begins n ps y + (i : Int) = x := A.a.1.symm
  have bs : begins n ps (y + 1) = begins n ps y + lenI (tw ps (yIn n y)) := begins_succ ok y
  have ln := len_mons (tw ps (yIn n y))
  have nn := nin2 (lenI (tw ps (yIn n y))) 12 13 (by have := F.l; unfold lenI; omega)
  have q1 := q_at n ps
  have q2 := q_mon n ps
  have q3 := q_beg n ps
  have q4 := q_num n ps
  unfold E1
  rw [bs] at e4
  rw [xe] at e5
  generalize moD (m, b) = P at *
  generalize monsD (tw ps (yIn n y)) = L at *
  generalize lenI (tw ps (yIn n y)) = LI at *
  generalize roundD 0 n ps = OO at *
  generalize begins n ps y = B at *
  generalize (m : Int) = MM at *
  generalize (i : Int) = II at *
  have dd : B + LI - B = LI := by omega
  simp [f8, q1, e1, it, q2, e2, ix, md, q3, e3, q4, e5, xe, e4, dd, ln, nn]
theorem cat_mo (a : D) (p : Nat × Bool) : opB .add (.tup [a]) (moD p) = some (.tup [a, .int (p.1 : Int), .bl p.2]) := by simp [opB, moD, show 3 ≤ sizeLine from by decide]
def tri (y : Int) (m : Nat) (b : Bool) : D := .tup [.int y, .int (m : Int), .bl b]
theorem tri_ne (y : Int) (m : Nat) (b : Bool) : opC .ne (tri y m b) (tri y m b) = some false := opC_neS (by simp [tri])
theorem part3 (w n : Nat) (ps : List (Nat × Nat)) (ok : Ok n ps) (d3 : D) (x y : Int) (hx : x.natAbs ≤ 1000000000000) (i m : Nat) (b : Bool) (A : AtM n ps x y i m b) (st : Store) : ∃ (y' : Int) (i' m' : Nat) (b' : Bool), At n ps (x + 1) y' i' ∧ (monsAt n ps y')[i']? = some (m', b') ∧
    denSs (G 19) ((f8.body.drop 7).take 2) (E1 w n ps d3 x y i m b none) st = .nx (E1 w n ps d3 x y i m b (some (.v (tri y' m' b')))) st := by
  have ys := A.s
  have yb : (y + 1).natAbs < 2 ^ 100 := by omega
  have e2 := (h_Round_months_of 19 (by decide) n ps (y + 1) ok yb).c2
  have F := monsF (tw ps (yIn n y)) fun z hz => tw_mo ok hz
  have F1 := monsF (tw ps (yIn n (y + 1))) fun z hz => tw_mo ok hz
  have i0 := ix_mons F1.z
  have c0 := cat_mo (.int (y + 1)) (1, false)
  have ln := len_mons (tw ps (yIn n y))
  have q2 := q_mon n ps
  have bs := begins_succ ok y
  by_cases h : i + 1 < (mons (tw ps (yIn n y))).length
  · obtain ⟨q, hq⟩ : ∃ q, (mons (tw ps (yIn n y)))[i + 1]? = some q := ⟨_, List.getElem?_eq_getElem h⟩
    refine ⟨y, i + 1, q.1, q.2, ⟨by have := A.a.1; omega, h⟩, hq, ?_⟩
    have i1 := ix_mons hq
    have c1 := cat_mo (.int y) q
    have hl : (i : Int) + 1 < lenI (tw ps (yIn n y)) := by unfold lenI; omega
    rw [show ((i + 1 : Nat) : Int) = (i : Int) + 1 by omega] at i1
    unfold E1 tri
    generalize monsD (tw ps (yIn n y)) = L at *
    generalize monsD (tw ps (yIn n (y + 1))) = L1 at *
    generalize lenI (tw ps (yIn n y)) = LI at *
    generalize roundD 0 n ps = OO at *
    generalize moD q = MQ at *
    generalize moD (1, false) = M0 at *
    generalize (q.1 : Int) = QI at *
    generalize (i : Int) = II at *
    have i0' : ∀ s, index (.v (.lst L1)) (.v (.int 0)) s = .ok (.v M0) s := i0
    simp [f8, -index_lst, q2, e2, i0', c0, ln, hl, i1, c1]
  · refine ⟨y + 1, 0, 1, false, ⟨by have := A.a.1; have := A.a.2; unfold monsAt at *; omega, by have := F1.l; unfold monsAt; omega⟩, F1.z, ?_⟩
    have hl : ¬ (i : Int) + 1 < lenI (tw ps (yIn n y)) := by unfold lenI; omega
    unfold E1 tri
    have c0' : opB .add (.tup [.int (y + 1)]) (moD (1, false)) = some (.tup [.int (y + 1), .int ((1 : Nat) : Int), .bl false]) := c0
    generalize monsD (tw ps (yIn n y)) = L at *
    generalize monsD (tw ps (yIn n (y + 1))) = L1 at *
    generalize lenI (tw ps (yIn n y)) = LI at *
    generalize roundD 0 n ps = OO at *
    generalize moD (1, false) = M0 at *
    generalize ((1 : Nat) : Int) = QI at *
    generalize (i : Int) = II at *
    have i0' : ∀ s, index (.v (.lst L1)) (.v (.int 0)) s = .ok (.v M0) s := i0
    simp [f8, -index_lst, q2, e2, i0', c0', ln, hl]
theorem names_lc (o : Option Nat) (o0 o1 o2 o3 o4 o5 o6 o7 o8 o9 o10 o11 : Option R) (st : Store) (hl : (mons o).length ≤ 100000) : kLc (G 19) false (.var 12) (.many [12, 13]) none [o0, o1, o2, o3, o4, o5, o6, o7, o8, o9, o10, o11, none, none] ((monsD o).map R.v) st = .ok (.v (.lst ((nmI o).map D.int))) st := by
  have e : (monsD o).map R.v = (mons o).map fun p => R.v (moD p) := by simp [monsD]
  rw [e, kLc_fm (h := fun p => some (.int (p.1 : Int))) _ _ _ (by
    exact hl) (fun p hp => by simp [lcF_at, moD]), filterMap_some]
  simp [nmI]
theorem ways_lc (o : Option Nat) (o0 o1 o2 o3 o4 o5 o6 o7 o8 o9 o10 o11 : Option R) (st : Store) (hl : (mons o).length ≤ 100000) : kLc (G 19) false (.var 13) (.many [12, 13]) none [o0, o1, o2, o3, o4, o5, o6, o7, o8, o9, o10, o11, none, none] ((monsD o).map R.v) st = .ok (.v (.lst ((mons o).map fun p => D.bl p.2))) st := by
  have e : (monsD o).map R.v = (mons o).map fun p => R.v (moD p) := by simp [monsD]
  rw [e, kLc_fm (h := fun p => some (.bl p.2)) _ _ _ hl (fun p hp => by simp [lcF_at, moD]), filterMap_some]
theorem ways_cnt {o : Option Nat} (F : MonsF o) (st : Store) : cLs3 .count (.v (.bl true)) ((mons o).map fun p => D.bl p.2) st = .ok (.v (.int (lenI o - 12))) st := by
  have h0 : allI ((mons o).map fun p => D.bl p.2) = none := by
    have := F.l
    cases h : mons o with
    | nil => rw [h] at this; simp at this
    | cons p l => rfl
  rw [cLs3_countB h0 (by rw [okD_lst]; exact okDs_all fun x hx => by obtain ⟨p, _, rfl⟩ := List.mem_map.mp hx; simp) (by simp)]
  congr 3
  rw [List.countP_map]
  have e : ((fun z => deqB z (.bl true)) ∘ fun (p : Nat × Bool) => D.bl p.2) = fun (p : Nat × Bool) => p.2 := by
    funext p
    simp
  rw [e]
  have := F.c
  unfold lenI
  omega
theorem part4 (w n : Nat) (ps : List (Nat × Nat)) (ok : Ok n ps) (d3 : D) (x y : Int) (hx : x.natAbs ≤ 1000000000000) (i m : Nat) (b : Bool) (A : AtM n ps x y i m b) (y' : Int) (i' m' : Nat) (b' : Bool) (a' : At n ps (x + 1) y' i') (g' : (monsAt n ps y')[i']? = some (m', b')) (st : Store) :
    denSs (G 19) (f8.body.drop 9) (E1 w n ps d3 x y i m b (some (.v (tri y' m' b')))) st = .rt (.v (.bl true)) st := by
  have ys := A.s
  have n1 := ok.n1
  have tb := total_bd ok
  obtain ⟨y2, i2, m2, b2, A2, e1⟩ := h_Round_month_at 19 (by decide) n ps (x + 1) ok (by omega)
  obtain ⟨rfl, rfl, rfl, rfl⟩ := A2.uniq ok a' g'
  have lt := begins_later ok y
  have later : At n ps (x + (total n ps : Nat)) (y + n) i := ⟨by rw [lt.1]; have := A.a.1; omega, by rw [lt.2]; exact A.a.2⟩
  obtain ⟨y3, i3, m3, b3, A3, e2⟩ := h_Round_month_at 19 (by decide) n ps (x + (total n ps : Nat)) ok (by omega)
  obtain ⟨rfl, rfl, rfl, rfl⟩ := A3.uniq ok later (by rw [lt.2]; exact A.g)
  have lb := begins_later ok (y - n)
  rw [show y - (n : Int) + n = y by omega] at lb
  have f1 := e1.c2
  have f2 := e2.c2
  have e3 := (h_Round_in_all 19 (by decide) n ps).c1
  have e4 := (h_Round_months_of 19 (by decide) n ps (y - n) ok (by omega)).c2
  have e5 := (h_Round_begins 19 (by decide) n ps (y - n) ok (by omega)).c2
  have e6 := (h_Round_begins 19 (by decide) n ps y ok (by omega)).c2
  have F := monsF (tw ps (yIn n y)) fun z hz => tw_mo ok hz
  have em : monsD (tw ps (yIn n (y - n))) = monsD (tw ps (yIn n y)) := by
    have := lb.2
    unfold monsAt at this
    rw [monsD, monsD, this]
  rw [em] at e4
  have nm := fun o0 o1 o2 o3 o4 o5 o6 o7 o8 o9 o10 o11 s => names_lc (tw ps (yIn n y)) o0 o1 o2 o3 o4 o5 o6 o7 o8 o9 o10 o11 s (by have := F.l; omega)
  have wy := fun o0 o1 o2 o3 o4 o5 o6 o7 o8 o9 o10 o11 s => ways_lc (tw ps (yIn n y)) o0 o1 o2 o3 o4 o5 o6 o7 o8 o9 o10 o11 s (by have := F.l; omega)
  have cn := ways_cnt F
  have so : opF .sorted [.lst ((nmI (tw ps (yIn n y))).map D.int)] = some (.lst ((nmI (tw ps (yIn n y))).map D.int)) := by
    show ((allI ((nmI (tw ps (yIn n y))).map D.int)).map fun ns => D.lst ((sortI ns).map D.int)) = _
    rw [allI_ints, Option.map_some, F.sort]
  have se := F.set
  have okn : okD 64 (.lst ((nmI (tw ps (yIn n y))).map D.int)) = true := by rw [okD_lst]; exact okDs_all fun z hz => by obtain ⟨p, _, rfl⟩ := List.mem_map.mp hz; simp
  have r1 := opC_neS okn
  have okl : okD 64 (.lst (l12.map D.int)) = true := by simp [l12]
  have r2 := opC_neS okl
  have lr : ∀ s, cLrng2 (.v (.int 1)) (.v (.int 13)) s = .ok (.v (.lst (l12.map D.int))) s := fun s => by rw [cLrng2_ok _ _ _ (by decide) (by decide) (by decide) (by decide)]; rfl
  have r3 := opC_neS (ok_mons (tw ps (yIn n y)))
  have t1 := tri_ne y2 m2 b2
  have t2 := tri_ne (y + n) m3 b3
  have ln := len_mons (tw ps (yIn n y))
  have q1 := q_at n ps
  have q2 := q_mon n ps
  have q3 := q_beg n ps
  have q5 := q_all n ps
  have bd : begins n ps (y - n) = begins n ps y - (total n ps : Nat) := by have := lb.1; omega
  rw [bd] at e5
  have td : D.tup [.int (y + n), .int (m3 : Int), .bl b3] = tri (y + n) m3 b3 := rfl
  have td2 : D.tup [.int y2, .int (m2 : Int), .bl b2] = tri y2 m2 b2 := rfl
  rw [td2] at f1
  rw [td] at f2
  unfold E1
  generalize tri y2 m2 b2 = T1 at *
  generalize tri (y + n) m3 b3 = T2 at *
  generalize (nmI (tw ps (yIn n y))).map D.int = NI at *
  generalize ((mons (tw ps (yIn n y))).map fun p => D.bl p.2) = WB at *
  generalize monsD (tw ps (yIn n y)) = L at *
  generalize lenI (tw ps (yIn n y)) = LI at *
  generalize roundD 0 n ps = OO at *
  generalize begins n ps y = B at *
  generalize ((total n ps : Nat) : Int) = TT at *
  generalize (m3 : Int) = MM at *
  generalize (n : Int) = NN at *
  simp [f8, q1, f1, t1, q5, e3, f2, td, t2, q2, e4, r3, q3, e5, e6, nm, so, r1, se, lr, r2, wy, cn, ln]
theorem right_ok (w n : Nat) (ps : List (Nat × Nat)) (ok : Ok n ps) (K : Nat) (st : Store) (hw : Wl w K st) (hK : K + 10 < 1000000) : ∃ st', sem T ct 20 8 [.ref w, .v (roundD 0 n ps), .v (.int n)] st = .ok (.v (.bl true)) st' ∧ Wl w (K + 3) st' ∧ Only w st st' := by
  obtain ⟨x, d3, st', hx, hw', ho, e1⟩ := drawn_number w K st hw hK (some (.v (roundD 0 n ps))) (some (.v (.int n)))
  obtain ⟨y, i, m, b, A, e2⟩ := part2 w n ps ok d3 x hx st'
  obtain ⟨y', i', m', b', a', g', e3⟩ := part3 w n ps ok d3 x y hx i m b A st'
  have e4 := part4 w n ps ok d3 x y hx i m b A y' i' m' b' a' g' st'
  refine ⟨st', ?_, hw', ho⟩
  rw [sm (k := 19) (fn := f8) rfl]
  unfold denF
  have hd : f8.body = f8.body.take 2 ++ ((f8.body.drop 2).take 5 ++ ((f8.body.drop 7).take 2 ++ f8.body.drop 9)) := rfl
  rw [hd, denSs_app]
  show OutS.back ((denSs (G 19) (f8.body.take 2) [some (.ref w), some (.v (roundD 0 n ps)), some (.v (.int n)), none, none, none, none, none, none, none, none, none, none, none] st).seq _) = _
  rw [e1, OutS.seq_nx, denSs_app, e2, OutS.seq_nx, denSs_app, e3, OutS.seq_nx, e4]
  rfl
def inner : List Sm := [.ite (.not (.call 8 [(.var 2), (.var 3), (.var 5)] [.inl 0, .inl 1, .inl 2])) [.ret (.con (D.bl false))] []]
theorem inner_loop (w n : Nat) (ps : List (Nat × Nat)) (ok : Ok n ps) (o0 o1 o6 : Option R) : ∀ (m k K : Nat) (st : Store) (o4 : Option R), Wl w K st → K + 3 * m + 10 < 1000000 → ∃ o4' st', FR (G 20) (.one 4) inner ((List.range' k m).map fun (j : Nat) => R.v (.int (j : Int))) [o0, o1, some (.ref w), some (.v (roundD 0 n ps)), o4, some (.v (.int n)), o6] st = .nx [o0, o1, some (.ref w), some (.v (roundD 0 n ps)), o4', some (.v (.int n)), o6] st'
  | 0, k, K, st, o4, _, _ => ⟨o4, st, FR_nil ..⟩
  | m + 1, k, K, st, o4, hw, hK => by
    obtain ⟨st1, e1, w1, s1⟩ := right_ok w n ps ok K st hw (by omega)
    obtain ⟨o4', st', e⟩ := inner_loop w n ps ok o0 o1 o6 m (k + 1) (K + 3) st1 (some (.v (.int (k : Int)))) w1 (by omega)
    refine ⟨o4', st', ?_⟩
    rw [List.range'_succ, List.map_cons, FR_cons, bind_one, Out.to_ok, kFr1_at]
    generalize roundD 0 n ps = OO at *
    generalize (n : Int) = NN at *
    generalize ((List.range' (k + 1) m).map fun (j : Nat) => R.v (.int (j : Int))) = RL at *
    generalize (k : Int) = KK at *
    have e' := e
    unfold inner at e'
    simp [inner, e1, e']
def outer : List Sm := match f0.body with
  | [.frr _ _ b, _] => b
  | _ => []
theorem outer_ok (c : Int) (o0 o2 o3 o4 o5 o6 : Option R) (st : Store) : Goes (denSs (G 20) outer [o0, some (.v (.int c)), o2, o3, o4, o5, o6] st) fun ρ _ => ρ.length = 7 := by
  obtain ⟨a, b, ha, hb, hb2, e1⟩ := h_law_well 20 (by decide) c st
  have w0 := wl_new (st := st) ha hb hb2
  obtain ⟨d, st2, hd, e2, w2, s2⟩ := h_law_one 20 (by decide) st.length 0 _ [.int 1, .int 8, .int 19, .int 300, .int 1000] w0 (by decide) (by simp) (by simp)
  obtain ⟨top, rfl, t1, t2⟩ : ∃ top : Nat, d = .int top ∧ 1 ≤ top ∧ top ≤ 1000 := by
    simp only [List.mem_cons, List.not_mem_nil, or_false] at hd
    rcases hd with rfl | rfl | rfl | rfl | rfl
    · exact ⟨1, rfl, by decide, by decide⟩
    · exact ⟨8, rfl, by decide, by decide⟩
    · exact ⟨19, rfl, by decide, by decide⟩
    · exact ⟨300, rfl, by decide, by decide⟩
    · exact ⟨1000, rfl, by decide, by decide⟩
  obtain ⟨n, ps, st3, ht, ok, e3, w3, s3⟩ := h_law_drawn_round 20 (by decide) st.length 1 st2 top w2 (by decide) t1 t2
  have e4 := fun s => cNew_round (h_Round_new 20 (by decide)) ok s
  have n0 := ok.n0
  have n1 := ok.n1
  have e5 := (h_Round_begins 20 (by decide) n ps 0 ok (by decide)).c2
  have e6 := (h_Round_begins 20 (by decide) n ps n ok (by omega)).c2
  have e7 := (h_Round_in_all 20 (by decide) n ps).c1
  have b0 : begins n ps 0 = 0 := by
    have : yIn n 0 = 0 := by unfold yIn; simp
    unfold begins
    rw [this, starts_zero]; simp
  have bn : begins n ps n = (total n ps : Nat) := by
    have := (begins_later ok 0).1
    rw [b0, Int.zero_add, Int.zero_add] at this; exact this
  rw [b0] at e5
  rw [bn] at e6
  obtain ⟨o4', st', e8⟩ := inner_loop st.length n ps ok o0 (some (.v (.int c))) (some (.v (.lst (prsD ps)))) 6 0 (1 + 3000) st3 o4 w3 (by decide)
  have q1 := q_all n ps
  have q3 := q_beg n ps
  have rg : ∀ s, itRng 0 6 s = .ok ((List.range' 0 6).map fun (j : Nat) => R.v (.int (j : Int))) s := fun s => by rw [← List.range_eq_range']; exact rng0_ok s 6 (by decide)
  have it : ∀ s, items (.v (.tup [.int (n : Int), .lst (prsD ps)])) s = .ok [.v (.int n), .v (.lst (prsD ps))] s := fun _ => rfl
  have hdef : outer = [.asg 2 (.callT 2 [(.var 1)] [.inl 0]), .unp [5, 6] (.call 3 [(.var 2), (.call 4 [(.var 2), (.lst false [(.con (D.int 1)), (.con (D.int 8)), (.con (D.int 19)), (.con (D.int 300)), (.con (D.int 1000))])] [.inl 0, .inl 1])] [.inl 0, .inl 1]), .asg 3 (.new false 0 5 [(.var 5), (.var 6)] [.inl 0, .inl 1, .inl 2]), .ite (.or (.cmp .ne (.mth (.var 3) "begins" [(.con (D.int 0))] [.inl 0, .inl 1]) (.con (D.int 0))) (.cmp .ne (.mth (.var 3) "begins" [(.var 5)] [.inl 0, .inl 1]) (.mth (.var 3) "in_all" [] [.inl 0]))) [.ret (.con (D.bl false))] [], .frr (.one 4) (.rng (.con (D.int 6))) inner] := rfl
  refine ⟨[o0, some (.v (.int c)), some (.ref st.length), some (.v (roundD 0 n ps)), o4', some (.v (.int n)), some (.v (.lst (prsD ps)))], st', ?_, rfl⟩
  rw [hdef]
  generalize roundD 0 n ps = OO at *
  generalize prsD ps = PS at *
  generalize (n : Int) = NN at *
  generalize (top : Int) = TP at *
  generalize ((total n ps : Nat) : Int) = TT at *
  generalize ((List.range' 0 6).map fun (j : Nat) => R.v (.int (j : Int))) = RL at *
  generalize hS : st ++ [wellC a b 0] = S0 at *
  generalize st.length = LL at *
  simp [e1, e2, e3, it, e4, q3, e5, q1, e6, e7, rg, e8]
theorem law_true (ns : List Int) (hl : ns.length ≤ 63) : ∃ st, sem (tab.map (·.fn)) m.ct (depth + 1) 0 [.v (.lst (ns.map D.int))] [] = .ok (.v (.bl true)) st := by
  show ∃ st, sem T ct (20 + 1) 0 _ _ = _
  rw [sm (fn := f0) rfl]
  refine law_frame3 (N := 8) (n := 5) (outer := outer) (h_law_cell_at 20 (by decide)) rfl rfl (fun c o0 os st ho => ?_) ns hl
  match os, ho with
  | [o2, o3, o4, o5, o6], _ => exact outer_ok c o0 o2 o3 o4 o5 o6 st
end K63

set_option maxRecDepth 100000
set_option maxHeartbeats 0
namespace K63
open PySem PySem.Spec PyProof.Rows SV
open L2 hiding It
abbrev R : PySem.W.OpenRow := PySem.W.OpenLaw.row PySem.Challenge.rw_tabletsky_k63_whole_months_one_behind_an
abbrev hk : PySem.W.Hook := hookV 5 m itab (tab.map (·.d) ++ itab.map (·.d))
def ob (s : PySem.W.SharedT) : AlV := obsV 5 m itab (tab.map (·.d) ++ itab.map (·.d)) (HandSHeadRun.getT s)
theorem ob_eq (s : PySem.W.SharedT) : ob s = hk.obs s.abs := obsV_eq (HandSHeadRun.getT_eq s)
def loose : List PySem.Str := (["SkyError", "NoRule", "NoMonth", "is_whole", "MOST_YEARS", "TWELVE", "is_from", "are_doubled", "Round", "_law_cell_at", "_law_well", "_law_draw", "_law_one", "_law_drawn_round", "_law_all_months", "_law_month", "_law_right"] : List PySem.Str)
abbrev qv : Program := PySem.W.view R.prog [21]
theorem run (w : World) : HandSHeadRun.RunEq R qv hk ob 6000 loose w := by
  intro os
  kernel_rfl
end K63
open PySem PySem.W PySem.Calls PyProof.Rows SV
theorem PySem.Challenge.cw_tabletsky_k63_whole_months_one_behind_an_holds : PySem.Challenge.rw_tabletsky_k63_whole_months_one_behind_an.Holds := by
  w_on; o_law
  refine HandSHeadRun.head_any (r := OpenLaw.row PySem.Challenge.rw_tabletsky_k63_whole_months_one_behind_an) (q := K63.qv) (H := K63.hk) (ob := K63.ob) (M := 6000) (loose := K63.loose) (d := HandSHeadRun.topDef (OpenLaw.row PySem.Challenge.rw_tabletsky_k63_whole_months_one_behind_an).prog 21) (kwd := []) K63.ob_eq
    (by kernel_rfl) (fun s => by kernel_rfl) K63.run (by kernel_rfl) (by kernel_rfl) (by kernel_rfl) (by rfl) (by first | assumption | decide +kernel) (by decide +kernel) ⟨rfl, rfl, rfl, rfl, rfl, by decide +kernel⟩ ?hw ?hc
  case hw => w_witness2
  case hc =>
    exact walk_sv (l := PySem.Challenge.rw_tabletsky_k63_whole_months_one_behind_an) (n := 63) (k := K63.depth) (li := 0) (x := "_law_script") rfl (by decide) (by kernel_rfl) ⟨rfl, by decide, by decide⟩ K63.mt_ok rfl K63.tab_ok K63.it_ok K63.pats_ok K63.ib_ok rfl rfl (by kernel_rfl) rfl
      (fun s e K f fd F => by cases e; exact fun s v => L2.FunD.bindsA (ps := ["_law_script"]) F (fun _ _ _ _ _ _ us hl => match us, hl with | [_], _ => rfl) s [v] rfl) K63.law_true
