import PyProof.Rows.All
import HandS.ForMost
import HandS.ForExc
import HandS.Style
import HandS.Deep
import HandS.IsInst
import HandS.TupAny
import HandS.SortInts
import HandS.Defaults
import HandS.ListEq
import HandS.Small
import HandS.Zip
import HandS.Rev
import HandS.WordsExc
import KE.LtData
import KE.DataCmp
import KE.SortData
import HandS.Wide
import HandS.WideBits
import HandS.HeadHook1
import HandS.TupMul
import HandS.Strs
import HandS.SetFor
import KE.KTupSum
import HandS.Iter
import KE.KDictZip
import KE.KDictKeyed
import KE.GoesMore
import KE.GoesEnum
import HandS.Dict
import HandS.ExcOwn
import HandS.HeadEnd
import HandS.HeadHook2
import PyProof.ReprRoads
import HandS.More
import HandS.DictTup
import HandS.NoneIn
import HandS.Conv
import HandS.SortKw
import HandS.Head0
import HandS.Head1
import HandS.Head2
import HandS.HeadHook4
import PySem.Challenge.RW_lessmore_k27_lists_that_fall_apart
set_option Elab.async false
set_option linter.all false
/-! Pd0: data, a small syntax without places, and what it computes. -/
namespace Pd
open PySem L2
/-- a dict's key: an int, a text, or a tuple of such -/
abbrev Ky := Sum Key (List Key)
inductive D where
  | non | bl (b : Bool) | int (i : Int) | str (x : Str)
  | tup (ds : List D) | lst (ds : List D) | scr (ns : List Int)
  | dct (ks : List Ky) (ds : List D)
  | dtp (ks : List (List Key)) (ds : List D)
  | dtu (ks : List (List Key)) (ds : List D)
  | kt (ns : List Int)
  | set (ks : List Ky)
  | obj (c : Str) (fs : List Str) (ds : List D)
  | exc (c : Str) (fs : List Str) (ds : List D)
  | lam (k : Nat) (ds : List D)
  deriving Inhabited
/-- a slot: unset, frozen, owned, borrowed, lent -/
inductive Sl where
  | no | fr (d : D) | ow (d : D) | bo (d : D) | io (d : D) | le (d : D)
  deriving Inhabited
abbrev Env := List Sl
def Sl.val : Sl → Option D
  | .no => none | .fr d => some d | .ow d => some d | .bo d => some d | .io d => some d | .le d => some d
inductive Res (α : Type) where
  | ok (a : α) | ex (x : D) (ρ : Env) | no
def Res.bind {α β : Type} (r : Res α) (f : α → Res β) : Res β :=
  match r with
  | .ok a => f a
  | .ex x ρ => .ex x ρ
  | .no => .no
instance : Monad Res where
  pure := Res.ok
  bind := Res.bind
@[simp] theorem bind_ok {α β : Type} (a : α) (f : α → Res β) : (Res.ok a >>= f) = f a := rfl
@[simp] theorem bind_no {α β : Type} (f : α → Res β) : ((Res.no : Res α) >>= f) = .no := rfl
@[simp] theorem bind_ex {α β : Type} (x : D) (ρ : Env) (f : α → Res β) : ((Res.ex x ρ : Res α) >>= f) = .ex x ρ := rfl
@[simp] theorem pure_ok {α : Type} (a : α) : (pure a : Res α) = .ok a := rfl
theorem bind_eq_ok {α β : Type} {r : Res α} {f : α → Res β} {b : β} (h : (r >>= f) = .ok b) : ∃ a, r = .ok a ∧ f a = .ok b := by
  cases r with
  | ok a => exact ⟨a, rfl, h⟩
  | ex x ρ => cases h
  | no => cases h
/-- what a call gives: owned or not, the value, what the lent arguments are behind it -/
inductive CR where
  | ok (own : Bool) (d : D) (outs : List D) | ex (x : D) | no
/-- how a parameter is held: frozen, borrowed, lent -/
inductive Kd where
  | fr | bo | io
  deriving DecidableEq, Inhabited
inductive Bi where
  | len | abs | sum | min | max | sorted | tuple | list | int | bool | all | any | isinst | str | repr | set | dict | rangeL | rangeL2 | zipL
  deriving DecidableEq, Inhabited
/-- classes that isinstance asks for -/
inductive Ty where
  | int | bool | str | tuple | list | dict | none
  deriving DecidableEq, Inhabited
inductive Me where
  | index | count | get | get2 | keysM | split | join | items | values
  deriving DecidableEq, Inhabited
/-- methods that change their list or dict -/
inductive Mu where
  | append | reverse | clear | update | extend | insert | remove
  deriving DecidableEq, Inhabited
inductive Ex where
  | bad | nil
  | var (i : Nat) | non | bl (b : Bool) | int (i : Int) | str (x : Str) | cst (x : Str)
  | tup (es : List Ex) | lst (es : List Ex) | dct (ks : List Str) (es : List Ex)
  | bin (o : Operator) (a b : Ex) | neg (a : Ex) | not (a : Ex)
  | cmp (o : CmpOp) (a b : Ex) | chn (o1 o2 : CmpOp) (a b c : Ex)
  | and (a b : Ex) | or (a b : Ex) | ite (c a b : Ex)
  | ix (a b : Ex) | sl (a lo hi : Ex) | rev (a : Ex)
  | fld (a : Ex) (f : Str)
  | call (f : Str) (es : List Ex)
  | mk (c : Str) (es : List Ex)
  | own (a : Ex) (m : Str) (es : List Ex)
  | bi (f : Bi) (es : List Ex)
  | isi (a : Ex) (t : Ty)
  | isc (a : Ex) (c : Str)
  | me (m : Me) (a : Ex) (es : List Ex)
  | pop (i : Nat) (e : Ex)
  | comp (elt : Ex) (tg : List Nat) (one : Bool) (it : Ex) (cond : Ex) (own : List Nat)
  | sortedR (e : Ex) | rgs (t : Bool) (a : Ex) | meet (a b : Ex) | sset (a : Ex) | tin (neg : Bool) (x : Str) (a : Ex) | tget (x : Str) (a : Ex) | tgetE (x : Str) (a : Ex) | dzip (es : List Ex) | dprs (a : Ex) | emp | lkv (i : Nat) | sit (i : Nat)
  | itr (a : Ex) | rng1 (a : Ex) | rng2 (a b : Ex) | zip (a b : Ex) | enum (a : Ex) | revd (a : Ex)
  deriving Inhabited
inductive Sx where
  | bad | pass | expr (e : Ex)
  | set (i : Nat) (e : Ex) | setT (is : List Nat) (e : Ex) | setP (is : List Nat) (es : List Ex)
  | setIx (i : Nat) (k e : Ex) | setF (i : Nat) (f : Str) (e : Ex)
  | aug (i : Nat) (o : Operator) (e : Ex)
  | mu (i : Nat) (m : Mu) (es : List Ex)
  | ret (e : Ex) | ite (c : Ex) (a b : List Sx)
  | whl (c : Ex) (body : List Sx) | forr (tg : List Nat) (one : Bool) (it : Ex) (body : List Sx)
  | rais (e : Ex) | cont | brk
  deriving Inhabited
/-! ### operations by values -/
def keyD : Key → D
  | .inl i => .int i
  | .inr s => .str s
def toKey : D → Option Key
  | .int i => some (.inl i)
  | .str s => some (.inr s)
  | _ => none
def toKeys : List D → Option (List Key)
  | [] => some []
  | d :: ds => match toKey d, toKeys ds with
    | some k, some ks => some (k :: ks)
    | _, _ => none
def dgetL (k : Ky) : List Ky → List D → Option D
  | k' :: ks, d :: ds => if k' = k then some d else dgetL k ks ds
  | _, _ => none
def dputL (k : Ky) (v : D) (ks : List Ky) (ds : List D) : List Ky × List D :=
  if (ks.any fun k' => decide (k' = k)) = true then (ks, List.zipWith (fun k' d => if k' = k then v else d) ks ds) else (ks ++ [k], ds ++ [v])
/-- by keys of any kind -/
def dgetG {κ : Type} [DecidableEq κ] (k : κ) : List κ → List D → Option D
  | k' :: ks, d :: ds => if k' = k then some d else dgetG k ks ds
  | _, _ => none
def dputG {κ : Type} [DecidableEq κ] (k : κ) (v : D) (ks : List κ) (ds : List D) : List κ × List D :=
  if (ks.any fun k' => decide (k' = k)) = true then (ks, List.zipWith (fun k' d => if k' = k then v else d) ks ds) else (ks ++ [k], ds ++ [v])
def dmrg {κ : Type} [DecidableEq κ] : List κ → List D → List κ × List D → List κ × List D
  | k :: ks, d :: ds, acc => dmrg ks ds (dputG k d acc.1 acc.2)
  | _, _, acc => acc
/-- a class's method -/
def mth (c m : Str) : Str := c ++ ("." ++ m)
/-! pure data, for == and order -/
mutual
def toPy : D → Option PyData
  | .non => some .none
  | .bl b => some (.bool b)
  | .int i => some (.int i)
  | .str x => some (.str x)
  | .tup ds => (toPys ds).map .tuple
  | .lst ds => (toPys ds).map .list
  | _ => none
def toPys : List D → Option (List PyData)
  | [] => some []
  | d :: ds => match toPy d, toPys ds with
    | some p, some ps => some (p :: ps)
    | _, _ => none
end
def shp (p : PyData) : Bool := p.canLay0 && decide (p.depth ≤ 60)
def shps (ps : List PyData) : Bool := PyData.canLayAll0 ps && decide (PyData.depthAll ps ≤ 60)
def eqD (a b : D) : Option Bool := match toPy a, toPy b with
  | some p, some q => if (shp p && shp q) = true then some (PyData.eqv p q) else none
  | _, _ => none
def inD (a : D) (ds : List D) : Option Bool := match toPy a, toPys ds with
  | some p, some qs => if (shp p && shps qs) = true then some (qs.any fun z => PyData.eqv z p) else none
  | _, _ => none
def notNone : PyData → Bool
  | .none => false
  | _ => true
def ltD (a b : D) : Option Bool := match toPy a, toPy b with
  | some p, some q => if (shp p && shp q && PySem.W.alike p q && notNone p) = true then some (PySem.W.dataLt p q) else none
  | _, _ => none
def mulOk (i j : Int) : Prop := i.natAbs.log2 + j.natAbs.log2 < 1000000
instance (i j : Int) : Decidable (mulOk i j) := inferInstanceAs (Decidable (_ < _))
def intsD : List D → Option (List Int)
  | [] => some []
  | .int i :: ds => (intsD ds).map (i :: ·)
  | _ => none
def blsD : List D → Option (List Bool)
  | [] => some []
  | .bl i :: ds => (blsD ds).map (i :: ·)
  | _ => none
def seqD : D → Option (List D)
  | .tup ds => some ds
  | .lst ds => some ds
  | .scr ns => some (ns.map .int)
  | .kt ns => some (ns.map .int)
  | _ => none
/-- a dict's key, when it is walked -/
def tupK (k : List Key) : D := .tup (k.map keyD)
/-- what can be walked: also a dict by tuples -/
def itrD : D → Option (List D)
  | .dtp ks _ => some (ks.map tupK)
  | d => seqD d
def binD : Operator → D → D → Option (Bool × D)
  | .Add, .int i, .int j => some (false, .int (i + j))
  | .Add, .tup xs, .tup ys => if xs.length + ys.length ≤ sizeLine then some (false, .tup (xs ++ ys)) else none
  | .Add, .lst xs, .lst ys => if xs.length + ys.length ≤ sizeLine then some (true, .lst (xs ++ ys)) else none
  | .Sub, .int i, .int j => some (false, .int (i - j))
  | .Mult, .int i, .int j => if mulOk i j then some (false, .int (i * j)) else none
  | .Mult, .tup xs, .int k => if xs.isEmpty = false ∧ 1 ≤ k ∧ k ≤ 1000 ∧ xs.length ≤ 1000 then some (false, .tup (List.replicate k.toNat xs).flatten) else none
  | .Mult, .lst xs, .int k => if xs.length * k.toNat ≤ sizeLine ∧ k < 1000000 ∧ -1000000 < k then some (true, .lst (List.replicate k.toNat xs).flatten) else none
  | .FloorDiv, .int i, .int j => if j ≠ 0 ∧ j.natAbs.log2 < 9000 then some (false, .int (i.fdiv j)) else none
  | .Mod, .int i, .int j => if j ≠ 0 then some (false, .int (i.fmod j)) else none
  | .Pow, .int i, .int j => if 0 ≤ j ∧ j ≤ 100000 ∧ i.natAbs < 2 ^ 64 then some (false, .int (i ^ j.toNat)) else none
  | .LShift, .int i, .int j => if 0 ≤ j ∧ j ≤ 100000 ∧ i.natAbs < 2 ^ 64 then some (false, .int (i * 2 ^ j.toNat)) else none
  | _, _, _ => none
/-- is .. None, True, False -/
def isD (a b : D) : Option Bool := match b, a with
  | .non, .non => some true
  | .non, _ => some false
  | .bl b, .bl a => some (a == b)
  | .bl _, .lst _ => none
  | .bl _, _ => none
  | _, _ => none
def cmpD : CmpOp → D → D → Option Bool
  | .Eq, a, b => eqD a b
  | .NotEq, a, b => (eqD a b).map (!·)
  | .Lt, a, b => match a, b with
    | .int i, .int j => some (decide (i < j))
    | a, b => ltD a b
  | .LtE, a, b => match a, b with
    | .int i, .int j => some (decide (i ≤ j))
    | _, _ => none
  | .Gt, a, b => match a, b with
    | .int i, .int j => some (decide (j < i))
    | _, _ => none
  | .GtE, a, b => match a, b with
    | .int i, .int j => some (decide (j ≤ i))
    | _, _ => none
  | .In, a, b => match b with
    | .tup ds => inD a ds
    | .lst ds => inD a ds
    | _ => none
  | .NotIn, a, b => match b with
    | .tup ds => (inD a ds).map (!·)
    | .lst ds => (inD a ds).map (!·)
    | _ => none
  | .Is, a, b => isD a b
  | .IsNot, a, b => (isD a b).map (!·)
def ixD : D → D → Option D
  | .tup ds, .int i => atI ds i
  | .lst ds, .int i => atI ds i
  | .scr ns, .int i => (atI ns i).map .int
  | .dct ks ds, k => (toKey k).bind fun k => dgetL (.inl k) ks ds
  | .dtp ks ds, .tup xs => (toKeys xs).bind fun k => dgetG k ks ds
  | _, _ => none
def cutD {α : Type} (ds : List α) (lo hi : Option Int) : List α := (ds.drop (HT.sIx ds.length 0 lo)).take (HT.sIx ds.length ds.length hi - HT.sIx ds.length 0 lo)
def slD : D → Option Int → Option Int → Option (Bool × D)
  | .tup ds, lo, hi => some (false, .tup (cutD ds lo hi))
  | .lst ds, lo, hi => some (true, .lst (cutD ds lo hi))
  | _, _, _ => none
def isiD : D → Ty → Option Bool
  | .non, t => some (t == .none)
  | .bl _, t => some (t == .bool || t == .int)
  | .int _, t => some (t == .int)
  | .str _, t => some (t == .str)
  | .tup _, t => some (t == .tuple)
  | .lst _, t => some (t == .list)
  | .scr _, t => some (t == .list)
  | .dct _ _, t => some (t == .dict)
  | _, _ => none
/-- order of data -/
def pyT (d : D) : PyData := (toPy d).getD .none
def leD (rev : Bool) : D → D → Bool := PySem.W.dataLe rev pyT
def tupNe : PyData → Bool
  | .tuple (_ :: _) => true
  | _ => false
def tupAny : PyData → Bool
  | .tuple _ => true
  | _ => false
def plain1 : PyData → Bool
  | .none => false
  | .tuple _ => false
  | _ => true
def headNil : List PyData → Bool
  | .tuple [] :: _ => true
  | _ => false
def sortableB (ps : List PyData) : Bool := ps.all tupNe || ps.all plain1 || (headNil ps && ps.all tupAny)
def sortOk (ps : List PyData) : Bool := ps.all shp && (ps.all fun p => ps.all fun q => PySem.W.alike p q) && sortableB ps && decide (ps.length ≤ sizeLine)
def sortD (rev : Bool) (ds : List D) : Option (List D) := match toPys ds with
  | some ps => if sortOk ps = true then some (ds.mergeSort (leD rev)) else none
  | none => none
def sortedD (rev : Bool) : D → Option (Bool × D)
  | .lst ds => (sortD rev ds).map fun r => (true, .lst r)
  | .tup ds => (sortD rev ds).map fun r => (true, .lst r)
  | _ => none
/-- what repr shows -/
def reprD (d : D) : Option (Bool × D) := match toPy d with
  | some p => if (p.showable && (shp p && decide (p.shown.length ≤ sizeLine))) = true then some (false, .str p.shown) else none
  | none => none
/-- m, m + 1, .. -/
def rngD (m : Int) (n : Nat) : List D := (List.range n).map fun (k : Nat) => D.int (m + (k : Int))
/-- the least, the greatest -/
def minZ : List Int → Option Int
  | [] => none
  | n :: r => match minZ r with
    | none => some n
    | some m => some (if m < n then m else n)
def maxZ : List Int → Option Int
  | [] => none
  | n :: r => match maxZ r with
    | none => some n
    | some m => some (if n < m then m else n)
theorem minZ_ok : ∀ {ns : List Int} {m : Int}, minZ ns = some m → m ∈ ns ∧ ∀ y ∈ ns, m ≤ y
  | [], m, h => by cases h
  | n :: r, m, h => by
    unfold minZ at h
    cases e : minZ r with
    | none =>
      rw [e] at h
      obtain rfl := Option.some.inj h
      have hr : r = [] := by
        cases r with
        | nil => rfl
        | cons a r => unfold minZ at e; split at e <;> cases e
      subst hr
      exact ⟨List.mem_cons_self, fun y hy => by rw [List.mem_singleton] at hy; omega⟩
    | some k =>
      rw [e] at h
      obtain ⟨h1, h2⟩ := minZ_ok e
      have h3 := Option.some.inj h
      by_cases hk : k < n
      · rw [if_pos hk] at h3
        subst h3
        exact ⟨List.mem_cons_of_mem _ h1, fun y hy => by
          rcases List.mem_cons.mp hy with rfl | hy
          · omega
          · exact h2 y hy⟩
      · rw [if_neg hk] at h3
        subst h3
        exact ⟨List.mem_cons_self, fun y hy => by
          rcases List.mem_cons.mp hy with rfl | hy
          · omega
          · have := h2 y hy; omega⟩
theorem maxZ_ok : ∀ {ns : List Int} {m : Int}, maxZ ns = some m → m ∈ ns ∧ ∀ y ∈ ns, y ≤ m
  | [], m, h => by cases h
  | n :: r, m, h => by
    unfold maxZ at h
    cases e : maxZ r with
    | none =>
      rw [e] at h
      obtain rfl := Option.some.inj h
      have hr : r = [] := by
        cases r with
        | nil => rfl
        | cons a r => unfold maxZ at e; split at e <;> cases e
      subst hr
      exact ⟨List.mem_cons_self, fun y hy => by rw [List.mem_singleton] at hy; omega⟩
    | some k =>
      rw [e] at h
      obtain ⟨h1, h2⟩ := maxZ_ok e
      have h3 := Option.some.inj h
      by_cases hk : n < k
      · rw [if_pos hk] at h3
        subst h3
        exact ⟨List.mem_cons_of_mem _ h1, fun y hy => by
          rcases List.mem_cons.mp hy with rfl | hy
          · omega
          · exact h2 y hy⟩
      · rw [if_neg hk] at h3
        subst h3
        exact ⟨List.mem_cons_self, fun y hy => by
          rcases List.mem_cons.mp hy with rfl | hy
          · omega
          · have := h2 y hy; omega⟩
def biD : Bi → List D → Option (Bool × D)
  | .len, [.tup ds] => some (false, .int ds.length)
  | .len, [.lst ds] => some (false, .int ds.length)
  | .len, [.scr ns] => some (false, .int ns.length)
  | .len, [.str x] => if x.length ≤ sizeLine then some (false, .int x.length) else none
  | .abs, [.int i] => some (false, .int i.natAbs)
  | .sum, [.lst ds] => (intsD ds).map fun is => (false, .int is.sum)
  | .sum, [.tup ds] => (intsD ds).map fun is => (false, .int is.sum)
  | .min, [.int i, .int j] => some (false, .int (if j < i then j else i))
  | .max, [.int i, .int j] => some (false, .int (if j > i then j else i))
  | .min, [.lst ds] => (intsD ds).bind fun is => (minZ is).map fun m => (false, .int m)
  | .max, [.lst ds] => (intsD ds).bind fun is => (maxZ is).map fun m => (false, .int m)
  | .tuple, [.tup ds] => some (false, .tup ds)
  | .tuple, [.lst ds] => some (false, .tup ds)
  | .list, [.tup ds] => some (true, .lst ds)
  | .list, [.lst ds] => some (true, .lst ds)
  | .int, [.int i] => some (false, .int i)
  | .int, [.bl b] => some (false, .int (if b then 1 else 0))
  | .bool, [.bl b] => some (false, .bl b)
  | .all, [.lst ds] => (blsD ds).map fun bs => (false, .bl (bs.all id))
  | .any, [.lst ds] => (blsD ds).map fun bs => (false, .bl (bs.any id))
  | .sorted, [d] => sortedD false d
  | .repr, [d] => reprD d
  | .str, [.int i] => if i.natAbs.log2 < 1920 then some (false, .str (toString i : String)) else none
  | _, _ => none
/-! ### operands and slots -/
inductive Op where
  | s (i : Nat) | d (x : D)
def getOp (ρ : Env) : Op → Option D
  | .s i => match ρ[i]? with
    | some s => s.val
    | none => none
  | .d x => some x
def getOps (ρ : Env) : List Op → Option (List D)
  | [] => some []
  | o :: r => match getOp ρ o, getOps ρ r with
    | some d, some ds => some (d :: ds)
    | _, _ => none
abbrev Rv := Res ((Bool × D) × Env)
/-- a name in a place that keeps it: frozen -/
def varD (i : Nat) (ρ : Env) : Rv := match ρ[i]? with
  | some (.fr d) => .ok ((false, d), ρ)
  | some (.ow d) => .ok ((false, d), ρ.set i (.fr d))
  | _ => .no
/-- a name that has a value -/
def hasV (ρ : Env) (i : Nat) : Bool := (getOp ρ (.s i)).isSome
/-- a name that holds a thing of one's own -/
def mineV (ρ : Env) (i : Nat) : Bool := match ρ[i]? with
  | some (.ow _) => true
  | some (.io _) => true
  | _ => false
def opd (f : Env → Rv) (e : Ex) (ρ : Env) : Res (Op × Env) := match e with
  | .var i => if hasV ρ i = true then .ok (.s i, ρ) else .no
  | _ => f ρ >>= fun ((_, d), ρ') => .ok (.d d, ρ')
def optR (o : Option (Bool × D)) (ρ : Env) : Rv := match o with
  | some (own, d) => .ok ((own, d), ρ)
  | none => .no
/-- an operation of one, of two -/
def op1 (fa : Env → Res (Op × Env)) (f : D → Option (Bool × D)) (ρ : Env) : Rv := fa ρ >>= fun p => match getOp p.2 p.1 with
  | some d => optR (f d) p.2
  | none => .no
def op2 (fa fb : Env → Res (Op × Env)) (f : D → D → Option (Bool × D)) (ρ : Env) : Rv := fa ρ >>= fun p => fb p.2 >>= fun q => match getOp q.2 p.1, getOp q.2 q.1 with
  | some d, some e => optR (f d e) q.2
  | _, _ => .no
def negD : D → Option (Bool × D)
  | .int i => some (false, .int (-i))
  | _ => none
def notD : D → Option (Bool × D)
  | .bl b => some (false, .bl (!b))
  | _ => none
def cmpV (o : CmpOp) (d e : D) : Option (Bool × D) := (cmpD o d e).map fun k => (false, .bl k)
def ixV (d e : D) : Option (Bool × D) := (ixD d e).map fun r => (false, r)
def isiV (t : Ty) (d : D) : Option (Bool × D) := (isiD d t).map fun k => (false, .bl k)
def sortRD : D → Option (Bool × D) := sortedD true
def revD : D → Option (Bool × D)
  | .lst ds => some (true, .lst ds.reverse)
  | .tup ds => some (false, .tup ds.reverse)
  | _ => none
/-- rising, each once -/
def insU (x : Int) : List Int → List Int
  | [] => [x]
  | y :: r => if x < y then x :: y :: r else if x = y then y :: r else y :: insU x r
def ssetZ (ns : List Int) : List Int := ns.foldr insU []
/-- a dict's items, as pairs -/
def itemsD (ks : List (List Key)) (ds : List D) : List D := List.zipWith (fun k d => .tup [tupK k, d]) ks ds
/-- sorted(d.items()) -/
def sitD (s : Option Sl) : Option (Bool × D) := match s with
  | some (.ow (.dtu ks ds)) => if ks.length ≤ 1000 then sortedD false (.lst (itemsD ks ds)) else none
  | _ => none
/-- a name whose dict is locked now -/
def lkvD (i : Nat) (ρ : Env) : Rv := match ρ[i]? with
  | some (.ow (.dtu ks ds)) => .ok ((false, .dtp ks ds), ρ.set i (.fr (.dtp ks ds)))
  | _ => varD i ρ
/-- a tuple of few ints -/
def fewI : Option D → Option (List Int)
  | some (.tup xs) => match intsD xs with
    | some ns => if ns.length ≤ 60 then some ns else none
    | none => none
  | _ => none
def meetB (ns ms : List Int) : Bool := ns.any fun n => decide (n ∈ ms)
def ssetD (d : D) : Option (Bool × D) := (fewI (some d)).map fun ns => (true, .lst ((ssetZ ns).map .int))
/-- a text among a table's keys -/
def tinD (neg : Bool) (kvs : List (Str × D)) : D → Option (Bool × D)
  | .str z => some (false, .bl (neg != (kvs.lookup z).isSome))
  | _ => none
/-- a table's value at a text -/
def tgetD (kvs : List (Str × D)) : D → Option (Bool × D)
  | .str z => some (false, (kvs.lookup z).getD .non)
  | _ => none
def tgetE (kvs : List (Str × D)) : D → Option (Bool × D)
  | .str z => some (false, (kvs.lookup z).getD (.tup []))
  | _ => none
/-- keys that are tuples -/
def keysT : List D → Option (List (List Key))
  | [] => some []
  | .tup xs :: r => match toKeys xs, keysT r with
    | some k, some ks => some (k :: ks)
    | _, _ => none
  | _ => none
/-- a list or a tuple -/
def seqT : D → Option (List D)
  | .tup ds => some ds
  | .lst ds => some ds
  | _ => none
def dzipD : List D → Option (Bool × D)
  | [a, b] => match seqT a, seqT b with
    | some xs, some ys => (keysT xs).map fun ks => (false, .dtp (dmrg ks ys ([], [])).1 (dmrg ks ys ([], [])).2)
    | _, _ => none
  | _ => none
/-- pairs of a tuple and something -/
def prsD : List D → Option (List (List Key) × List D)
  | [] => some ([], [])
  | .tup [.tup xs, d] :: r => match toKeys xs, prsD r with
    | some k, some (ks, ds) => some (k :: ks, d :: ds)
    | _, _ => none
  | _ => none
def dprsD : D → Option (Bool × D)
  | .lst xs => (prsD xs).map fun p => (false, .dtp (dmrg p.1 p.2 ([], [])).1 (dmrg p.1 p.2 ([], [])).2)
  | _ => none
/-- a field -/
def fldG (f : Str) : List Str → List D → Option D
  | g :: gs, d :: ds => if g = f then some d else fldG f gs ds
  | _, _ => none
def fldD (ok : Str → Str → Bool) (f : Str) : D → Option (Bool × D)
  | .obj c fs ds => if ok c f = true then (fldG f fs ds).map fun d => (false, d) else none
  | _ => none
/-- l.count(x), l.index(x) -/
def meD : Me → D → D → Option (Bool × D)
  | .count, .lst xs, y => match toPy y, toPys xs with
    | some p, some qs => if (shp p && shps qs) = true then some (false, .int (qs.countP fun z => PyData.eqv z p : Nat)) else none
    | _, _ => none
  | .index, .lst xs, y => match toPy y, toPys xs with
    | some p, some qs => if (shp p && shps qs) = true then (qs.findIdx? fun z => PyData.eqv z p).map fun j => (false, .int (j : Nat)) else none
    | _, _ => none
  | _, _, _ => none
/-- tuple(range(n)), list(range(n)) -/
def rgsD (t : Bool) : D → Option (Bool × D)
  | .int n => if -(2 ^ 20) < n ∧ n < 2 ^ 20 then some (if t = true then (false, .tup (rngD 0 n.toNat)) else (true, .lst (rngD 0 n.toNat))) else none
  | _ => none
def setSl (i : Nat) (own : Bool) (d : D) (ρ : Env) : Option Env := match ρ[i]? with
  | some (.io _) => none
  | some (.le _) => none
  | some _ => some (ρ.set i (if own then .ow d else .fr d))
  | none => none
def bindT : List Nat → List D → Env → Option Env
  | [], [], ρ => some ρ
  | i :: is, d :: ds, ρ => match setSl i false d ρ with
    | some ρ' => bindT is ds ρ'
    | none => none
  | _, _, _ => none
/-- one item of a loop to its names -/
def bindI (tg : List Nat) (one : Bool) (d : D) (ρ : Env) : Option Env :=
  if one then match tg with
    | [i] => setSl i false d ρ
    | _ => none
  else match d with
    | .tup ds => bindT tg ds ρ
    | .lst ds => bindT tg ds ρ
    | _ => none
def wipeS (ρ : Env) : List Nat → Env
  | [] => ρ
  | v :: vs => (wipeS ρ vs).set v .no
/-- the slots at vs as they stand in ρ₀ -/
def backS (ρ₀ ρ : Env) : List Nat → Env
  | [] => ρ
  | v :: vs => (backS ρ₀ ρ vs).set v (ρ₀.getD v .no)
/-- a comprehension's own names hide nothing that is owned -/
def wipeOk (ρ : Env) (own : List Nat) : Bool := own.all fun i => match ρ[i]? with
  | some .no => true
  | some (.fr _) => true
  | _ => false
def lsOk (ρ : Env) (ls : List Nat) : Bool := ls.all fun i => match ρ[i]? with
  | some (.io _) => false
  | _ => true
/-- while a list is walked its own name is borrowed -/
def lend (ρ : Env) : Nat → Env := fun i => match ρ[i]? with
  | some (.ow d) => ρ.set i (.le d)
  | _ => ρ
def lends (ρ : Env) : List Nat → Env
  | [] => ρ
  | i :: is => lend (lends ρ is) i
/-- .. and given back -/
def unlend (ρ₀ ρ : Env) : List Nat → Env
  | [] => ρ
  | i :: is => match ρ₀[i]? with
    | some (.ow d) => (unlend ρ₀ ρ is).set i (.ow d)
    | _ => unlend ρ₀ ρ is
def opSl : Op → List Nat
  | .s i => [i]
  | .d _ => []
/-! ### calls -/
structure Tb where
  call : Str → List D → CR
  kinds : Str → List Kd
  cst : Str → Option D
  tab : Str → Option (List (Str × D))
  mkC : Str → List D → CR
  isC : Str → Bool
  isM : Str → Str → Bool
  isF : Str → Str → Bool
/-- one level lower -/
abbrev Tb.low (T : Tb) : Tb := { T with call := T.mkC }
inductive Ar where
  | d (x : D) | s (i : Nat) | io (i : Nat)
def getAr (ρ : Env) : Ar → Option D
  | .d x => some x
  | .s i => match ρ[i]? with
    | some s => s.val
    | none => none
  | .io i => match ρ[i]? with
    | some (.ow d) => some d
    | some (.io d) => some d
    | _ => none
def getArs (ρ : Env) : List Ar → Option (List D)
  | [] => some []
  | o :: r => match getAr ρ o, getArs ρ r with
    | some d, some ds => some (d :: ds)
    | _, _ => none
def putIo (i : Nat) (d : D) (ρ : Env) : Env := match ρ[i]? with
  | some (.ow _) => ρ.set i (.ow d)
  | some (.io _) => ρ.set i (.io d)
  | _ => ρ
def putOuts : List Ar → List D → Env → Option Env
  | [], [], ρ => some ρ
  | .io i :: as, d :: ds, ρ => putOuts as ds (putIo i d ρ)
  | .d _ :: as, ds, ρ => putOuts as ds ρ
  | .s _ :: as, ds, ρ => putOuts as ds ρ
  | _, _, _ => none
def ioDup : List Ar → Bool
  | [] => false
  | .io i :: as => as.any (fun a => match a with | .io j => i == j | .s j => i == j | .d _ => false) || ioDup as
  | .s i :: as => as.any (fun a => match a with | .io j => i == j | _ => false) || ioDup as
  | _ :: as => ioDup as
def Ar.lent : Ar → Bool
  | .io _ => true
  | _ => false
def runCall (T : Tb) (f : Str) (as : List Ar) (ρ : Env) : Rv :=
  if ioDup as then .no else
  match getArs ρ as with
  | none => .no
  | some ds => match T.call f ds with
    | .no => .no
    | .ex x => if as.any Ar.lent then .no else .ex x ρ
    | .ok own d outs => match putOuts as outs ρ with
      | some ρ' => .ok ((own, d), ρ')
      | none => .no
/-- the receiver, as the method's first parameter holds it -/
def recvAr (ρ : Env) : Kd → Op → Option Ar
  | .bo, .s i => some (.s i)
  | .bo, .d x => some (.d x)
  | .fr, .d x => some (.d x)
  | .io, .s i => if mineV ρ i = true then some (.io i) else none
  | _, _ => none
/-- a new thing of a class; what its __init__ has made of it -/
def runMk (T : Tb) (c : Str) (as : List Ar) (ρ : Env) : Rv :=
  if ioDup as then .no else
  match getArs ρ as with
  | none => .no
  | some ds => match T.mkC (mth c "__init__") (.obj c [] [] :: ds) with
    | .no => .no
    | .ex x => if as.any Ar.lent then .no else .ex x ρ
    | .ok _ .non (o :: outs) => match putOuts as outs ρ with
      | some ρ' => .ok ((true, o), ρ')
      | none => .no
    | _ => .no
/-! ### loops -/
def testD (f : Env → Rv) (e : Ex) (ρ : Env) : Res (Bool × Env) := opd f e ρ >>= fun (x, ρ1) => match getOp ρ1 x with
  | some (.bl b) => .ok (b, ρ1)
  | _ => .no
/-- a comprehension's test: none is no test -/
def condD (f : Env → Rv) (e : Ex) (ρ : Env) : Res (Bool × Env) := match e with
  | .nil => .ok (true, ρ)
  | _ => testD f e ρ
/-- an argument, by how the parameter is held -/
def argD (f : Env → Rv) (e : Ex) (k : Kd) (ρ : Env) : Res (Ar × Env) := match k with
  | .fr => f ρ >>= fun p => .ok (.d p.1.2, p.2)
  | .bo => (match e with
    | .var i => if hasV ρ i = true then .ok (.s i, ρ) else .no
    | _ => f ρ >>= fun p => .ok (.d p.1.2, p.2))
  | .io => (match e with
    | .var i => if mineV ρ i = true then .ok (.io i, ρ) else .no
    | _ => .no)
/-- a comprehension's turns -/
def compL (tg : List Nat) (one : Bool) (own : List Nat) (cond : Env → Res (Bool × Env)) (elt : Env → Rv) : List D → Env → Res (List D × Env)
  | [], ρ => .ok ([], ρ)
  | d :: ds, ρ => match bindI tg one d (wipeS ρ own) with
    | none => .no
    | some ρ1 => cond ρ1 >>= fun p =>
      if p.1 = true then elt p.2 >>= fun q => compL tg one own cond elt ds q.2 >>= fun r => .ok (q.1.2 :: r.1, r.2)
      else compL tg one own cond elt ds p.2
def zipD : List D → List D → List D
  | x :: xs, y :: ys => .tup [x, y] :: zipD xs ys
  | _, _ => []
def enumD (k : Nat) : List D → List D
  | [] => []
  | x :: xs => .tup [.int k, x] :: enumD (k + 1) xs
/-- nothing that the exception handling needs is kept of a comprehension: it must not raise -/
def noEx {α : Type} (r : Res α) : Res α := match r with
  | .ex _ _ => .no
  | r => r
/-- an end of a slice -/
def partD (f : Env → Res (Op × Env)) (e : Ex) (ρ : Env) : Res (Option Int × Env) := match e with
  | .nil => .ok (none, ρ)
  | _ => f ρ >>= fun p => match getOp p.2 p.1 with
    | some (.int k) => .ok (some k, p.2)
    | _ => .no
def isLst : D → Bool
  | .lst _ => true
  | _ => false
/-- an item is taken out -/
def popD (k : Option Int) : D → Option (D × D)
  | .lst ds => if ds.length ≤ sizeLine then (ixN ds.length (k.getD (-1))).bind fun j => (ds[j]?).map fun d => (d, .lst (ds.eraseIdx j)) else none
  | _ => none
/-- both are lists, or both tuples -/
def isTupD : D → Bool
  | .tup _ => true
  | .kt _ => true
  | _ => false
def zipK (_ _ : D) : Bool := true
/-! ### expressions -/
mutual
def evalV (T : Tb) : Ex → Env → Rv
  | .var i, ρ => varD i ρ
  | .non, ρ => .ok ((false, .non), ρ)
  | .bl b, ρ => .ok ((false, .bl b), ρ)
  | .int i, ρ => .ok ((false, .int i), ρ)
  | .str x, ρ => .ok ((false, .str x), ρ)
  | .cst x, ρ => match T.cst x with
    | some d => .ok ((false, d), ρ)
    | none => .no
  | .tup es, ρ => evalVs T es ρ >>= fun (ds, ρ1) => .ok ((false, .tup ds), ρ1)
  | .lst es, ρ => evalVs T es ρ >>= fun (ds, ρ1) => .ok ((true, .lst ds), ρ1)
  | .dct ks es, ρ => evalVs T es ρ >>= fun p => if ks.length = p.1.length ∧ ks.Nodup ∧ ks.length ≤ 15 then .ok ((true, .dct (ks.map fun k => .inl (.inr k)) p.1), p.2) else .no
  | .bin o a b, ρ => op2 (opd (evalV T a) a) (opd (evalV T b) b) (binD o) ρ
  | .neg a, ρ => op1 (opd (evalV T a) a) negD ρ
  | .not a, ρ => testD (evalV T a) a ρ >>= fun p => .ok ((false, .bl (!p.1)), p.2)
  | .cmp o a b, ρ => op2 (opd (evalV T a) a) (opd (evalV T b) b) (cmpV o) ρ
  | .chn o1 o2 a b c, ρ => opd (evalV T a) a ρ >>= fun (x, ρ1) => opd (evalV T b) b ρ1 >>= fun (y, ρ2) =>
    match getOp ρ2 x, getOp ρ2 y with
    | some d, some e => match cmpD o1 d e with
      | some true => opd (evalV T c) c ρ2 >>= fun (z, ρ3) => match getOp ρ3 y, getOp ρ3 z with
        | some e', some g => optR ((cmpD o2 e' g).map fun k => (false, .bl k)) ρ3
        | _, _ => .no
      | some false => .ok ((false, .bl false), ρ2)
      | none => .no
    | _, _ => .no
  | .and a b, ρ => testD (evalV T a) a ρ >>= fun p => if p.1 = true then (testD (evalV T b) b p.2 >>= fun q => .ok ((false, .bl q.1), q.2)) else .ok ((false, .bl false), p.2)
  | .or a b, ρ => testD (evalV T a) a ρ >>= fun p => if p.1 = true then .ok ((false, .bl true), p.2) else (testD (evalV T b) b p.2 >>= fun q => .ok ((false, .bl q.1), q.2))
  | .ite c a b, ρ => testD (evalV T c) c ρ >>= fun p => if p.1 = true then evalV T a p.2 else evalV T b p.2
  | .ix a b, ρ => op2 (opd (evalV T a) a) (opd (evalV T b) b) ixV ρ
  | .sl a lo hi, ρ => opd (evalV T a) a ρ >>= fun p => partD (opd (evalV T lo) lo) lo p.2 >>= fun l => partD (opd (evalV T hi) hi) hi l.2 >>= fun h =>
    match getOp h.2 p.1 with
    | some d => optR (slD d l.1 h.1) h.2
    | none => .no
  | .bi f es, ρ => evalOs T es ρ >>= fun p => match getOps p.2 p.1 with
    | some ds => optR (biD f ds) p.2
    | none => .no
  | .isi a t, ρ => op1 (opd (evalV T a) a) (isiV t) ρ
  | .call f es, ρ => evalAs T es (T.kinds f) ρ >>= fun p => runCall T f p.1 p.2
  | .pop i e, ρ => if (getAr ρ (.io i)).any isLst = true then (partD (opd (evalV T e) e) e ρ >>= fun p => match getAr p.2 (.io i) with
    | some d => match popD p.1 d with
      | some (r, d') => .ok ((false, r), putIo i d' p.2)
      | none => .no
    | none => .no) else .no
  | .comp elt tg one it cond own, ρ => evalI T it ρ >>= fun ((ds, ls), ρ1) =>
    if (wipeOk ρ1 own && lsOk ρ1 ls) = true then noEx (compL tg one own (condD (evalV T cond) cond) (evalV T elt) ds (lends ρ1 ls)) >>= fun p =>
      .ok ((true, .lst p.1), backS ρ1 (unlend ρ1 p.2 ls) own) else .no
  | .sortedR e, ρ => op1 (opd (evalV T e) e) sortRD ρ
  | .rev a, ρ => op1 (opd (evalV T a) a) revD ρ
  | .rgs t a, ρ => op1 (opd (evalV T a) a) (rgsD t) ρ
  | .meet a b, ρ => opd (evalV T a) a ρ >>= fun p => match fewI (getOp p.2 p.1) with
    | some ns => opd (evalV T b) b p.2 >>= fun q => match fewI (getOp q.2 q.1) with
      | some ms => .ok ((false, .bl (meetB ns ms)), q.2)
      | none => .no
    | none => .no
  | .me m a [b], ρ => opd (evalV T a) a ρ >>= fun p => if (getOp p.2 p.1).any isLst = true then (opd (evalV T b) b p.2 >>= fun q => match getOp q.2 p.1, getOp q.2 q.1 with
    | some d, some e => optR (meD m d e) q.2
    | _, _ => .no) else .no
  | .sset a, ρ => op1 (opd (evalV T a) a) ssetD ρ
  | .tin neg x a, ρ => match T.tab x with
    | some kvs => op1 (opd (evalV T a) a) (tinD neg kvs) ρ
    | none => .no
  | .tget x a, ρ => match T.tab x with
    | some kvs => op1 (opd (evalV T a) a) (tgetD kvs) ρ
    | none => .no
  | .tgetE x a, ρ => match T.tab x with
    | some kvs => op1 (opd (evalV T a) a) (tgetE kvs) ρ
    | none => .no
  | .dzip es, ρ => evalOs T es ρ >>= fun p => match getOps p.2 p.1 with
    | some ds => optR (dzipD ds) p.2
    | none => .no
  | .dprs a, ρ => op1 (opd (evalV T a) a) dprsD ρ
  | .emp, ρ => .ok ((true, .dtu [] []), ρ)
  | .lkv i, ρ => lkvD i ρ
  | .sit i, ρ => optR (sitD ρ[i]?) ρ
  | .fld a f, ρ => op1 (opd (evalV T a) a) (fldD T.isF f) ρ
  | .mk c es, ρ => if T.isC c = true then (match T.kinds (mth c "__init__") with
    | .io :: ks => evalAs T es ks ρ >>= fun p => runMk T c p.1 p.2
    | _ => .no) else .no
  | .own a m es, ρ => opd (evalV T a) a ρ >>= fun p => match getOp p.2 p.1 with
    | some (.obj c fs ds) => if (T.isM c m && !fs.contains m) = true then (match T.kinds (mth c m) with
      | k :: ks => (match recvAr p.2 k p.1 with
        | some ar => evalAs T es ks p.2 >>= fun q => runCall T (mth c m) (ar :: q.1) q.2
        | none => .no)
      | [] => .no) else .no
    | _ => .no
  | _, _ => .no
def evalVs (T : Tb) : List Ex → Env → Res (List D × Env)
  | [], ρ => .ok ([], ρ)
  | e :: es, ρ => evalV T e ρ >>= fun ((_, d), ρ1) => evalVs T es ρ1 >>= fun (ds, ρ2) => .ok (d :: ds, ρ2)
def evalOs (T : Tb) : List Ex → Env → Res (List Op × Env)
  | [], ρ => .ok ([], ρ)
  | e :: es, ρ => opd (evalV T e) e ρ >>= fun (x, ρ1) => evalOs T es ρ1 >>= fun (xs, ρ2) => .ok (x :: xs, ρ2)
def evalAs (T : Tb) : List Ex → List Kd → Env → Res (List Ar × Env)
  | [], [], ρ => .ok ([], ρ)
  | e :: es, k :: ks, ρ => argD (evalV T e) e k ρ >>= fun p => evalAs T es ks p.2 >>= fun q => .ok (p.1 :: q.1, q.2)
  | _, _, _ => .no
/-- what a loop walks: the items, the names that are borrowed meanwhile -/
def evalI (T : Tb) : Ex → Env → Res ((List D × List Nat) × Env)
  | .rng1 a, ρ => opd (evalV T a) a ρ >>= fun (x, ρ1) => match getOp ρ1 x with
    | some (.int n) => if -(2 ^ 20) < n ∧ n < 2 ^ 20 then .ok ((rngD 0 n.toNat, []), ρ1) else .no
    | _ => .no
  | .rng2 a b, ρ => opd (evalV T a) a ρ >>= fun (x, ρ1) => opd (evalV T b) b ρ1 >>= fun (y, ρ2) => match getOp ρ2 x, getOp ρ2 y with
    | some (.int m), some (.int n) => if -(2 ^ 20) < m ∧ m < 2 ^ 20 ∧ -(2 ^ 20) < n ∧ n < 2 ^ 20 then .ok ((rngD m (n - m).toNat, []), ρ2) else .no
    | _, _ => .no
  | .zip a b, ρ => opd (evalV T a) a ρ >>= fun (x, ρ1) => opd (evalV T b) b ρ1 >>= fun (y, ρ2) => match getOp ρ2 x, getOp ρ2 y with
    | some d, some e => match seqD d, seqD e with
      | some xs, some ys => if zipK d e = true then .ok ((zipD xs ys, opSl x ++ opSl y), ρ2) else .no
      | _, _ => .no
    | _, _ => .no
  | .enum a, ρ => opd (evalV T a) a ρ >>= fun (x, ρ1) => match getOp ρ1 x with
    | some d => match seqD d with
      | some xs => .ok ((enumD 0 xs, opSl x), ρ1)
      | none => .no
    | none => .no
  | .revd a, ρ => opd (evalV T a) a ρ >>= fun (x, ρ1) => match getOp ρ1 x with
    | some d => match seqD d with
      | some xs => .ok ((xs.reverse, opSl x), ρ1)
      | none => .no
    | none => .no
  | .itr a, ρ => opd (evalV T a) a ρ >>= fun (x, ρ1) => match getOp ρ1 x with
    | some d => match itrD d with
      | some xs => .ok ((xs, opSl x), ρ1)
      | none => .no
    | none => .no
  | _, _ => .no
end
/-! ### statements -/
inductive Fl where
  | nx (ρ : Env) | rt (own : Bool) (d : D) (ρ : Env) | bk (ρ : Env) | ct (ρ : Env)
def optF (o : Option Env) : Res Fl := match o with
  | some ρ => .ok (.nx ρ)
  | none => .no
/-- what is handed back: an own list goes with it -/
def retD (f : Env → Rv) (e : Ex) (ρ : Env) : Rv := match e with
  | .var i => match ρ[i]? with
    | some (.ow d) => .ok ((true, d), ρ.set i .no)
    | _ => varD i ρ
  | _ => f ρ
def whlN (c : Env → Res (Bool × Env)) (b : Env → Res Fl) : Nat → Env → Option (Res Fl)
  | 0, _ => none
  | n + 1, ρ => match c ρ with
    | .ok (true, ρ1) => match b ρ1 with
      | .ok (.nx ρ2) => whlN c b n ρ2
      | .ok (.ct ρ2) => whlN c b n ρ2
      | .ok (.bk ρ2) => some (.ok (.nx ρ2))
      | r => some r
    | .ok (false, ρ1) => some (.ok (.nx ρ1))
    | .ex x ρ1 => some (.ex x ρ1)
    | .no => some .no
open Classical in
noncomputable def whlD (c : Env → Res (Bool × Env)) (b : Env → Res Fl) (ρ : Env) : Res Fl :=
  if h : ∃ n, (whlN c b n ρ).isSome = true then (whlN c b (Classical.choose h) ρ).get (Classical.choose_spec h) else .no
theorem whlN_mono {c : Env → Res (Bool × Env)} {b : Env → Res Fl} : ∀ {n m : Nat} {ρ : Env} {r : Res Fl}, n ≤ m → whlN c b n ρ = some r → whlN c b m ρ = some r
  | 0, _, _, _, _, h => by cases h
  | n + 1, 0, _, _, hm, _ => by omega
  | n + 1, m + 1, ρ, r, hm, h => by
    have hm' : n ≤ m := by omega
    unfold whlN at h ⊢
    split at h
    · rename_i ρ1 e1
      split at h
      · exact whlN_mono hm' h
      · exact whlN_mono hm' h
      · exact h
      · exact h
    · exact h
    · exact h
    · exact h
theorem whlD_of {c : Env → Res (Bool × Env)} {b : Env → Res Fl} {n : Nat} {ρ : Env} {r : Res Fl} (h : whlN c b n ρ = some r) : whlD c b ρ = r := by
  have hx : ∃ n, (whlN c b n ρ).isSome = true := ⟨n, by rw [h] <;> rfl⟩
  unfold whlD
  rw [dif_pos hx]
  have h2 : whlN c b (Classical.choose hx) ρ = some r := by
    have e1 := Classical.choose_spec hx
    obtain ⟨r', e2⟩ := Option.isSome_iff_exists.mp e1
    have e3 := whlN_mono (Nat.le_max_left n (Classical.choose hx)) h
    have e4 := whlN_mono (Nat.le_max_right n (Classical.choose hx)) e2
    rw [e3] at e4
    rw [e2, e4]
  simp only [h2, Option.get_some]
theorem whlD_ex {c : Env → Res (Bool × Env)} {b : Env → Res Fl} {ρ : Env} {r : Res Fl} (h : whlD c b ρ = r) (hr : r ≠ .no) : ∃ n, whlN c b n ρ = some r := by
  unfold whlD at h
  split at h
  · rename_i hx
    exact ⟨Classical.choose hx, by rw [← h]; simp⟩
  · exact absurd h.symm hr
theorem whlD_step {c : Env → Res (Bool × Env)} {b : Env → Res Fl} {ρ ρ1 ρ2 : Env} (hc : c ρ = .ok (true, ρ1)) (hb : b ρ1 = .ok (.nx ρ2)) : whlD c b ρ = whlD c b ρ2 := by
  by_cases hx : ∃ n r, whlN c b n ρ2 = some r
  · obtain ⟨n, r, h⟩ := hx
    have h2 : whlN c b (n + 1) ρ = some r := by
      unfold whlN
      rw [hc]
      simp only [hb, h]
    rw [whlD_of h, whlD_of h2]
  · have n1 : ¬ ∃ n, (whlN c b n ρ2).isSome = true := fun ⟨n, h⟩ => hx ⟨n, _, (Option.some_get h).symm⟩
    have n2 : ¬ ∃ n, (whlN c b n ρ).isSome = true := fun ⟨n, h⟩ => by
      cases n with
      | zero => cases h
      | succ n =>
        unfold whlN at h
        rw [hc] at h
        simp only [hb] at h
        exact n1 ⟨n, h⟩
    unfold whlD
    rw [dif_neg n1, dif_neg n2]
theorem whlD_done {c : Env → Res (Bool × Env)} {b : Env → Res Fl} {ρ ρ1 : Env} (hc : c ρ = .ok (false, ρ1)) : whlD c b ρ = .ok (.nx ρ1) :=
  whlD_of (n := 1) (by unfold whlN; rw [hc])
def forL (tg : List Nat) (one : Bool) (body : Env → Res Fl) : List D → Env → Res Fl
  | [], ρ => .ok (.nx ρ)
  | d :: ds, ρ => match bindI tg one d ρ with
    | none => .no
    | some ρ1 => match body ρ1 with
      | .ok (.nx ρ2) => forL tg one body ds ρ2
      | .ok (.ct ρ2) => forL tg one body ds ρ2
      | .ok (.bk ρ2) => .ok (.nx ρ2)
      | r => r
def unlF (ρ₀ : Env) (ls : List Nat) : Res Fl → Res Fl
  | .ok (.nx ρ) => .ok (.nx (unlend ρ₀ ρ ls))
  | .ok (.rt o d ρ) => .ok (.rt o d (unlend ρ₀ ρ ls))
  | .ok (.bk ρ) => .ok (.bk (unlend ρ₀ ρ ls))
  | .ok (.ct ρ) => .ok (.ct (unlend ρ₀ ρ ls))
  | .ex x ρ => .ex x (unlend ρ₀ ρ ls)
  | .no => .no
/-- a list or dict of one's own is changed -/
def muD : Mu → List D → D → Option D
  | .append, [x], .lst ds => if ds.length < sizeLine then some (.lst (ds ++ [x])) else none
  | .reverse, [], .lst ds => some (.lst ds.reverse)
  | .clear, [], .lst _ => some (.lst [])
  | .insert, [.int i, x], .lst ds => if 0 ≤ i ∧ i ≤ ds.length ∧ ds.length < sizeLine then some (.lst (ds.take i.toNat ++ x :: ds.drop i.toNat)) else none
  | _, _, _ => none
/-- a slot's own thing changed -/
def modSl (i : Nat) (f : D → Option D) (ρ : Env) : Option Env := (getAr ρ (.io i)).bind fun d => (f d).map fun d' => putIo i d' ρ
def setIxD (k v : D) : D → Option D
  | .lst ds => match k with
    | .int i => (ixN ds.length i).map fun j => .lst (ds.set j v)
    | _ => none
  | .dct ks ds => (toKey k).bind fun k => match ks with
    | .inl _ :: _ => if ks.length < 1000000 then some (.dct (dputL (.inl k) v ks ds).1 (dputL (.inl k) v ks ds).2) else none
    | _ => none
  | .dtu ks ds => match k with
    | .tup xs => (toKeys xs).bind fun k => if ks.length < 1000000 then some (.dtu (dputG k v ks ds).1 (dputG k v ks ds).2) else none
    | _ => none
  | _ => none
def setFs (f : Str) (v : D) : List Str → List D → List Str × List D
  | g :: gs, d :: ds => if g = f then (g :: gs, v :: ds) else (g :: (setFs f v gs ds).1, d :: (setFs f v gs ds).2)
  | _, _ => ([f], [v])
def setFD (ok : Str → Str → Bool) (f : Str) (v : D) : D → Option D
  | .obj c fs ds => if ok c f = true ∧ fs.length < 900 then some (.obj c (setFs f v fs ds).1 (setFs f v fs ds).2) else none
  | _ => none
def augD (o : Operator) (d e : D) : Option D := match o, d, e with
  | .Add, .int i, .int j => some (.int (i + j))
  | .Sub, .int i, .int j => some (.int (i - j))
  | .Mult, .int i, .int j => if mulOk i j then some (.int (i * j)) else none
  | _, _, _ => none
/-- x op= y -/
def augS (i : Nat) (o : Operator) (ρ : Env) : Option D → Option D → Res Fl
  | some (.lst xs), some (.lst ys) => if o = .Add ∧ xs.length + ys.length ≤ sizeLine then optF (modSl i (fun _ => some (.lst (xs ++ ys))) ρ) else .no
  | some d, some y => match augD o d y with
    | some r => optF (setSl i false r ρ)
    | none => .no
  | _, _ => .no
/-- (a, b, ..) = d -/
def setTD (is : List Nat) (d : D) (ρ : Env) : Res Fl := optF (bindI is false d ρ)
mutual
noncomputable def exec (T : Tb) : Sx → Env → Res Fl
  | .pass, ρ => .ok (.nx ρ)
  | .expr e, ρ => evalV T e ρ >>= fun p => .ok (.nx p.2)
  | .set i e, ρ => evalV T e ρ >>= fun p => optF (setSl i p.1.1 p.1.2 p.2)
  | .setT is e, ρ => evalV T e ρ >>= fun p => setTD is p.1.2 p.2
  | .setP is es, ρ => evalVs T es ρ >>= fun p => optF (bindT is p.1 p.2)
  | .setIx i k e, ρ => evalV T e ρ >>= fun p => if (getAr p.2 (.io i)).isSome = true then (opd (evalV T k) k p.2 >>= fun q => match getOp q.2 q.1 with
    | some kd => optF (modSl i (setIxD kd p.1.2) q.2)
    | none => .no) else .no
  | .setF i f e, ρ => evalV T e ρ >>= fun p => optF (modSl i (setFD T.isF f p.1.2) p.2)
  | .aug i o e, ρ => if hasV ρ i = true then (opd (evalV T e) e ρ >>= fun p => augS i o p.2 (getOp p.2 (.s i)) (getOp p.2 p.1)) else .no
  | .mu i m es, ρ => if (getAr ρ (.io i)).any isLst = true then (evalVs T es ρ >>= fun p => optF (modSl i (muD m p.1) p.2)) else .no
  | .ret e, ρ => retD (evalV T e) e ρ >>= fun p => .ok (.rt p.1.1 p.1.2 p.2)
  | .ite c a b, ρ => testD (evalV T c) c ρ >>= fun p => if p.1 = true then execs T a p.2 else execs T b p.2
  | .whl c body, ρ => whlD (testD (evalV T c) c) (execs T body) ρ
  | .forr tg one it body, ρ => evalI T it ρ >>= fun p => if lsOk p.2 p.1.2 = true then unlF p.2 p.1.2 (forL tg one (execs T body) p.1.1 (lends p.2 p.1.2)) else .no
  | .cont, ρ => .ok (.ct ρ)
  | .brk, ρ => .ok (.bk ρ)
  | _, _ => .no
noncomputable def execs (T : Tb) : List Sx → Env → Res Fl
  | [], ρ => .ok (.nx ρ)
  | s :: ss, ρ => match exec T s ρ with
    | .ok (.nx ρ1) => execs T ss ρ1
    | r => r
end
/-! ### defs -/
structure Fn where
  ks : List Kd
  n : Nat
  body : List Sx
  deriving Inhabited
def enter1 : Kd → D → Sl
  | .fr, d => .fr d
  | .bo, d => .bo d
  | .io, d => .io d
def enter (F : Fn) (ds : List D) : Env := List.zipWith enter1 F.ks ds ++ List.replicate (F.n - F.ks.length) .no
def outsOf : List Kd → Env → Option (List D)
  | [], _ => some []
  | .io :: ks, .io d :: ρ => (outsOf ks ρ).map (d :: ·)
  | .io :: _, _ => none
  | _ :: ks, _ :: ρ => outsOf ks ρ
  | _ :: _, [] => none
def leave (F : Fn) (own : Bool) (d : D) (ρ : Env) : CR := match outsOf F.ks ρ with
  | some outs => .ok own d outs
  | none => .no
structure Md where
  fns : Str → Option Fn
  cst : Str → Option D
  tab : Str → Option (List (Str × D))
  isC : Str → Bool
  isM : Str → Str → Bool
  isF : Str → Str → Bool
def Md.kinds (M : Md) (f : Str) : List Kd := match M.fns f with
  | some F => F.ks
  | none => []
/-- one level on -/
noncomputable def stepT (M : Md) (T : Tb) (f : Str) (ds : List D) : CR := match M.fns f with
  | none => .no
  | some F => if ds.length = F.ks.length ∧ F.ks.length ≤ F.n then
      match execs T F.body (enter F ds) with
      | .ok (.rt own d ρ) => leave F own d ρ
      | .ok (.nx ρ) => leave F false .non ρ
      | .ex x _ => .ex x
      | _ => .no
    else .no
/-- makers want a level below -/
def isCN (M : Md) : Nat → Str → Bool
  | 0 => fun _ => false
  | _ + 1 => M.isC
noncomputable def callP (M : Md) : Nat → (Str → List D → CR) × (Str → List D → CR)
  | 0 => (fun _ _ => .no, fun _ _ => .no)
  | n + 1 => (stepT M ⟨(callP M n).1, M.kinds, M.cst, M.tab, (callP M n).2, isCN M n, M.isM, M.isF⟩, (callP M n).1)
noncomputable def callN (M : Md) (n : Nat) : Str → List D → CR := (callP M n).1
noncomputable def mkN (M : Md) (n : Nat) : Str → List D → CR := (callP M n).2
noncomputable abbrev Md.tb (M : Md) (n : Nat) : Tb := ⟨callN M n, M.kinds, M.cst, M.tab, mkN M n, isCN M n, M.isM, M.isF⟩
theorem callN_succ (M : Md) (n : Nat) (f : Str) (ds : List D) : callN M (n + 1) f ds = (match M.fns f with
  | none => .no
  | some F => if ds.length = F.ks.length ∧ F.ks.length ≤ F.n then
      match execs (M.tb n) F.body (enter F ds) with
      | .ok (.rt own d ρ) => leave F own d ρ
      | .ok (.nx ρ) => leave F false .non ρ
      | .ex x _ => .ex x
      | _ => .no
    else .no) := rfl
end Pd
set_option Elab.async false
set_option linter.all false
/-! Pd1: how data stands in the heap. -/
namespace Pd
open PySem PySem.Spec PyProof.Rows L2
/-- addresses that are owned -/
abbrev Ad := Addr → Prop
/-- a list of the written part -/
def KLst (K : PySem.W.Frag) (a : Addr) (xs : List V) : Prop := ∃ (o : Obj) (its : Array Value) (n : Nat), K.lookup a = some o ∧ o.cls = .type "list" ∧ o.dict = none ∧ o.data = .seq its n ∧ its.size ≤ sizeLine ∧ Vals xs its.toList
/-- a tuple of the written part -/
def KTup (K : PySem.W.Frag) (a : Addr) (xs : List V) : Prop := ∃ (o : Obj) (its : Array Value) (n : Nat), K.lookup a = some o ∧ o.cls = .type "tuple" ∧ o.data = .seq its n ∧ its.size ≤ sizeLine ∧ Vals xs its.toList
mutual
inductive Rep (K : PySem.W.Frag) (M : Ad) (H : Hp) : V → D → Prop
  | non : Rep K M H .non .non
  | bl (b : Bool) : Rep K M H (.bl b) (.bl b)
  | int (i : Int) : Rep K M H (.int i) (.int i)
  | str (x : Str) : Rep K M H (.str x) (.str x)
  | tup {a : Addr} {xs : List V} {ds : List D} : H a = some (.tup xs) → Reps K M H xs ds → Rep K M H (.ref a) (.tup ds)
  | kt {a : Addr} {ns : List Int} : KTup K a (ns.map V.int) → Rep K M H (.ref a) (.kt ns)
  | lst {a : Addr} {xs : List V} {ds : List D} : ¬ M a → H a = some (.lst xs) → Reps K M H xs ds → Rep K M H (.ref a) (.lst ds)
  | scr {a : Addr} {ns : List Int} : (∃ o, H a = some (.frz o (.lst (ns.map V.int)))) ∨ KLst K a (ns.map V.int) → Rep K M H (.ref a) (.scr ns)
  | dK {a : Addr} {kvs : List (Key × V)} {ks : List Ky} {ds : List D} : ¬ M a → H a = some (.dK kvs) → ks = kvs.map (fun p => Sum.inl p.1) → Reps K M H (kvs.map (·.2)) ds → Rep K M H (.ref a) (.dct ks ds)
  | dT {a : Addr} {o : Obj} {kvs : List (List Key × V)} {ks : List (List Key)} {ds : List D} : H a = some (.frz o (.dT kvs)) → ks = kvs.map (fun p => p.1) → Reps K M H (kvs.map (·.2)) ds → Rep K M H (.ref a) (.dtp ks ds)
  | dTu {a : Addr} {kvs : List (List Key × V)} {ks : List (List Key)} {ds : List D} : ¬ M a → H a = some (.dT kvs) → ks = kvs.map (fun p => p.1) → Reps K M H (kvs.map (·.2)) ds → Rep K M H (.ref a) (.dtu ks ds)
  | obj {a dx : Addr} {fv : List (Str × V)} {c : Str} {fs : List Str} {ds : List D} : ¬ M a → H a = some (.ins (He.ga K c) dx fv) → fs = fv.map (fun p => p.1) → Reps K M H (fv.map (·.2)) ds → Rep K M H (.ref a) (.obj c fs ds)
inductive Reps (K : PySem.W.Frag) (M : Ad) (H : Hp) : List V → List D → Prop
  | nil : Reps K M H [] []
  | cons {v : V} {vs : List V} {d : D} {ds : List D} : Rep K M H v d → Reps K M H vs ds → Reps K M H (v :: vs) (d :: ds)
end
/-- what an owned thing holds -/
inductive Con (K : PySem.W.Frag) (M : Ad) (H : Hp) (a : Addr) : D → Prop
  | lst {xs : List V} {ds : List D} : H a = some (.lst xs) → Reps K M H xs ds → Con K M H a (.lst ds)
  | dK {kvs : List (Key × V)} {ks : List Ky} {ds : List D} : H a = some (.dK kvs) → ks = kvs.map (fun p => Sum.inl p.1) → Reps K M H (kvs.map (·.2)) ds → Con K M H a (.dct ks ds)
  | dTu {kvs : List (List Key × V)} {ks : List (List Key)} {ds : List D} : H a = some (.dT kvs) → ks = kvs.map (fun p => p.1) → Reps K M H (kvs.map (·.2)) ds → Con K M H a (.dtu ks ds)
  | obj {dx : Addr} {fv : List (Str × V)} {c : Str} {fs : List Str} {ds : List D} : H a = some (.ins (He.ga K c) dx fv) → fs = fv.map (fun p => p.1) → Reps K M H (fv.map (·.2)) ds → Con K M H a (.obj c fs ds)
/-- from (M, H) to (M', H'): what is frozen stays, what is protected stays -/
structure Ev (P : Ad) (M : Ad) (H : Hp) (M' : Ad) (H' : Hp) : Prop where
  mt : ∀ a, M a → Mut (H a)
  dom : ∀ a, H a ≠ none → H' a ≠ none
  keep : ∀ a o, H a = some o → ¬ M a → H' a = some o
  back : ∀ a, M' a → M a ∨ H a = none
  prot : ∀ a, P a → M a → H' a = H a ∧ M' a
theorem Ev.refl {P M : Ad} {H : Hp} (mt : ∀ a, M a → Mut (H a)) : Ev P M H M H := ⟨mt, fun _ h => h, fun _ _ h _ => h, fun _ h => .inl h, fun _ _ m => ⟨rfl, m⟩⟩
theorem Ev.trans {P M M1 M2 : Ad} {H H1 H2 : Hp} (a : Ev P M H M1 H1) (b : Ev P M1 H1 M2 H2) : Ev P M H M2 H2 where
  mt := a.mt
  dom := fun c h => b.dom c (a.dom c h)
  keep := fun c o h n => b.keep c o (a.keep c o h n) fun m => by
    rcases a.back c m with z | z
    · exact n z
    · rw [h] at z; cases z
  back := fun c m => by
    rcases b.back c m with z | z
    · exact a.back c z
    · by_cases h : H c = none
      · exact .inr h
      · exact absurd z (a.dom c h)
  prot := fun c p m => by
    obtain ⟨e1, m1⟩ := a.prot c p m
    obtain ⟨e2, m2⟩ := b.prot c p m1
    exact ⟨e2.trans e1, m2⟩
theorem Ev.mono {P P' M M' : Ad} {H H' : Hp} (a : Ev P M H M' H') (h : ∀ c, P' c → P c) : Ev P' M H M' H' := ⟨a.mt, a.dom, a.keep, a.back, fun c p m => a.prot c (h c p) m⟩
section
variable {K : PySem.W.Frag} {P M M' : Ad} {H H' : Hp}
theorem Ev.notM (e : Ev P M H M' H') {a : Addr} {o : HO} (h : H a = some o) (n : ¬ M a) : ¬ M' a := fun m => by
  rcases e.back a m with z | z
  · exact n z
  · rw [h] at z; cases z
theorem Ev.tup (e : Ev P M H M' H') {a : Addr} {xs : List V} (h : H a = some (.tup xs)) : H' a = some (.tup xs) := e.keep a _ h fun m => by have := e.mt a m; rw [h] at this; exact this
mutual
theorem Rep.ev (e : Ev P M H M' H') : ∀ {v : V} {d : D}, Rep K M H v d → Rep K M' H' v d
  | _, _, .non => .non
  | _, _, .bl b => .bl b
  | _, _, .int i => .int i
  | _, _, .str x => .str x
  | _, _, .tup h r => .tup (e.tup h) (Reps.ev e r)
  | _, _, .kt h => .kt h
  | _, _, .lst n h r => .lst (e.notM h n) (e.keep _ _ h n) (Reps.ev e r)
  | _, _, .scr h => .scr (h.imp (fun ⟨o, h⟩ => ⟨o, e.keep _ _ h fun m => by have := e.mt _ m; rw [h] at this; exact this⟩) id)
  | _, _, .dK n h k r => .dK (e.notM h n) (e.keep _ _ h n) k (Reps.ev e r)
  | _, _, .dT h k r => .dT (e.keep _ _ h fun m => by have := e.mt _ m; rw [h] at this; exact this) k (Reps.ev e r)
  | _, _, .dTu n h k r => .dTu (e.notM h n) (e.keep _ _ h n) k (Reps.ev e r)
  | _, _, .obj n h k r => .obj (e.notM h n) (e.keep _ _ h n) k (Reps.ev e r)
theorem Reps.ev (e : Ev P M H M' H') : ∀ {vs : List V} {ds : List D}, Reps K M H vs ds → Reps K M' H' vs ds
  | _, _, .nil => .nil
  | _, _, .cons h r => .cons (Rep.ev e h) (Reps.ev e r)
end
theorem Con.ev (e : Ev P M H M' H') {a : Addr} {d : D} (h : Con K M H a d) (k : H' a = H a) : Con K M' H' a d := by
  cases h with
  | lst h r => exact .lst (k.trans h) (Reps.ev e r)
  | dK h q r => exact .dK (k.trans h) q (Reps.ev e r)
  | dTu h q r => exact .dTu (k.trans h) q (Reps.ev e r)
  | obj h q r => exact .obj (k.trans h) q (Reps.ev e r)
theorem Con.there {a : Addr} {d : D} (h : Con K M H a d) : H a ≠ none := by
  cases h with
  | lst h r => rw [h]; simp
  | dK h q r => rw [h]; simp
  | dTu h q r => rw [h]; simp
  | obj h q r => rw [h]; simp
theorem Con.rep {a : Addr} {d : D} (h : Con K M H a d) (n : ¬ M a) : Rep K M H (.ref a) d := by
  cases h with
  | lst h r => exact .lst n h r
  | dK h q r => exact .dK n h q r
  | dTu h q r => exact .dTu n h q r
  | obj h q r => exact .obj n h q r
theorem Reps.length : ∀ {vs : List V} {ds : List D}, Reps K M H vs ds → vs.length = ds.length
  | _, _, .nil => rfl
  | _, _, .cons _ r => by rw [List.length_cons, List.length_cons, Reps.length r]
theorem Reps.get : ∀ {vs : List V} {ds : List D} {i : Nat} {d : D}, Reps K M H vs ds → ds[i]? = some d → ∃ v, vs[i]? = some v ∧ Rep K M H v d
  | _, _, _, _, .nil, h => by simp at h
  | _, _, 0, _, .cons h _, e => ⟨_, rfl, by
      have e' := Option.some.inj e
      subst e'; exact h⟩
  | _, _, i + 1, d, .cons _ r, e => by
    obtain ⟨v, h1, h2⟩ := Reps.get (i := i) r (by simpa using e)
    exact ⟨v, by simpa using h1, h2⟩
theorem Reps.append : ∀ {vs ws : List V} {ds es : List D}, Reps K M H vs ds → Reps K M H ws es → Reps K M H (vs ++ ws) (ds ++ es)
  | _, _, _, _, .nil, s => s
  | _, _, _, _, .cons h r, s => .cons h (Reps.append r s)
theorem Reps.take : ∀ {vs : List V} {ds : List D} (n : Nat), Reps K M H vs ds → Reps K M H (vs.take n) (ds.take n)
  | _, _, 0, _ => .nil
  | _, _, _ + 1, .nil => .nil
  | _, _, n + 1, .cons h r => .cons h (Reps.take n r)
theorem Reps.drop : ∀ {vs : List V} {ds : List D} (n : Nat), Reps K M H vs ds → Reps K M H (vs.drop n) (ds.drop n)
  | _, _, 0, r => r
  | _, _, _ + 1, .nil => .nil
  | _, _, n + 1, .cons h r => Reps.drop n r
theorem Reps.set : ∀ {vs : List V} {ds : List D} {v : V} {d : D} (n : Nat), Reps K M H vs ds → Rep K M H v d → Reps K M H (vs.set n v) (ds.set n d)
  | _, _, _, _, _, .nil, _ => .nil
  | _, _, _, _, 0, .cons _ r, q => .cons q r
  | _, _, _, _, n + 1, .cons h r, q => .cons h (Reps.set n r q)
theorem Reps.eraseIdx : ∀ {vs : List V} {ds : List D} (n : Nat), Reps K M H vs ds → Reps K M H (vs.eraseIdx n) (ds.eraseIdx n)
  | _, _, _, .nil => .nil
  | _, _, 0, .cons _ r => r
  | _, _, n + 1, .cons h r => .cons h (Reps.eraseIdx n r)
theorem Reps.reverse : ∀ {vs : List V} {ds : List D}, Reps K M H vs ds → Reps K M H vs.reverse ds.reverse
  | _, _, .nil => .nil
  | _, _, .cons h r => by rw [List.reverse_cons, List.reverse_cons]; exact Reps.append (Reps.reverse r) (.cons h .nil)
theorem Reps.rep : ∀ (n : Nat) {vs : List V} {ds : List D}, Reps K M H vs ds → Reps K M H (List.replicate n vs).flatten (List.replicate n ds).flatten
  | 0, _, _, _ => .nil
  | n + 1, _, _, r => by
    rw [List.replicate_succ, List.replicate_succ, List.flatten_cons, List.flatten_cons]
    exact Reps.append r (Reps.rep n r)
/-! ### slots -/
/-- a frame's view: what its callers keep, what its loops keep, where lent slots stand -/
structure Fx where
  p : Ad
  x : Ad
  l : Nat → Option Addr
def Fx.k (F : Fx) : Ad := fun a => F.p a ∨ F.x a
def SlR (K : PySem.W.Frag) (F : Fx) (M : Ad) (H : Hp) (i : Nat) (v : Option V) : Sl → Prop
  | .no => True
  | .fr d => ∃ x, v = some x ∧ Rep K M H x d
  | .bo d => ∃ x, v = some x ∧ (Rep K M H x d ∨ ∃ a, x = .ref a ∧ F.p a ∧ M a ∧ Con K M H a d)
  | .ow d => ∃ a, v = some (.ref a) ∧ M a ∧ ¬ F.k a ∧ Con K M H a d
  | .io d => ∃ a, v = some (.ref a) ∧ M a ∧ ¬ F.k a ∧ F.l i = some a ∧ Con K M H a d
  | .le d => ∃ a, v = some (.ref a) ∧ M a ∧ F.x a ∧ F.l i = some a ∧ Con K M H a d
/-- a slot that is owned or lent -/
def Sl.mine : Sl → Bool
  | .ow _ => true
  | .io _ => true
  | _ => false
def mineAt (ρ : Env) (i : Nat) : Bool := match ρ[i]? with
  | some s => s.mine
  | none => false
def atS (σ : L2.St) (i : Nat) : Option V := match σ[i]? with
  | some v => v
  | none => none
theorem atS_some {σ : L2.St} {i : Nat} {v : V} (h : atS σ i = some v) : σ[i]? = some (some v) := by
  unfold atS at h
  split at h
  · rename_i w e
    rw [e, h]
  · cases h
theorem atS_set_ne {σ : L2.St} {i j : Nat} {v : Option V} (h : i ≠ j) : atS (σ.set i v) j = atS σ j := by unfold atS; rw [List.getElem?_set_ne h]
theorem atS_set {σ : L2.St} {i : Nat} {v : Option V} (h : i < σ.length) : atS (σ.set i v) i = v := by unfold atS; rw [List.getElem?_set_self h]
structure EnvR (K : PySem.W.Frag) (F : Fx) (M : Ad) (H : Hp) (σ : L2.St) (ρ : Env) : Prop where
  mt : ∀ a, M a → Mut (H a)
  pm : ∀ a, F.k a → M a
  len : ρ.length = σ.length
  sl : ∀ (i : Nat) (s : Sl), ρ[i]? = some s → SlR K F M H i (atS σ i) s
  ne : ∀ (i j : Nat) (a : Addr), i ≠ j → mineAt ρ i = true → mineAt ρ j = true → atS σ i = some (.ref a) → atS σ j ≠ some (.ref a)
  lent : ∀ (j : Nat) (a : Addr), F.l j = some a → ∃ d, ρ[j]? = some (.io d) ∨ ρ[j]? = some (.le d)
variable {F : Fx} {σ : L2.St} {ρ : Env}
theorem mineAt_set_ne {i j : Nat} {s : Sl} (h : i ≠ j) : mineAt (ρ.set i s) j = mineAt ρ j := by unfold mineAt; rw [List.getElem?_set_ne h]
theorem mineAt_set {i : Nat} {s : Sl} (h : i < ρ.length) : mineAt (ρ.set i s) i = s.mine := by unfold mineAt; rw [List.getElem?_set_self h]
theorem EnvR.mineC (e : EnvR K F M H σ ρ) {i : Nat} (h : mineAt ρ i = true) : ∃ a d, atS σ i = some (.ref a) ∧ M a ∧ ¬ F.k a ∧ Con K M H a d := by
  unfold mineAt at h
  split at h
  · rename_i s es
    have q := e.sl i s es
    cases s with
    | no => cases h
    | fr d => cases h
    | bo d => cases h
    | le d => cases h
    | ow d =>
      obtain ⟨a, e1, m, p, c⟩ := q
      exact ⟨a, d, e1, m, p, c⟩
    | io d =>
      obtain ⟨a, e1, m, p, _, c⟩ := q
      exact ⟨a, d, e1, m, p, c⟩
  · cases h
/-- a step that leaves one's own things alone -/
theorem EnvR.ev (e : EnvR K F M H σ ρ) (x : Ev F.k M H M' H') (mt : ∀ a, M' a → Mut (H' a)) (own : ∀ i a, mineAt ρ i = true → atS σ i = some (.ref a) → H' a = H a ∧ M' a) : EnvR K F M' H' σ ρ where
  mt := mt
  pm := fun a p => (x.prot a p (e.pm a p)).2
  len := e.len
  sl := fun i s es => by
    have q := e.sl i s es
    cases s with
    | no => trivial
    | fr d =>
      obtain ⟨v, e1, r⟩ := q
      exact ⟨v, e1, r.ev x⟩
    | bo d =>
      obtain ⟨v, e1, r⟩ := q
      refine ⟨v, e1, ?_⟩
      rcases r with r | ⟨a, ea, p, m, c⟩
      · exact .inl (r.ev x)
      · obtain ⟨k, m'⟩ := x.prot a (.inl p) m
        exact .inr ⟨a, ea, p, m', c.ev x k⟩
    | ow d =>
      obtain ⟨a, e1, m, p, c⟩ := q
      obtain ⟨k, m'⟩ := own i a (by unfold mineAt; rw [es]; rfl) e1
      exact ⟨a, e1, m', p, c.ev x k⟩
    | io d =>
      obtain ⟨a, e1, m, p, l, c⟩ := q
      obtain ⟨k, m'⟩ := own i a (by unfold mineAt; rw [es]; rfl) e1
      exact ⟨a, e1, m', p, l, c.ev x k⟩
    | le d =>
      obtain ⟨a, e1, m, p, l, c⟩ := q
      obtain ⟨k, m'⟩ := x.prot a (.inr p) m
      exact ⟨a, e1, m', p, l, c.ev x k⟩
  ne := e.ne
  lent := e.lent
/-- new things alone -/
structure Grow (M : Ad) (H : Hp) (M' : Ad) (H' : Hp) : Prop where
  keep : ∀ a o, H a = some o → H' a = some o
  sub : ∀ a, M a → M' a
  back : ∀ a, M' a → M a ∨ H a = none
  mt : ∀ a, M' a → Mut (H' a)
theorem Grow.refl (mt : ∀ a, M a → Mut (H a)) : Grow M H M H := ⟨fun _ _ h => h, fun _ h => h, fun _ h => .inl h, mt⟩
theorem Grow.ev (g : Grow M H M' H') (mt : ∀ a, M a → Mut (H a)) : Ev P M H M' H' where
  mt := mt
  dom := fun a h => by
    cases e : H a with
    | none => exact absurd e h
    | some o => rw [g.keep a o e]; simp
  keep := fun a o h _ => g.keep a o h
  back := g.back
  prot := fun a _ m => ⟨by
    have := mt a m
    cases e : H a with
    | none => rw [e] at this; exact this.elim
    | some o => rw [g.keep a o e], g.sub a m⟩
theorem EnvR.grow (e : EnvR K F M H σ ρ) (g : Grow M H M' H') : EnvR K F M' H' σ ρ :=
  e.ev (g.ev e.mt) g.mt fun i a h1 h2 => by
    obtain ⟨b, d, e1, m, p, c⟩ := e.mineC h1
    rw [h2] at e1
    obtain rfl : a = b := by injection e1 with e1; injection e1
    refine ⟨?_, g.sub a m⟩
    cases q : H a with
    | none => exact absurd q c.there
    | some o => rw [g.keep a o q]
theorem Grow.tup {p : Addr} {xs : List V} (hp : H p = none) (mt : ∀ a, M a → Mut (H a)) : Grow M H M (upd H p (.tup xs)) :=
  ⟨fun a o h => by rw [upd_ne (ne_of_none h hp)]; exact h, fun _ m => m, fun _ m => .inl m, fun a m => by
    have q := mt a m
    rw [upd_ne (fun z => by rw [z, hp] at q; exact q)]; exact q⟩
theorem Grow.new {p : Addr} {o : HO} (hp : H p = none) (mt : ∀ a, M a → Mut (H a)) (ho : Mut (some o)) : Grow M H (fun a => M a ∨ a = p) (upd H p o) :=
  ⟨fun a u h => by rw [upd_ne (ne_of_none h hp)]; exact h, fun _ m => .inl m, fun a m => by
    rcases m with m | m
    · exact .inl m
    · exact .inr (m ▸ hp), fun a m => by
    by_cases z : a = p
    · subst z; rw [upd_same]; exact ho
    · rw [upd_ne z]
      rcases m with m | m
      · exact mt a m
      · exact absurd m z⟩
/-- a value: frozen, or an own one that stands in no slot -/
def RvR (K : PySem.W.Frag) (F : Fx) (M : Ad) (H : Hp) (σ : L2.St) (ρ : Env) (own : Bool) (v : V) (d : D) : Prop :=
  if own = true then ∃ a, v = .ref a ∧ M a ∧ ¬ F.k a ∧ (∀ i, mineAt ρ i = true → atS σ i ≠ some (.ref a)) ∧ Con K M H a d else Rep K M H v d
theorem RvR.f {v : V} {d : D} (h : Rep K M H v d) : RvR K F M H σ ρ false v d := h
/-- an own value is let go -/
theorem RvR.freeze {own : Bool} {v : V} {d : D} (e : EnvR K F M H σ ρ) (h : RvR K F M H σ ρ own v d) : ∃ M', Ev F.k M H M' H ∧ EnvR K F M' H σ ρ ∧ Rep K M' H v d := by
  cases own with
  | false => exact ⟨M, .refl e.mt, e, h⟩
  | true =>
    obtain ⟨a, rfl, m, p, ns, c⟩ := h
    have x : Ev F.k M H (fun b => M b ∧ b ≠ a) H := ⟨e.mt, fun _ h => h, fun _ _ h _ => h, fun _ h => .inl h.1, fun b pb mb => ⟨rfl, mb, fun z => p (z ▸ pb)⟩⟩
    refine ⟨fun b => M b ∧ b ≠ a, x, ?_, ?_⟩
    · refine e.ev x (fun b h => e.mt b h.1) fun i b h1 h2 => ⟨rfl, ?_, ?_⟩
      · obtain ⟨b', d', e1, m', _⟩ := e.mineC h1
        rw [h2] at e1
        obtain rfl : b = b' := by injection e1 with e1; injection e1
        exact m'
      · rintro rfl
        exact ns i h1 h2
    · exact (c.ev x rfl).rep fun z => z.2 rfl
/-- what an operation gives: a new thing, or none -/
def OutR (K : PySem.W.Frag) (M : Ad) (H : Hp) (own : Bool) (d : D) (v : V) (M' : Ad) (H' : Hp) : Prop :=
  Grow M H M' H' ∧ (if own = true then ∃ a, v = .ref a ∧ M' a ∧ H a = none ∧ Con K M' H' a d else Rep K M' H' v d)
theorem OutR.rv {own : Bool} {v : V} {d : D} (e : EnvR K F M H σ ρ) (o : OutR K M H own d v M' H') : Ev F.k M H M' H' ∧ EnvR K F M' H' σ ρ ∧ RvR K F M' H' σ ρ own v d := by
  obtain ⟨g, o⟩ := o
  refine ⟨g.ev e.mt, e.grow g, ?_⟩
  cases own with
  | false => exact o
  | true =>
    obtain ⟨a, rfl, m, n, c⟩ := o
    refine ⟨a, rfl, m, fun p => ?_, fun i h1 h2 => ?_, c⟩
    · have := e.mt a (e.pm a p)
      rw [n] at this; exact this
    · obtain ⟨b, d', e1, m', _, c'⟩ := e.mineC h1
      rw [h2] at e1
      obtain rfl : a = b := by injection e1 with e1; injection e1
      exact c'.there n
theorem OutR.pure {v : V} {d : D} (mt : ∀ a, M a → Mut (H a)) (h : Rep K M H v d) : OutR K M H false d v M H := ⟨.refl mt, h⟩
theorem OutR.tup {p : Addr} {xs : List V} {ds : List D} (mt : ∀ a, M a → Mut (H a)) (hp : H p = none) (r : Reps K M H xs ds) : OutR K M H false (.tup ds) (.ref p) M (upd H p (.tup xs)) :=
  ⟨.tup hp mt, .tup upd_same (r.ev ((Grow.tup hp mt).ev (P := fun _ => False) mt))⟩
theorem OutR.lst {p : Addr} {xs : List V} {ds : List D} (mt : ∀ a, M a → Mut (H a)) (hp : H p = none) (r : Reps K M H xs ds) : OutR K M H true (.lst ds) (.ref p) (fun a => M a ∨ a = p) (upd H p (.lst xs)) :=
  ⟨.new hp mt trivial, p, rfl, .inr rfl, hp, .lst upd_same (r.ev ((Grow.new (o := .lst xs) hp mt trivial).ev (P := fun _ => False) mt))⟩
/-- an operand -/
def OpdR (K : PySem.W.Frag) (M : Ad) (H : Hp) (σ : L2.St) (v : V) : Op → Prop
  | .s i => atS σ i = some v
  | .d d => Rep K M H v d
/-- what can be read of a value now -/
def ValR (K : PySem.W.Frag) (M : Ad) (H : Hp) (v : V) (d : D) : Prop := Rep K M H v d ∨ ∃ a, v = .ref a ∧ Con K M H a d
theorem OpdR.ev (x : Ev P M H M' H') {v : V} {o : Op} (h : OpdR K M H σ v o) : OpdR K M' H' σ v o := by
  cases o with
  | s i => exact h
  | d d => exact Rep.ev x h
theorem OpdR.val (e : EnvR K F M H σ ρ) {v : V} {o : Op} {d : D} (h : OpdR K M H σ v o) (g : getOp ρ o = some d) : ValR K M H v d := by
  cases o with
  | d d' =>
    have : d' = d := Option.some.inj g
    subst this
    exact .inl h
  | s i =>
    have g2 : (match ρ[i]? with | some s => s.val | none => none) = some d := g
    have h2 : atS σ i = some v := h
    split at g2
    · rename_i s es
      have q := e.sl i s es
      rw [h2] at q
      cases s with
      | no => cases g2
      | fr d' =>
        obtain rfl : d' = d := Option.some.inj g2
        obtain ⟨x, e1, r⟩ := q
        obtain rfl := Option.some.inj e1
        exact .inl r
      | bo d' =>
        obtain rfl : d' = d := Option.some.inj g2
        obtain ⟨x, e1, r⟩ := q
        obtain rfl := Option.some.inj e1
        rcases r with r | ⟨a, ea, _, _, c⟩
        · exact .inl r
        · exact .inr ⟨a, ea, c⟩
      | ow d' =>
        obtain rfl : d' = d := Option.some.inj g2
        obtain ⟨a, e1, _, _, c⟩ := q
        obtain rfl := Option.some.inj e1
        exact .inr ⟨a, rfl, c⟩
      | io d' =>
        obtain rfl : d' = d := Option.some.inj g2
        obtain ⟨a, e1, _, _, _, c⟩ := q
        obtain rfl := Option.some.inj e1
        exact .inr ⟨a, rfl, c⟩
      | le d' =>
        obtain rfl : d' = d := Option.some.inj g2
        obtain ⟨a, e1, _, _, _, c⟩ := q
        obtain rfl := Option.some.inj e1
        exact .inr ⟨a, rfl, c⟩
    · cases g2
theorem ValR.int {v : V} {i : Int} (h : ValR K M H v (.int i)) : v = .int i := by
  rcases h with h | ⟨a, _, c⟩
  · cases h; rfl
  · cases c
theorem ValR.bl {v : V} {i : Bool} (h : ValR K M H v (.bl i)) : v = .bl i := by
  rcases h with h | ⟨a, _, c⟩
  · cases h; rfl
  · cases c
theorem ValR.str {v : V} {i : Str} (h : ValR K M H v (.str i)) : v = .str i := by
  rcases h with h | ⟨a, _, c⟩
  · cases h; rfl
  · cases c
theorem ValR.non {v : V} (h : ValR K M H v .non) : v = .non := by
  rcases h with h | ⟨a, _, c⟩
  · cases h; rfl
  · cases c
theorem ValR.tupH {v : V} {ds : List D} (h : ValR K M H v (.tup ds)) : ∃ a xs, v = .ref a ∧ H a = some (.tup xs) ∧ Reps K M H xs ds := by
  rcases h with h | ⟨a, _, c⟩
  · cases h with
    | tup h r => exact ⟨_, _, rfl, h, r⟩
  · cases c
theorem ValR.tup {v : V} {ds : List D} (h : ValR K M H v (.tup ds)) : ∃ a xs, v = .ref a ∧ SqT K H a xs ∧ Reps K M H xs ds := by
  obtain ⟨a, xs, e, h1, r⟩ := h.tupH
  exact ⟨a, xs, e, .of h1, r⟩
theorem ValR.kt {v : V} {ns : List Int} (h : ValR K M H v (.kt ns)) : ∃ a, v = .ref a ∧ SqT K H a (ns.map V.int) := by
  rcases h with h | ⟨a, _, c⟩
  · cases h with
    | kt h => exact ⟨_, rfl, .inr h⟩
  · cases c
theorem ValR.obj {v : V} {c : Str} {fs : List Str} {ds : List D} (h : ValR K M H v (.obj c fs ds)) : ∃ a dx fv, v = .ref a ∧ H a = some (.ins (He.ga K c) dx fv) ∧ fs = fv.map (fun p => p.1) ∧ Reps K M H (fv.map (·.2)) ds := by
  rcases h with h | ⟨a, rfl, c⟩
  · cases h with
    | obj n h k r => exact ⟨_, _, _, rfl, h, k, r⟩
  · cases c with
    | obj h k r => exact ⟨_, _, _, rfl, h, k, r⟩
theorem ValR.dtp {v : V} {ks : List (List Key)} {ds : List D} (h : ValR K M H v (.dtp ks ds)) : ∃ a o kvs, v = .ref a ∧ H a = some (.frz o (.dT kvs)) ∧ ks = kvs.map (fun p => p.1) ∧ Reps K M H (kvs.map (·.2)) ds := by
  rcases h with h | ⟨a, rfl, c⟩
  · cases h with
    | dT h k r => exact ⟨_, _, _, rfl, h, k, r⟩
  · cases c
theorem ValR.lst {v : V} {ds : List D} (h : ValR K M H v (.lst ds)) : ∃ a xs, v = .ref a ∧ H a = some (.lst xs) ∧ Reps K M H xs ds := by
  rcases h with h | ⟨a, rfl, c⟩
  · cases h with
    | lst n h r => exact ⟨_, _, rfl, h, r⟩
  · cases c with
    | lst h r => exact ⟨_, _, rfl, h, r⟩
theorem ValR.scr {v : V} {ns : List Int} (h : ValR K M H v (.scr ns)) : ∃ a, v = .ref a ∧ SqL K H a (ns.map V.int) := by
  rcases h with h | ⟨a, rfl, c⟩
  · cases h with
    | scr h => exact ⟨_, rfl, h.elim (fun ⟨o, h⟩ => .inl (.inr ⟨o, h⟩)) .inr⟩
  · cases c
theorem ValR.ev {P : Ad} (mt : ∀ a, M a → Mut (H a)) {v : V} {d : D} (h : ValR K M H v d) (g : Grow M H M' H') : ValR K M' H' v d := by
  have e : Ev (fun _ => False) M H M' H' := g.ev mt
  rcases h with h | ⟨a, rfl, c⟩
  · exact .inl (h.ev e)
  · refine .inr ⟨a, rfl, c.ev e ?_⟩
    cases q : H a with
    | none => exact absurd q c.there
    | some o => rw [g.keep a o q]
/-! data, as the library reads it -/
mutual
theorem Rep.dp : ∀ {v : V} (d : D) {p : PyData}, Rep K M H v d → toPy d = some p → Dp K H v p
  | _, .non, _, h, e => by cases h; cases e; exact .non
  | _, .bl b, _, h, e => by cases h; cases e; exact .bl _
  | _, .int b, _, h, e => by cases h; cases e; exact .int _
  | _, .str b, _, h, e => by cases h; cases e; exact .str _
  | _, .tup ds, p, h, e => by
    cases h with
    | tup h r =>
      rw [toPy] at e
      obtain ⟨ps, e1, rfl⟩ := Option.map_eq_some_iff.mp e
      exact .tup (.of h) (Reps.dp ds r e1)
  | _, .lst ds, p, h, e => by
    cases h with
    | lst n h r =>
      rw [toPy] at e
      obtain ⟨ps, e1, rfl⟩ := Option.map_eq_some_iff.mp e
      exact .lst (.of h) (Reps.dp ds r e1)
  | _, .scr _, _, _, e => by cases e
  | _, .kt _, _, _, e => by cases e
  | _, .dtp _ _, _, _, e => by cases e
  | _, .dtu _ _, _, _, e => by cases e
  | _, .dct _ _, _, _, e => by cases e
  | _, .set _, _, _, e => by cases e
  | _, .obj _ _ _, _, _, e => by cases e
  | _, .exc _ _ _, _, _, e => by cases e
  | _, .lam _ _, _, _, e => by cases e
theorem Reps.dp : ∀ {vs : List V} (ds : List D) {ps : List PyData}, Reps K M H vs ds → toPys ds = some ps → DpAll K H vs ps
  | _, [], _, h, e => by cases h; cases e; exact .nil
  | _, d :: ds, ps, h, e => by
    cases h with
    | cons h r =>
      rw [toPys] at e
      split at e
      · rename_i p ps' e1 e2
        cases e
        exact .cons (Rep.dp d h e1) (Reps.dp ds r e2)
      · cases e
end
theorem ValR.dp {v : V} {d : D} {p : PyData} (h : ValR K M H v d) (e : toPy d = some p) : Dp K H v p := by
  rcases h with h | ⟨a, rfl, c⟩
  · exact h.dp d e
  · cases c with
    | lst h r =>
      rw [toPy] at e
      obtain ⟨ps, e1, rfl⟩ := Option.map_eq_some_iff.mp e
      exact .lst (.of h) (Reps.dp _ r e1)
    | dK h q r => cases e
    | dTu h q r => cases e
    | obj h q r => cases e
end
end Pd
set_option Elab.async false
set_option linter.all false
/-! Pd2: from the program's syntax to the small one. -/
namespace Pd
open PySem L2
/-- what the module's names are: defs, built-ins that are not covered, constants, classes -/
structure Ms where
  fns : List Str
  blts : List Str
  csts : List Str
  clss : List Str
  mths : List Str
  tabs : List Str
  lks : List (List Str × Str) := []
  dfl : List (Str × Nat) := []
  deriving Inhabited
/-- a def in which {} is a dict by tuples -/
def Ms.emp (m : Ms) (N : List Str) : Bool := m.lks.any fun q => decide (q.1 = N)
/-- a name that holds a dict by tuples -/
def Ms.lk (m : Ms) (N : List Str) (x : Str) : Bool := m.lks.any fun q => decide (q.1 = N) && decide (q.2 = x)
/-- a last argument that is left out -/
def padE (m : Ms) (x : Str) (ts : List Ex) : List Ex := if (!ts.isEmpty && m.dfl.contains (x, ts.length + 1)) = true then ts ++ [.non] else ts
def plainName (x : Str) : Bool := !(x == ("__debug__" : Str)) && !(x == ("__classdict__" : Str)) && !(x == ("__name__" : Str))
def slotV (N : List Str) (sc : Scope) (x : Str) : Option Nat :=
  if plainName x then match sc.names.lookup x with
    | some .local => N.idxOf? x
    | some .cell => N.idxOf? x
    | some .free => N.idxOf? x
    | _ => none
  else none
def slotS (N : List Str) (sc : Scope) (x : Str) : Option Nat := match sc.names.lookup x with
  | some .local => N.idxOf? x
  | some .cell => N.idxOf? x
  | _ => none
def isGl (sc : Scope) (x : Str) : Bool := plainName x && (match sc.names.lookup x with
  | some .globalImplicit => true
  | _ => false)
def notStar : Expr → Bool
  | .Starred .. => false
  | _ => true
def plainIx : Expr → Bool
  | .Name .. => true
  | .Constant .. => true
  | .BinOp .. => true
  | .Call .. => true
  | .UnaryOp .. => true
  | .Subscript .. => true
  | .Attribute .. => true
  | .IfExp .. => true
  | _ => false
def biTab : List (Str × Bi) := [("len", .len), ("abs", .abs), ("sum", .sum), ("min", .min), ("max", .max), ("sorted", .sorted), ("tuple", .tuple), ("list", .list), ("int", .int), ("bool", .bool), ("all", .all), ("any", .any), ("str", .str), ("repr", .repr), ("set", .set), ("dict", .dict)]
def biOf (x : Str) : Option Bi := (biTab.find? fun p => decide (p.1 = x)).map (·.2)
def tyTab : List (Str × Ty) := [("int", .int), ("bool", .bool), ("str", .str), ("tuple", .tuple), ("list", .list), ("dict", .dict)]
def tyOf (x : Str) : Option Ty := (tyTab.find? fun p => decide (p.1 = x)).map (·.2)
def meOf (x : Str) : Option Me := if x = "index" then some .index else if x = "count" then some .count else none
/-- what a method is asked of -/
def plainRecv : Expr → Bool
  | .Call _ [] _ _ => false
  | _ => true
def meEx (ok : Bool) (x : Str) (a b : Ex) : Ex := if ok = true then (match meOf x with
  | some m => .me m a [b]
  | none => .bad) else .bad
/-- a dict display's keys: texts -/
def keysOf : List (Option Expr) → Option (List Str)
  | [] => some []
  | some (.Constant (.str x) _ _) :: es => (keysOf es).map (x :: ·)
  | _ => none
def slotSit : Option Nat → Ex
  | some i => .sit i
  | none => .bad
/-- the names of a comprehension's own -/
def ownOf (N : List Str) (scope : Scope) : List (Str × Nat) := scope.names.filterMap fun y => match y.2 with
  | .local => (N.idxOf? y.1).map fun i => (y.1, i)
  | .cell => (N.idxOf? y.1).map fun i => (y.1, i)
  | _ => none
def trTs (N : List Str) (sc : Scope) : List Expr → Option (List Nat)
  | [] => some []
  | .Name x _ :: es => match slotS N sc x, trTs N sc es with
    | some i, some is => some (i :: is)
    | _, _ => none
  | _ => none
/-- a loop's target -/
def trT (N : List Str) (sc : Scope) : Expr → Option (List Nat × Bool)
  | .Name x _ => (slotS N sc x).map fun i => ([i], true)
  | .Tuple es _ _ => (trTs N sc es).map fun is => (is, false)
  | _ => none
def nn : Ex → Ex
  | .nil => .bad
  | e => e
def tupT : Expr → Bool
  | .Tuple .. => true
  | _ => false
def rgsOf (x : Str) : Ex → Ex → Ex → Ex
  | .rng1 y, _, z => if x = "tuple" then .rgs true y else if x = "list" then .rgs false y else z
  | _, .sset y, z => if x = "sorted" then .sset y else z
  | _, .sit i, z => if x = "sorted" then .sit i else z
  | _, _, z => z
/-- the built-in set -/
def setGl (m : Ms) (sc : Scope) (x : Str) : Bool := decide (x = "set") && isGl sc x && m.blts.contains x
def emptySet (m : Ms) (sc : Scope) : Expr → Bool
  | .Call (.Name x _) [] [] _ => setGl m sc x
  | _ => false
def meetOf (e : Bool) (op : CmpOp) : Ex → Ex → Ex
  | .meet x y, z => match op with
    | .NotEq => if e = true then .meet x y else z
    | _ => z
  | _, z => z
/-- a table of the module -/
def tabOf (m : Ms) (sc : Scope) : Expr → Option Str
  | .Name x _ => if isGl sc x && m.tabs.contains x then some x else none
  | _ => none
def tinOf (t : Option Str) (op : CmpOp) (a z : Ex) : Ex := match t, op with
  | some x, .In => .tin false x a
  | some x, .NotIn => .tin true x a
  | _, _ => z
def itOf : Ex → Ex → Ex
  | .bad, b => .itr b
  | a, _ => a
/-- dict(..) -/
def dicOf (x : Str) : Ex → Ex → Ex → Ex
  | .dzip es, _, r => if x = "dict" then .dzip es else r
  | _, p, r => if x = "dict" then p else r
def tgOf (one : Bool) (t : Option Str) (a : Ex) : Ex := match t with
  | some x => if one = true then .tget x a else .tgetE x a
  | none => .bad
/-- what a method is asked of, as the machine reads it plainly -/
def plainObj : Expr → Bool
  | .Name .. => true
  | .Attribute .. => true
  | .Subscript .. => true
  | _ => false
def isSet : Expr → Bool
  | .Set .. => true
  | _ => false
def andL : List Ex → Ex
  | [] => .bad
  | [e] => e
  | e :: es => .and e (andL es)
def orL : List Ex → Ex
  | [] => .bad
  | [e] => e
  | e :: es => .or e (orL es)
def isiCall (m : Ms) (sc : Scope) : List Expr → List Ex → Ex
  | [_, .Name t _], [a, _] => if isGl sc t && m.blts.contains t then (match tyOf t with
    | some ty => .isi a ty
    | none => .bad) else .bad
  | _, _ => .bad
def dprsOf : List Ex → Ex
  | [t] => .dprs t
  | _ => .bad
/-- a call of a name -/
def nameCall (m : Ms) (sc : Scope) (x : Str) (args : List Expr) (ts : List Ex) (ri rq rz : Ex) : Ex :=
  if (isGl sc x && args.all notStar && decide (args.length < 30)) = true then
    if m.fns.contains x = true then .call x (padE m x ts)
    else if m.clss.contains x = true then (if args.isEmpty then .bad else .mk x ts)
    else if m.blts.contains x = true then
      if x = "isinstance" then isiCall m sc args ts
      else match biOf x with
        | some b => dicOf x rz (dprsOf ts) (rgsOf x ri rq (.bi b ts))
        | none => .bad
    else .bad
  else .bad
def popSlot (N : List Str) (sc : Scope) : Expr → Option Nat
  | .Name y _ => slotV N sc y
  | _ => none
def getCall (m : Ms) (sc : Scope) (o : Expr) : List Expr → List Ex → Ex
  | [a], [t] => if notStar a then tgOf true (tabOf m sc o) t else .bad
  | [a, .Tuple [] _ _], [t, _] => if notStar a then tgOf false (tabOf m sc o) t else .bad
  | _, _ => .bad
def popCall : Option Nat → List Expr → List Ex → Ex
  | some i, [], _ => .pop i .nil
  | some i, [a], [t] => if notStar a then .pop i (nn t) else .bad
  | _, _, _ => .bad
def meCall (c : Bool) (meth : Str) (ro : Ex) : List Expr → List Ex → Ex
  | [a], [t] => meEx (c && notStar a) meth ro t
  | _, _ => .bad
/-- a call of a method -/
def attrCall (m : Ms) (N : List Str) (sc : Scope) (o : Expr) (meth : Str) (apos pos : Pos) (args : List Expr) (ts : List Ex) (ro : Ex) : Ex :=
  if (apos.endLine == pos.line) = true then
    if (m.mths.contains meth && plainObj o && args.all notStar && decide (args.length < 30)) = true then .own ro meth ts
    else if meth = "get" then getCall m sc o args ts
    else if meth = "pop" then popCall (popSlot N sc o) args ts
    else meCall (plainRecv o) meth ro args ts
  else .bad
def revCall (m : Ms) (sc : Scope) : Expr → List Expr → List Ex → Str → Ex
  | .Name x _, [a], [t], k => if (isGl sc x && notStar a && m.blts.contains x && decide (x = "sorted") && decide (k = "reverse")) = true then .sortedR t else .bad
  | _, _, _, _ => .bad
def callPick (m : Ms) (N : List Str) (sc : Scope) (f : Expr) (args : List Expr) (kws : List Keyword) (pos : Pos) (ts : List Ex) (ro ri rq rz : Ex) : Ex := match kws with
  | [] => (match f with
    | .Name x _ => nameCall m sc x args ts ri rq rz
    | .Attribute o meth apos => attrCall m N sc o meth apos pos args ts ro
    | _ => .bad)
  | [⟨some k, .Constant (.bool true) _ _, _⟩] => revCall m sc f args ts k
  | _ => .bad
mutual
def tr (m : Ms) (N : List Str) : Expr → Scope → Ex
  | .Name x _, sc => match slotV N sc x with
    | some i => if m.lk N x = true then .lkv i else .var i
    | none => if isGl sc x && m.csts.contains x then .cst x else .bad
  | .Constant c _ _, sc => match c with
    | .none => .non
    | .bool b => .bl b
    | .int i => .int i
    | .str s => .str s
    | _ => .bad
  | .Tuple es _ _, sc => if es.all notStar && decide (es.length ≤ 1000) then .tup (trs m N es sc) else .bad
  | .List es _, sc => if es.all notStar && decide (es.length ≤ 1000) then .lst (trs m N es sc) else .bad
  | .BinOp a op b _, sc => .bin op (tr m N a sc) (tr m N b sc)
  | .UnaryOp op a _, sc => match op with
    | .Not => .not (tr m N a sc)
    | .USub => .neg (tr m N a sc)
    | _ => .bad
  | .BoolOp op vs _, sc => if decide (2 ≤ vs.length) then (match op with
    | .And => andL (trs m N vs sc)
    | .Or => orL (trs m N vs sc)) else .bad
  | .IfExp c a b _, sc => .ite (tr m N c sc) (tr m N a sc) (tr m N b sc)
  | .Compare a [op] [b] _, sc => if isSet b then .bad else tinOf (tabOf m sc b) op (tr m N a sc) (meetOf (emptySet m sc b) op (trM m N a sc) (.cmp op (tr m N a sc) (tr m N b sc)))
  | .Compare a [o1, o2] [b, c] _, sc => if isSet c then .bad else .chn o1 o2 (tr m N a sc) (tr m N b sc) (tr m N c sc)
  | .Subscript a (.Slice none none (some (.UnaryOp .USub (.Constant (.int 1) _ _) _)) _) _, sc => .rev (tr m N a sc)
  | .Subscript a (.Slice lo hi none _) _, sc => .sl (tr m N a sc) (trO m N lo sc) (trO m N hi sc)
  | .Subscript a b _, sc => if plainIx b then .ix (tr m N a sc) (tr m N b sc) else .bad
  | .Call f args kws pos, sc => callPick m N sc f args kws pos (trs m N args sc) (trR m N f sc) (trI1 m N args sc) (trQ1 m N args sc) (trZ1 m N args sc)
  | .ListComp elt gs scope _, sc => match gs with
    | [⟨tg, iter, ifs, 0⟩] => if isSet iter then .bad else
      let sc' := relS scope sc
      let own := ownOf N scope
      if blkC N sc scope own then (match trT N sc' tg with
        | some (is, one) => if is.all (fun i => (own.map (·.2)).contains i) then (match ifs with
          | [] => .comp (tr m N elt sc') is one (itOf (trI m N (tupT tg) iter sc) (tr m N iter sc)) .nil (own.map (·.2))
          | [c] => .comp (tr m N elt sc') is one (itOf (trI m N (tupT tg) iter sc) (tr m N iter sc)) (nn (tr m N c sc')) (own.map (·.2))
          | _ => .bad) else .bad
        | none => .bad) else .bad
    | _ => .bad
  | .Attribute a f _, sc => if plainRecv a then .fld (tr m N a sc) f else .bad
  | .Dict ks es _, sc => match keysOf ks with
    | some xs => if (m.emp N && decide (xs = []) && es.isEmpty) = true then .emp else if decide (xs.length = es.length) && decide (xs.length ≤ 15) then .dct xs (trs m N es sc) else .bad
    | none => .bad
  | _, sc => .bad
def trO (m : Ms) (N : List Str) : Option Expr → Scope → Ex
  | none, sc => .nil
  | some e, sc => nn (tr m N e sc)
def trs (m : Ms) (N : List Str) : List Expr → Scope → List Ex
  | [], sc => []
  | e :: es, sc => tr m N e sc :: trs m N es sc
/-- what is walked -/
def trI (m : Ms) (N : List Str) (t : Bool) : Expr → Scope → Ex
  | .Call f args kws _, sc => match f, args, kws with
    | .Name x _, [a], [] => if isGl sc x && m.blts.contains x && notStar a then
        if x = "range" then .rng1 (tr m N a sc) else if x = "reversed" then .revd (tr m N a sc) else if x = "enumerate" ∧ t = true then .enum (tr m N a sc) else .bad
      else .bad
    | .Name x _, [a, b], [] => if isGl sc x && m.blts.contains x && notStar a && notStar b then
        if x = "range" then .rng2 (tr m N a sc) (tr m N b sc) else if x = "zip" ∧ t = true then .zip (tr m N a sc) (tr m N b sc) else .bad
      else .bad
    | _, _, _ => .bad
  | _, sc => .bad
/-- set(a) & set(b) -/
def trM (m : Ms) (N : List Str) : Expr → Scope → Ex
  | .BinOp (.Call (.Name x _) [a] [] _) .BitAnd (.Call (.Name y _) [b] [] _) _, sc => if setGl m sc x && setGl m sc y && notStar a && notStar b then .meet (tr m N a sc) (tr m N b sc) else .bad
  | _, _ => .bad
/-- a method's own thing -/
def trR (m : Ms) (N : List Str) : Expr → Scope → Ex
  | .Attribute o _ _, sc => tr m N o sc
  | _, _ => .bad
def trI1 (m : Ms) (N : List Str) : List Expr → Scope → Ex
  | [e], sc => trI m N false e sc
  | _, _ => .bad
def trQ1 (m : Ms) (N : List Str) : List Expr → Scope → Ex
  | [e], sc => trQ m N e sc
  | _, _ => .bad
def trZ1 (m : Ms) (N : List Str) : List Expr → Scope → Ex
  | [e], sc => trZ m N e sc
  | _, _ => .bad
/-- zip(a, b) -/
def trZ (m : Ms) (N : List Str) : Expr → Scope → Ex
  | .Call (.Name x _) [a, b] [] _, sc => if isGl sc x && m.blts.contains x && decide (x = "zip") && notStar a && notStar b then .dzip [tr m N a sc, tr m N b sc] else .bad
  | _, _ => .bad
/-- set(a) -/
def trQ (m : Ms) (N : List Str) : Expr → Scope → Ex
  | .Call (.Name x _) [a] [] _, sc => if setGl m sc x && notStar a then .sset (tr m N a sc) else .bad
  | .Call (.Attribute (.Name x _) y apos) [] [] cpos, sc => if (decide (y = "items") && (apos.endLine == cpos.line)) = true then slotSit (slotV N sc x) else .bad
  | _, _ => .bad
end
end Pd
set_option Elab.async false
set_option linter.all false
/-! Pd3: the small syntax's values are what the program computes: expressions. -/
namespace Pd
open PySem PySem.Spec PyProof.Rows L2
/-- how a raised thing lies: the owned, the heap, the datum, its class, its own dict -/
abbrev XRel := Ad → Hp → D → Value → Option Addr → Prop
/-- from one place on: what f gives is what comes -/
def At {α β : Type} (K : PySem.W.Frag) (XR : XRel) (W : L2.WX) (f : Env → Res (α × Env)) (R : Fx → Ad → Hp → L2.St → Env → α → β → Prop)
    (F : Fx) (M : Ad) (H : Hp) (σ : L2.St) (ρ : Env) (Q : β → Hp → Prop) : Prop :=
  match f ρ with
  | .ok (a, ρ') => ∀ b M' H', Ev F.k M H M' H' → EnvR K F M' H' σ ρ' → R F M' H' σ ρ' a b → Q b H'
  | .ex x ρ' => ∀ c da M' H', Ev F.k M H M' H' → EnvR K F M' H' σ ρ' → XR M' H' x c da → W c da σ H'
  | .no => False
/-- .. from some place -/
def Rg {α β : Type} (K : PySem.W.Frag) (XR : XRel) (W : L2.WX) (f : Env → Res (α × Env)) (R : Fx → Ad → Hp → L2.St → Env → α → β → Prop) : L2.St → Hp → (β → Hp → Prop) → Prop :=
  fun σ H Q => ∃ F M ρ, EnvR K F M H σ ρ ∧ At K XR W f R F M H σ ρ Q
section
variable {K : PySem.W.Frag} {XR : XRel} {W : L2.WX} {α β γ δ : Type} {F : Fx} {M : Ad} {H : Hp} {σ : L2.St} {ρ : Env}
/-- one behind the other -/
theorem At.bind {g : Env → Res (α × Env)} {h : α → Env → Res (γ × Env)} {R1 : Fx → Ad → Hp → L2.St → Env → α → β → Prop} {R : Fx → Ad → Hp → L2.St → Env → γ → δ → Prop} {Q : δ → Hp → Prop}
    (x : At K XR W (fun ρ => g ρ >>= fun p => h p.1 p.2) R F M H σ ρ Q) {Q1 : β → Hp → Prop}
    (k : ∀ a b M1 H1 ρ1, Ev F.k M H M1 H1 → EnvR K F M1 H1 σ ρ1 → R1 F M1 H1 σ ρ1 a b → At K XR W (h a) R F M1 H1 σ ρ1 Q → Q1 b H1) : At K XR W g R1 F M H σ ρ Q1 := by
  have x' : (match (g ρ >>= fun p => h p.1 p.2) with
  | .ok (a, ρ') => ∀ b M' H', Ev F.k M H M' H' → EnvR K F M' H' σ ρ' → R F M' H' σ ρ' a b → Q b H'
  | .ex x ρ' => ∀ c da M' H', Ev F.k M H M' H' → EnvR K F M' H' σ ρ' → XR M' H' x c da → W c da σ H'
  | .no => False) := x
  unfold At
  cases e : g ρ with
  | no => rw [e] at x'; exact x'
  | ex x ρ1 => rw [e] at x'; exact x'
  | ok p =>
    obtain ⟨a, ρ1⟩ := p
    rw [e] at x'
    intro b M1 H1 ev er r
    refine k a b M1 H1 ρ1 ev er r ?_
    unfold At
    have x2 : (match h a ρ1 with
      | .ok (a, ρ') => ∀ b M' H', Ev F.k M H M' H' → EnvR K F M' H' σ ρ' → R F M' H' σ ρ' a b → Q b H'
      | .ex x ρ' => ∀ c da M' H', Ev F.k M H M' H' → EnvR K F M' H' σ ρ' → XR M' H' x c da → W c da σ H'
      | .no => False) := x'
    cases e2 : h a ρ1 with
    | no => rw [e2] at x2; exact x2
    | ex x ρ2 => rw [e2] at x2; exact fun c da M' H' ev2 er2 xr => x2 c da M' H' (ev.trans ev2) er2 xr
    | ok p2 =>
      obtain ⟨a2, ρ2⟩ := p2
      rw [e2] at x2
      exact fun b M' H' ev2 er2 r => x2 b M' H' (ev.trans ev2) er2 r
/-- .. and what came is told -/
theorem At.bindE {g : Env → Res (α × Env)} {h : α → Env → Res (γ × Env)} {R1 : Fx → Ad → Hp → L2.St → Env → α → β → Prop} {R : Fx → Ad → Hp → L2.St → Env → γ → δ → Prop} {Q : δ → Hp → Prop}
    (x : At K XR W (fun ρ => g ρ >>= fun p => h p.1 p.2) R F M H σ ρ Q) {Q1 : β → Hp → Prop}
    (k : ∀ a b M1 H1 ρ1, g ρ = .ok (a, ρ1) → Ev F.k M H M1 H1 → EnvR K F M1 H1 σ ρ1 → R1 F M1 H1 σ ρ1 a b → At K XR W (h a) R F M1 H1 σ ρ1 Q → Q1 b H1) : At K XR W g R1 F M H σ ρ Q1 := by
  cases e : g ρ with
  | ok p =>
    have x2 : At K XR W g (fun F M1 H1 σ ρ1 a b => g ρ = .ok (a, ρ1) ∧ R1 F M1 H1 σ ρ1 a b) F M H σ ρ Q1 := At.bind x fun a b M1 H1 ρ1 ev er r kk => k a b M1 H1 ρ1 r.1 ev er r.2 kk
    unfold At at x2 ⊢
    rw [e] at x2 ⊢
    exact fun b M' H' ev er r => x2 b M' H' ev er ⟨rfl, r⟩
  | ex z ρ1 =>
    have x2 : At K XR W g (fun F M1 H1 σ ρ1 a b => g ρ = .ok (a, ρ1) ∧ R1 F M1 H1 σ ρ1 a b) F M H σ ρ Q1 := At.bind x fun a b M1 H1 ρ1 ev er r kk => k a b M1 H1 ρ1 r.1 ev er r.2 kk
    unfold At at x2 ⊢
    rw [e] at x2 ⊢
    exact x2
  | no =>
    have x2 : At K XR W g (fun F M1 H1 σ ρ1 a b => g ρ = .ok (a, ρ1) ∧ R1 F M1 H1 σ ρ1 a b) F M H σ ρ Q1 := At.bind x fun a b M1 H1 ρ1 ev er r kk => k a b M1 H1 ρ1 r.1 ev er r.2 kk
    unfold At at x2 ⊢
    rw [e] at x2 ⊢
    exact x2
theorem At.step {f : Env → Res (α × Env)} {R : Fx → Ad → Hp → L2.St → Env → α → β → Prop} {Q : β → Hp → Prop} {M2 : Ad} {H2 : Hp} (ev : Ev F.k M H M2 H2) (x : At K XR W f R F M H σ ρ Q) : At K XR W f R F M2 H2 σ ρ Q := by
  unfold At at x ⊢
  cases e : f ρ with
  | ok p => rw [e] at x; exact fun b M' H' e1 e2 r => x b M' H' (ev.trans e1) e2 r
  | ex z ρ1 => rw [e] at x; exact fun c da M' H' e1 e2 r => x c da M' H' (ev.trans e1) e2 r
  | no => rw [e] at x; exact x
theorem At.cong {f g : Env → Res (α × Env)} {R : Fx → Ad → Hp → L2.St → Env → α → β → Prop} {Q : β → Hp → Prop} (e : f ρ = g ρ) (x : At K XR W f R F M H σ ρ Q) : At K XR W g R F M H σ ρ Q := by
  unfold At at x ⊢
  rw [← e]; exact x
/-- at an end -/
theorem At.ok {f : Env → Res (α × Env)} {R : Fx → Ad → Hp → L2.St → Env → α → β → Prop} {Q : β → Hp → Prop} {a : α} {ρ1 : Env} (x : At K XR W f R F M H σ ρ Q) (e : f ρ = .ok (a, ρ1)) :
    ∀ b M' H', Ev F.k M H M' H' → EnvR K F M' H' σ ρ1 → R F M' H' σ ρ1 a b → Q b H' := by
  unfold At at x
  rw [e] at x; exact x
theorem At.no {f : Env → Res (α × Env)} {R : Fx → Ad → Hp → L2.St → Env → α → β → Prop} {Q : β → Hp → Prop} (x : At K XR W f R F M H σ ρ Q) (e : f ρ = .no) : False := by
  unfold At at x
  rw [e] at x; exact x
end
/-- values; operands; both in rows -/
def RV (K : PySem.W.Frag) : Fx → Ad → Hp → L2.St → Env → Bool × D → V → Prop := fun F M H σ ρ a v => RvR K F M H σ ρ a.1 v a.2
def RO (K : PySem.W.Frag) : Fx → Ad → Hp → L2.St → Env → Op → V → Prop := fun _ M H σ _ o v => OpdR K M H σ v o
def RVs (K : PySem.W.Frag) : Fx → Ad → Hp → L2.St → Env → List D → List V → Prop := fun _ M H _ _ ds vs => Reps K M H vs ds
def ROs (K : PySem.W.Frag) : Fx → Ad → Hp → L2.St → Env → List Op → List V → Prop := fun _ M H σ _ os vs => Paired (fun o v => OpdR K M H σ v o) os vs
abbrev RdV (K : PySem.W.Frag) (XR : XRel) (W : L2.WX) (T : Tb) (e : Ex) : TE := Rg K XR W (evalV T e) (RV K)
abbrev RdO (K : PySem.W.Frag) (XR : XRel) (W : L2.WX) (T : Tb) (e : Ex) : TE := Rg K XR W (opd (evalV T e) e) (RO K)
abbrev RdVs (K : PySem.W.Frag) (XR : XRel) (W : L2.WX) (T : Tb) (es : List Ex) : TA := Rg K XR W (evalVs T es) (RVs K)
abbrev RdOs (K : PySem.W.Frag) (XR : XRel) (W : L2.WX) (T : Tb) (es : List Ex) : TA := Rg K XR W (evalOs T es) (ROs K)
theorem pe_imp {X : Cx} {e : Expr} {t t' : TE} (h : PE X e t) (k : ∀ σ H Q, t' σ H Q → t σ H Q) : PE X e t' := ⟨fun pins s σ H Q I w => h.run pins s σ H Q I (k σ H Q w)⟩
theorem pt_imp {X : Cx} {e : Expr} {t t' : TT} (h : PT X e t) (k : ∀ σ H Q, t' σ H Q → t σ H Q) : PT X e t' := ⟨fun pins s σ H Q I w => h.run pins s σ H Q I (k σ H Q w)⟩
theorem pa_imp {X : Cx} {es : List Expr} {t t' : TA} (h : PA X es t) (k : ∀ σ H Q, t' σ H Q → t σ H Q) : PA X es t' := ⟨fun pos pins s σ H Q I w => h.run pos pins s σ H Q I (k σ H Q w)⟩
theorem ps_imp {X : Cx} {st : Stmt} {t t' : TS} (h : PS X st t) (k : ∀ D σ H, t' D σ H → t D σ H) : PS X st t' := ⟨fun pins s σ H D I w => h.run pins s σ H D I (k D σ H w)⟩
theorem pss_imp {X : Cx} {st : List Stmt} {t t' : TS} (h : PSs X st t) (k : ∀ D σ H, t' D σ H → t D σ H) : PSs X st t' := ⟨fun pins s σ H D I w => h.run pins s σ H D I (k D σ H w)⟩
/-- a reading that is never there -/
theorem pe_absurd {X : Cx} {e : Expr} {t : TE} (k : ∀ σ H Q, ¬ t σ H Q) : PE X e t := ⟨fun _ _ σ H Q _ w => (k σ H Q w).elim⟩
theorem pt_absurd {X : Cx} {e : Expr} {t : TT} (k : ∀ σ H Q, ¬ t σ H Q) : PT X e t := ⟨fun _ _ σ H Q _ w => (k σ H Q w).elim⟩
theorem ps_absurd {X : Cx} {e : Stmt} {t : TS} (k : ∀ D σ H, ¬ t D σ H) : PS X e t := ⟨fun _ _ σ H D _ w => (k D σ H w).elim⟩
theorem Rg.bad {K : PySem.W.Frag} {XR : XRel} {W : L2.WX} {T : Tb} {σ : L2.St} {H : Hp} {Q : VK} : ¬ RdV K XR W T .bad σ H Q := fun ⟨F, M, ρ, _, x⟩ => x.no rfl
/-- lengths that the heap bears -/
def Good (H : Hp) : Prop := ∀ a, (∀ xs, L2.Rd H a (.lst xs) → xs.length ≤ sizeLine) ∧ (∀ xs, L2.Rd H a (.tup xs) → xs.length ≤ sizeLine) ∧ ∀ kvs, L2.Rd H a (.dT kvs) → kvs.length ≤ sizeLine
theorem inv_good {X : Cx} {pins : List (Addr × Obj)} {σ : L2.St} {H : Hp} {s : Shared} (I : Inv X pins σ H s) : Good H := fun a => ⟨fun xs h => (h.ok I.hok).1, fun xs h => (h.ok I.hok).1, fun xs h => (h.ok I.hok).1⟩
theorem Good.sqL {X : Cx} {K : PySem.W.Frag} {H : Hp} (g : Good H) {a : Addr} {xs : List V} (h : SqL K H a xs) : xs.length ≤ sizeLine := by
  rcases h with h | ⟨o, its, n, _, _, _, _, z, r⟩
  · exact (g a).1 xs h
  · have e := r.length
    simp only [Array.length_toList] at e
    omega
theorem hasV_some {K : PySem.W.Frag} {F : Fx} {M : Ad} {H : Hp} {σ : L2.St} {ρ : Env} {i : Nat} (e : EnvR K F M H σ ρ) (h : hasV ρ i = true) : ∃ v, atS σ i = some v := by
  have h2 : (match ρ[i]? with | some s => s.val | none => none).isSome = true := h
  split at h2
  · rename_i s es
    have q := e.sl i s es
    cases s with
    | no => cases h2
    | fr d => obtain ⟨v, q, _⟩ := q; exact ⟨v, q⟩
    | bo d => obtain ⟨v, q, _⟩ := q; exact ⟨v, q⟩
    | ow d => obtain ⟨v, q, _⟩ := q; exact ⟨_, q⟩
    | io d => obtain ⟨v, q, _⟩ := q; exact ⟨_, q⟩
    | le d => obtain ⟨v, q, _⟩ := q; exact ⟨_, q⟩
  · cases h2
/-- an operand of a value -/
theorem simO {X : Cx} {T : Tb} {XR : XRel} {W : L2.WX} {e : Expr} {ex : Ex} (h : PE X e (RdV X.K XR W T ex)) (hv : ∀ i, ex = .var i → PE X e (tVar i)) : PE X e (RdO X.K XR W T ex) := by
  cases ex with
  | var i =>
    refine pe_imp (hv i rfl) ?_
    rintro σ H Q ⟨F, M, ρ, er, x⟩
    by_cases hs : hasV ρ i = true
    · obtain ⟨v, q⟩ := hasV_some er hs
      have k := x.ok (a := .s i) (ρ1 := ρ) (by show (if hasV ρ i = true then _ else _) = _; rw [if_pos hs])
      exact ⟨v, atS_some q, k v M H (.refl er.mt) er q⟩
    · exact (x.no (by show (if hasV ρ i = true then _ else _) = _; rw [if_neg hs])).elim
  | _ =>
    refine pe_imp h ?_
    rintro σ H Q ⟨F, M, ρ, er, x⟩
    refine ⟨F, M, ρ, er, ?_⟩
    refine At.bind (γ := Op) (δ := V) (h := fun (a : Bool × D) ρ' => Res.ok (Op.d a.2, ρ')) (R1 := RV X.K) (R := RO X.K) (Q := Q) x ?_
    intro a b M1 H1 ρ1 ev er1 r k
    obtain ⟨M2, ev2, er2, rp⟩ := RvR.freeze er1 r
    exact k.ok rfl b M2 H1 ev2 er2 rp
/-- a value of a name -/
theorem var_i {K : PySem.W.Frag} {T : Tb} {XR : XRel} {W : L2.WX} {i : Nat} {σ : L2.St} {H : Hp} {Q : VK} (h : RdV K XR W T (.var i) σ H Q) : tVar i σ H Q := by
  obtain ⟨F, M, ρ, er, x⟩ := h
  have q : ∀ s, ρ[i]? = some s → _ := er.sl i
  cases es : ρ[i]? with
  | none => exact (x.no (by show varD i ρ = _; unfold varD; rw [es])).elim
  | some s =>
    have qs := q s es
    cases s with
    | no => exact (x.no (by show varD i ρ = _; unfold varD; rw [es])).elim
    | bo d => exact (x.no (by show varD i ρ = _; unfold varD; rw [es])).elim
    | io d => exact (x.no (by show varD i ρ = _; unfold varD; rw [es])).elim
    | le d => exact (x.no (by show varD i ρ = _; unfold varD; rw [es])).elim
    | fr d =>
      obtain ⟨v, e1, r⟩ := qs
      exact ⟨v, atS_some e1, x.ok (a := (false, d)) (ρ1 := ρ) (by show varD i ρ = _; unfold varD; rw [es]) v M H (.refl er.mt) er r⟩
    | ow d =>
      obtain ⟨a, e1, m, np, c⟩ := qs
      have hi : i < ρ.length := (List.getElem?_eq_some_iff.mp es).1
      refine ⟨_, atS_some e1, ?_⟩
      have ev : Ev F.k M H (fun b => M b ∧ b ≠ a) H := ⟨er.mt, fun _ h => h, fun _ _ h _ => h, fun _ h => .inl h.1, fun b pb mb => ⟨rfl, mb, fun z => np (z ▸ pb)⟩⟩
      have mi : mineAt ρ i = true := by unfold mineAt; rw [es]; rfl
      refine x.ok (a := (false, d)) (ρ1 := ρ.set i (.fr d)) (by show varD i ρ = _; unfold varD; rw [es]) (.ref a) _ H ev ?_ ((c.ev ev rfl).rep fun z => z.2 rfl)
      refine ⟨fun b h => er.mt b h.1, fun b pb => ⟨er.pm b pb, fun z => np (z ▸ pb)⟩, by rw [List.length_set]; exact er.len, fun j s es' => ?_, fun j k b hjk h1 h2 h3 => ?_, fun j b hl => ?_⟩
      · by_cases hj : i = j
        · subst hj
          rw [List.getElem?_set_self hi] at es'
          obtain rfl := Option.some.inj es'
          exact ⟨_, e1, (c.ev ev rfl).rep fun z => z.2 rfl⟩
        · rw [List.getElem?_set_ne hj] at es'
          have qj := er.sl j s es'
          cases s with
          | no => trivial
          | fr d' =>
            obtain ⟨v, e2, r⟩ := qj
            exact ⟨v, e2, r.ev ev⟩
          | bo d' =>
            obtain ⟨v, e2, r⟩ := qj
            refine ⟨v, e2, ?_⟩
            rcases r with r | ⟨b, eb, p, m', c'⟩
            · exact .inl (r.ev ev)
            · exact .inr ⟨b, eb, p, ⟨m', fun z => np (z ▸ .inl p)⟩, c'.ev ev rfl⟩
          | ow d' =>
            obtain ⟨b, e2, m', np', c'⟩ := qj
            refine ⟨b, e2, ⟨m', ?_⟩, np', c'.ev ev rfl⟩
            rintro rfl
            exact er.ne i j _ hj mi (by unfold mineAt; rw [es']; rfl) e1 e2
          | io d' =>
            obtain ⟨b, e2, m', np', l', c'⟩ := qj
            refine ⟨b, e2, ⟨m', ?_⟩, np', l', c'.ev ev rfl⟩
            rintro rfl
            exact er.ne i j _ hj mi (by unfold mineAt; rw [es']; rfl) e1 e2
          | le d' =>
            obtain ⟨b, e2, m', p', l', c'⟩ := qj
            exact ⟨b, e2, ⟨m', fun z => np (z ▸ .inr p')⟩, p', l', c'.ev ev rfl⟩
      · have old : ∀ k, mineAt (ρ.set i (.fr d)) k = true → mineAt ρ k = true := fun k hk => by
          by_cases z : i = k
          · subst z; exact mi
          · rwa [mineAt_set_ne z] at hk
        exact er.ne j k b hjk (old j h1) (old k h2) h3
      · obtain ⟨d', e2⟩ := er.lent j b hl
        refine ⟨d', ?_⟩
        rw [List.getElem?_set_ne (fun z => by rw [z] at es; rcases e2 with e2 | e2 <;> (rw [e2] at es; cases es))]
        exact e2
theorem simVar {X : Cx} {T : Tb} {XR : XRel} {W : L2.WX} {e : Expr} {i : Nat} (h : PE X e (tVar i)) : PE X e (RdV X.K XR W T (.var i)) := pe_imp h fun _ _ _ z => var_i z
/-- a constant -/
theorem simC {X : Cx} {T : Tb} {XR : XRel} {W : L2.WX} {e : Expr} {ex : Ex} {v : V} {d : D} (h : PE X e (tC v)) (he : ∀ ρ, evalV T ex ρ = .ok ((false, d), ρ)) (r : ∀ M H, Rep X.K M H v d) : PE X e (RdV X.K XR W T ex) := by
  refine pe_imp h ?_
  rintro σ H Q ⟨F, M, ρ, er, x⟩
  exact x.ok (he ρ) v M H (.refl er.mt) er (r M H)
/-! ### an operation of two -/
def rOp (K : PySem.W.Frag) (f : D → D → Option (Bool × D)) : R2 := fun x y H Q => Good H → ∃ M d e own r, (∀ a, M a → Mut (H a)) ∧ ValR K M H x d ∧ ValR K M H y e ∧ f d e = some (own, r) ∧ ∀ v M' H', OutR K M H own r v M' H' → Q v H'
def rOp0 (K : PySem.W.Frag) (f : D → D → Option (Bool × D)) : R2 := fun x y H Q => ∃ M d e own r, (∀ a, M a → Mut (H a)) ∧ ValR K M H x d ∧ ValR K M H y e ∧ f d e = some (own, r) ∧ ∀ v M' H', OutR K M H own r v M' H' → Q v H'
theorem imp2 {X : Cx} {T : Tb} {XR : XRel} {W : L2.WX} {a b : Ex} {f : D → D → Option (Bool × D)} {ex : Ex} {r2 : R2} (hr : ∀ x y H Q, rOp0 X.K f x y H Q → r2 x y H Q)
    (he : ∀ ρ, evalV T ex ρ = op2 (opd (evalV T a) a) (opd (evalV T b) b) f ρ) : ∀ σ H Q, RdV X.K XR W T ex σ H Q → tOp r2 (RdO X.K XR W T a) (RdO X.K XR W T b) σ H Q := by
  rintro σ H Q ⟨F, M, ρ, er, x⟩
  have x0 : At X.K XR W (op2 (opd (evalV T a) a) (opd (evalV T b) b) f) (RV X.K) F M H σ ρ Q := At.cong (he ρ) x
  refine ⟨F, M, ρ, er, At.bind (γ := Bool × D) (δ := V) (R := RV X.K) (Q := Q) (h := fun o ρ1 => opd (evalV T b) b ρ1 >>= fun q => match getOp q.2 o, getOp q.2 q.1 with
      | some d, some e => optR (f d e) q.2
      | _, _ => .no) x0 fun oa v M1 H1 ρ1 ev1 er1 r1 k1 => ?_⟩
  refine ⟨F, M1, ρ1, er1, At.bind (γ := Bool × D) (δ := V) (R := RV X.K) (Q := Q) (h := fun o ρ2 => match getOp ρ2 oa, getOp ρ2 o with
      | some d, some e => optR (f d e) ρ2
      | _, _ => .no) k1 fun ob u M2 H2 ρ2 ev2 er2 r2 k2 => ?_⟩
  refine hr _ _ _ _ ?_
  have r1' : OpdR X.K M2 H2 σ v oa := OpdR.ev ev2 r1
  cases ga : getOp ρ2 oa with
  | none => exact (k2.no (by simp only [ga])).elim
  | some d =>
    cases gb : getOp ρ2 ob with
    | none => exact (k2.no (by simp only [ga, gb])).elim
    | some e =>
      cases fo : f d e with
      | none => exact (k2.no (by simp only [ga, gb, fo, optR])).elim
      | some p =>
        obtain ⟨own, r⟩ := p
        refine ⟨M2, d, e, own, r, er2.mt, r1'.val er2 ga, OpdR.val er2 r2 gb, fo, fun w M' H' o => ?_⟩
        obtain ⟨ev3, er3, rv⟩ := OutR.rv er2 o
        exact k2.ok (a := (own, r)) (ρ1 := ρ2) (by simp only [ga, gb, fo, optR]) w M' H' ev3 er3 rv
def rUn0 (K : PySem.W.Frag) (f : D → Option (Bool × D)) : V → Hp → VK → Prop := fun x H Q => ∃ M d own r, (∀ a, M a → Mut (H a)) ∧ ValR K M H x d ∧ f d = some (own, r) ∧ ∀ v M' H', OutR K M H own r v M' H' → Q v H'
theorem imp1 {X : Cx} {T : Tb} {XR : XRel} {W : L2.WX} {a : Ex} {f : D → Option (Bool × D)} {ex : Ex} {r1 : V → Hp → VK → Prop} (hr : ∀ x H Q, rUn0 X.K f x H Q → r1 x H Q)
    (he : ∀ ρ, evalV T ex ρ = op1 (opd (evalV T a) a) f ρ) : ∀ σ H Q, RdV X.K XR W T ex σ H Q → tUn r1 (RdO X.K XR W T a) σ H Q := by
  rintro σ H Q ⟨F, M, ρ, er, x⟩
  have x0 : At X.K XR W (op1 (opd (evalV T a) a) f) (RV X.K) F M H σ ρ Q := At.cong (he ρ) x
  refine ⟨F, M, ρ, er, At.bind (γ := Bool × D) (δ := V) (R := RV X.K) (Q := Q) (h := fun o ρ2 => match getOp ρ2 o with
      | some d => optR (f d) ρ2
      | none => .no) x0 fun oa v M1 H1 ρ1 ev1 er1 r1 k1 => ?_⟩
  refine hr _ _ _ ?_
  cases ga : getOp ρ1 oa with
  | none => exact (k1.no (by simp only [ga])).elim
  | some d =>
    cases fo : f d with
    | none => exact (k1.no (by simp only [ga, fo, optR])).elim
    | some p =>
      obtain ⟨own, r⟩ := p
      refine ⟨M1, d, own, r, er1.mt, OpdR.val er1 r1 ga, fo, fun w M' H' o => ?_⟩
      obtain ⟨ev3, er3, rv⟩ := OutR.rv er1 o
      exact k1.ok (a := (own, r)) (ρ1 := ρ1) (by simp only [ga, fo, optR]) w M' H' ev3 er3 rv
theorem sim1 {X : Cx} {T : Tb} {XR : XRel} {W : L2.WX} {e : Expr} {a : Ex} {f : D → Option (Bool × D)} {ex : Ex} {r1 : V → Hp → VK → Prop} (hr : ∀ x H Q, rUn0 X.K f x H Q → r1 x H Q)
    (h : PE X e (tUn r1 (RdO X.K XR W T a)))
    (he : ∀ ρ, evalV T ex ρ = op1 (opd (evalV T a) a) f ρ) : PE X e (RdV X.K XR W T ex) := pe_imp h (imp1 hr he)
/-- a row of operands to a call -/
def rCall (K : PySem.W.Frag) (f : List D → Option (Bool × D)) : List V → Hp → VK → Prop := fun vs H Q => Good H → ∃ M ds own r, (∀ a, M a → Mut (H a)) ∧ Paired (fun v d => ValR K M H v d) vs ds ∧ f ds = some (own, r) ∧ ∀ v M' H', OutR K M H own r v M' H' → Q v H'
theorem getOps_val {K : PySem.W.Frag} {F : Fx} {M : Ad} {H : Hp} {σ : L2.St} {ρ : Env} (e : EnvR K F M H σ ρ) : ∀ {os : List Op} {vs : List V} {ds : List D}, Paired (fun o v => OpdR K M H σ v o) os vs → getOps ρ os = some ds → Paired (fun v d => ValR K M H v d) vs ds
  | [], _, _, .nil, h => by cases h; exact .nil
  | o :: os, _, ds, .cons r t, h => by
    unfold getOps at h
    split at h
    · rename_i d ds' h1 h2
      cases h
      exact .cons (OpdR.val e r h1) (getOps_val e t h2)
    · cases h
theorem simN {X : Cx} {T : Tb} {XR : XRel} {W : L2.WX} {e : Expr} {es : List Ex} {f : List D → Option (Bool × D)} {ex : Ex}
    (h : PE X e (tCB (rCall X.K f) (RdOs X.K XR W T es)))
    (he : ∀ ρ, evalV T ex ρ = (evalOs T es ρ >>= fun p => match getOps p.2 p.1 with
      | some ds => optR (f ds) p.2
      | none => .no)) : PE X e (RdV X.K XR W T ex) := by
  refine pe_imp h ?_
  rintro σ H Q ⟨F, M, ρ, er, x⟩
  have x0 : At X.K XR W (fun ρ => evalOs T es ρ >>= fun p => match getOps p.2 p.1 with
      | some ds => optR (f ds) p.2
      | none => .no) (RV X.K) F M H σ ρ Q := At.cong (he ρ) x
  refine ⟨F, M, ρ, er, At.bind (γ := Bool × D) (δ := V) (R := RV X.K) (Q := Q) (h := fun o ρ2 => match getOps ρ2 o with
      | some ds => optR (f ds) ρ2
      | none => .no) x0 fun os vs M1 H1 ρ1 ev1 er1 r1 k1 => ?_⟩
  intro _
  cases ga : getOps ρ1 os with
  | none => exact (k1.no (by simp only [ga])).elim
  | some ds =>
    cases fo : f ds with
    | none => exact (k1.no (by simp only [ga, fo, optR])).elim
    | some p =>
      obtain ⟨own, r⟩ := p
      refine ⟨M1, ds, own, r, er1.mt, getOps_val er1 r1 ga, fo, fun w M' H' o => ?_⟩
      obtain ⟨ev3, er3, rv⟩ := OutR.rv er1 o
      exact k1.ok (a := (own, r)) (ρ1 := ρ1) (by simp only [ga, fo, optR]) w M' H' ev3 er3 rv
end Pd
set_option Elab.async false
set_option linter.all false
set_option maxRecDepth 100000
set_option maxHeartbeats 4000000
/-! Ps6: t * 1 is t itself. -/
namespace Ps
open PySem PySem.Spec PyProof.Rows L2
theorem tuple_mul1 (l : Addr) (items : Array Value) (n : Nat) (dd : Option Addr) (sl : Array (Option Value)) (u : Tok) :
    Meets (Builtin.«tuple.__mul__» ⟨[.ref l, .int 1 u], []⟩) (fun _ R s => s.heap.get? l = some { cls := .type "tuple", dict := dd, data := .seq items n, slots := sl } ∧
      R (.ok (.ret (Value.ref l))) s) :=
  .of_wp fun prog w A R s h => by
    obtain ⟨hp, g, d, tk, os⟩ := s
    obtain ⟨hl, h⟩ := h
    have f1 := AutoSeq1.idx_int
    wp_walk using wpAny_loadPart' hl
    exact ⟨_, rfl, h⟩
section
variable {X : Cx}
def rRep1 (K : PySem.W.Frag) : R2 := fun x y H Q => ∃ l xs, x = .ref l ∧ y = .int 1 ∧ SqT K H l xs ∧ Q (.ref l) H
theorem op_rep1 : OpR X (binaryOp .Mult) (rRep1 X.K) := by
  intro pins s σ H x y v u Q I rx ry h
  obtain ⟨l, xs, rfl, rfl, hT, q⟩ := h
  cases rx
  obtain ⟨t, rfl⟩ := ry
  obtain ⟨its, r, ⟨⟨cls, dd, data, sl⟩, ho, hc, n, hd⟩, hs⟩ := I.tuple hT
  simp only at hc hd
  subst hc hd
  exact wpAny_binaryOp_repeat_ref (T := "tuple") (U := "int") (by decide) ⟨_, ho, rfl⟩ (fun s' => typeIs_int s' 1 t) noFill_tuple_mul F.fills_int_mul F.slot_int_rmul repeat_tuple F.slot_int_index.lookup
    (call_meets F.slot_int_rmul (typeIs_int s 1 t) F.entry_int_rmul (F.args_int_rmul_2 _ _) (int_rmul_tuple 1 t l its.toArray n dd sl)
      ⟨ho, rfl, ⟨_, ho, rfl⟩, call_meets F.slot_tuple_mul ⟨_, ho, rfl⟩ F.entry_tuple_mul (F.args_tuple_mul_2 _ _) (tuple_mul1 l its.toArray n dd sl t) ⟨ho, ⟨.ref l, H, I, rfl, q⟩⟩⟩)
end
end Ps
set_option Elab.async false
set_option linter.all false
/-! Pd4: operators by values. -/
namespace Pd
open PySem PySem.Spec PyProof.Rows L2
section
variable {X : Cx}
theorem goodT {K : PySem.W.Frag} {H : Hp} (g : Good H) {a : Addr} {xs : List V} (h : SqT K H a xs) : xs.length ≤ sizeLine := by
  rcases h with h | ⟨o, its, n, _, _, _, z, r⟩
  · exact (g a).2.1 xs h
  · have e := r.length
    simp only [Array.length_toList] at e
    omega
theorem op_bin (o : Operator) : OpR X (binaryOp o) (rOp X.K (binD o)) := by
  intro pins s σ H x y v u Q I rx ry h
  obtain ⟨M, d, e, own, r, mt, vx, vy, hf, q⟩ := h (inv_good I)
  have none' : binD o d e = none → False := fun z => by rw [z] at hf; cases hf
  cases d with
  | int i =>
    have ex := vx.int; subst ex
    cases e with
    | int j =>
      have ey := vy.int; subst ey
      cases o with
      | Add =>
        obtain ⟨rfl, rfl⟩ : own = false ∧ r = .int (i + j) := by injection hf with hf; injection hf with h1 h2; exact ⟨h1.symm, h2.symm⟩
        exact op_add pins s σ H _ _ v u Q I rx ry ⟨i, j, rfl, rfl, q _ M H (.pure mt (.int _))⟩
      | Sub =>
        obtain ⟨rfl, rfl⟩ : own = false ∧ r = .int (i - j) := by injection hf with hf; injection hf with h1 h2; exact ⟨h1.symm, h2.symm⟩
        exact op_sub pins s σ H _ _ v u Q I rx ry ⟨i, j, rfl, rfl, q _ M H (.pure mt (.int _))⟩
      | Mult =>
        have hf' : (if mulOk i j then some (false, D.int (i * j)) else none) = some (own, r) := hf
        split at hf'
        · rename_i hm
          injection hf' with hf'; injection hf' with h1 h2; subst h1; subst h2
          exact op_mulW pins s σ H _ _ v u Q I rx ry ⟨i, j, rfl, rfl, hm, q _ M H (.pure mt (.int _))⟩
        · cases hf'
      | FloorDiv =>
        have hf' : (if j ≠ 0 ∧ j.natAbs.log2 < 9000 then some (false, D.int (i.fdiv j)) else none) = some (own, r) := hf
        split at hf'
        · rename_i hm
          injection hf' with hf'; injection hf' with h1 h2; subst h1; subst h2
          obtain ⟨t, rfl⟩ := rx
          obtain ⟨t', rfl⟩ := ry
          exact floordiv_int hm.1 ⟨.int _, H, I.tok _, ⟨_, rfl⟩, q _ M H (.pure mt (.int _))⟩ (.inl (PyProof.noPylong_of_log2 hm.2))
        · cases hf'
      | Mod =>
        have hf' : (if j ≠ 0 then some (false, D.int (i.fmod j)) else none) = some (own, r) := hf
        split at hf'
        · rename_i hm
          injection hf' with hf'; injection hf' with h1 h2; subst h1; subst h2
          exact op_modN pins s σ H _ _ v u Q I rx ry ⟨i, j, rfl, rfl, hm, q _ M H (.pure mt (.int _))⟩
        · cases hf'
      | Pow =>
        have hf' : (if 0 ≤ j ∧ j ≤ 100000 ∧ i.natAbs < 2 ^ 64 then some (false, D.int (i ^ j.toNat)) else none) = some (own, r) := hf
        split at hf'
        · rename_i hm
          injection hf' with hf'; injection hf' with h1 h2; subst h1; subst h2
          exact op_pow pins s σ H _ _ v u Q I rx ry ⟨i, j, rfl, rfl, ⟨hm.1, by omega, hm.2.2⟩, q _ M H (.pure mt (.int _))⟩
        · cases hf'
      | LShift =>
        have hf' : (if 0 ≤ j ∧ j ≤ 100000 ∧ i.natAbs < 2 ^ 64 then some (false, D.int (i * 2 ^ j.toNat)) else none) = some (own, r) := hf
        split at hf'
        · rename_i hm
          injection hf' with hf'; injection hf' with h1 h2; subst h1; subst h2
          exact op_shl pins s σ H _ _ v u Q I rx ry ⟨i, j, rfl, rfl, ⟨hm.1, by omega, hm.2.2⟩, q _ M H (.pure mt (.int _))⟩
        · cases hf'
      | _ => exact (none' rfl).elim
    | _ => cases o <;> exact (none' rfl).elim
  | tup xs =>
    cases e with
    | tup ys =>
      cases o with
      | Add =>
        have hf' : (if xs.length + ys.length ≤ sizeLine then some (false, D.tup (xs ++ ys)) else none) = some (own, r) := hf
        split at hf'
        · rename_i hm
          injection hf' with hf'; injection hf' with h1 h2; subst h1; subst h2
          obtain ⟨a, vs, rfl, ha, ra⟩ := vx.tupH
          obtain ⟨b, ws, rfl, hb, rb⟩ := vy.tupH
          have la := ra.length
          have lb := rb.length
          refine op_catA pins s σ H _ _ v u Q I rx ry ⟨a, b, vs, ws, rfl, rfl, .of ha, .of hb, by omega, fun z => ?_, fun _ z => ?_, fun _ _ p np => ?_⟩
          · have : xs = [] := List.eq_nil_of_length_eq_zero (by rw [← la, z] <;> rfl)
            rw [this] at q
            exact q _ M H (.pure mt (.tup hb rb))
          · have : ys = [] := List.eq_nil_of_length_eq_zero (by rw [← lb, z] <;> rfl)
            rw [this, List.append_nil] at q
            exact q _ M H (.pure mt (.tup ha ra))
          · exact q _ M _ (.tup mt np (ra.append rb))
        · cases hf'
      | _ => exact (none' rfl).elim
    | int k =>
      have ey := vy.int; subst ey
      cases o with
      | Mult =>
        have hf' : (if xs.isEmpty = false ∧ 1 ≤ k ∧ k ≤ 1000 ∧ xs.length ≤ 1000 then some (false, D.tup (List.replicate k.toNat xs).flatten) else none) = some (own, r) := hf
        split at hf'
        · rename_i hm
          injection hf' with hf'; injection hf' with h1 h2; subst h1; subst h2
          obtain ⟨a, vs, rfl, ha, ra⟩ := vx.tupH
          have la := ra.length
          by_cases h1 : k = 1
          · subst h1
            have e1 : (List.replicate (1 : Int).toNat xs).flatten = xs := by simp
            rw [e1] at q
            exact Ps.op_rep1 pins s σ H _ _ v u Q I rx ry ⟨a, vs, rfl, rfl, .of ha, q _ M H (.pure mt (.tup ha ra))⟩
          · refine op_repT pins s σ H _ _ v u Q I rx ry ⟨a, k, vs, rfl, rfl, .of ha, ?_, by omega, hm.2.2.1, by omega, fun p np => q _ M _ (.tup mt np (ra.rep _))⟩
            intro z
            have : xs = [] := List.eq_nil_of_length_eq_zero (by rw [← la, z] <;> rfl)
            rw [this] at hm
            exact absurd hm.1 (by simp)
        · cases hf'
      | _ => exact (none' rfl).elim
    | _ => cases o <;> exact (none' rfl).elim
  | lst xs =>
    cases e with
    | lst ys =>
      cases o with
      | Add =>
        have hf' : (if xs.length + ys.length ≤ sizeLine then some (true, D.lst (xs ++ ys)) else none) = some (own, r) := hf
        split at hf'
        · rename_i hm
          injection hf' with hf'; injection hf' with h1 h2; subst h1; subst h2
          obtain ⟨a, vs, rfl, ha, ra⟩ := vx.lst
          obtain ⟨b, ws, rfl, hb, rb⟩ := vy.lst
          have la := ra.length
          have lb := rb.length
          exact op_cat pins s σ H _ _ v u Q I rx ry ⟨a, b, vs, ws, rfl, rfl, ha, hb, by omega, fun p np => q _ _ _ (.lst mt np (ra.append rb))⟩
        · cases hf'
      | _ => exact (none' rfl).elim
    | int k =>
      have ey := vy.int; subst ey
      cases o with
      | Mult =>
        have hf' : (if xs.length * k.toNat ≤ sizeLine ∧ k < 1000000 ∧ -1000000 < k then some (true, D.lst (List.replicate k.toNat xs).flatten) else none) = some (own, r) := hf
        split at hf'
        · rename_i hm
          injection hf' with hf'; injection hf' with h1 h2; subst h1; subst h2
          obtain ⟨a, vs, rfl, ha, ra⟩ := vx.lst
          have la := ra.length
          exact op_rep pins s σ H _ _ v u Q I rx ry ⟨a, k, vs, rfl, rfl, ha, by omega, by omega, by rw [la]; exact hm.1, fun p np => q _ _ _ (.lst mt np (ra.rep _))⟩
        · cases hf'
      | _ => exact (none' rfl).elim
    | _ => cases o <;> exact (none' rfl).elim
  | _ => cases o <;> exact (none' rfl).elim
theorem shaped_of {p : PyData} (h : shp p = true) : SeqAt.shaped p = true := by
  unfold shp at h
  unfold SeqAt.shaped
  simp only [Bool.and_eq_true, decide_eq_true_eq] at h ⊢
  exact ⟨h.1, by omega⟩
theorem eqD_some {a b : D} {k : Bool} (h : eqD a b = some k) : ∃ p q, toPy a = some p ∧ toPy b = some q ∧ shp p = true ∧ shp q = true ∧ PyData.eqv p q = k := by
  unfold eqD at h
  split at h
  · rename_i p q e1 e2
    split at h
    · rename_i hs
      rw [Bool.and_eq_true] at hs
      exact ⟨p, q, e1, e2, hs.1, hs.2, Option.some.inj h⟩
    · cases h
  · cases h
theorem ltD_some {a b : D} {k : Bool} (h : ltD a b = some k) : ∃ p q, toPy a = some p ∧ toPy b = some q ∧ shp p = true ∧ shp q = true ∧ PySem.W.alike p q = true ∧ notNone p = true ∧ PySem.W.dataLt p q = k := by
  unfold ltD at h
  split at h
  · rename_i p q e1 e2
    split at h
    · rename_i hs
      simp only [Bool.and_eq_true] at hs
      exact ⟨p, q, e1, e2, hs.1.1.1, hs.1.1.2, hs.1.2, hs.2, Option.some.inj h⟩
    · cases h
  · cases h
theorem inD_some {a : D} {ds : List D} {k : Bool} (h : inD a ds = some k) : ∃ p qs, toPy a = some p ∧ toPys ds = some qs ∧ shp p = true ∧ shps qs = true ∧ (qs.any fun z => PyData.eqv z p) = k := by
  unfold inD at h
  split at h
  · rename_i p q e1 e2
    split at h
    · rename_i hs
      rw [Bool.and_eq_true] at hs
      exact ⟨p, q, e1, e2, hs.1, hs.2, Option.some.inj h⟩
    · cases h
  · cases h
theorem depth_shp {p : PyData} (h : shp p = true) : p.depth ≤ 60 ∧ p.canLay0 = true := by
  unfold shp at h
  simp only [Bool.and_eq_true, decide_eq_true_eq] at h
  exact ⟨h.2, h.1⟩
theorem depth_shps {p : List PyData} (h : shps p = true) : PyData.depthAll p ≤ 60 ∧ PyData.canLayAll0 p = true := by
  unfold shps at h
  simp only [Bool.and_eq_true, decide_eq_true_eq] at h
  exact ⟨h.2, h.1⟩
theorem cmpV_some {o : CmpOp} {d e r : D} {own : Bool} (h : cmpV o d e = some (own, r)) : ∃ k, cmpD o d e = some k ∧ own = false ∧ r = .bl k := by
  unfold cmpV at h
  obtain ⟨k, e1, e2⟩ := Option.map_eq_some_iff.mp h
  injection e2 with h1 h2
  exact ⟨k, e1, h1.symm, h2.symm⟩
theorem op_lt_data (hu : X.A.units + 64 < cLine) {pins : List (Addr × Obj)} {s : Shared} {σ : L2.St} {H : Hp} {x y : V} {v u : Value} {Q : VK} {p q : PyData} (I : Inv X pins σ H s) (rx : RelV x v) (ry : RelV y u)
    (dx : Dp X.K H x p) (dy : Dp X.K H y q) (sp : shp p = true) (ha : PySem.W.alike p q = true) (hn : notNone p = true) (h : Q (.bl (PySem.W.dataLt p q)) H) :
    wpAny (model X.prog X.w) X.A (compareOp .Lt v u) (EP X pins σ Q) X.xe s := by
  obtain ⟨as, r1⟩ := Dp.reads I p x v dx rx
  obtain ⟨bs, r2⟩ := Dp.reads I q y u dy ry
  have h1 := (depth_shp sp).1
  have h2 : min p.depth q.depth ≤ p.depth := Nat.min_le_left _ _
  exact PySem.W.lt_data r1 r2 ha (fun z => by rw [z] at hn; cases hn) (by omega) ⟨.bl _, H, I, rfl, h⟩
theorem isN_of {K : PySem.W.Frag} {M : Ad} {H : Hp} {x : V} {d : D} {k : Bool} (vx : ValR K M H x d) (h : isD d .non = some k) : decide (x = .non) = k := by
  cases d with
  | non => have ex := vx.non; subst ex; cases h; rfl
  | _ =>
    obtain rfl : false = k := Option.some.inj h
    refine decide_eq_false ?_
    rintro rfl
    rcases vx with vx | ⟨a, e, _⟩
    · cases vx
    · cases e
theorem op_cmp (hu : X.A.units + 65 < cLine) (o : CmpOp) : OpR X (compareOp o) (rOp X.K (cmpV o)) := by
  intro pins s σ H x y v u Q I rx ry h
  obtain ⟨M, d, e, own, r, mt, vx, vy, hf, q⟩ := h (inv_good I)
  obtain ⟨k, hk, rfl, rfl⟩ := cmpV_some hf
  have fin : Q (.bl k) H := q _ M H (.pure mt (.bl _))
  have inU : ∀ {p : PyData} {qs : List PyData}, shps qs = true → X.A.units + 1 + min (PyData.depthAll qs) p.depth < cLine := fun {p qs} hs => by
    have h1 := (depth_shps hs).1
    have h2 : min (PyData.depthAll qs) p.depth ≤ PyData.depthAll qs := Nat.min_le_left _ _
    omega
  cases o with
  | Eq =>
    obtain ⟨p, w, e1, e2, s1, s2, rfl⟩ := eqD_some hk
    exact op_eqD (by omega) pins s σ H x y v u Q I rx ry ⟨p, w, vx.dp e1, vy.dp e2, shaped_of s1, shaped_of s2, fin⟩
  | NotEq =>
    obtain ⟨k', hk', rfl⟩ := Option.map_eq_some_iff.mp hk
    obtain ⟨p, w, e1, e2, s1, s2, rfl⟩ := eqD_some hk'
    exact op_neD (by omega) pins s σ H x y v u Q I rx ry ⟨p, w, vx.dp e1, vy.dp e2, shaped_of s1, shaped_of s2, fin⟩
  | Lt =>
    unfold cmpD at hk
    dsimp only at hk
    split at hk
    · rename_i i j
      have ex := vx.int; subst ex
      have ey := vy.int; subst ey
      obtain rfl := Option.some.inj hk
      exact op_lt pins s σ H _ _ v u Q I rx ry ⟨i, j, rfl, rfl, fin⟩
    · obtain ⟨p, w, e1, e2, s1, s2, a1, n1, rfl⟩ := ltD_some hk
      exact op_lt_data (by omega) I rx ry (vx.dp e1) (vy.dp e2) s1 a1 n1 fin
  | LtE =>
    unfold cmpD at hk
    dsimp only at hk
    split at hk
    · rename_i i j
      have ex := vx.int; subst ex
      have ey := vy.int; subst ey
      obtain rfl := Option.some.inj hk
      exact op_le pins s σ H _ _ v u Q I rx ry ⟨i, j, rfl, rfl, fin⟩
    · cases hk
  | Gt =>
    unfold cmpD at hk
    dsimp only at hk
    split at hk
    · rename_i i j
      have ex := vx.int; subst ex
      have ey := vy.int; subst ey
      obtain rfl := Option.some.inj hk
      exact op_gt pins s σ H _ _ v u Q I rx ry ⟨i, j, rfl, rfl, fin⟩
    · cases hk
  | GtE =>
    unfold cmpD at hk
    dsimp only at hk
    split at hk
    · rename_i i j
      have ex := vx.int; subst ex
      have ey := vy.int; subst ey
      obtain rfl := Option.some.inj hk
      exact op_ge pins s σ H _ _ v u Q I rx ry ⟨i, j, rfl, rfl, fin⟩
    · cases hk
  | In =>
    unfold cmpD at hk
    dsimp only at hk
    split at hk
    · rename_i ds
      obtain ⟨p, qs, e1, e2, s1, s2, rfl⟩ := inD_some hk
      obtain ⟨as, r1⟩ := Dp.reads I p x v (vx.dp e1) rx
      obtain ⟨bs, r2⟩ := Dp.reads I (.tuple qs) y u (vy.dp (by rw [toPy, e2] <;> rfl)) ry
      exact SeqAt.in_tuple_reads r2 r1 (depth_shps s2).2 (depth_shp s1).2 (inU s2) ⟨.bl _, H, I, rfl, fin⟩
    · rename_i ds
      obtain ⟨p, qs, e1, e2, s1, s2, rfl⟩ := inD_some hk
      obtain ⟨as, r1⟩ := Dp.reads I p x v (vx.dp e1) rx
      obtain ⟨bs, r2⟩ := Dp.reads I (.list qs) y u (vy.dp (by rw [toPy, e2] <;> rfl)) ry
      exact SeqAt.in_list_reads r2 r1 (depth_shps s2).2 (depth_shp s1).2 (inU s2) ⟨.bl _, H, I, rfl, fin⟩
    · cases hk
  | NotIn =>
    unfold cmpD at hk
    dsimp only at hk
    split at hk
    · rename_i ds
      obtain ⟨k', hk2, rfl⟩ := Option.map_eq_some_iff.mp hk
      obtain ⟨p, qs, e1, e2, s1, s2, rfl⟩ := inD_some hk2
      obtain ⟨as, r1⟩ := Dp.reads I p x v (vx.dp e1) rx
      obtain ⟨bs, r2⟩ := Dp.reads I (.tuple qs) y u (vy.dp (by rw [toPy, e2] <;> rfl)) ry
      exact SeqAt.notIn_tuple_reads r2 r1 (depth_shps s2).2 (depth_shp s1).2 (inU s2) ⟨.bl _, H, I, rfl, fin⟩
    · rename_i ds
      obtain ⟨k', hk2, rfl⟩ := Option.map_eq_some_iff.mp hk
      obtain ⟨p, qs, e1, e2, s1, s2, rfl⟩ := inD_some hk2
      obtain ⟨as, r1⟩ := Dp.reads I p x v (vx.dp e1) rx
      obtain ⟨bs, r2⟩ := Dp.reads I (.list qs) y u (vy.dp (by rw [toPy, e2] <;> rfl)) ry
      exact SeqAt.notIn_list_reads r2 r1 (depth_shps s2).2 (depth_shp s1).2 (inU s2) ⟨.bl _, H, I, rfl, fin⟩
    · cases hk
  | Is =>
    have hk2 : isD d e = some k := hk
    cases e with
    | non =>
      have ey := vy.non; subst ey
      refine op_isN pins s σ H _ _ v u Q I rx ry ⟨rfl, ?_⟩
      rw [isN_of vx hk2]; exact fin
    | bl b =>
      have ey := vy.bl; subst ey
      cases d with
      | bl a =>
        have ex := vx.bl; subst ex
        refine op_isBl pins s σ H _ _ v u Q I rx ry ⟨a, b, rfl, rfl, ?_⟩
        have hk3 : (a == b) = k := Option.some.inj hk2
        rw [show decide (a = b) = k by rw [← hk3]; cases a <;> cases b <;> rfl]; exact fin
      | _ => cases hk2
    | _ => cases d <;> cases hk2
  | IsNot =>
    obtain ⟨k', hk2, rfl⟩ := Option.map_eq_some_iff.mp (show (isD d e).map (!·) = some k from hk)
    cases e with
    | non =>
      have ey := vy.non; subst ey
      refine op_notN pins s σ H _ _ v u Q I rx ry ⟨rfl, ?_⟩
      rw [isN_of vx hk2]; exact fin
    | bl b =>
      have ey := vy.bl; subst ey
      cases d with
      | bl a =>
        have ex := vx.bl; subst ex
        refine op_notBl pins s σ H _ _ v u Q I rx ry ⟨a, b, rfl, rfl, ?_⟩
        have hk3 : (a == b) = k' := Option.some.inj hk2
        rw [show decide (a = b) = k' by rw [← hk3]; cases a <;> cases b <;> rfl]; exact fin
      | _ => cases hk2
    | _ => cases d <;> cases hk2
end
end Pd
set_option Elab.async false
set_option linter.all false
/-! Ps0: sorted of a list or a tuple of data; tuples among which the empty one stands first. -/
namespace Ps
open PySem PySem.W PySem.Calls PyProof.Rows PySem.SeqAt
section
variable {prog : Program} {w : World} {A : Around} {E : Value → Shared → Prop} {s : Shared}
theorem call_tuple_lt {Q : Value → Shared → Prop} {l b : Addr} {items items2 : Array Value} {e r : Nat → Bool} (hl : s.heap.IsTuple l items) (hb : s.heap.IsTuple b items2)
    (he : ∀ j (h1 : j < items.size) (h2 : j < items2.size), EqAt A.in1 s items[j] items2[j] (e j)) (hr : ∀ j (h1 : j < items.size) (h2 : j < items2.size), e j = false → RcLt A.in1 s items[j] items2[j] (r j))
    (h : Q (.bool (firstLt e r (decide (items.size < items2.size)) (List.range (min items.size items2.size)))) s) : wpAny (model prog w) A (call (.builtin "tuple.__lt__") [.ref l, .ref b]) Q E s := by
  obtain ⟨⟨cls, dd, data, sl⟩, ho, hc, n, hd⟩ := id hl
  obtain ⟨⟨cls2, dd2, data2, sl2⟩, ho2, hc2, n2, hd2⟩ := id hb
  simp only at hc hd hc2 hd2
  subst hc hd hc2 hd2
  exact call_meets F.slot_tuple_lt ⟨_, ho, rfl⟩ F.entry_tuple_lt (F.args_tuple_lt_2 _ _) (tuple_ltAt l b items items2 n n2 dd dd2 sl sl2 e r) ⟨ho, ho2, he, hr, h⟩
theorem oneLt_tup {xs ys : List PyData} {a b : Value} {as bs : List Addr} {Q : Bool → Shared → Prop} (ra : Reads s.heap a (.tuple xs) as) (rb : Reads s.heap b (.tuple ys) bs) (h : alike (.tuple xs) (.tuple ys) = true)
    (hu : A.units + min (PyData.tuple xs).depth (PyData.tuple ys).depth < cLine) (hq : Q (dataLt (.tuple xs) (.tuple ys)) s) : wpAny (model prog w) A (oneLt' true a b) Q E s := by
  have hal : alikeAll xs ys = true := by simpa [alike] using h
  cases ra with
  | @tuple l o vs n _ as₁ h1 h2 h3 h4 =>
    cases rb with
    | @tuple l' o' vs' n' _ bs₁ k1 k2 k3 k4 =>
      have n1 : vs.size = xs.length := by simpa using ReadsAll.length _ _ _ h4
      have n2 : vs'.size = ys.length := by simpa using ReadsAll.length _ _ _ k4
      rw [dataLt_tuple, ← firstLt_toks xs ys hal, ← n1, ← n2] at hq
      rw [oneLt'_eq]
      simp only [if_true]
      refine wpAny_bind (wpAny_cRoomFor (room_here hu) ?_)
      refine wpAny_bind (wpAny_callSpecialIfBound?_slot (T := "tuple") ⟨_, h1, h2⟩ F.slot_tuple_lt (call_tuple_lt (e := pairEq xs ys) (r := fun j => dataLt (xs.getD j .none) (ys.getD j .none)) ⟨_, h1, h2, _, h3⟩ ⟨_, k1, k2, _, k3⟩ (fun j j1 j2 => ?_) (fun j j1 j2 hj => ?_) ?_))
      · have := eqAt_alikeAll xs ys A.in1 s vs.toList vs'.toList _ _ h4 k4 hal (room_in hu) j (by simpa using j1) (by simpa using j2)
        simpa using this
      · have := rcLt_alikeAll xs ys A.in1 s vs.toList vs'.toList _ _ h4 k4 hal (room_in hu) j (by simpa using j1) (by simpa using j2) hj
        simpa using this
      · exact wpAny_truthy_bool hq
theorem mapM_any {α β : Type} {f : α → Sem β} {P : α → β → Prop} : ∀ (l : List α) {Q : List β → Shared → Prop}, (∀ v ∈ l, ∀ (Q' : β → Shared → Prop), (∀ r, P v r → Q' r s) → wpAny (model prog w) A (f v) Q' E s) → (∀ rs, EachIs P l rs → Q rs s) → wpAny (model prog w) A (l.mapM f) Q E s
  | [], _, _, h => by rw [List.mapM_nil]; exact wpAny_pure (h [] .nil)
  | x :: l, Q, hf, h => by
    rw [List.mapM_cons]
    refine wpAny_bind (hf x (.head _) _ fun r hr => ?_)
    refine wpAny_bind (mapM_any l (fun v hv => hf v (.tail _ hv)) fun rs hrs => wpAny_pure (h _ (.cons hr hrs)))
/-- the sort's look at tuples, the empty one first -/
theorem kind_mix {v : Value} {vs : List Value} {xss : List (List PyData)} {as0 : List Addr} {Q : SortKind → Shared → Prop} (r0 : Reads s.heap v (.tuple []) as0) (rs : ∀ u ∈ vs, ∃ xs as, Reads s.heap u (.tuple xs) as) (h : Q oneType' s) :
    wpAny (model prog w) A (keyKind' (v :: vs).toArray) Q E s := by
  have look : ∀ u ∈ v :: vs, Looks (model prog w) s.heap (typeOf u) (.type "tuple") := fun u hu => by
    rcases List.mem_cons.mp hu with rfl | hu
    · exact looks_reads r0
    · obtain ⟨xs, as, r⟩ := rs u hu
      exact looks_reads r
  rw [keyKind'_eq, List.mapM_toArray, map_eq_pure_bind]
  refine wpAny_bind (wpAny_bind (mapM_any (P := fun u r => u = v → r = none) _ (fun u hu Q' hq => ?_) fun fs hfs => wpAny_pure ?_))
  · rw [kas_first_eq]
    refine wpAny_bind ((look u hu).here ?_)
    rw [if_neg (by decide)]
    have hr : ∃ (a : Addr) (o : Obj) (its : Array Value) (n : Nat), u = .ref a ∧ s.heap.get? a = some o ∧ o.data = .seq its n ∧ (u = v → its[0]? = none) := by
      rcases List.mem_cons.mp hu with rfl | hu
      · cases r0 with
        | @tuple l o vs n _ as₁ h1 h2 h3 h4 =>
          refine ⟨_, _, _, _, rfl, h1, h3, fun _ => ?_⟩
          have : vs.toList = [] := by cases h4' : vs.toList with
            | nil => rfl
            | cons _ _ => rw [h4'] at h4; cases h4
          rw [← Array.getElem?_toList, this]; rfl
      · by_cases hv : u = v
        · subst hv
          cases r0 with
          | @tuple l o vs n _ as₁ h1 h2 h3 h4 =>
            refine ⟨_, _, _, _, rfl, h1, h3, fun _ => ?_⟩
            have : vs.toList = [] := by cases h4' : vs.toList with
              | nil => rfl
              | cons _ _ => rw [h4'] at h4; cases h4
            rw [← Array.getElem?_toList, this]; rfl
        · obtain ⟨xs, as, r⟩ := rs u hu
          cases r with
          | @tuple l o vs n _ as₁ h1 h2 h3 h4 => exact ⟨_, _, _, _, rfl, h1, h3, fun z => absurd z hv⟩
    obtain ⟨a, o, its, n, rfl, h1, h2, h3⟩ := hr
    exact wpAny_bind (listItems_at h1 h2 (wpAny_pure (hq _ h3)))
  · cases hfs with
    | cons q0 qs =>
      rename_i f0 fs
      have := q0 rfl
      subst this
      rw [if_neg (by simp), if_neg (by simp)]
      rw [oneTypeOnly'_eq, List.mapM_toArray, map_eq_pure_bind]
      refine wpAny_bind (wpAny_bind (wpAny_bind (kas_mapM (r := Value.type "tuple") _ (fun u hu Q' hq => (look u hu).here hq) (wpAny_pure ?_))))
      have hall : ((List.map (fun _ => Value.type "tuple") (v :: vs)).toArray.all fun x => x == Value.type "tuple") = true := by
        simp only [List.all_toArray, List.all_map, List.all_eq_true]
        intro _ _
        show (Value.type "tuple" == Value.type "tuple") = true
        decide
      have h0 : (List.map (fun _ => Value.type "tuple") (v :: vs)).toArray[0]? = some (Value.type "tuple") := by simp
      rw [h0]
      simp only [hall, if_true]
      exact wpAny_pure (wpAny_pure h)
/-- alike data that may be sorted: as before, or tuples with the empty one first -/
def Sortable2 (ds : List PyData) : Prop := PySem.W.Sortable ds ∨ ((∃ r, ds = .tuple [] :: r) ∧ ∀ d ∈ ds, ∃ xs, d = .tuple xs)
theorem sortsAt {vs : List Value} {ds : List PyData} (e : EachIs (fun v d => ∃ as, Reads s.heap v d as) vs ds) (hal : AllAlike ds) (hk : Sortable2 ds) (hu : ∀ d, d ∈ ds → A.units + d.depth < cLine) : SortsAt prog w A s (dataKind s.heap ds) vs := by
  rcases hk with hk | ⟨⟨r, rfl⟩, ht⟩
  · exact SortsAt.data e hal hk hu
  have room : ∀ {d d' : PyData}, d ∈ .tuple [] :: r → A.units + min d.depth d'.depth < cLine := fun {d d'} hd => Nat.lt_of_le_of_lt (Nat.add_le_add_left (Nat.min_le_left _ _) _) (hu d hd)
  refine ⟨fun v hv => ?_, oneType', ?_, fun h2 E Q hq => ?_⟩
  · obtain ⟨d, hd, as, r⟩ := e.left v hv
    exact ⟨_, dataKind_some hal hd r⟩
  · intro E x y a b Q ha hb hq
    obtain ⟨d, as, hd, ra, rfl⟩ := dataKind_inv ha
    obtain ⟨d', as', hd', rb, rfl⟩ := dataKind_inv hb
    rw [keyLt'_oneType]
    obtain ⟨xs, rfl⟩ := ht d hd
    obtain ⟨ys, rfl⟩ := ht d' hd'
    exact oneLt_tup ra rb (hal _ hd _ hd') (room hd) hq
  · cases e with
    | cons h0 t =>
      obtain ⟨as, r0⟩ := h0
      refine kind_mix (xss := []) r0 (fun u hu => ?_) hq
      obtain ⟨d, hd, as', r'⟩ := t.left u hu
      obtain ⟨xs, rfl⟩ := ht d (List.mem_cons_of_mem _ hd)
      exact ⟨xs, as', r'⟩
/-- what is collected of a list or a tuple -/
theorem collect_seq {l : Addr} {o : Obj} {T : String} {vs : List Value} {n : Nat} {Q : List Value → Shared → Prop} (ho : s.heap.get? l = some o) (hc : o.cls = .type T) (hT : T = "list" ∨ T = "tuple") (hd : o.data = .seq vs.toArray n) (hsz : vs.length ≤ sizeLine)
    (h : Q vs { s with heap := (s.heap.push (seqObj "list" #[] 0)).update s.heap.objs.size (Obj.mapSeq (· ++ vs.toArray)) }) :
    wpAny (model prog w) A (collect (.ref l)) Q E s := by
  unfold collect
  refine wpAny_bind (wpAny_runValue (codeAny_builtin entry_proto_collect' ?_))
  show wpAny _ _ (do again (.builtin "list.__iadd__" ⟨[← newList [], .ref l], []⟩)) _ _ s
  refine wpAny_bind (wpAny_newList (wpAny_pure ⟨Code.quiet_builtin _ (by decide +kernel), codeAny_builtin entry_list_iadd' ?_⟩))
  show wpAny _ _ (Builtin.List.listExtendWith (.ref s.heap.objs.size) (.ref l) (.ref s.heap.objs.size)) _ _ { s with heap := s.heap.push (seqObj "list" #[] 0) }
  unfold Builtin.List.listExtendWith
  have ho' : (s.heap.push (seqObj "list" #[] 0)).get? l = some o := Heap.get?_push_of_some _ ho
  refine wpAny_bind (wpAny_typeOf (T := T) ⟨o, ho', hc⟩ ?_)
  rw [if_pos (by
    have e1 : (Value.type "list" == Value.type "list") = true := by decide
    have e2 : (Value.type "tuple" == Value.type "tuple") = true := by decide
    rcases hT with rfl | rfl
    · rw [e1]; simp
    · rw [e2]; simp)]
  refine wpAny_bind (listItems_at ho' hd ?_)
  refine wpAny_bind (listItems_at (xs := #[]) (n := 0) (Heap.get?_push_size _ rfl) rfl ?_)
  rw [if_neg (by simp)]
  refine wpAny_bind (listUpdate_at (xs := #[]) (n := 0) (Heap.get?_push_size _ rfl) rfl ?_ (Nat.zero_le _) (by show (#[] ++ vs.toArray).size ≤ sizeLine + 1; simp only [Array.size_append, List.size_toArray, List.length_nil]; omega))
  refine wpAny_pure ?_
  show wpAny (model prog w) A (do
      let o ← load s.heap.objs.size
      match o.data with
      | .seq xs _ => pure xs.toList
      | _ => unsupported "internal:collect") Q E { s with heap := (s.heap.push (seqObj "list" #[] 0)).update s.heap.objs.size (Obj.mapSeq (· ++ vs.toArray)) }
  refine wpAny_bind (wpAny_load (get?_update_seq (Heap.get?_push_size _ rfl) _) ?_)
  show wpAny _ _ (pure ((#[] : Array Value) ++ vs.toArray).toList) Q E _
  rw [show ((#[] : Array Value) ++ vs.toArray).toList = vs by simp]
  exact wpAny_pure h
theorem sorted_of_sort {l : Addr} {o : Obj} {T : String} {vs : List Value} {n : Nat} {kw : List (Str × Value)} {Q : Value → Shared → Prop} (ho : s.heap.get? l = some o) (hc : o.cls = .type T) (hT : T = "list" ∨ T = "tuple") (hd : o.data = .seq vs.toArray n) (hL : vs.length ≤ sizeLine) (ha1 : argsOk "sorted" ⟨[.ref l], kw⟩) (ha2 : ∀ x, argsOk "list.sort" ⟨[.ref x], kw⟩)
    (body : ∀ E' : Value → Shared → Prop, wpAny (model prog w) A.in1.in1 (Builtin.«list.sort» ⟨[.ref (s.heap.objs.size + 1)], kw⟩) (fun f s' => f = .done (.ret .none) ∧ Q (.ref (s.heap.objs.size + 1)) s') E' { s with heap := copyHeap s.heap vs }) :
    wpAny (model prog w) A (call (.builtin "sorted") [.ref l] kw) Q E s := by
  refine call_function_entry_kw kind_sorted plain_sorted entry_sorted ha1 ?_
  unfold Builtin.«sorted»
  refine wpAny_bind (m := checkCount "sorted" 1 1 _) (wpAny_pure ?_)
  refine wpAny_bind (collect_seq ho hc hT hd hL ?_)
  refine wpAny_bind (wpAny_newList ?_ hL)
  have hsz : ((s.heap.push (seqObj "list" #[] 0)).update s.heap.objs.size (Obj.mapSeq (· ++ vs.toArray))).objs.size = s.heap.objs.size + 1 := by
    rw [Heap.size_update, size_push']
  show wpAny _ _ _ _ _ { s with heap := copyHeap s.heap vs }
  rw [hsz]
  refine wpAny_bind (wpAny_holding (wpAny_call_entry_kw slot_list_sort ⟨_, copyHeap_at s.heap vs, rfl⟩ entry_list_sort ?body (ha2 _)))
  case body =>
    show wpAny (model prog w) A.in1.in1 (Builtin.«list.sort» ⟨[.ref (s.heap.objs.size + 1)], kw⟩) _ _ _
    refine wpAny_mono (body _) (fun f s' hf => ?_) fun _ _ e => e
    obtain ⟨rfl, hq⟩ := hf
    exact ⟨_, rfl, wpAny_pure ⟨_, rfl, hq⟩⟩
/-- sorted(xs), sorted(xs, reverse=b) -/
theorem sorted_vals {l : Addr} {o : Obj} {T : String} {vs : List Value} {n : Nat} {κ : PyProof.Rows.KeyKind} {Q : Value → Shared → Prop} (ho : s.heap.get? l = some o) (hc : o.cls = .type T) (hT : T = "list" ∨ T = "tuple") (hd : o.data = .seq vs.toArray n)
    (S : SortsAt prog w A.in1.in1 { s with heap := sortingHeap (copyHeap s.heap vs) (s.heap.objs.size + 1) vs } κ vs) (hL : vs.length ≤ sizeLine)
    (h : Q (.ref (s.heap.objs.size + 1)) { s with heap := sortedAll s.heap vs (sortVals κ false vs vs).toArray }) : wpAny (model prog w) A (call (.builtin "sorted") [.ref l]) Q E s :=
  sorted_of_sort ho hc hT hd hL (args_sorted1 _) (fun _ => args_list_sort _) fun _ => list_sort_vals (s := { s with heap := copyHeap s.heap vs }) (copyHeap_at s.heap vs) S hL ⟨rfl, h⟩
theorem sorted_rev_vals {l : Addr} {o : Obj} {T : String} {vs : List Value} {n : Nat} {b : Bool} {κ : PyProof.Rows.KeyKind} {Q : Value → Shared → Prop} (ho : s.heap.get? l = some o) (hc : o.cls = .type T) (hT : T = "list" ∨ T = "tuple") (hd : o.data = .seq vs.toArray n)
    (S : SortsAt prog w A.in1.in1 { s with heap := sortingHeap (copyHeap s.heap vs) (s.heap.objs.size + 1) vs } κ vs) (hL : vs.length ≤ sizeLine)
    (h : Q (.ref (s.heap.objs.size + 1)) { s with heap := sortedAll s.heap vs (sortVals κ b vs vs).toArray }) : wpAny (model prog w) A (call (.builtin "sorted") [.ref l] [(Str.ofString "reverse", .bool b)]) Q E s :=
  sorted_of_sort ho hc hT hd hL (args_sorted_rev _ _) (fun _ => args_list_sort_rev _ _) fun _ => list_sort_rev_vals (s := { s with heap := copyHeap s.heap vs }) (copyHeap_at s.heap vs) S hL ⟨rfl, h⟩
/-- .. of data -/
theorem sorted_data {β : Type} {R : Value → β → Prop} {enc : β → PyData} {bs : List β} {l : Addr} {o : Obj} {T : String} {vs : List Value} {n : Nat} {Q : Value → Shared → Prop} (ho : s.heap.get? l = some o) (hc : o.cls = .type T) (hT : T = "list" ∨ T = "tuple") (hd : o.data = .seq vs.toArray n)
    (e : EachIs R vs bs) (er : EachIs (fun v b => ∃ as, Reads s.heap v (enc b) as) vs bs) (hal : AllAlike (bs.map enc)) (hk : Sortable2 (bs.map enc)) (hL : bs.length ≤ sizeLine)
    (hu : ∀ b, b ∈ bs → A.units + 2 + (enc b).depth < cLine) (h : ∀ out, out.length = bs.length → EachIs R out (bs.mergeSort (dataLe false enc)) → Q (.ref (s.heap.objs.size + 1)) { s with heap := sortedAll s.heap vs (List.toArray out) }) :
    wpAny (model prog w) A (call (.builtin "sorted") [.ref l]) Q E s := by
  have er' : EachIs (fun v b => ∃ as, Reads (sortingHeap (copyHeap s.heap vs) (s.heap.objs.size + 1) vs) v (enc b) as) vs bs := er.mono fun _ _ ⟨as, r⟩ => ⟨as, PyProof.Rows.Reads.keeps (fun _ _ => sorting_copy_old) r⟩
  exact sorted_vals ho hc hT hd (sortsAt (s := { s with heap := sortingHeap (copyHeap s.heap vs) (s.heap.objs.size + 1) vs }) (each_map (R := fun v d => ∃ as, Reads (sortingHeap (copyHeap s.heap vs) (s.heap.objs.size + 1) vs) v d as) enc er') hal hk (bound_map hu)) (by rw [e.length]; exact hL)
    (h _ (by rw [sortVals_length false rfl]; exact e.length) (sortVals_data false e er' hal))
theorem sorted_rev_data {β : Type} {R : Value → β → Prop} {enc : β → PyData} {bs : List β} {l : Addr} {o : Obj} {T : String} {vs : List Value} {n : Nat} {b : Bool} {Q : Value → Shared → Prop} (ho : s.heap.get? l = some o) (hc : o.cls = .type T) (hT : T = "list" ∨ T = "tuple") (hd : o.data = .seq vs.toArray n)
    (e : EachIs R vs bs) (er : EachIs (fun v b => ∃ as, Reads s.heap v (enc b) as) vs bs) (hal : AllAlike (bs.map enc)) (hk : Sortable2 (bs.map enc)) (hL : bs.length ≤ sizeLine)
    (hu : ∀ b, b ∈ bs → A.units + 2 + (enc b).depth < cLine) (h : ∀ out, out.length = bs.length → EachIs R out (bs.mergeSort (dataLe b enc)) → Q (.ref (s.heap.objs.size + 1)) { s with heap := sortedAll s.heap vs (List.toArray out) }) :
    wpAny (model prog w) A (call (.builtin "sorted") [.ref l] [(Str.ofString "reverse", .bool b)]) Q E s := by
  have er' : EachIs (fun v b => ∃ as, Reads (sortingHeap (copyHeap s.heap vs) (s.heap.objs.size + 1) vs) v (enc b) as) vs bs := er.mono fun _ _ ⟨as, r⟩ => ⟨as, PyProof.Rows.Reads.keeps (fun _ _ => sorting_copy_old) r⟩
  exact sorted_rev_vals ho hc hT hd (sortsAt (s := { s with heap := sortingHeap (copyHeap s.heap vs) (s.heap.objs.size + 1) vs }) (each_map (R := fun v d => ∃ as, Reads (sortingHeap (copyHeap s.heap vs) (s.heap.objs.size + 1) vs) v d as) enc er') hal hk (bound_map hu)) (by rw [e.length]; exact hL)
    (h _ (by rw [sortVals_length b rfl]; exact e.length) (sortVals_data b e er' hal))
end
end Ps
set_option Elab.async false
set_option linter.all false
/-! Ps1: what two sets of ints have in common. -/
namespace Ps
open PySem PySem.W PySem.Calls PyProof.Rows L2
section
variable {P : Program} {w : World} {A : Around} {E : Value → Shared → Prop} {s : Shared}
/-- all of a set, in some order -/
theorem set_walk {a : Addr} {S : Int → Bool} {n : Nat} {Q : Array (Int × Value) → Shared → Prop} (R : SetR w s.heap a S n)
    (h : ∀ (ls : List (Int × Value)) d, (∀ e ∈ ls, GoodE e) → (ls.map keyOf).Nodup → (∀ k, S k = true ↔ k ∈ ls.map keyOf) → ls.length = n → Q ls.toArray { s with drawn := d }) : wpAny (model P w) A (setWalk a) Q E s := by
  obtain ⟨o, es, ep, t, ho, hex, hd, g, nd, hm, hb, hf, hn, hr, hl⟩ := R
  have fin : ∀ (ls : List (Int × Value)) d, ls.Perm es.toList → Q ls.toArray { s with drawn := d } := fun ls d p =>
    h ls d (fun e he => g e (p.mem_iff.mp he)) ((p.map keyOf).nodup_iff.mpr nd) (fun k => (hm k).trans (p.map keyOf).mem_iff.symm) (by rw [p.length_eq, Array.length_toList, hn])
  unfold setWalk
  refine wpAny_bind (wpAny_setState_of ho hd hf ?_)
  dsimp only
  refine wpAny_bind (wpAny_byText ?_)
  by_cases hbt : w.params.followText "set-order" = true
  · refine wp_if_pos hbt ?_
    refine wpAny_bind (wpAny_askSetting (wpAny_pure ?_))
    have := fin _ s.drawn (pick_perm (w.params.setOrder a ep) es)
    rw [Array.toArray_toList] at this
    exact this
  refine wp_if_neg hbt ?_
  try refine wpAny_bind (wpAny_pure ?_)
  by_cases hdr : (!t.plain && decide (es.size > 1)) = true
  · refine wp_if_pos (c := (!t.plain && decide (es.size > 1)) = true) hdr ?_
    exact wpAny_bind (drawOrder_at es.size es.toList s _ (by rw [Array.length_toList]; exact Nat.le_refl _) fun ys d p => wpAny_pure (fin ys d p))
  refine wp_if_neg (c := (!t.plain && decide (es.size > 1)) = true) hdr ?_
  try refine wpAny_bind (wpAny_pure ?_)
  have hled : t.led = true := hl.resolve_left hbt
  refine wpAny_bind (wpAny_of_eq (a := ()) ?_ ?_)
  · show (if (!t.led && decide (es.size > 1)) = true then unsupported "set:maker-not-led" else pure ()) = pure ()
    rw [hled] <;> rfl
  · have := fin es.toList s.drawn (List.Perm.refl _)
    rw [Array.toArray_toList] at this
    exact wpAny_pure this
theorem quiet_sets {sets : List Addr} {Q : Bool → Shared → Prop} (h0 : ∀ a ∈ sets, ∃ S n, SetR w s.heap a S n) (h : Q true s) : wpAny (model P w) A (setsQuiet sets) Q E s := by
  unfold setsQuiet
  refine wpAny_bind (wpAny_forIn_list _ (fun rest b s' => b.1 = none ∧ s' = s ∧ ∀ a ∈ rest, ∃ S n, SetR w s.heap a S n) _ ?_ ?_ sets _ ⟨rfl, rfl, h0⟩)
  · rintro a rest b s' ⟨hb, rfl, hr⟩
    obtain ⟨S, n, o, es, ep, t, ho, hex, hd, g, nd, hm, hbd, hf, hn, hr', hl⟩ := hr a List.mem_cons_self
    refine wpAny_bind (m := setEntries a) ?_
    unfold setEntries
    refine wpAny_bind (wpAny_setState_of ho hd hf (wpAny_pure ?_))
    refine wpAny_bind (MeetsSeq2.wpAny_forIn_array _ (fun rest2 b2 s2 => b2.1 = none ∧ s2 = s' ∧ ∀ e ∈ rest2, GoodE e) _ ?_ ?_ es _ ⟨rfl, rfl, g⟩)
    · rintro ⟨hh, x⟩ rest2 b2 s2 ⟨hb2, rfl, hg⟩
      obtain ⟨k, tk, hk, _⟩ := hg _ List.mem_cons_self
      dsimp only at hk
      subst hk
      exact wpAny_pure ⟨rfl, rfl, fun e he => hg e (List.mem_cons_of_mem _ he)⟩
    · rintro ⟨b2, u⟩ s2 ⟨hb2, rfl, _⟩
      dsimp only at hb2
      subst hb2
      exact wpAny_pure ⟨rfl, rfl, fun c hc => hr c (List.mem_cons_of_mem _ hc)⟩
  · rintro ⟨b, u⟩ s' ⟨hb, rfl, _⟩
    dsimp only at hb
    subst hb
    exact wpAny_pure h
theorem walk_unseen {a asked r : Addr} {S Sa Sr : Int → Bool} {n na nr : Nat} {Q : Array (Int × Value) → Shared → Prop} (R : SetR w s.heap a S n) (Ra : SetR w s.heap asked Sa na) (Rr : SetR w s.heap r Sr nr)
    (h : ∀ (ls : List (Int × Value)) (h' : Heap) d, (∀ e ∈ ls, GoodE e) → (ls.map keyOf).Nodup → (∀ k, S k = true ↔ k ∈ ls.map keyOf) → ls.length = n → Heap.SameBut r s.heap h' → SetR w h' r Sr nr → Q ls.toArray { s with heap := h', drawn := d }) :
    wpAny (model P w) A (setWalkUnseen a [asked, r] (some r)) Q E s := by
  have R0 := R
  obtain ⟨o, es, ep, t, ho, hex, hd, g, nd, hm, hb, hf, hn, hr, hl⟩ := R
  unfold setWalkUnseen
  refine wpAny_bind (wpAny_setState_of ho hd hf ?_)
  dsimp only
  refine wpAny_bind (wpAny_byText ?_)
  by_cases hc : (w.params.followText "set-order" || (t.led && t.plain) || decide (es.size ≤ 1)) = true
  · refine wp_if_pos hc ?_
    exact set_walk R0 fun ls d a1 a2 a3 a4 => h ls s.heap d a1 a2 a3 a4 (Heap.SameBut.refl _ _) Rr
  refine wp_if_neg hc ?_
  try refine wpAny_bind (wpAny_pure ?_)
  refine wpAny_bind (quiet_sets (fun c hc => ?_) ?_)
  · rcases List.mem_cons.mp hc with rfl | hc
    · exact ⟨_, _, R0⟩
    · rcases List.mem_cons.mp hc with rfl | hc
      · exact ⟨_, _, Ra⟩
      · rcases List.mem_cons.mp hc with rfl | hc
        · exact ⟨_, _, Rr⟩
        · cases hc
  refine wp_if_neg (by simp) ?_
  try refine wpAny_bind (wpAny_pure ?_)
  refine wpAny_bind (wpAny_rule ?_)
  obtain ⟨o2, es2, ep2, t2, ho2, hex2, hd2, g2, nd2, hm2, hb2, hf2, hn2, hr2, hl2⟩ := Rr
  refine wpAny_bind (wpAny_setState_of ho2 hd2 hf2 ?_)
  dsimp only
  have fin : ∀ h' : Heap, Heap.SameBut r s.heap h' → SetR w h' r Sr nr → Q es { s with heap := h' } := fun h' sb rr => by
    have := h es.toList h' s.drawn g nd hm (by rw [Array.length_toList, hn]) sb rr
    rw [Array.toArray_toList] at this
    exact this
  have hbt : ¬ w.params.followText "set-order" = true := fun z => hc (by rw [z]; rfl)
  split
  · refine wpAny_bind (wpAny_storeSet_of ho2 hd2 ?_ (by have : scanBound ≤ sizeLine := by decide
                                                        omega))
    refine wpAny_pure (fin _ (Heap.SameBut.update _ r _) ⟨_, es2, ep2 + 1, _, store_at ho2 hd2, hex2, rfl, g2, nd2, hm2, hb2, hf2, hn2, hr2, .inr ?_⟩)
    show (t2.led && t.led) = true
    rw [hl2.resolve_left hbt, hl.resolve_left hbt]
    rfl
  · exact wpAny_pure (fin s.heap (Heap.SameBut.refl _ _) ⟨o2, es2, ep2, t2, ho2, hex2, hd2, g2, nd2, hm2, hb2, hf2, hn2, hr2, hl2⟩)
theorem SetR.typeIs {a : Addr} {S : Int → Bool} {n : Nat} (R : SetR w s.heap a S n) : s.TypeIs (.ref a) "set" := by
  obtain ⟨o, es, ep, t, ho, hex, _⟩ := R
  exact ⟨o, ho, hex.1⟩
theorem any_set {a : Addr} {S : Int → Bool} {n : Nat} {Q : Bool → Shared → Prop} (R : SetR w s.heap a S n) (h : Q true s) : wpAny (model P w) A (Builtin.Frozenset.isAnySet (.ref a)) Q E s := by
  unfold Builtin.Frozenset.isAnySet isInstance
  refine wpAny_bind ?_
  refine wpAny_bind (wpAny_typeOf (SetR.typeIs R) (wpAny_of_eq sub_set_self ?_))
  exact wpAny_pure h
theorem base_of {a : Addr} {S : Int → Bool} {n : Nat} {Q : Value → Shared → Prop} (R : SetR w s.heap a S n) (h : Q (.type "set") s) : wpAny (model P w) A (Builtin.Frozenset.baseOf a) Q E s := by
  unfold Builtin.Frozenset.baseOf isInstance
  refine wpAny_bind ?_
  refine wpAny_bind (wpAny_typeOf (SetR.typeIs R) (wpAny_of_eq sub_set_self ?_))
  exact wpAny_pure h
theorem size_of {a : Addr} {S : Int → Bool} {n : Nat} {Q : Nat → Shared → Prop} (R : SetR w s.heap a S n) (h : Q n s) : wpAny (model P w) A (Builtin.Frozenset.sizeOf a) Q E s := by
  obtain ⟨o, es, ep, t, ho, hex, hd, g, nd, hm, hb, hf, hn, hr, hl⟩ := R
  unfold Builtin.Frozenset.sizeOf setEntries
  refine wpAny_bind (wpAny_bind (wpAny_setState_of ho hd hf (wpAny_pure ?_)))
  rw [← hn] at h
  exact wpAny_pure h
theorem new_set {Q : Value → Shared → Prop} (h : Q (.ref s.heap.objs.size) { s with heap := s.heap.push { cls := .type "set", dict := none, data := .set #[] 0 (.fresh 0 0 (!w.params.followText "set-order")) } }) : wpAny (model P w) A (newSet (.type "set")) Q E s := by
  unfold newSet
  refine wpAny_bind (wpAny_byText ?_)
  dsimp only
  unfold newObj
  exact wpAny_bind (wpAny_alloc (wpAny_pure h))
theorem find_in {a : Addr} {S : Int → Bool} {n : Nat} {e : Int × Value} {Q : Option Nat → Shared → Prop} (R : SetR w s.heap a S n) (g : GoodE e) (h : ∀ r : Option Nat, r.isSome = S (keyOf e) → Q r s) : wpAny (model P w) A (setFind a e.2 e.1) Q E s := by
  obtain ⟨hh, x⟩ := e
  obtain ⟨k, tk, h1, h2⟩ := g
  dsimp only at h1 h2
  subst h1 h2
  exact wpAny_setFind_of (knd := PySem.intKind P w) (k := k) (intKind_is P w k tk) rfl R.setOf h
/-- a & b -/
theorem inter {id : String} {a b : Addr} {S S' : Int → Bool} {n n' : Nat} {Q : Value → Shared → Prop} (hne : a ≠ b) (R : SetR w s.heap a S n) (R' : SetR w s.heap b S' n')
    (h : ∀ (h' : Heap) d c, (∀ x o, s.heap.get? x = some o → h'.get? x = some o) → SetR w h' s.heap.objs.size (fun k => S k && S' k) c → Q (.ref s.heap.objs.size) { s with heap := h', drawn := d }) :
    wpAny (model P w) A (Builtin.Frozenset.intersection id a (.ref b)) Q E s := by
  unfold Builtin.Frozenset.intersection
  have hab : (Value.ref b == Value.ref a) = false := by
    have : ¬ (Value.ref b = Value.ref a) := fun z => hne (by injection z with z; exact z.symm)
    simpa using this
  refine wp_if_neg (by rw [hab]; exact Bool.false_ne_true) ?_
  try refine wpAny_bind (wpAny_pure ?_)
  refine wpAny_bind (base_of R ?_)
  refine wpAny_bind (new_set ?_)
  refine wpAny_bind (wpAny_pure ?_)
  refine wpAny_bind (wpAny_holding ?_)
  have hlt : ∀ {x : Addr} {o : Obj}, s.heap.get? x = some o → (s.heap.push { cls := .type "set", dict := none, data := .set #[] 0 (.fresh 0 0 (!w.params.followText "set-order")) }).get? x = some o := fun e => Heap.get?_push_of_some _ e
  have R1 : SetR w (s.heap.push { cls := .type "set", dict := none, data := .set #[] 0 (.fresh 0 0 (!w.params.followText "set-order")) }) a S n := R.at fun o e => hlt e
  have R1' : SetR w (s.heap.push { cls := .type "set", dict := none, data := .set #[] 0 (.fresh 0 0 (!w.params.followText "set-order")) }) b S' n' := R'.at fun o e => hlt e
  have Rr := setR_fresh (h := s.heap) w
  have har : a ≠ s.heap.objs.size := Nat.ne_of_lt R.lt
  have hbr : b ≠ s.heap.objs.size := Nat.ne_of_lt R'.lt
  refine wpAny_bind (any_set (s := { s with heap := s.heap.push { cls := .type "set", dict := none, data := .set #[] 0 (.fresh 0 0 (!w.params.followText "set-order")) } }) R1' ?_)
  refine wp_if_pos rfl ?_
  refine wpAny_bind (wpAny_pure ?_)
  refine wpAny_bind (size_of (s := { s with heap := s.heap.push { cls := .type "set", dict := none, data := .set #[] 0 (.fresh 0 0 (!w.params.followText "set-order")) } }) R1' ?_)
  refine wpAny_bind (size_of (s := { s with heap := s.heap.push { cls := .type "set", dict := none, data := .set #[] 0 (.fresh 0 0 (!w.params.followText "set-order")) } }) R1 ?_)
  have old : ∀ {h' : Heap}, Heap.SameBut s.heap.objs.size (s.heap.push { cls := .type "set", dict := none, data := .set #[] 0 (.fresh 0 0 (!w.params.followText "set-order")) }) h' → ∀ x o, s.heap.get? x = some o → h'.get? x = some o := fun sb x o e => (sb.2 x (Nat.ne_of_lt (Heap.lt_size e))).trans (hlt e)
  generalize hs1 : s.heap.push { cls := .type "set", dict := none, data := .set #[] 0 (.fresh 0 0 (!w.params.followText "set-order")) } = h1 at R1 R1' Rr old ⊢
  generalize s.heap.objs.size = r at h Rr har hbr old ⊢
  obtain ⟨asked, walked, Sa, Sw, na, nw, he, Ra, Rw, hS, nar, nwr⟩ : ∃ asked walked Sa Sw na nw, (if n' > n then (b, a) else (a, b)) = (asked, walked) ∧ SetR w h1 asked Sa na ∧ SetR w h1 walked Sw nw ∧ (∀ k, (Sw k && Sa k) = (S k && S' k)) ∧ asked ≠ r ∧ walked ≠ r := by
    by_cases hc : n' > n
    · exact ⟨b, a, S', S, n', n, if_pos hc, R1', R1, fun k => rfl, hbr, har⟩
    · exact ⟨a, b, S, S', n, n', if_neg hc, R1, R1', fun k => Bool.and_comm _ _, har, hbr⟩
  rw [he]
  dsimp only
  have Rw0 := Rw
  obtain ⟨ow, esw, epw, tw, how, hexw, hdw, gw, ndw, hmw, hbw, hfw, hnw, hrw, hlw⟩ := Rw
  refine wpAny_bind (m := setEpoch walked) ?_
  unfold setEpoch
  refine wpAny_bind (wpAny_setState_of how hdw hfw (wpAny_pure ?_))
  refine wpAny_bind (walk_unseen (s := { s with heap := h1 }) Rw0 Ra Rr fun ls h2 d2 q1 q2 q3 q4 sb2 Rr2 => ?_)
  refine wpAny_bind (MeetsSeq2.wpAny_forIn_array _ (fun rest u s' => ∃ h' d c done, s' = { s with heap := h', drawn := d } ∧ Heap.SameBut r h1 h' ∧ SetR w h' r (fun k => decide (k ∈ done.map keyOf) && Sa k) c ∧ c ≤ done.length ∧ ls = done ++ rest) _ ?_ ?_ ls.toArray _ ⟨h2, d2, 0, [], rfl, sb2, Rr2.congr (fun k => by simp), Nat.le_refl _, rfl⟩)
  · rintro ⟨hh, x⟩ rest u s' ⟨h', d, c, done, rfl, sb, Rc, hc, hls⟩
    dsimp only
    refine wpAny_bind (wpAny_holding ?_)
    have ge : GoodE (hh, x) := q1 _ (by rw [hls]; exact List.mem_append_right _ List.mem_cons_self)
    have Ra' : SetR w h' asked Sa na := Ra.at fun o e => (sb.2 asked nar).trans e
    refine wpAny_bind (find_in (s := { s with heap := h', drawn := d }) Ra' ge fun res hres => ?_)
    have how' : h'.get? walked = some ow := (sb.2 walked nwr).trans how
    have same : ∀ {h'' : Heap} {Q' : Unit → Shared → Prop} {d'' : Drawn}, Heap.SameBut r h1 h'' → Q' () { s with heap := h'', drawn := d'' } → wpAny (model P w) A (Builtin.Frozenset.unchanged id walked epw) Q' E { s with heap := h'', drawn := d'' } := by
      intro h'' Q' d'' sb'' q
      unfold Builtin.Frozenset.unchanged setEpoch
      refine wpAny_bind (wpAny_bind (wpAny_setState_of (s := { s with heap := h'', drawn := d'' }) ((sb''.2 walked nwr).trans how) hdw hfw (wpAny_pure ?_)))
      refine wp_if_neg (by simp) ?_
      exact wpAny_pure q
    obtain ⟨k, tk, hk, hhk⟩ := ge
    dsimp only at hk hhk
    subst hk hhk
    have hlen : done.length + (rest.length + 1) = nw := by rw [← q4, hls, List.length_append, List.length_cons]
    by_cases hSa : Sa k = true
    · refine wp_if_pos (by rw [hres]; exact hSa) ?_
      refine wpAny_bind (setR_add_hashed (s := { s with heap := h', drawn := d }) Rc (by omega) fun h3 sb3 R3 => wpAny_pure ?_)
      refine wpAny_bind (same (sb.trans sb3) (wpAny_pure ?_))
      refine ⟨h3, d, _, done ++ [(PySem.hashInt k, Value.int k tk)], rfl, sb.trans sb3, R3.congr (fun j => ?_), ?_, by rw [hls]; simp⟩
      · simp only [List.map_append, List.map_cons, List.map_nil, List.mem_append, List.mem_singleton]
        show (decide (j ∈ done.map keyOf ∨ j = k) && Sa j) = (decide (j ∈ done.map keyOf) && Sa j || decide (j = k))
        by_cases hj : j = k
        · subst hj; simp [hSa]
        · simp [hj]
      · rw [List.length_append, List.length_singleton]
        split <;> omega
    · refine wp_if_neg (by rw [hres]; exact hSa) ?_
      refine wpAny_pure ?_
      refine wpAny_bind (same sb (wpAny_pure ?_))
      refine ⟨h', d, c, done ++ [(PySem.hashInt k, Value.int k tk)], rfl, sb, Rc.congr (fun j => ?_), ?_, by rw [hls]; simp⟩
      · simp only [List.map_append, List.map_cons, List.map_nil, List.mem_append, List.mem_singleton]
        show (decide (j ∈ done.map keyOf ∨ j = k) && Sa j) = (decide (j ∈ done.map keyOf) && Sa j)
        by_cases hj : j = k
        · subst hj
          have : Sa j = false := by simpa using hSa
          simp [this]
        · simp [hj]
      · rw [List.length_append, List.length_singleton]; omega
  · rintro u s' ⟨h', d, c, done, rfl, sb, Rc, hc, hls⟩
    refine wpAny_pure (wpAny_pure (h h' d c (old sb) (Rc.congr fun k => ?_)))
    rw [List.append_nil] at hls
    subst hls
    rw [← hS k]
    congr 1
    exact Bool.eq_iff_iff.mpr (by rw [q3 k]; simp)
theorem entry_set_and : entryFor table "set.__and__" = some Builtin.«frozenset.__and__» := entryFor_alias (id' := "frozenset.__and__") (by kernel_rfl) rfl (by decide +kernel) (by kernel_rfl)
theorem entry_set_ne : entryFor table "set.__ne__" = some Builtin.«frozenset.__ne__» := entryFor_alias (id' := "frozenset.__ne__") (by kernel_rfl) rfl (by decide +kernel) (by kernel_rfl)
/-- a & b -/
theorem set_and {a b : Addr} {S S' : Int → Bool} {n n' : Nat} {Q : Value → Shared → Prop} (hne : a ≠ b) (R : SetR w s.heap a S n) (R' : SetR w s.heap b S' n')
    (h : ∀ (h' : Heap) d c, (∀ x o, s.heap.get? x = some o → h'.get? x = some o) → SetR w h' s.heap.objs.size (fun k => S k && S' k) c → Q (.ref s.heap.objs.size) { s with heap := h', drawn := d }) :
    wpAny (model P w) A (binaryOp .BitAnd (.ref a) (.ref b)) Q E s := by
  refine wpAny_binaryOp_same (SetR.typeIs R) (SetR.typeIs R') PySem.F.fills_set_and PySem.F.slot_set_and ?_
  refine wpAny_call_entry PySem.F.slot_set_and (SetR.typeIs R) entry_set_and ?_ (PySem.F.args_set_and_2 _ _)
  unfold Builtin.«frozenset.__and__»
  refine wpAny_bind (m := Builtin.Frozenset.slot1 "__and__" ⟨[.ref a, .ref b], []⟩) (wpAny_pure ?_)
  dsimp only
  refine wpAny_bind (m := Builtin.Frozenset.isAnySet (.ref a) <&&> Builtin.Frozenset.isAnySet (.ref b)) ?_
  refine wpAny_bind (m := Builtin.Frozenset.isAnySet (.ref a)) (any_set R ?_)
  refine any_set R' ?_
  refine wp_if_neg (by simp) ?_
  try refine wpAny_bind (wpAny_pure ?_)
  show wpAny _ _ (Builtin.Frozenset.intersection (toString "frozenset." ++ toString "__and__") a (.ref b) >>= fun v => ret v) _ _ _
  refine wpAny_bind (inter hne R R' fun h' d c k r => ?_)
  exact wpAny_pure ⟨_, rfl, (fun z => nomatch z), h h' d c k r⟩
theorem sub_set_frozen : isSubtype (.type "set") (.type "frozenset") = pure false := by rw [isSubtype_type]; kernel_rfl
/-- a != set() -/
theorem set_ne {a b : Addr} {S : Int → Bool} {n : Nat} {Q : Value → Shared → Prop} (hu : A.units < cLine) (R : SetR w s.heap a S n) (R' : SetR w s.heap b (fun _ => false) 0) (h : Q (.bool (!decide (n = 0))) s) : wpAny (model P w) A (richCompare .NotEq (.ref a) (.ref b)) Q E s := by
  refine wpAny_richCompare_same_room (SetR.typeIs R) (SetR.typeIs R') PySem.F.slot_set_ne ?_ hu
  refine wpAny_call_entry PySem.F.slot_set_ne (SetR.typeIs R) entry_set_ne ?_ (PySem.F.args_set_ne_2 _ _)
  unfold Builtin.«frozenset.__ne__»
  refine wpAny_bind (m := Builtin.Frozenset.slot1 "__ne__" ⟨[.ref a, .ref b], []⟩) (wpAny_pure ?_)
  dsimp only
  refine wpAny_bind (any_set R' ?_)
  refine wp_if_neg (by simp) ?_
  try refine wpAny_bind (wpAny_pure ?_)
  refine wpAny_bind (m := Builtin.Frozenset.addrOf (.ref b)) (wpAny_pure ?_)
  refine wpAny_bind (size_of R ?_)
  refine wpAny_bind (size_of R' ?_)
  by_cases hn : n = 0
  case neg =>
    refine wpAny_bind ?_
    refine wp_if_pos (by simpa using hn) ?_
    refine wpAny_pure (wpAny_pure ⟨_, rfl, (fun z => nomatch z), ?_⟩)
    rw [decide_eq_false hn] at h
    exact h
  subst hn
  refine wpAny_bind ?_
  refine wp_if_neg (by simp) ?_
  try refine wpAny_bind (wpAny_pure ?_)
  refine wpAny_bind (m := isInstance (.ref a) (.type "frozenset") <&&> isInstance (.ref b) (.type "frozenset")) ?_
  refine wpAny_bind (m := isInstance (.ref a) (.type "frozenset")) ?_
  unfold isInstance
  refine wpAny_bind (wpAny_typeOf (SetR.typeIs R) (wpAny_of_eq sub_set_frozen ?_))
  refine wpAny_pure ?_
  refine wp_if_neg (by simp) ?_
  have R0 := R
  obtain ⟨o, es, ep, t, ho, hex, hd, g, nd, hm, hb, hf, hn, hr, hl⟩ := R
  obtain ⟨o2, es2, ep2, t2, ho2, hex2, hd2, g2, nd2, hm2, hb2, hf2, hn2, hr2, hl2⟩ := id R'
  have e1 : es = #[] := Array.eq_empty_of_size_eq_zero hn
  have e2 : es2 = #[] := Array.eq_empty_of_size_eq_zero hn2
  subst e1 e2
  unfold Builtin.Frozenset.subsetOf
  refine wpAny_bind (size_of R0 ?_)
  refine wpAny_bind (size_of R' ?_)
  refine wp_if_neg (by simp) ?_
  try refine wpAny_bind (wpAny_pure ?_)
  refine wpAny_bind (m := setEpoch a) ?_
  unfold setEpoch
  refine wpAny_bind (wpAny_setState_of ho hd hf (wpAny_pure ?_))
  refine wpAny_bind (m := Builtin.Frozenset.walkUnseen a b) ?_
  unfold Builtin.Frozenset.walkUnseen setEntries
  refine wpAny_bind (wpAny_bind (wpAny_setState_of ho hd hf (wpAny_pure ?_)))
  refine wpAny_bind (wpAny_bind (wpAny_setState_of ho2 hd2 hf2 (wpAny_pure ?_)))
  refine wpAny_bind (m := forIn ([] : List (Int × Value)) ((none, ()) : Option (List (Int × Value)) × Unit) _) ?_
  rw [List.forIn_nil]
  refine wpAny_pure (wpAny_pure ?_)
  refine wpAny_bind (m := forIn ([] : List (Int × Value)) ((none, ()) : Option Bool × Unit) _) ?_
  rw [List.forIn_nil]
  exact wpAny_pure (wpAny_pure (wpAny_pure ⟨_, rfl, (fun z => nomatch z), h⟩))
end
end Ps
set_option Elab.async false
set_option linter.all false
/-! Ps2: t[::-1], l.count(x) over data. -/
namespace Ps
open PySem PySem.Spec PySem.W PySem.Calls PyProof.Rows L2
section
variable {prog : Program} {w : World} {A : Around} {E : Value → Shared → Prop} {s : Shared}
theorem adjust_rev (n : Nat) : Builtin.Slice.sliceAdjust none none (-1) (n : Int) = ((n : Int) - 1, -1) := by
  unfold Builtin.Slice.sliceAdjust
  have h1 : ((-1 : Int) < 0) := by omega
  simp only [h1, if_true]
theorem places_rev (n : Nat) : Builtin.Slice.slicePlaces ((n : Int) - 1) (-1) (-1) = n := by
  unfold Builtin.Slice.slicePlaces
  have h1 : ¬ ((-1 : Int) > 0) := by omega
  simp only [h1, if_false, Int.neg_neg, Int.ediv_one]
  split <;> omega
theorem pick_rev (xs : Array Value) : ((List.range xs.size).filterMap fun (m : Nat) => xs[(((xs.size : Int) - 1) + (m : Int) * (-1)).toNat]?).toArray = xs.toList.reverse.toArray := by
  congr 1
  apply List.ext_getElem?
  intro i
  have key : (List.range xs.size).filterMap (fun (m : Nat) => xs[(((xs.size : Int) - 1) + (m : Int) * (-1)).toNat]?) = (List.range xs.size).map (fun m => (xs[xs.size - 1 - m]?).getD .none) := by
    have gen : ∀ l : List Nat, (∀ m ∈ l, m < xs.size) → l.filterMap (fun (m : Nat) => xs[(((xs.size : Int) - 1) + (m : Int) * (-1)).toNat]?) = l.map (fun m => (xs[xs.size - 1 - m]?).getD .none) := by
      intro l
      induction l with
      | nil => intro _; rfl
      | cons m l ih =>
        intro h
        have hm := h m List.mem_cons_self
        have e : (((xs.size : Int) - 1) + (m : Int) * (-1)).toNat = xs.size - 1 - m := by omega
        have hlt : xs.size - 1 - m < xs.size := by omega
        rw [List.filterMap_cons, e, Array.getElem?_eq_getElem hlt, List.map_cons, Array.getElem?_eq_getElem hlt, ih fun k hk => h k (List.mem_cons_of_mem _ hk)]
        rfl
    exact gen _ fun m hm => List.mem_range.mp hm
  rw [key, List.getElem?_map]
  by_cases hi : i < xs.size
  · have hlt : xs.size - 1 - i < xs.size := by omega
    rw [List.getElem?_range hi, List.getElem?_reverse (by simpa using hi), Option.map_some, Array.getElem?_eq_getElem hlt, Array.length_toList, Array.getElem?_toList, Array.getElem?_eq_getElem hlt]
    rfl
  · rw [List.getElem?_eq_none (by simpa using hi), List.getElem?_eq_none (by simpa using hi)]
    rfl
theorem applied_rev {sl : Addr} {vs : Value} {n : Nat} {Q : Int × Int × Nat → Shared → Prop} (hs : s.heap.IsSliceOf sl .none .none vs) (ps : IsPart vs (some (-1)))
    (h : Q ((n : Int) - 1, -1, n) s) : wpAny (model prog w) A (Builtin.Slice.sliceApplied (.ref sl) (pure (n : Int))) Q E s := by
  obtain ⟨os, hos, hcs, hds⟩ := id hs
  unfold Builtin.Slice.sliceApplied Builtin.Slice.sliceFields
  refine wpAny_bind (wpAny_bind (wpAny_field hos hds (x := .none) rfl (wpAny_bind (wpAny_field hos hds (x := .none) rfl (wpAny_bind (wpAny_field hos hds (x := vs) rfl (wpAny_pure ?_)))))))
  refine wpAny_bind (HT.slicePart_ ps ?_)
  show wpAny _ _ (if ((-1 : Int) == 0) = true then _ else _) _ _ s
  rw [if_neg (by decide)]
  refine wpAny_bind (HT.slicePart_ .none (wpAny_bind (HT.slicePart_ .none (wpAny_bind (wpAny_pure ?_)))))
  show wpAny _ _ (match Builtin.Slice.sliceAdjust none none (-1) (n : Int) with | (lo, hi) => pure (lo, (-1 : Int), Builtin.Slice.slicePlaces lo hi (-1))) _ _ s
  rw [adjust_rev n]
  show wpAny _ _ (pure ((n : Int) - 1, (-1 : Int), Builtin.Slice.slicePlaces ((n : Int) - 1) (-1) (-1))) _ _ s
  rw [places_rev]
  exact wpAny_pure h
theorem getItem_tuple_rev {t sl : Addr} {items : Array Value} {vs : Value} {Q : Value → Shared → Prop} (ht : IsTup s.heap t items) (hs : s.heap.IsSliceOf sl .none .none vs) (ps : IsPart vs (some (-1)))
    (h : Q (.ref s.heap.objs.size) { s with heap := s.heap.push { cls := .type "tuple", data := .seq items.toList.reverse.toArray } })
    (hsz : items.size ≤ sizeLine) : wpAny (model prog w) A (getItem (.ref t) (.ref sl)) Q E s := by
  have htake : sizeOk (.seq items.toList.reverse.toArray) := by
    show items.toList.reverse.toArray.size ≤ sizeLine
    rw [List.size_toArray, List.length_reverse, Array.length_toList]
    exact hsz
  obtain ⟨os, hos, hcs, hds⟩ := id hs
  have hTs : s.TypeIs (.ref sl) "slice" := ⟨os, hos, hcs⟩
  unfold getItem
  try with_reducible refine wpAny_holding ?_
  first | refine wpAny_bind (wpAny_pure ?_) | skip
  refine wpAny_bind (wpAny_sequenceKey ht.typeIs (by decide) ?_)
  refine wpAny_bind (wpAny_callSpecial?_slot (name := Str.ofString "__getitem__") ht.typeIs PyProof.Rows.slot_tuple_getitem
    (wpAny_call_entry PyProof.Rows.slot_tuple_getitem ht.typeIs entry_tuple_getitem ?_ (args_tuple_getitem _ _)))
  show wpAny _ _ (Builtin.Tuple.tupleItemsOf (.ref t) >>= _) _ _ s
  refine wpAny_bind (tupleItemsOf_ ht ?_)
  refine wpAny_bind (wpAny_typeOf hTs ?_)
  rw [if_pos (by decide)]
  refine wpAny_bind (applied_rev hs ps ?_)
  have hno : ¬ ((((items.size : Int) - 1) == 0 && (-1 : Int) == 1 && items.size == items.size) = true) := by
    intro q
    rw [Bool.and_eq_true, Bool.and_eq_true] at q
    have q1 : (-1 : Int) = 1 := eq_of_beq q.1.2
    omega
  show wpAny _ _ (if ((((items.size : Int) - 1) == 0 && (-1 : Int) == 1 && items.size == items.size) = true) then _ else _) _ _ s
  rw [if_neg hno, pick_rev]
  first
    | exact wpAny_bind (m := Builtin.Tuple.tupleExact _) (wpAny_newObj_type (wpAny_pure ⟨_, rfl, wpAny_pure h⟩) htake)
    | exact wpAny_bind (m := Builtin.Tuple.tupleExact _) (wpAny_newObj_type (wpAny_bind (wpAny_pure (wpAny_pure ⟨_, rfl, wpAny_pure h⟩))) htake)
    | exact wpAny_bind (wpAny_bind (m := Builtin.Tuple.tupleExact _) (wpAny_newObj_type (wpAny_pure (wpAny_pure ⟨_, rfl, wpAny_pure h⟩)) htake))
    | exact wpAny_bind (wpAny_bind (m := Builtin.Tuple.tupleExact _) (wpAny_newObj_type (wpAny_pure ⟨_, rfl, wpAny_pure h⟩) htake))
end
section
variable {X : Cx}
/-- xs[::-1], t[::-1] -/
def tRevX (K : PySem.W.Frag) (te : TE) : TE := fun σ H Q => te σ H fun x H1 => ∃ a xs, x = .ref a ∧ ((SqL K H1 a xs ∧ ∀ p, H1 p = none → Q (.ref p) (upd H1 p (.lst xs.reverse))) ∨ (SqT K H1 a xs ∧ ∀ p, H1 p = none → Q (.ref p) (upd H1 p (.tup xs.reverse))))
theorem pe_revX {e : Expr} {te : TE} {k : Nat} {p1 p2 p3 pos : Pos} (he : PE X e te) : PE X (.Subscript e (.Slice none none (some (.UnaryOp .USub (.Constant (.int 1) k p1) p2)) p3) pos) (tRevX X.K te) := by
  refine ⟨fun pins s σ H Q I h => ?_⟩
  refine Subscript_ (thn (he.run pins s σ H _ I h) fun v s1 ⟨x, H1, I1, r1, q1⟩ => ?_)
  obtain ⟨a, xs, ex, q⟩ := q1
  subst ex
  cases r1
  have hst : PO X (some (.UnaryOp .USub (.Constant (.int 1) k p1) p2)) (tPart (tUn (rU fun i => .int (-i)) (tC (.int 1)))) := po_some (pe_un un_neg pe_int)
  refine wpAny_Slice (thn (po_none.run pins s1 σ H1 (fun o H2 => o = none ∧ H2 = H1) I1 ⟨rfl, rfl⟩) fun vl s2 ⟨l, H2, I2, pl, el, e2⟩ => ?_)
  subst el e2
  refine thn (po_none.run pins s2 σ H2 (fun o H3 => o = none ∧ H3 = H2) I2 ⟨rfl, rfl⟩) fun vu s3 ⟨u, H3, I3, pu, eu, e3⟩ => ?_
  subst eu e3
  refine thn (hst.run pins s3 σ H3 (fun o H4 => o = some (-1) ∧ H4 = H3) I3 ⟨1, rfl, -1, rfl, rfl, rfl⟩) fun vs s4 ⟨o, H4, I4, ps, eo, e4⟩ => ?_
  subst eo e4
  have I5 : Inv X pins σ H4 { s4 with heap := s4.heap.push { cls := .type "slice", data := .fields #[vl, vu, vs] } } := I4.kept (t' := s4.toks) fun b ob q => Heap.get?_push_of_some _ q
  show wpAny (model X.prog X.w) X.A (subscriptTail e (.Slice none none (some (.UnaryOp .USub (.Constant (.int 1) k p1) p2)) p3) (.ref a) (.ref s4.heap.objs.size)) (EP X pins σ Q) X.xe { s4 with heap := s4.heap.push { cls := .type "slice", data := .fields #[vl, vu, vs] } }
  rcases q with ⟨hx, q⟩ | ⟨hx, q⟩
  · obtain ⟨its, r, ht, hz⟩ := I5.list hx
    have hlen := r.length
    refine tail_any (ops := [.ref a, .ref s4.heap.objs.size]) ht.isList.typeIs (PySem.slot_list_getitem.lookup) ?_ (by with_unfolding_all rfl)
    refine wpAny_getItem_list_slice ht.isList (Heap.IsSliceOf.new _ vl vu vs) pl pu ps (by decide) ?_ (by rw [List.size_toArray]; omega)
    rw [PySem.W.krv_pick]
    refine ⟨.ref _, _, I5.laid (t' := s4.toks) (o := .lst xs.reverse) (fun b ob q => Heap.get?_push_of_some _ q) (Nat.le_refl _) ?_, rfl, q _ (I5.hok.fresh (Nat.le_refl _))⟩
    exact ⟨by rw [List.length_reverse]; exact hz, _, 0, r.reverse, Heap.get?_push_size _ rfl⟩
  · obtain ⟨its, r, ht, hz⟩ := I5.tuple hx
    have hlen := r.length
    have el : vl = .none := by cases pl; rfl
    have eu : vu = .none := by cases pu; rfl
    subst el eu
    refine tail_any (ops := [.ref a, .ref s4.heap.objs.size]) ht.typeIs (PyProof.Rows.slot_tuple_getitem.lookup) ?_ (by with_unfolding_all rfl)
    refine getItem_tuple_rev ht (Heap.IsSliceOf.new _ .none .none vs) ps ?_ (by rw [List.size_toArray]; omega)
    refine ⟨.ref _, _, I5.laid (t' := s4.toks) (o := .tup xs.reverse) (fun b ob q => Heap.get?_push_of_some _ q) (Nat.le_refl _) ?_, rfl, q _ (I5.hok.fresh (Nat.le_refl _))⟩
    exact ⟨by rw [List.length_reverse]; exact hz, _, r.reverse, IsTup.new _ _⟩
/-- l.count(x) -/
def rCountD (K : PySem.W.Frag) : V → List V → Hp → VK → Prop := fun x xs H Q => ∃ (a : Addr) (y : V) (d : PyData) (ds : List PyData), x = V.ref a ∧ xs = [y] ∧ Dp K H (V.ref a) (.list ds) ∧ Dp K H y d ∧
  SeqAt.shaped (.list ds) = true ∧ SeqAt.shaped d = true ∧ Q (.int (ds.countP fun z => PyData.eqv z d : Nat)) H
theorem mt_countD (hu : X.A.units + 65 < cLine) : MtR X "list.count" (rCountD X.K) := by
  intro pins s σ H x xs v us Q I rx rxs h
  obtain ⟨a, y, d, ds, rfl, rfl, hl, hy, sl, sd, q⟩ := h
  cases rx
  cases rxs with
  | cons ry rt =>
    rename_i uy ut
    cases rt
    obtain ⟨bs, r1⟩ := Dp.reads I d y uy hy ry
    have hxs : PyData.canLayAll0 ds = true := SeqAt.canLay_of_shaped sl
    have hroom : X.A.units + 1 + min (PyData.depthAll ds) d.depth < cLine := room_in_shaped sd hu
    cases hl with
    | lst hs ha =>
      obtain ⟨its, rv, ⟨⟨cls, dd, data, sls⟩, n, ho, hc, hdn, hdt⟩, hlen⟩ := I.list hs
      simp only at hc hdt
      subst hc hdt
      obtain ⟨as, h4⟩ := Dp.readsAll I ds _ its ha rv
      have hmap : its.map (SeqAt.readOf s.heap) = ds := SeqAt.readsAll_map ds its as hxs h4
      refine call_meets PySem.F.slot_list_count ⟨_, ho, rfl⟩ PySem.F.entry_list_count (PySem.F.args_list_count_2 _ _)
        (SeqAt.list_countAt a its.toArray n dd sls uy (fun u => PyData.eqv (SeqAt.readOf s.heap u) d)) ⟨ho, SeqAt.items_eqAt (vs := its.toArray) (show ReadsAll s.heap its.toArray.toList ds as from h4) r1 hxs (SeqAt.canLay_of_shaped sd) hroom, ?_⟩
      refine ⟨.int (ds.countP fun z => PyData.eqv z d : Nat), H, I.tok _, ⟨s.toks, ?_⟩, q⟩
      show Value.int ((its.toArray.toList.countP (fun u => PyData.eqv (SeqAt.readOf s.heap u) d) : Nat) : Int) s.toks = Value.int ((ds.countP (fun z => PyData.eqv z d) : Nat) : Int) s.toks
      rw [← hmap, List.countP_map]
      rfl
end
section
variable {X : Cx}
/-- sum(t) of a tuple of ints -/
def rSumT (K : PySem.W.Frag) : List V → Hp → VK → Prop := fun vs H Q => ∃ (a : Addr) (ns : List Int), vs = [V.ref a] ∧ SqT K H a (ns.map V.int) ∧ Q (.int ns.sum) H
theorem cr_sumT (hc : X.calm = true) : CallR X (.builtin "sum") (rSumT X.K) := by
  intro pins s σ H vs us Q I r h
  obtain ⟨a, ns, rfl, hs, q⟩ := h
  obtain ⟨its, rv, hl, _⟩ := I.tuple hs
  rw [Vals.ref1 r]
  have hi := rv.ints
  obtain ⟨xs, e⟩ := hi.allInts.items
  have hn : numsOf (intItems xs).toList = ns := by rw [← e]; exact hi.numsOf
  rw [nums_intItems] at hn
  have hl2 : s.heap.IsTuple a its.toArray := hl
  rw [e] at hl2
  refine ktm_sumG (I.ok.hd hc) hl2 fun h' tk t' hk => ?_
  rw [preSum_eq, List.take_of_length_le (by simp), hn]
  exact ⟨.int _, H, I.kept hk, ⟨_, rfl⟩, q⟩
end
end Ps
set_option Elab.async false
set_option linter.all false
set_option maxRecDepth 100000
/-! Ps3: enumerate of a tuple. -/
namespace Ps
open PySem PySem.Spec PySem.W PySem.Calls PyProof.Rows L2
open AutoSeq1 (wpAny_loadPart')
set_option maxHeartbeats 1000000 in
theorem meets_enumerate_newT (l : Addr) (items : Array Value) (n : Nat) (dct : Option Addr) (sl : Array (Option Value)) :
    Meets (Builtin.«enumerate.__new__» ⟨[.type "enumerate", .ref l], []⟩) (fun _ R s => s.heap.get? l = some { cls := .type "tuple", dict := dct, data := .seq items n, slots := sl } ∧
      R (.ok (.ret (.ref (s.heap.push { cls := .type "tuple_iterator", data := .fields #[.ref l, .int 0 0] }).objs.size)))
        { s with heap := (s.heap.push { cls := .type "tuple_iterator", data := .fields #[.ref l, .int 0 0] }).push { cls := .type "enumerate", data := .fields #[.none, .bool false, .ref s.heap.objs.size, rawInt 0, .none, .none] } }) :=
  .of_wp fun prog w A R s h => by
    obtain ⟨hp, g, d, tk, os⟩ := s; obtain ⟨hl, h⟩ := h
    have hsub := sub_enumerate
    have hL : Heap.IsTuple (Shared.heap ⟨hp, g, d, tk, os⟩) l items := ⟨_, hl, rfl, n, rfl⟩
    wp_walk using wpAny_loadPart' hl
    refine wpAny_stack_any fun st => wpAny_pure ?_
    split
    · rename_i c _ _ _ _ _
      cases (c == Value.type "enumerate")
      · wp_walk using wpAny_loadPart' hl, wpAny_pyIter_tuple hL
        exact ⟨_, rfl, h⟩
      · wp_walk using wpAny_loadPart' hl, wpAny_pyIter_tuple hL
        exact ⟨_, rfl, h⟩
    · wp_walk using wpAny_loadPart' hl, wpAny_pyIter_tuple hL
      exact ⟨_, rfl, h⟩
section
variable {prog : Program} {w : World} {A : Around} {E : Value → Shared → Prop} {s : Shared}
theorem call_enumerate_tuple {l : Addr} {items : Array Value} {Q : Value → Shared → Prop} (hL : s.heap.IsTuple l items)
    (h : ∀ h', IsEnum h' (s.heap.objs.size + 1) s.heap.objs.size 0 .none → h'.IsTupleIter s.heap.objs.size l 0 → h'.objs.size = s.heap.objs.size + 2 →
      (∀ b o, s.heap.get? b = some o → h'.get? b = some o) → Q (.ref (s.heap.objs.size + 1)) { s with heap := h' }) :
    wpAny (model prog w) A (call (.type "enumerate") [.ref l]) Q E s := by
  obtain ⟨⟨c, dct, dt, sl⟩, hl, hc, n, hd⟩ := hL
  replace hc : c = .type "tuple" := hc
  replace hd : dt = .seq items n := hd
  subst hc hd
  refine callType_new F.called_enumerate (by decide) (F.typeCall_enumerate_1 _) (F.newCall_enumerate_1 _) (fun obj => F.args_object_init_2 obj _) F.entry_enumerate_new
    (meets_enumerate_newT l items n dct sl) ⟨hl, ?_⟩
  have hz : (s.heap.push { cls := .type "tuple_iterator", data := .fields #[.ref l, .int 0 0] }).objs.size = s.heap.objs.size + 1 := Heap.size_push ..
  show _ ∧ _
  rw [hz]
  have he : IsEnum ((s.heap.push { cls := .type "tuple_iterator", data := .fields #[.ref l, .int 0 0] }).push
      { cls := .type "enumerate", data := .fields #[.none, .bool false, .ref s.heap.objs.size, rawInt 0, .none, .none] }) (s.heap.objs.size + 1) s.heap.objs.size 0 .none := by
    have := Heap.get?_push_size (s.heap.push { cls := .type "tuple_iterator", data := .fields #[.ref l, .int 0 0] })
      (o := { cls := .type "enumerate", data := .fields #[.none, .bool false, .ref s.heap.objs.size, rawInt 0, .none, .none] }) rfl
    rw [hz] at this; exact this
  refine ⟨⟨_, he, rfl⟩, h _ he ⟨_, Heap.get?_push_of_some _ (Heap.get?_push_size _ rfl), rfl, rfl⟩ (by rw [Heap.size_push, hz]) fun b o x => Heap.get?_push_of_some _ (Heap.get?_push_of_some _ x)⟩
theorem enumT_next_item {e it l : Addr} {i : Nat} {items : Array Value} {x old : Value} {Q : Value → Shared → Prop}
    (he : IsEnum s.heap e it i old) (hit : s.heap.IsTupleIter it l i) (hl : s.heap.IsTuple l items) (hx : items[i]? = some x) (hne : e ≠ it)
    (hQ : ∀ h', IsEnumOut h' e it ((i : Int) + 1) x s.heap.objs.size → h'.IsTupleIter it l (i + 1) →
      h'.get? s.heap.objs.size = some { cls := .type "tuple", data := .seq #[.int i s.toks, x] } → h'.objs.size = s.heap.objs.size + 1 →
      (∀ b o, b ≠ e → b ≠ it → s.heap.get? b = some o → h'.get? b = some o) → Q (.ref s.heap.objs.size) { s with heap := h', toks := s.toks + 1 }) :
    wpAny (model prog w) A (Builtin.«enumerate.__next__» ⟨[.ref e], []⟩) (fun fin s' => ∃ v, fin = .done (.ret v) ∧ Q v s') E s := by
  obtain ⟨hp, g, d, tk, os⟩ := s
  show wpAny _ _ (field (.ref e) 2 >>= _) _ _ _
  refine wpAny_bind (wpAny_field he rfl (x := .ref it) rfl ?_)
  refine wpAny_bind (RZ.nextOf_tuple_item hit hl hx fun h₁ hit₁ hs₁ => ?_)
  replace hs₁ : Heap.SameBut it hp h₁ := hs₁
  have he₁ : IsEnum h₁ e it i old := (hs₁.2 e hne).trans he
  show wpAny _ _ (field (.ref e) 3 >>= _) _ _ ⟨h₁, g, d, tk, os⟩
  refine wpAny_bind (wpAny_field he₁ rfl (x := rawInt i) rfl ?_)
  show wpAny _ _ (field (.ref e) 4 >>= _) _ _ ⟨h₁, g, d, tk, os⟩
  refine wpAny_bind (wpAny_field he₁ rfl (x := .none) rfl ?_)
  show wpAny _ _ (mkInt i >>= _) _ _ ⟨h₁, g, d, tk, os⟩
  refine wpAny_bind (wpAny_mkInt ?_)
  show wpAny _ _ (setField (.ref e) 3 (rawInt ((i : Int) + 1)) >>= _) _ _ ⟨h₁, g, d, tk + 1, os⟩
  refine wpAny_bind (wpAny_setField_rec he₁ (by simp) fun h₂ he₂ hs₂ => ?_)
  replace hs₂ : Heap.SameBut e h₁ h₂ := hs₂
  replace he₂ : IsEnum h₂ e it ((i : Int) + 1) old := he₂
  show wpAny _ _ (setField (.ref e) 4 .none >>= _) _ _ ⟨h₂, g, d, tk + 1, os⟩
  refine wpAny_bind (wpAny_setField_rec he₂ (by simp) fun h₃ he₃ hs₃ => ?_)
  replace hs₃ : Heap.SameBut e h₂ h₃ := hs₃
  replace he₃ : IsEnum h₃ e it ((i : Int) + 1) old := he₃
  show wpAny _ _ (newTuple [.int i tk, x] >>= _) _ _ ⟨h₃, g, d, tk + 1, os⟩
  refine wpAny_bind (wpAny_newTuple ?_)
  have he₄ : IsEnum (h₃.push { cls := .type "tuple", data := .seq #[.int i tk, x] }) e it ((i : Int) + 1) old := Heap.get?_push_of_some _ he₃
  generalize hh₄ : h₃.push { cls := .type "tuple", data := .seq #[.int i tk, x] } = h₄ at he₄
  have hsz : h₃.objs.size = hp.objs.size := by rw [hs₃.1, hs₂.1, hs₁.1]
  have hel : e < hp.objs.size := Heap.lt_size he
  have ht₄ : h₄.get? hp.objs.size = some { cls := .type "tuple", data := .seq #[.int i tk, x] } := by rw [← hh₄, ← hsz]; exact Heap.get?_push_size _ rfl
  have hz₄ : h₄.objs.size = hp.objs.size + 1 := by rw [← hh₄, Heap.size_push, hsz]
  have hk₄ : ∀ b o, b ≠ e → b ≠ it → hp.get? b = some o → h₄.get? b = some o := fun b o hbe hbi hb => by
    rw [← hh₄]; exact Heap.get?_push_of_some _ (hs₃.extBut b o hbe (hs₂.extBut b o hbe (hs₁.extBut b o hbi hb)))
  have hit₄ : h₄.IsTupleIter it l (i + 1) := by
    rw [← hh₄]; obtain ⟨o, ho, r⟩ := (hit₁.extBut hs₂.extBut (Ne.symm hne)).extBut hs₃.extBut (Ne.symm hne); exact ⟨o, Heap.get?_push_of_some _ ho, r⟩
  show wpAny _ _ (Builtin.SmallTypes.ownedTupleIsFree (.ref e) >>= _) _ _ ⟨h₄, g, d, tk + 1, os⟩
  rw [hsz]
  clear hh₄ he₃ hs₃ he₂ hs₂ he₁ hs₁ hit₁ hsz h₃ h₂ h₁
  refine wpAny_bind ?_
  · unfold Builtin.SmallTypes.ownedTupleIsFree
    refine wpAny_bind (wpAny_field he₄ rfl (x := .none) rfl (wpAny_pure ?_))
    simp only [if_true]
    refine wpAny_bind (wpAny_rule ?_)
    refine wpAny_bind (wpAny_field he₄ rfl (x := old) rfl ?_)
    refine wpAny_bind (wpAny_setField_rec he₄ (by simp) fun h₅ he₅ hs₅ => ?_)
    replace hs₅ : Heap.SameBut e h₄ h₅ := hs₅
    replace he₅ : IsEnum h₅ e it ((i : Int) + 1) x := he₅
    show wpAny _ _ (Builtin.SmallTypes.ownedTupleHandOut (.ref e) (.ref hp.objs.size) >>= _) _ _ ⟨h₅, g, d, tk + 1, os⟩
    refine wpAny_bind ?_
    · unfold Builtin.SmallTypes.ownedTupleHandOut
      refine wpAny_bind (wpAny_setField_rec he₅ (by simp) fun h₆ he₆ hs₆ => ?_)
      replace hs₆ : Heap.SameBut e h₅ h₆ := hs₆
      replace he₆ : IsEnumOut h₆ e it ((i : Int) + 1) x hp.objs.size := he₆
      refine wpAny_setField_rec he₆ (by simp) fun h₇ he₇ hs₇ => ?_
      replace hs₇ : Heap.SameBut e h₆ h₇ := hs₇
      replace he₇ : IsEnumOut h₇ e it ((i : Int) + 1) x hp.objs.size := he₇
      refine wpAny_bind (wpAny_letGo (wpAny_pure ⟨_, rfl, hQ h₇ he₇ ?_ ?_ ?_ ?_⟩))
      · exact ((hit₄.extBut hs₅.extBut (Ne.symm hne)).extBut hs₆.extBut (Ne.symm hne)).extBut hs₇.extBut (Ne.symm hne)
      · exact hs₇.extBut _ _ (Nat.ne_of_gt hel) (hs₆.extBut _ _ (Nat.ne_of_gt hel) (hs₅.extBut _ _ (Nat.ne_of_gt hel) ht₄))
      · rw [hs₇.1, hs₆.1, hs₅.1, hz₄]
      · exact fun b o hbe hbi hb => hs₇.extBut b o hbe (hs₆.extBut b o hbe (hs₅.extBut b o hbe (hk₄ b o hbe hbi hb)))
theorem pyNext_enumT_item {e it l : Addr} {i : Nat} {items : Array Value} {x old : Value} {Q : Option Value → Shared → Prop}
    (he : IsEnum s.heap e it i old) (hit : s.heap.IsTupleIter it l i) (hl : s.heap.IsTuple l items) (hx : items[i]? = some x) (hne : e ≠ it)
    (hQ : ∀ h', IsEnumOut h' e it ((i : Int) + 1) x s.heap.objs.size → h'.IsTupleIter it l (i + 1) →
      h'.get? s.heap.objs.size = some { cls := .type "tuple", data := .seq #[.int i s.toks, x] } → h'.objs.size = s.heap.objs.size + 1 →
      (∀ b o, b ≠ e → b ≠ it → s.heap.get? b = some o → h'.get? b = some o) → Q (some (.ref s.heap.objs.size)) { s with heap := h', toks := s.toks + 1 }) :
    wpAny (model prog w) A (pyNext (.ref e)) Q E s := by
  have hT : s.TypeIs (.ref e) "enumerate" := ⟨_, he, rfl⟩
  unfold pyNext
  exact wpAny_bind (wpAny_attempt (wpAny_callSpecial?_slot (name := Str.ofString "__next__") hT F.slot_enumerate_next
    (wpAny_call_entry F.slot_enumerate_next hT F.entry_enumerate_next
      (enumT_next_item he hit hl hx hne fun h' a b c d k => wpAny_pure (hQ h' a b c d k)) (F.args_enumerate_next_1 _))))
theorem pyNext_enumT_end {e it l : Addr} {i : Nat} {items : Array Value} {old : Value} {Q : Option Value → Shared → Prop} (hh : A.handled = none)
    (he : IsEnum s.heap e it i old) (hit : s.heap.IsTupleIter it l i) (hl : s.heap.IsTuple l items) (hx : items[i]? = none)
    (hQ : ∀ h', Heap.ExtBut it s.heap h' → Q none { s with heap := h' }) : wpAny (model prog w) A (pyNext (.ref e)) Q E s := by
  have hT : s.TypeIs (.ref e) "enumerate" := ⟨_, he, rfl⟩
  unfold pyNext
  refine wpAny_bind (wpAny_attempt (wpAny_callSpecial?_slot (name := Str.ofString "__next__") hT F.slot_enumerate_next
    (wpAny_call_entry F.slot_enumerate_next hT F.entry_enumerate_next ?_ (F.args_enumerate_next_1 _))))
  show wpAny _ _ (field (.ref e) 2 >>= _) _ _ _
  refine wpAny_bind (wpAny_field he rfl (x := .ref it) rfl ?_)
  refine wpAny_bind (RZ.nextOf_tuple_end hh hit hl hx fun h' x he' hx' => ?_)
  obtain ⟨o, ho, hc⟩ := hx'
  refine wpAny_bind (wpAny_isInstance (T := "StopIteration") (b := true) ⟨o, ho, hc⟩ isSubtype_stop ?_)
  exact wpAny_pure (hQ _ he')
end
/-- the tuple at a as it stands at each turn, each item in a new pair -/
def IteT (K : PySem.W.Frag) (a : Addr) : It :=
  ⟨fun i H => ∃ (xs : List V) (x : V), SqT K H a xs ∧ xs[i]? = some x, fun i H v H' => ∃ T x, v = .ref T ∧ H T = none ∧ H' = upd H T (.tup [.int (i : Nat), x]) ∧ ∀ xs, SqT K H a xs → xs[i]? = some x, fun i H => ∃ xs : List V, SqT K H a xs ∧ xs.length ≤ i⟩
theorem turn_enumT {P : Program} {w : World} {K : PySem.W.Frag} {elts : List Expr} {kk : Nat} {tpos : Pos} (a e it : Addr) :
    Turn P w K (.Tuple elts kk tpos) (IteT K a) [e, it] e (fun i h => (∃ old, IsEnum h e it ((i : Nat) : Int) old) ∧ h.IsTupleIter it a i ∧ e ≠ it) where
  mem := by simp
  obj := fun i h st b hb => by
    obtain ⟨⟨old, he⟩, ⟨o, ho, hc, hd⟩, _⟩ := st
    have e' : b = e ∨ b = it := by simpa using hb
    rcases e' with z | z
    · rw [z]; exact ⟨_, he, fun v q => nomatch q⟩
    · rw [z]; exact ⟨o, ho, fun v q => by rw [hd] at q; cases q⟩
  keep := fun i h h' st k => let ⟨⟨old, he⟩, ⟨o, ho, r⟩, hne⟩ := st; ⟨⟨old, k e (by simp) _ he⟩, ⟨o, k it (by simp) o ho, r⟩, hne⟩
  item := by
    intro X hP hw hK hc i pins s σ H E I hf st hg
    subst hP hw hK
    obtain ⟨⟨old, he⟩, hit, hne⟩ := st
    obtain ⟨xs, x, hq, hx⟩ := hg
    obtain ⟨its, rv, p, hz⟩ := I.tuple hq
    obtain ⟨u, hu, ru⟩ := rv.get hx
    have hel : e < s.heap.objs.size := Heap.lt_size he
    have hil : it < s.heap.objs.size := by obtain ⟨_, q, _⟩ := hit; exact Heap.lt_size q
    refine pyNext_enumT_item he hit (show s.heap.IsTuple a its.toArray from p) (x := u) (by simpa using hu) hne fun h' ho hit' hT hsz hk => ?_
    refine ⟨_, rfl, wpAny_letOwnedTupleGo_enum (s := { s with heap := h', toks := s.toks + 1 }) ho fun h'' he' sb => ?_⟩
    have hT2 : h''.get? s.heap.objs.size = some { cls := .type "tuple", data := .seq #[.int i s.toks, u] } := (sb.2 _ (Nat.ne_of_gt hel)).trans hT
    have new : ObjOk X.prog X.w (upd H s.heap.objs.size (.tup [.int (i : Nat), x])) h'' s.heap.objs.size (.tup [.int (i : Nat), x]) :=
      ⟨by show 2 ≤ sizeLine; decide, [.int i s.toks, u], .cons ⟨_, rfl⟩ (.cons ru .nil), ⟨_, hT2, rfl, _, rfl⟩⟩
    have I1 : Inv X pins σ (upd H s.heap.objs.size (.tup [.int (i : Nat), x])) { s with heap := h'', toks := s.toks + 1 } :=
      I.turnedNew (ch := [e, it]) (fun b ob hb q => (sb.2 b (fun z => hb (by simp [z]))).trans (hk b ob (fun z => hb (by simp [z])) (fun z => hb (by simp [z])) q)) hf (Nat.le_refl _) new
    refine ⟨.ref s.heap.objs.size, _, I1, rfl, ⟨_, x, rfl, I.hok.fresh (Nat.le_refl _), rfl, fun ys hy => by rw [I.tuple_inj hy hq]; exact hx⟩, ⟨⟨u, ?_⟩, ?_, hne⟩, fun b hb => ?_⟩
    · have e1 : ((i + 1 : Nat) : Int) = (i : Int) + 1 := by omega
      rw [e1]; exact he'
    · obtain ⟨o, ho, r⟩ := hit'
      exact ⟨o, (sb.2 it (Ne.symm hne)).trans ho, r⟩
    · have hb' : b < s.heap.objs.size := by
        have e' : b = e ∨ b = it := by simpa using hb
        rcases e' with z | z
        · rw [z]; exact hel
        · rw [z]; exact hil
      rw [upd_ne (Nat.ne_of_lt hb')]
      exact (hf b hb).1
  done := by
    intro X hP hw hK hc i pins s σ H E I hf st hg
    subst hP hw hK
    obtain ⟨⟨old, he⟩, hit, hne⟩ := st
    obtain ⟨xs, hq, hx⟩ := hg
    obtain ⟨its, rv, p, hz⟩ := I.tuple hq
    obtain ⟨f0, f1, f2, f3, f4, f5⟩ := hf it (by simp)
    have hl := rv.length
    exact pyNext_enumT_end (I.ok.hd hc) he hit (show s.heap.IsTuple a its.toArray from p) (by simp; omega) fun h' eb => ⟨rfl, I.turned (t' := s.toks) (fun b o hb q => eb b o hb q) f0 f1 f3 f4 f5⟩
  self := fun A i s Q E st h => let ⟨⟨_, he⟩, _⟩ := st; wpAny_pyIter_enum he h
def iEnumA (K : PySem.W.Frag) (ta : TA) : TI := fun σ H R => ta σ H fun vs H1 => ∃ a xs, vs = [.ref a] ∧ ((SqL K H1 a xs ∧ R (Ite K a) H1) ∨ (SqT K H1 a xs ∧ R (IteT K a) H1))
theorem pi_enumA {X : Cx} {e : Expr} {ta : TA} {p pos tpos : Pos} {elts : List Expr} {kk : Nat} (hg : Gl X "enumerate") (hm : X.mg "enumerate" = none) (ha : PA X [e] ta) (hs : starEach [e] X.env = [(false, eval e X.env)] := by rfl) :
    PI X (.Tuple elts kk tpos) (.Call (.Name "enumerate" p) [e] [] pos) (iEnumA X.K ta) := by
  refine ⟨fun pins s σ H R I h => ?_⟩
  refine Call_ (ld_blt I hg hm boot_enumerate (PyProof.Rows.callWith_type1 (thn (ha.run pos pins s σ H _ I h) fun us s1 ⟨vs, H1, I1, r1, q1⟩ => ?_) hs rfl))
  obtain ⟨a, xs, ex, q⟩ := q1
  subst ex
  cases r1 with
  | cons r rr =>
    cases rr
    cases r
    have fpx : ∀ b ∈ [s1.heap.objs.size + 1, s1.heap.objs.size], s1.heap.objs.size ≤ b := fun b hb => by
      have e' : b = s1.heap.objs.size + 1 ∨ b = s1.heap.objs.size := by simpa using hb
      rcases e' with z | z
      · rw [z]; exact Nat.le_add_right _ _
      · rw [z]; exact Nat.le_refl _
    rcases q with ⟨hq, q⟩ | ⟨hq, q⟩
    · obtain ⟨its, rv, p', hz⟩ := I1.list hq
      refine call_enumerate_list p'.isList fun h' he hit hsz hk => wpAny_pyIter_enum he ?_
      have I2 : Inv X pins σ H1 { s1 with heap := h' } := I1.kept (t' := s1.toks) hk
      refine ⟨s1.heap.objs.size + 1, [s1.heap.objs.size + 1, s1.heap.objs.size], _, _, H1, rfl, I2, turn_enum a (s1.heap.objs.size + 1) s1.heap.objs.size, ⟨⟨.none, he⟩, hit, Nat.succ_ne_self _⟩, fun b hb => ?_, q⟩
      exact I1.fpOk (fpx b hb) (I1.hok.fresh (fpx b hb))
    · obtain ⟨its, rv, p', hz⟩ := I1.tuple hq
      refine call_enumerate_tuple (show s1.heap.IsTuple a its.toArray from p') fun h' he hit hsz hk => wpAny_pyIter_enum he ?_
      have I2 : Inv X pins σ H1 { s1 with heap := h' } := I1.kept (t' := s1.toks) hk
      refine ⟨s1.heap.objs.size + 1, [s1.heap.objs.size + 1, s1.heap.objs.size], _, _, H1, rfl, I2, turn_enumT a (s1.heap.objs.size + 1) s1.heap.objs.size, ⟨⟨.none, he⟩, hit, Nat.succ_ne_self _⟩, fun b hb => ?_, q⟩
      exact I1.fpOk (fpx b hb) (I1.hok.fresh (fpx b hb))
end Ps
set_option Elab.async false
set_option linter.all false
set_option maxRecDepth 100000
/-! Ps4: dict(zip(xs, ys)), dict(list of pairs): keys that are tuples. -/
namespace Ps
open PySem PySem.Spec PySem.W PySem.Calls PyProof.Rows L2
section
variable {prog : Program} {w : World} {A : Around} {E : Value → Shared → Prop} {s : Shared} {z TI TO T i1 i2 : Addr} {fp1 fp2 : List Addr} {n1 n2 i : Nat} {P1 P2 : Nat → Value → Prop} {St1 St2 : Nat → Heap → Prop} {f : Bool} {oT : Obj}
theorem zipH_next_item {Q : Value → Shared → Prop} (S : ZipSep2 z TI TO i1 i2 fp1 fp2) (D1 : Draws prog w A i1 fp1 n1 P1 St1) (D2 : Draws prog w A i2 fp2 n2 P2 St2)
    (hz : IsZipHeld s.heap z TI TO T f) (hT : s.heap.get? T = some oT) (hTI : IsTupOf2 s.heap TI (.ref i1) (.ref i2)) (st1 : St1 i s.heap) (st2 : St2 i s.heap) (hlt1 : i < n1) (hlt2 : i < n2)
    (hQ : ∀ x1 x2 h' tk, P1 i x1 → P2 i x2 → IsZipHeld h' z TI TO T true → St1 (i + 1) h' → St2 (i + 1) h' → IsTupOf2 h' s.heap.objs.size x1 x2 → h'.objs.size = s.heap.objs.size + 1 →
      (∀ c o, c ≠ z → c ≠ i1 → c ≠ i2 → s.heap.get? c = some o → h'.get? c = some o) → Q (.ref s.heap.objs.size) { s with heap := h', toks := tk }) :
    wpAny (model prog w) A (Builtin.«zip.__next__» ⟨[.ref z], []⟩) (fun fin s' => ∃ v, fin = .done (.ret v) ∧ Q v s') E s := by
  obtain ⟨hp, g, d, tk0, os⟩ := s
  show wpAny _ _ (field (.ref z) 2 >>= _) _ _ _
  refine wpAny_bind (wpAny_field hz rfl (x := .bool false) rfl ?_)
  show wpAny _ _ (field (.ref z) 3 >>= _) _ _ _
  refine wpAny_bind (wpAny_field hz rfl (x := .ref TI) rfl ?_)
  refine wpAny_bind (wpAny_seqItems hTI rfl ?_)
  show wpAny _ _ (Builtin.SmallTypes.ownedTupleIsFree (.ref z) >>= _) _ _ _
  refine wpAny_bind (wpAny_tupleHeld_zip (s := ⟨hp, g, d, tk0, os⟩) hz hT fun h₁ hz₁ hs₁ => ?_)
  replace hs₁ : Heap.SameBut z hp h₁ := hs₁
  replace hz₁ : IsZipHeld h₁ z TI TO T true := hz₁
  simp only [Bool.false_eq_true, if_false]
  refine wpAny_bind ?_
  rw [← Array.forIn_toList]
  simp only [List.forIn_cons, List.forIn_nil]
  refine wpAny_bind (wpAny_bind (wpAny_holding ?_))
  show wpAny _ _ (Builtin.SmallTypes.nextOf (.ref i1) >>= _) _ _ ⟨h₁, g, d, tk0, os⟩
  refine wpAny_bind (D1.item i ⟨h₁, g, d, tk0, os⟩ _ _ hlt1 (D1.over st1 hs₁ S.zf1) fun x1 h₂ tk1 hx1 sn1 hs₂ => wpAny_pure ?_)
  replace hs₂ : Heap.SameBut i1 h₁ h₂ := hs₂
  refine wpAny_pure ?_
  refine wpAny_bind (wpAny_bind (wpAny_holding ?_))
  show wpAny _ _ (Builtin.SmallTypes.nextOf (.ref i2) >>= _) _ _ ⟨h₂, g, d, tk1, os⟩
  refine wpAny_bind (D2.item i ⟨h₂, g, d, tk1, os⟩ _ _ hlt2 (D2.over (D2.over st2 hs₁ S.zf2) hs₂ S.sep1_2) fun x2 h₃ tk2 hx2 sn2 hs₃ => wpAny_pure ?_)
  replace hs₃ : Heap.SameBut i2 h₂ h₃ := hs₃
  refine wpAny_pure (wpAny_pure ?_)
  show wpAny _ _ (newTuple [x1, x2] >>= _) _ _ ⟨h₃, g, d, tk2, os⟩
  refine wpAny_bind (wpAny_newTuple ?_)
  have hsz : h₃.objs.size = hp.objs.size := by rw [hs₃.1, hs₂.1, hs₁.1]
  have hz₃ : IsZipHeld h₃ z TI TO T true := hs₃.extBut _ _ S.zi2 (hs₂.extBut _ _ S.zi1 hz₁)
  have hk : ∀ c o, c ≠ z → c ≠ i1 → c ≠ i2 → hp.get? c = some o → h₃.get? c = some o := fun c o c1 c2 c3 e => hs₃.extBut _ _ c3 (hs₂.extBut _ _ c2 (hs₁.extBut _ _ c1 e))
  have hj1 : St1 (i + 1) h₃ := D1.over sn1 hs₃ S.sep2_1
  refine wpAny_pure ⟨_, rfl, ?_⟩
  show Q (.ref h₃.objs.size) ⟨h₃.push { cls := .type "tuple", data := .seq #[x1, x2] }, g, d, tk2, os⟩
  have hp : IsTupOf2 (h₃.push { cls := .type "tuple", data := .seq #[x1, x2] }) h₃.objs.size x1 x2 := Heap.get?_push_size _ rfl
  have hz4 : (h₃.push { cls := .type "tuple", data := .seq #[x1, x2] }).objs.size = h₃.objs.size + 1 := Heap.size_push ..
  rw [hsz] at hp hz4 ⊢
  exact hQ x1 x2 _ tk2 hx1 hx2 (Heap.get?_push_of_some _ hz₃) (D1.frame _ _ _ hj1 fun b _ o e => Heap.get?_push_of_some _ e) (D2.frame _ _ _ sn2 fun b _ o e => Heap.get?_push_of_some _ e) hp hz4 fun c o c1 c2 c3 e => Heap.get?_push_of_some _ (hk c o c1 c2 c3 e)
theorem zipH_next_end {Q : Fin → Shared → Prop} (S : ZipSep2 z TI TO i1 i2 fp1 fp2) (D1 : Draws prog w A i1 fp1 n1 P1 St1) (D2 : Draws prog w A i2 fp2 n2 P2 St2)
    (hz : IsZipHeld s.heap z TI TO T f) (hT : s.heap.get? T = some oT) (hTI : IsTupOf2 s.heap TI (.ref i1) (.ref i2)) (st1 : St1 i s.heap) (st2 : St2 i s.heap) (hle1 : i ≤ n1) (hle2 : i ≤ n2) (hend : i = n1 ∨ i = n2)
    (hE : ∀ h' tk e, (∀ c o, c ≠ z → c ≠ i1 → c ≠ i2 → s.heap.get? c = some o → h'.get? c = some o) → (∃ o, h'.get? e = some o ∧ o.cls = .type "StopIteration") → E (.ref e) { s with heap := h', toks := tk }) :
    wpAny (model prog w) A (Builtin.«zip.__next__» ⟨[.ref z], []⟩) Q E s := by
  obtain ⟨hp, g, d, tk0, os⟩ := s
  show wpAny _ _ (field (.ref z) 2 >>= _) _ _ _
  refine wpAny_bind (wpAny_field hz rfl (x := .bool false) rfl ?_)
  show wpAny _ _ (field (.ref z) 3 >>= _) _ _ _
  refine wpAny_bind (wpAny_field hz rfl (x := .ref TI) rfl ?_)
  refine wpAny_bind (wpAny_seqItems hTI rfl ?_)
  show wpAny _ _ (Builtin.SmallTypes.ownedTupleIsFree (.ref z) >>= _) _ _ _
  refine wpAny_bind (wpAny_tupleHeld_zip (s := ⟨hp, g, d, tk0, os⟩) hz hT fun h₁ hz₁ hs₁ => ?_)
  replace hs₁ : Heap.SameBut z hp h₁ := hs₁
  simp only [Bool.false_eq_true, if_false]
  refine wpAny_bind ?_
  rw [← Array.forIn_toList]
  simp only [List.forIn_cons, List.forIn_nil]
  refine wpAny_bind (wpAny_bind (wpAny_holding ?_))
  show wpAny _ _ (Builtin.SmallTypes.nextOf (.ref i1) >>= _) _ _ ⟨h₁, g, d, tk0, os⟩
  by_cases hlt1 : i < n1
  · refine wpAny_bind (D1.item i ⟨h₁, g, d, tk0, os⟩ _ _ hlt1 (D1.over st1 hs₁ S.zf1) fun x1 h₂ tk1 hx1 sn1 hs₂ => wpAny_pure ?_)
    replace hs₂ : Heap.SameBut i1 h₁ h₂ := hs₂
    have hi2 : i = n2 := by omega
    refine wpAny_pure ?_
    refine wpAny_bind (wpAny_bind (wpAny_holding ?_))
    show wpAny _ _ (Builtin.SmallTypes.nextOf (.ref i2) >>= _) _ _ ⟨h₂, g, d, tk1, os⟩
    refine wpAny_bind (D2.done ⟨h₂, g, d, tk1, os⟩ _ _ (by rw [← hi2]; exact D2.over (D2.over st2 hs₁ S.zf2) hs₂ S.sep1_2) fun q e hq he => ?_)
    replace hq : Heap.ExtBut i2 h₂ q := hq
    exact hE q tk1 e (fun c o c1 c2 c3 x => hq _ _ c3 (hs₂.extBut _ _ c2 (hs₁.extBut _ _ c1 x))) he
  · have hi1 : i = n1 := by omega
    refine wpAny_bind (D1.done ⟨h₁, g, d, tk0, os⟩ _ _ (by rw [← hi1]; exact D1.over st1 hs₁ S.zf1) fun q e hq he => ?_)
    replace hq : Heap.ExtBut i1 h₁ q := hq
    exact hE q tk0 e (fun c o c1 c2 c3 x => hq _ _ c2 (hs₁.extBut _ _ c1 x)) he
theorem pyNext_zipH_item {Q : Option Value → Shared → Prop} (S : ZipSep2 z TI TO i1 i2 fp1 fp2) (D1 : Draws prog w A.in1 i1 fp1 n1 P1 St1) (D2 : Draws prog w A.in1 i2 fp2 n2 P2 St2)
    (hz : IsZipHeld s.heap z TI TO T f) (hT : s.heap.get? T = some oT) (hTI : IsTupOf2 s.heap TI (.ref i1) (.ref i2)) (st1 : St1 i s.heap) (st2 : St2 i s.heap) (hlt1 : i < n1) (hlt2 : i < n2)
    (hQ : ∀ x1 x2 h' tk, P1 i x1 → P2 i x2 → IsZipHeld h' z TI TO T true → St1 (i + 1) h' → St2 (i + 1) h' → IsTupOf2 h' s.heap.objs.size x1 x2 → h'.objs.size = s.heap.objs.size + 1 →
      (∀ c o, c ≠ z → c ≠ i1 → c ≠ i2 → s.heap.get? c = some o → h'.get? c = some o) → Q (some (.ref s.heap.objs.size)) { s with heap := h', toks := tk }) :
    wpAny (model prog w) A (pyNext (.ref z)) Q E s := by
  have hTy : s.TypeIs (.ref z) "zip" := ⟨_, hz, rfl⟩
  unfold pyNext
  exact wpAny_bind (wpAny_attempt (wpAny_callSpecial?_slot (name := Str.ofString "__next__") hTy F.slot_zip_next
    (wpAny_call_entry F.slot_zip_next hTy F.entry_zip_next
      (zipH_next_item S D1 D2 hz hT hTI st1 st2 hlt1 hlt2 fun x1 x2 h' tk a1 a2 a3 a4 a5 a6 a7 a8 => wpAny_pure (hQ x1 x2 h' tk a1 a2 a3 a4 a5 a6 a7 a8)) (F.args_zip_next_1 _))))
theorem pyNext_zipH_end {Q : Option Value → Shared → Prop} (S : ZipSep2 z TI TO i1 i2 fp1 fp2) (D1 : Draws prog w A.in1 i1 fp1 n1 P1 St1) (D2 : Draws prog w A.in1 i2 fp2 n2 P2 St2)
    (hz : IsZipHeld s.heap z TI TO T f) (hT : s.heap.get? T = some oT) (hTI : IsTupOf2 s.heap TI (.ref i1) (.ref i2)) (st1 : St1 i s.heap) (st2 : St2 i s.heap) (hle1 : i ≤ n1) (hle2 : i ≤ n2) (hend : i = n1 ∨ i = n2)
    (hQ : ∀ h' tk, (∀ c o, c ≠ z → c ≠ i1 → c ≠ i2 → s.heap.get? c = some o → h'.get? c = some o) → Q none { s with heap := h', toks := tk }) : wpAny (model prog w) A (pyNext (.ref z)) Q E s := by
  have hTy : s.TypeIs (.ref z) "zip" := ⟨_, hz, rfl⟩
  unfold pyNext
  refine wpAny_bind (wpAny_attempt (wpAny_callSpecial?_slot (name := Str.ofString "__next__") hTy F.slot_zip_next
    (wpAny_call_entry F.slot_zip_next hTy F.entry_zip_next (zipH_next_end S D1 D2 hz hT hTI st1 st2 hle1 hle2 hend fun h' tk e hk he => ?_) (F.args_zip_next_1 _))))
  obtain ⟨o, ho, hc⟩ := he
  refine wpAny_bind (wpAny_isInstance (T := "StopIteration") (b := true) ⟨o, ho, hc⟩ isSubtype_stop ?_)
  exact wpAny_pure (hQ _ _ hk)
end
/-- dict(zip(..)): two iterators of any kind -/
theorem PairArg.zipD {prog : Program} {w : World} (z TI TO i1 i2 : Addr) (fp1 fp2 : List Addr) (S : ZipSep2 z TI TO i1 i2 fp1 fp2) {n1 n2 : Nat} {P1 P2 : Nat → Value → Prop} {St1 St2 : Nat → Heap → Prop}
    (D1 : ∀ A : Around, A.handled = none → Draws prog w A i1 fp1 n1 P1 St1) (D2 : ∀ A : Around, A.handled = none → Draws prog w A i2 fp2 n2 P2 St2)
    (fr1 : ∀ i h h', St1 i h → (∀ b ∈ fp1, ∀ o, h.get? b = some o → h'.get? b = some o) → St1 i h') (fr2 : ∀ i h h', St2 i h → (∀ b ∈ fp2, ∀ o, h.get? b = some o → h'.get? b = some o) → St2 i h') (th1 : ∀ i h, St1 i h → ∀ b ∈ fp1, ∃ o, h.get? b = some o) (th2 : ∀ i h, St2 i h → ∀ b ∈ fp2, ∃ o, h.get? b = some o) :
    PairArg prog w "zip" z (z :: TI :: TO :: (fp1 ++ fp2)) [z, TO, i1, i2] (min n1 n2) (fun i k v => P1 i k ∧ P2 i v)
      (fun h => IsZip h z TI TO .none ∧ IsTupOf2 h TI (.ref i1) (.ref i2) ∧ (∃ a b, IsTupOf2 h TO a b) ∧ St1 0 h ∧ St2 0 h) where
  type := fun s ok => ⟨_, ok.1, rfl⟩
  notDict := by decide
  keep := fun h h' ok hk => by
    obtain ⟨hz, hTI, ⟨a, b, hTO⟩, h1, h2⟩ := ok
    exact ⟨hk _ _ hz, hk _ _ hTI, ⟨a, b, hk _ _ hTO⟩, fr1 _ _ _ h1 fun b _ o e => hk b o e, fr2 _ _ _ h2 fun b _ o e => hk b o e⟩
  there := fun h ok b hb => by
    obtain ⟨hz, hTI, ⟨a, c, hTO⟩, h1, h2⟩ := ok
    rcases List.mem_cons.mp hb with rfl | hb
    · exact ⟨_, hz⟩
    rcases List.mem_cons.mp hb with rfl | hb
    · exact ⟨_, hTI⟩
    rcases List.mem_cons.mp hb with rfl | hb
    · exact ⟨_, hTO⟩
    rcases List.mem_append.mp hb with hb | hb
    · exact th1 _ _ h1 b hb
    · exact th2 _ _ h2 b hb
  sub := fun b hb => by
    simp only [List.mem_cons, List.not_mem_nil, or_false] at hb
    rcases hb with rfl | rfl | rfl | rfl
    · exact List.mem_cons_self ..
    · exact List.mem_cons_of_mem _ (List.mem_cons_of_mem _ (List.mem_cons_self ..))
    · exact List.mem_cons_of_mem _ (List.mem_cons_of_mem _ (List.mem_cons_of_mem _ (List.mem_append_left _ S.mem1)))
    · exact List.mem_cons_of_mem _ (List.mem_cons_of_mem _ (List.mem_cons_of_mem _ (List.mem_append_right _ S.mem2)))
  noKeys := fun A s Q E hA ok h => getAttrOr_miss_zip ok.1 rfl rfl rfl zip_no_keys (by decide +kernel) hA h
  iter := fun A s d Q E hA ok hd hdf h => by
    obtain ⟨hz, hTI, ⟨a, b, hTO⟩, h1, h2⟩ := ok
    have E1 := D1 A.in1 hA
    have E2 := D2 A.in1 hA
    simp only [List.mem_cons, List.mem_append, not_or] at hdf
    obtain ⟨dz, dTI, dTO, df1, df2⟩ := hdf
    have di1 : d ≠ i1 := fun e => df1 (e ▸ S.mem1)
    have di2 : d ≠ i2 := fun e => df2 (e ▸ S.mem2)
    refine wpAny_pyIter_zip hz (h z [z, TO, i1, i2] (fun i h => IsTupOf2 h TI (.ref i1) (.ref i2) ∧ St1 i h ∧ St2 i h ∧
      ((IsZip h z TI TO .none ∧ ∃ a b, IsTupOf2 h TO a b) ∨ ∃ T f oT, IsZipHeld h z TI TO T f ∧ h.get? T = some oT ∧ T ≠ z ∧ T ≠ i1 ∧ T ≠ i2 ∧ T ≠ d)) s.heap s.toks ?_
      ⟨hTI, h1, h2, .inl ⟨hz, a, b, hTO⟩⟩ (fun _ _ e => e) fun b hb => .inl hb)
    exact {
      off := fun hm => by
        simp only [List.mem_cons, List.not_mem_nil, or_false] at hm
        rcases hm with e | e | e | e
        · exact dz e
        · exact dTO e
        · exact di1 e
        · exact di2 e
      frame := fun i h₁ h₂ st hk => by
        obtain ⟨hTI, h1, h2, hz⟩ := st
        refine ⟨hk _ _ (Ne.symm dTI) hTI, E1.frame _ _ _ h1 fun b hb o e => hk b o (fun q => df1 (q ▸ hb)) e, E2.frame _ _ _ h2 fun b hb o e => hk b o (fun q => df2 (q ▸ hb)) e, ?_⟩
        rcases hz with ⟨hz, a, b, hTO⟩ | ⟨T, f, oT, hz, hT, r1, r2, r3, r4⟩
        · exact .inl ⟨hk _ _ (Ne.symm dz) hz, a, b, hk _ _ (Ne.symm dTO) hTO⟩
        · exact .inr ⟨T, f, oT, hk _ _ (Ne.symm dz) hz, hk _ _ r4 hT, r1, r2, r3, r4⟩
      item := fun i s₁ Q₁ E₁ hi st hds hQ => by
        obtain ⟨hTI, h1, h2, hz⟩ := st
        have hix : i < n1 := Nat.lt_of_lt_of_le hi (Nat.min_le_left ..)
        have hiy : i < n2 := Nat.lt_of_lt_of_le hi (Nat.min_le_right ..)
        have lt : ∀ {c o}, s₁.heap.get? c = some o → s₁.heap.objs.size ≠ c := fun e => Nat.ne_of_gt (Heap.lt_size e)
        have n1' : s₁.heap.objs.size ≠ i1 := let ⟨_, e⟩ := th1 _ _ h1 i1 S.mem1; lt e
        have n2' : s₁.heap.objs.size ≠ i2 := let ⟨_, e⟩ := th2 _ _ h2 i2 S.mem2; lt e
        rcases hz with ⟨hz, a, b, hTO⟩ | ⟨T, f, oT, hz, hT, r1, r2, r3, r4⟩
        · refine wpAny_pyNext_zipD2_item S E1 E2 hz hTI hTO h1 h2 hix hiy fun x1 x2 h' tk p1 p2 a1 a2 a3 a4 a5 a6 hk => ?_
          exact hQ s₁.heap.objs.size _ _ h' tk ⟨p1, p2⟩ (.inl ⟨_, a5, rfl, _, rfl⟩)
            ⟨hk _ _ S.TIz S.TITO S.TIi1 S.TIi2 hTI, a3, a4, .inr ⟨s₁.heap.objs.size, false, _, a1, a5, lt hz, n1', n2', Nat.ne_of_gt hds⟩⟩
            fun c o hc e => hk c o (fun x => hc (by simp [x])) (fun x => hc (by simp [x])) (fun x => hc (by simp [x])) (fun x => hc (by simp [x])) e
        · refine pyNext_zipH_item S E1 E2 hz hT hTI h1 h2 hix hiy fun x1 x2 h' tk p1 p2 a1 a3 a4 a5 a6 hk => ?_
          exact hQ s₁.heap.objs.size _ _ h' tk ⟨p1, p2⟩ (.inl ⟨_, a5, rfl, _, rfl⟩)
            ⟨hk _ _ S.TIz S.TIi1 S.TIi2 hTI, a3, a4, .inr ⟨T, true, oT, a1, hk _ _ r1 r2 r3 hT, r1, r2, r3, r4⟩⟩
            fun c o hc e => hk c o (fun x => hc (by simp [x])) (fun x => hc (by simp [x])) (fun x => hc (by simp [x])) e
      done := fun s₁ Q₁ E₁ st hQ => by
        obtain ⟨hTI, h1, h2, hz⟩ := st
        have hend : min n1 n2 = n1 ∨ min n1 n2 = n2 := by omega
        rcases hz with ⟨hz, a, b, hTO⟩ | ⟨T, f, oT, hz, hT, r1, r2, r3, r4⟩
        · exact wpAny_pyNext_zipD2_end S E1 E2 hz hTI hTO h1 h2 (Nat.min_le_left ..) (Nat.min_le_right ..) hend fun h' tk hk => hQ h' tk fun c o hc e => hk c o (fun x => hc (by simp [x])) (fun x => hc (by simp [x])) (fun x => hc (by simp [x])) (fun x => hc (by simp [x])) e
        · exact pyNext_zipH_end S E1 E2 hz hT hTI h1 h2 (Nat.min_le_left ..) (Nat.min_le_right ..) hend fun h' tk hk => hQ h' tk fun c o hc e => hk c o (fun x => hc (by simp [x])) (fun x => hc (by simp [x])) (fun x => hc (by simp [x])) e }
section
variable {X : Cx}
/-- a list or a tuple, its iterator -/
def IsS (c : Bool) (h : Heap) (a : Addr) (xs : Array Value) : Prop := if c = true then h.IsTuple a xs else h.IsList a xs
def itO (c : Bool) (a : Addr) : Obj := if c = true then { cls := .type "tuple_iterator", data := .fields #[.ref a, .int 0 0] } else { cls := .type "list_iterator", data := .fields #[.ref a, .int 0 0] }
def IsIt (c : Bool) (h : Heap) (it a : Addr) (i : Nat) : Prop := if c = true then h.IsTupleIter it a i else h.IsListIter it a i
theorem begins_s (c : Bool) (a : Addr) (xs : Array Value) : Begins (.ref a) (itO c a) fun h => IsS c h a xs := by
  cases c with
  | true => exact begins_tuple a xs
  | false => exact begins_list a xs
theorem draws_s {prog : Program} {w : World} {A : Around} (c : Bool) (hh : A.handled = none) (it a : Addr) (hne : a ≠ it) (xs : Array Value) :
    Draws prog w A it [it, a] xs.size (fun i v => xs[i]? = some v) (fun i h => IsIt c h it a i ∧ IsS c h a xs) := by
  cases c with
  | true => exact Draws.tuple hh it a hne xs
  | false => exact Draws.list hh it a hne xs
theorem isS_there {c : Bool} {h : Heap} {a : Addr} {xs : Array Value} (x : IsS c h a xs) : ∃ o, h.get? a = some o := by
  cases c with
  | true => obtain ⟨o, e, _⟩ := (show h.IsTuple a xs from x); exact ⟨o, e⟩
  | false => obtain ⟨o, e, _⟩ := (show h.IsList a xs from x); exact ⟨o, e⟩
theorem isIt_there {c : Bool} {h : Heap} {it a : Addr} {i : Nat} (x : IsIt c h it a i) : ∃ o, h.get? it = some o := by
  cases c with
  | true => obtain ⟨o, e, _⟩ := (show h.IsTupleIter it a i from x); exact ⟨o, e⟩
  | false => obtain ⟨o, e, _⟩ := (show h.IsListIter it a i from x); exact ⟨o, e⟩
theorem isS_keep {c : Bool} {h h' : Heap} {a : Addr} {xs : Array Value} (x : IsS c h a xs) (k : ∀ o, h.get? a = some o → h'.get? a = some o) : IsS c h' a xs := by
  cases c with
  | true => exact Heap.IsTuple.at (show h.IsTuple a xs from x) k
  | false => exact Heap.IsList.at (show h.IsList a xs from x) k
theorem isIt_keep {c : Bool} {h h' : Heap} {it a : Addr} {i : Nat} (x : IsIt c h it a i) (k : ∀ o, h.get? it = some o → h'.get? it = some o) : IsIt c h' it a i := by
  cases c with
  | true => exact Heap.IsTupleIter.at (show h.IsTupleIter it a i from x) k
  | false => exact Heap.IsListIter.at (show h.IsListIter it a i from x) k
theorem isIt_new {c : Bool} {h : Heap} {it a : Addr} (e : h.get? it = some (itO c a)) : IsIt c h it a 0 := by
  cases c with
  | true => exact ⟨_, e, rfl, rfl⟩
  | false => exact ⟨_, e, rfl, rfl⟩
/-- the sequence at a, read -/
def SqC (c : Bool) (K : PySem.W.Frag) (H : Hp) (a : Addr) (xs : List V) : Prop := if c = true then SqT K H a xs else SqL K H a xs
theorem sqC_is {pins : List (Addr × Obj)} {σ : L2.St} {H : Hp} {s : Shared} (I : Inv X pins σ H s) {c : Bool} {a : Addr} {xs : List V} (h : SqC c X.K H a xs) : ∃ its : List Value, Vals xs its ∧ IsS c s.heap a its.toArray ∧ xs.length ≤ sizeLine := by
  cases c with
  | true =>
    obtain ⟨its, rv, ht, hz⟩ := I.tuple h
    exact ⟨its, rv, ht, hz⟩
  | false =>
    obtain ⟨its, rv, pl, hz⟩ := I.list h
    obtain ⟨o, n, ho, hc, hd, hdat⟩ := pl
    exact ⟨its, rv, ⟨o, ho, hc, n, hdat⟩, hz⟩
def mrgT (kvs more : List (List Key × V)) : List (List Key × V) := more.foldl (fun acc kv => putK acc kv.1 kv.2) kvs
theorem mrgT_len : ∀ (more kvs : List (List Key × V)), (mrgT kvs more).length ≤ kvs.length + more.length
  | [], kvs => by simp [mrgT]
  | p :: r, kvs => by
    have h := mrgT_len r (putK kvs p.1 p.2)
    have h2 := length_putK kvs p.1 p.2
    show (mrgT (putK kvs p.1 p.2) r).length ≤ _
    rw [List.length_cons]
    omega
theorem KT.mrg {H : Hp} : ∀ {more : List (List Key × V)} {ps : List (List Key × Addr × Value)} {kvs : List (List Key × V)} {xs : List (List Key × Addr × Value)}, KT H more ps → KT H kvs xs → KT H (mrgT kvs more) (storedAllH xs ps)
  | _, _, _, _, .nil, r => r
  | _, _, _, _, .cons (a := p) (b := q) h t, r => by
    show KT H (mrgT (putK _ p.1 p.2) _) (storedAllH (storedH _ q.1 q.2.1 q.2.2) _)
    refine KT.mrg t ?_
    obtain ⟨h1, h2, h3⟩ := h
    rw [← h1]
    exact KT.put r p.1 h2 h3
/-- keys with where they stand -/
theorem refs_kas : ∀ {kas : List (List Key × Addr)} {us : List Value}, Vals (kas.map fun q => V.ref q.2) us → us = kas.map fun q => Value.ref q.2
  | [], us, r => by
    rw [List.map_nil] at r
    cases r
    rfl
  | q :: kas, us, r => by
    rw [List.map_cons] at r
    cases r with
    | cons h t =>
      cases h
      rw [List.map_cons, ← refs_kas t]
theorem kt_zip {H : Hp} : ∀ {kas : List (List Key × Addr)} {vs : List V} {us : List Value}, (∀ q ∈ kas, H q.2 = some (.tup (q.1.map kV))) → Vals vs us → KT H (List.zipWith (fun q v => (q.1, v)) kas vs) (List.zipWith (fun q u => (q.1, q.2, u)) kas us)
  | [], _, _, _, _ => by simp only [List.zipWith_nil_left]; exact .nil
  | _ :: _, [], us, _, r => by cases r; simp only [List.zipWith_nil_right]; exact .nil
  | q :: kas, v :: vs, us, h, r => by
    cases r with
    | cons rv rt => exact .cons ⟨rfl, h q List.mem_cons_self, rv⟩ (kt_zip (fun p hp => h p (List.mem_cons_of_mem _ hp)) rt)
theorem lt_out {b N : Nat} (h : b < N) : b ∉ [N + 4, N + 3, N, N + 1] := by
  simp only [List.mem_cons, List.not_mem_nil, or_false]
  omega
theorem lt_big {b N M : Nat} (h : b < N) (e : M = N + 5) : b < M := by omega
theorem le_big {N M : Nat} (e : M = N + 5) : N ≤ M := by omega
/-- what dict(zip(x, y)) asks -/
def rDZ (K : PySem.W.Frag) : List V → Hp → VK → Prop := fun zs H Q => ∃ (c1 c2 : Bool) (a b : Addr) (kas : List (List Key × Addr)) (vs : List V), zs = [.ref a, .ref b] ∧ SqC c1 K H a (kas.map fun q => V.ref q.2) ∧ (∀ q ∈ kas, H q.2 = some (.tup (q.1.map kV))) ∧ SqC c2 K H b vs ∧
  ∀ p, H p = none → Q (.ref p) (upd H p (.dT (mrgT [] (List.zipWith (fun q v => (q.1, v)) kas vs))))
theorem pe_dictZip {a b : Expr} {t : TA} {p p2 pos2 pos : Pos} (hc : X.calm = true) (hu : X.A.units + 65 < cLine) (gd : Gl X "dict") (md : X.mg "dict" = none) (gz : Gl X "zip") (mz : X.mg "zip" = none) (ha : PA X [a, b] t)
    (h1 : starEach [a, b] X.env = (false, eval a X.env) :: starEach [b] X.env) (h2 : (backTo pos2 (starEach [b] X.env)).any (·.1) = false) :
    PE X (.Call (.Name "dict" p) [.Call (.Name "zip" p2) [a, b] [] pos2] [] pos) (fun σ H Q => t σ H fun zs H2 => rDZ X.K zs H2 Q) := by
  refine ⟨fun pins s σ H Q I h => ?_⟩
  refine wpAny_Call_Name_kw (ld_blt I gd md PyProof.Rows.boot_dict ?_ (by decide) (by decide))
  refine PyProof.Rows.callWith_type1 ?_ rfl rfl
  show wpAny _ _ (spliced ((false, eval (.Call (.Name "zip" p2) [a, b] [] pos2) X.env) :: backTo pos (starEach [] X.env))) _ _ s
  refine Calls.spliced_cons ?_
  refine wpAny_Call_Name_kw (ld_blt I gz mz PyProof.Rows.boot_zip ?_ (by decide) (by decide))
  refine PyProof.Rows.callWith_type1 (thn (ha.run pos2 pins s σ H _ I h) fun us s2 ⟨vs0, H2, I2, r, q⟩ => ?_) h1 h2
  obtain ⟨c1, c2, l1, l2, kas, vs, ev, sq1, hk, sq2, q⟩ := q
  subst ev
  obtain ⟨u1, u2, eu, ru1, ru2⟩ := vals2 r
  subst eu
  cases ru1
  cases ru2
  obtain ⟨its1, rv1, is1, z1⟩ := sqC_is I2 sq1
  obtain ⟨its2, rv2, is2, z2⟩ := sqC_is I2 sq2
  have e1 := refs_kas rv1
  subst e1
  have hh : ∀ A : Around, A.handled = none → A.in1.handled = none := fun A h => h
  refine zip_begins2 (begins_s c1 l1 _) (begins_s c2 l2 _) is1 is2 fun h' hz hTI hTO g1 g2 hsz kp => ?_
  refine Calls.spliced_nil ?_
  have ne1 : l1 ≠ s2.heap.objs.size := fun e => by obtain ⟨o, x⟩ := isS_there is1; exact Nat.ne_of_lt (Heap.lt_size x) e
  have lt1 : l1 < s2.heap.objs.size := by obtain ⟨o, x⟩ := isS_there is1; exact Heap.lt_size x
  have lt2 : l2 < s2.heap.objs.size := by obtain ⟨o, x⟩ := isS_there is2; exact Heap.lt_size x
  have ne2 : l2 ≠ s2.heap.objs.size + 1 := Nat.ne_of_lt (Nat.lt_succ_of_lt lt2)
  have P := PairArg.zipD (prog := X.prog) (w := X.w) (s2.heap.objs.size + 4) (s2.heap.objs.size + 2) (s2.heap.objs.size + 3) s2.heap.objs.size (s2.heap.objs.size + 1) [s2.heap.objs.size, l1] [s2.heap.objs.size + 1, l2]
    (zip_sep2 (fp1 := [l1]) (fp2 := [l2]) (fun b hb => by rw [List.mem_singleton.mp hb]; exact lt1) (fun b hb => by rw [List.mem_singleton.mp hb]; exact lt2))
    (fun A h => draws_s c1 h s2.heap.objs.size l1 ne1 (kas.map fun q => Value.ref q.2).toArray) (fun A h => draws_s c2 h (s2.heap.objs.size + 1) l2 ne2 its2.toArray)
    (fun i h h' st k => ⟨isIt_keep st.1 (k _ (by simp)), isS_keep st.2 (k _ (by simp))⟩) (fun i h h' st k => ⟨isIt_keep st.1 (k _ (by simp)), isS_keep st.2 (k _ (by simp))⟩)
    (fun i h st b hb => by
      simp only [List.mem_cons, List.not_mem_nil, or_false] at hb
      rcases hb with rfl | rfl
      · exact isIt_there st.1
      · exact isS_there st.2)
    (fun i h st b hb => by
      simp only [List.mem_cons, List.not_mem_nil, or_false] at hb
      rcases hb with rfl | rfl
      · exact isIt_there st.1
      · exact isS_there st.2)
  have lz : its2.length = vs.length := rv2.length.symm
  have kt := kt_zip (H := H2) hk rv2
  have keyAt : ∀ x ∈ List.zipWith (fun (q : List Key × Addr) (u : Value) => (q.1, q.2, u)) kas its2, (tupleKind (mixKind X.prog X.w)).is s2.heap x.1 x.2.1 := by
    intro x hx
    obtain ⟨i, hi, e⟩ := List.mem_iff_getElem.mp hx
    rw [List.getElem_zipWith] at e
    subst e
    exact key_of I2.hok (hk _ (List.getElem_mem _))
  refine call_dict_pairsH (A := X.A) (s := { s2 with heap := h' }) (knd := tupleKind (mixKind X.prog X.w)) (ps := List.zipWith (fun q u => (q.1, q.2, u)) kas its2) P (I2.ok.hd hc) (by show X.A.units + 2 < cLine; omega)
    ⟨hz, hTI, ⟨_, _, hTO⟩, ⟨isIt_new g1, isS_keep is1 (kp _)⟩, ⟨isIt_new g2, isS_keep is2 (kp _)⟩⟩ ⟨?_, ?_⟩ ?_ ?_ ?_
  · rw [List.length_zipWith]; simp
  · rintro i key v ⟨h3, h4⟩
    simp only [List.getElem?_toArray, List.getElem?_map, Option.map_eq_some_iff] at h3 h4
    obtain ⟨q', h3, rfl⟩ := h3
    exact ⟨q'.1, q'.2, by rw [List.getElem?_zipWith, h3, h4], rfl⟩
  · intro h2' hk' x hx
    have x0 := keyAt x hx
    obtain ⟨o, its, n, y1, y2, y3, y4⟩ := id x0
    have lt : x.2.1 < s2.heap.objs.size := Heap.lt_size y1
    refine ⟨o, its, n, hk' _ _ (Nat.ne_of_lt (lt_big lt hsz)) (lt_out lt) (kp _ _ y1), y2, y3, y4⟩
  · simp only [List.size_toArray, List.length_map]
    rw [List.length_map] at z1
    omega
  · intro h2' tk hd' hk'
    have kept : ∀ b o, s2.heap.get? b = some o → h2'.get? b = some o := fun b o e => hk' b o (lt_out (Heap.lt_size e)) (kp _ _ e)
    have hp : s2.heap.objs.size ≤ h'.objs.size := le_big hsz
    have hm : (h'.objs.size == sysModules) = false := beq_eq_false_iff_ne.mpr (Nat.ne_of_gt (Nat.lt_of_lt_of_le I2.big hp))
    have hlen : (mrgT [] (List.zipWith (fun (q : List Key × Addr) v => (q.1, v)) kas vs)).length ≤ sizeLine := by
      refine Nat.le_trans (mrgT_len _ []) ?_
      rw [List.length_nil, Nat.zero_add, List.length_zipWith]
      omega
    have hn : H2 h'.objs.size = none := I2.hok.fresh hp
    obtain ⟨o, es, ep, w1, w2, w3, w4, w5, w6⟩ := hd'
    refine ⟨.ref h'.objs.size, upd H2 h'.objs.size (.dT (mrgT [] (List.zipWith (fun (q : List Key × Addr) v => (q.1, v)) kas vs))), I2.laid (t' := tk) kept hp ?_, rfl, q _ hn⟩
    exact ⟨hlen, hm, _, (KT.mrg kt .nil).keeps (fun b ys e => by rw [upd_ne (ne_of_none e hn)]; exact e), o, es, ep, w1, w2, w3, w4, w6⟩
/-- dict(xs) of a list of pairs (tuple, value) -/
theorem call_dictPT (hcalm : X.calm = true) (hu : X.A.units + 65 < cLine) : CallR X (.type "dict") (fun xs H Q => ∃ (a : Addr) (ps : List Addr) (kas : List (List Key × Addr)) (vs : List V), xs = [.ref a] ∧ SqL X.K H a (ps.map V.ref) ∧ kas.length = ps.length ∧ vs.length = ps.length ∧
    (∀ (j : Nat) (p : Addr) (q : List Key × Addr) (v : V), ps[j]? = some p → kas[j]? = some q → vs[j]? = some v → SqT X.K H p [.ref q.2, v]) ∧ (∀ q ∈ kas, H q.2 = some (.tup (q.1.map kV))) ∧
    ∀ p, H p = none → Q (.ref p) (upd H p (.dT (mrgT [] (List.zipWith (fun q v => (q.1, v)) kas vs))))) := by
  intro pins s σ H xs us Q I r q
  obtain ⟨a, ps, kas, vs, ex, hq, l1, l2, hp, hk, q⟩ := q
  subst ex
  obtain ⟨u, eu, rx⟩ := vals1 r
  subst eu
  cases rx
  obtain ⟨its, rv, pl, hz⟩ := I.list hq
  have ei := refs_at rv
  subst ei
  rw [List.length_map] at hz
  -- the pairs, as they stand
  have prs : ∃ us : List Value, Vals vs us ∧ ∀ (j : Nat) (p : Addr) (q : List Key × Addr) (u : Value), ps[j]? = some p → kas[j]? = some q → us[j]? = some u → PairAt s.heap p (.ref q.2) u := by
    clear rv pl hz hq q hk r
    induction ps generalizing kas vs with
    | nil =>
      cases vs with
      | nil => exact ⟨[], .nil, fun j p q u h => by simp at h⟩
      | cons _ _ => simp at l2
    | cons p ps ih =>
      cases kas with
      | nil => simp at l1
      | cons k kas =>
        cases vs with
        | nil => simp at l2
        | cons v vs =>
          obtain ⟨us, r1, r2⟩ := ih kas vs (by simpa using l1) (by simpa using l2) fun j p q v h1 h2 h3 => hp (j + 1) p q v (by simpa using h1) (by simpa using h2) (by simpa using h3)
          obtain ⟨its, rv, ht, _⟩ := I.tuple (hp 0 p k v rfl rfl rfl)
          obtain ⟨u0, y, ei, ru, ry⟩ := vals2 rv
          subst ei
          cases ru
          refine ⟨y :: us, .cons ry r1, fun j p' q' u' h1 h2 h3 => ?_⟩
          cases j with
          | zero =>
            cases h1; cases h2; cases h3
            obtain ⟨o, e1, e2, n, e3⟩ := ht
            exact .inl ⟨o, e1, e2, n, e3⟩
          | succ j => exact r2 j p' q' u' (by simpa using h1) (by simpa using h2) (by simpa using h3)
  obtain ⟨us, rus, hpr⟩ := prs
  have lus : us.length = ps.length := rus.length.symm.trans l2
  obtain ⟨o, n, ho, hc, hd, hdat⟩ := pl
  let pv : List (Value × Value) := List.zipWith (fun (q : List Key × Addr) u => (Value.ref q.2, u)) kas us
  have lpv : pv.length = ps.length := by
    show (List.zipWith _ kas us).length = _
    rw [List.length_zipWith, l1, lus, Nat.min_self]
  have P := PairArg.list (prog := X.prog) (w := X.w) a (ps.map Value.ref).toArray (fun j => ps.getD j 0) pv
  have kt := kt_zip (H := H) hk rus
  refine call_dict_pairsH (A := X.A) (knd := tupleKind (mixKind X.prog X.w)) (ps := List.zipWith (fun (q : List Key × Addr) u => (q.1, q.2, u)) kas us) P (I.ok.hd hcalm) (by show X.A.units + 2 < cLine; omega)
    ⟨⟨o, n, ho, hc, hd, hdat⟩, by rw [List.size_toArray, List.length_map, lpv], fun j k v hj => ?_⟩ ⟨by rw [lpv, List.length_zipWith, l1, lus, Nat.min_self], fun i key v hrel => ?_⟩ (fun h' hk' x hx => ?_) (by rw [lpv]; exact hz) fun h' tk hd' hk' => ?_
  · have hj' : (List.zipWith (fun (q : List Key × Addr) u => (Value.ref q.2, u)) kas us)[j]? = some (k, v) := hj
    rw [List.getElem?_zipWith] at hj'
    split at hj'
    · rename_i q' u' e1 e2
      obtain ⟨rfl, rfl⟩ := Prod.mk.inj (Option.some.inj hj')
      have hjl : j < ps.length := by rw [← l1]; exact (List.getElem?_eq_some_iff.mp e1).1
      have ep : ps[j]? = some (ps.getD j 0) := by rw [List.getD_eq_getElem?_getD, List.getElem?_eq_getElem hjl]; rfl
      exact ⟨by rw [List.getElem?_toArray, List.getElem?_map, ep]; rfl, hpr j _ q' u' ep e1 e2⟩
    · cases hj'
  · have hrel' : (List.zipWith (fun (q : List Key × Addr) u => (Value.ref q.2, u)) kas us)[i]? = some (key, v) := hrel
    rw [List.getElem?_zipWith] at hrel'
    split at hrel'
    · rename_i q' u' e1 e2
      obtain ⟨rfl, rfl⟩ := Prod.mk.inj (Option.some.inj hrel')
      exact ⟨q'.1, q'.2, by rw [List.getElem?_zipWith, e1, e2], rfl⟩
    · cases hrel'
  · obtain ⟨i, hi, e⟩ := List.mem_iff_getElem.mp hx
    rw [List.getElem_zipWith] at e
    subst e
    obtain ⟨o', its', n', y1, y2, y3, y4⟩ := key_of (P := X.prog) (w := X.w) I.hok (hk _ (List.getElem_mem (l := kas) (n := i) (by rw [List.length_zipWith] at hi; omega)))
    exact ⟨o', its', n', hk' _ _ (Nat.ne_of_lt (Heap.lt_size y1)) (by simp) y1, y2, y3, y4⟩
  · have hm : (s.heap.objs.size == sysModules) = false := beq_eq_false_iff_ne.mpr (Nat.ne_of_gt I.big)
    have hlen : (mrgT [] (List.zipWith (fun (q : List Key × Addr) v => (q.1, v)) kas vs)).length ≤ sizeLine := by
      refine Nat.le_trans (mrgT_len _ []) ?_
      rw [List.length_nil, Nat.zero_add, List.length_zipWith]
      omega
    have hn : H s.heap.objs.size = none := I.hok.fresh (Nat.le_refl _)
    obtain ⟨o2, es, ep, w1, w2, w3, w4, w5, w6⟩ := hd'
    refine ⟨.ref s.heap.objs.size, upd H s.heap.objs.size (.dT (mrgT [] (List.zipWith (fun (q : List Key × Addr) v => (q.1, v)) kas vs))), I.laid (t' := tk) (fun b o e => hk' b o (by simp) e) (Nat.le_refl _) ?_, rfl, q _ hn⟩
    exact ⟨hlen, hm, _, (KT.mrg kt .nil).keeps (fun b ys e => by rw [upd_ne (ne_of_none e hn)]; exact e), o2, es, ep, w1, w2, w3, w4, w6⟩
end
end Ps
set_option Elab.async false
set_option linter.all false
set_option maxRecDepth 100000
/-! Ps5: promises of defs that know what guards stand around (for repr); methods of any class; makers; the law's end over them; repr of data. -/
namespace Ps
open PySem PySem.Spec PySem.W PySem.Calls PyProof.Rows L2
/-- room, and no repr around -/
structure RoomG (k : Nat) (A : Around) : Prop where
  r : Room k A
  g : A.guards = some []
theorem RoomG.deeper {k : Nat} {A : Around} (r : RoomG (k + 1) A) (env : PySem.Env) : RoomG k (A.deeper env) := ⟨r.r.deeper env, r.g⟩
theorem RoomG.make {k : Nat} {A : Around} (r : RoomG (k + 1) A) (C : Addr) (us : List Value) : RoomG k (A.under (.builtin "type.__call__" ⟨.ref C :: us, []⟩)) :=
  ⟨r.r.make C us [], by
    have e : (Code.builtin "type.__call__" ⟨.ref C :: us, []⟩).guards = [] := by
      first | rfl | simp [Code.guards, Code.isGuard, guardIds]
    unfold Around.under
    dsimp only
    rw [e, r.g]; rfl⟩
structure FnG (P : Program) (w : World) (K : PySem.W.Frag) (mg : Str → Option Value) (base : Heap) (CX : CXT) (k : Nat) (f : Addr) (fd : FuncData) (ps : List Str) (sp : Sp) : Prop where
  len : ∀ vs H Q E, sp vs H Q E → vs.length = ps.length
  run : ∀ (A : Around) (outer : List PySem.Env) (s : Shared) (H : Hp) (args : Args) (us : List Value) (vs : List V) (Q : VK) (E : XK), RoomG k A → Env0 P w K mg base A outer s H → BindsTo s fd args (ps.zip us) → Vals vs us → sp vs H Q E →
    codeAny (model P w) A (.call (.ref f) args) (CR CX outer P w H s Q E) s
section
variable {P : Program} {w : World} {K : PySem.W.Frag} {mg : Str → Option Value} {base : Heap} {CX : CXT} {k : Nat} {f : Addr}
theorem fnG_of {name qual : Str} {params : Arguments} {body : List Stmt} {scope : Scope} {dV kV doc pm cdv ct oc : Value} {an od : Option Addr} {osl : Array (Option Value)} {N ps : List Str} {sp : Sp}
    (lk : K.lookup f = some ⟨oc, od, .func (PySem.W.fnOf name qual params body scope dV kV doc pm an cdv ct), osl⟩) (hcd : PySem.W.codeIn K cdv qual = true) (S : FnScope N ps scope) (len : ∀ vs H Q E, sp vs H Q E → vs.length = ps.length)
    (hb : ∀ (A : Around) (outer : List PySem.Env) (s : Shared) (H : Hp) (vs : List V) (Q : VK) (E : XK), RoomG k (A.deeper (envOfC qual scope s.heap.objs.size f cdv)) → sp vs H Q E →
      ∃ t, PSs (cxOf CX P w K mg base N qual scope f cdv A outer s H E) body t ∧ t { nx := fun _ H' => Q .non H', rt := Q } (start N vs) H) :
    FnG P w K mg base CX (k + 1) f (PySem.W.fnOf name qual params body scope dV kV doc pm an cdv ct) ps sp := by
  refine ⟨len, fun A outer s H args us vs Q E hr e0 bt r hsp => ?_⟩
  have KX : K.In s.heap := e0.mod.kin.keeps fun b o e => (e0.bs b o e).1
  have li : s.heap.NoLimit := e0.mod.nolimit.keeps fun b o e => (e0.bs b o e).1
  have hk : ∀ y ∈ ps.zip us, scope.names.lookup y.1 = some .local ∨ (scope.names.lookup y.1 = some .cell ∧ ((cellsFrom (s.heap.objs.size + 1) scope.names []).lookup y.1).isSome = true) := by
    rintro ⟨n, v⟩ hy
    exact (S.par n (List.of_mem_zip hy).1).imp id fun q => ⟨q, PySem.W.cellsFrom_some _ _ _ (.inl q)⟩
  refine codeAny_call_function hr.r.depth (KX _ _ lk) rfl S.co S.gen rfl (PySem.W.codeRec_of KX hcd) (bt _ _ _ _ (wpAny_newFunctionEnv_cells S.kind hk fun env he s1 x => ?_))
  subst he
  refine ⟨li.keeps x.toInCall.keep, codeAny_func ?_⟩
  obtain ⟨t, ht, hq⟩ := hb A outer s H vs Q E (hr.deeper _) hsp
  have I := inv_start (CX := CX) (E := E) S hr.r.hd e0 (len _ _ _ _ hsp) r x
  refine wpAny_mono (ht.run [] s1 (start N vs) H _ I hq) (fun fl s' hs => ?_) fun e s' hs => hs
  cases fl with
  | ret u => obtain ⟨v, σ', H', J, rv, q⟩ := hs; exact ⟨v, H', J.os, J.bare, J.base, J.hok, rv, q⟩
  | next => obtain ⟨σ', H', J, q⟩ := hs; exact ⟨V.non, H', J.os, J.bare, J.base, J.hok, rfl, q⟩
  | brk => obtain ⟨_, _, _, q⟩ := hs; exact q.elim
  | cont => obtain ⟨_, _, _, q⟩ := hs; exact q.elim
theorem okG {x qual : Str} {params : Arguments} {body : List Stmt} {scope : Scope} {dvs : List V} {kws : List (Str × V)} {fd : FuncData} {N ps : List Str} {sp : Sp} (F : FunD K x qual params body scope dvs kws f fd) (S : FnScope N ps scope) (len : ∀ vs H Q E, sp vs H Q E → vs.length = ps.length)
    (hb : ∀ (cdv : Value) (A : Around) (outer : List PySem.Env) (s : Shared) (H : Hp) (vs : List V) (Q : VK) (E : XK), RoomG k (A.deeper (envOfC qual scope s.heap.objs.size f cdv)) → sp vs H Q E →
      ∃ t, PSs (cxOf CX P w K mg base N qual scope f cdv A outer s H E) body t ∧ t { nx := fun _ H' => Q .non H', rt := Q } (start N vs) H) : FnG P w K mg base CX (k + 1) f fd ps sp := by
  obtain ⟨oc, od, dV, kV, doc, pm, an, cdv, ct, osl, rfl, lk, hcd, _, _⟩ := F.ex
  exact fnG_of lk hcd S len fun A outer s H vs Q E => hb cdv A outer s H vs Q E
end
section
variable {X : Cx} {CX : CXT} {k : Nat} {f C : Addr} {fd : FuncData} {ps : List Str} {sp : Sp} {E : L2.St → XK} {x m : Str} {p pos apos : Pos} {e o : Expr} {es : List Expr} {ta : TE} {t : TA}
theorem run_fnG {pins : List (Addr × Obj)} {σ : L2.St} {H : Hp} {s : Shared} {Q : VK} {us : List Value} {vs : List V} (F : FnG X.prog X.w X.K X.mg X.base CX k f fd ps sp) (hr : RoomG k X.A) (hb : Binds X.K fd ps []) (hx : PassesAt CX X σ (E σ))
    (I : Inv X pins σ H s) (r : Vals vs us) (h : sp vs H Q (E σ)) : wpAny (model X.prog X.w) X.A (call (.ref f) us) (EP X pins σ Q) X.xe s := by
  have b := hb s us I.kIn (by rw [List.append_nil, ← r.length]; exact F.len _ _ _ _ h)
  rw [List.append_nil] at b
  refine wpAny_call (codeAny_mono (F.run X.A X.stack s H ⟨us, []⟩ us vs Q (E σ) hr I.env0 b r h) fun q s' hq => ?_)
  cases q with
  | error e => exact hx pins H s e s' I hq
  | ok fl => cases fl <;> first | exact I.after hq | exact False.elim hq
/-- .. the last argument left out: None -/
theorem run_fnGD {pins : List (Addr × Obj)} {σ : L2.St} {H : Hp} {s : Shared} {Q : VK} {us : List Value} {vs : List V} (F : FnG X.prog X.w X.K X.mg X.base CX k f fd ps sp) (hr : RoomG k X.A) (hb : Binds X.K fd ps [.none]) (hx : PassesAt CX X σ (E σ))
    (I : Inv X pins σ H s) (r : Vals vs us) (h : sp (vs ++ [.non]) H Q (E σ)) : wpAny (model X.prog X.w) X.A (call (.ref f) us) (EP X pins σ Q) X.xe s := by
  have b := hb s us I.kIn (by
    have := F.len _ _ _ _ h
    rw [List.length_append] at this ⊢
    rw [← this, ← r.length]
    rfl)
  refine wpAny_call (codeAny_mono (F.run X.A X.stack s H ⟨us, []⟩ _ _ Q (E σ) hr I.env0 b (r.append (show Vals [V.non] [Value.none] from .cons rfl .nil)) h) fun q s' hq => ?_)
  cases q with
  | error e => exact hx pins H s e s' I hq
  | ok fl => cases fl <;> first | exact I.after hq | exact False.elim hq
theorem pe_callGD (F : FnG X.prog X.w X.K X.mg X.base CX k f fd ps sp) (hr : RoomG k X.A) (hg : Gl X x) (hm : X.mg x = some (.ref f)) (hk : PySem.W.keepIn X.K (.ref f) = true) (hb : Binds X.K fd ps [.none]) (hx : ∀ σ, PassesAt CX X σ (E σ))
    (ha : PA X (e :: es) t) (hdb : (x == ("__debug__" : Str)) = false) (he : starEach (e :: es) X.env = (false, eval e X.env) :: starEach es X.env) (hpl : (backTo pos (starEach es X.env)).any (·.1) = false) :
    PE X (.Call (.Name x p) (e :: es) [] pos) (fun σ H Q => t σ H fun vs H1 => sp (vs ++ [.non]) H1 Q (E σ)) :=
  ⟨fun pins s σ H Q I h => wpAny_Call_Name_kw (ld_glob I hg hm (PySem.W.callWith_K (h₀ := X.base) I.ok.mod.kin hk (thn (ha.run pos pins s σ H _ I h) fun us s1 ⟨vs, H1, I1, r, q⟩ => ⟨I1.kIn, run_fnGD F hr hb (hx σ) I1 r q⟩) he hpl) hdb)⟩
theorem pe_callG (F : FnG X.prog X.w X.K X.mg X.base CX k f fd ps sp) (hr : RoomG k X.A) (hg : Gl X x) (hm : X.mg x = some (.ref f)) (hk : PySem.W.keepIn X.K (.ref f) = true) (hb : Binds X.K fd ps []) (hx : ∀ σ, PassesAt CX X σ (E σ))
    (ha : PA X (e :: es) t) (hdb : (x == ("__debug__" : Str)) = false) (he : starEach (e :: es) X.env = (false, eval e X.env) :: starEach es X.env) (hpl : (backTo pos (starEach es X.env)).any (·.1) = false) :
    PE X (.Call (.Name x p) (e :: es) [] pos) (tCallS sp E t) :=
  ⟨fun pins s σ H Q I h => wpAny_Call_Name_kw (ld_glob I hg hm (PySem.W.callWith_K (h₀ := X.base) I.ok.mod.kin hk (thn (ha.run pos pins s σ H _ I h) fun us s1 ⟨vs, H1, I1, r, q⟩ => ⟨I1.kIn, run_fnG F hr hb (hx σ) I1 r q⟩) he hpl) hdb)⟩
/-- o.m(..), of whatever class o is -/
def tMethG (X : Cx) (CX : CXT) (k : Nat) (E : L2.St → XK) (m : Str) (ta : TE) (t : V → TA) : TE := fun σ H Q => ta σ H fun x H1 => ∃ (C f : Addr) (fd : FuncData) (ps : List Str) (sp : Sp) (a dx : Addr) (fs : List (Str × V)),
  Cls X.K C ∧ Meth X.K C m f ∧ FnG X.prog X.w X.K X.mg X.base CX k f fd ps sp ∧ Binds X.K fd ps [] ∧ x = .ref a ∧ H1 a = some (.ins C dx fs) ∧ fs.lookup m = none ∧ t x σ H1 fun vs H2 => sp (x :: vs) H2 Q (E σ)
theorem pe_methG {pl : Sem Bool} {t : V → TA} (hr : RoomG k X.A) (hx : ∀ σ, PassesAt CX X σ (E σ)) (he : PE X o ta) (ha : ∀ v, PA X (e :: es) (t v)) (hst : starEach (e :: es) X.env = (false, eval e X.env) :: starEach es X.env) (hpl : (backTo pos (starEach es X.env)).any (·.1) = false)
    (ht : eval (.Call (.Attribute o m apos) (e :: es) [] pos) X.env = (do
      let ov ← eval o X.env
      standAt apos.atName
      let (f, first) ← holding [ov] (getMethod ov m pl)
      callWith pos f first (backTo pos (starEach (e :: es) X.env)) (backToKw pos (keywordEach [] X.env)))) : PE X (.Call (.Attribute o m apos) (e :: es) [] pos) (tMethG X CX k E m ta t) := by
  refine ⟨fun pins s σ H Q I h => PySem.W.methodCall_KW (pl := pl) (thn (he.run pins s σ H _ I h) fun u s1 ⟨x, H1, I1, rx, C, f, fd, ps, sp, a, dx, fs, c, hm, F, hb, ex, ea, l, q⟩ => ?_) ht⟩
  subst ex
  cases rx
  refine getmeth_ok I1 ea c hm l (PySem.W.callWith_K (first := [.ref a]) (h₀ := X.base) I.ok.mod.kin hm.kp (thn ((ha (.ref a)).run pos pins s1 σ H1 _ I1 q) fun us s2 ⟨vs, H2, I2, r, q2⟩ => ⟨I2.kIn, ?_⟩) hst hpl)
  exact run_fnG (us := .ref a :: us) (vs := .ref a :: vs) F hr hb (hx σ) I2 (.cons rfl r) q2
theorem pe_methG0 {pl : Sem Bool} (hr : RoomG k X.A) (hx : ∀ σ, PassesAt CX X σ (E σ)) (he : PE X o ta)
    (ht : eval (.Call (.Attribute o m apos) [] [] pos) X.env = (do
      let ov ← eval o X.env
      standAt apos.atName
      let (f, first) ← holding [ov] (getMethod ov m pl)
      callWith pos f first (backTo pos (starEach [] X.env)) (backToKw pos (keywordEach [] X.env)))) : PE X (.Call (.Attribute o m apos) [] [] pos) (tMethG X CX k E m ta fun _ => tNil) := by
  refine ⟨fun pins s σ H Q I h => PySem.W.methodCall_KW (pl := pl) (thn (he.run pins s σ H _ I h) fun u s1 ⟨x, H1, I1, rx, C, f, fd, ps, sp, a, dx, fs, c, hm, F, hb, ex, ea, l, q⟩ => ?_) ht⟩
  subst ex
  cases rx
  exact getmeth_ok I1 ea c hm l (PySem.W.callWith_K0 (first := [.ref a]) I1.kIn hm.kp (run_fnG (us := [.ref a]) (vs := [.ref a]) F hr hb (hx σ) I1 (.cons rfl .nil) q))
/-- C(..) -/
def tMakeG (C : Addr) (sp : Sp) (E : L2.St → XK) (t : TA) : TE := fun σ H Q => t σ H fun vs H1 => ∀ x dx, H1 x = none → H1 dx = none → dx ≠ x →
  sp (.ref x :: vs) (upd (upd H1 dx (.own x)) x (.ins C dx [])) (fun v H2 => v = .non ∧ Q (.ref x) H2) fun c d H2 => E σ c d H2
theorem run_makeG {pins : List (Addr × Obj)} {σ : L2.St} {H : Hp} {s : Shared} {Q : VK} {us : List Value} {vs : List V} (M : Mk X.K C f) (F : FnG X.prog X.w X.K X.mg X.base CX k f fd ps sp) (hr : RoomG (k + 1) X.A) (hb : Binds X.K fd ps []) (hx : PassesAt CX X σ (E σ))
    (I : Inv X pins σ H s) (r : Vals vs us) (h : ∀ x dx, H x = none → H dx = none → dx ≠ x → sp (.ref x :: vs) (upd (upd H dx (.own x)) x (.ins C dx [])) (fun v H2 => v = .non ∧ Q (.ref x) H2) (E σ)) :
    wpAny (model X.prog X.w) X.A (call (.ref C) us) (EP X pins σ Q) X.xe s := by
  have hq := h (s.heap.objs.size + 1) s.heap.objs.size (I.hok.fresh (Nat.le_succ _)) (I.hok.fresh (Nat.le_refl _)) (Nat.ne_of_lt (Nat.lt_succ_self _))
  have I2 := Inv.made (C := C) I
  have b := hb _ (Value.ref (s.heap.objs.size + 1) :: us) I2.kIn (by rw [List.append_nil, List.length_cons, ← r.length, ← F.len _ _ _ _ hq]; rfl)
  rw [List.append_nil] at b
  refine wpAny_call (make_map (f := f) I.kIn M.makes M.init (beq_iff_eq.mp M.fn) (codeAny_mono (F.run _ X.stack _ _ ⟨Value.ref (s.heap.objs.size + 1) :: us, []⟩ _ _ _ (E σ) (hr.make C us) (I2.env0.make C us []) b (.cons (show RelV (V.ref (s.heap.objs.size + 1)) (Value.ref (s.heap.objs.size + 1)) from rfl) r) hq) fun q s' hq' => ?_))
  cases q with
  | error e => exact hx pins _ _ e s' I2 hq'
  | ok fl =>
    cases fl with
    | ret u =>
      obtain ⟨v, H', I3, rv, ev, q3⟩ := I2.after hq'
      subst ev
      exact ⟨rv, ⟨V.ref (s.heap.objs.size + 1), H', I3, rfl, q3⟩⟩
    | _ => exact hq'.elim
theorem pe_makeG (M : Mk X.K C f) (F : FnG X.prog X.w X.K X.mg X.base CX k f fd ps sp) (hr : RoomG (k + 1) X.A) (hg : Gl X x) (hm : X.mg x = some (.ref C)) (hb : Binds X.K fd ps []) (hx : ∀ σ, PassesAt CX X σ (E σ))
    (ha : PA X (e :: es) t) (hdb : (x == ("__debug__" : Str)) = false) (he : starEach (e :: es) X.env = (false, eval e X.env) :: starEach es X.env) (hpl : (backTo pos (starEach es X.env)).any (·.1) = false) :
    PE X (.Call (.Name x p) (e :: es) [] pos) (tMakeG C sp E t) :=
  ⟨fun pins s σ H Q I h => wpAny_Call_Name_kw (ld_glob I hg hm (PySem.W.callWith_K (h₀ := X.base) I.ok.mod.kin M.kp (thn (ha.run pos pins s σ H _ I h) fun us s1 ⟨vs, H1, I1, r, q⟩ => ⟨I1.kIn, run_makeG M F hr hb (hx σ) I1 r q⟩) he hpl) hdb)⟩
/-- repr of data -/
theorem call_reprG (hg : X.A.guards = some []) (hu : X.A.units + 65 < cLine) : CallR X (.builtin "repr") (fun xs H Q => ∃ v q, xs = [v] ∧ Dp X.K H v q ∧ q.showable = true ∧ q.hasDict = false ∧ q.depth ≤ 60 ∧ q.shown.length ≤ sizeLine ∧ Q (.str q.shown) H) := by
  intro pins s σ H xs us Q I r h
  obtain ⟨v, q, rfl, dp, h1, h2, h3, h4, hq⟩ := h
  obtain ⟨u, rfl, ru⟩ := vals1 r
  clear r
  cases dp with
  | non => cases ru; exact PySem.P.repr_of_none ⟨.str _, H, I.tok _, ⟨_, rfl⟩, hq⟩
  | bl b => cases ru; exact PySem.P.repr_of_bool (by
      have e : (PyData.bool b).shown = (if b = true then Str.ofString "True" else Str.ofString "False") := by cases b <;> simp only [PyData.shown] <;> rfl
      rw [e] at hq
      exact ⟨.str _, H, I.tok _, ⟨_, rfl⟩, hq⟩)
  | int i =>
    obtain ⟨t, rfl⟩ := ru
    refine PySem.P.repr_of_int (by simpa only [PyData.showable, decide_eq_true_eq] using h1) ?_
    have e : (PyData.int i).shown = toString i := by simp only [PyData.shown]
    rw [e] at hq
    exact ⟨.str _, H, I.tok _, ⟨_, rfl⟩, hq⟩
  | str x =>
    obtain ⟨t, rfl⟩ := ru
    have e : (PyData.str x).shown = reprText x := by simp only [PyData.shown]
    rw [e] at hq h4
    exact PySem.P.repr_of_str ⟨.str _, H, I.tok _, ⟨_, rfl⟩, hq⟩ h4
  | tup h r =>
    cases ru
    obtain ⟨as, rd⟩ := Dp.reads I _ _ _ (.tup h r) (show RelV (.ref _) (.ref _) from rfl)
    exact repr_of_reads' rd h1 (fun z => by rw [h2] at z; cases z) hg (by omega) (fun _ _ e => e) (fun h' u tk k => ⟨.str _, H, I.kept k, ⟨_, rfl⟩, hq⟩) h4
  | lst h r =>
    cases ru
    obtain ⟨as, rd⟩ := Dp.reads I _ _ _ (.lst h r) (show RelV (.ref _) (.ref _) from rfl)
    exact repr_of_reads' rd h1 (fun z => by rw [h2] at z; cases z) hg (by omega) (fun _ _ e => e) (fun h' u tk k => ⟨.str _, H, I.kept k, ⟨_, rfl⟩, hq⟩) h4
end
section
variable {X : Cx} {d : Addr} {es : Array DictEntry} {n : Nat} {o e f : Expr} {apos cpos : Pos} {te tf : TE}
/-- a written dict's value at a text, or another one -/
def RelG (v : V) (w : V) : Option Value → Prop
  | some u => RelV v u
  | none => v = w
theorem pe_kget1 (D : KDict X.K X.w d es n) (ho : PE X o (tC (.ref d))) (he : PE X e te) (m : M1 X o "get" apos e cpos) :
    PE X (.Call (.Attribute o "get" apos) [e] [] cpos) (fun σ H Q => te σ H fun y H2 => ∃ (z : Str) (r : Option Value) (v : V), y = .str z ∧ PySem.W.nsIn X.K d z = some r ∧ RelG v .non r ∧ Q v H2) := by
  refine ⟨fun pins s σ H Q I h => ?_⟩
  refine wpAny_Call_method m.base m.few m.line PySem.F.plainAttrs_dict PySem.F.slot_dict_get PySem.F.type_dict_get (thn (ho.run pins s σ H (fun v H1 => v = .ref d ∧ H1 = H) I ⟨rfl, rfl⟩) fun u s1 ⟨x, H1, I1, rx, ex, eh⟩ => ?_)
  subst ex eh
  cases rx
  have mp := PySem.W.mapOf_K (prog := X.prog) (w := X.w) I1.kIn D.at_ D.lit
  refine ⟨mp.typeIs, fun b q => ?_, ?_⟩
  · cases q
    exact ⟨_, I1.kIn _ _ D.at_, rfl⟩
  rw [m.trees]
  refine Calls.callWith_builtin rfl (Calls.evalArgs_plain (Calls.spliced_cons (thn (he.run pins s1 σ H1 _ I1 h) fun iv s2 ⟨y, H2, I2, ry, z, r, v, ey, er, rv, q2⟩ => Calls.spliced_nil ?_)))
  subst ey
  obtain ⟨t, rfl⟩ := ry
  have mp2 := PySem.W.mapOf_K (prog := X.prog) (w := X.w) I2.kIn D.at_ D.lit
  refine call_meetsIn PySem.F.slot_dict_get mp2.typeIs PySem.F.entry_dict_get (PySem.F.args_dict_get_2 _ _) (meets_dict_get (strKind X.prog X.w) d (PySem.strKind_is X.prog X.w z t) D.low) ⟨_, mp2, ?_⟩
  rw [PySem.W.find_K D.at_ er]
  cases r with
  | none => subst rv; exact ⟨.non, H2, I2.tok _, rfl, q2⟩
  | some u => exact ⟨v, H2, I2.tok _, rv, q2⟩
theorem pe_kget2 (D : KDict X.K X.w d es n) (ho : PE X o (tC (.ref d))) (he : PE X e te) (hf : PE X f tf) (m : M2 X o "get" apos e f cpos) :
    PE X (.Call (.Attribute o "get" apos) [e, f] [] cpos) (fun σ H Q => te σ H fun y H2 => tf σ H2 fun x H3 => ∃ (z : Str) (r : Option Value) (v : V), y = .str z ∧ PySem.W.nsIn X.K d z = some r ∧ RelG v x r ∧ Q v H3) := by
  refine ⟨fun pins s σ H Q I h => ?_⟩
  refine wpAny_Call_method m.base m.few m.line PySem.F.plainAttrs_dict PySem.F.slot_dict_get PySem.F.type_dict_get (thn (ho.run pins s σ H (fun v H1 => v = .ref d ∧ H1 = H) I ⟨rfl, rfl⟩) fun u s1 ⟨x, H1, I1, rx, ex, eh⟩ => ?_)
  subst ex eh
  cases rx
  have mp := PySem.W.mapOf_K (prog := X.prog) (w := X.w) I1.kIn D.at_ D.lit
  refine ⟨mp.typeIs, fun b q => ?_, ?_⟩
  · cases q
    exact ⟨_, I1.kIn _ _ D.at_, rfl⟩
  rw [m.trees]
  refine Calls.callWith_builtin rfl (Calls.evalArgs_plain (Calls.spliced_cons (thn (he.run pins s1 σ H1 _ I1 h) fun iv s2 ⟨y, H2, I2, ry, q2⟩ => Calls.spliced_cons (thn (hf.run pins s2 σ H2 _ I2 q2) fun fv s3 ⟨x, H3, I3, rx, z, r, v, ey, er, rv, q3⟩ => Calls.spliced_nil ?_))))
  subst ey
  obtain ⟨t, rfl⟩ := ry
  have mp2 := PySem.W.mapOf_K (prog := X.prog) (w := X.w) I3.kIn D.at_ D.lit
  refine call_meetsIn PySem.F.slot_dict_get mp2.typeIs PySem.F.entry_dict_get (PySem.F.args_dict_get_3 _ _ _) (meets_dict_get_default (strKind X.prog X.w) d (PySem.strKind_is X.prog X.w z t) D.low fv) ⟨_, mp2, ?_⟩
  rw [PySem.W.find_K D.at_ er]
  cases r with
  | none => have e : v = x := rv; subst e; exact ⟨v, H3, I3.tok _, rx, q3⟩
  | some u => exact ⟨v, H3, I3.tok _, rv, q3⟩
end
section
variable {P : Program} {w : World} {K : PySem.W.Frag} {mg mb : Str → Option Value} {CX : CXT} {k : Nat} {fa a : Addr} {fd : FuncData} {x : Str} {sp : Sp} {s₁ : Shared} {vs : List Value} {ns : List Int}
/-- the law's call, by a promise that knows the guards -/
theorem law_callG (KX : K.In s₁.heap) (hns : s₁.heap.Ns mainGlobals mg) (hb : s₁.heap.Ns builtinsNs mb) (hbb : ∀ x : Str, x ≠ "__name__" → mb x = bootBuiltins x) (hlim : s₁.heap.NoLimit) (hg : s₁.gens = #[])
    (ha : s₁.heap.get? a = some { cls := .type "list", data := .seq vs.toArray }) (hi : IntsAre vs ns) (hl : ns.length ≤ sizeLine) (hr : RoomG k callerA)
    (F : ∀ base : Heap, K.In base → base.Ns mainGlobals mg → FnG P w K mg base CX k fa fd [x] sp) (hbind : ∀ (s : Shared) (u : Value), BindsTo s fd ⟨[u], []⟩ [(x, u)])
    (hsp : ∀ H : Hp, Only H → SqL K H a (ns.map V.int) → sp [.ref a] H (fun v _ => v = .bl true) fun _ _ _ => False) (hCX : ∀ H e s', CX [] H s₁ (fun _ _ _ => False) e s' → False) :
    codeAny (model P w) callerA (.call (.ref fa) ⟨[.ref a], []⟩) (fun r s' => r = .ok (.ret (.bool true)) ∧ OldK s₁.heap s'.heap ∧ s'.os = s₁.os ∧ AllBare s'.gens) s₁ := by
  have rv := vals_ints hi
  have go : ∀ H : Hp, Only H → SqL K H a (ns.map V.int) → HOk P w H s₁.heap → (∀ b, H b ≠ none → b = a) → (H a ≠ none → K.lookup a = none) →
      codeAny (model P w) callerA (.call (.ref fa) ⟨[.ref a], []⟩) (fun r s' => r = .ok (.ret (.bool true)) ∧ OldK s₁.heap s'.heap ∧ s'.os = s₁.os ∧ AllBare s'.gens) s₁ := by
    intro H hO hS hok hA hK
    have none_of : ∀ {b : Addr}, b ≠ a → H b = none := fun {b} hne => by
      cases q : H b with
      | none => rfl
      | some u => exact absurd (hA b (by rw [q]; simp)) hne
    have nsK : ∀ {b : Addr} {m : Str → Option Value}, s₁.heap.Ns b m → (hidT s₁.heap H).Ns b m := by
      rintro b m ⟨o, es, ep, e, d, r⟩
      refine ⟨o, es, ep, hidT_get e (none_of ?_), d, r⟩
      rintro rfl
      rw [ha] at e
      cases e
      cases d
    have kin : K.In (hidT s₁.heap H) := fun b o e => hidT_get (KX b o e) (by
      by_cases z : b = a
      · subst z
        cases q : H b with
        | none => rfl
        | some u => rw [hK (by rw [q]; simp)] at e; cases e
      · exact none_of z)
    have e0 : Env0 P w K mg (hidT s₁.heap H) callerA [] s₁ H :=
      ⟨rfl, ⟨kin, nsK hns, ⟨mb, nsK hb, hbb⟩, let ⟨mc, h1, h2⟩ := hlim; ⟨mc, nsK h1, h2⟩⟩, fun _ _ e => of_hidT e, Nat.le_of_eq (hidT_size _ _), trivial, (fun b z => nomatch z), hok, .of_eq hg⟩
    refine codeAny_mono ((F _ kin (nsK hns)).run callerA [] s₁ H ⟨[.ref a], []⟩ [.ref a] [.ref a] _ _ hr e0 (hbind s₁ (.ref a)) (.cons rfl .nil) (hsp H hO hS)) fun r s' h => ?_
    cases r with
    | error e => exact (hCX H e s' h).elim
    | ok fl =>
      cases fl with
      | ret u =>
        obtain ⟨v, H', os, bare, un, hok', r', q⟩ := h
        have q' : v = .bl true := q
        subst q'
        cases r'
        refine ⟨rfl, OldK.of_keep fun b o e => ?_, os, bare⟩
        cases q : H b with
        | none => exact un.keep b o e q (fun z => nomatch z) (fun z => nomatch z)
        | some u =>
          rcases hO b with z | ⟨ob, xs, z⟩
          · rw [q] at z; cases z
          · obtain ⟨e1, _⟩ := hok b _ z
            obtain ⟨e2, _⟩ := hok' b _ (un.frzs b ob _ z)
            rw [e] at e1
            cases e1
            exact e2
      | _ => exact False.elim h
  cases hk : K.lookup a with
  | some o =>
    have e := KX a o hk
    rw [ha] at e
    cases e
    exact go (fun _ => none) (fun _ => .inl rfl) (.inr ⟨_, vs.toArray, _, hk, rfl, rfl, rfl, by rw [List.size_toArray, hi.length]; exact hl, by simpa using rv⟩) (fun b u z => nomatch z) (fun b z => absurd rfl z) fun z => absurd rfl z
  | none =>
    have at_ : ∀ b, b = a ∨ b ≠ a := fun b => Decidable.em _
    refine go (fun b => if b = a then some (.frz { cls := .type "list", data := .seq vs.toArray } (.lst (ns.map V.int))) else none) (fun b => ?_) (.inl (.inr ⟨{ cls := .type "list", data := .seq vs.toArray }, if_pos rfl⟩)) (fun b u z => ?_) (fun b z => ?_) fun _ => hk
    · rcases at_ b with h | h
      · exact .inr ⟨_, _, if_pos h⟩
      · exact .inl (if_neg h)
    · rcases at_ b with h | h
      · subst h
        dsimp only at z
        rw [if_pos rfl] at z
        cases z
        exact ⟨ha, by rw [List.length_map]; exact hl, vs, _, rv, ha⟩
      · dsimp only at z
        rw [if_neg h] at z; cases z
    · rcases at_ b with h | h
      · exact h
      · exact absurd (if_neg h) z
end
theorem room_caller {k : Nat} (hr : Room k callerA) : RoomG k callerA := ⟨hr, rfl⟩
section
variable {l : PySem.W.OpenLaw} {n k : Nat} {q : Program} {loose : List Str} {XP : (Str → Option Value) → Heap → Prop} {YP : World → Heap → Prop} {d : DefRec} {CX : CXT} {x : Str}
theorem walkG_E (hn : l.most = some n) (hn2 : n ≤ sizeLine) (hdf : d.params.defaults = []) (hr : Room k callerA)
    (F : ∀ (w : World) (mg : Str → Option Value) (fa : Addr) (h : Heap), YP w h → h.Ns mainGlobals mg → mg d.name = some (.ref fa) →
      ∃ (K : PySem.W.Frag) (fd : FuncData) (sp : Sp), K.In h ∧ (∀ (s : Shared) (u : Value), BindsTo s fd ⟨[u], []⟩ [(x, u)]) ∧
        (∀ (H : Hp) (a : Addr) (ns : List Int), ns.length ≤ n → Only H → SqL K H a (ns.map V.int) → sp [.ref a] H (fun v _ => v = .bl true) fun _ _ _ => False) ∧
        ∀ base : Heap, K.In base → base.Ns mainGlobals mg → FnG l.prog w K mg base CX k fa fd [x] sp)
    (hCX : ∀ (H : Hp) (s : Shared) (e : Value) (s' : Shared), CX [] H s (fun _ _ _ => False) e s' → False) :
    PySem.W.WalkO q loose XP YP l.row.toRowW d [] (fun f vs => PySem.call f vs) := by
  refine Att.attach_call hn hdf fun w s₀ s₁ mg mb fa o pm cd doc a vs ns G Y ho hd hcd hmg hobj hints hlen hg => ?_
  obtain ⟨K, fd, sp, KX, hb, hsp, hF⟩ := F w mg fa _ Y G.T.g hmg
  exact law_callG KX G.T.g G.T.b G.T.builtins G.T.nolimit hg hobj hints (Nat.le_trans hlen hn2) (room_caller hr) hF hb (fun H hO hS => hsp H a ns hlen hO hS) fun H e s' => hCX H s₁ e s'
theorem walkG_K {K : Params → PySem.W.Frag} {sp : PySem.W.Frag → Sp} (hn : l.most = some n) (hn2 : n ≤ sizeLine) (hdf : d.params.defaults = []) (hr : Room k callerA)
    (hY : ∀ (w : World) (h : Heap), YP w h → (K w.params).In h)
    (F : ∀ (w : World) (mg : Str → Option Value) (fa : Addr) (h : Heap), (K w.params).In h → h.Ns mainGlobals mg → mg d.name = some (.ref fa) →
      ∃ fd : FuncData, (∀ (s : Shared) (u : Value), BindsTo s fd ⟨[u], []⟩ [(x, u)]) ∧
        ∀ base : Heap, (K w.params).In base → base.Ns mainGlobals mg → FnG l.prog w (K w.params) mg base CX k fa fd [x] (sp (K w.params)))
    (hsp : ∀ (K : PySem.W.Frag) (H : Hp) (a : Addr) (ns : List Int), ns.length ≤ n → Only H → SqL K H a (ns.map V.int) → sp K [.ref a] H (fun v _ => v = .bl true) fun _ _ _ => False)
    (hCX : ∀ (H : Hp) (s : Shared) (e : Value) (s' : Shared), CX [] H s (fun _ _ _ => False) e s' → False) :
    PySem.W.WalkO q loose XP YP l.row.toRowW d [] (fun f vs => PySem.call f vs) := by
  refine walkG_E (x := x) hn hn2 hdf hr (fun w mg fa h Y G hmg => ?_) hCX
  have KX := hY w h Y
  obtain ⟨fd, hb, hF⟩ := F w mg fa h KX G hmg
  exact ⟨K w.params, fd, sp (K w.params), KX, hb, hsp _, hF⟩
end
end Ps
set_option Elab.async false
set_option linter.all false
/-! Pd4s: sorted. -/
namespace Pd
open PySem PySem.Spec PyProof.Rows L2 PySem.W
theorem one_of {α β : Type} {R : α → β → Prop} {vs : List α} {d : β} (h : Paired R vs [d]) : ∃ v, vs = [v] ∧ R v d := by
  cases h with
  | cons r t => cases t; exact ⟨_, rfl, r⟩
theorem two_of {α β : Type} {R : α → β → Prop} {vs : List α} {d e : β} (h : Paired R vs [d, e]) : ∃ v w, vs = [v, w] ∧ R v d ∧ R w e := by
  cases h with
  | cons r t =>
    obtain ⟨w, rfl, r2⟩ := one_of t
    exact ⟨_, _, rfl, r, r2⟩
theorem some2 {α β : Type} {a c : α} {b d : β} (h : some (a, b) = some (c, d)) : c = a ∧ d = b := by
  injection h with h; injection h with h1 h2; exact ⟨h1.symm, h2.symm⟩
theorem toPys_mem : ∀ {ds : List D} {ps : List PyData}, toPys ds = some ps → ps = ds.map pyT ∧ ∀ d ∈ ds, toPy d = some (pyT d)
  | [], _, h => by cases h; exact ⟨rfl, fun _ z => nomatch z⟩
  | d :: ds, _, h => by
    rw [toPys] at h
    split at h
    · rename_i p ps e1 e2
      cases h
      obtain ⟨a, b⟩ := toPys_mem e2
      have : pyT d = p := by unfold pyT; rw [e1]; rfl
      refine ⟨by rw [List.map_cons, this, a], fun x hx => ?_⟩
      rcases List.mem_cons.mp hx with rfl | hx
      · rw [this]; exact e1
      · exact b x hx
    · cases h
theorem sortD_some {rev : Bool} {ds es : List D} (h : sortD rev ds = some es) : es = ds.mergeSort (leD rev) ∧ (∀ d ∈ ds, toPy d = some (pyT d) ∧ (pyT d).depth ≤ 60) ∧ AllAlike (ds.map pyT) ∧ Ps.Sortable2 (ds.map pyT) ∧ ds.length ≤ sizeLine := by
  unfold sortD at h
  split at h
  · rename_i ps e
    obtain ⟨rfl, m⟩ := toPys_mem e
    split at h
    · rename_i hk
      cases h
      unfold sortOk at hk
      simp only [Bool.and_eq_true, List.all_eq_true, decide_eq_true_eq] at hk
      obtain ⟨⟨⟨h1, h2⟩, h3⟩, h4⟩ := hk
      refine ⟨rfl, fun d hd => ⟨m d hd, ?_⟩, fun p hp q hq => h2 p hp q hq, ?_, by rwa [List.length_map] at h4⟩
      · have := h1 _ (List.mem_map.mpr ⟨d, hd, rfl⟩)
        unfold shp at this
        simp only [Bool.and_eq_true, decide_eq_true_eq] at this
        exact this.2
      · unfold sortableB at h3
        simp only [Bool.or_eq_true, Bool.and_eq_true] at h3
        rcases h3 with (h3 | h3) | ⟨h3, h5⟩
        · refine .inl (.inl fun p hp => ?_)
          have := List.all_eq_true.mp h3 p hp
          unfold tupNe at this
          split at this
          · exact ⟨_, _, rfl⟩
          · cases this
        · refine .inl (.inr fun p hp => ?_)
          have := List.all_eq_true.mp h3 p hp
          unfold plain1 at this
          split at this
          · cases this
          · cases this
          · rename_i h6 h7
            exact ⟨h6, fun xs z => h7 xs z⟩
        · refine .inr ⟨?_, fun p hp => ?_⟩
          · unfold headNil at h3
            split at h3
            · exact ⟨_, by assumption⟩
            · cases h3
          · have := List.all_eq_true.mp h5 p hp
            unfold tupAny at this
            split at this
            · exact ⟨_, rfl⟩
            · cases this
    · cases h
  · cases h
section
variable {X : Cx}
/-- values that stand for data -/
theorem zip_each {K : PySem.W.Frag} {M : Ad} {H : Hp} {P : Value → V × D → Prop} : ∀ {xs : List V} {its : List Value} {ds : List D}, Vals xs its → Reps K M H xs ds → (∀ x u d, RelV x u → Rep K M H x d → d ∈ ds → P u (x, d)) → EachIs P its (xs.zip ds)
  | [], _, _, rv, rr, _ => by cases rv; cases rr; exact .nil
  | x :: xs, _, _, rv, rr, h => by
    cases rv with
    | cons r rv =>
      cases rr with
      | cons q rr => exact .cons (h _ _ _ r q List.mem_cons_self) (zip_each rv rr fun x u d a b c => h x u d a b (List.mem_cons_of_mem _ c))
theorem each_out {K : PySem.W.Frag} {M : Ad} {H : Hp} : ∀ {out : List Value} {bs : List (V × D)}, EachIs (fun u b => RelV b.1 u ∧ Rep K M H b.1 b.2) out bs → Vals (bs.map (·.1)) out ∧ Reps K M H (bs.map (·.1)) (bs.map (·.2))
  | _, _, .nil => ⟨.nil, .nil⟩
  | _, _, .cons h t => by
    obtain ⟨a, b⟩ := each_out t
    exact ⟨.cons h.1 a, .cons h.2 b⟩
theorem zip_snd' {α β : Type} : ∀ {xs : List α} {ys : List β}, xs.length = ys.length → (xs.zip ys).map (·.2) = ys
  | [], [], _ => rfl
  | x :: xs, y :: ys, h => by
    have := zip_snd' (xs := xs) (ys := ys) (by simpa using h)
    simp only [List.zip_cons_cons, List.map_cons, this]
theorem sort_map {rev : Bool} (bs : List (V × D)) : (bs.mergeSort (dataLe rev fun b => pyT b.2)).map (·.2) = (bs.map (·.2)).mergeSort (leD rev) := by
  rw [List.map_mergeSort]
  intro a _ b _
  rfl
/-- the source of a sort -/
theorem sort_src {pins : List (Addr × Obj)} {σ : L2.St} {H : Hp} {s : Shared} {xs : List V} {a : Addr} (I : Inv X pins σ H s) (h : SqL X.K H a xs ∨ SqT X.K H a xs) : ∃ (its : List Value) (o : Obj) (T : String) (n : Nat), Vals xs its ∧ s.heap.get? a = some o ∧ o.cls = .type T ∧ (T = "list" ∨ T = "tuple") ∧ o.data = .seq its.toArray n ∧ xs.length ≤ sizeLine := by
  rcases h with h | h
  · obtain ⟨its, rv, ⟨o, n, e, hc, _, hd⟩, hz⟩ := I.list h
    exact ⟨its, o, "list", n, rv, e, hc, .inl rfl, hd, hz⟩
  · obtain ⟨its, rv, ⟨o, e, hc, n, hd⟩, hz⟩ := I.tuple h
    exact ⟨its, o, "tuple", n, rv, e, hc, .inr rfl, hd, hz⟩
theorem sort_core {pins : List (Addr × Obj)} {σ : L2.St} {H : Hp} {s : Shared} {M : Ad} {xs : List V} {ds es : List D} {its out : List Value} {Q : VK} {rev : Bool} (I : Inv X pins σ H s) (mt : ∀ a, M a → Mut (H a)) (rr : Reps X.K M H xs ds) (hL : ds.length ≤ sizeLine) (he : es = ds.mergeSort (leD rev))
    (ho : EachIs (fun u b => RelV b.1 u ∧ Rep X.K M H b.1 b.2) out ((xs.zip ds).mergeSort (dataLe rev fun b => pyT b.2))) (q : ∀ v M' H', OutR X.K M H true (.lst es) v M' H' → Q v H') :
    EP X pins σ Q (.ref (s.heap.objs.size + 1)) { s with heap := sortedAll s.heap its (List.toArray out) } := by
  obtain ⟨v1, v2⟩ := each_out ho
  have e2 : ((xs.zip ds).mergeSort (dataLe rev fun b => pyT b.2)).map (·.2) = es := by rw [sort_map, zip_snd' rr.length, he]
  rw [e2] at v2
  obtain ⟨ep, he'⟩ := PyProof.Rows.sortedAll_at s.heap its out.toArray
  have hlen : (((xs.zip ds).mergeSort (dataLe rev fun b => pyT b.2)).map (·.1)).length ≤ sizeLine := by
    rw [List.length_map, List.length_mergeSort, List.length_zip, rr.length, Nat.min_self]
    exact hL
  have np : H (s.heap.objs.size + 1) = none := I.hok.fresh (Nat.le_succ _)
  exact ⟨.ref _, upd H (s.heap.objs.size + 1) (.lst (((xs.zip ds).mergeSort (dataLe rev fun b => pyT b.2)).map (·.1))), I.laid (t' := s.toks) (fun _ _ => PyProof.Rows.sortedAll_old) (Nat.le_succ _) ⟨hlen, out, ep, v1, he'⟩, rfl, q _ _ _ (.lst mt np v2)⟩
theorem call_sorted (hu : X.A.units + 65 < cLine) : CallR X (.builtin "sorted") (rCall X.K fun ds => match ds with
    | [d] => sortedD false d
    | _ => none) := by
  intro pins s σ H vs us Q I r h
  have gd := inv_good I
  obtain ⟨M, ds, own, rr, mt, vx, hf, q⟩ := h gd
  match ds, vx, hf with
  | [d], vx, hf =>
    obtain ⟨v, rfl, hv⟩ := one_of vx
    have main : ∀ {a : Addr} {xs : List V} {ds : List D}, v = .ref a → (SqL X.K H a xs ∨ SqT X.K H a xs) → Reps X.K M H xs ds → (sortD false ds).map (fun r => (true, D.lst r)) = some (own, rr) → wpAny (model X.prog X.w) X.A (call (.builtin "sorted") us) (EP X pins σ Q) X.xe s := by
      intro a xs ds hva hs rx hf
      subst hva
      obtain ⟨es, e1, e2⟩ := Option.map_eq_some_iff.mp hf
      obtain ⟨rfl, rfl⟩ := some2 (congrArg some e2)
      obtain ⟨he, hd, hal, hk, hL⟩ := sortD_some e1
      obtain ⟨its, o, T, n, rv, ho, hc, hT, hdt, hz⟩ := sort_src I hs
      rw [Vals.ref1 r]
      have lz : xs.length = ds.length := rx.length
      refine Ps.sorted_data (β := V × D) (R := fun u b => RelV b.1 u ∧ Rep X.K M H b.1 b.2) (enc := fun b => pyT b.2) (bs := xs.zip ds) ho hc hT hdt ?_ ?_ ?_ ?_ ?_ ?_ ?_
      · exact zip_each rv rx fun x u d a b _ => ⟨a, b⟩
      · exact zip_each rv rx fun x u d a b c => Dp.reads I (pyT d) x u (b.dp d (hd d c).1) a
      · have : (xs.zip ds).map (fun b => pyT b.2) = ds.map pyT := by rw [← zip_snd' lz, List.map_map]; simp only [zip_snd' lz]; rfl
        rw [this]; exact hal
      · have : (xs.zip ds).map (fun b => pyT b.2) = ds.map pyT := by rw [← zip_snd' lz, List.map_map]; simp only [zip_snd' lz]; rfl
        rw [this]; exact hk
      · rw [List.length_zip, lz, Nat.min_self]; exact hL
      · intro b hb
        have := (hd b.2 (List.of_mem_zip hb).2).2
        omega
      · intro out _ hout
        exact sort_core I mt rx hL he hout q
    cases d with
    | lst ds =>
      obtain ⟨a, xs, e, ha, ra⟩ := hv.lst
      exact main e (.inl (.of ha)) ra hf
    | tup ds =>
      obtain ⟨a, xs, e, ha, ra⟩ := hv.tup
      exact main e (.inr ha) ra hf
    | _ => cases hf
  | [], _, hf => cases hf
  | _ :: _ :: _, _, hf => cases hf
end
end Pd
set_option Elab.async false
set_option linter.all false
/-! Pd4t: sets of ints that are made and asked at once. -/
namespace Pd
open PySem PySem.Spec PyProof.Rows L2 PySem.W
section
variable {X : Cx}
theorem ints_reps {K : PySem.W.Frag} {M : Ad} {H : Hp} : ∀ {xs : List V} {ds : List D} {ns : List Int}, Reps K M H xs ds → intsD ds = some ns → xs = ns.map V.int ∧ ds = ns.map D.int
  | _, [], _, r, h => by cases r; cases h; exact ⟨rfl, rfl⟩
  | _, d :: ds, ns, r, h => by
    cases r with
    | cons r1 r2 =>
      cases d with
      | int i =>
        rw [intsD] at h
        obtain ⟨ms, h1, rfl⟩ := Option.map_eq_some_iff.mp h
        obtain ⟨e1, e2⟩ := ints_reps r2 h1
        cases r1
        exact ⟨by rw [e1]; rfl, by rw [e2]; rfl⟩
      | _ => cases h
/-- set(t) -/
def rSetI (K : PySem.W.Frag) (w : World) : List V → Hp → VK → Prop := fun vs H Q => ∃ (p : Addr) (ns : List Int), vs = [.ref p] ∧ SqT K H p (ns.map V.int) ∧ ns.length ≤ 60 ∧ ∀ q c, H q = none → c ≤ ns.length → Q (.ref q) (upd H q (SetO w q (fun j => decide (j ∈ ns)) c))
theorem cr_setI (hc : X.calm = true) : CallR X (.type "set") (rSetI X.K X.w) := by
  intro pins s σ H vs us Q I r h
  obtain ⟨p, ns, rfl, hq, hl, q⟩ := h
  rw [Vals.ref1 r]
  obtain ⟨its, rv, pt, hz⟩ := I.tuple hq
  refine call_set_tupI ns (I.ok.hd hc) (show s.heap.IsTuple p its.toArray from pt) (ints_of_vals rv) (by unfold scanBound; omega) fun h' tk c R hcn k => ?_
  exact ⟨.ref _, upd H s.heap.objs.size (SetO X.w s.heap.objs.size (fun j => decide (j ∈ ns)) c), I.laid (t' := tk) k (Nat.le_refl _) (setO_new R), rfl, q _ c (I.hok.fresh (Nat.le_refl _)) hcn⟩
/-- a & b -/
def rMeet (w : World) : R2 := fun x y H Q => ∃ a b S S' n n', x = V.ref a ∧ y = V.ref b ∧ a ≠ b ∧ H a = some (SetO w a S n) ∧ H b = some (SetO w b S' n') ∧ ∀ q c, H q = none → Q (.ref q) (upd H q (SetO w q (fun k => S k && S' k) c))
theorem or_meet : OpR X (binaryOp .BitAnd) (rMeet X.w) := by
  intro pins s σ H x y v u Q I rx ry h
  obtain ⟨a, b, S, S', n, n', rfl, rfl, hne, ha, hb, q⟩ := h
  cases rx
  cases ry
  refine Ps.set_and hne (setO_get I ha) (setO_get I hb) fun h' d c k R => ?_
  have hn : H s.heap.objs.size = none := I.hok.fresh (Nat.le_refl _)
  exact ⟨.ref _, upd H s.heap.objs.size (SetO X.w s.heap.objs.size (fun k => S k && S' k) c), I.call (ch := []) (d' := d) (t' := s.toks) (g' := s.gens) (Un.laid k (Nat.le_refl _) hn) (I.hok.laid k (Nat.le_refl _) (setO_new R)) I.bare (fun _ z => nomatch z), rfl, q _ c hn⟩
theorem setR_some {w : World} {h : Heap} {a : Addr} {S : Int → Bool} {n : Nat} (R : SetR w h a S n) : (!decide (n = 0)) = true ↔ ∃ k, S k = true := by
  obtain ⟨o, es, ep, t, ho, hex, hd, g, nd, hm, hb, hf, hn, hr, hl⟩ := R
  subst hn
  rw [Bool.not_eq_true', decide_eq_false_iff_not]
  constructor
  · intro h
    have : es.toList ≠ [] := fun z => h (by rw [← Array.length_toList, z] <;> rfl)
    obtain ⟨e, l, he⟩ := List.exists_cons_of_ne_nil this
    exact ⟨keyOf e, (hm _).mpr (by rw [he]; exact List.mem_cons_self)⟩
  · rintro ⟨k, hk⟩ z
    have := (hm k).mp hk
    have e0 : es.toList = [] := by
      apply List.eq_nil_of_length_eq_zero
      rw [Array.length_toList]; exact z
    rw [e0] at this
    cases this
/-- a != set() -/
def rNeSet (w : World) : R2 := fun x y H Q => ∃ a b S n, x = V.ref a ∧ y = V.ref b ∧ H a = some (SetO w a S n) ∧ H b = some (SetO w b (fun _ => false) 0) ∧ ∀ r : Bool, (r = true ↔ ∃ k, S k = true) → Q (.bl r) H
theorem or_neSet (hu : X.A.units < cLine) : OpR X (compareOp .NotEq) (rNeSet X.w) := by
  intro pins s σ H x y v u Q I rx ry h
  obtain ⟨a, b, S, n, rfl, rfl, ha, hb, q⟩ := h
  cases rx
  cases ry
  exact Ps.set_ne hu (setO_get I ha) (setO_get I hb) ⟨.bl _, H, I.tok _, rfl, q _ (setR_some (setO_get I ha))⟩
/-! ### sorted(set(t)) by values -/
theorem insU_mem {x k : Int} : ∀ {l : List Int}, k ∈ insU x l ↔ k = x ∨ k ∈ l
  | [] => by simp [insU]
  | y :: r => by
    unfold insU
    split
    · simp
    · split
      · rename_i h1 h2; subst h2; simp
      · rw [List.mem_cons, insU_mem, List.mem_cons]
        constructor
        · rintro (h | h | h)
          · exact .inr (.inl h)
          · exact .inl h
          · exact .inr (.inr h)
        · rintro (h | h | h)
          · exact .inr (.inl h)
          · exact .inl h
          · exact .inr (.inr h)
theorem insU_pw {x : Int} : ∀ {l : List Int}, l.Pairwise (· < ·) → (insU x l).Pairwise (· < ·)
  | [], _ => List.pairwise_singleton _ _
  | y :: r, h => by
    have h0 := h
    rw [List.pairwise_cons] at h
    unfold insU
    split
    · rename_i h1
      refine List.pairwise_cons.mpr ⟨fun z hz => ?_, h0⟩
      rcases List.mem_cons.mp hz with rfl | hz
      · exact h1
      · exact Int.lt_trans h1 (h.1 z hz)
    · split
      · exact h0
      · rename_i h1 h2
        refine List.pairwise_cons.mpr ⟨fun z hz => ?_, insU_pw h.2⟩
        rcases insU_mem.mp hz with rfl | hz
        · omega
        · exact h.1 z hz
theorem ssetZ_mem {k : Int} : ∀ {ns : List Int}, k ∈ ssetZ ns ↔ k ∈ ns
  | [] => by simp [ssetZ]
  | n :: ns => by
    show k ∈ insU n (ssetZ ns) ↔ _
    rw [insU_mem, ssetZ_mem, List.mem_cons]
theorem ssetZ_pw : ∀ {ns : List Int}, (ssetZ ns).Pairwise (· < ·)
  | [] => .nil
  | n :: ns => insU_pw ssetZ_pw
theorem pw_uniq : ∀ {l m : List Int}, l.Pairwise (· < ·) → m.Pairwise (· < ·) → (∀ k, k ∈ l ↔ k ∈ m) → l = m
  | [], [], _, _, _ => rfl
  | [], y :: m, _, _, h => absurd ((h y).mpr List.mem_cons_self) (by simp)
  | x :: l, [], _, _, h => absurd ((h x).mp List.mem_cons_self) (by simp)
  | x :: l, y :: m, h1, h2, h => by
    rw [List.pairwise_cons] at h1 h2
    have hxy : x = y := by
      rcases List.mem_cons.mp ((h x).mp List.mem_cons_self) with e | e
      · exact e
      · rcases List.mem_cons.mp ((h y).mpr List.mem_cons_self) with e2 | e2
        · exact e2.symm
        · have := h2.1 x e
          have := h1.1 y e2
          omega
    subst hxy
    rw [pw_uniq h1.2 h2.2 fun k => ?_]
    constructor
    · intro hk
      rcases List.mem_cons.mp ((h k).mp (List.mem_cons_of_mem _ hk)) with e | e
      · have := h1.1 k hk; omega
      · exact e
    · intro hk
      rcases List.mem_cons.mp ((h k).mpr (List.mem_cons_of_mem _ hk)) with e | e
      · have := h2.1 k hk; omega
      · exact e
/-! ### the two as readings -/
/-- a thing of no name is laid -/
theorem Grow.ext {M : Ad} {H : Hp} {p : Addr} {o : HO} (hp : H p = none) (mt : ∀ a, M a → Mut (H a)) : Grow M H M (upd H p o) :=
  ⟨fun a u h => by rw [upd_ne (ne_of_none h hp)]; exact h, fun _ m => m, fun _ m => .inl m, fun a m => by
    have q := mt a m
    rw [upd_ne (fun z => by rw [z, hp] at q; exact q)]; exact q⟩
theorem Grow.trans {M M1 M2 : Ad} {H H1 H2 : Hp} (g : Grow M H M1 H1) (k : Grow M1 H1 M2 H2) : Grow M H M2 H2 where
  keep := fun a o h => k.keep a o (g.keep a o h)
  sub := fun a m => k.sub a (g.sub a m)
  back := fun a m => by
    rcases k.back a m with m | n
    · exact g.back a m
    · refine .inr ?_
      cases e : H a with
      | none => rfl
      | some o => rw [g.keep a o e] at n; cases n
  mt := k.mt
theorem SqT.grow {K : PySem.W.Frag} {M M' : Ad} {H H' : Hp} {a : Addr} {xs : List V} (h : SqT K H a xs) (g : Grow M H M' H') : SqT K H' a xs :=
  h.elim (fun h => .inl (h.elim (fun h => .inl (g.keep _ _ h)) fun ⟨o, h⟩ => .inr ⟨o, g.keep _ _ h⟩)) fun h => .inr h
end
end Pd
set_option Elab.async false
set_option linter.all false
set_option maxRecDepth 100000
/-! Ps7: zip of a list and a tuple, in either order; sorted(d.items()) of a dict by tuples. -/
namespace Ps
open PySem PySem.Spec PySem.W PySem.Calls PyProof.Rows L2
theorem sqC_inj {X : Cx} {pins : List (Addr × Obj)} {σ : L2.St} {H : Hp} {s : Shared} (I : Inv X pins σ H s) {c : Bool} {a : Addr} {xs ys : List V} (h : SqC c X.K H a xs) (h' : SqC c X.K H a ys) : xs = ys := by
  cases c with
  | true => exact I.tuple_inj (show SqT X.K H a xs from h) h'
  | false => exact I.list_inj (show SqL X.K H a xs from h) h'
/-- the two as they stand at each turn, the items in new pairs -/
def ItzM (c1 c2 : Bool) (K : PySem.W.Frag) (a b : Addr) : It :=
  ⟨fun i H => ∃ (xs ys : List V) (x y : V), SqC c1 K H a xs ∧ SqC c2 K H b ys ∧ xs[i]? = some x ∧ ys[i]? = some y,
    fun i H v H' => ∃ T x y, v = .ref T ∧ H T = none ∧ H' = upd H T (.tup [x, y]) ∧ (∀ xs, SqC c1 K H a xs → xs[i]? = some x) ∧ ∀ ys, SqC c2 K H b ys → ys[i]? = some y,
    fun i H => ∃ xs ys : List V, SqC c1 K H a xs ∧ SqC c2 K H b ys ∧ ((xs.length = i ∧ i ≤ ys.length) ∨ (ys.length = i ∧ i ≤ xs.length))⟩
theorem turn_zipM {P : Program} {w : World} {K : PySem.W.Frag} {c1 c2 : Bool} {elts : List Expr} {kk : Nat} {tpos : Pos} {a b z TI TO i1 i2 : Addr} (S : ZipSep2 z TI TO i1 i2 [i1, a] [i2, b]) (n1 : a ≠ i1) (n2 : b ≠ i2) :
    Turn P w K (.Tuple elts kk tpos) (ItzM c1 c2 K a b) [z, TI, TO, i1, i2] z (fun i h => IsZip h z TI TO .none ∧ IsTupOf2 h TI (.ref i1) (.ref i2) ∧ (∃ x y, IsTupOf2 h TO x y) ∧ IsIt c1 h i1 a i ∧ IsIt c2 h i2 b i) where
  mem := by simp
  obj := fun i h sw c cm => by
    obtain ⟨kz, kI, ⟨x, y, kO⟩, h1, h2⟩ := sw
    have e' : c = z ∨ (c = TI ∨ (c = TO ∨ (c = i1 ∨ c = i2))) := by simpa using cm
    have it_ob : ∀ {c : Bool} {it a : Addr}, IsIt c h it a i → ∃ o, h.get? it = some o ∧ ∀ v, o.data ≠ .cell v := fun {c it a} q => by
      cases c with
      | true => obtain ⟨o, e, _, d⟩ := (show h.IsTupleIter it a i from q); exact ⟨o, e, fun v q => by rw [d] at q; cases q⟩
      | false => obtain ⟨o, e, _, d⟩ := (show h.IsListIter it a i from q); exact ⟨o, e, fun v q => by rw [d] at q; cases q⟩
    rcases e' with (q | q | q | q | q)
    · rw [q]; exact ⟨_, kz, fun v q => by cases q⟩
    · rw [q]; exact ⟨_, kI, fun v q => by cases q⟩
    · rw [q]; exact ⟨_, kO, fun v q => by cases q⟩
    · rw [q]; exact it_ob h1
    · rw [q]; exact it_ob h2
  keep := fun i h h' sw k => by
    obtain ⟨kz, kI, ⟨x, y, kO⟩, h1, h2⟩ := sw
    exact ⟨k z (by simp) _ kz, k TI (by simp) _ kI, ⟨x, y, k TO (by simp) _ kO⟩, isIt_keep h1 fun o q => k i1 (by simp) o q, isIt_keep h2 fun o q => k i2 (by simp) o q⟩
  item := by
    intro X eP ew eK cm i pn s σ H E I fr sw gw
    subst eP ew eK
    obtain ⟨kz, kI, ⟨x0, y0, kO⟩, h1, h2⟩ := sw
    obtain ⟨xs, ys, x, y, sx, sy, gx, gy⟩ := gw
    obtain ⟨its, rv, p, _⟩ := sqC_is I sx
    obtain ⟨its2, rv2, p2, _⟩ := sqC_is I sy
    obtain ⟨u, vx, rx⟩ := rv.get gx
    obtain ⟨u2, vy, ry⟩ := rv2.get gy
    have lz0 : z < s.heap.objs.size := Heap.lt_size kz
    have hh : X.A.in1.handled = none := I.ok.hd cm
    have lt1 : i < its.toArray.size := by have := (List.getElem?_eq_some_iff.mp vx).1; simpa using this
    have lt2 : i < its2.toArray.size := by have := (List.getElem?_eq_some_iff.mp vy).1; simpa using this
    refine wpAny_pyNext_zipD2_item S (draws_s c1 hh i1 a n1 its.toArray) (draws_s c2 hh i2 b n2 its2.toArray) kz kI kO ⟨h1, p⟩ ⟨h2, p2⟩ lt1 lt2 fun x1 x2 h' tk e1 e2 z' TO' h1' h2' tT ksz kq => ?_
    obtain rfl : x1 = u := by rw [List.getElem?_toArray, vx] at e1; exact (Option.some.inj e1).symm
    obtain rfl : x2 = u2 := by rw [List.getElem?_toArray, vy] at e2; exact (Option.some.inj e2).symm
    refine ⟨_, rfl, wpAny_letOwnedTupleGo_zip (s := { s with heap := h', toks := tk }) z' fun h'' z'' sb => ?_⟩
    have tT2 : h''.get? s.heap.objs.size = some { cls := .type "tuple", data := .seq #[x1, x2] } := (sb.2 _ (Nat.ne_of_gt lz0)).trans tT
    have new : ObjOk X.prog X.w (upd H s.heap.objs.size (.tup [x, y])) h'' s.heap.objs.size (.tup [x, y]) :=
      ⟨by show 2 ≤ sizeLine; decide, [x1, x2], .cons rx (.cons ry .nil), ⟨_, tT2, rfl, _, rfl⟩⟩
    have I1 : Inv X pn σ (upd H s.heap.objs.size (.tup [x, y])) { s with heap := h'', toks := tk } :=
      I.turnedNew (t' := tk) (ch := [z, TI, TO, i1, i2]) (fun c o hb q => (sb.2 c (fun q' => hb (by simp [q']))).trans (kq c o (fun q' => hb (by simp [q'])) (fun q' => hb (by simp [q'])) (fun q' => hb (by simp [q'])) (fun q' => hb (by simp [q'])) q)) fr (Nat.le_refl _) new
    have z1 : i1 ≠ z := fun q => S.zf1 (by rw [← q]; simp)
    have z2 : i2 ≠ z := fun q => S.zf2 (by rw [← q]; simp)
    refine ⟨.ref s.heap.objs.size, _, I1, rfl, ⟨_, x, y, rfl, I.hok.fresh (Nat.le_refl _), rfl, fun l hl => by rw [sqC_inj I hl sx]; exact gx, fun l hl => by rw [sqC_inj I hl sy]; exact gy⟩, ⟨z'', ?_, ⟨x1, x2, ?_⟩, ?_, ?_⟩, fun c mem => ?_⟩
    · exact (sb.2 _ S.TIz).trans (kq _ _ S.TIz S.TITO S.TIi1 S.TIi2 kI)
    · exact (sb.2 _ S.TOz).trans TO'
    · exact isIt_keep h1'.1 fun o q => (sb.2 _ z1).trans q
    · exact isIt_keep h2'.1 fun o q => (sb.2 _ z2).trans q
    · have ltc : c < s.heap.objs.size := by
        have e' : c = z ∨ (c = TI ∨ (c = TO ∨ (c = i1 ∨ c = i2))) := by simpa using mem
        rcases e' with (q | q | q | q | q)
        · rw [q]; exact lz0
        · rw [q]; exact Heap.lt_size kI
        · rw [q]; exact Heap.lt_size kO
        · rw [q]; obtain ⟨_, e1⟩ := isIt_there h1; exact Heap.lt_size e1
        · rw [q]; obtain ⟨_, e2⟩ := isIt_there h2; exact Heap.lt_size e2
      rw [upd_ne (Nat.ne_of_lt ltc)]
      exact (fr c mem).1
  done := by
    intro X eP ew eK cm i pn s σ H E I fr sw gw
    subst eP ew eK
    obtain ⟨kz, kI, ⟨x0, y0, kO⟩, h1, h2⟩ := sw
    obtain ⟨xs, ys, sx, sy, stp⟩ := gw
    obtain ⟨its, rv, p, _⟩ := sqC_is I sx
    obtain ⟨its2, rv2, p2, _⟩ := sqC_is I sy
    have l1 := rv.length
    have l2 := rv2.length
    have hh : X.A.in1.handled = none := I.ok.hd cm
    exact wpAny_pyNext_zipD2_end S (draws_s c1 hh i1 a n1 its.toArray) (draws_s c2 hh i2 b n2 its2.toArray) kz kI kO ⟨h1, p⟩ ⟨h2, p2⟩ (by simp; omega) (by simp; omega) (by simp; omega) fun h' tk kq => ⟨rfl, I.turnedL (t' := tk) (ch := [z, TI, TO, i1, i2]) (fun c o hb q =>
      kq c o (fun q' => hb (by simp [q'])) (fun q' => hb (by simp [q'])) (fun q' => hb (by simp [q'])) (fun q' => hb (by simp [q'])) q) fr⟩
  self := fun A i s Q E sw h => wpAny_pyIter_zip sw.1 h
def iZipM (K : PySem.W.Frag) (ta : TA) : TI := fun σ H R => ta σ H fun vs H1 => ∃ c1 c2 a b xs ys, vs = [.ref a, .ref b] ∧ SqC c1 K H1 a xs ∧ SqC c2 K H1 b ys ∧ R (ItzM c1 c2 K a b) H1
theorem pi_zipM {X : Cx} {e e2 : Expr} {ta : TA} {p pos tpos : Pos} {elts : List Expr} {kk : Nat} (gw : Gl X "zip") (hm : X.mg "zip" = none) (ha : PA X [e, e2] ta)
    (hs : starEach [e, e2] X.env = (false, eval e X.env) :: starEach [e2] X.env := by rfl) (npl : (backTo pos (starEach [e2] X.env)).any (·.1) = false := by rfl) :
    PI X (.Tuple elts kk tpos) (.Call (.Name "zip" p) [e, e2] [] pos) (iZipM X.K ta) := by
  refine ⟨fun pn s σ H R I h => ?_⟩
  refine Call_ (ld_blt I gw hm PyProof.Rows.boot_zip (PyProof.Rows.callWith_type1 (thn (ha.run pos pn s σ H _ I h) fun us s1 ⟨vs, H1, I1, r1, q1⟩ => ?_) hs npl))
  obtain ⟨c1, c2, a, b, xs, ys, ex, sx, sy, q⟩ := q1
  subst ex
  obtain ⟨u1, u2, eu, ru1, ry⟩ := vals2 r1
  subst eu
  cases ru1
  cases ry
  have five : ∀ c, c ∈ [s1.heap.objs.size + 4, s1.heap.objs.size + 2, s1.heap.objs.size + 3, s1.heap.objs.size, s1.heap.objs.size + 1] → FpOk X pn H1 c := fun c mem => by
    have e' : c = s1.heap.objs.size + 4 ∨ c = s1.heap.objs.size + 2 ∨ c = s1.heap.objs.size + 3 ∨ c = s1.heap.objs.size ∨ c = s1.heap.objs.size + 1 := by simpa using mem
    have leq : s1.heap.objs.size ≤ c := by
      rcases e' with (z | z | z | z | z)
      · rw [z]; exact (by omega)
      · rw [z]; exact (by omega)
      · rw [z]; exact (by omega)
      · rw [z]; exact Nat.le_refl _
      · rw [z]; exact (by omega)
    exact I1.fpOk leq (I1.hok.fresh leq)
  obtain ⟨its, rv, p1, _⟩ := sqC_is I1 sx
  obtain ⟨its2, rv2, p2, _⟩ := sqC_is I1 sy
  have lt1 : a < s1.heap.objs.size := by obtain ⟨o, x⟩ := isS_there p1; exact Heap.lt_size x
  have lt2 : b < s1.heap.objs.size := by obtain ⟨o, x⟩ := isS_there p2; exact Heap.lt_size x
  refine zip_begins2 (begins_s c1 a _) (begins_s c2 b _) p1 p2 fun h' kz kI kO g1 g2 ksz kp => wpAny_pyIter_zip kz ?_
  have I2 : Inv X pn σ H1 { s1 with heap := h' } := I1.kept (t' := s1.toks) kp
  exact ⟨s1.heap.objs.size + 4, [s1.heap.objs.size + 4, s1.heap.objs.size + 2, s1.heap.objs.size + 3, s1.heap.objs.size, s1.heap.objs.size + 1], _, _, H1, rfl, I2,
    turn_zipM (zip_sep2 (fp1 := [a]) (fp2 := [b]) (fun c cm => by rw [List.mem_singleton.mp cm]; exact lt1) (fun c cm => by rw [List.mem_singleton.mp cm]; exact lt2)) (Nat.ne_of_lt lt1) (Nat.ne_of_lt (Nat.lt_succ_of_lt lt2)), ⟨kz, kI, ⟨_, _, kO⟩, isIt_new g1, isIt_new g2⟩, five, q⟩
end Ps
set_option Elab.async false
set_option linter.all false
/-! Pd4u: sorted(d.items()) of a dict by tuples. -/
namespace Pd
open PySem PySem.Spec PyProof.Rows L2 PySem.W
theorem reps_keysT {K : PySem.W.Frag} {M : Ad} {H : Hp} : ∀ k : List Key, Reps K M H (k.map kV) (k.map keyD)
  | [] => .nil
  | .inl i :: k => .cons (.int i) (reps_keysT k)
  | .inr x :: k => .cons (.str x) (reps_keysT k)
theorem items_reps {K : PySem.W.Frag} {M : Ad} {H : Hp} : ∀ {as : List Addr} {kvs : List (List Key × V)} {ds : List D}, as.length = kvs.length → Reps K M H (kvs.map (·.2)) ds →
    (∀ (j : Nat) (b : Addr) (p : List Key × V), as[j]? = some b → kvs[j]? = some p → ∃ q : Addr, H b = some (.tup [.ref q, p.2]) ∧ H q = some (.tup (p.1.map kV))) → Reps K M H (as.map V.ref) (itemsD (kvs.map (·.1)) ds)
  | [], [], ds, _, r, _ => by cases r; exact .nil
  | [], _ :: _, _, h, _, _ => by cases h
  | _ :: _, [], _, h, _, _ => by cases h
  | a :: as, p :: kvs, ds, h, r, g => by
    rw [List.map_cons] at r
    cases r with
    | cons r1 r2 =>
      obtain ⟨q, h1, h2⟩ := g 0 a p rfl rfl
      exact .cons (.tup h1 (.cons (.tup h2 (reps_keysT _)) (.cons r1 .nil))) (items_reps (by simpa using h) r2 fun j b p h1 h2 => g (j + 1) b p (by simpa using h1) (by simpa using h2))
theorem vals_refsU : ∀ as : List Addr, Vals (as.map V.ref) (as.map Value.ref)
  | [] => .nil
  | _ :: as => .cons rfl (vals_refsU as)
section
variable {X : Cx}
def rSit (K : PySem.W.Frag) : List V → Hp → VK → Prop := fun vs H Q => ∃ (p a : Addr) (kvs : List (List Key × V)) (M : Ad) (ds es : List D), vs = [.ref p] ∧ H p = some (L2.DX.itemsO p a) ∧ H a = some (.dT kvs) ∧ (∀ a, M a → Mut (H a)) ∧
  Reps K M H (kvs.map (·.2)) ds ∧ kvs.length ≤ 1000 ∧ sortD false (itemsD (kvs.map (·.1)) ds) = some es ∧ ∀ v M' H', OutR K M H true (.lst es) v M' H' → Q v H'
theorem cr_sit (hc : X.calm = true) (hu : X.A.units + 65 < cLine) : CallR X (.builtin "sorted") (rSit X.K) := by
  intro pins s σ H xs us Q I r h
  obtain ⟨p, a, kvs, M, ds, es, rfl, hp, ha, mt, rr, hl, hs, q⟩ := h
  obtain rfl := Vals.ref1 r
  have view : s.heap.IsItemsView p a := (show ObjOk X.prog X.w H s.heap p (L2.DX.itemsO p a) from I.hok p _ hp).1
  obtain ⟨z, hd, xs', rel, o, ens, ep, ho, hx, hdat, hes, his, hn⟩ := dt_of I.hok ha
  have l1 : kvs.length = xs'.length := Paired.length rel
  have l2 : ens.size = xs'.length := size_of_entries hes
  have hh : X.A.handled = none := I.ok.hd hc
  refine DT.sortedI (es := ens) (ep := ep) hh view ⟨o, ho, hx, hdat⟩ (by rw [sizeLine_eq]; omega) fun h' tk as hk hlt hl' hG => ?_
  have lak : as.length = kvs.length := by omega
  have nd : as.Nodup := List.Pairwise.imp (fun h => Nat.ne_of_lt h) hG.rise
  -- the pairs that were made
  have pr : ∀ (j : Nat) (b : Addr), as[j]? = some b → ∃ (e : List Key × V) (kq : Addr) (x : Value), kvs[j]? = some e ∧ H kq = some (.tup (e.1.map kV)) ∧ RelV e.2 x ∧ h'.get? b = some { cls := .type "tuple", data := .seq #[Value.ref kq, x] } := by
    intro j b hj
    obtain ⟨en, he, hg⟩ := hG.pairs j b hj
    rw [entry_at hes j] at he
    cases hxj : xs'[j]? with
    | none =>
      rw [hxj] at he
      exact nomatch (show (none : Option DictEntry) = some en from he)
    | some x =>
      rw [hxj] at he
      have een : entryOfKey (tupleKind (mixKind X.prog X.w)) x = en := Option.some.inj he
      obtain ⟨e0, he0, r1, r2, r3⟩ := L2.DX.pget rel hxj
      refine ⟨e0, x.2.1, x.2.2, he0, r2, r3, ?_⟩
      rw [hg, ← een]
      all_goals rfl
  have I0 : Inv X pins σ H { s with heap := h', toks := tk } := I.kept (t' := tk) hk
  obtain ⟨H2, I2, g, qt⟩ := L2.DX.takeT (P := fun b vs => ∃ (j : Nat) (e : List Key × V) (kq : Addr), as[j]? = some b ∧ kvs[j]? = some e ∧ vs = [.ref kq, e.2] ∧ H kq = some (.tup (e.1.map kV))) I as _ I0 nd fun b hb => by
    obtain ⟨j, hj⟩ := List.mem_iff_getElem?.mp hb
    obtain ⟨e, kq, x, he, hkq, rx, hg⟩ := pr j b hj
    exact ⟨Nat.le_of_lt (hG.above b hb), I.hok.fresh (Nat.le_of_lt (hG.above b hb)), [.ref kq, e.2], ⟨j, e, kq, hj, he, rfl, hkq⟩, fun H2 => ⟨by show 2 ≤ sizeLine; decide, [.ref kq, x], .cons rfl (.cons rx .nil), ⟨_, hg, rfl, _, rfl⟩⟩⟩
  have mt2 : ∀ b, M b → Mut (H2 b) := fun b m => by
    have h0 := mt b m
    cases e : H b with
    | none => rw [e] at h0; exact h0.elim
    | some u => rw [g b u e, ← e]; exact h0
  have gr : Grow M H M H2 := ⟨g, fun _ m => m, fun _ m => .inl m, mt2⟩
  have rp : Reps X.K M H2 (as.map V.ref) (itemsD (kvs.map (·.1)) ds) := by
    refine items_reps lak (rr.ev (gr.ev (P := fun _ => False) mt)) fun j b p' hj hp' => ?_
    obtain ⟨vs, ⟨j', e, kq, q1, q2, rfl, q4⟩, q5⟩ := qt b (List.mem_of_getElem? hj)
    have ej : j' = j := by
      rcases Nat.lt_trichotomy j' j with z | z | z
      · exact absurd rfl (List.pairwise_iff_getElem.mp nd j' j (List.getElem?_eq_some_iff.mp q1).1 (List.getElem?_eq_some_iff.mp hj).1 z |> fun w => by
          rw [(List.getElem?_eq_some_iff.mp q1).2, (List.getElem?_eq_some_iff.mp hj).2] at w; exact w)
      · exact z
      · exact absurd rfl (List.pairwise_iff_getElem.mp nd j j' (List.getElem?_eq_some_iff.mp hj).1 (List.getElem?_eq_some_iff.mp q1).1 z |> fun w => by
          rw [(List.getElem?_eq_some_iff.mp q1).2, (List.getElem?_eq_some_iff.mp hj).2] at w; exact w)
    subst ej
    obtain rfl : e = p' := Option.some.inj (q2.symm.trans hp')
    exact ⟨kq, q5, g _ _ q4⟩
  generalize hLi : itemsD (kvs.map (fun x => x.fst)) ds = L at rp hs
  obtain ⟨he, hdd, hal, hkk, hL⟩ := sortD_some hs
  have lz : (as.map V.ref).length = L.length := rp.length
  have rv : Vals (as.map V.ref) (as.map Value.ref) := vals_refsU as
  -- the heap of the sort
  have hob : (h'.push { cls := .type "list", data := .seq (as.map Value.ref).toArray }).get? h'.objs.size = some (seqObj "list" (as.map Value.ref).toArray 0) := Heap.get?_push_size _ rfl
  have ka : ∀ b o, h'.get? b = some o → (h'.push { cls := .type "list", data := .seq (as.map Value.ref).toArray }).get? b = some o := fun b o e => Heap.get?_push_of_some _ e
  have ne0 : ∀ b o, h'.get? b = some o → b ≠ h'.objs.size := fun b o e => Nat.ne_of_lt (Heap.lt_size e)
  generalize h'.push { cls := .type "list", data := .seq (as.map Value.ref).toArray } = h2 at hob ka ⊢
  have e1 : EachIs (fun u b => RelV b.1 u ∧ Rep X.K M H2 b.1 b.2) (as.map Value.ref) ((as.map V.ref).zip L) := zip_each rv rp fun x u d a b _ => ⟨a, b⟩
  have e2 : EachIs (fun (v : Value) (b : V × D) => ∃ ads, Reads (sortingHeap h2 h'.objs.size (as.map Value.ref)) v (pyT b.2) ads) (as.map Value.ref) ((as.map V.ref).zip L) :=
    zip_each rv rp fun x u d a b c => by
      obtain ⟨as', r⟩ := Dp.reads I2 (pyT d) x u (b.dp d (hdd d c).1) a
      exact ⟨as', PyProof.Rows.Reads.keeps (fun _ _ e => sortingHeap_old (ne0 _ _ e) (ka _ _ e)) r⟩
  have em : ((as.map V.ref).zip L).map (fun b : V × D => pyT b.2) = L.map pyT := by
    rw [← zip_snd' lz, List.map_map]; simp only [zip_snd' lz]; rfl
  have hal' : AllAlike (((as.map V.ref).zip L).map fun b : V × D => pyT b.2) := by rw [em]; exact hal
  have hkk' : Ps.Sortable2 (((as.map V.ref).zip L).map fun b : V × D => pyT b.2) := by rw [em]; exact hkk
  have hLv : (as.map Value.ref).length ≤ sizeLine := by rw [List.length_map, lak, sizeLine_eq]; omega
  refine wpAny_call_entry PyProof.Rows.slot_list_sort ⟨_, hob, rfl⟩ PyProof.Rows.entry_list_sort ?_ (PyProof.Rows.args_list_sort _)
  refine list_sort_vals (κ := dataKind (sortingHeap h2 h'.objs.size (as.map Value.ref)) (((as.map V.ref).zip L).map fun b : V × D => pyT b.2)) (s := { s with heap := h2, toks := tk }) hob
    (Ps.sortsAt (s := { s with heap := sortingHeap h2 h'.objs.size (as.map Value.ref), toks := tk }) (each_map (R := fun v d => ∃ as', Reads (sortingHeap h2 h'.objs.size (as.map Value.ref)) v d as') (fun b : V × D => pyT b.2) e2) hal' hkk' ?_) hLv ?_
  · rw [em]
    intro d hd'
    obtain ⟨x, hx', rfl⟩ := List.mem_map.mp hd'
    have := (hdd x hx').2
    show X.A.units + 1 + 1 + _ < cLine
    omega
  · have hout := sortVals_data false e1 e2 hal'
    obtain ⟨v1, v2⟩ := each_out hout
    have e3 : (((as.map V.ref).zip L).mergeSort (dataLe false fun b : V × D => pyT b.2)).map (·.2) = es := by rw [sort_map, zip_snd' lz, he]
    rw [e3] at v2
    obtain ⟨eF, heF⟩ := PyProof.Rows.sortedHeap_at (vs := as.map Value.ref) (out := (sortVals (dataKind (sortingHeap h2 h'.objs.size (as.map Value.ref)) (((as.map V.ref).zip L).map fun b : V × D => pyT b.2)) false (as.map Value.ref) (as.map Value.ref)).toArray) hob
    have kS : ∀ b o, h'.get? b = some o → (sortedHeap h2 h'.objs.size (as.map Value.ref) (sortVals (dataKind (sortingHeap h2 h'.objs.size (as.map Value.ref)) (((as.map V.ref).zip L).map fun b : V × D => pyT b.2)) false (as.map Value.ref) (as.map Value.ref)).toArray).get? b = some o := fun b o e => (PyProof.Rows.sortedHeap_old (ne0 _ _ e) (Heap.lt_size (ka _ _ e))).trans (ka _ _ e)
    have np : H2 h'.objs.size = none := I2.hok.fresh (Nat.le_refl _)
    have hlen : ((((as.map V.ref).zip L).mergeSort (dataLe false fun b : V × D => pyT b.2)).map (·.1)).length ≤ sizeLine := by
      rw [List.length_map, List.length_mergeSort, List.length_zip, lz, Nat.min_self]
      exact hL
    refine ⟨.none, rfl, ?_⟩
    refine ⟨.ref _, upd H2 h'.objs.size (.lst ((((as.map V.ref).zip L).mergeSort (dataLe false fun b : V × D => pyT b.2)).map (·.1))), I2.laid (h' := sortedHeap h2 h'.objs.size (as.map Value.ref) _) (t' := tk) kS (Nat.le_refl _) ⟨hlen, _, eF, v1, heF⟩, rfl, q _ (fun b => M b ∨ b = h'.objs.size) _ ?_⟩
    obtain ⟨g2, o2⟩ := OutR.lst (K := X.K) mt2 np v2
    refine ⟨gr.trans g2, ?_⟩
    obtain ⟨a', b1, b2, b3, b4⟩ := o2
    cases b1
    exact ⟨_, rfl, b2, I.hok.fresh (Nat.le_of_lt hlt), b4⟩
end
end Pd
set_option Elab.async false
set_option linter.all false
/-! Pd5: one operand, subscripts, built-ins by values. -/
namespace Pd
open PySem PySem.Spec PyProof.Rows L2
section
variable {X : Cx}
theorem un_neg0 : UnR X (unaryOp .USub) (rUn0 X.K negD) := by
  intro pins s σ H x v Q I rx h
  obtain ⟨M, d, own, r, mt, vx, hf, q⟩ := h
  cases d with
  | int i =>
    have ex := vx.int; subst ex
    obtain ⟨rfl, rfl⟩ : own = false ∧ r = .int (-i) := by injection hf with hf; injection hf with h1 h2; exact ⟨h1.symm, h2.symm⟩
    exact un_neg pins s σ H _ v Q I rx ⟨i, rfl, q _ M H (.pure mt (.int _))⟩
  | _ => cases hf
theorem At.mono {α β : Type} {K : PySem.W.Frag} {XR : XRel} {W : L2.WX} {f : Env → Res (α × Env)} {R : Fx → Ad → Hp → L2.St → Env → α → β → Prop} {F : Fx} {M : Ad} {H : Hp} {σ : L2.St} {ρ : Env} {Q Q' : β → Hp → Prop}
    (h : ∀ v H, Q v H → Q' v H) (x : At K XR W f R F M H σ ρ Q) : At K XR W f R F M H σ ρ Q' := by
  unfold At at x ⊢
  split at x
  · exact fun b M' H' e1 e2 r => h _ _ (x b M' H' e1 e2 r)
  · exact x
  · exact x
theorem Rg.mono {α β : Type} {K : PySem.W.Frag} {XR : XRel} {W : L2.WX} {f : Env → Res (α × Env)} {R : Fx → Ad → Hp → L2.St → Env → α → β → Prop} {σ : L2.St} {H : Hp} {Q Q' : β → Hp → Prop}
    (h : ∀ v H, Q v H → Q' v H) (x : Rg K XR W f R σ H Q) : Rg K XR W f R σ H Q' := by
  obtain ⟨F, M, ρ, er, x⟩ := x
  exact ⟨F, M, ρ, er, x.mono h⟩
/-! ### a[b] -/
theorem atI_rep {K : PySem.W.Frag} {M : Ad} {H : Hp} {xs : List V} {ds : List D} {i : Int} {d : D} (r : Reps K M H xs ds) (h : atI ds i = some d) : ∃ v, atI xs i = some v ∧ Rep K M H v d := by
  unfold atI at h ⊢
  rw [r.length]
  cases e : ixN ds.length i with
  | none => rw [e] at h; cases h
  | some j =>
    rw [e] at h
    exact r.get h
theorem dget_rep {K : PySem.W.Frag} {M : Ad} {H : Hp} {k : Key} : ∀ {kvs : List (Key × V)} {ds : List D} {d : D}, Reps K M H (kvs.map (·.2)) ds → dgetL (.inl k) (kvs.map fun p => Sum.inl p.1) ds = some d → ∃ v, valV kvs k = some v ∧ Rep K M H v d
  | [], ds, d, r, h => by
    cases r
    cases h
  | p :: kvs, ds, d, r, h => by
    cases r with
    | cons r1 r2 =>
      have h' : (if (Sum.inl p.1 : Ky) = .inl k then some _ else dgetL (.inl k) (kvs.map fun p => Sum.inl p.1) _) = some d := h
      by_cases e : p.1 = k
      · rw [if_pos (by rw [e])] at h'
        obtain rfl := Option.some.inj h'
        exact ⟨_, valV_pos e, r1⟩
      · rw [if_neg (fun z => e (Sum.inl.inj z))] at h'
        obtain ⟨v, h1, h2⟩ := dget_rep r2 h'
        exact ⟨v, by rw [valV_neg e]; exact h1, h2⟩
theorem ixV_some {d e r : D} {own : Bool} (h : ixV d e = some (own, r)) : own = false ∧ ixD d e = some r := by
  unfold ixV at h
  obtain ⟨k, e1, e2⟩ := Option.map_eq_some_iff.mp h
  injection e2 with h1 h2
  exact ⟨h1.symm, h2 ▸ e1⟩
theorem toKey_v {K : PySem.W.Frag} {M : Ad} {H : Hp} {y : V} {e : D} {k : Key} (vy : ValR K M H y e) (h : toKey e = some k) : y = kV k := by
  cases e with
  | int i => have ey := vy.int; subst ey; cases h; rfl
  | str i => have ey := vy.str; subst ey; cases h; rfl
  | _ => cases h
/-- what stands in a dict -/
theorem ValR.dct {K : PySem.W.Frag} {M : Ad} {H : Hp} {v : V} {ks : List Ky} {ds : List D} (h : ValR K M H v (.dct ks ds)) : ∃ a, v = .ref a ∧
    ∃ kvs, H a = some (.dK kvs) ∧ ks = kvs.map (fun p => Sum.inl p.1) ∧ Reps K M H (kvs.map (·.2)) ds := by
  rcases h with h | ⟨a, rfl, c⟩
  · cases h with
    | dK n h q r => exact ⟨_, rfl, _, h, q, r⟩
  · cases c with
    | dK h q r => exact ⟨_, rfl, _, h, q, r⟩
/-- a tuple that is a key -/
theorem keys_v {K : PySem.W.Frag} {M : Ad} {H : Hp} : ∀ {xs : List V} {ds : List D} {k : List Key}, Reps K M H xs ds → toKeys ds = some k → xs = k.map kV
  | [], [], _, .nil, h => by cases h; rfl
  | x :: xs, d :: ds, k, .cons r rs, h => by
    unfold toKeys at h
    split at h
    · rename_i a b e1 e2
      cases h
      rw [List.map_cons, toKey_v (.inl r) e1, keys_v rs e2]
    · cases h
theorem dgetG_rep {K : PySem.W.Frag} {M : Ad} {H : Hp} {κ : Type} [DecidableEq κ] {k : κ} {d : D} : ∀ {kvs : List (κ × V)} {ds : List D}, Reps K M H (kvs.map (·.2)) ds → dgetG k (kvs.map (·.1)) ds = some d → ∃ v, valV kvs k = some v ∧ Rep K M H v d
  | [], ds, _, h => by cases ds <;> cases h
  | p :: kvs, [], r, _ => by cases r
  | p :: kvs, d' :: ds, r, h => by
    rw [List.map_cons] at r
    cases r with
    | cons r1 r2 =>
      have h' : (if p.1 = k then some d' else dgetG k (kvs.map (·.1)) ds) = some d := h
      by_cases e : p.1 = k
      · rw [if_pos e] at h'
        cases h'
        exact ⟨_, valV_pos e, r1⟩
      · rw [if_neg e] at h'
        obtain ⟨v, h1, h2⟩ := dgetG_rep r2 h'
        exact ⟨v, by rw [valV_neg e]; exact h1, h2⟩
theorem tailD {prog : Program} {w : World} {A : Around} {E : Value → Shared → Prop} {s : Shared} {value slice : Expr} {T id : String} {o i : Value} {Q : Value → Shared → Prop}
    (hl : typeLookup (.type T) "__getitem__" = pure (some (.builtin id))) (hs : subscripted slice false o i = operate [o, i] (getItem o i)) (hT : s.TypeIs o T) (h₂ : wpAny (model prog w) A (getItem o i) Q E s) :
    wpAny (model prog w) A (subscriptTail value slice o i) Q E s := by
  unfold subscriptTail
  refine wpAny_bind ?_
  rw [getitemInPython_of_ne hT.not_modules]
  refine wpAny_bind (wpAny_specialOf hT hl ?_)
  have fin : wpAny (model prog w) A (subscripted slice false o i) (fun r s₃ => wpAny (model prog w) A (letTemporaryGo value o r >>= fun _ => pure r) Q E s₃) E s := by
    rw [hs]
    exact wpAny_operating (wpAny_mono h₂ (fun r s₃ h₃ => wpAny_bind (wpAny_letTemporaryGo (wpAny_pure h₃))) fun _ _ x => x)
  first
    | exact wpAny_pure (wpAny_bind fin)
    | exact wpAny_bind (wpAny_pure (wpAny_bind fin))
    | exact wpAny_bind fin
theorem ix_all (hu : X.A.units + 1 < cLine) : IxR X (rOp X.K ixV) := by
  intro value slice pins s σ H x y v u Q I rx ry h hs
  obtain ⟨M, d, e, own, r, mt, vx, vy, hf, q⟩ := h (inv_good I)
  obtain ⟨rfl, hk⟩ := ixV_some hf
  have fin : ∀ w, Rep X.K M H w r → Q w H := fun w h => q w M H (.pure mt h)
  cases d with
  | tup ds =>
    cases e with
    | int i =>
      have ey := vy.int; subst ey
      obtain ⟨a, xs, rfl, ha, ra⟩ := vx.tup
      obtain ⟨w, e1, e2⟩ := atI_rep ra hk
      exact ix_tup value slice pins s σ H _ _ v u Q I rx ry ⟨a, xs, i, w, rfl, rfl, ha, e1, fin w e2⟩ hs
    | _ => cases hk
  | lst ds =>
    cases e with
    | int i =>
      have ey := vy.int; subst ey
      obtain ⟨a, xs, rfl, ha, ra⟩ := vx.lst
      obtain ⟨w, e1, e2⟩ := atI_rep ra hk
      exact ix_list value slice pins s σ H _ _ v u Q I rx ry ⟨a, xs, i, w, rfl, rfl, .of ha, e1, fin w e2⟩ hs
    | _ => cases hk
  | scr ns =>
    cases e with
    | int i =>
      have ey := vy.int; subst ey
      obtain ⟨a, rfl, ha⟩ := vx.scr
      obtain ⟨n, e1, rfl⟩ := Option.map_eq_some_iff.mp (show (atI ns i).map D.int = some r from hk)
      refine ix_list value slice pins s σ H _ _ v u Q I rx ry ⟨a, _, i, .int n, rfl, rfl, ha, ?_, fin _ (.int n)⟩ hs
      unfold atI at e1 ⊢
      rw [List.length_map]
      cases z : ixN ns.length i with
      | none => rw [z] at e1; cases e1
      | some j =>
        rw [z] at e1
        show (ns.map V.int)[j]? = some (V.int n)
        rw [List.getElem?_map, show ns[j]? = some n from e1]
        rfl
    | _ => cases hk
  | dct ks ds =>
    obtain ⟨k, e1, e2⟩ := Option.bind_eq_some_iff.mp (show (toKey e).bind (fun k => dgetL (.inl k) ks ds) = some r from hk)
    obtain ⟨a, rfl, c⟩ := vx.dct
    have ey := toKey_v vy e1
    subst ey
    obtain ⟨kvs, ha, hks, rv⟩ := c
    subst hks
    obtain ⟨w, w1, w2⟩ := dget_rep rv e2
    have g : DGet H a (kV k) (some w) := by rw [← w1]; exact .k ha
    cases (show v = Value.ref a from rx)
    exact tailD PySem.F.slot_dict_getitem.lookup hs (dict_typeIs I g) (d_getItem hu I g ry fun w' s3 I3 rw' => ⟨w, H, I3, rw', fin w w2⟩)
  | dtp ks ds =>
    cases e with
    | tup xs =>
      obtain ⟨k, e1, e2⟩ := Option.bind_eq_some_iff.mp (show (toKeys xs).bind (fun k => dgetG k ks ds) = some r from hk)
      obtain ⟨a, o', kvs, rfl, ha, hks, rv⟩ := vx.dtp
      obtain ⟨b, ys, rfl, hb, rb⟩ := vy.tupH
      have ey := keys_v rb e1
      subst ey hks
      obtain ⟨w, w1, w2⟩ := dgetG_rep rv e2
      have g : DGet H a (.ref b) (some w) := by rw [← w1]; exact .inr ⟨kvs, k, b, .inr ⟨o', ha⟩, rfl, hb, rfl⟩
      cases (show v = Value.ref a from rx)
      exact tailD PySem.F.slot_dict_getitem.lookup hs (dict_typeIs I g) (d_getItem hu I g ry fun w' s3 I3 rw' => ⟨w, H, I3, rw', fin w w2⟩)
    | _ => cases hk
  | _ => cases hk
/-! ### isinstance -/
def tyName (t : Ty) : String := match t with
  | .int => "int" | .bool => "bool" | .str => "str" | .tuple => "tuple" | .list => "list" | .dict => "dict" | .none => "NoneType"
def dty : D → Option String
  | .non => some "NoneType" | .bl _ => some "bool" | .int _ => some "int" | .str _ => some "str" | .tup _ => some "tuple"
  | .lst _ => some "list" | .scr _ => some "list" | .dct _ _ => some "dict" | _ => none
theorem kit_all : ∀ (t : Ty), kitB "NoneType" (tyName t) = some (t == .none) ∧ kitB "bool" (tyName t) = some (t == .bool || t == .int) ∧ kitB "int" (tyName t) = some (t == .int) ∧ kitB "str" (tyName t) = some (t == .str) ∧
    kitB "tuple" (tyName t) = some (t == .tuple) ∧ kitB "list" (tyName t) = some (t == .list) ∧ kitB "dict" (tyName t) = some (t == .dict) := by
  intro t
  cases t <;> decide +kernel
theorem isi_kit {d : D} {t : Ty} {b : Bool} (h : isiD d t = some b) : ∃ n, dty d = some n ∧ kitB n (tyName t) = some b := by
  obtain ⟨k1, k2, k3, k4, k5, k6, k7⟩ := kit_all t
  cases d <;> first
    | exact ⟨_, rfl, by first | exact k1.trans h | exact k2.trans h | exact k3.trans h | exact k4.trans h | exact k5.trans h | exact k6.trans h | exact k7.trans h⟩
    | cases h
theorem val_ty {K : PySem.W.Frag} {M : Ad} {H : Hp} {v : V} {d : D} {n : String} (h : ValR K M H v d) (e : dty d = some n) : TyX K H v (.type n) := by
  cases d with
  | non => have := h.non; subst this; cases e; exact .base .non
  | bl b => have := h.bl; subst this; cases e; exact .base (.bl _)
  | int b => have := h.int; subst this; cases e; exact .base (.int _)
  | str b => have := h.str; subst this; cases e; exact .base (.str _)
  | tup ds =>
    obtain ⟨a, xs, rfl, ha, _⟩ := h.tup
    cases e
    rcases ha with (ha | ⟨o, ha⟩) | ⟨o, _, _, ha, c, _⟩
    · exact .base (.tup ha)
    · exact .fTuple ha
    · exact .kTuple ha c
  | lst ds =>
    obtain ⟨a, xs, rfl, ha, _⟩ := h.lst
    cases e
    exact .base (.lst ha)
  | scr ns =>
    obtain ⟨a, rfl, ha⟩ := h.scr
    cases e
    rcases ha with (ha | ⟨o, ha⟩) | ⟨o, _, _, ha, c, _⟩
    · exact .base (.lst ha)
    · exact .base (.frz ha)
    · exact .kList ha c
  | dct ks ds =>
    obtain ⟨a, rfl, kvs, ha, _⟩ := h.dct
    cases e
    exact .base (.dK ha)
  | _ => cases e
theorem isiV_some {t : Ty} {d r : D} {own : Bool} (h : isiV t d = some (own, r)) : ∃ b, own = false ∧ r = .bl b ∧ isiD d t = some b := by
  unfold isiV at h
  obtain ⟨k, e1, e2⟩ := Option.map_eq_some_iff.mp h
  injection e2 with h1 h2
  exact ⟨k, h1.symm, h2.symm, e1⟩
/-- isinstance(a, T) as a call of two -/
def rIsiD (K : PySem.W.Frag) (t : Ty) : List V → Hp → VK → Prop := fun vs H Q => ∃ x, vs = [x, .ty (tyName t)] ∧ rUn0 K (isiV t) x H Q
theorem call_isiD (t : Ty) : CallR X (.builtin "isinstance") (rIsiD X.K t) := by
  intro pins s σ H vs us Q I r h
  obtain ⟨x, rfl, M, d, own, r', mt, vx, hf, q⟩ := h
  obtain ⟨b, rfl, rfl, hi⟩ := isiV_some hf
  obtain ⟨n, e1, e2⟩ := isi_kit hi
  exact call_isi pins s σ H _ us Q I r ⟨x, .ty (tyName t), .type n, .type (tyName t), b, rfl, .ty _, val_ty vx e1, kit_ty e2, q _ M H (.pure mt (.bl _))⟩
/-! ### built-ins -/
theorem reps_ints {K : PySem.W.Frag} {M : Ad} {H : Hp} : ∀ {xs : List V} {ds : List D} {is : List Int}, Reps K M H xs ds → intsD ds = some is → xs = is.map V.int
  | _, [], _, .nil, h => by cases h; rfl
  | _, .int i :: ds, is, .cons h1 r, h => by
    obtain ⟨js, e1, rfl⟩ := Option.map_eq_some_iff.mp (show (intsD ds).map (i :: ·) = some is from h)
    cases h1
    rw [reps_ints r e1]
    rfl
  | _, .non :: _, _, _, h => by cases h
  | _, .bl _ :: _, _, _, h => by cases h
  | _, .str _ :: _, _, _, h => by cases h
  | _, .tup _ :: _, _, _, h => by cases h
  | _, .lst _ :: _, _, _, h => by cases h
  | _, .scr _ :: _, _, _, h => by cases h
  | _, .dct _ _ :: _, _, _, h => by cases h
  | _, .set _ :: _, _, _, h => by cases h
  | _, .obj _ _ _ :: _, _, _, h => by cases h
  | _, .exc _ _ _ :: _, _, _, h => by cases h
  | _, .lam _ _ :: _, _, _, h => by cases h
theorem reps_bls {K : PySem.W.Frag} {M : Ad} {H : Hp} : ∀ {xs : List V} {ds : List D} {is : List Bool}, Reps K M H xs ds → blsD ds = some is → xs = is.map V.bl
  | _, [], _, .nil, h => by cases h; rfl
  | _, .bl i :: ds, is, .cons h1 r, h => by
    obtain ⟨js, e1, rfl⟩ := Option.map_eq_some_iff.mp (show (blsD ds).map (i :: ·) = some is from h)
    cases h1
    rw [reps_bls r e1]
    rfl
  | _, .non :: _, _, _, h => by cases h
  | _, .int _ :: _, _, _, h => by cases h
  | _, .str _ :: _, _, _, h => by cases h
  | _, .tup _ :: _, _, _, h => by cases h
  | _, .lst _ :: _, _, _, h => by cases h
  | _, .scr _ :: _, _, _, h => by cases h
  | _, .dct _ _ :: _, _, _, h => by cases h
  | _, .set _ :: _, _, _, h => by cases h
  | _, .obj _ _ _ :: _, _, _, h => by cases h
  | _, .exc _ _ _ :: _, _, _, h => by cases h
  | _, .lam _ _ :: _, _, _, h => by cases h
/-- the value that stands for a built-in -/
def biVal : Bi → Value
  | .len => .builtin "len" | .abs => .builtin "abs" | .sum => .builtin "sum" | .min => .builtin "min" | .max => .builtin "max" | .sorted => .builtin "sorted"
  | .tuple => .type "tuple" | .list => .type "list" | .int => .type "int" | .bool => .type "bool" | .all => .builtin "all" | .any => .builtin "any" | .isinst => .builtin "isinstance"
  | .str => .type "str" | .repr => .builtin "repr" | .set => .type "set" | .dict => .type "dict" | _ => .builtin "len"
theorem tab_find {α : Type} {l : List (Str × α)} {x : Str} {b : α} (h : (l.find? fun p => decide (p.1 = x)).map (·.2) = some b) : (x, b) ∈ l := by
  obtain ⟨p, e1, rfl⟩ := Option.map_eq_some_iff.mp h
  have e2 := List.find?_some e1
  have e3 : p.1 = x := of_decide_eq_true e2
  subst e3
  exact List.mem_of_find?_eq_some e1
theorem bi_boot {x : Str} {b : Bi} (h : biOf x = some b) : bootBuiltins x = some (biVal b) := by
  have hp := tab_find h
  simp only [biTab, List.mem_cons, List.not_mem_nil, or_false, Prod.mk.injEq] at hp
  rcases hp with hp | hp | hp | hp | hp | hp | hp | hp | hp | hp | hp | hp | hp | hp | hp | hp <;> (obtain ⟨rfl, rfl⟩ := hp; decide +kernel)
theorem ty_boot {x : Str} {t : Ty} (h : tyOf x = some t) : bootBuiltins x = some (.type (tyName t)) := by
  have hp := tab_find h
  simp only [tyTab, List.mem_cons, List.not_mem_nil, or_false, Prod.mk.injEq] at hp
  rcases hp with hp | hp | hp | hp | hp | hp <;> (obtain ⟨rfl, rfl⟩ := hp; decide +kernel)
theorem call_bi (hc : X.calm = true) (hu : X.A.units + 65 < cLine) (hg : X.A.guards = some []) (b : Bi) : CallR X (biVal b) (rCall X.K (biD b)) := by
  intro pins s σ H vs us Q I r h
  have gd := inv_good I
  obtain ⟨M, ds, own, rr, mt, vx, hf, q⟩ := h gd
  unfold biD at hf
  split at hf
  · -- len of a tuple
    obtain ⟨v, rfl, hv⟩ := one_of vx
    obtain ⟨rfl, rfl⟩ := some2 hf
    obtain ⟨a, xs, rfl, ha, ra⟩ := hv.tup
    exact call_len_seq pins s σ H _ us Q I r ⟨a, xs, rfl, .inr ha, by rw [ra.length]; exact q _ M H (.pure mt (.int _))⟩
  · obtain ⟨v, rfl, hv⟩ := one_of vx
    obtain ⟨rfl, rfl⟩ := some2 hf
    obtain ⟨a, xs, rfl, ha, ra⟩ := hv.lst
    exact call_len_seq pins s σ H _ us Q I r ⟨a, xs, rfl, .inl (.of ha), by rw [ra.length]; exact q _ M H (.pure mt (.int _))⟩
  · rename_i ns
    obtain ⟨v, rfl, hv⟩ := one_of vx
    obtain ⟨rfl, rfl⟩ := some2 hf
    obtain ⟨a, rfl, ha⟩ := hv.scr
    exact call_len_seq pins s σ H _ us Q I r ⟨a, _, rfl, .inl ha, by rw [List.length_map]; exact q _ M H (.pure mt (.int _))⟩
  · obtain ⟨v, rfl, hv⟩ := one_of vx
    have := hv.str; subst this
    split at hf
    · rename_i hz
      obtain ⟨rfl, rfl⟩ := some2 hf
      exact call_len_str pins s σ H _ us Q I r ⟨_, rfl, hz, q _ M H (.pure mt (.int _))⟩
    · cases hf
  · rename_i i
    obtain ⟨v, rfl, hv⟩ := one_of vx
    have := hv.int; subst this
    obtain ⟨rfl, rfl⟩ := some2 hf
    refine call_abs pins s σ H _ us Q I r ⟨_, rfl, ?_⟩
    have e : (if i < 0 then -i else i) = (i.natAbs : Int) := by split <;> omega
    rw [e]
    exact q _ M H (.pure mt (.int _))
  · obtain ⟨v, rfl, hv⟩ := one_of vx
    obtain ⟨is, e1, e2⟩ := Option.map_eq_some_iff.mp hf
    obtain ⟨rfl, rfl⟩ := some2 (congrArg some e2)
    obtain ⟨a, xs, rfl, ha, ra⟩ := hv.lst
    rw [reps_ints ra e1] at ha
    exact cr_sum hc pins s σ H _ us Q I r ⟨a, is, rfl, .of ha, q _ M H (.pure mt (.int _))⟩
  · obtain ⟨v, rfl, hv⟩ := one_of vx
    obtain ⟨is, e1, e2⟩ := Option.map_eq_some_iff.mp hf
    obtain ⟨rfl, rfl⟩ := some2 (congrArg some e2)
    obtain ⟨a, xs, rfl, ha, ra⟩ := hv.tup
    rw [reps_ints ra e1] at ha
    exact Ps.cr_sumT hc pins s σ H _ us Q I r ⟨a, is, rfl, ha, q _ M H (.pure mt (.int _))⟩
  · obtain ⟨v, w, rfl, hv, hw⟩ := two_of vx
    have := hv.int; subst this
    have := hw.int; subst this
    obtain ⟨rfl, rfl⟩ := some2 hf
    exact call_min2 hc pins s σ H _ us Q I r ⟨_, _, rfl, q _ M H (.pure mt (.int _))⟩
  · obtain ⟨v, w, rfl, hv, hw⟩ := two_of vx
    have := hv.int; subst this
    have := hw.int; subst this
    obtain ⟨rfl, rfl⟩ := some2 hf
    exact call_max2 hc pins s σ H _ us Q I r ⟨_, _, rfl, q _ M H (.pure mt (.int _))⟩
  · obtain ⟨v, rfl, hv⟩ := one_of vx
    obtain ⟨is, e1, e3⟩ := Option.bind_eq_some_iff.mp hf
    obtain ⟨m0, e4, e2⟩ := Option.map_eq_some_iff.mp e3
    obtain ⟨rfl, rfl⟩ := some2 (congrArg some e2)
    obtain ⟨a, xs, rfl, ha, ra⟩ := hv.lst
    rw [reps_ints ra e1] at ha
    obtain ⟨z1, z2⟩ := minZ_ok e4
    refine cr_min hc pins s σ H _ us Q I r ⟨a, is, rfl, .of ha, List.length_pos_of_mem z1, fun m hm hm2 => ?_⟩
    have : m = m0 := by have := hm2 m0 z1; have := z2 m hm; omega
    subst this
    exact q _ M H (.pure mt (.int _))
  · obtain ⟨v, rfl, hv⟩ := one_of vx
    obtain ⟨is, e1, e3⟩ := Option.bind_eq_some_iff.mp hf
    obtain ⟨m0, e4, e2⟩ := Option.map_eq_some_iff.mp e3
    obtain ⟨rfl, rfl⟩ := some2 (congrArg some e2)
    obtain ⟨a, xs, rfl, ha, ra⟩ := hv.lst
    rw [reps_ints ra e1] at ha
    obtain ⟨z1, z2⟩ := maxZ_ok e4
    refine cr_max hc pins s σ H _ us Q I r ⟨a, is, rfl, .of ha, List.length_pos_of_mem z1, fun m hm hm2 => ?_⟩
    have : m = m0 := by have := hm2 m0 z1; have := z2 m hm; omega
    subst this
    exact q _ M H (.pure mt (.int _))
  · obtain ⟨v, rfl, hv⟩ := one_of vx
    obtain ⟨rfl, rfl⟩ := some2 hf
    obtain ⟨a, xs, rfl, ha, ra⟩ := hv.tupH
    exact call_tuple_of pins s σ H _ us Q I r ⟨a, xs, rfl, .inr ⟨.of ha, q _ M H (.pure mt (.tup ha ra))⟩⟩
  · obtain ⟨v, rfl, hv⟩ := one_of vx
    obtain ⟨rfl, rfl⟩ := some2 hf
    obtain ⟨a, xs, rfl, ha, ra⟩ := hv.lst
    exact call_tuple_of pins s σ H _ us Q I r ⟨a, xs, rfl, .inl ⟨.of ha, fun p np => q _ M _ (.tup mt np ra)⟩⟩
  · obtain ⟨v, rfl, hv⟩ := one_of vx
    obtain ⟨rfl, rfl⟩ := some2 hf
    obtain ⟨a, xs, rfl, ha, ra⟩ := hv.tup
    exact call_list_of pins s σ H _ us Q I r ⟨a, xs, rfl, .inr ha, fun p np => q _ _ _ (.lst mt np ra)⟩
  · obtain ⟨v, rfl, hv⟩ := one_of vx
    obtain ⟨rfl, rfl⟩ := some2 hf
    obtain ⟨a, xs, rfl, ha, ra⟩ := hv.lst
    exact call_list_of pins s σ H _ us Q I r ⟨a, xs, rfl, .inl (.of ha), fun p np => q _ _ _ (.lst mt np ra)⟩
  · obtain ⟨v, rfl, hv⟩ := one_of vx
    have := hv.int; subst this
    obtain ⟨rfl, rfl⟩ := some2 hf
    exact call_int1 pins s σ H _ us Q I r (.inl ⟨_, rfl, q _ M H (.pure mt (.int _))⟩)
  · obtain ⟨v, rfl, hv⟩ := one_of vx
    have := hv.bl; subst this
    obtain ⟨rfl, rfl⟩ := some2 hf
    exact call_int1 pins s σ H _ us Q I r (.inr ⟨_, rfl, q _ M H (.pure mt (.int _))⟩)
  · obtain ⟨v, rfl, hv⟩ := one_of vx
    have := hv.bl; subst this
    obtain ⟨rfl, rfl⟩ := some2 hf
    exact call_bool1 pins s σ H _ us Q I r (.inr ⟨_, rfl, q _ M H (.pure mt (.bl _))⟩)
  · obtain ⟨v, rfl, hv⟩ := one_of vx
    obtain ⟨is, e1, e2⟩ := Option.map_eq_some_iff.mp hf
    obtain ⟨rfl, rfl⟩ := some2 (congrArg some e2)
    obtain ⟨a, xs, rfl, ha, ra⟩ := hv.lst
    rw [reps_bls ra e1] at ha
    exact cr_all hc pins s σ H _ us Q I r ⟨a, is, rfl, .of ha, q _ M H (.pure mt (.bl _))⟩
  · obtain ⟨v, rfl, hv⟩ := one_of vx
    obtain ⟨is, e1, e2⟩ := Option.map_eq_some_iff.mp hf
    obtain ⟨rfl, rfl⟩ := some2 (congrArg some e2)
    obtain ⟨a, xs, rfl, ha, ra⟩ := hv.lst
    rw [reps_bls ra e1] at ha
    exact cr_any hc pins s σ H _ us Q I r ⟨a, is, rfl, .of ha, q _ M H (.pure mt (.bl _))⟩
  · exact call_sorted hu pins s σ H _ us Q I r fun _ => ⟨M, _, own, rr, mt, vx, hf, q⟩
  · obtain ⟨v, rfl, hv⟩ := one_of vx
    unfold reprD at hf
    split at hf
    · rename_i p hp
      split at hf
      · rename_i hc2
        obtain ⟨rfl, rfl⟩ := some2 hf
        simp only [Bool.and_eq_true, decide_eq_true_eq, shp] at hc2
        obtain ⟨h1, ⟨h2, h3⟩, h4⟩ := hc2
        exact Ps.call_reprG hg hu pins s σ H _ us Q I r ⟨v, p, rfl, hv.dp hp, h1, PyData.hasDict_of_canLay p h2, h3, h4, q _ M H (.pure mt (.str _))⟩
      · cases hf
    · cases hf
  · obtain ⟨v, rfl, hv⟩ := one_of vx
    have := hv.int; subst this
    split at hf
    · rename_i hz
      obtain ⟨rfl, rfl⟩ := some2 hf
      exact call_str_int pins s σ H _ us Q I r ⟨_, rfl, hz, q _ M H (.pure mt (.str _))⟩
    · cases hf
  · cases hf
/-! ### slices -/
def rSlD (K : PySem.W.Frag) : V → Option Int → Option Int → Hp → VK → Prop := fun x lo hi H Q => ∃ M d own r, (∀ a, M a → Mut (H a)) ∧ ValR K M H x d ∧ slD d lo hi = some (own, r) ∧ ∀ v M' H', OutR K M H own r v M' H' → Q v H'
theorem cut_reps {K : PySem.W.Frag} {M : Ad} {H : Hp} {xs : List V} {ds : List D} {lo hi : Option Int} (r : Reps K M H xs ds) : Reps K M H (cutV xs lo hi) (cutD ds lo hi) := by
  unfold cutV cutD
  rw [r.length]
  exact (r.drop _).take _
theorem cut_whole {ds : List D} {lo hi : Option Int} (h : HT.sIx ds.length 0 lo = 0 ∧ HT.sIx ds.length ds.length hi = ds.length) : cutD ds lo hi = ds := by
  unfold cutD
  rw [h.1, h.2]
  simp
theorem sl_all : L2.SlR X (rSlD X.K) := by
  intro pins s σ H x v vl vu lo hi sl Q I rx hs pl pu h
  obtain ⟨M, d, own, r, mt, vx, hf, q⟩ := h
  cases d with
  | tup ds =>
    obtain ⟨rfl, rfl⟩ := some2 (show some (false, D.tup (cutD ds lo hi)) = some (own, r) from hf)
    obtain ⟨a, xs, rfl, ha, ra⟩ := vx.tupH
    refine sl_tupA pins s σ H _ v vl vu lo hi sl Q I rx hs pl pu ⟨a, xs, rfl, .of ha, fun z => ?_, fun z p np => ?_⟩
    · rw [ra.length] at z
      rw [cut_whole z] at q
      exact q _ M H (.pure mt (.tup ha ra))
    · exact q _ M _ (.tup mt np (cut_reps ra))
  | lst ds =>
    obtain ⟨rfl, rfl⟩ := some2 (show some (true, D.lst (cutD ds lo hi)) = some (own, r) from hf)
    obtain ⟨a, xs, rfl, ha, ra⟩ := vx.lst
    exact sl_list pins s σ H _ v vl vu lo hi sl Q I rx hs pl pu ⟨a, xs, rfl, .of ha, fun p np => q _ _ _ (.lst mt np (cut_reps ra))⟩
  | _ => cases hf
end
end Pd
set_option Elab.async false
set_option linter.all false
/-! Pd6: slots set, forgotten, lent. -/
namespace Pd
open PySem PySem.Spec PyProof.Rows L2
section
variable {K : PySem.W.Frag} {F : Fx} {M : Ad} {H : Hp} {σ : L2.St} {ρ : Env}
/-- the slots alone: another σ and ρ over the same heap -/
theorem EnvR.re {σ' : L2.St} {ρ' : Env} (e : EnvR K F M H σ ρ) (len : ρ'.length = σ'.length) (sl : ∀ (i : Nat) (s : Sl), ρ'[i]? = some s → SlR K F M H i (atS σ' i) s)
    (ne : ∀ (i j : Nat) (a : Addr), i ≠ j → mineAt ρ' i = true → mineAt ρ' j = true → atS σ' i = some (.ref a) → atS σ' j ≠ some (.ref a)) (lent : ∀ (j : Nat) (a : Addr), F.l j = some a → ∃ d, ρ'[j]? = some (.io d) ∨ ρ'[j]? = some (.le d)) : EnvR K F M H σ' ρ' :=
  ⟨e.mt, e.pm, len, sl, ne, lent⟩
theorem setSl_some {i : Nat} {own : Bool} {d : D} {ρ' : Env} (h : setSl i own d ρ = some ρ') : i < ρ.length ∧ (∀ d', ρ[i]? ≠ some (.io d') ∧ ρ[i]? ≠ some (.le d')) ∧ ρ' = ρ.set i (if own then .ow d else .fr d) := by
  unfold setSl at h
  split at h
  · cases h
  · cases h
  · rename_i s hs hs2 e
    refine ⟨(List.getElem?_eq_some_iff.mp e).1, fun d' => ⟨fun z => ?_, fun z => ?_⟩, (Option.some.inj h).symm⟩
    · rw [e] at z
      exact hs d' (Option.some.inj z)
    · rw [e] at z
      exact hs2 d' (Option.some.inj z)
  · cases h
/-- a slot set -/
theorem EnvR.set {i : Nat} {own : Bool} {d : D} {ρ' : Env} {v : V} (e : EnvR K F M H σ ρ) (h : setSl i own d ρ = some ρ') (r : RvR K F M H σ ρ own v d) : EnvR K F M H (σ.set i (some v)) ρ' := by
  obtain ⟨hi, nio, rfl⟩ := setSl_some h
  have hσ : i < σ.length := by rw [← e.len]; exact hi
  refine e.re (by rw [List.length_set, List.length_set]; exact e.len) (fun j s es => ?_) (fun j k a hjk h1 h2 h3 => ?_) (fun j a hl => ?_)
  · by_cases hj : i = j
    · subst hj
      rw [List.getElem?_set_self hi] at es
      rw [atS_set hσ]
      obtain rfl := Option.some.inj es
      cases own with
      | false => exact ⟨v, rfl, r⟩
      | true =>
        obtain ⟨a, rfl, m, p, _, c⟩ := r
        exact ⟨a, rfl, m, p, c⟩
    · rw [List.getElem?_set_ne hj] at es
      rw [atS_set_ne hj]
      exact e.sl j s es
  · by_cases hj : i = j
    · subst hj
      rw [mineAt_set hi] at h1
      rw [atS_set hσ] at h3
      obtain rfl := Option.some.inj h3
      rw [mineAt_set_ne hjk] at h2
      rw [atS_set_ne hjk]
      cases own with
      | false => cases h1
      | true =>
        obtain ⟨a', e1, m, p, ns, c⟩ := r
        obtain rfl : a = a' := by injection e1
        exact ns k h2
    · rw [mineAt_set_ne hj] at h1
      rw [atS_set_ne hj] at h3
      by_cases hk : i = k
      · subst hk
        rw [mineAt_set hi] at h2
        rw [atS_set hσ]
        intro z
        obtain rfl := Option.some.inj z
        cases own with
        | false => cases h2
        | true =>
          obtain ⟨a', e1, m, p, ns, c⟩ := r
          obtain rfl : a = a' := by injection e1
          exact ns j h1 h3
      · rw [mineAt_set_ne hk] at h2
        rw [atS_set_ne hk]
        exact e.ne j k a hjk h1 h2 h3
  · obtain ⟨d', e2⟩ := e.lent j a hl
    refine ⟨d', ?_⟩
    rw [List.getElem?_set_ne (fun z => by rw [z] at nio; exact e2.elim (nio d').1 (nio d').2)]
    exact e2
/-! ### names forgotten -/
theorem wipeS_length (ρ : Env) : ∀ vs : List Nat, (wipeS ρ vs).length = ρ.length
  | [] => rfl
  | v :: vs => by unfold wipeS; rw [List.length_set, wipeS_length ρ vs]
theorem wipeS_get {ρ : Env} {i : Nat} {s : Sl} : ∀ {vs : List Nat}, (wipeS ρ vs)[i]? = some s → (i ∈ vs ∧ s = .no) ∨ (i ∉ vs ∧ ρ[i]? = some s)
  | [], h => .inr ⟨by simp, h⟩
  | v :: vs, h => by
    unfold wipeS at h
    by_cases hi : v = i
    · subst hi
      by_cases hv : v < (wipeS ρ vs).length
      · rw [List.getElem?_set_self hv] at h
        exact .inl ⟨by simp, (Option.some.inj h).symm⟩
      · rw [List.getElem?_eq_none (by rw [List.length_set]; omega)] at h
        cases h
    · rw [List.getElem?_set_ne hi] at h
      rcases wipeS_get h with ⟨a, b⟩ | ⟨a, b⟩
      · exact .inl ⟨List.mem_cons_of_mem _ a, b⟩
      · exact .inr ⟨fun z => (List.mem_cons.mp z).elim (fun q => hi q.symm) a, b⟩
theorem wipeS_out {ρ : Env} {i : Nat} : ∀ {vs : List Nat}, i ∉ vs → (wipeS ρ vs)[i]? = ρ[i]?
  | [], _ => rfl
  | v :: vs, h => by
    unfold wipeS
    rw [List.getElem?_set_ne (fun z => h (by simp [z])), wipeS_out (fun z => h (List.mem_cons_of_mem _ z))]
theorem atS_wipe {σ : L2.St} {i : Nat} {vs : List Nat} (h : i ∉ vs) : atS (wipe σ vs) i = atS σ i := by unfold atS; rw [wipe_out h]
theorem mineAt_wipe {ρ : Env} {i : Nat} {vs : List Nat} (h : mineAt (wipeS ρ vs) i = true) : i ∉ vs ∧ mineAt ρ i = true := by
  unfold mineAt at h
  split at h
  · rename_i s e
    rcases wipeS_get e with ⟨a, b⟩ | ⟨a, b⟩
    · subst b; cases h
    · exact ⟨a, by unfold mineAt; rw [b]; exact h⟩
  · cases h
theorem EnvR.wipe (e : EnvR K F M H σ ρ) {vs : List Nat} (hl : ∀ j ∈ vs, F.l j = none) : EnvR K F M H (L2.wipe σ vs) (wipeS ρ vs) := by
  refine e.re (by rw [wipeS_length, wipe_length]; exact e.len) (fun i s es => ?_) (fun i j a hij h1 h2 h3 => ?_) (fun j a h => ?_)
  · rcases wipeS_get es with ⟨_, b⟩ | ⟨a, b⟩
    · subst b; trivial
    · rw [atS_wipe a]; exact e.sl i s b
  · obtain ⟨n1, m1⟩ := mineAt_wipe h1
    obtain ⟨n2, m2⟩ := mineAt_wipe h2
    rw [atS_wipe n1] at h3
    rw [atS_wipe n2]
    exact e.ne i j a hij m1 m2 h3
  · have hj : j ∉ vs := fun z => by rw [hl j z] at h; cases h
    rw [wipeS_out hj]
    exact e.lent j a h
theorem wipeOk_at {ρ : Env} {own : List Nat} (h : wipeOk ρ own = true) {i : Nat} (hi : i ∈ own) : ρ[i]? = some .no ∨ ∃ d, ρ[i]? = some (.fr d) := by
  have q := List.all_eq_true.mp h i hi
  split at q
  · rename_i e; exact .inl e
  · rename_i d e; exact .inr ⟨d, e⟩
  · cases q
theorem wipeOk_lent {ρ : Env} {own : List Nat} (e : EnvR K F M H σ ρ) (h : wipeOk ρ own = true) : ∀ j ∈ own, F.l j = none := fun j hj => by
  cases q : F.l j with
  | none => rfl
  | some a =>
    obtain ⟨d, z⟩ := e.lent j a q
    rcases wipeOk_at h hj with w | ⟨d', w⟩
    · rw [w] at z; rcases z with z | z <;> cases z
    · rw [w] at z; rcases z with z | z <;> cases z
theorem backS_length (ρ₀ ρ : Env) : ∀ vs : List Nat, (backS ρ₀ ρ vs).length = ρ.length
  | [] => rfl
  | v :: vs => by unfold backS; rw [List.length_set, backS_length ρ₀ ρ vs]
theorem backS_get {ρ₀ ρ : Env} {i : Nat} {s : Sl} : ∀ {vs : List Nat}, (backS ρ₀ ρ vs)[i]? = some s → (i ∈ vs ∧ s = ρ₀.getD i .no) ∨ (i ∉ vs ∧ ρ[i]? = some s)
  | [], h => .inr ⟨by simp, h⟩
  | v :: vs, h => by
    unfold backS at h
    by_cases hi : v = i
    · subst hi
      by_cases hv : v < (backS ρ₀ ρ vs).length
      · rw [List.getElem?_set_self hv] at h
        exact .inl ⟨by simp, (Option.some.inj h).symm⟩
      · rw [List.getElem?_eq_none (by rw [List.length_set]; omega)] at h
        cases h
    · rw [List.getElem?_set_ne hi] at h
      rcases backS_get h with ⟨a, b⟩ | ⟨a, b⟩
      · exact .inl ⟨List.mem_cons_of_mem _ a, b⟩
      · exact .inr ⟨fun z => (List.mem_cons.mp z).elim (fun q => hi q.symm) a, b⟩
theorem backS_out {ρ₀ ρ : Env} {i : Nat} : ∀ {vs : List Nat}, i ∉ vs → (backS ρ₀ ρ vs)[i]? = ρ[i]?
  | [], _ => rfl
  | v :: vs, h => by
    unfold backS
    rw [List.getElem?_set_ne (fun z => h (by simp [z])), backS_out (fun z => h (List.mem_cons_of_mem _ z))]
/-- behind a comprehension: its own names as they stood -/
theorem EnvR.back {M1 : Ad} {H1 : Hp} {ρ1 : Env} {own : List Nat} (e : EnvR K F M H (L2.wipe σ own) (wipeS ρ own)) (e1 : EnvR K F M1 H1 σ ρ1) {P : Ad} (ev : Ev P M1 H1 M H) (h : wipeOk ρ1 own = true) : EnvR K F M H σ (backS ρ1 ρ own) := by
  have hlen : ρ.length = σ.length := by have := e.len; rwa [wipeS_length, wipe_length] at this
  have mine : ∀ i, mineAt (backS ρ1 ρ own) i = true → i ∉ own ∧ mineAt (wipeS ρ own) i = true := fun i hm => by
    unfold mineAt at hm
    split at hm
    · rename_i s es
      rcases backS_get es with ⟨a, b⟩ | ⟨a, b⟩
      · subst b
        rw [List.getD_eq_getElem?_getD] at hm
        rcases wipeOk_at h a with w | ⟨d, w⟩
        · rw [w] at hm; cases hm
        · rw [w] at hm; cases hm
      · exact ⟨a, by unfold mineAt; rw [wipeS_out a, b]; exact hm⟩
    · cases hm
  refine e.re (by rw [backS_length]; exact hlen) (fun i s es => ?_) (fun i j a hij h1 h2 h3 => ?_) (fun j a hl => ?_)
  · rcases backS_get es with ⟨a, b⟩ | ⟨a, b⟩
    · subst b
      rw [List.getD_eq_getElem?_getD]
      rcases wipeOk_at h a with w | ⟨d, w⟩
      · rw [w]; trivial
      · rw [w]
        obtain ⟨v, q1, q2⟩ := e1.sl i _ w
        exact ⟨v, q1, q2.ev ev⟩
    · have := e.sl i s (by rw [wipeS_out a]; exact b)
      rwa [atS_wipe a] at this
  · obtain ⟨n1, m1⟩ := mine i h1
    obtain ⟨n2, m2⟩ := mine j h2
    have := e.ne i j a hij m1 m2 (by rw [atS_wipe n1]; exact h3)
    rwa [atS_wipe n2] at this
  · have hj : j ∉ own := fun z => by rw [wipeOk_lent e1 h j z] at hl; cases hl
    rw [backS_out hj]
    have := e.lent j a hl
    rwa [wipeS_out hj] at this
/-! ### names lent -/
/-- the addresses that are lent -/
def LentA (σ : L2.St) (ρ : Env) (ls : List Nat) : Ad := fun a => ∃ i ∈ ls, ∃ d, ρ[i]? = some (.ow d) ∧ atS σ i = some (.ref a)
/-- the frame's view in the loop -/
def Fx.lend (F : Fx) (σ : L2.St) (ρ : Env) (ls : List Nat) : Fx where
  p := F.p
  x := fun a => F.x a ∨ LentA σ ρ ls a
  l := fun j => if j ∈ ls then (match ρ[j]?, atS σ j with
    | some (.ow _), some (.ref a) => some a
    | _, _ => F.l j) else F.l j
theorem lend_length (ρ : Env) (i : Nat) : (lend ρ i).length = ρ.length := by
  unfold lend
  split
  · rw [List.length_set]
  · rfl
theorem lends_length (ρ : Env) : ∀ ls : List Nat, (lends ρ ls).length = ρ.length
  | [] => rfl
  | i :: is => by unfold lends; rw [lend_length, lends_length ρ is]
/-- what a lent slot looks like -/
def lentS : Option Sl → Option Sl
  | some (.ow d) => some (.le d)
  | s => s
theorem lend_get {ρ : Env} {i j : Nat} : (lend ρ i)[j]? = if i = j then lentS ρ[i]? else ρ[j]? := by
  unfold lend
  by_cases h : i = j
  · subst h
    rw [if_pos rfl]
    cases e : ρ[i]? with
    | none => exact e
    | some s =>
      cases s with
      | ow d => exact List.getElem?_set_self ((List.getElem?_eq_some_iff.mp e).1)
      | _ => exact e
  · rw [if_neg h]
    split
    · rw [List.getElem?_set_ne h]
    · rfl
theorem lends_get {ρ : Env} {j : Nat} : ∀ {ls : List Nat}, (lends ρ ls)[j]? = if j ∈ ls then lentS ρ[j]? else ρ[j]?
  | [] => by rw [if_neg (by simp)] <;> rfl
  | i :: is => by
    unfold lends
    rw [lend_get]
    by_cases h : i = j
    · subst h
      rw [if_pos rfl, if_pos (by simp), lends_get (ls := is)]
      by_cases h2 : i ∈ is
      · rw [if_pos h2]
        cases e : ρ[i]? with
        | none => rfl
        | some s => cases s <;> rfl
      · rw [if_neg h2]
    · rw [if_neg h, lends_get (ls := is)]
      by_cases h2 : j ∈ is
      · rw [if_pos h2, if_pos (List.mem_cons_of_mem _ h2)]
      · rw [if_neg h2, if_neg (fun z => (List.mem_cons.mp z).elim (fun q => h q.symm) h2)]
theorem lsOk_at {ρ : Env} {ls : List Nat} (h : lsOk ρ ls = true) {i : Nat} (hi : i ∈ ls) (d : D) : ρ[i]? ≠ some (.io d) := fun z => by
  have q := List.all_eq_true.mp h i hi
  rw [z] at q
  cases q
theorem mineAt_lends {ρ : Env} {ls : List Nat} (hls : lsOk ρ ls = true) {i : Nat} (h : mineAt (lends ρ ls) i = true) : i ∉ ls ∧ mineAt ρ i = true := by
  unfold mineAt at h
  rw [lends_get] at h
  by_cases hi : i ∈ ls
  · rw [if_pos hi] at h
    cases e : ρ[i]? with
    | none => rw [e] at h; cases h
    | some s =>
      rw [e] at h
      cases s with
      | io d => exact absurd e (lsOk_at hls hi d)
      | _ => cases h
  · rw [if_neg hi] at h
    exact ⟨hi, h⟩
theorem lendL_ow {i : Nat} {ls : List Nat} {d : D} {a : Addr} (hi : i ∈ ls) (e : ρ[i]? = some (.ow d)) (ha : atS σ i = some (.ref a)) : (F.lend σ ρ ls).l i = some a := by
  show (if i ∈ ls then _ else _) = _
  rw [if_pos hi, e, ha]
theorem lendL_not {i : Nat} {ls : List Nat} (h : ∀ d, ρ[i]? ≠ some (.ow d)) : (F.lend σ ρ ls).l i = F.l i := by
  show (if i ∈ ls then _ else _) = _
  by_cases hi : i ∈ ls
  · rw [if_pos hi]
    split
    · rename_i d a e _; exact absurd e (h d)
    · rfl
  · rw [if_neg hi]
theorem lendL_out {i : Nat} {ls : List Nat} (h : i ∉ ls) : (F.lend σ ρ ls).l i = F.l i := by
  show (if i ∈ ls then _ else _) = _
  rw [if_neg h]
theorem EnvR.lends (e : EnvR K F M H σ ρ) {ls : List Nat} (hls : lsOk ρ ls = true) : EnvR K (F.lend σ ρ ls) M H σ (Pd.lends ρ ls) where
  mt := e.mt
  pm := fun a h => by
    rcases h with h | h | ⟨i, _, d, e1, e2⟩
    · exact e.pm a (.inl h)
    · exact e.pm a (.inr h)
    · obtain ⟨b, q1, m, _⟩ := e.sl i _ e1
      rw [e2] at q1
      obtain rfl : a = b := by injection q1 with q1; injection q1
      exact m
  len := by rw [lends_length]; exact e.len
  sl := fun i s es => by
    rw [lends_get] at es
    have np : ∀ a, mineAt ρ i = true → i ∉ ls → atS σ i = some (.ref a) → ¬ F.k a → ¬ (F.lend σ ρ ls).k a := fun a hm hn ha hp z => by
      rcases z with z | z | ⟨j, hj, d, e1, e2⟩
      · exact hp (.inl z)
      · exact hp (.inr z)
      · exact e.ne i j a (fun q => hn (q ▸ hj)) hm (by unfold mineAt; rw [e1]; rfl) ha e2
    by_cases hi : i ∈ ls
    · rw [if_pos hi] at es
      cases q : ρ[i]? with
      | none => rw [q] at es; cases es
      | some s0 =>
        have qs := e.sl i s0 q
        rw [q] at es
        cases s0 with
        | no => cases es; trivial
        | fr d => cases es; exact qs
        | bo d => cases es; exact qs
        | ow d =>
          cases es
          obtain ⟨a, e1, m, p, c⟩ := qs
          exact ⟨a, e1, m, .inr ⟨i, hi, d, q, e1⟩, lendL_ow hi q e1, c⟩
        | io d => exact absurd q (lsOk_at hls hi d)
        | le d =>
          cases es
          obtain ⟨a, e1, m, p, l, c⟩ := qs
          exact ⟨a, e1, m, .inl p, by rw [lendL_not (fun d' z => by rw [q] at z; cases z)]; exact l, c⟩
    · rw [if_neg hi] at es
      have qs := e.sl i s es
      cases s with
      | no => trivial
      | fr d => exact qs
      | bo d => exact qs
      | ow d =>
        obtain ⟨a, e1, m, p, c⟩ := qs
        exact ⟨a, e1, m, np a (by unfold mineAt; rw [es]; rfl) hi e1 p, c⟩
      | io d =>
        obtain ⟨a, e1, m, p, l, c⟩ := qs
        exact ⟨a, e1, m, np a (by unfold mineAt; rw [es]; rfl) hi e1 p, by rw [lendL_out hi]; exact l, c⟩
      | le d =>
        obtain ⟨a, e1, m, p, l, c⟩ := qs
        exact ⟨a, e1, m, .inl p, by rw [lendL_out hi]; exact l, c⟩
  ne := fun i j a hij h1 h2 => e.ne i j a hij (mineAt_lends hls h1).2 (mineAt_lends hls h2).2
  lent := fun j a h => by
    rw [lends_get]
    by_cases hj : j ∈ ls
    · rw [if_pos hj]
      cases q : ρ[j]? with
      | none =>
        rw [lendL_not (fun d z => by rw [q] at z; cases z)] at h
        obtain ⟨d, e1⟩ := e.lent j a h
        rw [q] at e1
        rcases e1 with e1 | e1 <;> cases e1
      | some s =>
        cases s with
        | ow d => exact ⟨d, .inr rfl⟩
        | _ =>
          rw [lendL_not (fun d z => by rw [q] at z; cases z)] at h
          have := e.lent j a h
          rw [q] at this
          exact this
    · rw [if_neg hj]
      rw [lendL_out hj] at h
      exact e.lent j a h
theorem unlend_length (ρ₀ ρ : Env) : ∀ ls : List Nat, (unlend ρ₀ ρ ls).length = ρ.length
  | [] => rfl
  | i :: is => by
    unfold unlend
    split
    · rw [List.length_set, unlend_length ρ₀ ρ is]
    · exact unlend_length ρ₀ ρ is
def backSl (s₀ s : Option Sl) : Option Sl := match s₀ with
  | some (.ow d) => some (.ow d)
  | _ => s
theorem unlend_get {ρ₀ ρ : Env} {j : Nat} (hl : ρ₀.length = ρ.length) : ∀ {ls : List Nat}, (unlend ρ₀ ρ ls)[j]? = if j ∈ ls then backSl ρ₀[j]? ρ[j]? else ρ[j]?
  | [] => by rw [if_neg (by simp)] <;> rfl
  | i :: is => by
    unfold unlend
    by_cases h : i = j
    · subst h
      rw [if_pos (by simp)]
      have ih := unlend_get (j := i) hl (ls := is)
      cases e : ρ₀[i]? with
      | none =>
        show (unlend ρ₀ ρ is)[i]? = ρ[i]?
        rw [ih, e]
        split <;> rfl
      | some s =>
        cases s with
        | ow d =>
          show ((unlend ρ₀ ρ is).set i (.ow d))[i]? = some (.ow d)
          rw [List.getElem?_set_self (by rw [unlend_length, ← hl]; exact (List.getElem?_eq_some_iff.mp e).1)]
        | _ =>
          show (unlend ρ₀ ρ is)[i]? = ρ[i]?
          rw [ih, e]
          split <;> rfl
    · have go : (unlend ρ₀ ρ is)[j]? = if j ∈ i :: is then backSl ρ₀[j]? ρ[j]? else ρ[j]? := by
        rw [unlend_get hl]
        by_cases h2 : j ∈ is
        · rw [if_pos h2, if_pos (List.mem_cons_of_mem _ h2)]
        · rw [if_neg h2, if_neg (fun z => (List.mem_cons.mp z).elim (fun q => h q.symm) h2)]
      split
      · rw [List.getElem?_set_ne h]; exact go
      · exact go
/-- given back -/
theorem EnvR.unlend {M1 : Ad} {H1 : Hp} {σ' : L2.St} {ρ1 : Env} {ls : List Nat} (e1 : EnvR K F M1 H1 σ ρ1) (hls : lsOk ρ1 ls = true) (e : EnvR K (F.lend σ ρ1 ls) M H σ' ρ) {P : Ad} (hP : ∀ a, LentA σ ρ1 ls a → P a) (ev : Ev P M1 H1 M H)
    (hl : σ'.length = σ.length) : EnvR K F M H σ' (Pd.unlend ρ1 ρ ls) := by
  have hlen : ρ1.length = ρ.length := by rw [e1.len, e.len]; exact hl.symm
  have get := fun j => unlend_get (ls := ls) (j := j) hlen
  -- a lent slot stands where it stood
  have back : ∀ i d, i ∈ ls → ρ1[i]? = some (.ow d) → ∃ a, atS σ' i = some (.ref a) ∧ atS σ i = some (.ref a) ∧ M a ∧ ¬ F.k a ∧ LentA σ ρ1 ls a ∧ Con K M H a d := fun i d hi q => by
    obtain ⟨a, q1, m, p, c⟩ := e1.sl i _ q
    have la : LentA σ ρ1 ls a := ⟨i, hi, d, q, q1⟩
    obtain ⟨k, m'⟩ := ev.prot a (hP a la) m
    have hL : (F.lend σ ρ1 ls).l i = some a := lendL_ow hi q q1
    obtain ⟨d', z⟩ := e.lent i a hL
    have hs : atS σ' i = some (.ref a) := by
      rcases z with z | z
      · obtain ⟨b, b1, _, _, b2, _⟩ := e.sl i _ z
        rw [hL] at b2
        rw [b1, Option.some.inj b2]
      · obtain ⟨b, b1, _, _, b2, _⟩ := e.sl i _ z
        rw [hL] at b2
        rw [b1, Option.some.inj b2]
    exact ⟨a, hs, q1, m', p, la, c.ev ev k⟩
  have outL : ∀ i, (¬ ∃ d, i ∈ ls ∧ ρ1[i]? = some (.ow d)) → (F.lend σ ρ1 ls).l i = F.l i := fun i z => by
    by_cases hi : i ∈ ls
    · exact lendL_not fun d q => z ⟨d, hi, q⟩
    · exact lendL_out hi
  have notb : ∀ i, (¬ ∃ d, i ∈ ls ∧ ρ1[i]? = some (.ow d)) → (Pd.unlend ρ1 ρ ls)[i]? = ρ[i]? := fun i z => by
    rw [get]
    by_cases hi : i ∈ ls
    · rw [if_pos hi]
      cases q : ρ1[i]? with
      | none => rfl
      | some s0 =>
        cases s0 with
        | ow d => exact absurd ⟨d, hi, q⟩ z
        | _ => rfl
    · rw [if_neg hi]
  have own : ∀ i, mineAt (Pd.unlend ρ1 ρ ls) i = true → (∃ d, i ∈ ls ∧ ρ1[i]? = some (.ow d)) ∨ mineAt ρ i = true := fun i hm => by
    by_cases z : ∃ d, i ∈ ls ∧ ρ1[i]? = some (.ow d)
    · exact .inl z
    · refine .inr ?_
      unfold mineAt at hm ⊢
      rw [notb i z] at hm
      exact hm
  refine ⟨e.mt, fun a p => e.pm a (p.imp id .inl), by rw [unlend_length]; exact e.len, fun i s es => ?_, fun i j a hij h1 h2 h3 => ?_, fun j a h => ?_⟩
  · by_cases z : ∃ d, i ∈ ls ∧ ρ1[i]? = some (.ow d)
    · obtain ⟨d, hi, q⟩ := z
      rw [get, if_pos hi, q] at es
      obtain rfl := Option.some.inj es
      obtain ⟨a, b1, _, b2, b3, _, b4⟩ := back i d hi q
      exact ⟨a, b1, b2, b3, b4⟩
    · rw [notb i z] at es
      have qs := e.sl i s es
      have oL := outL i z
      cases s with
      | no => trivial
      | fr d => exact qs
      | bo d => exact qs
      | ow d =>
        obtain ⟨a, q1, m, p, c⟩ := qs
        exact ⟨a, q1, m, fun z => p (z.imp id .inl), c⟩
      | io d =>
        obtain ⟨a, q1, m, p, l, c⟩ := qs
        exact ⟨a, q1, m, fun z => p (z.imp id .inl), oL ▸ l, c⟩
      | le d =>
        obtain ⟨a, q1, m, p, l, c⟩ := qs
        rw [oL] at l
        refine ⟨a, q1, m, ?_, l, c⟩
        rcases p with p | ⟨j, hj, dj, w1, w2⟩
        · exact p
        · obtain ⟨d1, w3⟩ := e1.lent i a l
          rcases w3 with w3 | w3
          · obtain ⟨b, b1, _, _, b2, _⟩ := e1.sl i _ w3
            rw [l] at b2
            obtain rfl := Option.some.inj b2
            exact (e1.ne i j a (fun q => by rw [q] at w3; rw [w1] at w3; cases w3) (by unfold mineAt; rw [w3]; rfl) (by unfold mineAt; rw [w1]; rfl) b1 w2).elim
          · obtain ⟨b, b1, _, b3, b2, _⟩ := e1.sl i _ w3
            rw [l] at b2
            obtain rfl := Option.some.inj b2
            exact b3
  · have no : ∀ k d, k ∈ ls → ρ1[k]? = some (.ow d) → ∀ l, mineAt ρ l = true → atS σ' l = some (.ref a) → atS σ' k ≠ some (.ref a) := fun k d hk q l hm hl z => by
      obtain ⟨b, b1, _, _, _, la, _⟩ := back k d hk q
      rw [z] at b1
      obtain rfl : a = b := by injection b1 with b1; injection b1
      obtain ⟨b', _, c1, _, c2, _⟩ := e.mineC hm
      rw [hl] at c1
      obtain rfl : a = b' := by injection c1 with c1; injection c1
      exact c2 (.inr (.inr la))
    rcases own i h1 with ⟨d, hi, q⟩ | m1
    · rcases own j h2 with ⟨d', hj, q'⟩ | m2
      · obtain ⟨b, b1, b2, _⟩ := back i d hi q
        obtain ⟨b', c1, c2, _⟩ := back j d' hj q'
        rw [h3] at b1
        obtain rfl : a = b := by injection b1 with b1; injection b1
        intro z
        rw [z] at c1
        obtain rfl : a = b' := by injection c1 with c1; injection c1
        exact e1.ne i j a hij (by unfold mineAt; rw [q]; rfl) (by unfold mineAt; rw [q']; rfl) b2 c2
      · exact fun z => no i d hi q j m2 z h3
    · rcases own j h2 with ⟨d', hj, q'⟩ | m2
      · exact fun z => no j d' hj q' i m1 h3 z
      · exact e.ne i j a hij m1 m2 h3
  · obtain ⟨d1, w⟩ := e1.lent j a h
    have z : ¬ ∃ d, j ∈ ls ∧ ρ1[j]? = some (.ow d) := fun ⟨d, _, q⟩ => by
      rw [q] at w
      rcases w with w | w <;> cases w
    rw [notb j z]
    exact e.lent j a (by rw [outL j z]; exact h)
/-! ### a thing that is kept beside the slots -/
def Fx.guard (F : Fx) (D : Addr) : Fx := ⟨F.p, fun a => F.x a ∨ a = D, F.l⟩
theorem EnvR.guard (e : EnvR K F M H σ ρ) {D : Addr} (m : M D) (ns : ∀ i, mineAt ρ i = true → atS σ i ≠ some (.ref D)) : EnvR K (F.guard D) M H σ ρ where
  mt := e.mt
  pm := fun a h => by
    rcases h with h | h | h
    · exact e.pm a (.inl h)
    · exact e.pm a (.inr h)
    · exact h ▸ m
  len := e.len
  sl := fun i s es => by
    have qs := e.sl i s es
    have np : ∀ a, mineAt ρ i = true → atS σ i = some (.ref a) → ¬ F.k a → ¬ (F.guard D).k a := fun a hm ha hp z => by
      rcases z with z | z | z
      · exact hp (.inl z)
      · exact hp (.inr z)
      · exact ns i hm (z ▸ ha)
    cases s with
    | no => trivial
    | fr d => exact qs
    | bo d => exact qs
    | ow d =>
      obtain ⟨a, e1, m, p, c⟩ := qs
      exact ⟨a, e1, m, np a (by unfold mineAt; rw [es]; rfl) e1 p, c⟩
    | io d =>
      obtain ⟨a, e1, m, p, l, c⟩ := qs
      exact ⟨a, e1, m, np a (by unfold mineAt; rw [es]; rfl) e1 p, l, c⟩
    | le d =>
      obtain ⟨a, e1, m, p, l, c⟩ := qs
      exact ⟨a, e1, m, .inl p, l, c⟩
  ne := e.ne
  lent := e.lent
theorem EnvR.unguard {D : Addr} (e : EnvR K (F.guard D) M H σ ρ) (hD : ∀ i, F.l i ≠ some D) : EnvR K F M H σ ρ ∧ ∀ i, mineAt ρ i = true → atS σ i ≠ some (.ref D) := by
  refine ⟨⟨e.mt, fun a h => e.pm a (h.imp id .inl), e.len, fun i s es => ?_, e.ne, e.lent⟩, fun i hm z => ?_⟩
  · have qs := e.sl i s es
    cases s with
    | no => trivial
    | fr d => exact qs
    | bo d => exact qs
    | ow d =>
      obtain ⟨a, e1, m, p, c⟩ := qs
      exact ⟨a, e1, m, fun z => p (z.imp id .inl), c⟩
    | io d =>
      obtain ⟨a, e1, m, p, l, c⟩ := qs
      exact ⟨a, e1, m, fun z => p (z.imp id .inl), l, c⟩
    | le d =>
      obtain ⟨a, e1, m, p, l, c⟩ := qs
      refine ⟨a, e1, m, p.resolve_right fun z => hD i (z ▸ l), l, c⟩
  · obtain ⟨a, d, e1, _, p, _⟩ := e.mineC hm
    rw [z] at e1
    obtain rfl : D = a := by injection e1 with e1; injection e1
    exact p (.inr (.inr rfl))
/-- the thing beside is written -/
theorem EnvR.writeG {D : Addr} {o : HO} (e : EnvR K F M H σ ρ) (m : M D) (hx : F.x D) (hp : ¬ F.p D) (hD : ∀ i, F.l i ≠ some D) (ho : Mut (some o)) : EnvR K F M (upd H D o) σ ρ ∧ ∀ P : Ad, ¬ P D → Ev P M H M (upd H D o) := by
  have hne : ∀ a, H a ≠ none → upd H D o a ≠ none := fun a h => by
    by_cases z : a = D
    · rw [z, upd_same]; simp
    · rw [upd_ne z]; exact h
  have ev : ∀ P : Ad, ¬ P D → Ev P M H M (upd H D o) := fun P hP =>
    ⟨e.mt, hne, fun a u h n => by rw [upd_ne (fun z => n (by rw [z]; exact m))]; exact h, fun _ h => .inl h, fun a p ma => ⟨upd_ne (fun z => hP (z ▸ p)), ma⟩⟩
  have e0 := ev (fun _ => False) (fun z => z)
  refine ⟨⟨fun a h => ?_, e.pm, e.len, fun i s es => ?_, e.ne, e.lent⟩, ev⟩
  · by_cases z : a = D
    · rw [z, upd_same]; exact ho
    · rw [upd_ne z]; exact e.mt a h
  · have qs := e.sl i s es
    cases s with
    | no => trivial
    | fr d =>
      obtain ⟨v, e1, r⟩ := qs
      exact ⟨v, e1, r.ev e0⟩
    | bo d =>
      obtain ⟨v, e1, r⟩ := qs
      refine ⟨v, e1, r.imp (fun r => r.ev e0) fun ⟨a, h1, h2, h3, h4⟩ => ⟨a, h1, h2, h3, h4.ev e0 (upd_ne fun z => hp (z ▸ h2))⟩⟩
    | ow d =>
      obtain ⟨a, e1, m, p, c⟩ := qs
      exact ⟨a, e1, m, p, c.ev e0 (upd_ne fun z => p (.inr (z ▸ hx)))⟩
    | io d =>
      obtain ⟨a, e1, m, p, l, c⟩ := qs
      exact ⟨a, e1, m, p, l, c.ev e0 (upd_ne fun z => p (.inr (z ▸ hx)))⟩
    | le d =>
      obtain ⟨a, e1, m, p, l, c⟩ := qs
      exact ⟨a, e1, m, p, l, c.ev e0 (upd_ne fun z => hD i (z ▸ l))⟩
end
end Pd
set_option Elab.async false
set_option linter.all false
/-! Pd7: targets, what is walked, comprehensions. -/
namespace Pd
open PySem PySem.Spec PyProof.Rows L2
/-! ### targets -/
section
variable {X : Cx}
/-- a row of values to a row of names -/
def rTs (K : PySem.W.Frag) (is : List Nat) : TGs := fun vs σ H Q => ∃ F M ds ρ ρ', EnvR K F M H σ ρ ∧ Reps K M H vs ds ∧ bindT is ds ρ = some ρ' ∧
  ∀ σ', EnvR K F M H σ' ρ' → (∀ j, j ∉ is → atS σ' j = atS σ j) → σ'.length = σ.length → Q σ' H
def rT (K : PySem.W.Frag) (is : List Nat) (one : Bool) : TG := fun x σ H Q => ∃ F M d ρ ρ', EnvR K F M H σ ρ ∧ Rep K M H x d ∧ bindI is one d ρ = some ρ' ∧
  ∀ σ', EnvR K F M H σ' ρ' → (∀ j, j ∉ is → atS σ' j = atS σ j) → σ'.length = σ.length → Q σ' H
theorem idxOf_some {N : List Str} {x : Str} {i : Nat} (h : N.idxOf? x = some i) : N[i]? = some x := by
  rw [List.idxOf?_eq_some_iff] at h
  obtain ⟨hi, e, _⟩ := h
  rw [List.getElem?_eq_getElem hi]
  simpa using e
theorem slotS_some {N : List Str} {sc : Scope} {x : Str} {i : Nat} (h : slotS N sc x = some i) : N[i]? = some x ∧ Loc sc x := by
  unfold slotS at h
  split at h
  · rename_i e; exact ⟨idxOf_some h, .inl e⟩
  · rename_i e; exact ⟨idxOf_some h, .inr e⟩
  · cases h
abbrev FnOn (X : Cx) (is : List Nat) : Prop := ∀ i ∈ is, ∀ x, X.N[i]? = some x → X.fn x = true ∨ X.env.scope.names.lookup x = some .local
theorem simTs {es : List Expr} {is : List Nat} (hN : X.N.Nodup) (h : trTs X.N X.env.scope es = some is) (hf : FnOn X is) :
    PGs X es (rTs X.K is) ∧ (assignEach es X.env).length = is.length ∧ (assignEach es X.env).findIdx? (·.1) = none := by
  induction es generalizing is with
  | nil =>
    cases h
    refine ⟨⟨fun pins s σ H vs us Q I r hw => ?_⟩, rfl, rfl⟩
    obtain ⟨F, M, ds, ρ, ρ', er, rr, hb, q⟩ := hw
    refine (pgs_nil (X := X)).run pins s σ H vs us Q I r ⟨?_, ?_⟩
    · cases ds with
      | nil => cases rr; rfl
      | cons d ds => cases hb
    · cases ds with
      | nil =>
        cases hb
        exact q σ er (fun _ _ => rfl) rfl
      | cons d ds => cases hb
  | cons e es ih =>
    cases e with
    | Name x pos =>
      unfold trTs at h
      split at h
      · rename_i i is' h1 h2
        cases h
        obtain ⟨hx, hl⟩ := slotS_some h1
        obtain ⟨p1, p2, p3⟩ := ih h2 (fun j hj => hf j (List.mem_cons_of_mem _ hj))
        refine ⟨⟨fun pins s σ H vs us Q I r hw => ?_⟩, ?_, ?_⟩
        · obtain ⟨F, M, ds, ρ, ρ', er, rr, hb, q⟩ := hw
          refine (pgs_cons (pg_name hN hx hl (hf i (by simp) x hx)) p1 rfl).run pins s σ H vs us Q I r ?_
          cases ds with
          | nil => cases hb
          | cons d ds =>
            cases rr with
            | cons r1 r2 =>
              rename_i v vs'
              have hb' : (match setSl i false d ρ with | some ρ' => bindT is' ds ρ' | none => none) = some ρ' := hb
              split at hb'
              · rename_i ρ1 es1
                have er1 : EnvR X.K F M H (σ.set i (some v)) ρ1 := er.set es1 r1
                refine ⟨v, vs', rfl, ⟨F, M, ds, ρ1, ρ', er1, r2, hb', fun σ' e1 e2 e3 => q σ' e1 (fun j hj => ?_) (by rw [e3, List.length_set])⟩⟩
                rw [e2 j (fun z => hj (List.mem_cons_of_mem _ z)), atS_set_ne (fun z => hj (by simp [z]))]
              · cases hb'
        · show (assignEach es X.env).length + 1 = is'.length + 1
          rw [p2]
        · show List.findIdx? (·.1) ((false, _) :: assignEach es X.env) = none
          rw [List.findIdx?_cons]
          simp only [Bool.false_eq_true, if_false, p3, Option.map_none]
      · cases h
    | _ => cases h
theorem simT {tg : Expr} {is : List Nat} {one : Bool} (hc : X.calm = true) (hN : X.N.Nodup) (h : trT X.N X.env.scope tg = some (is, one)) (hf : FnOn X is) : PG X tg (rT X.K is one) := by
  cases tg with
  | Name x pos =>
    obtain ⟨i, h1, h2⟩ := Option.map_eq_some_iff.mp (show (slotS X.N X.env.scope x).map (fun i => ([i], true)) = some (is, one) from h)
    cases h2
    obtain ⟨hx, hl⟩ := slotS_some h1
    refine ⟨fun pins s σ H v u Q I r hw => (pg_name hN hx hl (hf i (by simp) x hx)).run pins s σ H v u Q I r ?_⟩
    obtain ⟨F, M, d, ρ, ρ', er, rr, hb, q⟩ := hw
    exact q _ (er.set hb rr) (fun j hj => atS_set_ne (fun z => hj (by simp [z]))) (by rw [List.length_set])
  | Tuple es k pos =>
    obtain ⟨is', h1, h2⟩ := Option.map_eq_some_iff.mp (show (trTs X.N X.env.scope es).map (fun is => (is, false)) = some (is, one) from h)
    cases h2
    obtain ⟨p1, p2, p3⟩ := simTs hN h1 hf
    -- as many values as names
    have len : ∀ (is : List Nat) (ds : List D) (ρ ρ' : Env), bindT is ds ρ = some ρ' → ds.length = is.length := by
      intro is
      induction is with
      | nil =>
        intro ds ρ ρ' h
        cases ds with
        | nil => rfl
        | cons d ds => cases h
      | cons i is ih =>
        intro ds ρ ρ' h
        cases ds with
        | nil => cases h
        | cons d ds =>
          have h' : (match setSl i false d ρ with | some ρ' => bindT is ds ρ' | none => none) = some ρ' := h
          split at h'
          · rw [List.length_cons, List.length_cons, ih _ _ _ h']
          · cases h'
    refine ⟨fun pins s σ H v u Q I r hw => ?_⟩
    obtain ⟨F, M, d, ρ, ρ', er, rr, hb, q⟩ := hw
    cases d with
    | tup ds =>
      obtain ⟨a, xs, rfl, ha, ra⟩ := ValR.tup (.inl rr)
      refine (pg_tup hc p1 p2 p3).run pins s σ H _ u Q I r ⟨a, xs, rfl, ha, ?_, F, M, ds, ρ, ρ', er, ra, hb, q⟩
      rw [ra.length]
      exact len _ _ _ _ hb
    | lst ds =>
      obtain ⟨a, xs, rfl, ha, ra⟩ := ValR.lst (.inl rr)
      refine (pg_unl hc p1 p2 p3).run pins s σ H _ u Q I r ⟨a, xs, rfl, .of ha, ?_, F, M, ds, ρ, ρ', er, ra, hb, q⟩
      rw [ra.length]
      exact len _ _ _ _ hb
    | _ => cases hb
  | _ => cases h
end
/-! ### what is walked -/
/-- the iterator yields the data, in every later heap that keeps what it leans on -/
def ItR (K : PySem.W.Frag) : Fx → Ad → Hp → L2.St → Env → List D × List Nat → It → Prop := fun F M H σ ρ a J =>
  (Good H → a.1.length ≤ sizeLine) ∧ (lsOk ρ a.2 = true → ∀ M' H', Ev (F.lend σ ρ a.2).k M H M' H' → (∀ b, M' b → Mut (H' b)) →
    (∀ i, i < a.1.length → J.go i H') ∧ J.stop a.1.length H' ∧ ∀ (i : Nat) (d : D) (x : V) (H'' : Hp), a.1[i]? = some d → J.yld i H' x H'' → ∃ M'', Grow M' H' M'' H'' ∧ Rep K M'' H'' x d)
abbrev RdI (K : PySem.W.Frag) (XR : XRel) (W : L2.WX) (T : Tb) (e : Ex) : TI := Rg K XR W (evalI T e) (ItR K)
theorem pi_imp {X : Cx} {tg e : Expr} {t t' : TI} (h : PI X tg e t) (k : ∀ σ H Q, t' σ H Q → t σ H Q) : PI X tg e t' := ⟨fun pins s σ H R I w => h.run pins s σ H R I (k σ H R w)⟩
/-- a list, a tuple, or a dict by tuples that is locked -/
def iAny (K : PySem.W.Frag) (tl : TE) : TI := fun σ H R => tl σ H fun x H1 => ∃ a, x = .ref a ∧ (((∃ xs, SqL K H1 a xs) ∧ R (Itl K a) H1) ∨ ((∃ xs, SqT K H1 a xs) ∧ R (Itt K a) H1) ∨ ∃ o kvs, H1 a = some (.frz o (.dT kvs)) ∧ R (Itkt a o kvs) H1)
theorem pi_any {X : Cx} {tg l : Expr} {tl : TE} (hl : PE X l tl) : PI X tg l (iAny X.K tl) := by
  refine ⟨fun pins s σ H R I h => ?_⟩
  refine thn (hl.run pins s σ H _ I h) fun v s1 ⟨x, H1, I1, r1, q1⟩ => ?_
  obtain ⟨a, e, q⟩ := q1
  subst e
  cases r1
  have pf : ∀ b ∈ [s1.heap.objs.size], FpOk X pins H1 b := fun b hb => by
    have e : b = s1.heap.objs.size := by simpa using hb
    subst e
    exact I1.fpOk (Nat.le_refl _) (I1.hok.fresh (Nat.le_refl _))
  rcases q with ⟨⟨xs, hq⟩, q⟩ | ⟨⟨xs, hq⟩, q⟩ | ⟨o, kvs, hd, q⟩
  · obtain ⟨its, rv, p, hz⟩ := I1.list hq
    exact wpAny_pyIter_list p.isList ⟨s1.heap.objs.size, [s1.heap.objs.size], _, _, H1, rfl, I1.kept (t' := s1.toks) fun b o e => Heap.get?_push_of_some _ e, turn_list a _, ⟨_, Heap.get?_push_size _ rfl, rfl, rfl⟩, pf, q⟩
  · obtain ⟨its, rv, p, hz⟩ := I1.tuple hq
    exact wpAny_pyIter_tuple (show s1.heap.IsTuple a its.toArray from p) ⟨s1.heap.objs.size, [s1.heap.objs.size], _, _, H1, rfl, I1.kept (t' := s1.toks) fun b o e => Heap.get?_push_of_some _ e, turn_tuple a _, ⟨_, Heap.get?_push_size _ rfl, rfl, rfl⟩, pf, q⟩
  · obtain ⟨hs, hgd, hx, es, ep, hdt, hsz, ent⟩ := I1.frzT hd
    refine iter_keys hs hgd hx hdt (pi_one (tk := s1.toks) I1 _ (turn_keysT _ hdt) ⟨_, Heap.get?_push_size _ rfl, rfl, ?_⟩ q)
    rw [hsz] <;> rfl
theorem reps_keys {K : PySem.W.Frag} {M : Ad} {H : Hp} : ∀ k : List Key, Reps K M H (k.map kV) (k.map keyD)
  | [] => .nil
  | .inl i :: k => .cons (.int i) (reps_keys k)
  | .inr s :: k => .cons (.str s) (reps_keys k)
theorem reps_mapI {K : PySem.W.Frag} {M : Ad} {H : Hp} : ∀ ns : List Int, Reps K M H (ns.map V.int) (ns.map D.int)
  | [] => .nil
  | n :: ns => .cons (.int n) (reps_mapI ns)
/-- an operand that is walked stays what it is -/
theorem seq_later {K : PySem.W.Frag} {F : Fx} {M : Ad} {H : Hp} {σ : L2.St} {ρ : Env} {v : V} {o : Op} {d : D} {ds : List D} (e : EnvR K F M H σ ρ) (r : OpdR K M H σ v o) (g : getOp ρ o = some d) (hs : seqD d = some ds) :
    ∃ a, v = .ref a ∧ ((isTupD d = true) → ∃ xs, SqT K H a xs) ∧ ((¬ isTupD d = true) → ∃ xs, SqL K H a xs) ∧
      (lsOk ρ (opSl o) = true → ∀ ls, (∀ i ∈ opSl o, i ∈ ls) → ∀ M' H', Ev (F.lend σ ρ ls).k M H M' H' → ∃ xs, Reps K M' H' xs ds ∧ ((isTupD d = true) → SqT K H' a xs) ∧ ((¬ isTupD d = true) → SqL K H' a xs)) := by
  have vr := OpdR.val e r g
  -- frozen
  have frozen : Rep K M H v d → ∃ a, v = .ref a ∧ ((isTupD d = true) → ∃ xs, SqT K H a xs) ∧ ((¬ isTupD d = true) → ∃ xs, SqL K H a xs) ∧
      (∀ P M' H', Ev P M H M' H' → ∃ xs, Reps K M' H' xs ds ∧ ((isTupD d = true) → SqT K H' a xs) ∧ ((¬ isTupD d = true) → SqL K H' a xs)) := fun h => by
    cases d with
    | tup ds' =>
      obtain rfl := Option.some.inj hs
      cases h with
      | tup h rr => exact ⟨_, rfl, fun _ => ⟨_, .of h⟩, fun z => absurd rfl z, fun P M' H' ev => ⟨_, rr.ev ev, fun _ => .of (ev.tup h), fun z => absurd rfl z⟩⟩
    | kt ns =>
      obtain rfl := Option.some.inj hs
      cases h with
      | kt h => exact ⟨_, rfl, fun _ => ⟨_, .inr h⟩, fun z => absurd rfl z, fun P M' H' ev => ⟨_, reps_mapI ns, fun _ => .inr h, fun z => absurd rfl z⟩⟩
    | lst ds' =>
      obtain rfl := Option.some.inj hs
      cases h with
      | lst n h rr => exact ⟨_, rfl, (fun z => nomatch z), fun _ => ⟨_, .of h⟩, fun P M' H' ev => ⟨_, rr.ev ev, (fun z => nomatch z), fun _ => .of (ev.keep _ _ h n)⟩⟩
    | scr ns =>
      obtain rfl := Option.some.inj hs
      have h0 := h
      cases h with
      | scr h =>
        refine ⟨_, rfl, (fun z => nomatch z), fun _ => ?_, fun P M' H' ev => ⟨_, reps_mapI ns, (fun z => nomatch z), fun _ => ?_⟩⟩
        · obtain ⟨a, e1, e2⟩ := ValR.scr (.inl h0)
          cases e1
          exact ⟨_, e2⟩
        · obtain ⟨a, e1, e2⟩ := ValR.scr (.inl (h0.ev ev))
          cases e1
          exact e2
    | _ => cases hs
  have owned : ∀ (P : Ad) (a : Addr), v = .ref a → M a → Con K M H a d → P a → ∃ a, v = .ref a ∧ ((isTupD d = true) → ∃ xs, SqT K H a xs) ∧ ((¬ isTupD d = true) → ∃ xs, SqL K H a xs) ∧
      (∀ M' H', Ev P M H M' H' → ∃ xs, Reps K M' H' xs ds ∧ ((isTupD d = true) → SqT K H' a xs) ∧ ((¬ isTupD d = true) → SqL K H' a xs)) := fun P a hv m c hp => by
    cases c with
    | lst h rr =>
      obtain rfl := Option.some.inj hs
      refine ⟨a, hv, (fun z => nomatch z), fun _ => ⟨_, .of h⟩, fun M' H' ev => ⟨_, rr.ev ev, (fun z => nomatch z), fun _ => .of ?_⟩⟩
      rw [(ev.prot a hp m).1]; exact h
    | dK h q r => cases hs
    | dTu h q r => cases hs
    | obj h q r => cases hs
  cases o with
  | d x =>
    obtain rfl : x = d := Option.some.inj g
    obtain ⟨a, e1, e2, e3, e4⟩ := frozen r
    exact ⟨a, e1, e2, e3, fun _ ls _ M' H' ev => e4 _ M' H' ev⟩
  | s i =>
    have g2 : (match ρ[i]? with | some s => s.val | none => none) = some d := g
    have h2 : atS σ i = some v := r
    split at g2
    · rename_i s es
      have q := e.sl i s es
      rw [h2] at q
      cases s with
      | no => cases g2
      | fr d' =>
        obtain rfl : d' = d := Option.some.inj g2
        obtain ⟨x, e1, r⟩ := q
        obtain rfl := Option.some.inj e1
        obtain ⟨a, e1, e2, e3, e4⟩ := frozen r
        exact ⟨a, e1, e2, e3, fun _ ls _ M' H' ev => e4 _ M' H' ev⟩
      | bo d' =>
        obtain rfl : d' = d := Option.some.inj g2
        obtain ⟨x, e1, r⟩ := q
        obtain rfl := Option.some.inj e1
        rcases r with r | ⟨a, ea, p, m, c⟩
        · obtain ⟨a, e1, e2, e3, e4⟩ := frozen r
          exact ⟨a, e1, e2, e3, fun _ ls _ M' H' ev => e4 _ M' H' ev⟩
        · obtain ⟨a, e1, e2, e3, e4⟩ := owned F.p a ea m c p
          exact ⟨a, e1, e2, e3, fun _ ls _ M' H' ev => e4 M' H' (ev.mono fun c pc => .inl pc)⟩
      | ow d' =>
        obtain rfl : d' = d := Option.some.inj g2
        obtain ⟨a, e1, m, _, c⟩ := q
        obtain rfl := Option.some.inj e1
        obtain ⟨a', e1, e2, e3, e4⟩ := owned (fun b => b = a) a rfl m c rfl
        refine ⟨a', e1, e2, e3, fun _ ls hi M' H' ev => e4 M' H' (ev.mono fun b pb => ?_)⟩
        subst pb
        exact .inr (.inr ⟨i, hi i (by simp [opSl]), _, es, h2⟩)
      | io d' =>
        obtain rfl : d' = d := Option.some.inj g2
        obtain ⟨a, e1, m, _, _, c⟩ := q
        obtain rfl := Option.some.inj e1
        obtain ⟨a', e1, e2, e3, _⟩ := owned (fun b => b = a) a rfl m c rfl
        exact ⟨a', e1, e2, e3, fun ho => absurd es (lsOk_at ho (by simp [opSl]) _)⟩
      | le d' =>
        obtain rfl : d' = d := Option.some.inj g2
        obtain ⟨a, e1, m, p, _, c⟩ := q
        obtain rfl := Option.some.inj e1
        obtain ⟨a', e1, e2, e3, e4⟩ := owned F.x a rfl m c p
        exact ⟨a', e1, e2, e3, fun _ ls hi M' H' ev => e4 M' H' (ev.mono fun b pb => .inr (.inl pb))⟩
    · cases g2
theorem simItr {X : Cx} {T : Tb} {XR : XRel} {W : L2.WX} {tg e : Expr} {a : Ex} (h : PE X e (RdO X.K XR W T a)) : PI X tg e (RdI X.K XR W T (.itr a)) := by
  refine pi_imp (pi_any h) ?_
  rintro σ H Q ⟨F, M, ρ, er, x⟩
  refine ⟨F, M, ρ, er, At.bind (γ := List D × List Nat) (δ := It) (R := ItR X.K) (Q := Q) (h := fun o ρ1 => match getOp ρ1 o with
    | some d => match itrD d with
      | some xs => .ok ((xs, opSl o), ρ1)
      | none => .no
    | none => .no) x fun o v M1 H1 ρ1 ev1 er1 r1 k1 => ?_⟩
  cases g : getOp ρ1 o with
  | none => exact (k1.no (by simp only [g])).elim
  | some d =>
    by_cases hdt : ∃ ks vs, d = .dtp ks vs
    · obtain ⟨ks, vs, rfl⟩ := hdt
      have hit : itrD (.dtp ks vs) = some (ks.map tupK) := rfl
      -- the key object, later
      have key : ∃ b o kvs, v = .ref b ∧ H1 b = some (.frz o (.dT kvs)) ∧ ks = kvs.map (fun p => p.1) := by
        obtain ⟨b, o', kvs, e1, e2, e3, _⟩ := (OpdR.val er1 r1 g).dtp
        exact ⟨b, o', kvs, e1, e2, e3⟩
      obtain ⟨b, o', kvs, rfl, hb, rfl⟩ := key
      refine ⟨b, rfl, .inr (.inr ⟨o', kvs, hb, ?_⟩)⟩
      refine k1.ok (a := ((kvs.map fun p => p.1).map tupK, opSl o)) (ρ1 := ρ1) (by simp only [g, hit]) _ M1 H1 (.refl er1.mt) er1 ⟨fun g0 => ?_, fun hls M' H' ev mt => ?_⟩
      · show ((kvs.map fun p => p.1).map tupK).length ≤ sizeLine
        rw [List.length_map, List.length_map]
        exact (g0 b).2.2 kvs (.inr ⟨o', hb⟩)
      · have hb' : H' b = some (.frz o' (.dT kvs)) := ev.keep b _ hb fun m => by have := ev.mt b m; rw [hb] at this; exact this
        have hl : ((kvs.map fun p => p.1).map tupK).length = kvs.length := by rw [List.length_map, List.length_map]
        refine ⟨fun i hi => ⟨hb', by rw [← hl]; exact hi⟩, ⟨hb', by show kvs.length ≤ ((kvs.map fun p => p.1).map tupK).length; rw [hl]; exact Nat.le_refl _⟩, fun i d' x H'' hd hy => ?_⟩
        obtain ⟨rfl, k, w, q, h1, rfl, h3⟩ := hy
        rw [List.getElem?_map, List.getElem?_map, h1] at hd
        obtain rfl := Option.some.inj hd
        exact ⟨M', .refl mt, .tup h3 (reps_keys k)⟩
    have hit : itrD d = seqD d := by
      cases d <;> first | rfl | exact absurd ⟨_, _, rfl⟩ hdt
    cases hs : seqD d with
    | none => exact (k1.no (by simp only [g, hit, hs])).elim
    | some ds =>
      obtain ⟨b, rfl, t1, l1, later⟩ := seq_later er1 r1 g hs
      have fin := fun J (hj : ItR X.K F M1 H1 σ ρ1 (ds, opSl o) J) => k1.ok (a := (ds, opSl o)) (ρ1 := ρ1) (by simp only [g, hit, hs]) J M1 H1 (.refl er1.mt) er1 hj
      have len : Good H1 → ds.length ≤ sizeLine := fun g0 => by
        have vr := OpdR.val er1 r1 g
        cases d with
        | tup ds' =>
          obtain rfl := Option.some.inj hs
          obtain ⟨_, xs, _, h1, h2⟩ := vr.tup
          rw [← h2.length]; exact goodT g0 h1
        | kt ns =>
          obtain rfl := Option.some.inj hs
          obtain ⟨_, _, h1⟩ := vr.kt
          have := goodT g0 h1
          rwa [List.length_map] at this ⊢
        | lst ds' =>
          obtain rfl := Option.some.inj hs
          obtain ⟨_, xs, _, h1, h2⟩ := vr.lst
          rw [← h2.length]; exact Good.sqL (X := X) g0 (.of h1 : SqL X.K H1 _ _)
        | scr ns =>
          obtain rfl := Option.some.inj hs
          obtain ⟨_, _, h1⟩ := vr.scr
          have := Good.sqL (X := X) g0 h1
          rwa [List.length_map] at this ⊢
        | _ => cases hs
      refine ⟨b, rfl, ?_⟩
      by_cases ht : isTupD d = true
      · refine .inr (.inl ⟨t1 ht, fin _ ⟨fun g => ?_, fun hls M' H' ev mt => ?_⟩⟩)
        · exact len g
        obtain ⟨xs, rr, q1, _⟩ := later hls (opSl o) (fun i hi => hi) M' H' ev
        refine ⟨fun i hi => ?_, ⟨xs, q1 ht, by rw [rr.length]; exact Nat.le_refl _⟩, fun i d' x H'' hd hy => ?_⟩
        · obtain ⟨w, w1, _⟩ := rr.get (List.getElem?_eq_getElem hi)
          exact ⟨xs, w, q1 ht, w1⟩
        · obtain ⟨rfl, hy⟩ := hy
          obtain ⟨w, w1, w2⟩ := rr.get hd
          have := hy xs (q1 ht)
          rw [w1] at this
          obtain rfl := Option.some.inj this
          exact ⟨M', .refl mt, w2⟩
      · refine .inl ⟨l1 ht, fin _ ⟨fun g => ?_, fun hls M' H' ev mt => ?_⟩⟩
        · exact len g
        obtain ⟨xs, rr, _, q1⟩ := later hls (opSl o) (fun i hi => hi) M' H' ev
        refine ⟨fun i hi => ?_, ⟨xs, q1 ht, by rw [rr.length]; exact Nat.le_refl _⟩, fun i d' x H'' hd hy => ?_⟩
        · obtain ⟨w, w1, _⟩ := rr.get (List.getElem?_eq_getElem hi)
          exact ⟨xs, w, q1 ht, w1⟩
        · obtain ⟨rfl, hy⟩ := hy
          obtain ⟨w, w1, w2⟩ := rr.get hd
          have := hy xs (q1 ht)
          rw [w1] at this
          obtain rfl := Option.some.inj this
          exact ⟨M', .refl mt, w2⟩
/-- a range's turns -/
theorem itR_rng {K : PySem.W.Frag} {F : Fx} {M : Ad} {H : Hp} {σ : L2.St} {ρ : Env} {lo : Int} {n : Nat} (hn : n ≤ 16777216) : ItR K F M H σ ρ (rngD lo n, []) (Itr lo n) := by
  have hl : (rngD lo n).length = n := by unfold rngD; rw [List.length_map, List.length_range]
  refine ⟨fun _ => by show (rngD lo n).length ≤ sizeLine; rw [hl, sizeLine_eq]; exact hn, fun _ M' H' ev mt => ?_⟩
  refine ⟨fun i hi => ?_, ?_, fun i d x H'' hd hy => ?_⟩
  · show i < n
    rw [← hl]; exact hi
  · show n ≤ (rngD lo n).length
    rw [hl]; exact Nat.le_refl _
  · obtain ⟨rfl, rfl⟩ := hy
    have hi : i < n := by rw [← hl]; exact (List.getElem?_eq_some_iff.mp hd).1
    have : (rngD lo n)[i]? = some (.int (lo + i)) := by
      unfold rngD
      rw [List.getElem?_map, List.getElem?_range hi]
      rfl
    rw [this] at hd
    obtain rfl := Option.some.inj hd
    exact ⟨M', .refl mt, .int _⟩
end Pd
set_option Elab.async false
set_option linter.all false
/-! Pd8: ranges, rows of expressions, comprehensions. -/
namespace Pd
open PySem PySem.Spec PyProof.Rows L2
section
variable {X : Cx} {T : Tb} {XR : XRel} {W : L2.WX}
theorem starEach_cons {e : Expr} {es : List Expr} {env : PySem.Env} (h : notStar e = true) : starEach (e :: es) env = (false, eval e env) :: starEach es env := by
  cases e <;> first | rfl | cases h
theorem simRng1 {tg a : Expr} {x : Ex} {p pos : Pos} (hg : Gl X "range") (hm : X.mg "range" = none) (hs : notStar a = true) (h : PE X a (RdO X.K XR W T x)) : PI X tg (.Call (.Name "range" p) [a] [] pos) (RdI X.K XR W T (.rng1 x)) := by
  refine pi_imp (pi_range1 hg hm (pa_cons h pa_nil (starEach_cons hs)) (starEach_cons hs)) ?_
  rintro σ H Q ⟨F, M, ρ, er, y⟩
  refine ⟨F, M, ρ, er, At.bind (γ := List D × List Nat) (δ := It) (R := ItR X.K) (Q := Q) (h := fun o ρ1 => match getOp ρ1 o with
    | some (.int n) => if -(2 ^ 20) < n ∧ n < 2 ^ 20 then .ok ((rngD 0 n.toNat, []), ρ1) else .no
    | _ => .no) y fun o v M1 H1 ρ1 ev1 er1 r1 k1 => ?_⟩
  cases g : getOp ρ1 o with
  | none => exact (k1.no (by simp only [g])).elim
  | some d =>
    cases d with
    | int n =>
      by_cases hn : -(2 ^ 20) < n ∧ n < 2 ^ 20
      · have ev := (OpdR.val er1 r1 g).int
        subst ev
        exact ⟨n, rfl, by omega, by omega, k1.ok (a := (rngD 0 n.toNat, [])) (ρ1 := ρ1) (by simp only [g]; rw [if_pos hn]) _ M1 H1 (.refl er1.mt) er1 (itR_rng (by omega))⟩
      · exact (k1.no (by simp only [g]; rw [if_neg hn])).elim
    | _ => exact (k1.no (by simp only [g])).elim
theorem simRng2 {tg a b : Expr} {x y : Ex} {p pos : Pos} (hg : Gl X "range") (hm : X.mg "range" = none) (hs : notStar a = true) (hs2 : notStar b = true) (h : PE X a (RdO X.K XR W T x)) (h2 : PE X b (RdO X.K XR W T y)) :
    PI X tg (.Call (.Name "range" p) [a, b] [] pos) (RdI X.K XR W T (.rng2 x y)) := by
  refine pi_imp (pi_range2 hg hm (pa_cons h (pa_cons h2 pa_nil (starEach_cons hs2)) (starEach_cons hs)) (by rw [starEach_cons hs, starEach_cons hs2] <;> rfl) (starEach_cons hs2)) ?_
  rintro σ H Q ⟨F, M, ρ, er, z⟩
  refine ⟨F, M, ρ, er, At.bind (γ := List D × List Nat) (δ := It) (R := ItR X.K) (Q := Q) (h := fun o ρ1 => opd (evalV T y) y ρ1 >>= fun q => match getOp q.2 o, getOp q.2 q.1 with
    | some (.int m), some (.int n) => if -(2 ^ 20) < m ∧ m < 2 ^ 20 ∧ -(2 ^ 20) < n ∧ n < 2 ^ 20 then .ok ((rngD m (n - m).toNat, []), q.2) else .no
    | _, _ => .no) z fun o v M1 H1 ρ1 ev1 er1 r1 k1 => ?_⟩
  refine ⟨F, M1, ρ1, er1, At.bind (γ := List D × List Nat) (δ := It) (R := ItR X.K) (Q := Q) (h := fun q ρ2 => match getOp ρ2 o, getOp ρ2 q with
    | some (.int m), some (.int n) => if -(2 ^ 20) < m ∧ m < 2 ^ 20 ∧ -(2 ^ 20) < n ∧ n < 2 ^ 20 then .ok ((rngD m (n - m).toNat, []), ρ2) else .no
    | _, _ => .no) k1 fun q u M2 H2 ρ2 ev2 er2 r2 k2 => ?_⟩
  have r1' : OpdR X.K M2 H2 σ v o := OpdR.ev ev2 r1
  cases g : getOp ρ2 o with
  | none => exact (k2.no (by simp only [g])).elim
  | some d =>
    cases d with
    | int m =>
      cases g2 : getOp ρ2 q with
      | none => exact (k2.no (by simp only [g, g2])).elim
      | some d2 =>
        cases d2 with
        | int n =>
          by_cases hn : -(2 ^ 20) < m ∧ m < 2 ^ 20 ∧ -(2 ^ 20) < n ∧ n < 2 ^ 20
          · have ev := (OpdR.val er2 r1' g).int
            subst ev
            have ev := (OpdR.val er2 r2 g2).int
            subst ev
            exact ⟨m, n, rfl, ⟨by omega, by omega, by omega, by omega⟩, k2.ok (a := (rngD m (n - m).toNat, [])) (ρ1 := ρ2) (by simp only [g, g2]; rw [if_pos hn]) _ M2 H2 (.refl er2.mt) er2 (itR_rng (by omega))⟩
          · exact (k2.no (by simp only [g, g2]; rw [if_neg hn])).elim
        | _ => exact (k2.no (by simp only [g, g2])).elim
    | _ => exact (k2.no (by simp only [g])).elim
/-! ### rows -/
theorem simVs : ∀ {es : List Expr} {xs : List Ex}, Paired (fun e x => notStar e = true ∧ PE X e (RdV X.K XR W T x)) es xs → PA X es (RdVs X.K XR W T xs)
  | [], _, .nil => by
    refine pa_imp pa_nil ?_
    rintro σ H Q ⟨F, M, ρ, er, x⟩
    exact x.ok (a := []) (ρ1 := ρ) rfl [] M H (.refl er.mt) er .nil
  | e :: es, x :: xs, .cons h t => by
    refine pa_imp (pa_cons h.2 (simVs t) (starEach_cons h.1)) ?_
    rintro σ H Q ⟨F, M, ρ, er, y⟩
    refine ⟨F, M, ρ, er, At.bind (γ := List D) (δ := List V) (R := RVs X.K) (Q := Q) (h := fun a ρ1 => evalVs T xs ρ1 >>= fun p => .ok (a.2 :: p.1, p.2)) y fun a v M1 H1 ρ1 ev1 er1 r1 k1 => ?_⟩
    obtain ⟨M2, ev2, er2, rp⟩ := RvR.freeze er1 r1
    have k1' := At.step ev2 k1
    refine ⟨F, M2, ρ1, er2, At.bind (γ := List D) (δ := List V) (R := RVs X.K) (Q := Q) (h := fun ds ρ2 => .ok (a.2 :: ds, ρ2)) k1' fun ds vs M3 H3 ρ3 ev3 er3 r3 k3 => ?_⟩
    exact k3.ok (a := a.2 :: ds) (ρ1 := ρ3) rfl (v :: vs) M3 H3 (.refl er3.mt) er3 (.cons (rp.ev ev3) r3)
theorem simOs : ∀ {es : List Expr} {xs : List Ex}, Paired (fun e x => notStar e = true ∧ PE X e (RdO X.K XR W T x)) es xs → PA X es (RdOs X.K XR W T xs)
  | [], _, .nil => by
    refine pa_imp pa_nil ?_
    rintro σ H Q ⟨F, M, ρ, er, x⟩
    exact x.ok (a := []) (ρ1 := ρ) rfl [] M H (.refl er.mt) er .nil
  | e :: es, x :: xs, .cons h t => by
    refine pa_imp (pa_cons h.2 (simOs t) (starEach_cons h.1)) ?_
    rintro σ H Q ⟨F, M, ρ, er, y⟩
    refine ⟨F, M, ρ, er, At.bind (γ := List Op) (δ := List V) (R := ROs X.K) (Q := Q) (h := fun a ρ1 => evalOs T xs ρ1 >>= fun p => .ok (a :: p.1, p.2)) y fun a v M1 H1 ρ1 ev1 er1 r1 k1 => ?_⟩
    refine ⟨F, M1, ρ1, er1, At.bind (γ := List Op) (δ := List V) (R := ROs X.K) (Q := Q) (h := fun ds ρ2 => .ok (a :: ds, ρ2)) k1 fun ds vs M3 H3 ρ3 ev3 er3 r3 k3 => ?_⟩
    exact k3.ok (a := a :: ds) (ρ1 := ρ3) rfl (v :: vs) M3 H3 (.refl er3.mt) er3 (.cons (OpdR.ev ev3 r1) r3)
theorem evalVs_len : ∀ {xs : List Ex} {ρ ρ' : Env} {ds : List D}, evalVs T xs ρ = .ok (ds, ρ') → ds.length = xs.length
  | [], _, _, _, h => by cases h; rfl
  | x :: xs, ρ, ρ', ds, h => by
    have h' : (evalV T x ρ >>= fun p => evalVs T xs p.2 >>= fun q => .ok (p.1.2 :: q.1, q.2)) = Res.ok (ds, ρ') := h
    obtain ⟨p, _, h2⟩ := bind_eq_ok h'
    obtain ⟨q, h3, h4⟩ := bind_eq_ok h2
    cases h4
    rw [List.length_cons, List.length_cons, evalVs_len h3]
theorem simTup {es : List Expr} {xs : List Ex} {k : Nat} {pos : Pos} (hl : xs.length ≤ 1000) (h : PA X es (RdVs X.K XR W T xs)) : PE X (.Tuple es k pos) (RdV X.K XR W T (.tup xs)) := by
  refine pe_imp (pe_tup h) ?_
  rintro σ H Q ⟨F, M, ρ, er, y⟩
  refine ⟨F, M, ρ, er, At.bindE (γ := Bool × D) (δ := V) (R := RV X.K) (Q := Q) (h := fun ds ρ1 => .ok ((false, .tup ds), ρ1)) y fun ds vs M1 H1 ρ1 eg ev1 er1 r1 k1 => ?_⟩
  have r1' : Reps X.K M1 H1 vs ds := r1
  refine ⟨by rw [r1'.length, evalVs_len eg, sizeLine_eq]; omega, fun p np => ?_⟩
  obtain ⟨e1, e2, e3⟩ := OutR.rv er1 (OutR.tup er1.mt np r1')
  exact k1.ok (a := ((false, D.tup ds) : Bool × D)) (ρ1 := ρ1) rfl _ _ _ e1 e2 e3
theorem simLst {es : List Expr} {xs : List Ex} {pos : Pos} (hl : xs.length ≤ 1000) (h : PA X es (RdVs X.K XR W T xs)) : PE X (.List es pos) (RdV X.K XR W T (.lst xs)) := by
  refine pe_imp (pe_lst h) ?_
  rintro σ H Q ⟨F, M, ρ, er, y⟩
  refine ⟨F, M, ρ, er, At.bindE (γ := Bool × D) (δ := V) (R := RV X.K) (Q := Q) (h := fun ds ρ1 => .ok ((true, .lst ds), ρ1)) y fun ds vs M1 H1 ρ1 eg ev1 er1 r1 k1 => ?_⟩
  have r1' : Reps X.K M1 H1 vs ds := r1
  refine ⟨by rw [r1'.length, evalVs_len eg, sizeLine_eq]; omega, fun p np => ?_⟩
  obtain ⟨e1, e2, e3⟩ := OutR.rv er1 (OutR.lst er1.mt np r1')
  exact k1.ok (a := ((true, D.lst ds) : Bool × D)) (ρ1 := ρ1) rfl _ _ _ e1 e2 e3
/-- a test -/
abbrev RdT (K : PySem.W.Frag) (XR : XRel) (W : L2.WX) (T : Tb) (e : Ex) : TT := Rg K XR W (testD (evalV T e) e) (fun _ _ _ _ _ a b => a = b)
abbrev RdC (K : PySem.W.Frag) (XR : XRel) (W : L2.WX) (T : Tb) (e : Ex) : TT := Rg K XR W (condD (evalV T e) e) (fun _ _ _ _ _ a b => a = b)
end
end Pd
set_option Elab.async false
set_option linter.all false
/-! Pd8i: reversed, enumerate, zip. -/
namespace Pd
open PySem PySem.Spec PyProof.Rows L2
theorem enumD_len : ∀ (k : Nat) (ds : List D), (enumD k ds).length = ds.length
  | _, [] => rfl
  | k, d :: ds => by rw [enumD, List.length_cons, List.length_cons, enumD_len (k + 1) ds]
theorem enumD_get : ∀ (k : Nat) (ds : List D) (i : Nat), (enumD k ds)[i]? = (ds[i]?).map fun x => .tup [.int ((k + i : Nat)), x]
  | _, [], _ => by simp [enumD]
  | k, d :: ds, 0 => rfl
  | k, d :: ds, i + 1 => by
    rw [enumD, List.getElem?_cons_succ, List.getElem?_cons_succ, enumD_get (k + 1) ds i, show k + 1 + i = k + (i + 1) by omega]
theorem zipD_len : ∀ (xs ys : List D), (zipD xs ys).length = min xs.length ys.length
  | [], ys => by simp [zipD]
  | x :: xs, [] => by simp [zipD]
  | x :: xs, y :: ys => by
    rw [zipD, List.length_cons, List.length_cons, List.length_cons, zipD_len xs ys]
    omega
theorem zipD_get : ∀ (xs ys : List D) (i : Nat) (d : D), (zipD xs ys)[i]? = some d → ∃ x y, xs[i]? = some x ∧ ys[i]? = some y ∧ d = .tup [x, y]
  | [], ys, i, d, h => by simp [zipD] at h
  | x :: xs, [], i, d, h => by simp [zipD] at h
  | x :: xs, y :: ys, 0, d, h => ⟨x, y, rfl, rfl, (Option.some.inj h).symm⟩
  | x :: xs, y :: ys, i + 1, d, h => zipD_get xs ys i d h
section
variable {X : Cx} {T : Tb} {XR : XRel} {W : L2.WX}
theorem seq_len {K : PySem.W.Frag} {F : Fx} {M : Ad} {H : Hp} {σ : L2.St} {ρ : Env} {v : V} {o : Op} {d : D} {ds : List D} (e : EnvR K F M H σ ρ) (r : OpdR K M H σ v o) (g : getOp ρ o = some d) (hs : seqD d = some ds) (hX : X.K = K) : Good H → ds.length ≤ sizeLine := fun g0 => by
  subst hX
  have vr := OpdR.val e r g
  cases d with
  | tup ds' =>
    obtain rfl := Option.some.inj hs
    obtain ⟨_, xs, _, h1, h2⟩ := vr.tup
    rw [← h2.length]; exact goodT g0 h1
  | kt ns =>
    obtain rfl := Option.some.inj hs
    obtain ⟨_, _, h1⟩ := vr.kt
    have := goodT g0 h1
    rwa [List.length_map] at this ⊢
  | lst ds' =>
    obtain rfl := Option.some.inj hs
    obtain ⟨_, xs, _, h1, h2⟩ := vr.lst
    rw [← h2.length]; exact Good.sqL (X := X) g0 (.of h1 : SqL X.K H _ _)
  | scr ns =>
    obtain rfl := Option.some.inj hs
    obtain ⟨_, _, h1⟩ := vr.scr
    have := Good.sqL (X := X) g0 h1
    rwa [List.length_map] at this ⊢
  | _ => cases hs
theorem simRev {tg a : Expr} {x : Ex} {p pos : Pos} (hg : Gl X "reversed") (hm : X.mg "reversed" = none) (hs : notStar a = true) (h : PE X a (RdO X.K XR W T x)) : PI X tg (.Call (.Name "reversed" p) [a] [] pos) (RdI X.K XR W T (.revd x)) := by
  refine pi_imp (RT.pi_revA hg hm h (starEach_cons hs)) ?_
  rintro σ H Q ⟨F, M, ρ, er, y⟩
  refine ⟨F, M, ρ, er, At.bind (γ := List D × List Nat) (δ := It) (R := ItR X.K) (Q := Q) (h := fun o ρ1 => match getOp ρ1 o with
    | some d => match seqD d with
      | some xs => .ok ((xs.reverse, opSl o), ρ1)
      | none => .no
    | none => .no) y fun o v M1 H1 ρ1 ev1 er1 r1 k1 => ?_⟩
  cases g : getOp ρ1 o with
  | none => exact (k1.no (by simp only [g])).elim
  | some d =>
    cases hs : seqD d with
    | none => exact (k1.no (by simp only [g, hs])).elim
    | some ds =>
      obtain ⟨b, rfl, t1, l1, later⟩ := seq_later er1 r1 g hs
      have fin := fun J (hj : ItR X.K F M1 H1 σ ρ1 (ds.reverse, opSl o) J) => k1.ok (a := (ds.reverse, opSl o)) (ρ1 := ρ1) (by simp only [g, hs]) J M1 H1 (.refl er1.mt) er1 hj
      have len := seq_len (X := X) er1 r1 g hs rfl
      have get : ∀ {i : Nat} {xs : List V} {M' : Ad} {H' : Hp}, Reps X.K M' H' xs ds → ∀ {d'}, ds.reverse[i]? = some d' → ∃ w, xs[ds.length - 1 - i]? = some w ∧ Rep X.K M' H' w d' := by
        intro i xs M' H' rr d' hd
        have hi : i < ds.length := by
          have := (List.getElem?_eq_some_iff.mp hd).1
          rwa [List.length_reverse] at this
        rw [List.getElem?_reverse hi] at hd
        exact rr.get hd
      have xl : ∀ {xs : List V} {M' : Ad} {H' : Hp}, Reps X.K M' H' xs ds → xs.length = ds.length := fun rr => rr.length
      by_cases ht : isTupD d = true
      · obtain ⟨xs0, h0, n0⟩ : ∃ xs0, SqT X.K H1 b xs0 ∧ xs0.length = ds.length := by
          have vr := OpdR.val er1 r1 g
          cases d with
          | tup _ =>
            obtain rfl := Option.some.inj hs
            obtain ⟨a', xs, e1, h1, h2⟩ := vr.tup
            cases e1
            exact ⟨xs, h1, h2.length⟩
          | kt ns =>
            obtain rfl := Option.some.inj hs
            obtain ⟨a', e1, h1⟩ := vr.kt
            cases e1
            exact ⟨_, h1, by rw [List.length_map, List.length_map]⟩
          | _ => cases ht
        refine ⟨b, xs0, rfl, .inr ⟨h0, fin _ ⟨fun g => by show ds.reverse.length ≤ _; rw [List.length_reverse]; exact len g, fun hls M' H' ev mt => ?_⟩⟩⟩
        obtain ⟨xs, rr, q1, _⟩ := later hls (opSl o) (fun i hi => hi) M' H' ev
        rw [n0]
        refine ⟨fun i hi => ?_, by show ds.length ≤ ds.reverse.length; rw [List.length_reverse]; exact Nat.le_refl _, fun i d' x H'' hd hy => ?_⟩
        · have hi' : i < ds.length := by rwa [List.length_reverse] at hi
          obtain ⟨w, w1, _⟩ := get rr (List.getElem?_eq_getElem hi)
          exact ⟨hi', xs, w, q1 ht, w1⟩
        · obtain ⟨rfl, hy⟩ := hy
          obtain ⟨w, w1, w2⟩ := get rr hd
          have := hy xs (q1 ht)
          rw [w1] at this
          obtain rfl := Option.some.inj this
          exact ⟨M', .refl mt, w2⟩
      · obtain ⟨xs0, h0, n0⟩ : ∃ xs0, SqL X.K H1 b xs0 ∧ xs0.length = ds.length := by
          have vr := OpdR.val er1 r1 g
          cases d with
          | tup _ => exact absurd rfl ht
          | kt _ => exact absurd rfl ht
          | lst ds' =>
            obtain rfl := Option.some.inj hs
            obtain ⟨a', xs, e1, h1, h2⟩ := vr.lst
            cases e1
            exact ⟨xs, .of h1, h2.length⟩
          | scr ns =>
            obtain rfl := Option.some.inj hs
            obtain ⟨a', e1, h1⟩ := vr.scr
            cases e1
            exact ⟨_, h1, by rw [List.length_map, List.length_map]⟩
          | _ => cases hs
        refine ⟨b, xs0, rfl, .inl ⟨h0, fin _ ⟨fun g => by show ds.reverse.length ≤ _; rw [List.length_reverse]; exact len g, fun hls M' H' ev mt => ?_⟩⟩⟩
        obtain ⟨xs, rr, _, q1⟩ := later hls (opSl o) (fun i hi => hi) M' H' ev
        rw [n0]
        refine ⟨fun i hi => ?_, by show ds.length ≤ ds.reverse.length; rw [List.length_reverse]; exact Nat.le_refl _, fun i d' x H'' hd hy => ?_⟩
        · have hi' : i < ds.length := by rwa [List.length_reverse] at hi
          obtain ⟨w, w1, _⟩ := get rr (List.getElem?_eq_getElem hi)
          exact ⟨hi', xs, w, q1 ht, w1⟩
        · obtain ⟨rfl, hy⟩ := hy
          obtain ⟨w, w1, w2⟩ := get rr hd
          have := hy xs (q1 ht)
          rw [w1] at this
          obtain rfl := Option.some.inj this
          exact ⟨M', .refl mt, w2⟩
theorem pair_rep {K : PySem.W.Frag} {M : Ad} {H : Hp} {p : Addr} {x y : V} {d e : D} (mt : ∀ a, M a → Mut (H a)) (hp : H p = none) (h1 : Rep K M H x d) (h2 : Rep K M H y e) : Grow M H M (upd H p (.tup [x, y])) ∧ Rep K M (upd H p (.tup [x, y])) (.ref p) (.tup [d, e]) := by
  have g : Grow M H M (upd H p (.tup [x, y])) := Grow.tup hp mt
  have ev : Ev (fun _ => False) M H M (upd H p (.tup [x, y])) := g.ev mt
  exact ⟨g, .tup upd_same (.cons (h1.ev ev) (.cons (h2.ev ev) .nil))⟩
theorem simEnum {elts : List Expr} {kk : Nat} {tpos : Pos} {a : Expr} {x : Ex} {p pos : Pos} (hg : Gl X "enumerate") (hm : X.mg "enumerate" = none) (hs : notStar a = true) (h : PE X a (RdO X.K XR W T x)) : PI X (.Tuple elts kk tpos) (.Call (.Name "enumerate" p) [a] [] pos) (RdI X.K XR W T (.enum x)) := by
  refine pi_imp (Ps.pi_enumA hg hm (pa_cons h pa_nil (starEach_cons hs)) (starEach_cons hs)) ?_
  rintro σ H Q ⟨F, M, ρ, er, y⟩
  refine ⟨F, M, ρ, er, At.bind (γ := List D × List Nat) (δ := It) (R := ItR X.K) (Q := Q) (h := fun o ρ1 => match getOp ρ1 o with
    | some d => match seqD d with
      | some xs => .ok ((enumD 0 xs, opSl o), ρ1)
      | none => .no
    | none => .no) y fun o v M1 H1 ρ1 ev1 er1 r1 k1 => ?_⟩
  cases g : getOp ρ1 o with
  | none => exact (k1.no (by simp only [g])).elim
  | some d =>
    cases hs : seqD d with
    | none => exact (k1.no (by simp only [g, hs])).elim
    | some ds =>
      obtain ⟨b, rfl, t1, l1, later⟩ := seq_later er1 r1 g hs
      have fin := fun J (hj : ItR X.K F M1 H1 σ ρ1 (enumD 0 ds, opSl o) J) => k1.ok (a := (enumD 0 ds, opSl o)) (ρ1 := ρ1) (by simp only [g, hs]) J M1 H1 (.refl er1.mt) er1 hj
      have len := seq_len (X := X) er1 r1 g hs rfl
      have turn : ∀ {i : Nat} {d' : D} {M' : Ad} {H' : Hp} {xs : List V} {p' : Addr} {w' : V}, (∀ a, M' a → Mut (H' a)) → Reps X.K M' H' xs ds → (enumD 0 ds)[i]? = some d' → H' p' = none → xs[i]? = some w' → ∃ M2, Grow M' H' M2 (upd H' p' (.tup [.int (i : Nat), w'])) ∧ Rep X.K M2 (upd H' p' (.tup [.int (i : Nat), w'])) (.ref p') d' := by
        intro i d' M' H' xs p' w' mt rr hd' np hy
        rw [enumD_get] at hd'
        obtain ⟨d0, e0, rfl⟩ := Option.map_eq_some_iff.mp hd'
        obtain ⟨w, w1, w2⟩ := rr.get e0
        rw [w1] at hy
        obtain rfl := Option.some.inj hy
        obtain ⟨g1, g2⟩ := pair_rep mt np (.int (i : Nat)) w2
        rw [Nat.zero_add]
        exact ⟨M', g1, g2⟩
      by_cases ht : isTupD d = true
      · obtain ⟨xs0, h0⟩ := t1 ht
        refine ⟨b, xs0, rfl, .inr ⟨h0, fin _ ⟨fun g => by show (enumD 0 ds).length ≤ _; rw [enumD_len]; exact len g, fun hls M' H' ev mt => ?_⟩⟩⟩
        obtain ⟨xs, rr, q1, _⟩ := later hls (opSl o) (fun i hi => hi) M' H' ev
        refine ⟨fun i hi => ?_, ⟨xs, q1 ht, by show xs.length ≤ (enumD 0 ds).length; rw [enumD_len, rr.length]; exact Nat.le_refl _⟩, fun i d' x H'' hd hy => ?_⟩
        · have hi' : i < ds.length := by rwa [enumD_len] at hi
          obtain ⟨w, w1, _⟩ := rr.get (List.getElem?_eq_getElem hi')
          exact ⟨xs, w, q1 ht, w1⟩
        · obtain ⟨p', w', rfl, np, rfl, hy⟩ := hy
          exact turn mt rr hd np (hy xs (q1 ht))
      · obtain ⟨xs0, h0⟩ := l1 ht
        refine ⟨b, xs0, rfl, .inl ⟨h0, fin _ ⟨fun g => by show (enumD 0 ds).length ≤ _; rw [enumD_len]; exact len g, fun hls M' H' ev mt => ?_⟩⟩⟩
        obtain ⟨xs, rr, _, q1⟩ := later hls (opSl o) (fun i hi => hi) M' H' ev
        refine ⟨fun i hi => ?_, ⟨xs, q1 ht, by show xs.length ≤ (enumD 0 ds).length; rw [enumD_len, rr.length]; exact Nat.le_refl _⟩, fun i d' x H'' hd hy => ?_⟩
        · have hi' : i < ds.length := by rwa [enumD_len] at hi
          obtain ⟨w, w1, _⟩ := rr.get (List.getElem?_eq_getElem hi')
          exact ⟨xs, w, q1 ht, w1⟩
        · obtain ⟨p', w', rfl, np, rfl, hy⟩ := hy
          exact turn mt rr hd np (hy xs (q1 ht))
theorem sqC_of {K : PySem.W.Frag} {H : Hp} {c : Bool} {a : Addr} {xs : List V} (h1 : c = true → SqT K H a xs) (h2 : ¬ c = true → SqL K H a xs) : Ps.SqC c K H a xs := by
  cases c with
  | true => exact h1 rfl
  | false => exact h2 (by decide)
theorem sqC_ex {K : PySem.W.Frag} {H : Hp} {c : Bool} {a : Addr} (h1 : c = true → ∃ xs, SqT K H a xs) (h2 : ¬ c = true → ∃ xs, SqL K H a xs) : ∃ xs, Ps.SqC c K H a xs := by
  cases c with
  | true => exact h1 rfl
  | false => exact h2 (by decide)
theorem simZip {elts : List Expr} {kk : Nat} {tpos : Pos} {a b : Expr} {x y : Ex} {p pos : Pos} (hg : Gl X "zip") (hm : X.mg "zip" = none) (hs : notStar a = true) (hs2 : notStar b = true) (h : PE X a (RdO X.K XR W T x)) (h2 : PE X b (RdO X.K XR W T y)) :
    PI X (.Tuple elts kk tpos) (.Call (.Name "zip" p) [a, b] [] pos) (RdI X.K XR W T (.zip x y)) := by
  refine pi_imp (Ps.pi_zipM hg hm (pa_cons h (pa_cons h2 pa_nil (starEach_cons hs2)) (starEach_cons hs)) (by rw [starEach_cons hs]) (by rw [starEach_cons hs2] <;> rfl)) ?_
  rintro σ H Q ⟨F, M, ρ, er, z⟩
  refine ⟨F, M, ρ, er, At.bind (γ := List D × List Nat) (δ := It) (R := ItR X.K) (Q := Q) (h := fun o ρ1 => opd (evalV T y) y ρ1 >>= fun q => match getOp q.2 o, getOp q.2 q.1 with
    | some d, some e => match seqD d, seqD e with
      | some xs, some ys => if zipK d e = true then .ok ((zipD xs ys, opSl o ++ opSl q.1), q.2) else .no
      | _, _ => .no
    | _, _ => .no) z fun o v M1 H1 ρ1 ev1 er1 r1 k1 => ?_⟩
  refine ⟨F, M1, ρ1, er1, At.bind (γ := List D × List Nat) (δ := It) (R := ItR X.K) (Q := Q) (h := fun q ρ2 => match getOp ρ2 o, getOp ρ2 q with
    | some d, some e => match seqD d, seqD e with
      | some xs, some ys => if zipK d e = true then .ok ((zipD xs ys, opSl o ++ opSl q), ρ2) else .no
      | _, _ => .no
    | _, _ => .no) k1 fun q u M2 H2 ρ2 ev2 er2 r2 k2 => ?_⟩
  have r1' : OpdR X.K M2 H2 σ v o := OpdR.ev ev2 r1
  cases g : getOp ρ2 o with
  | none => exact (k2.no (by simp only [g])).elim
  | some d =>
  cases g2 : getOp ρ2 q with
  | none => exact (k2.no (by simp only [g, g2])).elim
  | some e =>
  cases hs : seqD d with
  | none => exact (k2.no (by simp only [g, g2, hs])).elim
  | some ds =>
  cases hs2 : seqD e with
  | none => exact (k2.no (by simp only [g, g2, hs, hs2])).elim
  | some es =>
  have hk : zipK d e = true := rfl
  obtain ⟨b1, rfl, t1, l1, later1⟩ := seq_later er2 r1' g hs
  obtain ⟨b2, rfl, t2, l2, later2⟩ := seq_later er2 r2 g2 hs2
  have fin := fun J (hj : ItR X.K F M2 H2 σ ρ2 (zipD ds es, opSl o ++ opSl q) J) => k2.ok (a := (zipD ds es, opSl o ++ opSl q)) (ρ1 := ρ2) (by simp only [g, g2, hs, hs2]; rw [if_pos hk]) J M2 H2 (.refl er2.mt) er2 hj
  have len := seq_len (X := X) er2 r1' g hs rfl
  have both : ∀ {hls : lsOk ρ2 (opSl o ++ opSl q) = true}, lsOk ρ2 (opSl o) = true ∧ lsOk ρ2 (opSl q) = true := fun {hls} => by
    unfold lsOk at hls ⊢
    rw [List.all_append, Bool.and_eq_true] at hls
    exact hls
  have lz : Good H2 → (zipD ds es).length ≤ sizeLine := fun g0 => by
    rw [zipD_len]
    have := len g0
    omega
  obtain ⟨xs0, h0⟩ := sqC_ex t1 l1
  obtain ⟨ys0, h0'⟩ := sqC_ex t2 l2
  refine ⟨isTupD d, isTupD e, b1, b2, xs0, ys0, rfl, h0, h0', fin _ ⟨lz, fun hls M' H' ev mt => ?_⟩⟩
  obtain ⟨w1, w2⟩ := both (hls := hls)
  obtain ⟨xs, rr, q1, q1'⟩ := later1 w1 (opSl o ++ opSl q) (fun i hi => List.mem_append_left _ hi) M' H' ev
  obtain ⟨ys, rr2, q2, q2'⟩ := later2 w2 (opSl o ++ opSl q) (fun i hi => List.mem_append_right _ hi) M' H' ev
  have s1 := sqC_of q1 q1'
  have s2 := sqC_of q2 q2'
  refine ⟨fun i hi => ?_, ⟨xs, ys, s1, s2, ?_⟩, fun i d' x H'' hd hy => ?_⟩
  · obtain ⟨x1, y1, a1, a2, _⟩ := zipD_get ds es i _ (List.getElem?_eq_getElem hi)
    obtain ⟨v1, v2, _⟩ := rr.get a1
    obtain ⟨u1, u2, _⟩ := rr2.get a2
    exact ⟨xs, ys, v1, u1, s1, s2, v2, u2⟩
  · show (xs.length = (zipD ds es).length ∧ (zipD ds es).length ≤ ys.length) ∨ (ys.length = (zipD ds es).length ∧ (zipD ds es).length ≤ xs.length)
    rw [zipD_len, rr.length, rr2.length]; omega
  · obtain ⟨p', x', y', rfl, np, rfl, hx, hy⟩ := hy
    obtain ⟨d1, e1, a1, a2, rfl⟩ := zipD_get ds es i _ hd
    obtain ⟨v1, v2, v3⟩ := rr.get a1
    obtain ⟨u1, u2, u3⟩ := rr2.get a2
    have e1' := hx xs s1
    have e2' := hy ys s2
    rw [v2] at e1'
    rw [u2] at e2'
    obtain rfl := Option.some.inj e1'
    obtain rfl := Option.some.inj e2'
    obtain ⟨g1, g2⟩ := pair_rep mt np v3 u3
    exact ⟨M', g1, g2⟩
end
end Pd
set_option Elab.async false
set_option linter.all false
/-! Pd9: comprehensions. -/
namespace Pd
open PySem PySem.Spec PyProof.Rows L2
theorem atS_ext {σ τ : L2.St} (hl : σ.length = τ.length) (h : ∀ j, atS σ j = atS τ j) : σ = τ := by
  refine List.ext_getElem? fun j => ?_
  have q := h j
  unfold atS at q
  by_cases hj : j < σ.length
  · rw [List.getElem?_eq_getElem hj, List.getElem?_eq_getElem (by omega)] at q ⊢
    exact congrArg some q
  · rw [List.getElem?_eq_none (by omega), List.getElem?_eq_none (by omega)]
theorem atS_wipe_in {σ : L2.St} {j : Nat} : ∀ {vs : List Nat}, j ∈ vs → atS (wipe σ vs) j = none
  | v :: vs, h => by
    unfold wipe
    by_cases e : v = j
    · subst e
      by_cases hl : v < (wipe σ vs).length
      · exact atS_set hl
      · unfold atS
        rw [List.getElem?_eq_none (by rw [List.length_set]; omega)]
    · rw [atS_set_ne e]
      exact atS_wipe_in ((List.mem_cons.mp h).resolve_left fun z => e z.symm)
theorem wipe_same {σ σ2 : L2.St} {vs is : List Nat} (hs : ∀ i ∈ is, i ∈ vs) (h : ∀ j, j ∉ is → atS σ2 j = atS (wipe σ vs) j) (hl : σ2.length = (wipe σ vs).length) : wipe σ2 vs = wipe σ vs := by
  refine atS_ext (by rw [wipe_length]; exact hl) fun j => ?_
  by_cases hj : j ∈ vs
  · rw [atS_wipe_in hj, atS_wipe_in hj]
  · rw [atS_wipe hj, h j fun z => hj (hs j z)]
/-- a length that is in keeping with the heap -/
theorem pi_goodQ {X : Cx} {tg e : Expr} {t : TI} (h : PI X tg e t) : PI X tg e (fun σ H R => t σ H fun J H' => Good H' → R J H') := ⟨fun pins s σ H R I w =>
  wpAny_mono (h.run pins s σ H _ I w) (fun v s1 h1 => wpAny_mono h1 (fun itv s2 ⟨it, fp, tn, J, H', a, b, c, d, e, f⟩ => ⟨it, fp, tn, J, H', a, b, c, d, e, f (inv_good b)⟩) fun _ _ x => x) fun _ _ x => x⟩
section
variable {X : Cx} {T : Tb} {XR : XRel} {W : L2.WX}
abbrev noW : L2.WX := fun _ _ _ _ => False
theorem unl_wipe {ρ1 ρ : Env} {ls vs : List Nat} (hl : ρ1.length = ρ.length) (hw : wipeOk ρ1 vs = true) : unlend ρ1 (wipeS ρ vs) ls = wipeS (unlend ρ1 ρ ls) vs := by
  refine List.ext_getElem? fun j => ?_
  rw [unlend_get (by rw [wipeS_length]; exact hl)]
  by_cases hv : j ∈ vs
  · have a1 : ∀ ρ : Env, (wipeS ρ vs)[j]? = if j < ρ.length then some .no else none := fun ρ => by
      by_cases hj : j < ρ.length
      · rw [if_pos hj]
        have hj' : j < (wipeS ρ vs).length := by rw [wipeS_length]; exact hj
        rw [List.getElem?_eq_getElem hj']
        rcases wipeS_get (List.getElem?_eq_getElem hj') with ⟨_, b⟩ | ⟨a, _⟩
        · rw [b]
        · exact absurd hv a
      · rw [if_neg hj, List.getElem?_eq_none (by rw [wipeS_length]; omega)]
    have a2 : backSl ρ1[j]? (wipeS ρ vs)[j]? = (wipeS ρ vs)[j]? := by
      rcases wipeOk_at hw hv with w | ⟨d, w⟩ <;> (rw [w]; rfl)
    rw [a2, a1, a1, unlend_length]
    split <;> rfl
  · rw [wipeS_out hv, wipeS_out hv, unlend_get hl]
theorem comp_imp {is : List Nat} {one : Bool} {it e' c' : Ex} {vs : List Nat} (hs : ∀ i ∈ is, i ∈ vs) : ∀ σ H Q, RdV X.K XR W T (.comp e' is one it c' vs) σ H Q →
    tLc (fun σ H R => RdI X.K XR W T it σ H fun J H' => Good H' → R J H') (rT X.K is one) (RdC X.K XR noW T c') (RdV X.K XR noW T e') vs σ H Q := by
  rintro σ H Q ⟨F, M, ρ, er, x⟩
  refine ⟨F, M, ρ, er, At.bind (γ := Bool × D) (δ := V) (R := RV X.K) (Q := Q) (h := fun a ρ1 => if (wipeOk ρ1 vs && lsOk ρ1 a.2) = true then noEx (compL is one vs (condD (evalV T c') c') (evalV T e') a.1 (lends ρ1 a.2)) >>= fun p =>
      .ok ((true, .lst p.1), backS ρ1 (unlend ρ1 p.2 a.2) vs) else .no) x fun a J M1 H1 ρ1 ev1 er1 itr k1 => ?_⟩
  obtain ⟨ds, ls⟩ := a
  intro gd D hD
  by_cases hw : (wipeOk ρ1 vs && lsOk ρ1 ls) = true
  case neg => exact (k1.no (by simp only [hw]; rfl)).elim
  have hw1 : wipeOk ρ1 vs = true := (Bool.and_eq_true_iff.mp hw).1
  have hw2 : lsOk ρ1 ls = true := (Bool.and_eq_true_iff.mp hw).2
  cases ec : compL is one vs (condD (evalV T c') c') (evalV T e') ds (lends ρ1 ls) with
  | no => exact (k1.no (by simp only [hw, ec, if_true]; rfl)).elim
  | ex z ρ2 => exact (k1.no (by simp only [hw, ec, if_true]; rfl)).elim
  | ok p =>
  obtain ⟨outs, ρe⟩ := p
  have fin := k1.ok (a := ((true, Pd.D.lst outs) : Bool × Pd.D)) (ρ1 := backS ρ1 (unlend ρ1 ρe ls) vs) (by simp only [hw, ec, if_true]; rfl)
  obtain ⟨hlen, itr⟩ := itr
  have hlen : ds.length ≤ sizeLine := hlen gd
  -- the new list beside the slots
  have g0 : Grow M1 H1 (fun a => M1 a ∨ a = D) (upd H1 D (.lst [])) := Grow.new hD er1.mt trivial
  have er0 : EnvR X.K F (fun a => M1 a ∨ a = D) (upd H1 D (.lst [])) σ ρ1 := er1.grow g0
  have ns : ∀ i, mineAt ρ1 i = true → atS σ i ≠ some (.ref D) := fun i hm z => by
    obtain ⟨a, d, e1, _, _, c⟩ := er1.mineC hm
    rw [z] at e1
    obtain rfl : D = a := by injection e1 with e1; injection e1
    exact c.there hD
  have hDl : ∀ i, F.l i ≠ some D := fun i z => by
    obtain ⟨d, w⟩ := er1.lent i D z
    rcases w with w | w
    · obtain ⟨a, _, _, _, l, c⟩ := er1.sl i _ w
      rw [z] at l
      obtain rfl := Option.some.inj l
      exact c.there hD
    · obtain ⟨a, _, _, _, l, c⟩ := er1.sl i _ w
      rw [z] at l
      obtain rfl := Option.some.inj l
      exact c.there hD
  have hMD : ¬ M1 D := fun z => by
    have := er1.mt D z
    rw [hD] at this; exact this
  have erg : EnvR X.K (F.guard D) (fun a => M1 a ∨ a = D) (upd H1 D (.lst [])) σ ρ1 := er0.guard (.inr rfl) ns
  have erl := erg.lends hw2
  have hlw : ∀ j ∈ vs, ((F.guard D).lend σ ρ1 ls).l j = none := fun j hj => by
    rw [lendL_not fun d z => by rcases wipeOk_at hw1 hj with w | ⟨d', w⟩ <;> (rw [w] at z; cases z)]
    exact wipeOk_lent er1 hw1 j hj
  have hDl2 : ∀ i, ((F.guard D).lend σ ρ1 ls).l i ≠ some D := fun i z => by
    by_cases hh : ∃ d, ρ1[i]? = some (.ow d)
    · obtain ⟨d, hd⟩ := hh
      obtain ⟨a, q1, _, _, c⟩ := er1.sl i _ hd
      by_cases hi : i ∈ ls
      · rw [lendL_ow hi hd q1] at z
        obtain rfl := Option.some.inj z
        exact c.there hD
      · rw [lendL_out hi] at z
        exact hDl i z
    · rw [lendL_not fun d hd => hh ⟨d, hd⟩] at z
      exact hDl i z
  have hDp : ¬ ((F.guard D).lend σ ρ1 ls).p D := fun z => hMD (er1.pm D (.inl z))
  have hDk : ¬ (F.lend σ ρ1 ls).k D := fun z => by
    rcases z with z | z | ⟨i, _, d, w1, w2⟩
    · exact hMD (er1.pm D (.inl z))
    · exact hMD (er1.pm D (.inr z))
    · exact ns i (by unfold mineAt; rw [w1]; rfl) w2
  have sub : ∀ a, (F.lend σ ρ1 ls).k a → ((F.guard D).lend σ ρ1 ls).k a := fun a z => by
    rcases z with z | z | z
    · exact .inl z
    · exact .inr (.inl (.inl z))
    · exact .inr (.inr z)
  generalize hF2 : (F.guard D).lend σ ρ1 ls = F2 at erl hlw hDl2 hDp sub
  have hx2 : F2.x D := by rw [← hF2]; exact .inl (.inr rfl)
  refine ⟨fun i m H' => ∃ M ρi acc dsd rest, EnvR X.K F2 M H' (wipe σ vs) (wipeS ρi vs) ∧ Ev (F.lend σ ρ1 ls).k (fun a => M1 a ∨ a = D) (upd H1 D (.lst [])) M H' ∧ M D ∧ H' D = some (.lst acc) ∧ Reps X.K M H' acc dsd ∧
    compL is one vs (condD (evalV T c') c') (evalV T e') (ds.drop i) ρi = .ok (rest, ρe) ∧ outs = dsd ++ rest ∧ i + m = ds.length ∧ dsd.length ≤ i, ⟨ds.length, ?_⟩, ?_⟩
  · exact ⟨_, lends ρ1 ls, [], [], outs, erl.wipe hlw, .refl erl.mt, .inr rfl, upd_same, .nil, ec, rfl, by omega, Nat.le_refl _⟩
  rintro i m H' ⟨M2, ρi, acc, dsd, rest, er2, ev2, mD, hacc, racc, ecl, eo, him, hdl⟩
  obtain ⟨go, stop, yld⟩ := itr hw2 M2 H' ((g0.ev er1.mt).trans ev2) er2.mt
  by_cases hi : i < ds.length
  case neg =>
    -- the end
    have hi' : i = ds.length := by omega
    subst hi'
    rw [List.drop_length] at ecl
    obtain ⟨rfl, rfl⟩ : rest = [] ∧ ρe = ρi := by cases ecl; exact ⟨rfl, rfl⟩
    rw [List.append_nil] at eo
    subst eo
    refine .inl ⟨stop, ?_⟩
    have hl1 : ρ1.length = ρe.length := by have := er2.len; rw [wipeS_length, wipe_length] at this; rw [this, er1.len]
    have evu : EnvR X.K (F.guard D) M2 H' (wipe σ vs) (wipeS (unlend ρ1 ρe ls) vs) := by
      rw [← unl_wipe hl1 hw1]
      subst hF2
      exact erg.unlend hw2 er2 (P := (F.lend σ ρ1 ls).k) (fun a la => .inr (.inr la)) ev2 (wipe_length _ _)
    obtain ⟨ef, nf⟩ := (evu.back erg ev2 hw1).unguard hDl
    refine fin (.ref D) M2 H' (((g0.ev er1.mt).trans ev2).mono fun a z => z.elim .inl fun z => .inr (.inl z)) ef ?_
    exact ⟨D, rfl, mD, fun z => hDk (z.elim .inl fun z => .inr (.inl z)), nf, .lst hacc racc⟩
  case pos =>
    refine .inr ⟨go i hi, fun H'' => ∃ M ρi acc dsd rest, EnvR X.K F2 M H'' (wipe σ vs) (wipeS ρi vs) ∧ Ev (F.lend σ ρ1 ls).k (fun a => M1 a ∨ a = D) (upd H1 D (.lst [])) M H'' ∧ M D ∧ H'' D = some (.lst acc) ∧ Reps X.K M H'' acc dsd ∧
      compL is one vs (condD (evalV T c') c') (evalV T e') (ds.drop (i + 1)) ρi = .ok (rest, ρe) ∧ outs = dsd ++ rest ∧ dsd.length ≤ i + 1, ?_, ?_⟩
    · rintro H'' ⟨M, ρi, acc, dsd, rest, a1, a2, a3, a4, a5, a6, a7, a8⟩
      exact ⟨m - 1, by omega, M, ρi, acc, dsd, rest, a1, a2, a3, a4, a5, a6, a7, by omega, a8⟩
    · intro xv H3 hy
      have ed : ds.drop i = ds[i] :: ds.drop (i + 1) := List.drop_eq_getElem_cons hi
      rw [ed] at ecl
      obtain ⟨M3, gr, rx⟩ := yld i ds[i] xv H3 (List.getElem?_eq_getElem hi) hy
      unfold compL at ecl
      cases eb : bindI is one ds[i] (wipeS ρi vs) with
      | none => rw [eb] at ecl; cases ecl
      | some ρb =>
      rw [eb] at ecl
      dsimp only at ecl
      obtain ⟨pc, ecc, ecl⟩ := bind_eq_ok ecl
      obtain ⟨k, ρc⟩ := pc
      have er3 := er2.grow gr
      refine ⟨F2, M3, ds[i], wipeS ρi vs, ρb, er3, rx, eb, fun σ2 e2 hj hl2 => ?_⟩
      have hσ2 : wipe σ2 vs = wipe σ vs := wipe_same hs hj hl2
      refine ⟨hσ2, F2, M3, ρb, e2, ?_⟩
      unfold At
      rw [ecc]
      intro b M4 H4 ev4 er4 hb
      have hb' : k = b := hb
      subst hb'
      have ev24 : Ev F2.k M2 H' M4 H4 := (gr.ev er2.mt).trans ev4
      cases k with
      | false =>
        rw [if_neg Bool.false_ne_true]
        have ecl' : compL is one vs (condD (evalV T c') c') (evalV T e') (ds.drop (i + 1)) ρc = .ok (rest, ρe) := ecl
        obtain ⟨pD, mD4⟩ := ev24.prot D (.inr hx2) mD
        exact ⟨M4, ρc, acc, dsd, rest, hσ2 ▸ er4.wipe hlw, ev2.trans (ev24.mono sub), mD4, pD.trans hacc, racc.ev ev24, ecl', eo, by omega⟩
      | true =>
        rw [if_pos rfl]
        have ecl' : (evalV T e' ρc >>= fun q => compL is one vs (condD (evalV T c') c') (evalV T e') (ds.drop (i + 1)) q.2 >>= fun r => .ok (q.1.2 :: r.1, r.2)) = .ok (rest, ρe) := ecl
        obtain ⟨q, eq1, ecl2⟩ := bind_eq_ok ecl'
        obtain ⟨⟨o, v⟩, ρd⟩ := q
        obtain ⟨r, er_, ecl3⟩ := bind_eq_ok ecl2
        obtain ⟨rest', ρe'⟩ := r
        obtain ⟨rfl, rfl⟩ : rest = v :: rest' ∧ ρe = ρe' := by cases ecl3; exact ⟨rfl, rfl⟩
        refine ⟨F2, M4, ρc, er4, ?_⟩
        unfold At
        rw [eq1]
        intro y M5 H5 ev5 er5 rv
        obtain ⟨M6, ev6, er6, ry⟩ := RvR.freeze er5 rv
        have evA : Ev F2.k M2 H' M6 H5 := (ev24.trans ev5).trans ev6
        obtain ⟨pD, mD6⟩ := evA.prot D (.inr hx2) mD
        obtain ⟨er7, evw⟩ := er6.writeG (o := .lst (acc ++ [y])) mD6 hx2 hDp hDl2 trivial
        have evw2 := evw (F.lend σ ρ1 ls).k hDk
        have racc6 := racc.ev evA
        refine ⟨acc, pD.trans hacc, by rw [racc.length]; omega, M6, ρd, acc ++ [y], dsd ++ [v], rest', hσ2 ▸ er7.wipe hlw, (ev2.trans (evA.mono sub)).trans evw2, mD6, upd_same, ?_, er_, by rw [eo, List.append_assoc] <;> rfl, by rw [List.length_append]; simp only [List.length_cons, List.length_nil]; omega⟩
        exact (racc6.ev evw2).append (.cons (ry.ev evw2) .nil)
theorem simComp {elt tg iter : Expr} {ifs : List Expr} {scope : Scope} {own : List (Str × Nat)} {pos : Pos} {is : List Nat} {one : Bool} {it e' c' : Ex} (hc : X.calm = true) (hN : X.N.Nodup) (hI : PI X tg iter (RdI X.K XR W T it)) (ok : BlkOk X.N X.env.scope scope own)
    (hg : ∀ (s : Shared) (H : Hp) (C : Addr) (cl : List (Str × Addr)) (fp : List Addr), PG (X.blk s H scope (compEnvC scope cl C X.env) fp) tg (rT X.K is one))
    (ht : ∀ (s : Shared) (H : Hp) (C : Addr) (cl : List (Str × Addr)) (fp : List Addr), PTs (X.blk s H scope (compEnvC scope cl C X.env) fp) ifs (RdC X.K XR noW T c'))
    (he : ∀ (s : Shared) (H : Hp) (C : Addr) (cl : List (Str × Addr)) (fp : List Addr), PE (X.blk s H scope (compEnvC scope cl C X.env) fp) elt (RdV X.K XR noW T e'))
    (hs : ∀ i ∈ is, i ∈ own.map (·.2)) (hfs : ∀ x, foldedSetIterable iter X.env x = pure x) : PE X (.ListComp elt [⟨tg, iter, ifs, 0⟩] scope pos) (RdV X.K XR W T (.comp e' is one it c' (own.map (·.2)))) :=
  pe_imp (pe_lc hc hN (pi_goodQ hI) ok hg ht he hfs) (comp_imp hs)
theorem simSetComp {elt tg iter : Expr} {ifs : List Expr} {scope : Scope} {own : List (Str × Nat)} {pos spos py : Pos} {y : Str} {i : Nat} {is : List Nat} {one : Bool} {it e' c' : Ex} (hc : X.calm = true) (hN : X.N.Nodup) (hI : PI X tg iter (RdI X.K XR W T it)) (ok : BlkOk X.N X.env.scope scope own)
    (hg : ∀ (s : Shared) (H : Hp) (C : Addr) (cl : List (Str × Addr)) (fp : List Addr), PG (X.blk s H scope (compEnvC scope cl C X.env) fp) tg (rT X.K is one))
    (ht : ∀ (s : Shared) (H : Hp) (C : Addr) (cl : List (Str × Addr)) (fp : List Addr), PTs (X.blk s H scope (compEnvC scope cl C X.env) fp) ifs (RdC X.K XR noW T c'))
    (he : ∀ (s : Shared) (H : Hp) (C : Addr) (cl : List (Str × Addr)) (fp : List Addr), PE (X.blk s H scope (compEnvC scope cl C X.env) fp) elt (RdV X.K XR noW T e'))
    (hs : ∀ i ∈ is, i ∈ own.map (·.2)) (hfs : ∀ x, foldedSetIterable iter X.env x = pure x) (hy : X.N[i]? = some y) (hyl : X.env.scope.names.lookup y = some .local) (hsw : swapsWith (.ListComp elt [⟨tg, iter, ifs, 0⟩] scope pos) (some (.Name y py)) spos.line X.env = pure true) : PS X (.Assign [.Name y py] (.ListComp elt [⟨tg, iter, ifs, 0⟩] scope pos) spos) (tAsg (RdV X.K XR W T (.comp e' is one it c' (own.map (·.2)))) (gName i)) :=
  ps_imp (ps_setLc hc hN hy hyl hsw (pi_goodQ hI) ok hg ht he hfs) fun D σ H w => comp_imp hs _ _ _ w
end
end Pd
set_option Elab.async false
set_option linter.all false
/-! Pd10: calls of defs. -/
namespace Pd
open PySem PySem.Spec PyProof.Rows L2
/-- the arguments as the parameters hold them -/
inductive ArgsR (K : PySem.W.Frag) (P M : Ad) (H : Hp) : List Kd → List V → List D → Prop
  | nil : ArgsR K P M H [] [] []
  | fr {ks vs ds v d} : Rep K M H v d → ArgsR K P M H ks vs ds → ArgsR K P M H (.fr :: ks) (v :: vs) (d :: ds)
  | bo {ks vs ds v d} : (Rep K M H v d ∨ ∃ a, v = .ref a ∧ P a ∧ M a ∧ Con K M H a d) → ArgsR K P M H ks vs ds → ArgsR K P M H (.bo :: ks) (v :: vs) (d :: ds)
  | io {ks vs ds a d} : M a → ¬ P a → Con K M H a d → ArgsR K P M H ks vs ds → ArgsR K P M H (.io :: ks) (.ref a :: vs) (d :: ds)
/-- .. behind the call -/
inductive OutsR (K : PySem.W.Frag) (M : Ad) (H : Hp) : List Kd → List V → List D → Prop
  | nil : OutsR K M H [] [] []
  | fr {ks vs ds v} : OutsR K M H ks vs ds → OutsR K M H (.fr :: ks) (v :: vs) ds
  | bo {ks vs ds v} : OutsR K M H ks vs ds → OutsR K M H (.bo :: ks) (v :: vs) ds
  | io {ks vs ds a d} : M a → Con K M H a d → OutsR K M H ks vs ds → OutsR K M H (.io :: ks) (.ref a :: vs) (d :: ds)
/-- the lent addresses -/
def IoA : List Kd → List V → Ad
  | .io :: ks, .ref b :: vs => fun a => a = b ∨ IoA ks vs a
  | _ :: ks, _ :: vs => IoA ks vs
  | _, _ => fun _ => False
def IoNe : List Kd → List V → Prop
  | .io :: ks, .ref b :: vs => ¬ IoA ks vs b ∧ IoNe ks vs
  | _ :: ks, _ :: vs => IoNe ks vs
  | _, _ => True
/-- what a def promises -/
def spT (K : PySem.W.Frag) (XR : XRel) (T : Tb) (f : Str) : Sp := fun vs H Q E => ∃ P M ds, (∀ a, M a → Mut (H a)) ∧ (∀ a, P a → M a) ∧ ArgsR K P M H (T.kinds f) vs ds ∧ IoNe (T.kinds f) vs ∧
  match T.call f ds with
  | .ok own d outs => ∀ v M' H', Ev P M H M' H' → (∀ a, M' a → Mut (H' a)) → OutsR K M' H' (T.kinds f) vs outs →
      (if own = true then ∃ a, v = .ref a ∧ M' a ∧ ¬ P a ∧ ¬ IoA (T.kinds f) vs a ∧ Con K M' H' a d else Rep K M' H' v d) → Q v H'
  | .ex x => ∀ c da M' H', Ev P M H M' H' → (∀ a, M' a → Mut (H' a)) → XR M' H' x c da → E c da H'
  | .no => False
theorem ArgsR.len {K : PySem.W.Frag} {P M : Ad} {H : Hp} : ∀ {ks : List Kd} {vs : List V} {ds : List D}, ArgsR K P M H ks vs ds → vs.length = ks.length ∧ ds.length = ks.length
  | _, _, _, .nil => ⟨rfl, rfl⟩
  | _, _, _, .fr _ t => by simp [t.len.1, t.len.2]
  | _, _, _, .bo _ t => by simp [t.len.1, t.len.2]
  | _, _, _, .io _ _ _ t => by simp [t.len.1, t.len.2]
/-- an argument that has come -/
def ArR (K : PySem.W.Frag) (M : Ad) (H : Hp) (σ : L2.St) : Kd → Ar → V → Prop
  | .fr, .d x, v => Rep K M H v x
  | .bo, .d x, v => Rep K M H v x
  | .bo, .s i, v => atS σ i = some v
  | .io, .io i, v => atS σ i = some v
  | _, _, _ => False
inductive ArsR (K : PySem.W.Frag) (M : Ad) (H : Hp) (σ : L2.St) : List Kd → List Ar → List V → Prop
  | nil : ArsR K M H σ [] [] []
  | cons {k ks a as v vs} : ArR K M H σ k a v → ArsR K M H σ ks as vs → ArsR K M H σ (k :: ks) (a :: as) (v :: vs)
def RAs (K : PySem.W.Frag) (ks : List Kd) : Fx → Ad → Hp → L2.St → Env → List Ar → List V → Prop := fun _ M H σ ρ as vs => ArsR K M H σ ks as vs
abbrev RdAs (K : PySem.W.Frag) (XR : XRel) (W : L2.WX) (T : Tb) (es : List Ex) (ks : List Kd) : TA := Rg K XR W (evalAs T es ks) (RAs K ks)
section
variable {X : Cx} {T : Tb} {XR : XRel} {W : L2.WX}
theorem ArR.ev {K : PySem.W.Frag} {P M M' : Ad} {H H' : Hp} {σ : L2.St} (e : Ev P M H M' H') {k : Kd} {a : Ar} {v : V} (h : ArR K M H σ k a v) : ArR K M' H' σ k a v := by
  cases k <;> cases a <;> first | exact Rep.ev e h | exact h
theorem simAr {e : Expr} {x : Ex} (h : PE X e (RdV X.K XR W T x)) (hv : ∀ i, x = .var i → PE X e (tVar i)) (k : Kd) : PE X e (Rg X.K XR W (argD (evalV T x) x k) (fun _ M H σ _ a v => ArR X.K M H σ k a v)) := by
  have fr : ∀ k', (k' = .fr ∨ k' = .bo) → (∀ ρ, argD (evalV T x) x k' ρ = (evalV T x ρ >>= fun p => .ok (.d p.1.2, p.2))) → PE X e (Rg X.K XR W (argD (evalV T x) x k') (fun _ M H σ _ a v => ArR X.K M H σ k' a v)) := by
    intro k' hk' he
    refine pe_imp h ?_
    rintro σ H Q ⟨F, M, ρ, er, y⟩
    refine ⟨F, M, ρ, er, At.bind (γ := Ar) (δ := V) (h := fun (a : Bool × D) ρ' => Res.ok (Ar.d a.2, ρ')) (R1 := RV X.K) (R := fun _ M H σ _ a v => ArR X.K M H σ k' a v) (Q := Q) (At.cong (he ρ) y) ?_⟩
    intro a b M1 H1 ρ1 ev er1 r k2
    obtain ⟨M2, ev2, er2, rp⟩ := RvR.freeze er1 r
    refine k2.ok (a := Ar.d a.2) (ρ1 := ρ1) rfl b M2 H1 ev2 er2 ?_
    rcases hk' with rfl | rfl <;> exact rp
  have nm : ∀ i, x = .var i → ∀ k' (c : Nat → Ar) (t : Env → Nat → Bool), (∀ ρ, argD (evalV T x) x k' ρ = if t ρ i = true then .ok (c i, ρ) else .no) → (∀ ρ, t ρ i = true → hasV ρ i = true) → (∀ M H σ v, atS σ i = some v → ArR X.K M H σ k' (c i) v) →
      PE X e (Rg X.K XR W (argD (evalV T x) x k') (fun _ M H σ _ a v => ArR X.K M H σ k' a v)) := by
    intro i hx k' c t he ht hr
    refine pe_imp (hv i hx) ?_
    rintro σ H Q ⟨F, M, ρ, er, y⟩
    by_cases hs : t ρ i = true
    · obtain ⟨v, q⟩ := hasV_some er (ht ρ hs)
      exact ⟨v, atS_some q, y.ok (a := c i) (ρ1 := ρ) (by rw [he, if_pos hs]) v M H (.refl er.mt) er (hr M H σ v q)⟩
    · exact (y.no (by rw [he, if_neg hs])).elim
  have mv : ∀ (ρ : Env) (i : Nat), mineV ρ i = true → hasV ρ i = true := fun ρ i h => by
    unfold mineV at h
    unfold hasV getOp
    split at h
    · rename_i d e; simp only [e]; rfl
    · rename_i d e; simp only [e]; rfl
    · cases h
  cases k with
  | fr => exact fr .fr (.inl rfl) fun _ => rfl
  | bo =>
    cases x with
    | var i => exact nm i rfl .bo .s hasV (fun _ => rfl) (fun _ h => h) (fun _ _ _ _ h => h)
    | _ => exact fr .bo (.inr rfl) fun _ => rfl
  | io =>
    cases x with
    | var i => exact nm i rfl .io .io mineV (fun _ => rfl) (fun ρ h => mv ρ i h) (fun _ _ _ _ h => h)
    | _ => exact pe_absurd fun σ H Q ⟨F, M, ρ, er, y⟩ => y.no rfl
theorem simAs : ∀ {es : List Expr} {xs : List Ex} (ks : List Kd), Paired (fun e x => notStar e = true ∧ PE X e (RdV X.K XR W T x) ∧ ∀ i, x = .var i → PE X e (tVar i)) es xs → PA X es (RdAs X.K XR W T xs ks)
  | [], _, [], .nil => by
    refine pa_imp pa_nil ?_
    rintro σ H Q ⟨F, M, ρ, er, x⟩
    exact x.ok (a := []) (ρ1 := ρ) rfl [] M H (.refl er.mt) er .nil
  | [], _, _ :: _, .nil => ⟨fun _ _ _ σ H Q _ ⟨F, M, ρ, er, x⟩ => (x.no rfl).elim⟩
  | e :: es, x :: xs, [], .cons h t => ⟨fun _ _ _ σ H Q _ ⟨F, M, ρ, er, x⟩ => (x.no rfl).elim⟩
  | e :: es, x :: xs, k :: ks, .cons h t => by
    refine pa_imp (pa_cons (simAr h.2.1 h.2.2 k) (simAs ks t) (starEach_cons h.1)) ?_
    rintro σ H Q ⟨F, M, ρ, er, y⟩
    refine ⟨F, M, ρ, er, At.bind (γ := List Ar) (δ := List V) (R := RAs X.K (k :: ks)) (Q := Q) (h := fun a ρ1 => evalAs T xs ks ρ1 >>= fun p => .ok (a :: p.1, p.2)) y fun a v M1 H1 ρ1 ev1 er1 r1 k1 => ?_⟩
    refine ⟨F, M1, ρ1, er1, At.bind (γ := List Ar) (δ := List V) (R := RAs X.K (k :: ks)) (Q := Q) (h := fun ds ρ2 => .ok (a :: ds, ρ2)) k1 fun ds vs M3 H3 ρ3 ev3 er3 r3 k3 => ?_⟩
    exact k3.ok (a := a :: ds) (ρ1 := ρ3) rfl (v :: vs) M3 H3 (.refl er3.mt) er3 (.cons (r1.ev ev3) r3)
end
/-! ### the caller's slots behind the call -/
section
variable {K : PySem.W.Frag} {F : Fx} {M M' : Ad} {H H' : Hp} {σ : L2.St} {ρ : Env}
/-- the addresses that the arguments lend -/
def LendAr (σ : L2.St) (as : List Ar) : Ad := fun a => ∃ i, .io i ∈ as ∧ atS σ i = some (.ref a)
/-- slots as EnvR says, but those at Z, whose things are in another's hands -/
structure EnvZ (K : PySem.W.Frag) (F : Fx) (Z : Nat → Prop) (M : Ad) (H : Hp) (σ : L2.St) (ρ : Env) : Prop where
  mt : ∀ a, M a → Mut (H a)
  pm : ∀ a, F.k a → M a
  len : ρ.length = σ.length
  sl : ∀ (i : Nat) (s : Sl), ρ[i]? = some s → ¬ Z i → SlR K F M H i (atS σ i) s
  zs : ∀ i, Z i → ∃ a d, atS σ i = some (.ref a) ∧ M a ∧ ¬ F.k a ∧ (ρ[i]? = some (.ow d) ∨ (ρ[i]? = some (.io d) ∧ F.l i = some a))
  ne : ∀ (i j : Nat) (a : Addr), i ≠ j → mineAt ρ i = true → mineAt ρ j = true → atS σ i = some (.ref a) → atS σ j ≠ some (.ref a)
  lent : ∀ (j : Nat) (a : Addr), F.l j = some a → ∃ d, ρ[j]? = some (.io d) ∨ ρ[j]? = some (.le d)
theorem EnvZ.env {Z : Nat → Prop} (e : EnvZ K F Z M H σ ρ) (h : ∀ i, ¬ Z i) : EnvR K F M H σ ρ := ⟨e.mt, e.pm, e.len, fun i s es => e.sl i s es (h i), e.ne, e.lent⟩
theorem EnvZ.put {Z : Nat → Prop} (e : EnvZ K F Z M H σ ρ) {i : Nat} {a : Addr} {d : D} (hz : Z i) (ha : atS σ i = some (.ref a)) (c : Con K M H a d) : EnvZ K F (fun j => Z j ∧ j ≠ i) M H σ (putIo i d ρ) := by
  obtain ⟨a', d', e1, m, nk, hs⟩ := e.zs i hz
  rw [ha] at e1
  obtain rfl : a = a' := by injection e1 with e1; injection e1
  -- the slot keeps its kind
  have step : ∃ s', putIo i d ρ = ρ.set i s' ∧ s'.mine = true ∧ SlR K F M H i (atS σ i) s' ∧ ((s' = .ow d ∧ ∃ d', ρ[i]? = some (.ow d')) ∨ (s' = .io d ∧ ∃ d', ρ[i]? = some (.io d'))) := by
    rcases hs with hs | ⟨hs, hl⟩
    · exact ⟨.ow d, by unfold putIo; rw [hs], rfl, ⟨a, ha, m, nk, c⟩, .inl ⟨rfl, _, hs⟩⟩
    · exact ⟨.io d, by unfold putIo; rw [hs], rfl, ⟨a, ha, m, nk, hl, c⟩, .inr ⟨rfl, _, hs⟩⟩
  obtain ⟨s', ep, hm, hsl, hk⟩ := step
  have hi : i < ρ.length := by
    rcases hs with hs | ⟨hs, _⟩ <;> exact (List.getElem?_eq_some_iff.mp hs).1
  have mi : mineAt ρ i = true := by
    unfold mineAt
    rcases hs with hs | ⟨hs, _⟩ <;> (rw [hs]; rfl)
  rw [ep]
  have old : ∀ k, mineAt (ρ.set i s') k = true → mineAt ρ k = true := fun k h => by
    by_cases z : i = k
    · subst z; exact mi
    · rwa [mineAt_set_ne z] at h
  refine ⟨e.mt, e.pm, by rw [List.length_set]; exact e.len, fun j s es hz' => ?_, fun j hz' => ?_, fun j k b hjk h1 h2 => e.ne j k b hjk (old j h1) (old k h2), fun j b hl => ?_⟩
  · by_cases hj : i = j
    · subst hj
      rw [List.getElem?_set_self hi] at es
      obtain rfl := Option.some.inj es
      exact hsl
    · rw [List.getElem?_set_ne hj] at es
      exact e.sl j s es fun z => hz' ⟨z, fun q => hj q.symm⟩
  · obtain ⟨b, db, q1, q2, q3, q4⟩ := e.zs j hz'.1
    refine ⟨b, db, q1, q2, q3, ?_⟩
    rw [List.getElem?_set_ne (fun z => hz'.2 z.symm)]
    exact q4
  · obtain ⟨d2, w⟩ := e.lent j b hl
    by_cases hj : i = j
    · subst hj
      rw [List.getElem?_set_self hi]
      rcases hk with ⟨rfl, d3, q⟩ | ⟨rfl, d3, q⟩
      · rw [q] at w
        rcases w with w | w <;> cases w
      · exact ⟨d, .inl rfl⟩
    · rw [List.getElem?_set_ne hj]
      exact ⟨d2, w⟩
theorem ArsR.mem {ks : List Kd} {as : List Ar} {vs : List V} (h : ArsR K M H σ ks as vs) : ∀ a, IoA ks vs a → LendAr σ as a := by
  induction h with
  | nil => intro a z; exact z.elim
  | @cons k ks ar as v vs h1 h2 ih =>
    intro a z
    cases k with
    | fr => obtain ⟨i, m, q⟩ := ih a (by cases v <;> exact z); exact ⟨i, List.mem_cons_of_mem _ m, q⟩
    | bo => obtain ⟨i, m, q⟩ := ih a (by cases v <;> exact z); exact ⟨i, List.mem_cons_of_mem _ m, q⟩
    | io =>
      cases ar with
      | io i =>
        have h1' : atS σ i = some v := h1
        cases v with
        | ref b =>
          rcases (show a = b ∨ IoA ks vs a from z) with rfl | z
          · exact ⟨i, by simp, h1'⟩
          · obtain ⟨i, m, q⟩ := ih a z; exact ⟨i, List.mem_cons_of_mem _ m, q⟩
        | _ => obtain ⟨i, m, q⟩ := ih a z; exact ⟨i, List.mem_cons_of_mem _ m, q⟩
      | _ => exact h1.elim
theorem ioDup_cons {a : Ar} {as : List Ar} (h : ioDup (a :: as) = false) : ioDup as = false ∧ (∀ i, a = .io i → (∀ j, .io j ∈ as → i ≠ j) ∧ ∀ j, .s j ∈ as → i ≠ j) ∧ ∀ i, a = .s i → ∀ j, .io j ∈ as → i ≠ j := by
  cases a with
  | d x => exact ⟨h, (fun i z => nomatch z), (fun i z => nomatch z)⟩
  | s i =>
    unfold ioDup at h
    rw [Bool.or_eq_false_iff] at h
    refine ⟨h.2, (fun i z => nomatch z), fun i' z j hj e => ?_⟩
    cases z
    have := List.any_eq_false.mp h.1 _ hj
    simp only [beq_iff_eq] at this
    exact this e
  | io i =>
    unfold ioDup at h
    rw [Bool.or_eq_false_iff] at h
    refine ⟨h.2, fun i' z => ?_, (fun i z => nomatch z)⟩
    cases z
    refine ⟨fun j hj e => ?_, fun j hj e => ?_⟩
    · have := List.any_eq_false.mp h.1 _ hj
      simp only [beq_iff_eq] at this
      exact this e
    · have := List.any_eq_false.mp h.1 _ hj
      simp only [beq_iff_eq] at this
      exact this e
/-- the outs are put back, one behind another -/
theorem EnvZ.puts {ks : List Kd} : ∀ {as : List Ar} {vs : List V} {outs : List D} {ρ ρ' : Env} {Z : Nat → Prop} {M0 : Ad} {H0 : Hp}, EnvZ K F Z M H σ ρ → ArsR K M0 H0 σ ks as vs → OutsR K M H ks vs outs → ioDup as = false → (∀ i, .io i ∈ as → Z i) → putOuts as outs ρ = some ρ' →
    EnvZ K F (fun j => Z j ∧ .io j ∉ as) M H σ ρ' ∧ (∀ i, mineAt ρ' i = true → mineAt ρ i = true) := by
  induction ks with
  | nil =>
    intro as vs outs ρ ρ' Z M0 H0 e ha ho hd hz hp
    cases ha
    cases ho
    cases hp
    refine ⟨?_, fun i h => h⟩
    have : (fun j => Z j ∧ Ar.io j ∉ ([] : List Ar)) = Z := by funext j; simp
    rw [this]; exact e
  | cons k ks ih =>
    intro as vs outs ρ ρ' Z M0 H0 e ha ho hd hz hp
    cases ha with
    | @cons _ _ a as v vs h1 h2 =>
    have hdc := ioDup_cons hd
    cases k with
    | fr =>
      cases ho with
      | fr ho =>
      cases a with
      | d x =>
        obtain ⟨r1, r2⟩ := ih e h2 ho hdc.1 (fun i m => hz i (List.mem_cons_of_mem _ m)) hp
        refine ⟨?_, r2⟩
        have : (fun j => Z j ∧ Ar.io j ∉ (Ar.d x :: as)) = fun j => Z j ∧ Ar.io j ∉ as := by funext j; simp
        rw [this]; exact r1
      | _ => exact h1.elim
    | bo =>
      cases ho with
      | bo ho =>
      cases a with
      | d x =>
        obtain ⟨r1, r2⟩ := ih e h2 ho hdc.1 (fun i m => hz i (List.mem_cons_of_mem _ m)) hp
        refine ⟨?_, r2⟩
        have : (fun j => Z j ∧ Ar.io j ∉ (Ar.d x :: as)) = fun j => Z j ∧ Ar.io j ∉ as := by funext j; simp
        rw [this]; exact r1
      | s x =>
        obtain ⟨r1, r2⟩ := ih e h2 ho hdc.1 (fun i m => hz i (List.mem_cons_of_mem _ m)) hp
        refine ⟨?_, r2⟩
        have : (fun j => Z j ∧ Ar.io j ∉ (Ar.s x :: as)) = fun j => Z j ∧ Ar.io j ∉ as := by funext j; simp
        rw [this]; exact r1
      | io x => exact h1.elim
    | io =>
      cases ho with
      | @io _ _ outs b d mb cb ho =>
      cases a with
      | io i =>
        have h1' : atS σ i = some (.ref b) := h1
        have hp' : putOuts as outs (putIo i d ρ) = some ρ' := hp
        have e1 := e.put (hz i (by simp)) h1' cb
        obtain ⟨r1, r2⟩ := ih e1 h2 ho hdc.1 (fun j m => ⟨hz j (List.mem_cons_of_mem _ m), fun q => (hdc.2.1 i rfl).1 j m q.symm⟩) hp'
        refine ⟨?_, fun j h => ?_⟩
        · have : (fun j => Z j ∧ Ar.io j ∉ (Ar.io i :: as)) = fun j => (Z j ∧ j ≠ i) ∧ Ar.io j ∉ as := by
            funext j
            simp only [List.mem_cons, Ar.io.injEq, not_or, eq_iff_iff]
            exact ⟨fun ⟨a, b, c⟩ => ⟨⟨a, b⟩, c⟩, fun ⟨⟨a, b⟩, c⟩ => ⟨a, b, c⟩⟩
          rw [this]; exact r1
        · have := r2 j h
          unfold putIo at this
          unfold mineAt at this ⊢
          split at this
          · rename_i s es
            split at es
            · rename_i d0 e0
              by_cases hj : i = j
              · subst hj; rw [e0]; rfl
              · rw [List.getElem?_set_ne hj] at es; rw [es]; exact this
            · rename_i d0 e0
              by_cases hj : i = j
              · subst hj; rw [e0]; rfl
              · rw [List.getElem?_set_ne hj] at es; rw [es]; exact this
            · rw [es]; exact this
          · cases this
      | _ => exact h1.elim
end
end Pd
set_option Elab.async false
set_option linter.all false
/-! Pd11: a call of a def. -/
namespace Pd
open PySem PySem.Spec PyProof.Rows L2
section
variable {K : PySem.W.Frag} {F : Fx} {M M' : Ad} {H H' : Hp} {σ : L2.St} {ρ : Env}
theorem ArsR.mem2 {ks : List Kd} {as : List Ar} {vs : List V} (h : ArsR K M H σ ks as vs) : ∀ a, LendAr σ as a → IoA ks vs a := by
  induction h with
  | nil => rintro a ⟨i, m, _⟩; cases m
  | @cons k ks ar as v vs h1 h2 ih =>
    rintro a ⟨i, m, q⟩
    rcases List.mem_cons.mp m with m | m
    · subst m
      cases k with
      | io =>
        have h1' : atS σ i = some v := h1
        rw [q] at h1'
        cases h1'
        exact .inl rfl
      | _ => exact h1.elim
    · have t := ih a ⟨i, m, q⟩
      cases k with
      | fr => cases v <;> exact t
      | bo => cases v <;> exact t
      | io => cases v <;> first | exact .inr t | exact t
theorem ioDup_io {as : List Ar} (h : ioDup as = false) {i j : Nat} (hi : .s i ∈ as) (hj : .io j ∈ as) : i ≠ j := by
  induction as with
  | nil => cases hi
  | cons a as ih =>
    have hd := ioDup_cons h
    rcases List.mem_cons.mp hi with hi1 | hi1
    · subst hi1
      rcases List.mem_cons.mp hj with hj | hj
      · cases hj
      · exact hd.2.2 i rfl j hj
    · have hi0 := hi1
      rcases List.mem_cons.mp hj with hj | hj
      · subst hj
        exact fun e => (hd.2.1 j rfl).2 i hi0 e.symm
      · exact ih hd.1 hi0 hj
/-- the callee keeps all that is not lent to it -/
abbrev PAr (M : Ad) (σ : L2.St) (as : List Ar) : Ad := fun a => M a ∧ ¬ LendAr σ as a
theorem lendAr_mine {as : List Ar} {ds : List D} (g : getArs ρ as = some ds) {i : Nat} (h : .io i ∈ as) : mineAt ρ i = true := by
  induction as generalizing ds with
  | nil => cases h
  | cons a as ih =>
    unfold getArs at g
    split at g
    · rename_i d ds' h1 h2
      rcases List.mem_cons.mp h with h | h
      · subst h
        unfold getAr at h1
        unfold mineAt
        dsimp only at h1
        split at h1
        · rename_i e; rw [e]; rfl
        · rename_i e; rw [e]; rfl
        · cases h1
      · exact ih h2 h
    · cases g
theorem lendAr_k (e : EnvR K F M H σ ρ) {as : List Ar} {ds : List D} (g : getArs ρ as = some ds) {a : Addr} (k : F.k a) : ¬ LendAr σ as a := by
  rintro ⟨i, m, q⟩
  obtain ⟨b, d, e1, _, nk, _⟩ := e.mineC (lendAr_mine g m)
  rw [q] at e1
  cases e1
  exact nk k
theorem ArR.arg (e : EnvR K F M H σ ρ) {all : List Ar} {dsA : List D} (gA : getArs ρ all = some dsA) (hd : ioDup all = false) {k : Kd} {a : Ar} {v : V} {d : D} (ha : a ∈ all) (h : ArR K M H σ k a v) (g : getAr ρ a = some d) :
    (k = .fr ∧ Rep K M H v d) ∨ (k = .bo ∧ (Rep K M H v d ∨ ∃ b, v = .ref b ∧ PAr M σ all b ∧ M b ∧ Con K M H b d)) ∨ (k = .io ∧ ∃ b, v = .ref b ∧ M b ∧ ¬ PAr M σ all b ∧ Con K M H b d) := by
  cases k with
  | fr =>
    cases a with
    | d x => cases g; exact .inl ⟨rfl, h⟩
    | _ => exact h.elim
  | bo =>
    refine .inr (.inl ⟨rfl, ?_⟩)
    cases a with
    | d x => cases g; exact .inl h
    | io i => exact h.elim
    | s i =>
      have h' : atS σ i = some v := h
      have g' : (match ρ[i]? with | some s => s.val | none => none) = some d := g
      split at g'
      · rename_i s es
        have q := e.sl i s es
        rw [h'] at q
        have nl : mineAt ρ i = true → ∀ b, v = .ref b → ¬ LendAr σ all b := fun mi b hb hl => by
          obtain ⟨j, m, q2⟩ := hl
          subst hb
          exact e.ne i j b (ioDup_io hd ha m) mi (lendAr_mine gA m) h' q2
        cases s with
        | no => cases g'
        | fr d' => cases g'; obtain ⟨x, e1, r⟩ := q; cases e1; exact .inl r
        | bo d' =>
          cases g'
          obtain ⟨x, e1, r⟩ := q
          cases e1
          rcases r with r | ⟨b, eb, p, m, c⟩
          · exact .inl r
          · exact .inr ⟨b, eb, ⟨m, lendAr_k e gA (.inl p)⟩, m, c⟩
        | ow d' =>
          cases g'
          obtain ⟨b, e1, m, _, c⟩ := q
          cases e1
          exact .inr ⟨b, rfl, ⟨m, nl (by unfold mineAt; rw [es]; rfl) b rfl⟩, m, c⟩
        | io d' =>
          cases g'
          obtain ⟨b, e1, m, _, _, c⟩ := q
          cases e1
          exact .inr ⟨b, rfl, ⟨m, nl (by unfold mineAt; rw [es]; rfl) b rfl⟩, m, c⟩
        | le d' =>
          cases g'
          obtain ⟨b, e1, m, x, _, c⟩ := q
          cases e1
          exact .inr ⟨b, rfl, ⟨m, lendAr_k e gA (.inr x)⟩, m, c⟩
      · cases g'
  | io =>
    refine .inr (.inr ⟨rfl, ?_⟩)
    cases a with
    | io i =>
      have h' : atS σ i = some v := h
      have g' : (match ρ[i]? with
        | some (.ow d) => some d
        | some (.io d) => some d
        | _ => none) = some d := g
      split at g'
      · rename_i d' es
        cases g'
        obtain ⟨b, e1, m, _, c⟩ := e.sl i _ es
        rw [h'] at e1
        cases e1
        exact ⟨b, rfl, m, fun z => z.2 ⟨i, ha, h'⟩, c⟩
      · rename_i d' es
        cases g'
        obtain ⟨b, e1, m, _, _, c⟩ := e.sl i _ es
        rw [h'] at e1
        cases e1
        exact ⟨b, rfl, m, fun z => z.2 ⟨i, ha, h'⟩, c⟩
      · cases g'
    | _ => exact h.elim
theorem ArsR.args (e : EnvR K F M H σ ρ) {all : List Ar} {dsA : List D} (gA : getArs ρ all = some dsA) (hd : ioDup all = false) {ks : List Kd} {as : List Ar} {vs : List V} (h : ArsR K M H σ ks as vs) : ∀ {ds : List D}, (∀ a ∈ as, a ∈ all) → getArs ρ as = some ds → ArgsR K (PAr M σ all) M H ks vs ds := by
  induction h with
  | nil => intro ds _ g; cases g; exact .nil
  | @cons k ks ar as v vs h1 h2 ih =>
    intro ds hs g
    unfold getArs at g
    split at g
    · rename_i d ds' g1 g2
      cases g
      have t := ih (fun a m => hs a (List.mem_cons_of_mem _ m)) g2
      rcases h1.arg e gA hd (hs ar List.mem_cons_self) g1 with ⟨rfl, r⟩ | ⟨rfl, r⟩ | ⟨rfl, b, rfl, m, np, c⟩
      · exact .fr r t
      · exact .bo r t
      · exact .io m np c t
    · cases g
theorem ArsR.ioNe (e : EnvR K F M H σ ρ) {ks : List Kd} {as : List Ar} {vs : List V} (h : ArsR K M H σ ks as vs) : ∀ {ds : List D}, ioDup as = false → getArs ρ as = some ds → IoNe ks vs := by
  induction h with
  | nil => intro ds _ _; trivial
  | @cons k ks ar as v vs h1 h2 ih =>
    intro ds hd g
    have hdc := ioDup_cons hd
    have g0 := g
    unfold getArs at g
    split at g
    · rename_i d ds' g1 g2
      have t := ih hdc.1 g2
      cases k with
      | fr => cases v <;> exact t
      | bo => cases v <;> exact t
      | io =>
        cases v with
        | ref b =>
          refine ⟨fun z => ?_, t⟩
          cases ar with
          | io i =>
            obtain ⟨j, m, q⟩ := h2.mem b z
            exact e.ne i j b ((hdc.2.1 i rfl).1 j m) (lendAr_mine g0 List.mem_cons_self) (lendAr_mine g2 m) h1 q
          | _ => exact h1.elim
        | _ => exact t
    · cases g
theorem OutsR.mem {M0 : Ad} {H0 : Hp} {ks : List Kd} {vs : List V} {outs : List D} (o : OutsR K M H ks vs outs) : ∀ a, IoA ks vs a → M a := by
  induction o with
  | nil => intro a z; exact z.elim
  | fr o ih => rename_i v _; intro a z; cases v <;> exact ih a z
  | bo o ih => rename_i v _; intro a z; cases v <;> exact ih a z
  | io m c o ih => intro a z; exact z.elim (fun z => z ▸ m) (ih a)
/-- the slots behind the call, the lent ones open -/
theorem EnvR.callZ (e : EnvR K F M H σ ρ) {as : List Ar} {ds : List D} (g : getArs ρ as = some ds) {ks : List Kd} {vs : List V} {outs : List D} (h : ArsR K M H σ ks as vs) (ev : Ev (PAr M σ as) M H M' H') (mt : ∀ a, M' a → Mut (H' a)) (o : OutsR K M' H' ks vs outs) :
    EnvZ K F (fun i => .io i ∈ as) M' H' σ ρ := by
  have keepK : ∀ a, F.k a → H' a = H a ∧ M' a := fun a k => ev.prot a ⟨e.pm a k, lendAr_k e g k⟩ (e.pm a k)
  refine ⟨mt, fun a k => (keepK a k).2, e.len, fun i s es hz => ?_, fun i hz => ?_, e.ne, e.lent⟩
  · have q := e.sl i s es
    have own : mineAt ρ i = true → ∀ a, atS σ i = some (.ref a) → M a → H' a = H a ∧ M' a := fun mi a ha m =>
      ev.prot a ⟨m, fun ⟨j, mj, q2⟩ => e.ne i j a (fun z => hz (z ▸ mj)) mi (lendAr_mine g mj) ha q2⟩ m
    cases s with
    | no => trivial
    | fr d => obtain ⟨v, e1, r⟩ := q; exact ⟨v, e1, r.ev ev⟩
    | bo d =>
      obtain ⟨v, e1, r⟩ := q
      refine ⟨v, e1, ?_⟩
      rcases r with r | ⟨a, ea, p, m, c⟩
      · exact .inl (r.ev ev)
      · obtain ⟨k, m'⟩ := keepK a (.inl p)
        exact .inr ⟨a, ea, p, m', c.ev ev k⟩
    | ow d =>
      obtain ⟨a, e1, m, p, c⟩ := q
      obtain ⟨k, m'⟩ := own (by unfold mineAt; rw [es]; rfl) a e1 m
      exact ⟨a, e1, m', p, c.ev ev k⟩
    | io d =>
      obtain ⟨a, e1, m, p, l, c⟩ := q
      obtain ⟨k, m'⟩ := own (by unfold mineAt; rw [es]; rfl) a e1 m
      exact ⟨a, e1, m', p, l, c.ev ev k⟩
    | le d =>
      obtain ⟨a, e1, m, p, l, c⟩ := q
      obtain ⟨k, m'⟩ := keepK a (.inr p)
      exact ⟨a, e1, m', p, l, c.ev ev k⟩
  · have mi := lendAr_mine g hz
    unfold mineAt at mi
    split at mi
    · rename_i s es
      have q := e.sl i s es
      cases s with
      | ow d =>
        obtain ⟨a, e1, m, p, c⟩ := q
        exact ⟨a, d, e1, o.mem (M0 := M) (H0 := H) a (h.mem2 a ⟨i, hz, e1⟩), p, .inl es⟩
      | io d =>
        obtain ⟨a, e1, m, p, l, c⟩ := q
        exact ⟨a, d, e1, o.mem (M0 := M) (H0 := H) a (h.mem2 a ⟨i, hz, e1⟩), p, .inr ⟨es, l⟩⟩
      | _ => cases mi
    · cases mi
end
section
variable {X : Cx} {T : Tb} {XR : XRel} {W : L2.WX}
/-- what a def's promise needs, at a place -/
theorem call_sp {f : Str} {as : List Ar} {vs : List V} {F : Fx} {M : Ad} {H : Hp} {σ : L2.St} {ρ : Env} {Q : VK} {K : PySem.W.Frag} (er : EnvR K F M H σ ρ) (h : ArsR K M H σ (T.kinds f) as vs) (x : At K XR W (fun ρ => runCall T f as ρ) (RV K) F M H σ ρ Q) : spT K XR T f vs H Q (WE W σ) := by
  by_cases hd : ioDup as = true
  · exact (x.no (by unfold runCall; rw [if_pos hd])).elim
  have hd' : ioDup as = false := by simpa using hd
  cases g : getArs ρ as with
  | none => exact (x.no (by unfold runCall; rw [if_neg hd, g])).elim
  | some ds =>
  refine ⟨PAr M σ as, M, ds, er.mt, fun _ z => z.1, h.args er g hd' (fun _ m => m) g, h.ioNe er hd' g, ?_⟩
  have kp : ∀ a, F.k a → PAr M σ as a := fun a k => ⟨er.pm a k, lendAr_k er g k⟩
  cases c : T.call f ds with
  | no => exact (x.no (by unfold runCall; rw [if_neg hd, g]; dsimp only; rw [c])).elim
  | ex z =>
    by_cases hio : as.any Ar.lent = true
    · exact (x.no (by unfold runCall; rw [if_neg hd, g]; dsimp only; rw [c]; dsimp only; rw [if_pos hio])).elim
    · intro cl da M' H' ev mt xr
      have nio : ∀ a, ¬ LendAr σ as a := fun a ⟨i, m, _⟩ => hio (List.any_eq_true.mpr ⟨_, m, rfl⟩)
      unfold At at x
      simp only [] at x
      have e : runCall T f as ρ = .ex z ρ := by unfold runCall; rw [if_neg hd, g]; dsimp only; rw [c]; dsimp only; rw [if_neg hio]
      rw [e] at x
      refine x cl da M' H' (ev.mono kp) (er.ev (ev.mono kp) mt fun i a mi ha => ?_) xr
      obtain ⟨b, d, e1, m, _, _⟩ := er.mineC mi
      rw [ha] at e1
      cases e1
      exact ev.prot a ⟨m, nio a⟩ m
  | ok own d outs =>
    intro v M' H' ev mt ho rv
    cases hp : putOuts as outs ρ with
    | none => exact (x.no (by unfold runCall; rw [if_neg hd, g]; dsimp only; rw [c]; dsimp only; rw [hp])).elim
    | some ρ' =>
    obtain ⟨ez, em⟩ := (er.callZ g h ev mt ho).puts h ho hd' (fun i m => m) hp
    have ee := ez.env fun i z => z.2 z.1
    refine x.ok (a := (own, d)) (ρ1 := ρ') (by unfold runCall; rw [if_neg hd, g]; dsimp only; rw [c]; dsimp only; rw [hp]) v M' H' (ev.mono kp) ee ?_
    show RvR K F M' H' σ ρ' own v d
    unfold RvR
    cases own with
    | false => exact rv
    | true =>
      obtain ⟨a, rfl, m, np, ni, c⟩ := rv
      refine ⟨a, rfl, m, fun k => np (kp a k), fun i mi ha => ?_, c⟩
      obtain ⟨b, d', e1, m', _, _⟩ := er.mineC (em i mi)
      rw [ha] at e1
      cases e1
      by_cases hl : LendAr σ as a
      · exact ni (h.mem2 a hl)
      · exact np ⟨m', hl⟩
theorem star_any : ∀ {es : List Expr} {env : PySem.Env} {pos : Pos}, es.all notStar = true → (backTo pos (starEach es env)).any (·.1) = false
  | [], _, _, _ => rfl
  | e :: es, env, pos, h => by
    rw [List.all_cons, Bool.and_eq_true_iff] at h
    rw [starEach_cons h.1]
    show (false || (backTo pos (starEach es env)).any (·.1)) = false
    rw [star_any h.2]; rfl
theorem simCall {x : Str} {e : Expr} {es : List Expr} {y : Ex} {xs : List Ex} {p pos : Pos} {n : Nat} {f : Addr} {fd : FuncData} {ps : List Str} (F : Ps.FnG X.prog X.w X.K X.mg X.base (L2.CX X.prog X.w) n f fd ps (spT X.K XR T x)) (hr : Ps.RoomG n X.A) (hg : Gl X x) (hm : X.mg x = some (.ref f))
    (hk : PySem.W.keepIn X.K (.ref f) = true) (hb : Binds X.K fd ps []) (tk : L2.Takes X W) (hs : (e :: es).all notStar = true) (hdb : (x == ("__debug__" : Str)) = false) (ha : PA X (e :: es) (RdAs X.K XR W T (y :: xs) (T.kinds x))) : PE X (.Call (.Name x p) (e :: es) [] pos) (RdV X.K XR W T (.call x (y :: xs))) := by
  rw [List.all_cons, Bool.and_eq_true_iff] at hs
  refine pe_imp (Ps.pe_callG (E := WE W) F hr hg hm hk hb (fun σ => passAt tk σ) ha hdb (starEach_cons hs.1) (star_any hs.2)) ?_
  rintro σ H Q ⟨F, M, ρ, er, y⟩
  refine ⟨F, M, ρ, er, At.bind (γ := Bool × D) (δ := V) (R := RV X.K) (Q := Q) (h := fun as ρ1 => runCall T x as ρ1) y fun as vs M1 H1 ρ1 ev1 er1 r1 k1 => ?_⟩
  exact call_sp er1 r1 k1
theorem evalAs_snoc {k : Kd} : ∀ {xs : List Ex} {ks : List Kd} {ρ : Env}, xs.length = ks.length → evalAs T (xs ++ [.non]) (ks ++ [k]) ρ = evalAs T xs ks ρ >>= fun p => argD (evalV T .non) .non k p.2 >>= fun q => .ok (p.1 ++ [q.1], q.2)
  | [], [], ρ, _ => by
    show evalAs T [.non] [k] ρ = _
    rw [evalAs, evalAs, bind_ok]
    cases k <;> simp only [argD, evalV, bind_ok, evalAs, List.nil_append, bind_no]
  | x :: xs, k0 :: ks, ρ, h => by
    show evalAs T (x :: (xs ++ [.non])) (k0 :: (ks ++ [k])) ρ = _
    rw [evalAs, evalAs]
    cases argD (evalV T x) x k0 ρ with
    | ok p =>
      simp only [bind_ok]
      rw [evalAs_snoc (by simpa using h)]
      cases evalAs T xs ks p.2 with
      | ok q =>
        simp only [bind_ok]
        cases argD (evalV T .non) .non k q.2 <;> rfl
      | ex z ρ1 => rfl
      | no => rfl
    | ex z ρ1 => rfl
    | no => rfl
  | [], _ :: _, _, h => by cases h
  | _ :: _, [], _, h => by cases h
theorem ArsR.snoc {K : PySem.W.Frag} {M : Ad} {H : Hp} {σ : L2.St} {k : Kd} (hk : k ≠ .io) : ∀ {ks : List Kd} {as : List Ar} {vs : List V}, ArsR K M H σ ks as vs → ArsR K M H σ (ks ++ [k]) (as ++ [.d .non]) (vs ++ [.non])
  | _, _, _, .nil => .cons (by cases k <;> first | exact Rep.non | exact absurd rfl hk) .nil
  | _, _, _, .cons h t => .cons h (ArsR.snoc hk t)
theorem simCallD {x : Str} {e : Expr} {es : List Expr} {y : Ex} {xs : List Ex} {p pos : Pos} {n : Nat} {f : Addr} {fd : FuncData} {ps : List Str} (F : Ps.FnG X.prog X.w X.K X.mg X.base (L2.CX X.prog X.w) n f fd ps (spT X.K XR T x)) (hr : Ps.RoomG n X.A) (hg : Gl X x) (hm : X.mg x = some (.ref f))
    (hk : PySem.W.keepIn X.K (.ref f) = true) (hb : Binds X.K fd ps [.none]) (tk : L2.Takes X W) (hs : (e :: es).all notStar = true) (hdb : (x == ("__debug__" : Str)) = false) (hl : (T.kinds x).length = (y :: xs).length + 1) (ha : ∀ ks, PA X (e :: es) (RdAs X.K XR W T (y :: xs) ks)) : PE X (.Call (.Name x p) (e :: es) [] pos) (RdV X.K XR W T (.call x (y :: xs ++ [.non]))) := by
  rw [List.all_cons, Bool.and_eq_true_iff] at hs
  have hne : T.kinds x ≠ [] := fun z => by rw [z] at hl; cases hl
  have hks := List.dropLast_concat_getLast hne
  generalize (T.kinds x).dropLast = ks at hks
  generalize (T.kinds x).getLast hne = k at hks
  have hkl : (y :: xs).length = ks.length := by
    rw [← hks, List.length_append] at hl
    simpa using hl.symm
  refine pe_imp (Ps.pe_callGD (E := WE W) F hr hg hm hk hb (fun σ => passAt tk σ) (ha ks) hdb (starEach_cons hs.1) (star_any hs.2)) ?_
  rintro σ H Q ⟨F, M, ρ, er, z⟩
  refine ⟨F, M, ρ, er, ?_⟩
  refine At.bind (γ := Bool × D) (δ := V) (R := RV X.K) (Q := Q) (h := fun as ρ1 => argD (evalV T .non) .non k ρ1 >>= fun q => runCall T x (as ++ [q.1]) q.2) (At.cong (by
    show (evalAs T (y :: xs ++ [.non]) (T.kinds x) ρ >>= _) = _
    rw [← hks, evalAs_snoc hkl]
    cases evalAs T (y :: xs) ks ρ with
    | ok p =>
      simp only [bind_ok]
      cases argD (evalV T .non) .non k p.2 <;> rfl
    | ex _ _ => rfl
    | no => rfl) z) fun as vs M1 H1 ρ1 ev1 er1 r1 k1 => ?_
  have key : argD (evalV T .non) .non k ρ1 = (if k = .io then .no else .ok (.d .non, ρ1)) := by
    cases k <;> simp [argD, evalV]
  by_cases hk0 : k = .io
  · exact (k1.no (by rw [key, if_pos hk0]; rfl)).elim
  have k2 : At X.K XR W (fun ρ => runCall T x (as ++ [.d .non]) ρ) (RV X.K) F M1 H1 σ ρ1 Q := At.cong (by rw [key, if_neg hk0, bind_ok]) k1
  refine call_sp er1 ?_ k2
  rw [← hks]
  exact r1.snoc hk0
theorem simCall0 {x : Str} {p pos : Pos} {n : Nat} {f : Addr} {fd : FuncData} {ps : List Str} (F : Ps.FnG X.prog X.w X.K X.mg X.base (L2.CX X.prog X.w) n f fd ps (spT X.K XR T x)) (hr : Ps.RoomG n X.A) (hg : Gl X x) (hm : X.mg x = some (.ref f))
    (hk : PySem.W.keepIn X.K (.ref f) = true) (hb : Binds X.K fd ps []) (tk : L2.Takes X W) (hdb : (x == ("__debug__" : Str)) = false) : PE X (.Call (.Name x p) [] [] pos) (RdV X.K XR W T (.call x [])) := by
  refine ⟨fun pins s σ H Q I ⟨G, M, ρ, er, y⟩ => ?_⟩
  refine wpAny_Call_Name_kw (ld_glob I hg hm ?_ hdb)
  have ks : T.kinds x = [] := by
    cases e : T.kinds x with
    | nil => rfl
    | cons k ks => exact (y.no (by show (evalAs T [] (T.kinds x) ρ >>= _) = _; rw [e]; rfl)).elim
  have y2 : At X.K XR W (fun ρ => runCall T x [] ρ) (RV X.K) G M H σ ρ Q := At.cong (by show (evalAs T [] (T.kinds x) ρ >>= _) = _; rw [ks]; rfl) y
  have q := call_sp er (f := x) (vs := []) (by rw [ks]; exact .nil) y2
  refine PySem.W.callWith_K0 I.kIn hk ?_
  exact Ps.run_fnG (E := WE W) F hr hb (passAt tk σ) I .nil q
end
end Pd
set_option Elab.async false
set_option linter.all false
/-! Pd12: tests, and, or, chains, slices, pop: what the small syntax says gives what the steps want. -/
namespace Pd
open PySem PySem.Spec PyProof.Rows L2
section
variable {X : Cx} {T : Tb} {XR : XRel} {W : L2.WX} {K : PySem.W.Frag}
theorem Rg.cong {α β : Type} {f g : Env → Res (α × Env)} {R : Fx → Ad → Hp → L2.St → Env → α → β → Prop} (h : ∀ ρ, f ρ = g ρ) {σ : L2.St} {H : Hp} {Q : β → Hp → Prop} (x : Rg K XR W f R σ H Q) : Rg K XR W g R σ H Q := by
  obtain ⟨F, M, ρ, er, y⟩ := x
  exact ⟨F, M, ρ, er, At.cong (h ρ) y⟩
/-- one behind another, from some place -/
theorem Rg.bind {α β γ δ : Type} {g : Env → Res (α × Env)} {h : α → Env → Res (γ × Env)} {R1 : Fx → Ad → Hp → L2.St → Env → α → β → Prop} {R : Fx → Ad → Hp → L2.St → Env → γ → δ → Prop} {σ : L2.St} {H : Hp} {Q : δ → Hp → Prop} {Q1 : β → Hp → Prop}
    (x : Rg K XR W (fun ρ => g ρ >>= fun p => h p.1 p.2) R σ H Q)
    (k : ∀ F M a b H1 ρ1, EnvR K F M H1 σ ρ1 → R1 F M H1 σ ρ1 a b → At K XR W (h a) R F M H1 σ ρ1 Q → Q1 b H1) : Rg K XR W g R1 σ H Q1 := by
  obtain ⟨F, M, ρ, er, y⟩ := x
  exact ⟨F, M, ρ, er, At.bind y fun a b M1 H1 ρ1 ev er1 r kk => k F M1 a b H1 ρ1 er1 r kk⟩
abbrev RB : Fx → Ad → Hp → L2.St → Env → Bool → Bool → Prop := fun _ _ _ _ _ a b => a = b
theorem paired_imp {α β : Type} {R S : α → β → Prop} (h : ∀ a b, R a b → S a b) : ∀ {xs : List α} {ys : List β}, Paired R xs ys → Paired S xs ys
  | [], _, .nil => .nil
  | _ :: _, _, .cons a t => .cons (h _ _ a) (paired_imp h t)
/-- a test, by its operand -/
theorem tst_o {x : Ex} {σ : L2.St} {H : Hp} {Q : Bool → Hp → Prop} (h : RdT K XR W T x σ H Q) : RdO K XR W T x σ H (fun v H' => ∃ k, v = .bl k ∧ Q k H') := by
  refine Rg.bind (γ := Bool) (δ := Bool) (R := RB) (Q := Q) (h := fun o ρ1 => match getOp ρ1 o with
    | some (.bl b) => .ok (b, ρ1)
    | _ => .no) h fun F M o v H1 ρ1 er r k => ?_
  cases g : getOp ρ1 o with
  | none => exact (k.no (by simp only [g])).elim
  | some d =>
    cases d with
    | bl b => exact ⟨b, (OpdR.val er r g).bl, k.ok (a := b) (ρ1 := ρ1) (by simp only [g]) b M H1 (.refl er.mt) er rfl⟩
    | _ => exact (k.no (by simp only [g])).elim
theorem testD_v {x : Ex} (hx : ∀ i, x ≠ .var i) (f : Env → Rv) (ρ : Env) : testD f x ρ = (f ρ >>= fun p => match p.1.2 with
    | .bl b => .ok (b, p.2)
    | _ => .no) := by
  unfold testD opd
  cases x with
  | var i => exact absurd rfl (hx i)
  | _ =>
    all_goals
      cases e : f ρ with
      | ok p =>
        obtain ⟨⟨o, d⟩, ρ1⟩ := p
        cases d <;> rfl
      | ex z ρ1 => rfl
      | no => rfl
/-- .. by its value -/
theorem tst_v {x : Ex} (hx : ∀ i, x ≠ .var i) {σ : L2.St} {H : Hp} {Q : Bool → Hp → Prop} (h : RdT K XR W T x σ H Q) : RdV K XR W T x σ H (fun v H' => ∃ k, v = .bl k ∧ Q k H') := by
  refine Rg.bind (γ := Bool) (δ := Bool) (R := RB) (Q := Q) (h := fun (a : Bool × D) ρ1 => match a.2 with
    | .bl b => .ok (b, ρ1)
    | _ => .no) (Rg.cong (testD_v hx _) h) fun F M a v H1 ρ1 er r k => ?_
  obtain ⟨own, d⟩ := a
  cases d with
  | bl b =>
    refine ⟨b, ?_, k.ok (a := b) (ρ1 := ρ1) rfl b M H1 (.refl er.mt) er rfl⟩
    have r' : RvR K F M H1 σ ρ1 own v (.bl b) := r
    cases own with
    | true => obtain ⟨_, _, _, _, _, c⟩ := r'; cases c
    | false => cases r'; rfl
  | _ => exact (k.no rfl).elim
/-- a test's value -/
def bD (f : Env → Res (Bool × Env)) (ρ : Env) : Rv := f ρ >>= fun p => .ok ((false, .bl p.1), p.2)
abbrev RdB (K : PySem.W.Frag) (XR : XRel) (W : L2.WX) (T : Tb) (x : Ex) : TE := Rg K XR W (bD (testD (evalV T x) x)) (RV K)
theorem bD_t {f : Env → Res (Bool × Env)} {σ : L2.St} {H : Hp} {Q : VK} (h : Rg K XR W (bD f) (RV K) σ H Q) : Rg K XR W f RB σ H (fun k H' => Q (.bl k) H') :=
  Rg.bind (γ := Bool × D) (δ := V) (R := RV K) (Q := Q) (h := fun (a : Bool) ρ1 => .ok ((false, .bl a), ρ1)) h fun F M a b H1 ρ1 er r k => by
    have : a = b := r
    subst this
    exact k.ok rfl (.bl a) M H1 (.refl er.mt) er (.bl a)
theorem rdB_o {x : Ex} {σ : L2.St} {H : Hp} {Q : VK} (h : RdB K XR W T x σ H Q) : RdO K XR W T x σ H Q := by
  refine Rg.mono ?_ (tst_o (bD_t h))
  rintro v H' ⟨k, rfl, q⟩
  exact q
/-! and, or -/
theorem and_b (x r : Ex) (ρ : Env) : bD (testD (evalV T (.and x r)) (.and x r)) ρ = (testD (evalV T x) x ρ >>= fun p => if p.1 = true then bD (testD (evalV T r) r) p.2 else .ok ((false, .bl false), p.2)) := by
  show ((testD (evalV T (.and x r)) (.and x r) ρ) >>= _) = _
  rw [testD_v (fun i h => by cases h), evalV]
  cases e : testD (evalV T x) x ρ with
  | ok p =>
    obtain ⟨k, ρ1⟩ := p
    cases k with
    | false => rfl
    | true =>
      show ((testD (evalV T r) r ρ1 >>= _) >>= _) >>= _ = bD _ ρ1
      unfold bD
      cases testD (evalV T r) r ρ1 <;> rfl
  | ex z ρ1 => rfl
  | no => rfl
theorem or_b (x r : Ex) (ρ : Env) : bD (testD (evalV T (.or x r)) (.or x r)) ρ = (testD (evalV T x) x ρ >>= fun p => if p.1 = true then .ok ((false, .bl true), p.2) else bD (testD (evalV T r) r) p.2) := by
  show ((testD (evalV T (.or x r)) (.or x r) ρ) >>= _) = _
  rw [testD_v (fun i h => by cases h), evalV]
  cases e : testD (evalV T x) x ρ with
  | ok p =>
    obtain ⟨k, ρ1⟩ := p
    cases k with
    | true => rfl
    | false =>
      show ((testD (evalV T r) r ρ1 >>= _) >>= _) >>= _ = bD _ ρ1
      unfold bD
      cases testD (evalV T r) r ρ1 <;> rfl
  | ex z ρ1 => rfl
  | no => rfl
theorem and_t (x r : Ex) (ρ : Env) : testD (evalV T (.and x r)) (.and x r) ρ = (testD (evalV T x) x ρ >>= fun p => if p.1 = true then testD (evalV T r) r p.2 else .ok (false, p.2)) := by
  rw [testD_v (fun i h => by cases h), evalV]
  cases e : testD (evalV T x) x ρ with
  | ok p =>
    obtain ⟨k, ρ1⟩ := p
    cases k with
    | false => rfl
    | true =>
      show (testD (evalV T r) r ρ1 >>= _) >>= _ = testD _ _ ρ1
      cases testD (evalV T r) r ρ1 <;> rfl
  | ex z ρ1 => rfl
  | no => rfl
theorem or_t (x r : Ex) (ρ : Env) : testD (evalV T (.or x r)) (.or x r) ρ = (testD (evalV T x) x ρ >>= fun p => if p.1 = true then .ok (true, p.2) else testD (evalV T r) r p.2) := by
  rw [testD_v (fun i h => by cases h), evalV]
  cases e : testD (evalV T x) x ρ with
  | ok p =>
    obtain ⟨k, ρ1⟩ := p
    cases k with
    | true => rfl
    | false =>
      show (testD (evalV T r) r ρ1 >>= _) >>= _ = testD _ _ ρ1
      cases testD (evalV T r) r ρ1 <;> rfl
  | ex z ρ1 => rfl
  | no => rfl
theorem and_i {x r : Ex} {σ : L2.St} {H : Hp} {Q : VK} {f : Env → Rv} (hf : ∀ ρ, f ρ = (testD (evalV T x) x ρ >>= fun p => if p.1 = true then bD (testD (evalV T r) r) p.2 else .ok ((false, .bl false), p.2))) (h : Rg K XR W f (RV K) σ H Q) :
    tAndV (RdO K XR W T x) (RdB K XR W T r) σ H Q := by
  refine Rg.mono ?_ (tst_o (Q := fun k H1 => if k = true then RdB K XR W T r σ H1 Q else Q (.bl false) H1) (Rg.bind (γ := Bool × D) (δ := V) (R := RV K) (Q := Q) (h := fun (a : Bool) ρ1 => if a = true then bD (testD (evalV T r) r) ρ1 else .ok ((false, .bl false), ρ1)) (Rg.cong hf h) fun F M a b H1 ρ1 er r k => ?_))
  · rintro v H1 ⟨k, rfl, q⟩; exact ⟨k, rfl, q⟩
  · have : a = b := r
    subst this
    cases a with
    | true => exact ⟨F, M, ρ1, er, At.cong rfl k⟩
    | false => exact k.ok rfl (.bl false) M H1 (.refl er.mt) er (.bl false)
theorem or_i {x r : Ex} {σ : L2.St} {H : Hp} {Q : VK} {f : Env → Rv} (hf : ∀ ρ, f ρ = (testD (evalV T x) x ρ >>= fun p => if p.1 = true then .ok ((false, .bl true), p.2) else bD (testD (evalV T r) r) p.2)) (h : Rg K XR W f (RV K) σ H Q) :
    tOrV (RdO K XR W T x) (RdB K XR W T r) σ H Q := by
  refine Rg.mono ?_ (tst_o (Q := fun k H1 => if k = true then Q (.bl true) H1 else RdB K XR W T r σ H1 Q) (Rg.bind (γ := Bool × D) (δ := V) (R := RV K) (Q := Q) (h := fun (a : Bool) ρ1 => if a = true then .ok ((false, .bl true), ρ1) else bD (testD (evalV T r) r) ρ1) (Rg.cong hf h) fun F M a b H1 ρ1 er r k => ?_))
  · rintro v H1 ⟨k, rfl, q⟩; exact ⟨k, rfl, q⟩
  · have : a = b := r
    subst this
    cases a with
    | false => exact ⟨F, M, ρ1, er, At.cong rfl k⟩
    | true => exact k.ok rfl (.bl true) M H1 (.refl er.mt) er (.bl true)
theorem andT_i {x r : Ex} {σ : L2.St} {H : Hp} {Q : Bool → Hp → Prop} (h : RdT K XR W T (.and x r) σ H Q) : tAnd (RdT K XR W T x) (RdT K XR W T r) σ H Q :=
  Rg.bind (γ := Bool) (δ := Bool) (R := RB) (Q := Q) (h := fun (a : Bool) ρ1 => if a = true then testD (evalV T r) r ρ1 else .ok (false, ρ1)) (Rg.cong (and_t x r) h) fun F M a b H1 ρ1 er rr k => by
    have : a = b := rr
    subst this
    cases a with
    | true => exact ⟨F, M, ρ1, er, At.cong rfl k⟩
    | false => exact k.ok rfl false M H1 (.refl er.mt) er rfl
theorem orT_i {x r : Ex} {σ : L2.St} {H : Hp} {Q : Bool → Hp → Prop} (h : RdT K XR W T (.or x r) σ H Q) : tOr (RdT K XR W T x) (RdT K XR W T r) σ H Q :=
  Rg.bind (γ := Bool) (δ := Bool) (R := RB) (Q := Q) (h := fun (a : Bool) ρ1 => if a = true then .ok (true, ρ1) else testD (evalV T r) r ρ1) (Rg.cong (or_t x r) h) fun F M a b H1 ρ1 er rr k => by
    have : a = b := rr
    subst this
    cases a with
    | false => exact ⟨F, M, ρ1, er, At.cong rfl k⟩
    | true => exact k.ok rfl true M H1 (.refl er.mt) er rfl
theorem simAndB {pos : Pos} : ∀ {es : List Expr} {xs : List Ex}, es ≠ [] → Paired (fun e x => PE X e (RdO X.K XR W T x)) es xs → PE X (.BoolOp .And es pos) (RdB X.K XR W T (andL xs))
  | [], _, h, _ => absurd rfl h
  | [e], [x], _, .cons h .nil => pe_one (pe_imp h fun _ _ _ w => rdB_o w)
  | e :: e2 :: es, x :: x2 :: xs, _, .cons h t => pe_imp (pe_and h (simAndB (by simp) t)) fun _ _ _ w => and_i (and_b _ _) w
theorem simAndV {pos : Pos} : ∀ {es : List Expr} {xs : List Ex}, es ≠ [] → Paired (fun e x => PE X e (RdV X.K XR W T x) ∧ PE X e (RdO X.K XR W T x)) es xs → PE X (.BoolOp .And es pos) (RdV X.K XR W T (andL xs))
  | [], _, h, _ => absurd rfl h
  | [e], [x], _, .cons h .nil => pe_one h.1
  | e :: e2 :: es, x :: x2 :: xs, _, .cons h t => pe_imp (pe_and h.2 (simAndB (by simp) (paired_imp (fun _ _ z => z.2) t))) fun _ _ _ w => and_i (fun _ => by show evalV T (.and x (andL (x2 :: xs))) _ = _; rw [evalV]; rfl) w
theorem simOrB {pos : Pos} : ∀ {es : List Expr} {xs : List Ex}, es ≠ [] → Paired (fun e x => PE X e (RdO X.K XR W T x)) es xs → PE X (.BoolOp .Or es pos) (RdB X.K XR W T (orL xs))
  | [], _, h, _ => absurd rfl h
  | [e], [x], _, .cons h .nil => pe_one (pe_imp h fun _ _ _ w => rdB_o w)
  | e :: e2 :: es, x :: x2 :: xs, _, .cons h t => pe_imp (pe_or h (simOrB (by simp) t)) fun _ _ _ w => or_i (or_b _ _) w
theorem simOrV {pos : Pos} : ∀ {es : List Expr} {xs : List Ex}, es ≠ [] → Paired (fun e x => PE X e (RdV X.K XR W T x) ∧ PE X e (RdO X.K XR W T x)) es xs → PE X (.BoolOp .Or es pos) (RdV X.K XR W T (orL xs))
  | [], _, h, _ => absurd rfl h
  | [e], [x], _, .cons h .nil => pe_one h.1
  | e :: e2 :: es, x :: x2 :: xs, _, .cons h t => pe_imp (pe_or h.2 (simOrB (by simp) (paired_imp (fun _ _ z => z.2) t))) fun _ _ _ w => or_i (fun _ => by show evalV T (.or x (orL (x2 :: xs))) _ = _; rw [evalV]; rfl) w
theorem simAndT {pos : Pos} : ∀ {es : List Expr} {xs : List Ex}, es ≠ [] → Paired (fun e x => PT X e (RdT X.K XR W T x)) es xs → PW X (.BoolOp .And es pos) (RdT X.K XR W T (andL xs))
  | [], _, h, _ => absurd rfl h
  | [e], [x], _, .cons h .nil => pw_and1 h
  | e :: e2 :: es, x :: x2 :: xs, _, .cons h t => ⟨fun wh pins s σ H Q I w => (pw_and h (simAndT (by simp) t)).run wh pins s σ H Q I (andT_i w)⟩
theorem simOrT {pos : Pos} : ∀ {es : List Expr} {xs : List Ex}, es ≠ [] → Paired (fun e x => PT X e (RdT X.K XR W T x)) es xs → PW X (.BoolOp .Or es pos) (RdT X.K XR W T (orL xs))
  | [], _, h, _ => absurd rfl h
  | [e], [x], _, .cons h .nil => pw_or1 h
  | e :: e2 :: es, x :: x2 :: xs, _, .cons h t => ⟨fun wh pins s σ H Q I w => (pw_or h (simOrT (by simp) t)).run wh pins s σ H Q I (orT_i w)⟩
/-! not, if-else -/
theorem not_i {x : Ex} {σ : L2.St} {H : Hp} {Q : VK} (h : RdV K XR W T (.not x) σ H Q) : tNotV (RdO K XR W T x) σ H Q := by
  refine Rg.mono ?_ (tst_o (Q := fun k H1 => Q (.bl (!k)) H1) (Rg.bind (γ := Bool × D) (δ := V) (R := RV K) (Q := Q) (h := fun (a : Bool) ρ1 => .ok ((false, .bl (!a)), ρ1)) (Rg.cong (fun ρ => by rw [evalV]) h) fun F M a b H1 ρ1 er r k => ?_))
  · rintro v H1 ⟨k, rfl, q⟩; exact ⟨k, rfl, q⟩
  · have : a = b := r
    subst this
    exact k.ok rfl (.bl (!a)) M H1 (.refl er.mt) er (.bl _)
theorem notT_i {x : Ex} {σ : L2.St} {H : Hp} {Q : Bool → Hp → Prop} (h : RdT K XR W T (.not x) σ H Q) : tNot (RdT K XR W T x) σ H Q := by
  refine Rg.bind (γ := Bool) (δ := Bool) (R := RB) (Q := Q) (h := fun (a : Bool) ρ1 => .ok (!a, ρ1)) (Rg.cong (fun ρ => ?_) h) fun F M a b H1 ρ1 er r k => ?_
  · rw [testD_v (fun i h => by cases h), evalV]
    cases testD (evalV T x) x ρ <;> rfl
  · have : a = b := r
    subst this
    exact k.ok rfl (!a) M H1 (.refl er.mt) er rfl
theorem ite_i {c x y : Ex} {σ : L2.St} {H : Hp} {Q : VK} (h : RdV K XR W T (.ite c x y) σ H Q) : tIf (RdT K XR W T c) (RdV K XR W T x) (RdV K XR W T y) σ H Q :=
  Rg.bind (γ := Bool × D) (δ := V) (R := RV K) (Q := Q) (h := fun (a : Bool) ρ1 => if a = true then evalV T x ρ1 else evalV T y ρ1) (Rg.cong (fun ρ => by rw [evalV]) h) fun F M a b H1 ρ1 er rr k => by
    have : a = b := rr
    subst this
    cases a with
    | true => exact ⟨F, M, ρ1, er, At.cong rfl k⟩
    | false => exact ⟨F, M, ρ1, er, At.cong rfl k⟩
/-! a chain -/
theorem chn_i {o1 o2 : CmpOp} {x y z : Ex} {σ : L2.St} {H : Hp} {Q : VK} (h : RdV K XR W T (.chn o1 o2 x y z) σ H Q) : tChain (rOp K (cmpV o1)) (rOp K (cmpV o2)) (RdO K XR W T x) (RdO K XR W T y) (RdO K XR W T z) σ H Q := by
  refine Rg.bind (γ := Bool × D) (δ := V) (R := RV K) (Q := Q) (h := fun x ρ1 => opd (evalV T y) y ρ1 >>= fun q =>
    match getOp q.2 x, getOp q.2 q.1 with
    | some d, some e => match cmpD o1 d e with
      | some true => opd (evalV T z) z q.2 >>= fun r => match getOp r.2 q.1, getOp r.2 r.1 with
        | some e', some g => optR ((cmpD o2 e' g).map fun k => (false, .bl k)) r.2
        | _, _ => .no
      | some false => .ok ((false, .bl false), q.2)
      | none => .no
    | _, _ => .no) (Rg.cong (fun ρ => by rw [evalV] <;> rfl) h) fun F M oa v H1 ρ1 er1 r1 k1 => ?_
  refine ⟨F, M, ρ1, er1, At.bind (γ := Bool × D) (δ := V) (R := RV K) (Q := Q) (h := fun ob ρ2 => match getOp ρ2 oa, getOp ρ2 ob with
    | some d, some e => match cmpD o1 d e with
      | some true => opd (evalV T z) z ρ2 >>= fun r => match getOp r.2 ob, getOp r.2 r.1 with
        | some e', some g => optR ((cmpD o2 e' g).map fun k => (false, .bl k)) r.2
        | _, _ => .no
      | some false => .ok ((false, .bl false), ρ2)
      | none => .no
    | _, _ => .no) k1 fun ob u M2 H2 ρ2 ev2 er2 r2 k2 => ?_⟩
  intro _
  have r1' : OpdR K M2 H2 σ v oa := OpdR.ev ev2 r1
  cases ga : getOp ρ2 oa with
  | none => exact (k2.no (by simp only [ga])).elim
  | some d =>
  cases gb : getOp ρ2 ob with
  | none => exact (k2.no (by simp only [ga, gb])).elim
  | some e =>
  cases c1 : cmpD o1 d e with
  | none => exact (k2.no (by simp only [ga, gb, c1])).elim
  | some k =>
  refine ⟨M2, d, e, false, .bl k, er2.mt, r1'.val er2 ga, OpdR.val er2 r2 gb, by unfold cmpV; rw [c1]; rfl, fun w M' H' o => ?_⟩
  obtain ⟨ev3, er3, rv⟩ := OutR.rv er2 o
  have ew : w = .bl k := by
    have rv' : Rep K M' H' w (.bl k) := rv
    cases rv'; rfl
  refine ⟨k, ew, ?_⟩
  cases k with
  | false =>
    rw [if_neg Bool.false_ne_true]
    exact k2.ok (a := ((false, D.bl false) : Bool × D)) (ρ1 := ρ2) (by simp only [ga, gb, c1]) (V.bl false) M' H' ev3 er3 (RvR.f (.bl false))
  | true =>
    rw [if_pos rfl]
    have k3 : At K XR W (fun ρ2 => opd (evalV T z) z ρ2 >>= fun r => match getOp r.2 ob, getOp r.2 r.1 with
        | some e', some g => optR ((cmpD o2 e' g).map fun k => (false, .bl k)) r.2
        | _, _ => .no) (RV K) F M' H' σ ρ2 Q := At.step ev3 (At.cong (by simp only [ga, gb, c1]) k2)
    refine ⟨F, M', ρ2, er3, At.bind (γ := Bool × D) (δ := V) (R := RV K) (Q := Q) (h := fun oc ρ3 => match getOp ρ3 ob, getOp ρ3 oc with
        | some e', some g => optR ((cmpD o2 e' g).map fun k => (false, .bl k)) ρ3
        | _, _ => .no) k3 fun oc t M4 H4 ρ4 ev4 er4 r4 k4 => ?_⟩
    intro _
    have r2' : OpdR K M4 H4 σ u ob := OpdR.ev ev4 (OpdR.ev ev3 r2)
    cases gb2 : getOp ρ4 ob with
    | none => exact (k4.no (by simp only [gb2])).elim
    | some e' =>
    cases gc : getOp ρ4 oc with
    | none => exact (k4.no (by simp only [gb2, gc])).elim
    | some g =>
    cases c2 : cmpD o2 e' g with
    | none => exact (k4.no (by simp only [gb2, gc, c2]; rfl)).elim
    | some k =>
    refine ⟨M4, e', g, false, .bl k, er4.mt, r2'.val er4 gb2, OpdR.val er4 r4 gc, by unfold cmpV; rw [c2]; rfl, fun w M5 H5 o5 => ?_⟩
    obtain ⟨ev5, er5, rv5⟩ := OutR.rv er4 o5
    exact k4.ok (a := ((false, D.bl k) : Bool × D)) (ρ1 := ρ4) (by simp only [gb2, gc, c2]; rfl) w M5 H5 ev5 er5 rv5
/-! slices -/
abbrev RdP (K : PySem.W.Frag) (XR : XRel) (W : L2.WX) (T : Tb) (e : Ex) : TO := Rg K XR W (partD (opd (evalV T e) e) e) (fun _ _ _ _ _ a b => a = b)
theorem part_nil {σ : L2.St} {H : Hp} {Q : Option Int → Hp → Prop} (h : RdP K XR W T .nil σ H Q) : tNoPart σ H Q := by
  obtain ⟨F, M, ρ, er, y⟩ := h
  exact y.ok (a := none) (ρ1 := ρ) rfl none M H (.refl er.mt) er rfl
theorem part_some {x : Ex} (hx : x ≠ .nil) {σ : L2.St} {H : Hp} {Q : Option Int → Hp → Prop} (h : RdP K XR W T x σ H Q) : tPart (RdO K XR W T x) σ H Q := by
  refine Rg.bind (γ := Option Int) (δ := Option Int) (R := fun _ _ _ _ _ a b => a = b) (Q := Q) (h := fun o ρ1 => match getOp ρ1 o with
    | some (.int k) => .ok (some k, ρ1)
    | _ => .no) (Rg.cong (fun ρ => by unfold partD; split <;> first | rfl | exact absurd rfl hx) h) fun F M o v H1 ρ1 er r k => ?_
  cases g : getOp ρ1 o with
  | none => exact (k.no (by simp only [g])).elim
  | some d =>
    cases d with
    | int b => exact ⟨b, (OpdR.val er r g).int, k.ok (a := some b) (ρ1 := ρ1) (by simp only [g]) _ M H1 (.refl er.mt) er rfl⟩
    | _ => exact (k.no (by simp only [g])).elim
theorem sl_i {x lo hi : Ex} {σ : L2.St} {H : Hp} {Q : VK} (h : RdV K XR W T (.sl x lo hi) σ H Q) : tSl (rSlD K) (RdO K XR W T x) (RdP K XR W T lo) (RdP K XR W T hi) σ H Q := by
  refine Rg.bind (γ := Bool × D) (δ := V) (R := RV K) (Q := Q) (h := fun o ρ1 => partD (opd (evalV T lo) lo) lo ρ1 >>= fun l => partD (opd (evalV T hi) hi) hi l.2 >>= fun h =>
    match getOp h.2 o with
    | some d => optR (slD d l.1 h.1) h.2
    | none => .no) (Rg.cong (fun ρ => by rw [evalV] <;> rfl) h) fun F M o v H1 ρ1 er1 r1 k1 => ?_
  refine ⟨F, M, ρ1, er1, At.bind (γ := Bool × D) (δ := V) (R := RV K) (Q := Q) (h := fun l ρ2 => partD (opd (evalV T hi) hi) hi ρ2 >>= fun h =>
    match getOp h.2 o with
    | some d => optR (slD d l h.1) h.2
    | none => .no) k1 fun l l' M2 H2 ρ2 ev2 er2 r2 k2 => ?_⟩
  have : l = l' := r2
  subst this
  refine ⟨F, M2, ρ2, er2, At.bind (γ := Bool × D) (δ := V) (R := RV K) (Q := Q) (h := fun h ρ3 => match getOp ρ3 o with
    | some d => optR (slD d l h) ρ3
    | none => .no) k2 fun h h' M3 H3 ρ3 ev3 er3 r3 k3 => ?_⟩
  have : h = h' := r3
  subst this
  have r1' : OpdR K M3 H3 σ v o := OpdR.ev ev3 (OpdR.ev ev2 r1)
  cases g : getOp ρ3 o with
  | none => exact (k3.no (by simp only [g])).elim
  | some d =>
  cases s : slD d l h with
  | none => exact (k3.no (by simp only [g, s]; rfl)).elim
  | some q =>
  obtain ⟨own, r⟩ := q
  refine ⟨M3, d, own, r, er3.mt, r1'.val er3 g, s, fun w M' H' o' => ?_⟩
  obtain ⟨ev4, er4, rv⟩ := OutR.rv er3 o'
  exact k3.ok (a := (own, r)) (ρ1 := ρ3) (by simp only [g, s]; rfl) w M' H' ev4 er4 rv
end
/-! ### a thing of one's own is changed -/
section
variable {K : PySem.W.Frag} {F : Fx} {M : Ad} {H : Hp} {σ : L2.St} {ρ : Env}
theorem getAr_io {i : Nat} {d : D} (h : getAr ρ (.io i) = some d) : ρ[i]? = some (.ow d) ∨ ρ[i]? = some (.io d) := by
  unfold getAr at h
  dsimp only at h
  split at h
  · rename_i e; cases h; exact .inl e
  · rename_i e; cases h; exact .inr e
  · cases h
theorem EnvR.io (e : EnvR K F M H σ ρ) {i : Nat} {d : D} (h : getAr ρ (.io i) = some d) : ∃ a, atS σ i = some (.ref a) ∧ M a ∧ ¬ F.k a ∧ Con K M H a d := by
  rcases getAr_io h with h | h
  · obtain ⟨a, q1, q2, q3, q4⟩ := e.sl i _ h; exact ⟨a, q1, q2, q3, q4⟩
  · obtain ⟨a, q1, q2, q3, _, q4⟩ := e.sl i _ h; exact ⟨a, q1, q2, q3, q4⟩
theorem EnvR.write (e : EnvR K F M H σ ρ) {i : Nat} {a : Addr} {d d' : D} {o : HO} (h : getAr ρ (.io i) = some d) (ha : atS σ i = some (.ref a)) (ho : Mut (some o)) (c : Con K M (upd H a o) a d') : EnvR K F M (upd H a o) σ (putIo i d' ρ) ∧ Ev F.k M H M (upd H a o) := by
  obtain ⟨b, hb, mb, nk, cb⟩ := e.io h
  rw [ha] at hb
  cases hb
  have mi : mineAt ρ i = true := by unfold mineAt; rcases getAr_io h with h | h <;> (rw [h]; rfl)
  have ev : Ev F.k M H M (upd H a o) := ⟨e.mt, fun b hb => by
      by_cases z : b = a
      · rw [z, upd_same]; simp
      · rwa [upd_ne z], fun b u hb nb => by
      rw [upd_ne (show b ≠ a from fun z => nb (z ▸ mb))]; exact hb, fun b m => .inl m, fun b k m => ⟨upd_ne (show b ≠ a from fun z => nk (z ▸ k)), m⟩⟩
  have mt : ∀ b, M b → Mut (upd H a o b) := fun b m => by
    by_cases z : b = a
    · rw [z, upd_same]; exact ho
    · rw [upd_ne z]; exact e.mt b m
  refine ⟨?_, ev⟩
  have ez : EnvZ K F (fun j => j = i) M (upd H a o) σ ρ := by
    refine ⟨mt, e.pm, e.len, fun j s es hj => ?_, fun j hj => ?_, e.ne, e.lent⟩
    · have q := e.sl j s es
      have own : mineAt ρ j = true → ∀ b, atS σ j = some (.ref b) → upd H a o b = H b := fun mj b hb => upd_ne fun z => e.ne i j a (fun z => hj z.symm) mi mj ha (by rw [← z]; exact hb)
      cases s with
      | no => trivial
      | fr d => obtain ⟨v, e1, r⟩ := q; exact ⟨v, e1, r.ev ev⟩
      | bo d =>
        obtain ⟨v, e1, r⟩ := q
        refine ⟨v, e1, ?_⟩
        rcases r with r | ⟨b, eb, p, m, c⟩
        · exact .inl (r.ev ev)
        · exact .inr ⟨b, eb, p, m, c.ev ev (upd_ne fun z => nk (z ▸ .inl p))⟩
      | ow d => obtain ⟨b, e1, m, p, c⟩ := q; exact ⟨b, e1, m, p, c.ev ev (own (by unfold mineAt; rw [es]; rfl) b e1)⟩
      | io d => obtain ⟨b, e1, m, p, l, c⟩ := q; exact ⟨b, e1, m, p, l, c.ev ev (own (by unfold mineAt; rw [es]; rfl) b e1)⟩
      | le d => obtain ⟨b, e1, m, p, l, c⟩ := q; exact ⟨b, e1, m, p, l, c.ev ev (upd_ne fun z => nk (z ▸ .inr p))⟩
    · subst hj
      rcases getAr_io h with h | h
      · exact ⟨a, d, ha, mb, nk, .inl h⟩
      · obtain ⟨b, q1, _, _, l, _⟩ := e.sl j _ h
        rw [ha] at q1
        cases q1
        exact ⟨a, d, ha, mb, nk, .inr ⟨h, l⟩⟩
  exact (ez.put rfl ha c).env fun j z => z.2 z.1
end
end Pd
set_option Elab.async false
set_option linter.all false
/-! Pd13: every expression that the translator takes. -/
namespace Pd
open PySem PySem.Spec PyProof.Rows L2
/-- a table of the module: what stands at a text -/
def TabAt (K : PySem.W.Frag) (w : World) (v : Option Value) (kvs : List (Str × D)) : Prop := ∃ d es n, v = some (.ref d) ∧ KDict K w d es n ∧ ∀ z, match kvs.lookup z with
  | some e => ∃ u v', PySem.W.nsIn K d z = some (some u) ∧ RelV v' u ∧ ∀ M H, Rep K M H v' e
  | none => PySem.W.nsIn K d z = some none
structure SX (m : Ms) (T : Tb) (XR : XRel) (n : Nat) (W : L2.WX) (X : Cx) : Prop where
  calm : X.calm = true
  nd : X.N.Nodup
  room : Ps.RoomG n X.A
  tk : L2.Takes X W
  blt : ∀ x, m.blts.contains x = true → X.mg x = none
  cst : ∀ x, m.csts.contains x = true → ∀ d, T.cst x = some d → ∃ v u, X.mg x = some u ∧ RelV v u ∧ ∀ M H, Rep X.K M H v d
  tab : ∀ x, m.tabs.contains x = true → ∀ kvs, T.tab x = some kvs → TabAt X.K X.w (X.mg x) kvs
  fn : ∀ x, m.fns.contains x = true → ∃ f fd ps, X.mg x = some (.ref f) ∧ PySem.W.keepIn X.K (.ref f) = true ∧ Ps.FnG X.prog X.w X.K X.mg X.base (L2.CX X.prog X.w) n f fd ps (spT X.K XR T x) ∧ Binds X.K fd ps [] ∧ ∀ k, m.dfl.contains (x, k) = true → (T.kinds x).length = k ∧ Binds X.K fd ps [.none]
  mth : ∀ c k, T.isM c k = true → ∃ f fd ps, Cls X.K (He.ga X.K c) ∧ Meth X.K (He.ga X.K c) k f ∧ Ps.FnG X.prog X.w X.K X.mg X.base (L2.CX X.prog X.w) n f fd ps (spT X.K XR T (mth c k)) ∧ Binds X.K fd ps []
  cls : ∀ c, m.clss.contains c = true → T.isC c = true → ∃ n' f fd ps, n = n' + 1 ∧ X.mg c = some (.ref (He.ga X.K c)) ∧ Mk X.K (He.ga X.K c) f ∧ Ps.FnG X.prog X.w X.K X.mg X.base (L2.CX X.prog X.w) n' f fd ps (spT X.K XR T.low (Pd.mth c "__init__")) ∧ Binds X.K fd ps []
  fld : ∀ c f, T.isF c f = true → Cls X.K (He.ga X.K c) ∧ NoAttr X.K (He.ga X.K c) f
structure Three (X : Cx) (T : Tb) (XR : XRel) (W : L2.WX) (e : Expr) (x : Ex) : Prop where
  v : PE X e (RdV X.K XR W T x)
  t : PT X e (RdT X.K XR W T x)
  o : ∀ i, x = .var i → PE X e (tVar i)
section
variable {X : Cx} {m : Ms} {T : Tb} {XR : XRel} {W : L2.WX} {n : Nat}
theorem SX.un (S : SX m T XR n W X) : X.A.units + 65 < cLine := by have := S.room.r.un; omega
theorem SX.blk (S : SX m T XR n W X) (s : Shared) (H : Hp) (scope : Scope) (env : PySem.Env) (fp : List Addr) : SX m T XR n noW (X.blk s H scope env fp) :=
  ⟨S.calm, S.nd, S.room, takes0, S.blt, S.cst, S.tab, S.fn, S.mth, S.cls, S.fld⟩
theorem Three.ro {e : Expr} {x : Ex} (h : Three X T XR W e x) : PE X e (RdO X.K XR W T x) := simO h.v h.o
theorem rdT_bad {σ : L2.St} {H : Hp} {Q : Bool → Hp → Prop} : ¬ RdT X.K XR W T .bad σ H Q := fun ⟨F, M, ρ, _, x⟩ => x.no rfl
theorem Three.bad {e : Expr} : Three X T XR W e .bad := ⟨pe_absurd fun _ _ _ => Rg.bad, pt_absurd fun _ _ _ => rdT_bad, fun i h => nomatch h⟩
theorem Three.val {e : Expr} {x : Ex} (h : PE X e (RdV X.K XR W T x)) (hx : ∀ i, x ≠ .var i) (he : ∀ whole, isTrue e X.env whole = (do let v ← whole; standAt e.pos; holding [v] (truthy v))) : Three X T XR W e x :=
  ⟨h, pt_imp (pt_val h he) fun _ _ _ w => tst_v hx w, fun i z => absurd z (hx i)⟩
theorem slotV_vis {N : List Str} {sc : Scope} {x : Str} {i : Nat} (h : slotV N sc x = some i) : N[i]? = some x ∧ Vis sc x ∧ (x == ("__debug__" : Str)) = false ∧ (x == ("__classdict__" : Str)) = false := by
  unfold slotV at h
  by_cases hp : plainName x = true
  · rw [if_pos hp] at h
    unfold plainName at hp
    simp only [Bool.and_eq_true, Bool.not_eq_true'] at hp
    split at h
    · rename_i e; exact ⟨idxOf_some h, .inl e, hp.1.1, hp.1.2⟩
    · rename_i e; exact ⟨idxOf_some h, .inr (.inl e), hp.1.1, hp.1.2⟩
    · rename_i e; exact ⟨idxOf_some h, .inr (.inr e), hp.1.1, hp.1.2⟩
    · cases h
  · rw [if_neg hp] at h; cases h
theorem isGl_gl {x : Str} (h : isGl X.env.scope x = true) : Gl X x ∧ (x == ("__debug__" : Str)) = false ∧ x ≠ "__name__" := by
  unfold isGl at h
  rw [Bool.and_eq_true] at h
  obtain ⟨hp, h⟩ := h
  unfold plainName at hp
  simp only [Bool.and_eq_true, Bool.not_eq_true'] at hp
  refine ⟨?_, hp.1.1, fun z => ?_⟩
  · show X.env.scope.names.lookup x = some .globalImplicit
    split at h
    · rename_i e; exact e
    · cases h
  · have := hp.2
    rw [z] at this
    revert this
    decide
theorem pe_slot {x : Str} {i : Nat} {p : Pos} (h : slotV X.N X.env.scope x = some i) : PE X (.Name x p) (tVar i) := by
  obtain ⟨h1, h2, h3, h4⟩ := slotV_vis h
  exact pe_var h1 h2 h3 h4
theorem Three.var {x : Str} {i : Nat} {p : Pos} (h : PE X (.Name x p) (tVar i)) : Three X T XR W (.Name x p) (.var i) := by
  have hv : ∀ j, (Ex.var i) = .var j → PE X (.Name x p) (tVar j) := fun j z => by cases z; exact h
  have v : PE X (.Name x p) (RdV X.K XR W T (.var i)) := simVar h
  refine ⟨v, pt_imp (pt_val (simO (W := W) (T := T) (XR := XR) v hv) fun _ => rfl) fun _ _ _ w => tst_o w, hv⟩
theorem Three.cst {e : Expr} {ex : Ex} {v : V} {d : D} (h : PE X e (tC v)) (he : ∀ ρ, evalV T ex ρ = .ok ((false, d), ρ)) (r : ∀ M H, Rep X.K M H v d) (hx : ∀ i, ex ≠ .var i) (ht : ∀ whole, isTrue e X.env whole = (do let v ← whole; standAt e.pos; holding [v] (truthy v))) : Three X T XR W e ex :=
  .val (simC h he r) hx ht
theorem plain_ix {b : Expr} (h : plainIx b = true) : PlainIx b := by
  cases b <;> first | exact fun _ _ => rfl | cases h
theorem noBehind {op : CmpOp} {b : Expr} (h : isSet b = false) : behindInMarks op b = false := by
  cases b <;> first | rfl | cases h
theorem lastNo {o1 o2 : CmpOp} {b c : Expr} (h : isSet c = false) : lastMarks [o1, o2] [b, c] = false := noBehind h
theorem folded_no {e : Expr} {env : PySem.Env} (h : isSet e = false) : ∀ x, foldedSetIterable e env x = pure x := by
  cases e <;> first | exact fun _ => rfl | cases h
theorem trs_paired {N : List Str} {sc : Scope} {P : Expr → Ex → Prop} : ∀ {es : List Expr}, (∀ e ∈ es, P e (tr m N e sc)) → Paired P es (trs m N es sc)
  | [], _ => by rw [trs]; exact .nil
  | e :: es, h => by
    rw [trs]
    exact .cons (h e List.mem_cons_self) (trs_paired fun e' m => h e' (List.mem_cons_of_mem _ m))
theorem trs_len {N : List Str} {sc : Scope} : ∀ es : List Expr, (trs m N es sc).length = es.length
  | [] => by rw [trs] <;> rfl
  | e :: es => by rw [trs, List.length_cons, List.length_cons, trs_len es]
theorem andL_var {xs : List Ex} (h : 2 ≤ xs.length) (i : Nat) : andL xs ≠ .var i := by
  match xs, h with
  | _ :: _ :: _, _ => exact fun z => nomatch z
theorem orL_var {xs : List Ex} (h : 2 ≤ xs.length) (i : Nat) : orL xs ≠ .var i := by
  match xs, h with
  | _ :: _ :: _, _ => exact fun z => nomatch z
theorem mem_lt {e : Expr} {es : List Expr} (h : e ∈ es) : sizeOf e < sizeOf es := List.sizeOf_lt_of_mem h
theorem nn_ne (x : Ex) : nn x ≠ .nil := by cases x <;> exact fun h => nomatch h
theorem Three.nn {e : Expr} {x : Ex} (h : Three X T XR W e x) : Three X T XR W e (nn x) := by
  cases x <;> first | exact h | exact .bad
theorem po_of {e : Option Expr} (h : ∀ e', e = some e' → Three X T XR W e' (tr m X.N e' X.env.scope)) : PO X e (RdP X.K XR W T (trO m X.N e X.env.scope)) := by
  cases e with
  | none =>
    rw [trO]
    exact ⟨fun pins s σ H Q I w => po_none.run pins s σ H Q I (part_nil w)⟩
  | some e' =>
    rw [trO]
    exact ⟨fun pins s σ H Q I w => (po_some ((h e' rfl).nn.ro)).run pins s σ H Q I (part_some (nn_ne _) w)⟩
/-! built-ins -/
theorem simBi (S : SX m T XR n W X) {x : Str} {b : Bi} {es : List Expr} {xs : List Ex} {p pos : Pos} (hg : isGl X.env.scope x = true) (hm : X.mg x = none) (hb : biOf x = some b) (hs : es.all notStar = true) (ha : PA X es (RdOs X.K XR W T xs)) (hl : xs.length = es.length) : PE X (.Call (.Name x p) es [] pos) (RdV X.K XR W T (.bi b xs)) := by
  obtain ⟨g1, g2, g3⟩ := isGl_gl hg
  cases es with
  | nil =>
    cases xs with
    | cons _ _ => cases hl
    | nil =>
      refine pe_absurd fun σ H Q ⟨F, M, ρ, er, y⟩ => y.no ?_
      show optR (biD b []) ρ = _
      cases b <;> rfl
  | cons e es =>
    rw [List.all_cons, Bool.and_eq_true] at hs
    have bv := bi_boot hb
    have cb := call_bi (X := X) S.calm S.un S.room.g b
    refine simN (f := biD b) (es := xs) ?_ (fun ρ => by rw [evalV] <;> rfl)
    have h1 : ∀ id, biVal b = .builtin id → PE X (.Call (.Name x p) (e :: es) [] pos) (tCB (rCall X.K (biD b)) (RdOs X.K XR W T xs)) := fun id hi =>
      pe_callB (id := id) (hi ▸ cb) g1 hm (hi ▸ bv) ha g3 g2 (starEach_cons hs.1) (star_any hs.2)
    have h2 : ∀ id, biVal b = .type id → PE X (.Call (.Name x p) (e :: es) [] pos) (tCB (rCall X.K (biD b)) (RdOs X.K XR W T xs)) := fun id hi =>
      pe_callTy (T := id) (hi ▸ cb) g1 hm (hi ▸ bv) ha g3 g2 (starEach_cons hs.1) (star_any hs.2)
    cases b <;> first | exact h1 _ rfl | exact h2 _ rfl
theorem simIsi (S : SX m T XR n W X) {a : Expr} {t : Str} {ty : Ty} {x : Ex} {p p2 pos : Pos} (hg : isGl X.env.scope "isinstance" = true) (hm : X.mg "isinstance" = none) (ht : isGl X.env.scope t = true) (hmt : X.mg t = none) (hty : tyOf t = some ty) (hs : notStar a = true) (h : PE X a (RdO X.K XR W T x)) :
    PE X (.Call (.Name "isinstance" p) [a, .Name t p2] [] pos) (RdV X.K XR W T (.isi x ty)) := by
  obtain ⟨g1, g2, g3⟩ := isGl_gl hg
  obtain ⟨t1, t2, t3⟩ := isGl_gl ht
  refine sim1 (r1 := rUn0 X.K (isiV ty)) (fun _ _ _ h => h) (a := x) ?_ (fun ρ => by rw [evalV])
  refine pe_imp (pe_callB (call_isiD ty) g1 hm (by decide +kernel) (pa_cons h (pa_cons (pe_bltn (v := .ty (tyName ty)) t1 hmt (ty_boot hty) (show L2.RelV (.ty (tyName ty)) (.type (tyName ty)) from rfl) t3 t2) pa_nil rfl) (starEach_cons hs)) g3 g2 (starEach_cons hs) rfl) ?_
  intro σ H Q w
  exact Rg.mono (fun v H1 q => ⟨v, rfl, q⟩) w
/-- pop -/
theorem simPop (S : SX m T XR n W X) {o : Str} {i : Nat} {args : List Expr} {x : Ex} {p apos pos : Pos} (ho : slotV X.N X.env.scope o = some i) (hl : (apos.endLine == pos.line) = true)
    (ha : (args = [] ∧ x = .nil) ∨ ∃ a, args = [a] ∧ notStar a = true ∧ x ≠ .nil ∧ PE X a (RdO X.K XR W T x)) : PE X (.Call (.Attribute (.Name o p) "pop" apos) args [] pos) (RdV X.K XR W T (.pop i x)) := by
  have hv : PE X (.Name o p) (tVar i) := pe_slot ho
  have fin : ∀ {F : Fx} {M : Ad} {H : Hp} {σ : L2.St} {ρ : Env} {Q : VK} {l : Option Int}, EnvR X.K F M H σ ρ → At X.K XR W (fun ρ => match getAr ρ (.io i) with
        | some d => match popD l d with
          | some (r, d') => .ok ((false, r), putIo i d' ρ)
          | none => .no
        | none => .no) (RV X.K) F M H σ ρ Q → ∃ a xs j y, atS σ i = some (.ref a) ∧ H a = some (.lst xs) ∧ ixN xs.length (l.getD (-1)) = some j ∧ xs[j]? = some y ∧ xs.length ≤ sizeLine ∧ Q y (upd H a (.lst (xs.eraseIdx j))) := by
    intro F M H σ ρ Q l er y
    cases g : getAr ρ (.io i) with
    | none => exact (y.no (by simp only [g])).elim
    | some d =>
    cases hp : popD l d with
    | none => exact (y.no (by simp only [g, hp])).elim
    | some q =>
    obtain ⟨r, d'⟩ := q
    obtain ⟨a, e1, mA, nk, c⟩ := er.io g
    cases d with
    | lst ds =>
      unfold popD at hp
      dsimp only at hp
      by_cases hz : ds.length ≤ sizeLine
      case neg => rw [if_neg hz] at hp; cases hp
      rw [if_pos hz] at hp
      cases hj : ixN ds.length (l.getD (-1)) with
      | none => rw [hj] at hp; cases hp
      | some j =>
      rw [hj] at hp
      cases hd : ds[j]? with
      | none => rw [Option.bind_some, hd] at hp; cases hp
      | some d0 =>
      rw [Option.bind_some, hd] at hp
      cases hp
      cases c with
      | lst hH rr =>
      rename_i xs
      obtain ⟨v, hv1, hv2⟩ := rr.get hd
      refine ⟨a, xs, j, v, e1, hH, by rw [rr.length]; exact hj, hv1, by rw [rr.length]; exact hz, ?_⟩
      have ev0 : Ev F.k M H M (upd H a (.lst (xs.eraseIdx j))) := ⟨er.mt, fun b hb => by
        by_cases z : b = a
        · rw [z, upd_same]; simp
        · rwa [upd_ne z], fun b u hb nb => by rw [upd_ne (show b ≠ a from fun z => nb (z ▸ mA))]; exact hb, fun b m => .inl m, fun b k m => ⟨upd_ne (show b ≠ a from fun z => nk (z ▸ k)), m⟩⟩
      obtain ⟨er2, ev2⟩ := er.write (o := .lst (xs.eraseIdx j)) (d' := .lst (ds.eraseIdx j)) g e1 trivial (.lst upd_same ((rr.ev ev0).eraseIdx j))
      exact y.ok (a := ((false, r) : Bool × D)) (ρ1 := putIo i (.lst (ds.eraseIdx j)) ρ) (by simp only [g]; unfold popD; dsimp only; rw [if_pos hz, hj, Option.bind_some, hd]; rfl) v M _ ev2 er2 (RvR.f (hv2.ev ev0))
    | _ => cases hp
  -- the receiver stands
  have recv : ∀ {F : Fx} {M : Ad} {H : Hp} {σ : L2.St} {ρ : Env}, EnvR X.K F M H σ ρ → (getAr ρ (.io i)).any isLst = true → ∃ a xs, atS σ i = some (.ref a) ∧ H a = some (.lst xs) := by
    intro F M H σ ρ er h
    cases g : getAr ρ (.io i) with
    | none => rw [g] at h; cases h
    | some d =>
    rw [g] at h
    obtain ⟨a, e1, _, _, c⟩ := er.io g
    cases c with
    | lst hH rr => exact ⟨a, _, e1, hH⟩
    | dK _ _ _ => cases h
    | dTu _ _ _ => cases h
    | obj _ _ _ => cases h
  rcases ha with ⟨rfl, rfl⟩ | ⟨a, rfl, hs, hx, h⟩
  · refine pe_imp (pe_bm0 PySem.F.plainAttrs_list PySem.F.slot_list_pop PySem.F.type_list_pop mt_pop hv rfl hl) ?_
    rintro σ H Q ⟨F, M, ρ, er, y⟩
    by_cases hany : (getAr ρ (.io i)).any isLst = true
    case neg => exact (y.no (by rw [evalV, if_neg hany])).elim
    have y' : At X.K XR W (fun ρ => match getAr ρ (.io i) with
        | some d => match popD none d with
          | some (r, d') => .ok ((false, r), putIo i d' ρ)
          | none => .no
        | none => .no) (RV X.K) F M H σ ρ Q := At.cong (by rw [evalV, if_pos hany] <;> rfl) y
    obtain ⟨a, xs, j, v, e1, hH, hj, hv, hz, q⟩ := fin er y'
    refine ⟨.ref a, atS_some e1, .inl ⟨rfl, xs, .of hH⟩, a, xs, v, rfl, rfl, hH, ?_, ?_⟩
    · have : j = xs.length - 1 := by
        obtain ⟨h1, h2, h3, h4⟩ := ixN_seq hj
        unfold ixN at hj
        simp only [Option.getD_none] at hj h3
        rw [if_neg (by decide), if_pos h3] at hj
        cases hj
        omega
      rw [← this]; exact hv
    · have : xs.eraseIdx j = xs.dropLast := by
        obtain ⟨h1, h2, h3, h4⟩ := ixN_seq hj
        unfold ixN at hj
        simp only [Option.getD_none] at hj h3
        rw [if_neg (by decide), if_pos h3] at hj
        cases hj
        rw [show ((-1 : Int) + (xs.length : Int)).toNat = xs.length - 1 by omega, List.eraseIdx_length_sub_one]
      rw [← this]; exact q
  · refine pe_imp (pe_bm PySem.F.plainAttrs_list PySem.F.slot_list_pop PySem.F.type_list_pop mt_popAt hv (pa_cons h pa_nil (starEach_cons hs)) rfl ?_ hl (starEach_cons hs) rfl) ?_
    · rw [starEach_cons hs]; rfl
    rintro σ H Q ⟨F, M, ρ, er, y⟩
    by_cases hany : (getAr ρ (.io i)).any isLst = true
    case neg => exact (y.no (by rw [evalV, if_neg hany])).elim
    obtain ⟨a0, xs0, e0, h0⟩ := recv er hany
    refine ⟨.ref a0, atS_some e0, .inl ⟨rfl, xs0, .of h0⟩, ?_⟩
    have pi : RdP X.K XR W T x σ H (fun l H2 => ∃ k, l = some k ∧ rPopAt (.ref a0) [.int k] H2 Q) := by
      refine ⟨F, M, ρ, er, At.bindE (γ := Bool × D) (δ := V) (R := RV X.K) (Q := Q) (h := fun l ρ1 => match getAr ρ1 (.io i) with
        | some d => match popD l d with
          | some (r, d') => .ok ((false, r), putIo i d' ρ1)
          | none => .no
        | none => .no) (At.cong (by rw [evalV, if_pos hany] <;> rfl) y) fun l l' M2 H2 ρ2 ee ev2 er2 rl k2 => ?_⟩
      have : l = l' := rl
      subst this
      obtain ⟨a, xs, j, v, e1, hH, hj, hv, hz, q⟩ := fin er2 k2
      rw [e0] at e1
      cases e1
      cases l with
      | none =>
        exfalso
        revert ee
        unfold partD
        split
        · exact absurd rfl hx
        · intro ee
          obtain ⟨p, _, e2⟩ := bind_eq_ok ee
          split at e2
          · cases e2
          · cases e2
      | some k =>
        obtain ⟨h1, h2, h3, h4⟩ := ixN_seq hj
        rw [sizeLine_eq] at hz
        have h3' : -(xs.length : Int) ≤ k := h3
        have h4' : k < xs.length := h4
        refine ⟨k, rfl, a0, xs, k, j, v, rfl, rfl, hH, ?_, ?_, h1, hv, q⟩ <;> omega
    refine Rg.mono ?_ (part_some hx pi)
    rintro v H1 ⟨k, rfl, k', hk, q⟩
    cases hk
    exact q
/-! a dict display -/
def dTrs (K : PySem.W.Frag) (XR : XRel) (W : L2.WX) (T : Tb) : List Str → List Ex → List (TE × TE)
  | k :: ks, x :: xs => (tC (.str k), RdV K XR W T x) :: dTrs K XR W T ks xs
  | _, _ => []
theorem dct_pairs {K : PySem.W.Frag} : ∀ {ks : List Str} {xs : List Ex} {σ : L2.St} {H : Hp} {Q : List (V × V) → Hp → Prop}, ks.length = xs.length → RdVs K XR W T xs σ H (fun vs H' => Q (List.zipWith (fun k v => (V.str k, v)) ks vs) H') → tPairs (dTrs K XR W T ks xs) σ H Q
  | [], [], σ, H, Q, _, h => by
    obtain ⟨F, M, ρ, er, x⟩ := h
    exact x.ok (a := []) (ρ1 := ρ) (by rw [evalVs]) [] M H (.refl er.mt) er .nil
  | k :: ks, x :: xs, σ, H, Q, hl, h => by
    show RdV K XR W T x σ H fun y H2 => tPairs (dTrs K XR W T ks xs) σ H2 fun ps H3 => Q ((V.str k, y) :: ps) H3
    refine Rg.bind (γ := List D) (δ := List V) (R := RVs K) (Q := fun vs H' => Q (List.zipWith (fun k v => (V.str k, v)) (k :: ks) vs) H') (h := fun (a : Bool × D) ρ1 => evalVs T xs ρ1 >>= fun p => .ok (a.2 :: p.1, p.2)) (Rg.cong (fun ρ => by rw [evalVs]) h) fun F M a v H1 ρ1 er1 r1 k1 => ?_
    obtain ⟨M2, ev2, er2, rp⟩ := RvR.freeze er1 r1
    refine dct_pairs (by simpa using hl) ⟨F, M2, ρ1, er2, At.bind (γ := List D) (δ := List V) (R := RVs K) (Q := fun vs H' => Q (List.zipWith (fun k v => (V.str k, v)) (k :: ks) vs) H') (h := fun ds ρ2 => .ok (a.2 :: ds, ρ2)) (At.step ev2 k1) fun ds vs M3 H3 ρ3 ev3 er3 r3 k3 => ?_⟩
    exact k3.ok (a := a.2 :: ds) (ρ1 := ρ3) rfl (v :: vs) M3 H3 (.refl er3.mt) er3 (.cons (rp.ev ev3) r3)
theorem put_new {κ : Type} [DecidableEq κ] {kvs : List (κ × V)} {k : κ} {v : V} (h : k ∉ kvs.map (·.1)) : putK kvs k v = kvs ++ [(k, v)] := by
  unfold putK
  rw [if_neg]
  intro z
  obtain ⟨p, hp, e⟩ := List.any_eq_true.mp z
  exact h (List.mem_map.mpr ⟨p, hp, of_decide_eq_true e⟩)
theorem merge_new : ∀ {more kvs : List (Key × V)}, (more.map (·.1)).Nodup → (∀ k ∈ more.map (·.1), k ∉ kvs.map (·.1)) → mergeK kvs more = kvs ++ more
  | [], kvs, _, _ => by show kvs = _; rw [List.append_nil]
  | p :: more, kvs, hn, hd => by
    show mergeK (putK kvs p.1 p.2) more = _
    rw [List.map_cons, List.nodup_cons] at hn
    rw [put_new (hd p.1 (by simp)), merge_new hn.2 fun k hk => ?_]
    · simp
    · intro z
      rw [List.map_append, List.mem_append] at z
      rcases z with z | z
      · exact hd k (List.mem_cons_of_mem _ hk) z
      · have : k = p.1 := by simpa using z
        exact hn.1 (this ▸ hk)
theorem zip_fst : ∀ {ks : List Str} {vs : List V}, ks.length = vs.length → (List.zipWith (fun k v => ((Sum.inr k : Key), v)) ks vs).map (·.1) = ks.map Sum.inr
  | [], [], _ => rfl
  | k :: ks, v :: vs, h => by
    have ih := zip_fst (ks := ks) (vs := vs) (by simpa using h)
    show (Sum.inr k : Key) :: _ = Sum.inr k :: _
    rw [ih]
theorem zip_snd : ∀ {ks : List Str} {vs : List V}, ks.length = vs.length → (List.zipWith (fun k v => ((Sum.inr k : Key), v)) ks vs).map (·.2) = vs
  | [], [], _ => rfl
  | k :: ks, v :: vs, h => by
    have ih := zip_snd (ks := ks) (vs := vs) (by simpa using h)
    show v :: _ = v :: _
    rw [ih]
theorem dct_i {K : PySem.W.Frag} {ks : List Str} {xs : List Ex} (hl : ks.length = xs.length) {σ : L2.St} {H : Hp} {Q : VK} (h : RdV K XR W T (.dct ks xs) σ H Q) : tDisp (dTrs K XR W T ks xs) σ H Q := by
  obtain ⟨F, M, ρ, er, x⟩ := h
  intro D hD
  refine dct_pairs hl ?_
  have g0 : Grow M H (fun a => M a ∨ a = D) (upd H D (.dK [])) := Grow.new hD er.mt trivial
  have er0 : EnvR K F (fun a => M a ∨ a = D) (upd H D (.dK [])) σ ρ := er.grow g0
  have ns : ∀ i, mineAt ρ i = true → atS σ i ≠ some (.ref D) := fun i hm z => by
    obtain ⟨a, d, e1, _, _, c⟩ := er.mineC hm
    rw [z] at e1
    obtain rfl : D = a := by injection e1 with e1; injection e1
    exact c.there hD
  have hDl : ∀ i, F.l i ≠ some D := fun i z => by
    obtain ⟨d, w⟩ := er.lent i D z
    rcases w with w | w
    · obtain ⟨a, _, _, _, l, c⟩ := er.sl i _ w
      rw [z] at l
      obtain rfl := Option.some.inj l
      exact c.there hD
    · obtain ⟨a, _, _, _, l, c⟩ := er.sl i _ w
      rw [z] at l
      obtain rfl := Option.some.inj l
      exact c.there hD
  have hMD : ¬ M D := fun z => by
    have := er.mt D z
    rw [hD] at this; exact this
  have hDk : ¬ F.k D := fun z => hMD (er.pm D z)
  have erg : EnvR K (F.guard D) (fun a => M a ∨ a = D) (upd H D (.dK [])) σ ρ := er0.guard (.inr rfl) ns
  have sub : ∀ a, F.k a → (F.guard D).k a := fun a z => z.elim .inl fun z => .inr (.inl z)
  refine ⟨F.guard D, _, ρ, erg, ?_⟩
  unfold At
  cases e : evalVs T xs ρ with
  | no => exact (x.no (by rw [evalV, e] <;> rfl)).elim
  | ex z ρ2 =>
    unfold At at x
    rw [evalV, e] at x
    intro c da M' H' ev er' xr
    exact x c da M' H' ((g0.ev er.mt).trans (ev.mono sub)) (er'.unguard hDl).1 xr
  | ok p =>
    obtain ⟨ds, ρ2⟩ := p
    intro vs M' H' ev er' r
    obtain ⟨pD, mD⟩ := ev.prot D (.inr (.inr rfl)) (.inr rfl)
    rw [upd_same] at pD
    by_cases hc : ks.length = ds.length ∧ ks.Nodup ∧ ks.length ≤ 15
    case neg => exact (x.no (by rw [evalV, e]; show (if _ then _ else _) = _; rw [if_neg hc])).elim
    have lv : vs.length = ds.length := Reps.length r
    refine ⟨pD, List.zipWith (fun k v => ((Sum.inr k : Key), v)) ks vs, ?_, by rw [List.length_zipWith]; omega, ?_⟩
    · rw [List.map_zipWith]; rfl
    have e1 := zip_fst (ks := ks) (vs := vs) (by omega)
    have e2 := zip_snd (ks := ks) (vs := vs) (by omega)
    have em : mergeK [] (List.zipWith (fun k v => ((Sum.inr k : Key), v)) ks vs) = List.zipWith (fun k v => ((Sum.inr k : Key), v)) ks vs := by
      rw [merge_new (kvs := []) (by rw [e1]; exact List.Pairwise.map _ (fun a b h z => h (Sum.inr.inj z)) hc.2.1) (fun k _ z => by cases z)]
      rfl
    rw [em]
    obtain ⟨er3, evw⟩ := er'.writeG (o := .dK (List.zipWith (fun k v => ((Sum.inr k : Key), v)) ks vs)) mD (.inr rfl) (fun z => hDk (.inl z)) (fun i z => hDl i z) trivial
    obtain ⟨ef, nf⟩ := er3.unguard hDl
    have evf := ((g0.ev er.mt).trans (ev.mono sub)).trans (evw F.k hDk)
    refine x.ok (a := ((true, Pd.D.dct (ks.map fun k => .inl (.inr k)) ds) : Bool × Pd.D)) (ρ1 := ρ2) (by rw [evalV, e]; show (if _ then _ else _) = _; rw [if_pos hc]) (.ref D) M' _ evf ef ?_
    refine ⟨D, rfl, mD, hDk, nf, .dK upd_same ?_ ?_⟩
    · show (ks.map fun k => (Sum.inl (Sum.inr k) : Ky)) = (List.zipWith (fun k v => ((Sum.inr k : Key), v)) ks vs).map fun p => Sum.inl p.1
      have : (List.zipWith (fun k v => ((Sum.inr k : Key), v)) ks vs).map (fun p => (Sum.inl p.1 : Ky)) = ((List.zipWith (fun k v => ((Sum.inr k : Key), v)) ks vs).map (·.1)).map Sum.inl := by rw [List.map_map] <;> rfl
      rw [this, e1, List.map_map]
      rfl
    · rw [e2]
      exact Reps.ev (evw F.k hDk) r
theorem keys_some : ∀ {ks : List (Option Expr)} {xs : List Str}, keysOf ks = some xs → ks.all (·.isSome) = true ∧ ks.length = xs.length
  | [], _, h => by cases h; exact ⟨rfl, rfl⟩
  | some (.Constant (.str x) j p) :: ks, xs, h => by
    obtain ⟨ys, e, rfl⟩ := Option.map_eq_some_iff.mp (show (keysOf ks).map (x :: ·) = some xs from h)
    obtain ⟨a, b⟩ := keys_some e
    exact ⟨by rw [List.all_cons, a] <;> rfl, by rw [List.length_cons, List.length_cons, b]⟩
theorem simPps {pos : Pos} : ∀ {ks : List (Option Expr)} {ss : List Str} {es : List Expr} {xs : List Ex}, keysOf ks = some ss → Paired (fun e x => PE X e (RdV X.K XR W T x)) es xs → ss.length = es.length → PPs X pos ks es (dTrs X.K XR W T ss xs)
  | [], _, [], _, h, .nil, _ => by cases h; exact pps_nil
  | some (.Constant (.str x) j p) :: ks, ss, e :: es, y :: xs, h, .cons a t, hl => by
    obtain ⟨ys, q, rfl⟩ := Option.map_eq_some_iff.mp (show (keysOf ks).map (x :: ·) = some ss from h)
    exact pps_cons pe_str a (simPps q t (by simpa using hl))
  | [], _, e :: es, _, h, _, hl => by cases h; cases hl
  | some (.Constant (.str x) j p) :: ks, ss, [], _, h, _, hl => by
    obtain ⟨ys, q, rfl⟩ := Option.map_eq_some_iff.mp (show (keysOf ks).map (x :: ·) = some ss from h)
    cases hl
theorem rgV_reps {K : PySem.W.Frag} {M : Ad} {H : Hp} (n : Int) : Reps K M H (rgV 0 n) (rngD 0 n.toNat) := by
  unfold rgV rngD
  rw [Int.sub_zero]
  generalize List.range n.toNat = l
  induction l with
  | nil => exact .nil
  | cons k l ih => exact .cons (.int _) ih
theorem rgs_int {t : Bool} {d : D} {own : Bool} {r : D} (h : rgsD t d = some (own, r)) : ∃ n : Int, d = .int n ∧ -(2 ^ 20) < n ∧ n < 2 ^ 20 ∧ ((t = true ∧ own = false ∧ r = .tup (rngD 0 n.toNat)) ∨ (t = false ∧ own = true ∧ r = .lst (rngD 0 n.toNat))) := by
  unfold rgsD at h
  split at h
  · rename_i n
    split at h
    · rename_i hn
      refine ⟨n, rfl, hn.1, hn.2, ?_⟩
      cases t with
      | true =>
        obtain ⟨a, b⟩ := some2 (show some (false, D.tup (rngD 0 n.toNat)) = some (own, r) from h)
        exact .inl ⟨rfl, a, b⟩
      | false =>
        obtain ⟨a, b⟩ := some2 (show some (true, D.lst (rngD 0 n.toNat)) = some (own, r) from h)
        exact .inr ⟨rfl, a, b⟩
    · cases h
  · cases h
/-- tuple(range(n)), list(range(n)) -/
theorem simRgs (S : SX m T XR n W X) {x : Str} {a : Expr} {y : Ex} {t : Bool} {p p2 p3 pos : Pos} (hx : (t = true ∧ x = "tuple") ∨ (t = false ∧ x = "list")) (hg : isGl X.env.scope x = true) (hm : X.mg x = none) (hg2 : isGl X.env.scope "range" = true) (hm2 : X.mg "range" = none) (hs : notStar a = true)
    (h : PE X a (RdO X.K XR W T y)) : PE X (.Call (.Name x p) [.Call (.Name "range" p2) [a] [] p3] [] pos) (RdV X.K XR W T (.rgs t y)) := by
  obtain ⟨g1, _, _⟩ := isGl_gl hg
  obtain ⟨r1, _, _⟩ := isGl_gl hg2
  have rg := prg_1 (X := X) (p := p2) (pos := p3) r1 hm2 h (starEach_cons hs)
  rcases hx with ⟨rfl, rfl⟩ | ⟨rfl, rfl⟩
  · refine sim1 (f := rgsD true) (r1 := fun x H Q => ∃ n, x = .int n ∧ RgOk 0 n ∧ ∀ q, H q = none → Q (.ref q) (upd H q (.tup (rgV 0 n)))) ?_ (a := y) (pe_tupRg S.calm g1 hm rg) (fun ρ => by rw [evalV])
    rintro x H Q ⟨M, d, own, r, mt, vx, hf, q⟩
    obtain ⟨n, rfl, h1, h2, h3⟩ := rgs_int hf
    have ex := vx.int; subst ex
    rcases h3 with ⟨_, rfl, rfl⟩ | ⟨z, _⟩
    · exact ⟨n, rfl, ⟨by omega, by omega, by omega, by omega, by omega⟩, fun p np => q _ M _ (.tup mt np (rgV_reps n))⟩
    · cases z
  · refine sim1 (f := rgsD false) (r1 := fun x H Q => ∃ n, x = .int n ∧ RgOk 0 n ∧ ∀ q, H q = none → Q (.ref q) (upd H q (.lst (rgV 0 n)))) ?_ (a := y) (pe_listRg S.calm g1 hm rg) (fun ρ => by rw [evalV])
    rintro x H Q ⟨M, d, own, r, mt, vx, hf, q⟩
    obtain ⟨n, rfl, h1, h2, h3⟩ := rgs_int hf
    have ex := vx.int; subst ex
    rcases h3 with ⟨z, _⟩ | ⟨_, rfl, rfl⟩
    · cases z
    · exact ⟨n, rfl, ⟨by omega, by omega, by omega, by omega, by omega⟩, fun p np => q _ _ _ (.lst mt np (rgV_reps n))⟩
/-- xs[::-1] -/
theorem simRevSl {e : Expr} {y : Ex} {k : Nat} {p1 p2 p3 pos : Pos} (h : PE X e (RdO X.K XR W T y)) : PE X (.Subscript e (.Slice none none (some (.UnaryOp .USub (.Constant (.int 1) k p1) p2)) p3) pos) (RdV X.K XR W T (.rev y)) := by
  refine sim1 (f := revD) (r1 := fun x H Q => ∃ a xs, x = .ref a ∧ ((SqL X.K H a xs ∧ ∀ p, H p = none → Q (.ref p) (upd H p (.lst xs.reverse))) ∨ (SqT X.K H a xs ∧ ∀ p, H p = none → Q (.ref p) (upd H p (.tup xs.reverse))))) ?_ (a := y) (Ps.pe_revX h) (fun ρ => by rw [evalV])
  rintro x H Q ⟨M, d, own, r, mt, vx, hf, q⟩
  cases d with
  | lst ds =>
    obtain ⟨rfl, rfl⟩ := some2 (show some (true, D.lst ds.reverse) = some (own, r) from hf)
    obtain ⟨a, xs, rfl, ha, ra⟩ := vx.lst
    exact ⟨a, xs, rfl, .inl ⟨.of ha, fun p np => q _ _ _ (.lst mt np ra.reverse)⟩⟩
  | tup ds =>
    obtain ⟨rfl, rfl⟩ := some2 (show some (false, D.tup ds.reverse) = some (own, r) from hf)
    obtain ⟨a, xs, rfl, ha, ra⟩ := vx.tup
    exact ⟨a, xs, rfl, .inr ⟨ha, fun p np => q _ M _ (.tup mt np ra.reverse)⟩⟩
  | _ => cases hf
/-- sorted(xs, reverse=True) -/
theorem call_sortedR (hu : X.A.units + 65 < cLine) : CallRK X (.builtin "sorted") [Str.ofString "reverse"] (fun vs zs H Q => zs = [.bl true] ∧ ∃ v, vs = [v] ∧ rUn0 X.K sortRD v H Q) := by
  intro pins s σ H vs zs us ws Q I r rz h
  obtain ⟨rfl, v, rfl, M, d, own, rr, mt, hv, hf, q⟩ := h
  obtain ⟨w1, rfl, e1⟩ := vals1 rz
  obtain rfl : w1 = Value.bool true := e1
  have main : ∀ {a : Addr} {xs : List V} {ds : List D}, v = .ref a → (SqL X.K H a xs ∨ SqT X.K H a xs) → Reps X.K M H xs ds → (sortD true ds).map (fun r => (true, D.lst r)) = some (own, rr) → wpAny (model X.prog X.w) X.A (call (.builtin "sorted") us [(Str.ofString "reverse", .bool true)]) (EP X pins σ Q) X.xe s := by
    intro a xs ds hva hs rx hf
    subst hva
    obtain ⟨es, e1, e2⟩ := Option.map_eq_some_iff.mp hf
    obtain ⟨rfl, rfl⟩ := some2 (congrArg some e2)
    obtain ⟨he, hd, hal, hk, hL⟩ := sortD_some e1
    obtain ⟨its, o, T, n, rv, ho, hc, hT, hdt, hz⟩ := sort_src I hs
    rw [Vals.ref1 r]
    have lz : xs.length = ds.length := rx.length
    refine Ps.sorted_rev_data (β := V × D) (R := fun u b => RelV b.1 u ∧ Rep X.K M H b.1 b.2) (enc := fun b => pyT b.2) (bs := xs.zip ds) ho hc hT hdt ?_ ?_ ?_ ?_ ?_ ?_ ?_
    · exact zip_each rv rx fun x u d a b _ => ⟨a, b⟩
    · exact zip_each rv rx fun x u d a b c => Dp.reads I (pyT d) x u (b.dp d (hd d c).1) a
    · have : (xs.zip ds).map (fun b => pyT b.2) = ds.map pyT := by rw [← zip_snd' lz, List.map_map]; simp only [zip_snd' lz]; rfl
      rw [this]; exact hal
    · have : (xs.zip ds).map (fun b => pyT b.2) = ds.map pyT := by rw [← zip_snd' lz, List.map_map]; simp only [zip_snd' lz]; rfl
      rw [this]; exact hk
    · rw [List.length_zip, lz, Nat.min_self]; exact hL
    · intro b hb
      have := (hd b.2 (List.of_mem_zip hb).2).2
      omega
    · intro out _ hout
      exact sort_core I mt rx hL he hout q
  cases d with
  | lst ds =>
    obtain ⟨a, xs, e, ha, ra⟩ := hv.lst
    exact main e (.inl (.of ha)) ra hf
  | tup ds =>
    obtain ⟨a, xs, e, ha, ra⟩ := hv.tup
    exact main e (.inr ha) ra hf
  | _ => cases hf
theorem simSortedR (S : SX m T XR n W X) {a : Expr} {y : Ex} {j : Nat} {p p2 p3 pos : Pos} (hg : isGl X.env.scope "sorted" = true) (hm : X.mg "sorted" = none) (hs : notStar a = true) (h : PE X a (RdO X.K XR W T y)) :
    PE X (.Call (.Name "sorted" p) [a] [⟨some "reverse", .Constant (.bool true) j p2, p3⟩] pos) (RdV X.K XR W T (.sortedR y)) := by
  obtain ⟨g1, g2, g3⟩ := isGl_gl hg
  refine sim1 (f := sortRD) (r1 := rUn0 X.K sortRD) (fun _ _ _ h => h) (a := y) ?_ (fun ρ => by rw [evalV])
  refine pe_imp (pe_callBK (call_sortedR S.un) g1 hm PyProof.Rows.boot_sorted (pa_cons h pa_nil (starEach_cons hs)) (pk_cons pe_bl pk_nil) g3 g2 (by rw [starEach_cons hs] <;> rfl) (by rw [starEach_cons hs] <;> rfl)) ?_
  intro σ H Q w
  exact Rg.mono (fun v H1 q => ⟨rfl, v, rfl, q⟩) w
/-- a tuple of few ints -/
theorem fewI_some {K : PySem.W.Frag} {F : Fx} {M : Ad} {H : Hp} {σ : L2.St} {ρ : Env} {o : Op} {v : V} {ns : List Int} (er : EnvR K F M H σ ρ) (r : OpdR K M H σ v o) (h : fewI (getOp ρ o) = some ns) : ∃ a, v = .ref a ∧ SqT K H a (ns.map V.int) ∧ ns.length ≤ 60 := by
  cases g : getOp ρ o with
  | none => rw [g] at h; cases h
  | some d =>
    rw [g] at h
    have vr := OpdR.val er r g
    cases d with
    | tup ds =>
      unfold fewI at h
      dsimp only at h
      split at h
      · rename_i ms e
        split at h
        · rename_i hl
          obtain rfl := Option.some.inj h
          obtain ⟨a, xs, rfl, h1, h2⟩ := vr.tup
          obtain ⟨rfl, _⟩ := ints_reps h2 e
          exact ⟨a, rfl, h1, hl⟩
        · cases h
      · cases h
    | _ => cases h
/-- set(a) -/
theorem pe_set {x : Str} {a : Expr} {t : TE} {p pos : Pos} (S : SX m T XR n W X) (hx : setGl m X.env.scope x = true) (hs : notStar a = true) (h : PE X a t) : PE X (.Call (.Name x p) [a] [] pos) (tCB (rSetI X.K X.w) (tCons t tNil)) := by
  unfold setGl at hx
  simp only [Bool.and_eq_true, decide_eq_true_eq] at hx
  obtain ⟨⟨rfl, hg⟩, hb⟩ := hx
  obtain ⟨g1, g2, g3⟩ := isGl_gl hg
  exact pe_callTy (cr_setI S.calm) g1 (S.blt _ hb) PyProof.Rows.boot_set (pa_cons h pa_nil (starEach_cons hs)) g3 g2 (starEach_cons hs) rfl
theorem meet_i {u v : Ex} : ∀ σ H Q, RdV X.K XR W T (.meet u v) σ H Q → tOp (rNeSet X.w) (tOp (rMeet X.w) (tCB (rSetI X.K X.w) (tCons (RdO X.K XR W T u) tNil)) (tCB (rSetI X.K X.w) (tCons (RdO X.K XR W T v) tNil))) (tCB (rSet0 X.w) tNil) σ H Q := by
  rintro σ H Q ⟨F, M, ρ, er, x0⟩
  have x1 := At.cong (g := fun ρ => opd (evalV T u) u ρ >>= fun p => match fewI (getOp p.2 p.1) with
    | some ns => opd (evalV T v) v p.2 >>= fun q => match fewI (getOp q.2 q.1) with
      | some ms => .ok ((false, .bl (meetB ns ms)), q.2)
      | none => .no
    | none => .no) (by show evalV T (.meet u v) ρ = _; rw [evalV] <;> rfl) x0
  refine ⟨F, M, ρ, er, At.bind (γ := Bool × D) (δ := V) (R := RV X.K) (Q := Q) (h := fun o ρ1 => match fewI (getOp ρ1 o) with
    | some ns => opd (evalV T v) v ρ1 >>= fun q => match fewI (getOp q.2 q.1) with
      | some ms => .ok ((false, .bl (meetB ns ms)), q.2)
      | none => .no
    | none => .no) x1 fun oa va M1 H1 ρ1 ev1 er1 r1 k1 => ?_⟩
  cases e1 : fewI (getOp ρ1 oa) with
  | none => exact (k1.no (by simp only [e1])).elim
  | some ns =>
    obtain ⟨pa, rfl, ta, la⟩ := fewI_some er1 r1 e1
    refine ⟨pa, ns, rfl, ta, la, fun q c nq hc => ?_⟩
    have g1 : Grow M1 H1 M1 (upd H1 q (SetO X.w q (fun j => decide (j ∈ ns)) c)) := Grow.ext nq er1.mt
    have er1' := er1.grow g1
    have k1' := At.cong (g := fun ρ1 => opd (evalV T v) v ρ1 >>= fun q => match fewI (getOp q.2 q.1) with
      | some ms => .ok ((false, .bl (meetB ns ms)), q.2)
      | none => .no) (by simp only [e1]) (At.step (g1.ev er1.mt) k1)
    refine ⟨F, M1, ρ1, er1', At.bind (γ := Bool × D) (δ := V) (R := RV X.K) (Q := Q) (h := fun o ρ1 => match fewI (getOp ρ1 o) with
      | some ms => .ok ((false, .bl (meetB ns ms)), ρ1)
      | none => .no) k1' fun ob vb M2 H2 ρ2 ev2 er2 r2 k2 => ?_⟩
    cases e2 : fewI (getOp ρ2 ob) with
    | none => exact (k2.no (by simp only [e2])).elim
    | some ms =>
      obtain ⟨pb, rfl, tb, lb⟩ := fewI_some er2 r2 e2
      refine ⟨pb, ms, rfl, tb, lb, fun q2 c2 nq2 hc2 => ?_⟩
      have hq2 : H2 q = some (SetO X.w q (fun j => decide (j ∈ ns)) c) := ev2.keep q _ upd_same (fun m => by
        have z := er1.mt q m
        rw [nq] at z
        exact z)
      have g2 : Grow M2 H2 M2 (upd H2 q2 (SetO X.w q2 (fun j => decide (j ∈ ms)) c2)) := Grow.ext nq2 er2.mt
      have hne : q ≠ q2 := fun z => by rw [z, nq2] at hq2; cases hq2
      refine ⟨q, q2, _, _, _, _, rfl, rfl, hne, by rw [upd_ne hne]; exact hq2, upd_same, fun q3 c3 nq3 => ?_⟩
      have g3 : Grow M2 (upd H2 q2 (SetO X.w q2 (fun j => decide (j ∈ ms)) c2)) M2 (upd (upd H2 q2 (SetO X.w q2 (fun j => decide (j ∈ ms)) c2)) q3 (SetO X.w q3 (fun k => decide (k ∈ ns) && decide (k ∈ ms)) c3)) := Grow.ext nq3 g2.mt
      refine ⟨rfl, fun q4 nq4 => ?_⟩
      have hne4 : q3 ≠ q4 := fun z => by rw [z, upd_same] at nq4; cases nq4 <;> done
      refine ⟨q3, q4, _, _, rfl, rfl, by rw [upd_ne hne4]; exact upd_same, upd_same, fun r hr => ?_⟩
      have g4 : Grow M2 (upd (upd H2 q2 (SetO X.w q2 (fun j => decide (j ∈ ms)) c2)) q3 (SetO X.w q3 (fun k => decide (k ∈ ns) && decide (k ∈ ms)) c3)) M2 _ := Grow.ext (o := SetO X.w q4 (fun _ => false) 0) nq4 g3.mt
      have gg := (g2.trans g3).trans g4
      have er3 := er2.grow gg
      have hb : r = meetB ns ms := by
        rw [Bool.eq_iff_iff, hr]
        unfold meetB
        rw [List.any_eq_true]
        constructor
        · rintro ⟨k, hk⟩
          rw [Bool.and_eq_true, decide_eq_true_eq, decide_eq_true_eq] at hk
          exact ⟨k, hk.1, decide_eq_true hk.2⟩
        · rintro ⟨k, hk, hk2⟩
          exact ⟨k, by rw [Bool.and_eq_true, decide_eq_true_eq]; exact ⟨hk, hk2⟩⟩
      exact k2.ok (a := (false, D.bl (meetB ns ms))) (ρ1 := ρ2) (by simp only [e2]) (.bl r) M2 _ (gg.ev er2.mt) er3 (by rw [hb]; exact .bl _)
/-- set(a) & set(b) != set() -/
theorem simMeet (S : SX m T XR n W X) {x y z : Str} {a b : Expr} {u v : Ex} {p1 p2 p3 p4 p5 p6 p7 pos : Pos} (hx : setGl m X.env.scope x = true) (hy : setGl m X.env.scope y = true) (hz : setGl m X.env.scope z = true) (sa : notStar a = true) (sb : notStar b = true)
    (ha : PE X a (RdO X.K XR W T u)) (hb : PE X b (RdO X.K XR W T v)) :
    Three X T XR W (.Compare (.BinOp (.Call (.Name x p1) [a] [] p2) .BitAnd (.Call (.Name y p3) [b] [] p4) p5) [.NotEq] [.Call (.Name z p6) [] [] p7] pos) (.meet u v) := by
  have h0 : PE X (.Call (.Name z p6) [] [] p7) (tCB (rSet0 X.w) tNil) := by
    unfold setGl at hz
    simp only [Bool.and_eq_true, decide_eq_true_eq] at hz
    obtain ⟨⟨rfl, hg⟩, hb⟩ := hz
    obtain ⟨g1, g2, g3⟩ := isGl_gl hg
    exact pe_callTy0 cr_set0 g1 (S.blt _ hb) PyProof.Rows.boot_set g3 g2
  exact ⟨pe_imp (pe_cmpR (or_neSet (by have := S.un; omega)) (pe_op or_meet (pe_set S hx sa ha) (pe_set S hy sb hb)) h0 rfl) meet_i,
    pt_imp (pt_cmpR (or_neSet (by have := S.un; omega)) (pe_op or_meet (pe_set S hx sa ha) (pe_set S hy sb hb)) h0 rfl) fun σ H Q w => meet_i σ H _ (tst_v (x := Ex.meet u v) (fun i z => nomatch z) w), fun i z => nomatch z⟩
/-- sorted(set(a)) -/
theorem simSset (S : SX m T XR n W X) {x : Str} {a : Expr} {y : Ex} {p p2 p3 pos : Pos} (hg : isGl X.env.scope "sorted" = true) (hm : X.mg "sorted" = none) (hx : setGl m X.env.scope x = true) (hs : notStar a = true) (h : PE X a (RdO X.K XR W T y)) :
    PE X (.Call (.Name "sorted" p) [.Call (.Name x p2) [a] [] p3] [] pos) (RdV X.K XR W T (.sset y)) := by
  obtain ⟨g1, g2, g3⟩ := isGl_gl hg
  refine sim1 (f := ssetD) (r1 := fun x H Q => rSetI X.K X.w [x] H fun v H1 => rSortedSet X.w [v] H1 Q) ?_ (a := y) (pe_callB (cr_sortedSet S.calm) g1 hm PyProof.Rows.boot_sorted (pa_cons (pe_set S hx hs h) pa_nil rfl) g3 g2 rfl rfl) (fun ρ => by rw [evalV])
  rintro x H Q ⟨M, d, own, r, mt, vx, hf, q⟩
  unfold ssetD at hf
  obtain ⟨ns, e1, e2⟩ := Option.map_eq_some_iff.mp hf
  obtain ⟨rfl, rfl⟩ := some2 (congrArg some e2)
  obtain ⟨a, rfl, ta, la⟩ : ∃ a, x = .ref a ∧ SqT X.K H a (ns.map V.int) ∧ ns.length ≤ 60 := by
    cases d with
    | tup ds =>
      unfold fewI at e1
      dsimp only at e1
      split at e1
      · rename_i ms e
        split at e1
        · rename_i hl
          obtain rfl := Option.some.inj e1
          obtain ⟨a, xs, rfl, h1, h2⟩ := vx.tup
          obtain ⟨rfl, _⟩ := ints_reps h2 e
          exact ⟨a, rfl, h1, hl⟩
        · cases e1
      · cases e1
    | _ => cases e1
  refine ⟨a, ns, rfl, ta, la, fun q1 c nq1 hc => ?_⟩
  have g1 : Grow M H M (upd H q1 (SetO X.w q1 (fun j => decide (j ∈ ns)) c)) := Grow.ext nq1 mt
  refine ⟨q1, _, c, rfl, upd_same, by omega, fun os p2 hp hmem hl np2 => ?_⟩
  have hos : os = ssetZ ns := pw_uniq hp ssetZ_pw fun k => by rw [hmem, ssetZ_mem]; exact decide_eq_true_iff
  subst hos
  have hr : Reps X.K M (upd H q1 (SetO X.w q1 (fun j => decide (j ∈ ns)) c)) ((ssetZ ns).map V.int) ((ssetZ ns).map D.int) := by
    generalize ssetZ ns = l
    induction l with
    | nil => exact .nil
    | cons k l ih => exact .cons (.int _) ih
  obtain ⟨g2, o2⟩ := OutR.lst (K := X.K) g1.mt np2 hr
  rw [if_pos rfl] at o2
  obtain ⟨a', ea, m', n', c'⟩ := o2
  refine q _ _ _ ⟨g1.trans g2, ?_⟩
  rw [if_pos rfl]
  refine ⟨a', ea, m', ?_, c'⟩
  cases e : H a' with
  | none => rfl
  | some o => rw [g1.keep _ _ e] at n'; cases n'
theorem shaped_list {qs : List PyData} (h : shps qs = true) : SeqAt.shaped (.list qs) = true := by
  unfold shps at h
  unfold SeqAt.shaped
  simp only [Bool.and_eq_true, decide_eq_true_eq] at h
  rw [PyData.canLay0, PyData.depth, h.1, Bool.true_and, decide_eq_true_eq]
  omega
theorem meD_some {m : Me} {d e : D} {own : Bool} {r : D} (h : meD m d e = some (own, r)) : ∃ xs p qs, d = .lst xs ∧ toPy e = some p ∧ toPys xs = some qs ∧ shp p = true ∧ shps qs = true ∧ own = false ∧
    ((m = .count ∧ r = .int (qs.countP fun z => PyData.eqv z p : Nat)) ∨ (m = .index ∧ ∃ j, qs.findIdx? (fun z => PyData.eqv z p) = some j ∧ r = .int (j : Nat))) := by
  unfold meD at h
  split at h
  · split at h
    · rename_i p qs e1 e2
      split at h
      · rename_i hk
        rw [Bool.and_eq_true] at hk
        obtain ⟨rfl, rfl⟩ := some2 h
        exact ⟨_, p, qs, rfl, e1, e2, hk.1, hk.2, rfl, .inl ⟨rfl, rfl⟩⟩
      · cases h
    · cases h
  · split at h
    · rename_i p qs e1 e2
      split at h
      · rename_i hk
        rw [Bool.and_eq_true] at hk
        obtain ⟨j, e3, e4⟩ := Option.map_eq_some_iff.mp h
        obtain ⟨rfl, rfl⟩ := some2 (congrArg some e4)
        exact ⟨_, p, qs, rfl, e1, e2, hk.1, hk.2, rfl, .inr ⟨rfl, j, e3, rfl⟩⟩
      · cases h
    · cases h
  · cases h
/-- l.count(x), l.index(x) -/
theorem simMe (S : SX m T XR n W X) {o a : Expr} {u v : Ex} {meth : Str} {k : Me} {apos pos : Pos} (hk : meOf meth = some k) (hb : attributeBase o meth X.env (eval o X.env) = eval o X.env) (hs : notStar a = true) (hl : (apos.endLine == pos.line) = true) (ho : PE X o (RdO X.K XR W T u)) (ha : PE X a (RdO X.K XR W T v)) :
    PE X (.Call (.Attribute o meth apos) [a] [] pos) (RdV X.K XR W T (.me k u [v])) := by
  have core : ∀ {id : String} {r : V → List V → Hp → VK → Prop}, (∀ x y H Q, rOp0 X.K (meD k) x y H Q → r x [y] H Q) → ∀ σ H Q, RdV X.K XR W T (.me k u [v]) σ H Q → tBM X.K "list" r (RdO X.K XR W T u) (tCons (RdO X.K XR W T v) tNil) σ H Q := by
    rintro id r hr σ H Q ⟨F, M, ρ, er, x0⟩
    have x1 := At.cong (g := fun ρ => opd (evalV T u) u ρ >>= fun p => if (getOp p.2 p.1).any isLst = true then (opd (evalV T v) v p.2 >>= fun q => match getOp q.2 p.1, getOp q.2 q.1 with
      | some d, some e => optR (meD k d e) q.2
      | _, _ => .no) else .no) (by show evalV T (.me k u [v]) ρ = _; rw [evalV] <;> rfl) x0
    refine ⟨F, M, ρ, er, At.bind (γ := Bool × D) (δ := V) (R := RV X.K) (Q := Q) (h := fun o ρ1 => if (getOp ρ1 o).any isLst = true then (opd (evalV T v) v ρ1 >>= fun q => match getOp q.2 o, getOp q.2 q.1 with
      | some d, some e => optR (meD k d e) q.2
      | _, _ => .no) else .no) x1 fun oa va M1 H1 ρ1 ev1 er1 r1 k1 => ?_⟩
    by_cases hL : (getOp ρ1 oa).any isLst = true
    case neg => exact (k1.no (if_neg hL)).elim
    have k1' := At.cong (g := fun ρ1 => opd (evalV T v) v ρ1 >>= fun q => match getOp q.2 oa, getOp q.2 q.1 with
      | some d, some e => optR (meD k d e) q.2
      | _, _ => .no) (if_pos hL) k1
    refine ⟨?_, F, M1, ρ1, er1, At.bind (γ := Bool × D) (δ := V) (R := RV X.K) (Q := Q) (h := fun o ρ2 => match getOp ρ2 oa, getOp ρ2 o with
      | some d, some e => optR (meD k d e) ρ2
      | _, _ => .no) k1' fun ob vb M2 H2 ρ2 ev2 er2 r2 k2 => ?_⟩
    · cases g : getOp ρ1 oa with
      | none => rw [g] at hL; cases hL
      | some d =>
        rw [g] at hL
        cases d with
        | lst ds =>
          obtain ⟨a, xs, rfl, h1, h2⟩ := (OpdR.val er1 r1 g).lst
          exact .inl ⟨rfl, xs, .of h1⟩
        | _ => cases hL
    · refine hr _ _ _ _ ?_
      have r1' : OpdR X.K M2 H2 σ va oa := OpdR.ev ev2 r1
      cases ga : getOp ρ2 oa with
      | none => exact (k2.no (by simp only [ga])).elim
      | some d =>
        cases gb : getOp ρ2 ob with
        | none => exact (k2.no (by simp only [ga, gb])).elim
        | some e =>
          cases fo : meD k d e with
          | none => exact (k2.no (by simp only [ga, gb, fo, optR])).elim
          | some p =>
            obtain ⟨own, r⟩ := p
            refine ⟨M2, d, e, own, r, er2.mt, r1'.val er2 ga, OpdR.val er2 r2 gb, fo, fun w M' H' o => ?_⟩
            obtain ⟨ev3, er3, rv⟩ := OutR.rv er2 o
            exact k2.ok (a := (own, r)) (ρ1 := ρ2) (by simp only [ga, gb, fo, optR]) w M' H' ev3 er3 rv
  have se : starEach [a] X.env = (false, eval a X.env) :: starEach [] X.env := starEach_cons hs
  unfold meOf at hk
  split at hk
  · rename_i hm
    subst hm
    obtain rfl := Option.some.inj hk
    refine pe_imp (pe_bm PySem.F.plainAttrs_list PySem.F.slot_list_index PySem.F.type_list_index (mt_indexD S.un) ho (pa_cons ha pa_nil se) hb (by rw [se]; rfl) hl se rfl) (core (id := "list.index") ?_)
    rintro x y H Q ⟨M, d, e, own, r, mt, vx, vy, hf, q⟩
    obtain ⟨xs, p, qs, rfl, e1, e2, s1, s2, rfl, h3⟩ := meD_some hf
    rcases h3 with ⟨z, _⟩ | ⟨_, j, h3, rfl⟩
    · cases z
    obtain ⟨a, ys, rfl, h1, h2⟩ := vx.lst
    have dx := vx.dp (show toPy (.lst xs) = some (.list qs) by rw [toPy, e2]; rfl)
    obtain ⟨hj, h4, h5⟩ := List.findIdx?_eq_some_iff_getElem.mp h3
    refine ⟨a, y, p, qs, j, qs[j], rfl, rfl, dx, vy.dp e1, shaped_list s2, shaped_of s1, List.getElem?_eq_getElem hj, h4, fun i z' hi hz => ?_, q _ M H (.pure mt (.int _))⟩
    obtain ⟨hi2, rfl⟩ := List.getElem?_eq_some_iff.mp hz
    have := h5 i hi
    simpa using this
  · split at hk
    · rename_i hm
      subst hm
      obtain rfl := Option.some.inj hk
      refine pe_imp (pe_bm PySem.F.plainAttrs_list PySem.F.slot_list_count PySem.F.type_list_count (Ps.mt_countD S.un) ho (pa_cons ha pa_nil se) hb (by rw [se]; rfl) hl se rfl) (core (id := "list.count") ?_)
      rintro x y H Q ⟨M, d, e, own, r, mt, vx, vy, hf, q⟩
      obtain ⟨xs, p, qs, rfl, e1, e2, s1, s2, rfl, h3⟩ := meD_some hf
      rcases h3 with ⟨_, rfl⟩ | ⟨z, _⟩
      · obtain ⟨a, ys, rfl, h1, h2⟩ := vx.lst
        have dx := vx.dp (show toPy (.lst xs) = some (.list qs) by rw [toPy, e2]; rfl)
        exact ⟨a, y, p, qs, rfl, rfl, dx, vy.dp e1, shaped_list s2, shaped_of s1, q _ M H (.pure mt (.int _))⟩
      · cases z
    · cases hk
/-- x in WITHIN, x not in WITHIN -/
theorem simTin (S : SX m T XR n W X) {a b : Expr} {y : Ex} {x : Str} {neg : Bool} {op : CmpOp} {pos : Pos} (ho : (neg = false ∧ op = .In) ∨ (neg = true ∧ op = .NotIn)) (hb : tabOf m X.env.scope b = some x) (h : PE X a (RdO X.K XR W T y)) : Three X T XR W (.Compare a [op] [b] pos) (.tin neg x y) := by
  obtain ⟨p, rfl, hg, hc⟩ : ∃ p, b = .Name x p ∧ isGl X.env.scope x = true ∧ m.tabs.contains x = true := by
    unfold tabOf at hb
    split at hb
    · rename_i z p
      split at hb
      · rename_i h0
        rw [Bool.and_eq_true] at h0
        obtain rfl := Option.some.inj hb
        exact ⟨p, rfl, h0.1, h0.2⟩
      · cases hb
    · cases hb
  cases ht : T.tab x with
  | none =>
    refine ⟨pe_absurd fun σ H Q ⟨F, M, ρ, er, y⟩ => y.no ?_, pt_absurd fun σ H Q ⟨F, M, ρ, er, y⟩ => y.no ?_, fun i z => nomatch z⟩
    · rw [evalV, ht]
    · rw [testD_v (x := Ex.tin neg x _) (fun i z => nomatch z), evalV, ht] <;> rfl
  | some kvs =>
    obtain ⟨d, es, n', e1, KD, at_⟩ := S.tab x hc kvs ht
    have hpe : PE X (.Name x p) (tC (.ref d)) := pe_glob (isGl_gl hg).1 e1 rfl (isGl_gl hg).2.1
    have val : ∀ {neg : Bool} {d0 : D} {own : Bool} {r : D}, tinD neg kvs d0 = some (own, r) → ∃ z, d0 = .str z ∧ own = false ∧ r = .bl (neg != (kvs.lookup z).isSome) := by
      intro neg d0 own r hf
      cases d0 with
      | str z => obtain ⟨rfl, rfl⟩ := some2 hf; exact ⟨z, rfl, rfl, rfl⟩
      | _ => cases hf
    have look : ∀ z, ∃ r, PySem.W.nsIn X.K d z = some r ∧ r.isSome = (kvs.lookup z).isSome := fun z => by
      have := at_ z
      cases e : kvs.lookup z with
      | none => rw [e] at this; exact ⟨none, this, rfl⟩
      | some v => rw [e] at this; obtain ⟨u, v', h1, _⟩ := this; exact ⟨some u, h1, rfl⟩
    rcases ho with ⟨rfl, rfl⟩ | ⟨rfl, rfl⟩
    · have im := imp1 (X := X) (T := T) (XR := XR) (W := W) (a := y) (ex := .tin false x y) (f := tinD false kvs) (r1 := fun x H Q => ∃ (z : Str) (r : Option Value), x = .str z ∧ V.ref d = .ref d ∧ PySem.W.nsIn X.K d z = some r ∧ Q (.bl r.isSome) H) (by
        rintro v H Q ⟨M, d0, own, r, mt, vx, hf, q⟩
        obtain ⟨z, rfl, rfl, rfl⟩ := val hf
        have ez := vx.str; subst ez
        obtain ⟨r, h1, h2⟩ := look z
        refine ⟨z, r, rfl, rfl, h1, ?_⟩
        rw [h2]
        have := q _ M H (.pure mt (.bl _))
        simpa using this) (fun ρ => by rw [evalV, ht])
      exact ⟨pe_imp (pe_cmpR (op_in_kd KD) h hpe rfl) im, pt_imp (pt_cmpR (op_in_kd KD) h hpe rfl) fun σ H Q w => im σ H _ (tst_v (x := Ex.tin false x y) (fun i z => nomatch z) w), fun i z => nomatch z⟩
    · have im := imp1 (X := X) (T := T) (XR := XR) (W := W) (a := y) (ex := .tin true x y) (f := tinD true kvs) (r1 := fun x H Q => ∃ (z : Str) (r : Option Value), x = .str z ∧ V.ref d = .ref d ∧ PySem.W.nsIn X.K d z = some r ∧ Q (.bl (!r.isSome)) H) (by
        rintro v H Q ⟨M, d0, own, r, mt, vx, hf, q⟩
        obtain ⟨z, rfl, rfl, rfl⟩ := val hf
        have ez := vx.str; subst ez
        obtain ⟨r, h1, h2⟩ := look z
        refine ⟨z, r, rfl, rfl, h1, ?_⟩
        rw [h2]
        have := q _ M H (.pure mt (.bl _))
        simpa using this) (fun ρ => by rw [evalV, ht])
      exact ⟨pe_imp (pe_cmpR (op_notIn_kd KD) h hpe rfl) im, pt_imp (pt_cmpR (op_notIn_kd KD) h hpe rfl) fun σ H Q w => im σ H _ (tst_v (x := Ex.tin true x y) (fun i z => nomatch z) w), fun i z => nomatch z⟩
end
end Pd
set_option Elab.async false
set_option linter.all false
/-! Pd13o: objects, their methods and makers; tables; dicts by tuples. -/
namespace Pd
open PySem PySem.Spec PyProof.Rows L2
section
variable {X : Cx} {m : Ms} {T : Tb} {XR : XRel} {W : L2.WX} {n : Nat}
theorem fldG_rep {K : PySem.W.Frag} {M : Ad} {H : Hp} {f : Str} {d : D} : ∀ {fv : List (Str × V)} {ds : List D}, Reps K M H (fv.map (·.2)) ds → fldG f (fv.map fun p => p.1) ds = some d → ∃ v, fv.lookup f = some v ∧ Rep K M H v d
  | [], ds, _, h => by cases ds <;> cases h
  | p :: fv, [], r, _ => by cases r
  | p :: fv, d' :: ds, r, h => by
    rw [List.map_cons] at r
    cases r with
    | cons r1 r2 =>
      have h' : (if p.1 = f then some d' else fldG f (fv.map fun p => p.1) ds) = some d := h
      obtain ⟨g, v⟩ := p
      rw [List.lookup_cons]
      by_cases e : g = f
      · rw [if_pos e] at h'
        cases h'
        subst e
        rw [beq_self_eq_true]
        exact ⟨v, rfl, r1⟩
      · rw [if_neg e] at h'
        have : (f == g) = false := by rw [beq_eq_false_iff_ne]; exact fun z => e z.symm
        rw [this]
        exact fldG_rep r2 h'
/-- o.f -/
theorem simFld (S : SX m T XR n W X) {a : Expr} {f : Str} {x : Ex} {pos : Pos} (hp : plainRecv a = true) (hb : attributeBase a f X.env (eval a X.env) = eval a X.env) (h : PE X a (RdO X.K XR W T x)) : PE X (.Attribute a f pos) (RdV X.K XR W T (.fld x f)) := by
  refine sim1 (f := fldD T.isF f) (r1 := fun x H1 Q => ∃ a C dx fs v, x = .ref a ∧ H1 a = some (.ins C dx fs) ∧ Cls X.K C ∧ NoAttr X.K C f ∧ fs.lookup f = some v ∧ Q v H1) ?_ (a := x) (pe_fld h hb) (fun ρ => by rw [evalV])
  rintro v H Q ⟨M, d, own, r, mt, vx, hf, q⟩
  cases d with
  | obj c fs ds =>
    have hf' : (if T.isF c f = true then (fldG f fs ds).map fun d => (false, d) else none) = some (own, r) := hf
    by_cases hc : T.isF c f = true
    case neg => rw [if_neg hc] at hf'; cases hf'
    rw [if_pos hc] at hf'
    obtain ⟨d0, e1, e2⟩ := Option.map_eq_some_iff.mp hf'
    cases e2
    obtain ⟨a', dx, fv, rfl, h1, rfl, h3⟩ := vx.obj
    obtain ⟨c1, c2⟩ := S.fld c f hc
    obtain ⟨w, w1, w2⟩ := fldG_rep h3 e1
    exact ⟨a', _, dx, fv, w, rfl, h1, c1, c2, w1, q _ M H (.pure mt w2)⟩
  | _ => cases hf
theorem ArgsR.grow {K : PySem.W.Frag} {P M M' : Ad} {H H' : Hp} (g : Grow M H M' H') (mt : ∀ a, M a → Mut (H a)) (hp : ∀ a, P a → M a) : ∀ {ks : List Kd} {vs : List V} {ds : List D}, ArgsR K P M H ks vs ds → ArgsR K P M' H' ks vs ds
  | _, _, _, .nil => .nil
  | _, _, _, .fr r t => .fr (r.ev (g.ev (P := fun _ => False) mt)) (ArgsR.grow g mt hp t)
  | _, _, _, .bo r t => .bo (r.imp (fun r => r.ev (g.ev (P := fun _ => False) mt)) fun ⟨a, e, p, m, c⟩ => ⟨a, e, p, g.sub a m, c.ev (g.ev (P := P) mt) ((g.ev (P := P) mt).prot a p m).1⟩) (ArgsR.grow g mt hp t)
  | _, _, _, .io (a := a) m np c t => .io (g.sub a m) np (c.ev (g.ev (P := fun b => b = a) mt) ((g.ev (P := fun b => b = a) mt).prot a rfl m).1) (ArgsR.grow g mt hp t)
/-- what an __init__'s promise needs -/
theorem make_sp {c : Str} {ks : List Kd} {as : List Ar} {vs : List V} {F : Fx} {M : Ad} {H : Hp} {σ : L2.St} {ρ : Env} {Q : VK} {K : PySem.W.Frag} (hk : T.kinds (mth c "__init__") = .io :: ks) (er : EnvR K F M H σ ρ) (h : ArsR K M H σ ks as vs) (x : At K XR W (fun ρ => runMk T c as ρ) (RV K) F M H σ ρ Q) :
    ∀ p dx, H p = none → H dx = none → dx ≠ p → spT K XR T.low (mth c "__init__") (.ref p :: vs) (upd (upd H dx (.own p)) p (.ins (He.ga K c) dx [])) (fun v H2 => v = .non ∧ Q (.ref p) H2) fun cl d H2 => WE W σ cl d H2 := by
  intro p dx np ndx hne
  by_cases hd : ioDup as = true
  · exact (x.no (by unfold runMk; rw [if_pos hd])).elim
  have hd' : ioDup as = false := by simpa using hd
  cases g : getArs ρ as with
  | none => exact (x.no (by unfold runMk; rw [if_neg hd, g])).elim
  | some ds =>
  have gw : Grow M H (fun a => M a ∨ a = p) (upd (upd H dx (.own p)) p (.ins (He.ga K c) dx [])) := by
    refine ⟨fun a o e => ?_, fun _ m => .inl m, fun a m => m.imp id (fun (z : a = p) => by rw [z]; exact np), fun a m => ?_⟩
    · rw [upd_ne (ne_of_none e np), upd_ne (ne_of_none e ndx)]; exact e
    · by_cases z : a = p
      · subst z; rw [upd_same]; trivial
      · rcases m with m | m
        · have q := er.mt a m
          rw [upd_ne z, upd_ne (fun w => by rw [w, ndx] at q; exact q)]; exact q
        · exact absurd m z
  have npM : ¬ M p := fun m => by have := er.mt p m; rw [np] at this; exact this
  have npL : ¬ LendAr σ as p := fun ⟨i, mi, q⟩ => by
    obtain ⟨b, d, e1, m, _, _⟩ := er.mineC (lendAr_mine g mi)
    rw [q] at e1
    cases e1
    exact npM m
  have kp : ∀ a, F.k a → PAr M σ as a := fun a k => ⟨er.pm a k, lendAr_k er g k⟩
  refine ⟨PAr M σ as, fun a => M a ∨ a = p, .obj c [] [] :: ds, gw.mt, fun a z => .inl z.1, ?_, ?_, ?_⟩
  · show ArgsR K _ _ _ (T.kinds (mth c "__init__")) _ _
    rw [hk]
    exact .io (.inr rfl) (fun z => npM z.1) (.obj upd_same rfl .nil) ((h.args er g hd' (fun _ m => m) g).grow gw er.mt fun a z => z.1)
  · show IoNe (T.kinds (mth c "__init__")) _
    rw [hk]
    exact ⟨fun z => npL (h.mem p z), h.ioNe er hd' g⟩
  have evg : Ev (PAr M σ as) M H (fun a => M a ∨ a = p) (upd (upd H dx (.own p)) p (.ins (He.ga K c) dx [])) := gw.ev er.mt
  show match T.mkC (mth c "__init__") (.obj c [] [] :: ds) with
    | .ok own d outs => _
    | .ex x => _
    | .no => False
  cases cc : T.mkC (mth c "__init__") (.obj c [] [] :: ds) with
  | no => exact (x.no (by unfold runMk; rw [if_neg hd, g]; dsimp only; rw [cc])).elim
  | ex z =>
    by_cases hio : as.any Ar.lent = true
    · exact (x.no (by unfold runMk; rw [if_neg hd, g]; dsimp only; rw [cc]; dsimp only; rw [if_pos hio])).elim
    · intro cl da M' H' ev mt xr
      have ev2 := evg.trans ev
      have nio : ∀ a, ¬ LendAr σ as a := fun a ⟨i, m, _⟩ => hio (List.any_eq_true.mpr ⟨_, m, rfl⟩)
      unfold At at x
      simp only [] at x
      have e : runMk T c as ρ = .ex z ρ := by unfold runMk; rw [if_neg hd, g]; dsimp only; rw [cc]; dsimp only; rw [if_neg hio]
      rw [e] at x
      refine x cl da M' H' (ev2.mono kp) (er.ev (ev2.mono kp) mt fun i a mi ha => ?_) xr
      obtain ⟨b, d, e1, m, _, _⟩ := er.mineC mi
      rw [ha] at e1
      cases e1
      exact ev2.prot a ⟨m, nio a⟩ m
  | ok own d outs =>
    intro v M' H' ev mt ho rv
    have ev2 := evg.trans ev
    have ho' : OutsR K M' H' (.io :: ks) (.ref p :: vs) outs := by rw [← hk]; exact ho
    cases ho' with
    | @io _ _ outs' _ o mp cp ho2 =>
    have hd2 : d = .non := by
      cases d with
      | non => rfl
      | _ => exact (x.no (by unfold runMk; rw [if_neg hd, g]; dsimp only; rw [cc])).elim
    subst hd2
    have hv : v = .non := by
      cases own with
      | false =>
        have r2 : Rep K M' H' v .non := rv
        cases r2
        rfl
      | true =>
        obtain ⟨a, _, _, _, _, c⟩ := rv
        cases c
    subst hv
    refine ⟨rfl, ?_⟩
    cases hpo : putOuts as outs' ρ with
    | none => exact (x.no (by unfold runMk; rw [if_neg hd, g]; dsimp only; rw [cc]; dsimp only; rw [hpo])).elim
    | some ρ' =>
    obtain ⟨ez, em⟩ := (er.callZ g h ev2 mt ho2).puts h ho2 hd' (fun i m => m) hpo
    have ee := ez.env fun i z => z.2 z.1
    refine x.ok (a := (true, o)) (ρ1 := ρ') (by unfold runMk; rw [if_neg hd, g]; dsimp only; rw [cc]; dsimp only; rw [hpo]) (.ref p) M' H' (ev2.mono kp) ee ?_
    refine ⟨p, rfl, mp, fun k => npM (er.pm p k), fun i mi ha => ?_, cp⟩
    obtain ⟨b, d', e1, m', _, c'⟩ := er.mineC (em i mi)
    rw [ha] at e1
    cases e1
    exact npM m'
/-- C(..) -/
theorem simMk (S : SX m T XR n W X) {c : Str} {e : Expr} {es : List Expr} {y : Ex} {xs : List Ex} {p pos : Pos} (hg : isGl X.env.scope c = true) (hc : m.clss.contains c = true) (hs : (e :: es).all notStar = true) (ha : ∀ ks, PA X (e :: es) (RdAs X.K XR W T (y :: xs) ks)) :
    PE X (.Call (.Name c p) (e :: es) [] pos) (RdV X.K XR W T (.mk c (y :: xs))) := by
  obtain ⟨g1, g2, g3⟩ := isGl_gl hg
  rw [List.all_cons, Bool.and_eq_true_iff] at hs
  by_cases h1 : T.isC c = true
  case neg =>
    refine pe_absurd fun σ H Q ⟨F, M, ρ, er, x⟩ => x.no ?_
    rw [evalV, if_neg h1]
  have opn : ∀ ρ ks, T.kinds (mth c "__init__") = .io :: ks → evalV T (.mk c (y :: xs)) ρ = (evalAs T (y :: xs) ks ρ >>= fun p => runMk T c p.1 p.2) := fun ρ ks hk => by
    rw [evalV, if_pos h1, hk]
  by_cases hk : ∃ ks, T.kinds (mth c "__init__") = .io :: ks
  case neg =>
    refine pe_absurd fun σ H Q ⟨F, M, ρ, er, x⟩ => x.no ?_
    rw [evalV, if_pos h1]
    split
    · rename_i ks e; exact absurd ⟨ks, e⟩ hk
    · rfl
  obtain ⟨ks, hk⟩ := hk
  obtain ⟨n', f, fd, ps, rfl, hm, M, F, hb⟩ := S.cls c hc h1
  refine pe_imp (Ps.pe_makeG (E := WE W) M F S.room g1 hm hb (fun σ => passAt S.tk σ) (ha ks) g2 (starEach_cons hs.1) (star_any hs.2)) ?_
  rintro σ H Q ⟨F, M, ρ, er, x⟩
  refine ⟨F, M, ρ, er, At.bind (γ := Bool × D) (δ := V) (R := RV X.K) (Q := Q) (h := fun as ρ1 => runMk T c as ρ1) (At.cong (opn ρ ks hk) x) fun as vs M1 H1 ρ1 ev1 er1 r1 k1 => ?_⟩
  exact make_sp hk er1 r1 k1
theorem pa_ex {es : List Expr} {α : Type} {t : α → TA} (h : ∀ k, PA X es (t k)) : PA X es (fun σ H Q => ∃ k, t k σ H Q) := ⟨fun pos pins s σ H Q I ⟨k, w⟩ => (h k).run pos pins s σ H Q I w⟩
/-- what a method's promise needs, the receiver there -/
theorem own_i (S : SX m T XR n W X) {k : Str} {u : Ex} {xs : List Ex} {σ : L2.St} {H : Hp} {Q : VK} (w : RdV X.K XR W T (.own u k xs) σ H Q) :
    Ps.tMethG X (L2.CX X.prog X.w) n (WE W) k (RdO X.K XR W T u) (fun _ σ H Q => ∃ ks, RdAs X.K XR W T xs ks σ H Q) σ H Q := by
  obtain ⟨F, M, ρ, er, x⟩ := w
  refine ⟨F, M, ρ, er, At.bind (γ := Bool × D) (δ := V) (R := RV X.K) (Q := Q) (h := fun o ρ1 => match getOp ρ1 o with
    | some (.obj c fs ds) => if (T.isM c k && !fs.contains k) = true then (match T.kinds (mth c k) with
      | kd :: ks => (match recvAr ρ1 kd o with
        | some ar => evalAs T xs ks ρ1 >>= fun q => runCall T (mth c k) (ar :: q.1) q.2
        | none => .no)
      | [] => .no) else .no
    | _ => .no) (At.cong (by rw [evalV] <;> rfl) x) fun oa v M1 H1 ρ1 ev1 er1 r1 k1 => ?_⟩
  cases g : getOp ρ1 oa with
  | none => exact (k1.no (by simp only [g])).elim
  | some d =>
  cases d with
  | obj c fs ds =>
    by_cases hc : (T.isM c k && !fs.contains k) = true
    case neg => exact (k1.no (by simp only [g]; rw [if_neg hc])).elim
    cases hks : T.kinds (mth c k) with
    | nil => exact (k1.no (by simp only [g]; rw [if_pos hc, hks])).elim
    | cons kd ks =>
    cases hr : recvAr ρ1 kd oa with
    | none => exact (k1.no (by simp only [g]; rw [if_pos hc, hks]; dsimp only; rw [hr])).elim
    | some ar =>
    have k2 := At.cong (g := fun ρ1 => evalAs T xs ks ρ1 >>= fun q => runCall T (mth c k) (ar :: q.1) q.2) (by simp only [g, hks, hr]; exact if_pos hc) k1
    rw [Bool.and_eq_true] at hc
    obtain ⟨f, fd, ps, c1, c2, FF, hb⟩ := S.mth c k hc.1
    obtain ⟨a, dx, fv, rfl, h1, rfl, h3⟩ := (OpdR.val er1 r1 g).obj
    have hl : fv.lookup k = none := by
      have h2 := hc.2
      rw [Bool.not_eq_true'] at h2
      cases e : fv.lookup k with
      | none => rfl
      | some w =>
        exfalso
        have : k ∈ fv.map fun p => p.1 := by
          clear h1 h3 k2 k1 hc h2 g r1
          induction fv with
          | nil => cases e
          | cons q fv ih =>
            obtain ⟨z, w'⟩ := q
            rw [List.lookup_cons] at e
            split at e
            · rename_i hz
              have : k = z := eq_of_beq hz
              rw [this]
              exact List.mem_cons_self
            · exact List.mem_cons_of_mem _ (ih e)
        rw [List.contains_iff_mem.mpr this] at h2
        cases h2
    refine ⟨_, f, fd, ps, _, a, dx, fv, c1, c2, FF, hb, rfl, h1, hl, ks, F, M1, ρ1, er1, At.bind (γ := Bool × D) (δ := V) (R := RV X.K) (Q := Q) (h := fun as ρ2 => runCall T (mth c k) (ar :: as) ρ2) k2 fun as vs M2 H2 ρ2 ev2 er2 r2 k3 => ?_⟩
    have rc : ArR X.K M2 H2 σ kd ar (.ref a) → Ps.FnG X.prog X.w X.K X.mg X.base (L2.CX X.prog X.w) n f fd ps (spT X.K XR T (mth c k)) → spT X.K XR T (mth c k) (.ref a :: vs) H2 Q (WE W σ) := fun h _ => call_sp er2 (f := mth c k) (as := ar :: as) (vs := .ref a :: vs) (by rw [hks]; exact .cons h r2) k3
    refine rc ?_ FF
    cases kd with
    | fr =>
      cases oa with
      | d y => cases hr; exact Rep.ev ev2 (show Rep X.K M1 H1 _ y from r1)
      | s i => cases hr
    | bo =>
      cases oa with
      | d y => cases hr; exact Rep.ev ev2 (show Rep X.K M1 H1 _ y from r1)
      | s i => cases hr; exact r1
    | io =>
      cases oa with
      | d y => cases hr
      | s i =>
        have hr' : (if mineV ρ1 i = true then some (Ar.io i) else none) = some ar := hr
        split at hr'
        · cases hr'; exact r1
        · cases hr'
  | _ => exact (k1.no (by simp only [g])).elim
theorem own_ht {o : Expr} {k : Str} {apos pos : Pos} {args : List Expr} {env : PySem.Env} (hb : attributeBase o k env (eval o env) = eval o env) (hf : methodCallForm (args.length + ([] : List Keyword).length) (backTo pos (starEach args env)) (backToKw pos (keywordEach [] env)) = true) (hl : (apos.endLine == pos.line) = true) :
    eval (.Call (.Attribute o k apos) args [] pos) env = (do
      let ov ← eval o env
      standAt apos.atName
      let (f, first) ← holding [ov] (getMethod ov k (do return (← importBound o env).getD true))
      callWith pos f first (backTo pos (starEach args env)) (backToKw pos (keywordEach [] env))) := by
  rw [arm_eval_Call, hb]
  have hpos : methodCallPos true o env apos pos = pure pos := by
    unfold methodCallPos
    rw [hl]
    rfl
  unfold methodCall calleeOf
  rw [hf, hpos]
  simp only [if_true, pure_bind]
theorem star_form {es : List Expr} {env : PySem.Env} {pos : Pos} (h : es.all notStar = true) (hn : es.length < 30) : methodCallForm (es.length + ([] : List Keyword).length) (backTo pos (starEach es env)) (backToKw pos (keywordEach [] env)) = true := by
  have a : (backTo pos (starEach es env)).all (fun x => !x.1) = true := by
    rw [List.all_eq_true]
    intro x hx
    have := List.any_eq_false.mp (star_any (pos := pos) (env := env) h) x hx
    simpa using this
  unfold methodCallForm
  have e : (backToKw pos (keywordEach [] env)) = [] := rfl
  rw [a, e]
  simp only [List.all_nil, Bool.and_self, Bool.true_and, List.length_nil, List.isEmpty_nil, if_true, Nat.add_zero, decide_eq_true_eq]
  exact hn
theorem obj_base {o : Expr} {k : Str} {env : PySem.Env} (h : plainObj o = true) : attributeBase o k env (eval o env) = eval o env := by
  cases o <;> first | rfl | cases h
theorem simOwn (S : SX m T XR n W X) {o e : Expr} {es : List Expr} {k : Str} {u : Ex} {xs : List Ex} {apos pos : Pos} (hp : plainObj o = true) (hs : (e :: es).all notStar = true) (hn : (e :: es).length < 30) (hl : (apos.endLine == pos.line) = true) (ho : PE X o (RdO X.K XR W T u)) (ha : ∀ ks, PA X (e :: es) (RdAs X.K XR W T xs ks)) :
    PE X (.Call (.Attribute o k apos) (e :: es) [] pos) (RdV X.K XR W T (.own u k xs)) := by
  have ht := own_ht (o := o) (k := k) (apos := apos) (pos := pos) (args := e :: es) (env := X.env) (obj_base hp) (star_form hs hn) hl
  rw [List.all_cons, Bool.and_eq_true_iff] at hs
  exact pe_imp (Ps.pe_methG S.room (fun σ => passAt S.tk σ) ho (fun _ => pa_ex ha) (starEach_cons hs.1) (star_any hs.2) ht) fun _ _ _ w => own_i S w
theorem simOwn0 (S : SX m T XR n W X) {o : Expr} {k : Str} {u : Ex} {apos pos : Pos} (hp : plainObj o = true) (hl : (apos.endLine == pos.line) = true) (ho : PE X o (RdO X.K XR W T u)) : PE X (.Call (.Attribute o k apos) [] [] pos) (RdV X.K XR W T (.own u k [])) := by
  refine pe_imp (Ps.pe_methG0 S.room (fun σ => passAt S.tk σ) ho (own_ht (obj_base hp) (star_form rfl (by decide)) hl)) ?_
  intro σ H Q w
  obtain ⟨F, M, ρ, er, x⟩ := own_i S w
  refine ⟨F, M, ρ, er, At.mono ?_ x⟩
  rintro v H1 ⟨C, f, fd, ps, sp, a, dx, fs, h1, h2, h3, h4, h5, h6, h7, ks, G, M1, ρ1, er1, y⟩
  refine ⟨C, f, fd, ps, sp, a, dx, fs, h1, h2, h3, h4, h5, h6, h7, ?_⟩
  cases ks with
  | nil => exact y.ok (a := []) (ρ1 := ρ1) rfl [] M1 H1 (.refl er1.mt) er1 .nil
  | cons kd ks => exact (y.no rfl).elim
theorem tabOf_name {N : List Str} {sc : Scope} {b : Expr} {x : Str} (hb : tabOf m sc b = some x) : ∃ p, b = .Name x p ∧ isGl sc x = true ∧ m.tabs.contains x = true := by
  unfold tabOf at hb
  split at hb
  · rename_i z p
    split at hb
    · rename_i h0
      rw [Bool.and_eq_true] at h0
      obtain rfl := Option.some.inj hb
      exact ⟨p, rfl, h0.1, h0.2⟩
    · cases hb
  · cases hb
theorem tab_val {K : PySem.W.Frag} {w : World} {d : Addr} {es : Array DictEntry} {kvs : List (Str × D)} (at_ : ∀ z, match kvs.lookup z with
    | some e => ∃ u v', PySem.W.nsIn K d z = some (some u) ∧ RelV v' u ∧ ∀ M H, Rep K M H v' e
    | none => PySem.W.nsIn K d z = some none) (z : Str) (v0 : V) (e0 : D) : ∃ r v, PySem.W.nsIn K d z = some r ∧ Ps.RelG v v0 r ∧ ((kvs.lookup z).isSome = true → ∀ M H, Rep K M H v ((kvs.lookup z).getD e0)) ∧ (kvs.lookup z = none → v = v0) := by
  have h := at_ z
  cases e : kvs.lookup z with
  | none => rw [e] at h; exact ⟨none, v0, h, rfl, (fun q => nomatch q), fun _ => rfl⟩
  | some d' =>
    rw [e] at h
    obtain ⟨u, v', h1, h2, h3⟩ := h
    exact ⟨some u, v', h1, h2, fun _ => h3, fun q => nomatch q⟩
/-- TABLE.get(e) -/
theorem simTget (S : SX m T XR n W X) {b a : Expr} {y : Ex} {x : Str} {apos pos : Pos} (hb : tabOf m X.env.scope b = some x) (hs : notStar a = true) (hl : (apos.endLine == pos.line) = true) (h : PE X a (RdO X.K XR W T y)) : PE X (.Call (.Attribute b "get" apos) [a] [] pos) (RdV X.K XR W T (.tget x y)) := by
  obtain ⟨p, rfl, hg, hc⟩ := tabOf_name (N := X.N) hb
  cases ht : T.tab x with
  | none => exact pe_absurd fun σ H Q ⟨F, M, ρ, er, y⟩ => y.no (by rw [evalV, ht])
  | some kvs =>
    obtain ⟨d, es, n', e1, KD, at_⟩ := S.tab x hc kvs ht
    have hpe : PE X (.Name x p) (tC (.ref d)) := pe_glob (isGl_gl hg).1 e1 rfl (isGl_gl hg).2.1
    have se : starEach [a] X.env = (false, eval a X.env) :: starEach [] X.env := starEach_cons hs
    have m1 : M1 X (.Name x p) "get" apos a pos := ⟨rfl, by rw [se]; rfl, hl, by rw [se]; rfl⟩
    refine sim1 (f := tgetD kvs) (r1 := fun y H2 Q => ∃ (z : Str) (r : Option Value) (v : V), y = .str z ∧ PySem.W.nsIn X.K d z = some r ∧ Ps.RelG v .non r ∧ Q v H2) ?_ (a := y) (Ps.pe_kget1 KD hpe h m1) (fun ρ => by rw [evalV, ht])
    rintro v H Q ⟨M, d0, own, r, mt, vx, hf, q⟩
    cases d0 with
    | str z =>
      obtain ⟨rfl, rfl⟩ := some2 hf
      have ez := vx.str; subst ez
      obtain ⟨r, v, h1, h2, h3, h4⟩ := tab_val (w := X.w) (es := es) at_ z .non .non
      refine ⟨z, r, v, rfl, h1, h2, q v M H (.pure mt ?_)⟩
      cases e : kvs.lookup z with
      | none => rw [h4 e]; exact .non
      | some d' => have := h3 (by rw [e]; rfl) M H; rw [e] at this; exact this
    | _ => cases hf
/-- TABLE.get(e, ()) -/
theorem simTgetE (S : SX m T XR n W X) {b a : Expr} {y : Ex} {x : Str} {k : Nat} {tpos apos pos : Pos} (hb : tabOf m X.env.scope b = some x) (hs : notStar a = true) (hl : (apos.endLine == pos.line) = true) (h : PE X a (RdO X.K XR W T y)) : PE X (.Call (.Attribute b "get" apos) [a, .Tuple [] k tpos] [] pos) (RdV X.K XR W T (.tgetE x y)) := by
  obtain ⟨p, rfl, hg, hc⟩ := tabOf_name (N := X.N) hb
  cases ht : T.tab x with
  | none => exact pe_absurd fun σ H Q ⟨F, M, ρ, er, y⟩ => y.no (by rw [evalV, ht])
  | some kvs =>
    obtain ⟨d, es, n', e1, KD, at_⟩ := S.tab x hc kvs ht
    have hpe : PE X (.Name x p) (tC (.ref d)) := pe_glob (isGl_gl hg).1 e1 rfl (isGl_gl hg).2.1
    have se : starEach [a, .Tuple [] k tpos] X.env = (false, eval a X.env) :: starEach [.Tuple [] k tpos] X.env := starEach_cons hs
    have m2 : M2 X (.Name x p) "get" apos a (.Tuple [] k tpos) pos := ⟨rfl, by rw [se]; rfl, hl, by rw [se]; rfl⟩
    refine pe_imp (Ps.pe_kget2 KD hpe h (pe_tup pa_nil) m2) ?_
    rintro σ H Q ⟨F, M, ρ, er, w⟩
    refine ⟨F, M, ρ, er, At.bind (γ := Bool × D) (δ := V) (R := RV X.K) (Q := Q) (h := fun o ρ1 => match getOp ρ1 o with
      | some d => optR (tgetE kvs d) ρ1
      | none => .no) (At.cong (by rw [evalV, ht]; rfl) w) fun oa v M1 H1 ρ1 ev1 er1 r1 k1 => ?_⟩
    cases g : getOp ρ1 oa with
    | none => exact (k1.no (by simp only [g])).elim
    | some d0 =>
    cases d0 with
    | str z =>
      have ez := (OpdR.val er1 r1 g).str; subst ez
      refine ⟨Nat.zero_le _, fun t nt => ?_⟩
      obtain ⟨r, v, h1, h2, h3, h4⟩ := tab_val (w := X.w) (es := es) at_ z (.ref t) (.tup [])
      refine ⟨z, r, v, rfl, h1, h2, ?_⟩
      have gw : Grow M1 H1 M1 (upd H1 t (.tup [])) := Grow.tup nt er1.mt
      refine k1.ok (a := (false, (kvs.lookup z).getD (.tup []))) (ρ1 := ρ1) (by simp only [g]; rfl) v M1 _ (gw.ev er1.mt) (er1.grow gw) ?_
      show Rep X.K M1 _ v _
      cases e : kvs.lookup z with
      | none => rw [h4 e]; exact .tup upd_same .nil
      | some d' => have := h3 (by rw [e]; rfl) M1 (upd H1 t (.tup [])); rw [e] at this; exact this
    | _ => exact (k1.no (by simp only [g]; rfl)).elim
/-! dicts by tuples -/
theorem dputG_reps {K : PySem.W.Frag} {M : Ad} {H : Hp} {κ : Type} [DecidableEq κ] {k : κ} {v : V} {d : D} : ∀ {kvs : List (κ × V)} {ds : List D}, Reps K M H (kvs.map (·.2)) ds → Rep K M H v d →
    Reps K M H ((kvs.map fun kv => if kv.1 = k then (kv.1, v) else kv).map (·.2)) (List.zipWith (fun (k' : κ) d' => if k' = k then d else d') (kvs.map fun p => p.1) ds)
  | [], [], .nil, _ => .nil
  | p :: kvs, d0 :: ds, .cons r t, q => by
    have ih := dputG_reps (k := k) t q
    show Reps K M H ((if p.1 = k then (p.1, v) else p).2 :: _) ((if p.1 = k then d else d0) :: _)
    refine .cons ?_ ih
    by_cases hk : p.1 = k
    · rw [if_pos hk, if_pos hk]; exact q
    · rw [if_neg hk, if_neg hk]; exact r
theorem dputG_rep {K : PySem.W.Frag} {M : Ad} {H : Hp} {κ : Type} [DecidableEq κ] {k : κ} {v : V} {d : D} {kvs : List (κ × V)} {ds : List D} (r : Reps K M H (kvs.map (·.2)) ds) (q : Rep K M H v d) :
    (dputG k d (kvs.map fun p => p.1) ds).1 = (putK kvs k v).map (fun p => p.1) ∧ Reps K M H ((putK kvs k v).map (·.2)) (dputG k d (kvs.map fun p => p.1) ds).2 := by
  have e : ((kvs.map fun p => p.1).any fun k' => decide (k' = k)) = kvs.any fun kv => decide (kv.1 = k) := by
    rw [List.any_map]; rfl
  unfold dputG putK
  rw [e]
  by_cases h : (kvs.any fun kv => decide (kv.1 = k)) = true
  · rw [if_pos h, if_pos h]
    refine ⟨?_, dputG_reps r q⟩
    rw [List.map_map]
    refine List.map_congr_left fun p _ => ?_
    show p.1 = (if p.1 = k then (p.1, v) else p).1
    split <;> rfl
  · rw [if_neg h, if_neg h]
    refine ⟨by rw [List.map_append] <;> rfl, ?_⟩
    rw [List.map_append]
    exact r.append (.cons q .nil)
theorem dmrg_rep {K : PySem.W.Frag} {M : Ad} {H : Hp} : ∀ {kas : List (List Key × Addr)} {vs : List V} {ds : List D} {kvs : List (List Key × V)} {es : List D}, Reps K M H vs ds → Reps K M H (kvs.map (·.2)) es →
    (dmrg (kas.map (·.1)) ds (kvs.map (fun p => p.1), es)).1 = (Ps.mrgT kvs (List.zipWith (fun q v => (q.1, v)) kas vs)).map (fun p => p.1) ∧ Reps K M H ((Ps.mrgT kvs (List.zipWith (fun q v => (q.1, v)) kas vs)).map (·.2)) (dmrg (kas.map (·.1)) ds (kvs.map (fun p => p.1), es)).2
  | [], vs, ds, kvs, es, _, r => by
    simp only [List.zipWith_nil_left]
    exact ⟨rfl, r⟩
  | q :: kas, [], [], kvs, es, .nil, r => ⟨rfl, r⟩
  | q :: kas, v :: vs, d :: ds, kvs, es, .cons h t, r => by
    obtain ⟨e1, e2⟩ := dputG_rep (k := q.1) r h
    have ih := dmrg_rep (kas := kas) t e2
    show (dmrg (kas.map (·.1)) ds (dputG q.1 d (kvs.map fun p => p.1) es)).1 = _ ∧ _
    rw [show dputG q.1 d (kvs.map fun p => p.1) es = ((putK kvs q.1 v).map (fun p => p.1), (dputG q.1 d (kvs.map fun p => p.1) es).2) from Prod.ext e1 rfl]
    rw [← e1] at ih ⊢
    exact ih
theorem keysT_rep {K : PySem.W.Frag} {M : Ad} {H : Hp} : ∀ {vs : List V} {ds : List D} {ks : List (List Key)}, Reps K M H vs ds → keysT ds = some ks → ∃ kas : List (List Key × Addr), vs = kas.map (fun q => V.ref q.2) ∧ ks = kas.map (·.1) ∧ ∀ q ∈ kas, H q.2 = some (.tup (q.1.map kV))
  | [], [], _, .nil, h => by cases h; exact ⟨[], rfl, rfl, fun q hq => nomatch hq⟩
  | v :: vs, d :: ds, ks, .cons r t, h => by
    cases d with
    | tup xs =>
      unfold keysT at h
      split at h
      · rename_i k ks' e1 e2
        cases h
        obtain ⟨kas, rfl, rfl, h3⟩ := keysT_rep t e2
        obtain ⟨a, ws, rfl, ha, rw_⟩ := (ValR.tupH (.inl r))
        have ek := keys_v rw_ e1
        subst ek
        refine ⟨(k, a) :: kas, rfl, rfl, fun q hq => ?_⟩
        rcases List.mem_cons.mp hq with rfl | hq
        · exact ha
        · exact h3 q hq
      · cases h
    | _ => cases h
def rCall0 (K : PySem.W.Frag) (f : List D → Option (Bool × D)) : List V → Hp → VK → Prop := fun vs H Q => ∃ M ds own r, (∀ a, M a → Mut (H a)) ∧ Paired (fun v d => ValR K M H v d) vs ds ∧ f ds = some (own, r) ∧ ∀ v M' H', OutR K M H own r v M' H' → Q v H'
theorem simN0 {e : Expr} {es : List Ex} {f : List D → Option (Bool × D)} {ex : Ex} {r : List V → Hp → VK → Prop} (hr : ∀ vs H Q, rCall0 X.K f vs H Q → r vs H Q) (h : PE X e (tCB r (RdOs X.K XR W T es)))
    (he : ∀ ρ, evalV T ex ρ = (evalOs T es ρ >>= fun p => match getOps p.2 p.1 with
      | some ds => optR (f ds) p.2
      | none => .no)) : PE X e (RdV X.K XR W T ex) := by
  refine pe_imp h ?_
  rintro σ H Q ⟨F, M, ρ, er, x⟩
  refine ⟨F, M, ρ, er, At.bind (γ := Bool × D) (δ := V) (R := RV X.K) (Q := Q) (h := fun o ρ2 => match getOps ρ2 o with
      | some ds => optR (f ds) ρ2
      | none => .no) (At.cong (he ρ) x) fun os vs M1 H1 ρ1 ev1 er1 r1 k1 => hr _ _ _ ?_⟩
  cases ga : getOps ρ1 os with
  | none => exact (k1.no (by simp only [ga])).elim
  | some ds =>
    cases fo : f ds with
    | none => exact (k1.no (by simp only [ga, fo, optR])).elim
    | some p =>
      obtain ⟨own, r⟩ := p
      refine ⟨M1, ds, own, r, er1.mt, getOps_val er1 r1 ga, fo, fun w M' H' o => ?_⟩
      obtain ⟨ev3, er3, rv⟩ := OutR.rv er1 o
      exact k1.ok (a := (own, r)) (ρ1 := ρ1) (by simp only [ga, fo, optR]) w M' H' ev3 er3 rv
theorem seqT_val {K : PySem.W.Frag} {M : Ad} {H : Hp} {v : V} {d : D} {ds : List D} (h : ValR K M H v d) (e : seqT d = some ds) : ∃ c a vs, v = .ref a ∧ Ps.SqC c K H a vs ∧ Reps K M H vs ds := by
  cases d with
  | tup xs => cases e; obtain ⟨a, vs, rfl, h1, h2⟩ := h.tup; exact ⟨true, a, vs, rfl, h1, h2⟩
  | lst xs => cases e; obtain ⟨a, vs, rfl, h1, h2⟩ := h.lst; exact ⟨false, a, vs, rfl, .of h1, h2⟩
  | _ => cases e
/-- what a thing just made becomes when it is locked -/
def LockK (Q : VK) : VK := fun v H1 => ∃ d u, v = V.ref d ∧ H1 d = some u ∧ Mut (some u) ∧ ∀ od, Q v (upd H1 d (.frz od u))
theorem pe_lockR {e : Expr} {t : TE} (h : PE X e t) : PE X e (fun σ H Q => t σ H (LockK Q)) := by
  refine ⟨fun pins s σ H Q I hw => ?_⟩
  refine thn (h.run pins s σ H _ I hw) fun v s1 ⟨x, H1, I1, r, d, u, ex, hd, mu, q⟩ => ?_
  obtain ⟨od, I2⟩ := I1.lock hd mu
  exact ⟨x, _, I2, r, q od⟩
theorem Grow.lock {M : Ad} {H : Hp} {p : Addr} {o : Obj} {u : HO} (hp : H p = none) (mt : ∀ a, M a → Mut (H a)) : Grow M H M (upd H p (.frz o u)) :=
  ⟨fun a o h => by rw [upd_ne (ne_of_none h hp)]; exact h, fun _ m => m, fun _ m => .inl m, fun a m => by
    have q := mt a m
    rw [upd_ne (fun z => by rw [z, hp] at q; exact q)]; exact q⟩
theorem lock_dT {K : PySem.W.Frag} {M : Ad} {H : Hp} {p : Addr} {kvs : List (List Key × V)} {ks : List (List Key)} {ds : List D} {Q : VK} (mt : ∀ a, M a → Mut (H a)) (np : H p = none) (hk : ks = kvs.map (fun p => p.1)) (r : Reps K M H (kvs.map (·.2)) ds)
    (q : ∀ v M' H', OutR K M H false (.dtp ks ds) v M' H' → Q v H') : LockK Q (.ref p) (upd H p (.dT kvs)) :=
  ⟨p, .dT kvs, rfl, upd_same, trivial, fun od => by
    rw [upd_upd]
    exact q _ M _ ⟨.lock np mt, .dT upd_same hk (r.ev ((Grow.lock (o := od) (u := .dT kvs) np mt).ev (P := fun _ => False) mt))⟩⟩
/-- dict(zip(a, b)) -/
theorem simDzip (S : SX m T XR n W X) {a b : Expr} {u v : Ex} {p p2 pos2 pos : Pos} (gd : isGl X.env.scope "dict" = true) (md : X.mg "dict" = none) (gz : isGl X.env.scope "zip" = true) (mz : X.mg "zip" = none) (sa : notStar a = true) (sb : notStar b = true) (ha : PA X [a, b] (RdOs X.K XR W T [u, v])) :
    PE X (.Call (.Name "dict" p) [.Call (.Name "zip" p2) [a, b] [] pos2] [] pos) (RdV X.K XR W T (.dzip [u, v])) := by
  refine simN0 (f := dzipD) (es := [u, v]) (r := fun vs H Q => Ps.rDZ X.K vs H (LockK Q)) ?_ (pe_lockR (Ps.pe_dictZip S.calm S.un (isGl_gl gd).1 md (isGl_gl gz).1 mz ha (starEach_cons sa) (by rw [starEach_cons sb]; rfl))) (fun ρ => by rw [evalV] <;> rfl)
  rintro vs H Q ⟨M, ds, own, r, mt, pv, hf, q⟩
  unfold dzipD at hf
  split at hf
  · rename_i d1 d2
    split at hf
    · rename_i xs ys e1 e2
      obtain ⟨ks, e3, e4⟩ := Option.map_eq_some_iff.mp hf
      cases e4
      obtain ⟨v1, v2, rfl, h1, h2⟩ := two_of pv
      obtain ⟨c1, b1, ws1, rfl, s1, r1⟩ := seqT_val h1 e1
      obtain ⟨c2, b2, ws2, rfl, s2, r2⟩ := seqT_val h2 e2
      obtain ⟨kas, rfl, rfl, hk⟩ := keysT_rep r1 e3
      obtain ⟨z1, z2⟩ := dmrg_rep (kas := kas) (kvs := []) (es := []) r2 .nil
      exact ⟨c1, c2, b1, b2, kas, ws2, rfl, s1, hk, s2, fun p np => lock_dT mt np z1 z2 q⟩
    · cases hf
  · cases hf
theorem prsD_rep {K : PySem.W.Frag} {M : Ad} {H : Hp} : ∀ {vs : List V} {ds : List D} {ks : List (List Key)} {es : List D}, Reps K M H vs ds → prsD ds = some (ks, es) → ∃ (ps : List Addr) (kas : List (List Key × Addr)) (ws : List V), vs = ps.map V.ref ∧ kas.length = ps.length ∧ ws.length = ps.length ∧ ks = kas.map (·.1) ∧
      (∀ (j : Nat) (p : Addr) (q : List Key × Addr) (v : V), ps[j]? = some p → kas[j]? = some q → ws[j]? = some v → SqT K H p [.ref q.2, v]) ∧ (∀ q ∈ kas, H q.2 = some (.tup (q.1.map kV))) ∧ Reps K M H ws es
  | [], [], _, _, .nil, h => by cases h; exact ⟨[], [], [], rfl, rfl, rfl, rfl, (fun j p q v h => by simp at h), (fun q hq => nomatch hq), .nil⟩
  | v :: vs, d :: ds, ks, es, .cons r t, h => by
    unfold prsD at h
    split at h
    · rename_i z; cases z
    · rename_i xs d1 r0 z
      cases z
      split at h
      · rename_i k ks' es' e1 e2
        cases h
        obtain ⟨ps, kas, ws, rfl, l1, l2, rfl, h4, h5, h6⟩ := prsD_rep t e2
        obtain ⟨a, ys, rfl, ha, ra⟩ := (ValR.tupH (.inl r))
        cases ra with
        | cons ra1 ra2 =>
        cases ra2 with
        | cons ra2 ra3 =>
        cases ra3
        obtain ⟨b, zs, rfl, hb, rb⟩ := (ValR.tupH (.inl ra1))
        have ek := keys_v rb e1
        subst ek
        refine ⟨a :: ps, (k, b) :: kas, _ :: ws, rfl, by simp [l1], by simp [l2], rfl, fun j p q v g1 g2 g3 => ?_, fun q hq => ?_, .cons ra2 h6⟩
        · cases j with
          | zero => cases g1; cases g2; cases g3; exact .of ha
          | succ j => exact h4 j p q v (by simpa using g1) (by simpa using g2) (by simpa using g3)
        · rcases List.mem_cons.mp hq with rfl | hq
          · exact hb
          · exact h5 q hq
      · cases h
    · cases h
/-- dict(list of pairs) -/
theorem simDprs (S : SX m T XR n W X) {a : Expr} {u : Ex} {p pos : Pos} (gd : isGl X.env.scope "dict" = true) (md : X.mg "dict" = none) (sa : notStar a = true) (ha : PE X a (RdO X.K XR W T u)) : PE X (.Call (.Name "dict" p) [a] [] pos) (RdV X.K XR W T (.dprs u)) := by
  obtain ⟨g1, g2, g3⟩ := isGl_gl gd
  refine sim1 (f := dprsD) (r1 := fun x H Q => ∃ (a : Addr) (ps : List Addr) (kas : List (List Key × Addr)) (vs : List V), [x] = [.ref a] ∧ SqL X.K H a (ps.map V.ref) ∧ kas.length = ps.length ∧ vs.length = ps.length ∧
    (∀ (j : Nat) (p : Addr) (q : List Key × Addr) (v : V), ps[j]? = some p → kas[j]? = some q → vs[j]? = some v → SqT X.K H p [.ref q.2, v]) ∧ (∀ q ∈ kas, H q.2 = some (.tup (q.1.map kV))) ∧
    ∀ p, H p = none → LockK Q (.ref p) (upd H p (.dT (Ps.mrgT [] (List.zipWith (fun q v => (q.1, v)) kas vs))))) ?_ (a := u) (pe_lockR (pe_callTy (Ps.call_dictPT S.calm S.un) g1 md PyProof.Rows.boot_dict (pa_cons ha pa_nil (starEach_cons sa)) g3 g2 (starEach_cons sa) rfl)) (fun ρ => by rw [evalV])
  rintro x H Q ⟨M, d, own, r, mt, vx, hf, q⟩
  cases d with
  | lst xs =>
    obtain ⟨⟨ks, es⟩, e1, e2⟩ := Option.map_eq_some_iff.mp (show (prsD xs).map _ = some (own, r) from hf)
    cases e2
    obtain ⟨a, ws, rfl, h1, h2⟩ := vx.lst
    obtain ⟨ps, kas, vs, rfl, l1, l2, rfl, h4, h5, h6⟩ := prsD_rep h2 e1
    obtain ⟨z1, z2⟩ := dmrg_rep (kas := kas) (kvs := []) (es := []) h6 .nil
    exact ⟨a, ps, kas, vs, rfl, .of h1, l1, l2, h4, h5, fun p np => lock_dT mt np z1 z2 q⟩
  | _ => cases hf
/-! a dict by tuples that is filled -/
/-- as it is, or locked -/
def LockO (Q : VK) : VK := fun v H1 => Q v H1 ∨ LockK Q v H1
theorem pe_lockO {e : Expr} {t : TE} (h : PE X e t) : PE X e (fun σ H Q => t σ H (LockO Q)) := by
  refine ⟨fun pins s σ H Q I hw => ?_⟩
  refine thn (h.run pins s σ H _ I hw) fun v s1 ⟨x, H1, I1, r, q⟩ => ?_
  rcases q with q | ⟨d, u, ex, hd, mu, q⟩
  · exact ⟨x, H1, I1, r, q⟩
  · obtain ⟨od, I2⟩ := I1.lock hd mu
    exact ⟨x, _, I2, r, q od⟩
/-- a name whose dict is locked now -/
theorem simLkv {e : Expr} {i : Nat} (h : PE X e (tVar i)) : PE X e (RdV X.K XR W T (.lkv i)) := by
  refine pe_imp (pe_lockO h) ?_
  rintro σ H Q ⟨F, M, ρ, er, x⟩
  by_cases hd : ∃ ks ds, ρ[i]? = some (.ow (.dtu ks ds))
  case neg =>
    have e2 : evalV T (.lkv i) ρ = evalV T (.var i) ρ := by
      rw [evalV, evalV]
      unfold lkvD
      split
      · rename_i ks ds es; exact absurd ⟨ks, ds, es⟩ hd
      · rfl
    obtain ⟨v, e1, q⟩ := var_i (K := X.K) (T := T) (XR := XR) (W := W) (i := i) ⟨F, M, ρ, er, At.cong e2 x⟩
    exact ⟨v, e1, .inl q⟩
  obtain ⟨ks, ds, es⟩ := hd
  obtain ⟨a, e1, m, np, c⟩ := er.sl i _ es
  have hi : i < ρ.length := (List.getElem?_eq_some_iff.mp es).1
  refine ⟨_, atS_some e1, .inr ?_⟩
  cases c with
  | @dTu kvs _ _ hH hk rr =>
    refine ⟨a, _, rfl, hH, trivial, fun od => ?_⟩
    have hne : ∀ b, b ≠ a → upd H a (.frz od (.dT kvs)) b = H b := fun b hb => upd_ne hb
    have ev : Ev F.k M H (fun b => M b ∧ b ≠ a) (upd H a (.frz od (.dT kvs))) := ⟨er.mt, fun b h => by
        by_cases z : b = a
        · rw [z, upd_same]; exact fun q => nomatch q
        · rw [hne b z]; exact h, fun b o h n => by
        rw [hne b (fun z => n (z ▸ m))]; exact h, fun _ h => .inl h.1, fun b pb mb => ⟨hne b (fun z => np (z ▸ pb)), mb, fun z => np (z ▸ pb)⟩⟩
    have mi : mineAt ρ i = true := by unfold mineAt; rw [es]; rfl
    have rp : Rep X.K (fun b => M b ∧ b ≠ a) (upd H a (.frz od (.dT kvs))) (.ref a) (.dtp ks ds) := .dT upd_same hk (rr.ev ev)
    refine x.ok (a := ((false, D.dtp ks ds) : Bool × D)) (ρ1 := ρ.set i (.fr (.dtp ks ds))) (by rw [evalV]; unfold lkvD; rw [es]) (.ref a) _ _ ev ?_ rp
    refine ⟨fun b h => by rw [hne b h.2]; exact er.mt b h.1, fun b pb => ⟨er.pm b pb, fun z => np (z ▸ pb)⟩, by rw [List.length_set]; exact er.len, fun j s es' => ?_, fun j k b hjk h1 h2 h3 => ?_, fun j b hl => ?_⟩
    · by_cases hj : i = j
      · subst hj
        rw [List.getElem?_set_self hi] at es'
        obtain rfl := Option.some.inj es'
        exact ⟨_, e1, rp⟩
      · rw [List.getElem?_set_ne hj] at es'
        have qj := er.sl j s es'
        cases s with
        | no => trivial
        | fr d' =>
          obtain ⟨v, e2, r⟩ := qj
          exact ⟨v, e2, r.ev ev⟩
        | bo d' =>
          obtain ⟨v, e2, r⟩ := qj
          refine ⟨v, e2, ?_⟩
          rcases r with r | ⟨b, eb, p, m', c'⟩
          · exact .inl (r.ev ev)
          · have hb : b ≠ a := fun z => np (z ▸ .inl p)
            exact .inr ⟨b, eb, p, ⟨m', hb⟩, c'.ev ev (hne b hb)⟩
        | ow d' =>
          obtain ⟨b, e2, m', np', c'⟩ := qj
          have hb : b ≠ a := by
            rintro rfl
            exact er.ne i j _ hj mi (by unfold mineAt; rw [es']; rfl) e1 e2
          exact ⟨b, e2, ⟨m', hb⟩, np', c'.ev ev (hne b hb)⟩
        | io d' =>
          obtain ⟨b, e2, m', np', l', c'⟩ := qj
          have hb : b ≠ a := by
            rintro rfl
            exact er.ne i j _ hj mi (by unfold mineAt; rw [es']; rfl) e1 e2
          exact ⟨b, e2, ⟨m', hb⟩, np', l', c'.ev ev (hne b hb)⟩
        | le d' =>
          obtain ⟨b, e2, m', p', l', c'⟩ := qj
          have hb : b ≠ a := fun z => np (z ▸ .inr p')
          exact ⟨b, e2, ⟨m', hb⟩, p', l', c'.ev ev (hne b hb)⟩
    · have old : ∀ k, mineAt (ρ.set i (.fr (.dtp ks ds))) k = true → mineAt ρ k = true := fun k hk => by
        by_cases z : i = k
        · subst z; exact mi
        · rwa [mineAt_set_ne z] at hk
      exact er.ne j k b hjk (old j h1) (old k h2) h3
    · obtain ⟨d', e2⟩ := er.lent j b hl
      refine ⟨d', ?_⟩
      rw [List.getElem?_set_ne (fun z => by rw [z] at es; rcases e2 with e2 | e2 <;> (rw [e2] at es; cases es))]
      exact e2
/-- sorted(d.items()) -/
theorem simSit (S : SX m T XR n W X) {o : Expr} {i : Nat} {p apos cpos pos : Pos} (hg : isGl X.env.scope "sorted" = true) (hm : X.mg "sorted" = none) (hb : attributeBase o "items" X.env (eval o X.env) = eval o X.env) (hl : (apos.endLine == cpos.line) = true) (ho : PE X o (tVar i)) :
    PE X (.Call (.Name "sorted" p) [.Call (.Attribute o "items" apos) [] [] cpos] [] pos) (RdV X.K XR W T (.sit i)) := by
  obtain ⟨g1, g2, g3⟩ := isGl_gl hg
  refine pe_imp (pe_callB (cr_sit S.calm S.un) g1 hm PyProof.Rows.boot_sorted (pa_cons (pe_bm0 PySem.F.plainAttrs_dict PySem.F.slot_dict_items PySem.F.type_dict_items L2.DX.mt_itemsT ho hb hl) pa_nil rfl) g3 g2 rfl rfl) ?_
  rintro σ H Q ⟨F, M, ρ, er, x⟩
  have hv : evalV T (.sit i) ρ = optR (sitD ρ[i]?) ρ := by rw [evalV]
  cases es : ρ[i]? with
  | none => exact (x.no (by rw [hv, es]; rfl)).elim
  | some s =>
  by_cases hd : ∃ ks ds, s = .ow (.dtu ks ds)
  case neg =>
    refine (x.no ?_).elim
    rw [hv, es]
    unfold sitD
    split
    · rename_i ks ds e; cases e; exact absurd ⟨_, _, rfl⟩ hd
    · rfl
  obtain ⟨ks, ds, rfl⟩ := hd
  obtain ⟨a, e1, m0, np, c⟩ := er.sl i _ es
  cases c with
  | @dTu kvs _ _ hH hk rr =>
  by_cases hlen : ks.length ≤ 1000
  case neg => exact (x.no (by rw [hv, es]; unfold sitD; dsimp only; rw [if_neg hlen]; rfl)).elim
  cases hs : sortD false (itemsD ks ds) with
  | none => exact (x.no (by rw [hv, es]; unfold sitD; dsimp only; rw [if_pos hlen]; show optR ((sortD false (itemsD ks ds)).map _) ρ = _; rw [hs]; rfl)).elim
  | some r =>
  refine ⟨_, atS_some e1, ?_⟩
  refine ⟨.inr (.inr (.inl ⟨rfl, .inr ⟨kvs, hH⟩⟩)), a, kvs, rfl, rfl, hH, fun p np' => ?_⟩
  have np2 : ∀ b, H b ≠ none → b ≠ p := fun b hb z => hb (z ▸ np')
  have g : Grow M H M (upd H p (L2.DX.itemsO p a)) := Grow.ext np' er.mt
  refine ⟨p, a, kvs, M, ds, r, rfl, upd_same, by rw [upd_ne (np2 a (by rw [hH]; exact fun z => nomatch z))]; exact hH, g.mt, rr.ev (g.ev (P := fun _ => False) er.mt), by rw [hk, List.length_map] at hlen; exact hlen, by rw [← hk]; exact hs, fun w M' H' o => ?_⟩
  obtain ⟨g2, o2⟩ := o
  have oo : OutR X.K M H true (.lst r) w M' H' := by
    refine ⟨g.trans g2, ?_⟩
    rw [if_pos rfl] at o2 ⊢
    obtain ⟨b, b1, b2, b3, b4⟩ := o2
    refine ⟨b, b1, b2, ?_, b4⟩
    by_cases z : b = p
    · rw [z]; exact np'
    · rwa [upd_ne z] at b3
  obtain ⟨ev, er2, rv⟩ := OutR.rv er oo
  exact x.ok (a := (true, D.lst r)) (ρ1 := ρ) (by rw [hv, es]; unfold sitD; dsimp only; rw [if_pos hlen]; show optR ((sortD false (itemsD ks ds)).map _) ρ = _; rw [hs]; rfl) w _ _ ev er2 rv
end
end Pd
set_option Elab.async false
set_option linter.all false
/-! Pd14: every expression that the translator takes: the theorem. -/
namespace Pd
open PySem PySem.Spec PyProof.Rows L2
section
variable {m : Ms} {T : Tb} {XR : XRel} {n : Nat}
/-- all expressions below a size -/
def Below (m : Ms) (T : Tb) (XR : XRel) (n k : Nat) : Prop := ∀ (e : Expr), sizeOf e < k → ∀ (X : Cx) (W : L2.WX), SX m T XR n W X → Three X T XR W e (tr m X.N e X.env.scope)
variable {X : Cx} {W : L2.WX} {k : Nat}
theorem rowV (B : Below m T XR n k) (S : SX m T XR n W X) {es : List Expr} (h : sizeOf es ≤ k) (hs : es.all notStar = true) : PA X es (RdVs X.K XR W T (trs m X.N es X.env.scope)) :=
  simVs (trs_paired fun e me => ⟨List.all_eq_true.mp hs e me, (B e (by have := mem_lt me; omega) X W S).v⟩)
theorem rowO (B : Below m T XR n k) (S : SX m T XR n W X) {es : List Expr} (h : sizeOf es ≤ k) (hs : es.all notStar = true) : PA X es (RdOs X.K XR W T (trs m X.N es X.env.scope)) :=
  simOs (trs_paired fun e me => ⟨List.all_eq_true.mp hs e me, (B e (by have := mem_lt me; omega) X W S).ro⟩)
theorem rowA (B : Below m T XR n k) (S : SX m T XR n W X) {es : List Expr} (h : sizeOf es ≤ k) (hs : es.all notStar = true) (ks : List Kd) : PA X es (RdAs X.K XR W T (trs m X.N es X.env.scope) ks) :=
  simAs ks (trs_paired fun e me => ⟨List.all_eq_true.mp hs e me, (B e (by have := mem_lt me; omega) X W S).v, (B e (by have := mem_lt me; omega) X W S).o⟩)
theorem masterBool (B : Below m T XR n k) (S : SX m T XR n W X) (op : BoolOp) (vs : List Expr) (pos : Pos) (h : sizeOf vs ≤ k) : Three X T XR W (.BoolOp op vs pos) (tr m X.N (.BoolOp op vs pos) X.env.scope) := by
  by_cases hl : decide (2 ≤ vs.length) = true
  case neg => cases op <;> (rw [tr, if_neg hl]; exact .bad)
  have hl2 : 2 ≤ vs.length := of_decide_eq_true hl
  have ne : vs ≠ [] := fun z => by rw [z] at hl2; simp at hl2
  have hx : 2 ≤ (trs m X.N vs X.env.scope).length := by rw [trs_len]; exact hl2
  have b := fun e (me : e ∈ vs) => B e (by have := mem_lt me; omega) X W S
  have p1 : Paired (fun e x => PE X e (RdV X.K XR W T x) ∧ PE X e (RdO X.K XR W T x)) vs (trs m X.N vs X.env.scope) := trs_paired fun e me => ⟨(b e me).v, (b e me).ro⟩
  have p2 : Paired (fun e x => PT X e (RdT X.K XR W T x)) vs (trs m X.N vs X.env.scope) := trs_paired fun e me => (b e me).t
  cases op with
  | And => rw [tr, if_pos hl]; exact ⟨simAndV ne p1, (simAndT ne p2).pt, fun i z => absurd z (andL_var hx i)⟩
  | Or => rw [tr, if_pos hl]; exact ⟨simOrV ne p1, (simOrT ne p2).pt, fun i z => absurd z (orL_var hx i)⟩
/-- {} -/
theorem simDict0 {pos : Pos} : PE X (.Dict [] [] pos) (RdV X.K XR W T (.dct [] (trs m X.N [] X.env.scope))) := by
  refine pe_imp pe_dnewK ?_
  rintro σ H Q ⟨F, M, ρ, er, x⟩
  refine fun p np => ?_
  have o : OutR X.K M H true (.dct [] []) (.ref p) (fun a => M a ∨ a = p) (upd H p (.dK [])) :=
    ⟨.new np er.mt trivial, p, rfl, .inr rfl, np, .dK upd_same rfl .nil⟩
  obtain ⟨ev, er2, rv⟩ := OutR.rv er o
  exact x.ok (a := (true, D.dct [] [])) (ρ1 := ρ) (by rw [trs, evalV, evalVs] <;> rfl) (.ref p) _ _ ev er2 rv
theorem simDictT {pos : Pos} : PE X (.Dict [] [] pos) (RdV X.K XR W T .emp) := by
  refine pe_imp pe_dnewT ?_
  rintro σ H Q ⟨F, M, ρ, er, x⟩
  refine fun p np => ?_
  have o : OutR X.K M H true (.dtu [] []) (.ref p) (fun a => M a ∨ a = p) (upd H p (.dT [])) :=
    ⟨.new np er.mt trivial, p, rfl, .inr rfl, np, .dTu upd_same rfl .nil⟩
  obtain ⟨ev, er2, rv⟩ := OutR.rv er o
  exact x.ok (a := (true, D.dtu [] [])) (ρ1 := ρ) (by rw [evalV]) (.ref p) _ _ ev er2 rv
theorem meetOf_cases (e : Bool) (op : CmpOp) (y z : Ex) : meetOf e op y z = z ∨ ∃ u v, meetOf e op y z = .meet u v ∧ y = .meet u v ∧ op = .NotEq ∧ e = true := by
  unfold meetOf
  split
  · split
    · split
      · rename_i h; exact .inr ⟨_, _, rfl, rfl, rfl, h⟩
      · exact .inl rfl
    · exact .inl rfl
  · exact .inl rfl
theorem tinOf_cases (t : Option Str) (op : CmpOp) (a z : Ex) : tinOf t op a z = z ∨ ∃ x neg, tinOf t op a z = .tin neg x a ∧ ((neg = false ∧ op = .In) ∨ (neg = true ∧ op = .NotIn)) ∧ t = some x := by
  unfold tinOf
  split
  · exact .inr ⟨_, false, rfl, .inl ⟨rfl, rfl⟩, rfl⟩
  · exact .inr ⟨_, true, rfl, .inr ⟨rfl, rfl⟩, rfl⟩
  · exact .inl rfl
theorem emptySet_of {sc : Scope} {c : Expr} (h : emptySet m sc c = true) : ∃ z p q, c = .Call (.Name z p) [] [] q ∧ setGl m sc z = true := by
  unfold emptySet at h
  split at h
  · exact ⟨_, _, _, rfl, h⟩
  · cases h
theorem trM_meet {N : List Str} {sc : Scope} {a : Expr} {u v : Ex} (h : trM m N a sc = .meet u v) : ∃ x y p1 p2 p3 p4 p5 a' b', a = .BinOp (.Call (.Name x p1) [a'] [] p2) .BitAnd (.Call (.Name y p3) [b'] [] p4) p5 ∧ setGl m sc x = true ∧ setGl m sc y = true ∧ notStar a' = true ∧ notStar b' = true ∧ u = tr m N a' sc ∧ v = tr m N b' sc := by
  unfold trM at h
  split at h
  · split at h
    · rename_i h0
      simp only [Bool.and_eq_true] at h0
      injection h with h1 h2
      exact ⟨_, _, _, _, _, _, _, _, _, rfl, h0.1.1.1, h0.1.1.2, h0.1.2, h0.2, h1.symm, h2.symm⟩
    · cases h
  · cases h
theorem trQ_sset {N : List Str} {sc : Scope} {a : Expr} {y : Ex} (h : trQ m N a sc = .sset y) : ∃ x p q a', a = .Call (.Name x p) [a'] [] q ∧ setGl m sc x = true ∧ notStar a' = true ∧ y = tr m N a' sc := by
  unfold trQ at h
  split at h
  · split at h
    · rename_i h0
      simp only [Bool.and_eq_true] at h0
      injection h with h1
      exact ⟨_, _, _, _, rfl, h0.1, h0.2, h1.symm⟩
    · cases h
  · split at h
    · unfold slotSit at h
      split at h <;> cases h
    · cases h
  · cases h
theorem trQ_sit {N : List Str} {sc : Scope} {a : Expr} {i : Nat} (h : trQ m N a sc = .sit i) : ∃ x p ap cp, a = .Call (.Attribute (.Name x p) "items" ap) [] [] cp ∧ slotV N sc x = some i ∧ (ap.endLine == cp.line) = true := by
  unfold trQ at h
  split at h
  · split at h <;> cases h
  · split at h
    · rename_i h0
      simp only [Bool.and_eq_true, decide_eq_true_eq] at h0
      obtain ⟨rfl, h2⟩ := h0
      unfold slotSit at h
      split at h
      · rename_i j hj
        cases h
        exact ⟨_, _, _, _, rfl, hj, h2⟩
      · cases h
    · cases h
  · cases h
theorem masterCmp (B : Below m T XR n k) (S : SX m T XR n W X) (a : Expr) (ops : List CmpOp) (cs : List Expr) (pos : Pos) (ha : sizeOf a < k) (h : sizeOf cs ≤ k) : Three X T XR W (.Compare a ops cs pos) (tr m X.N (.Compare a ops cs pos) X.env.scope) := by
  have b := fun e (me : e ∈ cs) => B e (by have := mem_lt me; omega) X W S
  have A := B a ha X W S
  match ops, cs, b with
  | [op], [c], b =>
    rw [tr]
    by_cases hs : isSet c = true
    · rw [if_pos hs]; exact .bad
    · rw [if_neg hs]
      have hs' : isSet c = false := by simpa using hs
      have C := b c List.mem_cons_self
      have i2 : ∀ σ H Q, RdV X.K XR W T (.cmp op (tr m X.N a X.env.scope) (tr m X.N c X.env.scope)) σ H Q → tOp (rOp X.K (cmpV op)) (RdO X.K XR W T (tr m X.N a X.env.scope)) (RdO X.K XR W T (tr m X.N c X.env.scope)) σ H Q :=
        imp2 (f := cmpV op) (fun _ _ _ _ h _ => h) (fun ρ => by rw [evalV])
      rcases tinOf_cases (tabOf m X.env.scope c) op (tr m X.N a X.env.scope) (meetOf (emptySet m X.env.scope c) op (trM m X.N a X.env.scope) (.cmp op (tr m X.N a X.env.scope) (tr m X.N c X.env.scope))) with h0 | ⟨x, neg, h0, h1, h2⟩
      case inr => rw [h0]; exact simTin S h1 h2 A.ro
      rw [h0]
      rcases meetOf_cases (emptySet m X.env.scope c) op (trM m X.N a X.env.scope) (.cmp op (tr m X.N a X.env.scope) (tr m X.N c X.env.scope)) with h1 | ⟨u, v, h1, h2, rfl, h3⟩
      · rw [h1]
        exact ⟨pe_imp (pe_cmpR (op_cmp S.un op) A.ro C.ro (noBehind hs')) i2, pt_imp (pt_cmpR (op_cmp S.un op) A.ro C.ro (noBehind hs')) fun σ H Q w => i2 σ H _ (tst_v (x := Ex.cmp op _ _) (fun i z => nomatch z) w), (fun i z => nomatch z)⟩
      · rw [h1]
        obtain ⟨x, y, p1, p2, p3, p4, p5, a', b', rfl, g1, g2, g3, g4, rfl, rfl⟩ := trM_meet h2
        obtain ⟨z, p6, p7, rfl, g5⟩ := emptySet_of h3
        have sz : sizeOf a' < k ∧ sizeOf b' < k := by
          simp only [Expr.BinOp.sizeOf_spec, Expr.Call.sizeOf_spec, List.cons.sizeOf_spec] at ha
          omega
        exact simMeet S g1 g2 g5 g3 g4 (B a' sz.1 X W S).ro (B b' sz.2 X W S).ro
  | [o1, o2], [c, d], b =>
    rw [tr]
    by_cases hs : isSet d = true
    · rw [if_pos hs]; exact .bad
    · rw [if_neg hs]
      have hs' : isSet d = false := by simpa using hs
      have C := b c List.mem_cons_self
      have D := b d (List.mem_cons_of_mem _ List.mem_cons_self)
      exact ⟨pe_imp (pe_chain (op_cmp S.un o1) (op_cmp S.un o2) A.ro C.ro D.ro (lastNo hs')) fun _ _ _ w => chn_i w, pt_imp (pt_chain (op_cmp S.un o1) (op_cmp S.un o2) A.ro C.ro D.ro (lastNo hs')) fun σ H Q w => chn_i (tst_v (x := Ex.chn o1 o2 _ _ _) (fun i z => nomatch z) w), (fun i z => nomatch z)⟩
  | [], _, _ => unfold tr; exact .bad
  | [_], [], _ => unfold tr; exact .bad
  | [_], _ :: _ :: _, _ => unfold tr; exact .bad
  | [_, _], [], _ => unfold tr; exact .bad
  | [_, _], [_], _ => unfold tr; exact .bad
  | [_, _], _ :: _ :: _ :: _, _ => unfold tr; exact .bad
  | _ :: _ :: _ :: _, _, _ => unfold tr; exact .bad
theorem masterSub (B : Below m T XR n k) (S : SX m T XR n W X) (a b : Expr) (pos : Pos) (ha : sizeOf a < k) (hb : sizeOf b < k) : Three X T XR W (.Subscript a b pos) (tr m X.N (.Subscript a b pos) X.env.scope) := by
  have A := B a ha X W S
  by_cases hr : ∃ j q1 q2 q3, b = .Slice none none (some (.UnaryOp .USub (.Constant (.int 1) j q1) q2)) q3
  · obtain ⟨j, q1, q2, q3, rfl⟩ := hr
    rw [tr]
    exact .val (simRevSl A.ro) (fun i z => nomatch z) fun _ => rfl
  by_cases hs : ∃ lo hi p, b = .Slice lo hi none p
  · obtain ⟨lo, hi, p, rfl⟩ := hs
    rw [tr]
    refine .val (pe_imp (pe_slice sl_all A.ro (po_of fun e' h => B e' ?_ X W S) (po_of fun e' h => B e' ?_ X W S)) fun _ _ _ w => sl_i w) (fun i z => nomatch z) fun _ => rfl
    · subst h; simp only [Expr.Slice.sizeOf_spec, Option.some.sizeOf_spec] at hb; omega
    · subst h; simp only [Expr.Slice.sizeOf_spec, Option.some.sizeOf_spec] at hb; omega
  · rw [tr.eq_20 _ _ _ _ _ _ (fun j q1 q2 q3 z => hr ⟨j, q1, q2, q3, z⟩) fun lo hi p z => hs ⟨lo, hi, p, z⟩]
    by_cases hp : plainIx b = true
    · rw [if_pos hp]
      have Bb := B b hb X W S
      exact .val (pe_imp (pe_ix (ix_all (by have := S.un; omega)) A.ro Bb.ro (plain_ix hp)) (imp2 (f := ixV) (fun _ _ _ _ h _ => h) (fun ρ => by rw [evalV]))) (fun i z => nomatch z) fun _ => rfl
    · rw [if_neg hp]; exact .bad
theorem trI_rng1 {e : Expr} {N : List Str} {sc : Scope} {t : Bool} {y : Ex} (h : trI m N t e sc = .rng1 y) : ∃ p a pos, e = .Call (.Name "range" p) [a] [] pos ∧ isGl sc "range" = true ∧ m.blts.contains "range" = true ∧ notStar a = true ∧ y = tr m N a sc := by
  by_cases hc : ∃ x p args pos, e = .Call (.Name x p) args [] pos
  case neg =>
    exfalso
    revert h
    cases e with
    | Call f args kws pos =>
      cases f with
      | Name x p =>
        cases kws with
        | nil => exact absurd ⟨x, p, args, pos, rfl⟩ hc
        | cons _ _ => unfold trI; split <;> first | (intro z; cases z; done) | (rename_i h; cases h)
      | _ => unfold trI; intro z; cases z
    | _ => unfold trI; intro z; cases z
  obtain ⟨x, p, args, pos, rfl⟩ := hc
  match args, h with
  | [], h => rw [trI] at h; all_goals first | (cases h; done) | simp
  | [a], h =>
    rw [trI] at h
    split at h
    · rename_i h1
      simp only [Bool.and_eq_true] at h1
      split at h
      · rename_i h2
        subst h2
        rename_i hq
        injection hq with hq
        exact ⟨p, a, pos, rfl, h1.1.1, h1.1.2, h1.2, hq.symm⟩
      · split at h
        · cases h
        · split at h <;> cases h
    · cases h
  | [a, b], h =>
    rw [trI] at h
    split at h
    · split at h
      · cases h
      · split at h <;> cases h
    · cases h
  | _ :: _ :: _ :: _, h => rw [trI] at h; all_goals first | (cases h; done) | simp
theorem rgsOf_cases (x : Str) (y q z : Ex) : rgsOf x y q z = z ∨ (∃ w t, y = .rng1 w ∧ ((t = true ∧ x = "tuple") ∨ (t = false ∧ x = "list")) ∧ rgsOf x y q z = .rgs t w) ∨ (∃ w, q = .sset w ∧ x = "sorted" ∧ rgsOf x y q z = .sset w) ∨ ∃ i, q = .sit i ∧ x = "sorted" ∧ rgsOf x y q z = .sit i := by
  unfold rgsOf
  split
  · rename_i w
    split
    · rename_i h; exact .inr (.inl ⟨w, true, rfl, .inl ⟨rfl, h⟩, rfl⟩)
    · split
      · rename_i h; exact .inr (.inl ⟨w, false, rfl, .inr ⟨rfl, h⟩, rfl⟩)
      · exact .inl rfl
  · split
    · rename_i h; exact .inr (.inr (.inl ⟨_, rfl, h, rfl⟩))
    · exact .inl rfl
  · split
    · rename_i h; exact .inr (.inr (.inr ⟨_, rfl, h, rfl⟩))
    · exact .inl rfl
  · exact .inl rfl
theorem masterMe (B : Below m T XR n k) (S : SX m T XR n W X) {o a : Expr} {ok : Bool} {meth : Str} {u : Ex} {apos pos : Pos} (hok : ok = true → attributeBase o meth X.env (eval o X.env) = eval o X.env ∧ notStar a = true ∧ (apos.endLine == pos.line) = true) (ho : PE X o (RdO X.K XR W T u)) (ha : sizeOf a < k) :
    Three X T XR W (.Call (.Attribute o meth apos) [a] [] pos) (meEx ok meth u (tr m X.N a X.env.scope)) := by
  unfold meEx
  by_cases h : ok = true
  case neg => rw [if_neg h]; exact .bad
  rw [if_pos h]
  obtain ⟨h1, h2, h3⟩ := hok h
  cases hm : meOf meth with
  | none => exact .bad
  | some q => exact .val (simMe S hm h1 h2 h3 ho (B a ha X W S).ro) (fun i z => nomatch z) fun _ => rfl
theorem recv_base {o : Expr} {meth : Str} {env : PySem.Env} (h : plainRecv o = true) : attributeBase o meth env (eval o env) = eval o env := by
  cases o with
  | Call f args kws pos =>
    cases args with
    | nil => cases h
    | cons a as => cases f <;> rfl
  | _ => rfl
theorem dicOf_cases (x : Str) (z p r : Ex) : dicOf x z p r = r ∨ (x = "dict" ∧ dicOf x z p r = p) ∨ ∃ es, x = "dict" ∧ z = .dzip es ∧ dicOf x z p r = .dzip es := by
  unfold dicOf
  split
  · split
    · rename_i h; exact .inr (.inr ⟨_, h, rfl, rfl⟩)
    · exact .inl rfl
  · split
    · rename_i h; exact .inr (.inl ⟨h, rfl⟩)
    · exact .inl rfl
theorem trZ_dzip {N : List Str} {sc : Scope} {a : Expr} {es : List Ex} (h : trZ m N a sc = .dzip es) : ∃ p q a' b', a = .Call (.Name "zip" p) [a', b'] [] q ∧ isGl sc "zip" = true ∧ m.blts.contains "zip" = true ∧ notStar a' = true ∧ notStar b' = true ∧ es = [tr m N a' sc, tr m N b' sc] := by
  unfold trZ at h
  split at h
  · split at h
    · rename_i h0
      simp only [Bool.and_eq_true, decide_eq_true_eq] at h0
      obtain ⟨⟨⟨⟨h1, h2⟩, rfl⟩, h4⟩, h5⟩ := h0
      cases h
      exact ⟨_, _, _, _, rfl, h1, h2, h4, h5, rfl⟩
    · cases h
  · cases h
theorem one_of1 {N : List Str} {sc : Scope} {g : Expr → Scope → Ex} {g1 : List Expr → Scope → Ex} {z : Ex} (hz : z ≠ .bad) (h0 : ∀ es, (∀ e, es ≠ [e]) → g1 es sc = .bad) (h1 : ∀ e, g1 [e] sc = g e sc) {es : List Expr} (h : g1 es sc = z) : ∃ e, es = [e] ∧ g e sc = z := by
  match es with
  | [e] => exact ⟨e, rfl, by rw [← h1]; exact h⟩
  | [] => rw [h0 [] (fun e z => nomatch z)] at h; exact absurd h.symm hz
  | a :: b :: r => rw [h0 (a :: b :: r) (fun e z => nomatch z)] at h; exact absurd h.symm hz
theorem masterName (B : Below m T XR n k) (S : SX m T XR n W X) (x : Str) (p : Pos) (args : List Expr) (pos : Pos) (ha : sizeOf args ≤ k) :
    Three X T XR W (.Call (.Name x p) args [] pos) (nameCall m X.env.scope x args (trs m X.N args X.env.scope) (trI1 m X.N args X.env.scope) (trQ1 m X.N args X.env.scope) (trZ1 m X.N args X.env.scope)) := by
  unfold nameCall
  by_cases h0 : (isGl X.env.scope x && args.all notStar && decide (args.length < 30)) = true
  case neg => rw [if_neg h0]; exact .bad
  rw [if_pos h0]
  simp only [Bool.and_eq_true] at h0
  obtain ⟨⟨hg, hst⟩, _⟩ := h0
  obtain ⟨g1, g2, g3⟩ := isGl_gl hg
  by_cases h1 : m.fns.contains x = true
  · rw [if_pos h1]
    obtain ⟨fa, fd, ps, e1, e2, F, hb, hb2⟩ := S.fn x h1
    refine .val ?_ (fun i z => nomatch z) fun _ => rfl
    unfold padE
    cases args with
    | nil =>
      rw [trs]
      exact simCall0 F S.room g1 e1 e2 hb S.tk g2
    | cons a as =>
      have hr := rowA B S ha hst
      rw [trs] at hr ⊢
      by_cases hd : (!(tr m X.N a X.env.scope :: trs m X.N as X.env.scope).isEmpty && m.dfl.contains (x, (tr m X.N a X.env.scope :: trs m X.N as X.env.scope).length + 1)) = true
      · rw [if_pos hd]
        obtain ⟨d1, d2⟩ := hb2 _ (by rw [Bool.and_eq_true] at hd; exact hd.2)
        exact simCallD F S.room g1 e1 e2 d2 S.tk hst g2 d1 hr
      · rw [if_neg hd]
        exact simCall F S.room g1 e1 e2 hb S.tk hst g2 (hr _)
  rw [if_neg h1]
  by_cases hc : m.clss.contains x = true
  · rw [if_pos hc]
    cases args with
    | nil => exact .bad
    | cons a as =>
      rw [if_neg (by simp)]
      refine .val ?_ (fun i z => nomatch z) fun _ => rfl
      have hr := fun ks => rowA B S ha hst ks
      rw [trs] at hr ⊢
      exact simMk S hg hc hst hr
  rw [if_neg hc]
  by_cases h2 : m.blts.contains x = true
  case neg => rw [if_neg h2]; exact .bad
  rw [if_pos h2]
  have hm := S.blt x h2
  by_cases h3 : x = "isinstance"
  · rw [if_pos h3]
    subst h3
    match args, ha, hst with
    | [], _, _ => exact .bad
    | [a], _, _ => exact .bad
    | a :: c :: d :: r, _, _ => cases c <;> exact .bad
    | [a, c], ha, hst =>
      cases c with
      | Name t p2 =>
        rw [trs, trs, trs]
        unfold isiCall
        dsimp only
        by_cases h1 : (isGl X.env.scope t && m.blts.contains t) = true
        case neg => rw [if_neg h1]; exact .bad
        rw [if_pos h1]
        simp only [Bool.and_eq_true] at h1
        cases ht : tyOf t with
        | none => exact .bad
        | some ty => exact .val (simIsi S hg hm h1.1 (S.blt t h1.2) ht (List.all_eq_true.mp hst a List.mem_cons_self) (B a (by simp only [List.cons.sizeOf_spec] at ha; omega) X W S).ro) (fun i z => nomatch z) fun _ => rfl
      | _ => exact .bad
  rw [if_neg h3]
  cases hb : biOf x with
  | none => exact .bad
  | some b =>
    show Three X T XR W _ (dicOf x _ _ _)
    rcases dicOf_cases x (trZ1 m X.N args X.env.scope) (dprsOf (trs m X.N args X.env.scope)) (rgsOf x (trI1 m X.N args X.env.scope) (trQ1 m X.N args X.env.scope) (.bi b (trs m X.N args X.env.scope))) with h | ⟨rfl, h⟩ | ⟨es, rfl, hz, h⟩
    · rw [h]
      rcases rgsOf_cases x (trI1 m X.N args X.env.scope) (trQ1 m X.N args X.env.scope) (Ex.bi b (trs m X.N args X.env.scope)) with h | ⟨w, t, h4, h5, h6⟩ | ⟨w, h4, h5, h6⟩ | ⟨w, h4, h5, h6⟩
      · rw [h]
        exact .val (simBi S hg hm hb hst (rowO B S ha hst) (trs_len _)) (fun i z => nomatch z) fun _ => rfl
      · rw [h6]
        obtain ⟨e, rfl, hr⟩ := one_of1 (N := X.N) (g := trI m X.N false) (g1 := trI1 m X.N) (z := _) (by intro z; cases z) (fun es hes => by unfold trI1; split; exact absurd rfl (hes _); rfl) (fun e => by rw [trI1]) h4
        obtain ⟨p2, a, pos2, rfl, q1, q2, q3, rfl⟩ := trI_rng1 hr
        exact .val (simRgs S h5 hg hm q1 (S.blt _ q2) q3 (B a (by simp only [List.cons.sizeOf_spec, Expr.Call.sizeOf_spec] at ha; omega) X W S).ro) (fun i z => nomatch z) fun _ => rfl
      · rw [h6]
        obtain ⟨e, rfl, hr⟩ := one_of1 (N := X.N) (g := trQ m X.N) (g1 := trQ1 m X.N) (z := _) (by intro z; cases z) (fun es hes => by unfold trQ1; split; exact absurd rfl (hes _); rfl) (fun e => by rw [trQ1]) h4
        subst h5
        obtain ⟨x2, p2, q2, a', rfl, q3, q4, rfl⟩ := trQ_sset hr
        exact .val (simSset S hg hm q3 q4 (B a' (by simp only [List.cons.sizeOf_spec, Expr.Call.sizeOf_spec] at ha; omega) X W S).ro) (fun i z => nomatch z) fun _ => rfl
      · rw [h6]
        obtain ⟨e, rfl, hr⟩ := one_of1 (N := X.N) (g := trQ m X.N) (g1 := trQ1 m X.N) (z := _) (by intro z; cases z) (fun es hes => by unfold trQ1; split; exact absurd rfl (hes _); rfl) (fun e => by rw [trQ1]) h4
        subst h5
        obtain ⟨x2, p2, apos, cpos, rfl, q3, q4⟩ := trQ_sit hr
        exact .val (simSit S hg hm rfl q4 (pe_slot q3)) (fun i z => nomatch z) fun _ => rfl
    · rw [h]
      match args, ha, hst with
      | [a], ha, hst =>
        rw [trs, trs]
        have hs : notStar a = true := List.all_eq_true.mp hst a List.mem_cons_self
        exact .val (simDprs S hg hm hs (B a (by simp only [List.cons.sizeOf_spec] at ha; omega) X W S).ro) (fun i z => nomatch z) fun _ => rfl
      | [], _, _ => exact .bad
      | a :: b :: r, _, _ => rw [trs, trs]; exact .bad
    · rw [h]
      obtain ⟨e, rfl, hr⟩ := one_of1 (N := X.N) (g := trZ m X.N) (g1 := trZ1 m X.N) (z := _) (by intro z; cases z) (fun es hes => by unfold trZ1; split; exact absurd rfl (hes _); rfl) (fun e => by rw [trZ1]) hz
      obtain ⟨p2, q2, a', b', rfl, q3, q4, q5, q6, rfl⟩ := trZ_dzip hr
      have sz : sizeOf [a', b'] ≤ k := by simp only [List.cons.sizeOf_spec, Expr.Call.sizeOf_spec, List.nil.sizeOf_spec] at ha ⊢; omega
      have hrow := rowO B S sz (by simp [q5, q6])
      rw [trs, trs, trs] at hrow
      exact .val (simDzip S hg hm q3 (S.blt _ q4) q5 q6 hrow) (fun i z => nomatch z) fun _ => rfl
theorem masterAttr (B : Below m T XR n k) (S : SX m T XR n W X) (o : Expr) (meth : Str) (ap : Pos) (args : List Expr) (pos : Pos) (ho : sizeOf o < k) (ha : sizeOf args ≤ k) :
    Three X T XR W (.Call (.Attribute o meth ap) args [] pos) (attrCall m X.N X.env.scope o meth ap pos args (trs m X.N args X.env.scope) (tr m X.N o X.env.scope)) := by
  have O := B o ho X W S
  unfold attrCall
  by_cases hl : (ap.endLine == pos.line) = true
  case neg => rw [if_neg hl]; exact .bad
  rw [if_pos hl]
  by_cases h1 : (m.mths.contains meth && plainObj o && args.all notStar && decide (args.length < 30)) = true
  · rw [if_pos h1]
    simp only [Bool.and_eq_true, decide_eq_true_eq] at h1
    obtain ⟨⟨⟨_, hp⟩, hst⟩, hn⟩ := h1
    refine .val ?_ (fun i z => nomatch z) fun _ => rfl
    cases args with
    | nil => rw [trs]; exact simOwn0 S hp hl O.ro
    | cons a as => exact simOwn S hp hst hn hl O.ro fun ks => rowA B S ha hst ks
  rw [if_neg h1]
  by_cases h2 : meth = "get"
  · rw [if_pos h2]
    subst h2
    match args, ha with
    | [], _ => exact .bad
    | [a], ha =>
      rw [trs, trs]
      unfold getCall
      dsimp only
      by_cases hs : notStar a = true
      case neg => rw [if_neg hs]; exact .bad
      rw [if_pos hs]
      unfold tgOf
      split
      · rename_i x hx
        rw [if_pos rfl]
        exact .val (simTget S hx hs hl (B a (by simp only [List.cons.sizeOf_spec] at ha; omega) X W S).ro) (fun i z => nomatch z) fun _ => rfl
      · exact .bad
    | a :: c :: d :: r, _ =>
      cases c with
      | Tuple es _ _ => cases es <;> exact .bad
      | _ => exact .bad
    | [a, c], ha =>
      cases c with
      | Tuple es kk tp =>
        cases es with
        | nil =>
          rw [trs, trs, trs]
          unfold getCall
          dsimp only
          by_cases hs : notStar a = true
          case neg => rw [if_neg hs]; exact .bad
          rw [if_pos hs]
          unfold tgOf
          split
          · rename_i x hx
            rw [if_neg Bool.false_ne_true]
            exact .val (simTgetE S hx hs hl (B a (by simp only [List.cons.sizeOf_spec] at ha; omega) X W S).ro) (fun i z => nomatch z) fun _ => rfl
          · exact .bad
        | cons _ _ => exact .bad
      | _ => exact .bad
  rw [if_neg h2]
  by_cases h3 : meth = "pop"
  · rw [if_pos h3]
    subst h3
    unfold popSlot
    split
    · rename_i y p
      cases hs : slotV X.N X.env.scope y with
      | none => exact .bad
      | some i =>
        match args, ha with
        | [], _ => exact .val (simPop S hs hl (.inl ⟨rfl, rfl⟩)) (fun i z => nomatch z) fun _ => rfl
        | [a], ha =>
          rw [trs, trs]
          show Three X T XR W _ (if notStar a = true then _ else _)
          by_cases hst : notStar a = true
          · rw [if_pos hst]
            exact .val (simPop S hs hl (.inr ⟨a, rfl, hst, nn_ne _, ((B a (by simp only [List.cons.sizeOf_spec] at ha; omega) X W S).nn).ro⟩)) (fun i z => nomatch z) fun _ => rfl
          · rw [if_neg hst]; exact .bad
        | a :: b :: r, _ => rw [trs, trs]; exact .bad
    · exact .bad
  rw [if_neg h3]
  match args, ha with
  | [a], ha =>
    rw [trs, trs]
    refine masterMe B S (fun h => ?_) O.ro (by simp only [List.cons.sizeOf_spec] at ha; omega)
    rw [Bool.and_eq_true] at h
    exact ⟨recv_base h.1, h.2, hl⟩
  | [], _ => exact .bad
  | a :: b :: r, _ => rw [trs, trs]; exact .bad
theorem masterCall (B : Below m T XR n k) (S : SX m T XR n W X) (f : Expr) (args : List Expr) (kws : List Keyword) (pos : Pos) (hf' : sizeOf f ≤ k) (ha : sizeOf args ≤ k) : Three X T XR W (.Call f args kws pos) (tr m X.N (.Call f args kws pos) X.env.scope) := by
  rw [tr]
  unfold callPick
  split
  · split
    · exact masterName B S _ _ args pos ha
    · rename_i o meth ap
      rw [trR]
      exact masterAttr B S o meth ap args pos (by simp only [Expr.Attribute.sizeOf_spec] at hf'; omega) ha
    · exact .bad
  · unfold revCall
    match args, ha with
    | [], _ => cases f <;> exact .bad
    | a :: b :: r, _ => cases f <;> exact .bad
    | [a], ha =>
      cases f with
      | Name x p =>
        rw [trs, trs]
        dsimp only
        split
        · rename_i h0
          simp only [Bool.and_eq_true, decide_eq_true_eq] at h0
          obtain ⟨⟨⟨⟨h1, h2⟩, h3⟩, rfl⟩, rfl⟩ := h0
          exact .val (simSortedR S h1 (S.blt _ h3) h2 (B a (by simp only [List.cons.sizeOf_spec] at ha; omega) X W S).ro) (fun i z => nomatch z) fun _ => rfl
        · exact .bad
      | _ => exact .bad
  · exact .bad
theorem itOf_itr {x y : Ex} (h : x = .bad) : itOf x y = .itr y := by subst h; rfl
theorem masterI (B : Below m T XR n k) (S : SX m T XR n W X) (tg e : Expr) (he : sizeOf e < k) : PI X tg e (RdI X.K XR W T (itOf (trI m X.N (tupT tg) e X.env.scope) (tr m X.N e X.env.scope))) := by
  have dflt : trI m X.N (tupT tg) e X.env.scope = .bad → PI X tg e (RdI X.K XR W T (itOf (trI m X.N (tupT tg) e X.env.scope) (tr m X.N e X.env.scope))) := fun h => by
    rw [itOf_itr h]
    exact simItr (B e he X W S).ro
  by_cases hc : ∃ x p args pos, e = .Call (.Name x p) args [] pos
  case neg =>
    refine dflt ?_
    cases e with
    | Call f args kws pos =>
      cases f with
      | Name x p =>
        cases kws with
        | nil => exact absurd ⟨x, p, args, pos, rfl⟩ hc
        | cons _ _ => unfold trI; split <;> first | rfl | (rename_i h; cases h)
      | _ => unfold trI; rfl
    | _ => unfold trI; rfl
  obtain ⟨x, p, args, pos, rfl⟩ := hc
  match args, he, dflt with
  | [], _, dflt => exact dflt (by rw [trI]; all_goals simp)
  | [a], he, dflt =>
    have ha : sizeOf a < k := by simp only [Expr.Call.sizeOf_spec, List.cons.sizeOf_spec] at he; omega
    by_cases h1 : (isGl X.env.scope x && m.blts.contains x && notStar a) = true
    case neg => exact dflt (by rw [trI, if_neg h1])
    by_cases h2 : x = "range"
    case neg =>
      by_cases h3 : x = "reversed"
      · rw [trI, if_pos h1, if_neg h2, if_pos h3]
        simp only [Bool.and_eq_true] at h1
        subst h3
        exact simRev (isGl_gl h1.1.1).1 (S.blt _ h1.1.2) h1.2 (B a ha X W S).ro
      · by_cases h4 : x = "enumerate" ∧ tupT tg = true
        · rw [trI, if_pos h1, if_neg h2, if_neg h3, if_pos h4]
          simp only [Bool.and_eq_true] at h1
          obtain ⟨rfl, h4⟩ := h4
          cases tg with
          | Tuple es k q => exact simEnum (isGl_gl h1.1.1).1 (S.blt _ h1.1.2) h1.2 (B a ha X W S).ro
          | _ => cases h4
        · exact dflt (by rw [trI, if_pos h1, if_neg h2, if_neg h3, if_neg h4])
    rw [trI, if_pos h1, if_pos h2]
    simp only [Bool.and_eq_true] at h1
    subst h2
    exact simRng1 (isGl_gl h1.1.1).1 (S.blt _ h1.1.2) h1.2 (B a ha X W S).ro
  | [a, b], he, dflt =>
    have ha : sizeOf a < k ∧ sizeOf b < k := by simp only [Expr.Call.sizeOf_spec, List.cons.sizeOf_spec] at he; omega
    by_cases h1 : (isGl X.env.scope x && m.blts.contains x && notStar a && notStar b) = true
    case neg => exact dflt (by rw [trI, if_neg h1])
    by_cases h2 : x = "range"
    case neg =>
      by_cases h4 : x = "zip" ∧ tupT tg = true
      · rw [trI, if_pos h1, if_neg h2, if_pos h4]
        simp only [Bool.and_eq_true] at h1
        obtain ⟨rfl, h4⟩ := h4
        cases tg with
        | Tuple es k q => exact simZip (isGl_gl h1.1.1.1).1 (S.blt _ h1.1.1.2) h1.1.2 h1.2 (B a ha.1 X W S).ro (B b ha.2 X W S).ro
        | _ => cases h4
      · exact dflt (by rw [trI, if_pos h1, if_neg h2, if_neg h4])
    rw [trI, if_pos h1, if_pos h2]
    simp only [Bool.and_eq_true] at h1
    subst h2
    exact simRng2 (isGl_gl h1.1.1.1).1 (S.blt _ h1.1.1.2) h1.1.2 h1.2 (B a ha.1 X W S).ro (B b ha.2 X W S).ro
  | _ :: _ :: _ :: _, _, dflt => exact dflt (by rw [trI]; all_goals simp)
theorem condD_eq {f : Env → Rv} {e : Ex} {ρ : Env} (h : e ≠ .nil) : condD f e ρ = testD f e ρ := by
  unfold condD
  split
  · exact absurd rfl h
  · rfl
structure Comp2 (X : Cx) (T : Tb) (XR : XRel) (W : L2.WX) (e : Expr) (x : Ex) : Prop where
  three : Three X T XR W e x
  asg : ∀ (i : Nat) (y : Str) (py spos : Pos), X.N[i]? = some y → X.env.scope.names.lookup y = some .local → swapsWith e (some (.Name y py)) spos.line X.env = pure true → PS X (.Assign [.Name y py] e spos) (tAsg (RdV X.K XR W T x) (gName i))
theorem Comp2.bad {e : Expr} : Comp2 X T XR W e .bad := ⟨.bad, fun _ _ _ _ _ _ _ => ps_absurd fun _ _ _ w => Rg.bad w⟩
theorem masterComp (B : Below m T XR n k) (S : SX m T XR n W X) (elt : Expr) (gs : List Comprehension) (scope : Scope) (pos : Pos) (h1 : sizeOf elt < k) (h2 : sizeOf gs ≤ k) : Comp2 X T XR W (.ListComp elt gs scope pos) (tr m X.N (.ListComp elt gs scope pos) X.env.scope) := by
  by_cases hg : ∃ tg iter ifs, gs = [⟨tg, iter, ifs, 0⟩]
  case neg => rw [tr.eq_23 _ _ _ _ _ _ _ fun a b c z => hg ⟨a, b, c, z⟩]; exact .bad
  obtain ⟨tg, iter, ifs, rfl⟩ := hg
  rw [tr]
  by_cases hs : isSet iter = true
  · rw [if_pos hs]; exact .bad
  rw [if_neg hs]
  have hs' : isSet iter = false := by simpa using hs
  dsimp only
  by_cases hb : blkC X.N X.env.scope scope (ownOf X.N scope) = true
  case neg => rw [if_neg hb]; exact .bad
  rw [if_pos hb]
  have ok := blkOk_by hb
  cases ht : trT X.N (relS scope X.env.scope) tg with
  | none => exact .bad
  | some q =>
  obtain ⟨is, one⟩ := q
  dsimp only
  by_cases hi : (is.all fun i => ((ownOf X.N scope).map fun x => x.snd).contains i) = true
  case neg => rw [if_neg hi]; exact .bad
  rw [if_pos hi]
  have hin : ∀ i ∈ is, i ∈ (ownOf X.N scope).map (·.2) := fun i mi => by
    have := List.all_eq_true.mp hi i mi
    simpa using this
  have szi : sizeOf iter < k ∧ sizeOf ifs < k := by
    simp only [List.cons.sizeOf_spec, Comprehension.mk.sizeOf_spec] at h2
    omega
  have I := B iter szi.1 X W S
  have pi : PI X tg iter (RdI X.K XR W T (itOf (trI m X.N (tupT tg) iter X.env.scope) (tr m X.N iter X.env.scope))) := masterI B S tg iter szi.1
  have fnon : ∀ (s : Shared) (H : Hp) (C : Addr) (cl : List (Str × Addr)) (fp : List Addr), FnOn (X.blk s H scope (compEnvC scope cl C X.env) fp) is := by
    intro s H C cl fp i mi x hx
    obtain ⟨y, my, e⟩ := List.mem_map.mp (hin i mi)
    subst e
    unfold ownOf at my
    obtain ⟨z, mz, e⟩ := List.mem_filterMap.mp my
    have ex : X.N[y.2]? = some y.1 := ok.ix y my
    have hx' : X.N[y.2]? = some x := hx
    rw [ex] at hx'
    obtain rfl := Option.some.inj hx'
    have hu := ok.uniq z mz
    cases hz : z.2 with
    | «local» =>
      rw [hz] at e hu
      obtain ⟨j, _, ej⟩ := Option.map_eq_some_iff.mp e
      cases ej
      right
      exact lookup_relabel_local hu
    | cell =>
      rw [hz] at e hu
      obtain ⟨j, _, ej⟩ := Option.map_eq_some_iff.mp e
      cases ej
      left
      show (scope.names.lookup z.1 == some .cell) = true
      rw [hu]; rfl
    | _ => rw [hz] at e; cases e
  have he : ∀ (s : Shared) (H : Hp) (C : Addr) (cl : List (Str × Addr)) (fp : List Addr), PE (X.blk s H scope (compEnvC scope cl C X.env) fp) elt (RdV X.K XR noW T (tr m X.N elt (relS scope X.env.scope))) := fun s H C cl fp =>
    (B elt h1 _ noW (S.blk s H scope (compEnvC scope cl C X.env) fp)).v
  have hgT : ∀ (s : Shared) (H : Hp) (C : Addr) (cl : List (Str × Addr)) (fp : List Addr), PG (X.blk s H scope (compEnvC scope cl C X.env) fp) tg (rT X.K is one) := fun s H C cl fp =>
    simT (X := X.blk s H scope (compEnvC scope cl C X.env) fp) S.calm S.nd ht (fnon s H C cl fp)
  match ifs, szi with
  | [], _ =>
    have hts : ∀ (s : Shared) (H : Hp) (C : Addr) (cl : List (Str × Addr)) (fp : List Addr), PTs (X.blk s H scope (compEnvC scope cl C X.env) fp) [] (RdC X.K XR noW T .nil) := fun s H C cl fp => ⟨fun pins s' σ H' Q I w => pts_nil.run pins s' σ H' Q I (by
      obtain ⟨F, M, ρ, er, y⟩ := w
      exact y.ok (a := true) (ρ1 := ρ) rfl true M H' (.refl er.mt) er rfl)⟩
    exact ⟨.val (simComp S.calm S.nd pi ok hgT hts he hin (folded_no hs')) (fun i z => nomatch z) fun _ => rfl, fun i y py spos h1 h2 h3 => simSetComp S.calm S.nd pi ok hgT hts he hin (folded_no hs') h1 h2 h3⟩
  | [c], szi =>
    have hts : ∀ (s : Shared) (H : Hp) (C : Addr) (cl : List (Str × Addr)) (fp : List Addr), PTs (X.blk s H scope (compEnvC scope cl C X.env) fp) [c] (RdC X.K XR noW T (nn (tr m X.N c (relS scope X.env.scope)))) := fun s H C cl fp => by
      have Cc := (B c (by have := szi.2; simp only [List.cons.sizeOf_spec] at this; omega) _ noW (S.blk s H scope (compEnvC scope cl C X.env) fp)).nn.t
      exact ⟨fun pins s' σ H' Q I w => (pts_one Cc).run pins s' σ H' Q I (Rg.cong (fun ρ => condD_eq (nn_ne _)) w)⟩
    exact ⟨.val (simComp S.calm S.nd pi ok hgT hts he hin (folded_no hs')) (fun i z => nomatch z) fun _ => rfl, fun i y py spos h1 h2 h3 => simSetComp S.calm S.nd pi ok hgT hts he hin (folded_no hs') h1 h2 h3⟩
  | _ :: _ :: _, _ => exact .bad
theorem pt_ifExp {c a b : Expr} {tc ta tb : TT} {pos : Pos} (hc : PT X c tc) (ha : PT X a ta) (hb : PT X b tb) : PT X (.IfExp c a b pos) (fun σ H Q => tc σ H fun k H1 => if k = true then ta σ H1 Q else tb σ H1 Q) := by
  refine ⟨fun pins s σ H Q I h => ?_⟩
  show wpAny _ _ (do if ← isTrue c X.env (eval c X.env) then isTrue a X.env (eval a X.env) else isTrue b X.env (eval b X.env)) _ _ _
  refine wpAny_bind (wpAny_mono (hc.run pins s σ H _ I h) (fun k s1 ⟨H1, I1, q1⟩ => ?_) fun _ _ x => x)
  cases k with
  | true => exact ha.run pins s1 σ H1 Q I1 q1
  | false => exact hb.run pins s1 σ H1 Q I1 q1
def blOf (p : (Bool × D) × Env) : Res (Bool × Env) := match p.1.2 with
    | .bl b => .ok (b, p.2)
    | _ => .no
theorem br_i {K : PySem.W.Frag} {x : Ex} {F : Fx} {M : Ad} {H : Hp} {σ : L2.St} {ρ : Env} {Q : Bool → Hp → Prop} (er : EnvR K F M H σ ρ) (y : At K XR W (fun ρ => evalV T x ρ >>= blOf) RB F M H σ ρ Q) : At K XR W (testD (evalV T x) x) RB F M H σ ρ Q := by
  by_cases hx : ∃ i, x = .var i
  case neg => exact At.cong (testD_v (fun i z => hx ⟨i, z⟩) _ ρ).symm y
  obtain ⟨i, rfl⟩ := hx
  refine At.cong ?_ y
  have no := y.no
  revert no
  show ((evalV T (.var i) ρ >>= blOf) = .no → False) → (evalV T (.var i) ρ >>= blOf) = testD (evalV T (.var i)) (.var i) ρ
  rw [evalV]
  have tv : ∀ d, getOp ρ (.s i) = some d → testD (evalV T (.var i)) (.var i) ρ = (match some d with | some (.bl b) => .ok (b, ρ) | _ => .no) := fun d g => by
    have hv : hasV ρ i = true := by unfold hasV; rw [g]; rfl
    have o : opd (evalV T (.var i)) (.var i) ρ = .ok (.s i, ρ) := by
      show (if hasV ρ i = true then _ else _) = _
      rw [if_pos hv]
    unfold testD
    rw [o, bind_ok]
    dsimp only
    rw [g] <;> rfl
  cases es : ρ[i]? with
  | none => intro no; exact (no (by unfold varD; rw [es]; rfl)).elim
  | some s =>
    cases s with
    | fr d =>
      intro no
      rw [tv d (by unfold getOp; dsimp only; rw [es]; rfl)]
      have : varD i ρ = .ok ((false, d), ρ) := by unfold varD; rw [es]
      rw [this]
      cases d <;> rfl
    | ow d =>
      intro no
      obtain ⟨a, _, _, _, c⟩ := er.sl i _ es
      have : varD i ρ = .ok ((false, d), ρ.set i (.fr d)) := by unfold varD; rw [es]
      rw [this] at no ⊢
      cases d with
      | bl b => cases c
      | _ => exact (no rfl).elim
    | _ => intro no; exact (no (by unfold varD; rw [es]; rfl)).elim
theorem iteT_i {K : PySem.W.Frag} {c x y : Ex} {σ : L2.St} {H : Hp} {Q : Bool → Hp → Prop} (h : RdT K XR W T (.ite c x y) σ H Q) : RdT K XR W T c σ H fun k H1 => if k = true then RdT K XR W T x σ H1 Q else RdT K XR W T y σ H1 Q := by
  refine Rg.bind (γ := Bool) (δ := Bool) (R := RB) (Q := Q) (h := fun (a : Bool) ρ1 => if a = true then evalV T x ρ1 >>= blOf else evalV T y ρ1 >>= blOf) (Rg.cong (fun ρ => ?_) h) fun F M a b H1 ρ1 er rr k => ?_
  · rw [testD_v (x := Ex.ite c x y) (fun i z => nomatch z), evalV]
    cases testD (evalV T c) c ρ with
    | ok p => obtain ⟨k, ρ1⟩ := p; cases k <;> rfl
    | ex z ρ1 => rfl
    | no => rfl
  · have : a = b := rr
    subst this
    cases a with
    | true => exact ⟨F, M, ρ1, er, br_i er (At.cong rfl k)⟩
    | false => exact ⟨F, M, ρ1, er, br_i er (At.cong rfl k)⟩
theorem master (m : Ms) (T : Tb) (XR : XRel) (n : Nat) : ∀ k, Below m T XR n k
  | 0 => fun e h => absurd h (Nat.not_lt_zero _)
  | k + 1 => fun e h X W S => by
    have B := master m T XR n k
    cases e with
    | BoolOp op vs pos => exact masterBool B S op vs pos (by simp only [Expr.BoolOp.sizeOf_spec] at h; omega)
    | Compare a ops cs pos => exact masterCmp B S a ops cs pos (by simp only [Expr.Compare.sizeOf_spec] at h; omega) (by simp only [Expr.Compare.sizeOf_spec] at h; omega)
    | Subscript a b pos => exact masterSub B S a b pos (by simp only [Expr.Subscript.sizeOf_spec] at h; omega) (by simp only [Expr.Subscript.sizeOf_spec] at h; omega)
    | Call f args kws pos => exact masterCall B S f args kws pos (by simp only [Expr.Call.sizeOf_spec] at h; omega) (by simp only [Expr.Call.sizeOf_spec] at h; omega)
    | ListComp elt gs scope pos => exact (masterComp B S elt gs scope pos (by simp only [Expr.ListComp.sizeOf_spec] at h; omega) (by simp only [Expr.ListComp.sizeOf_spec] at h; omega)).three
    | Name x p =>
      rw [tr]
      cases hs : slotV X.N X.env.scope x with
      | some i =>
        dsimp only
        by_cases hk : m.lk X.N x = true
        · rw [if_pos hk]
          exact .val (simLkv (pe_slot hs)) (fun i z => nomatch z) fun _ => rfl
        rw [if_neg hk]
        exact .var (pe_slot hs)
      | none =>
        dsimp only
        by_cases hc : (isGl X.env.scope x && m.csts.contains x) = true
        case neg => rw [if_neg hc]; exact .bad
        rw [if_pos hc]
        simp only [Bool.and_eq_true] at hc
        cases hd : T.cst x with
        | none =>
          refine ⟨pe_absurd fun σ H Q ⟨F, M, ρ, er, y⟩ => y.no ?_, pt_absurd fun σ H Q ⟨F, M, ρ, er, y⟩ => y.no ?_, fun i z => nomatch z⟩
          · rw [evalV, hd]
          · rw [testD_v (x := Ex.cst x) (fun i z => nomatch z), evalV, hd]; rfl
        | some d =>
          obtain ⟨v, u, e1, e2, r⟩ := S.cst x hc.2 d hd
          exact .cst (pe_glob (isGl_gl hc.1).1 e1 e2 (isGl_gl hc.1).2.1) (fun ρ => by rw [evalV, hd]) r (fun i z => nomatch z) fun _ => rfl
    | Constant c j pos =>
      cases c with
      | none => rw [tr]; exact .cst pe_non (fun ρ => by rw [evalV]) (fun _ _ => .non) (fun i z => nomatch z) fun _ => rfl
      | bool b => rw [tr]; exact .cst pe_bl (fun ρ => by rw [evalV]) (fun _ _ => .bl b) (fun i z => nomatch z) fun _ => rfl
      | int b => rw [tr]; exact .cst pe_int (fun ρ => by rw [evalV]) (fun _ _ => .int b) (fun i z => nomatch z) fun _ => rfl
      | str b => rw [tr]; exact .cst pe_str (fun ρ => by rw [evalV]) (fun _ _ => .str b) (fun i z => nomatch z) fun _ => rfl
      | _ => unfold tr; exact .bad
    | Dict ks es pos =>
      rw [tr]
      cases hk : keysOf ks with
      | none => exact .bad
      | some xs =>
        dsimp only
        by_cases he : (m.emp X.N && decide (xs = []) && es.isEmpty) = true
        · rw [if_pos he]
          simp only [Bool.and_eq_true, decide_eq_true_eq, List.isEmpty_iff] at he
          obtain ⟨⟨_, rfl⟩, rfl⟩ := he
          obtain ⟨a1, a2⟩ := keys_some hk
          have e2 : ks = [] := List.eq_nil_of_length_eq_zero (by first | exact a2 | exact a2.symm)
          subst e2
          exact .val simDictT (fun i z => nomatch z) fun _ => rfl
        rw [if_neg he]
        by_cases hs : (decide (xs.length = es.length) && decide (xs.length ≤ 15)) = true
        case neg => rw [if_neg hs]; exact .bad
        rw [if_pos hs]
        simp only [Bool.and_eq_true, decide_eq_true_eq] at hs
        obtain ⟨h1, h2⟩ := hs
        obtain ⟨a1, a2⟩ := keys_some hk
        by_cases h3 : xs = []
        · subst h3
          have e1 : es = [] := List.eq_nil_of_length_eq_zero h1.symm
          have e2 : ks = [] := List.eq_nil_of_length_eq_zero (by first | exact a2 | exact a2.symm)
          subst e1 e2
          exact .val simDict0 (fun i z => nomatch z) fun _ => rfl
        have hsz : sizeOf es ≤ k := by simp only [Expr.Dict.sizeOf_spec] at h; omega
        have pr : Paired (fun e x => PE X e (RdV X.K XR W T x)) es (trs m X.N es X.env.scope) := trs_paired fun e me => (B e (by have := mem_lt me; omega) X W S).v
        refine .val (pe_imp (pe_disp (simPps hk pr h1) a1 (by omega) (fun z => by rw [z] at a2; exact h3 (List.eq_nil_of_length_eq_zero (by first | exact a2 | exact a2.symm))) (by omega)) fun _ _ _ w => dct_i (by rw [trs_len]; exact h1) w) (fun i z => nomatch z) fun _ => rfl
    | Tuple es j pos =>
      rw [tr]
      by_cases hs : (es.all notStar && decide (es.length ≤ 1000)) = true
      case neg => rw [if_neg hs]; exact .bad
      rw [if_pos hs]
      simp only [Bool.and_eq_true, decide_eq_true_eq] at hs
      exact .val (simTup (by rw [trs_len]; exact hs.2) (rowV B S (by simp only [Expr.Tuple.sizeOf_spec] at h; omega) hs.1)) (fun i z => nomatch z) fun _ => rfl
    | List es pos =>
      rw [tr]
      by_cases hs : (es.all notStar && decide (es.length ≤ 1000)) = true
      case neg => rw [if_neg hs]; exact .bad
      rw [if_pos hs]
      simp only [Bool.and_eq_true, decide_eq_true_eq] at hs
      exact .val (simLst (by rw [trs_len]; exact hs.2) (rowV B S (by simp only [Expr.List.sizeOf_spec] at h; omega) hs.1)) (fun i z => nomatch z) fun _ => rfl
    | BinOp a op b pos =>
      rw [tr]
      have A := B a (by simp only [Expr.BinOp.sizeOf_spec] at h; omega) X W S
      have Bb := B b (by simp only [Expr.BinOp.sizeOf_spec] at h; omega) X W S
      exact .val (pe_imp (pe_op (op_bin op) A.ro Bb.ro) (imp2 (f := binD op) (fun _ _ _ _ h _ => h) (fun ρ => by rw [evalV]))) (fun i z => nomatch z) fun _ => rfl
    | Attribute a f pos =>
      rw [tr]
      by_cases hp : plainRecv a = true
      case neg => rw [if_neg hp]; exact .bad
      rw [if_pos hp]
      exact .val (simFld S hp (recv_base hp) (B a (by simp only [Expr.Attribute.sizeOf_spec] at h; omega) X W S).ro) (fun i z => nomatch z) fun _ => rfl
    | UnaryOp op a pos =>
      have A := B a (by simp only [Expr.UnaryOp.sizeOf_spec] at h; omega) X W S
      cases op with
      | Not => rw [tr]; exact ⟨pe_imp (pe_not A.ro) fun _ _ _ w => not_i w, pt_imp (pt_not A.t) fun _ _ _ w => notT_i w, fun i z => nomatch z⟩
      | USub => rw [tr]; exact .val (sim1 (fun _ _ _ h => h) (pe_un un_neg0 A.ro) (fun ρ => by rw [evalV])) (fun i z => nomatch z) fun _ => rfl
      | _ => unfold tr; exact .bad
    | IfExp c a b pos =>
      rw [tr]
      have C := B c (by simp only [Expr.IfExp.sizeOf_spec] at h; omega) X W S
      have A := B a (by simp only [Expr.IfExp.sizeOf_spec] at h; omega) X W S
      have Bb := B b (by simp only [Expr.IfExp.sizeOf_spec] at h; omega) X W S
      refine ⟨pe_imp (pe_ifExp C.t A.v Bb.v) fun _ _ _ w => ite_i w, ?_, fun i z => nomatch z⟩
      exact pt_imp (pt_ifExp C.t A.t Bb.t) fun _ _ _ w => iteT_i w
    | _ => unfold tr; exact .bad
end
end Pd
set_option Elab.async false
set_option linter.all false
/-! Pd15: statements: what a body's steps give. -/
namespace Pd
open PySem PySem.Spec PyProof.Rows L2
/-- from one place on: what f gives is where the code ends -/
def AtS (K : PySem.W.Frag) (XR : XRel) (W : L2.WX) (f : Env → Res Fl) (F : Fx) (M : Ad) (H : Hp) (σ : L2.St) (ρ : Env) (E : Ends) : Prop :=
  match f ρ with
  | .ok (.nx ρ') => ∀ σ' M' H', Ev F.k M H M' H' → EnvR K F M' H' σ' ρ' → σ'.length = σ.length → E.nx σ' H'
  | .ok (.bk ρ') => ∀ σ' M' H', Ev F.k M H M' H' → EnvR K F M' H' σ' ρ' → σ'.length = σ.length → E.bk σ' H'
  | .ok (.ct ρ') => ∀ σ' M' H', Ev F.k M H M' H' → EnvR K F M' H' σ' ρ' → σ'.length = σ.length → E.ct σ' H'
  | .ok (.rt own d ρ') => ∀ v σ' M' H', Ev F.k M H M' H' → EnvR K F M' H' σ' ρ' → σ'.length = σ.length → RvR K F M' H' σ' ρ' own v d → E.rt v H'
  | .ex x ρ' => ∀ c da σ' M' H', Ev F.k M H M' H' → EnvR K F M' H' σ' ρ' → σ'.length = σ.length → XR M' H' x c da → W c da σ' H'
  | .no => False
def RgS (K : PySem.W.Frag) (XR : XRel) (W : L2.WX) (f : Env → Res Fl) : TS := fun E σ H => ∃ F M ρ, EnvR K F M H σ ρ ∧ AtS K XR W f F M H σ ρ E
section
variable {K : PySem.W.Frag} {XR : XRel} {W : L2.WX} {α β : Type} {F : Fx} {M : Ad} {H : Hp} {σ : L2.St} {ρ : Env} {E : Ends}
theorem AtS.nx {f : Env → Res Fl} {ρ1 : Env} (x : AtS K XR W f F M H σ ρ E) (e : f ρ = .ok (.nx ρ1)) : ∀ σ' M' H', Ev F.k M H M' H' → EnvR K F M' H' σ' ρ1 → σ'.length = σ.length → E.nx σ' H' := by
  unfold AtS at x; rw [e] at x; exact x
theorem AtS.rt {f : Env → Res Fl} {ρ1 : Env} {own : Bool} {d : D} (x : AtS K XR W f F M H σ ρ E) (e : f ρ = .ok (.rt own d ρ1)) : ∀ v σ' M' H', Ev F.k M H M' H' → EnvR K F M' H' σ' ρ1 → σ'.length = σ.length → RvR K F M' H' σ' ρ1 own v d → E.rt v H' := by
  unfold AtS at x; rw [e] at x; exact x
theorem AtS.no {f : Env → Res Fl} (x : AtS K XR W f F M H σ ρ E) (e : f ρ = .no) : False := by
  unfold AtS at x; rw [e] at x; exact x
theorem AtS.cong {f g : Env → Res Fl} (e : f ρ = g ρ) (x : AtS K XR W f F M H σ ρ E) : AtS K XR W g F M H σ ρ E := by
  unfold AtS at x ⊢; rw [← e]; exact x
/-- from a later place -/
theorem AtS.step {f : Env → Res Fl} {σ2 : L2.St} {M2 : Ad} {H2 : Hp} (ev : Ev F.k M H M2 H2) (hl : σ2.length = σ.length) (x : AtS K XR W f F M H σ ρ E) : AtS K XR W f F M2 H2 σ2 ρ E := by
  unfold AtS at x ⊢
  cases e : f ρ with
  | ok fl =>
    rw [e] at x
    cases fl with
    | nx ρ1 => exact fun σ' M' H' e1 e2 l => x σ' M' H' (ev.trans e1) e2 (l.trans hl)
    | bk ρ1 => exact fun σ' M' H' e1 e2 l => x σ' M' H' (ev.trans e1) e2 (l.trans hl)
    | ct ρ1 => exact fun σ' M' H' e1 e2 l => x σ' M' H' (ev.trans e1) e2 (l.trans hl)
    | rt own d ρ1 => exact fun v σ' M' H' e1 e2 l r => x v σ' M' H' (ev.trans e1) e2 (l.trans hl) r
  | ex z ρ1 => rw [e] at x; exact fun c da σ' M' H' e1 e2 l r => x c da σ' M' H' (ev.trans e1) e2 (l.trans hl) r
  | no => rw [e] at x; exact x
/-- an expression ahead of it -/
theorem AtS.bind {g : Env → Res (α × Env)} {h : α → Env → Res Fl} {R1 : Fx → Ad → Hp → L2.St → Env → α → β → Prop}
    (x : AtS K XR W (fun ρ => g ρ >>= fun p => h p.1 p.2) F M H σ ρ E) {Q1 : β → Hp → Prop}
    (k : ∀ a b M1 H1 ρ1, g ρ = .ok (a, ρ1) → Ev F.k M H M1 H1 → EnvR K F M1 H1 σ ρ1 → R1 F M1 H1 σ ρ1 a b → AtS K XR W (h a) F M1 H1 σ ρ1 E → Q1 b H1) : At K XR W g R1 F M H σ ρ Q1 := by
  unfold At
  cases e : g ρ with
  | no => exact (x.no (by show (g ρ >>= _) = _; rw [e]; rfl)).elim
  | ex z ρ1 =>
    unfold AtS at x
    have e2 : (g ρ >>= fun p => h p.1 p.2) = .ex z ρ1 := by rw [e] <;> rfl
    simp only [e2] at x
    exact fun c da M' H' ev er xr => x c da σ M' H' ev er rfl xr
  | ok p =>
    obtain ⟨a, ρ1⟩ := p
    intro b M1 H1 ev er r
    refine k a b M1 H1 ρ1 e ev er r ?_
    have e2 : (fun ρ => g ρ >>= fun p => h p.1 p.2) ρ = (fun _ : Env => h a ρ1) ρ := by show (g ρ >>= _) = _; rw [e]; rfl
    have x2 := AtS.step (σ2 := σ) ev rfl (AtS.cong (g := fun _ : Env => h a ρ1) e2 x)
    unfold AtS at x2 ⊢
    exact x2
theorem RgS.bind {g : Env → Res (α × Env)} {h : α → Env → Res Fl} {R1 : Fx → Ad → Hp → L2.St → Env → α → β → Prop} {Q1 : β → Hp → Prop}
    (x : RgS K XR W (fun ρ => g ρ >>= fun p => h p.1 p.2) E σ H)
    (k : ∀ F M a b H1 ρ1, EnvR K F M H1 σ ρ1 → R1 F M H1 σ ρ1 a b → AtS K XR W (h a) F M H1 σ ρ1 E → Q1 b H1) : Rg K XR W g R1 σ H Q1 := by
  obtain ⟨F, M, ρ, er, y⟩ := x
  exact ⟨F, M, ρ, er, AtS.bind y fun a b M1 H1 ρ1 _ ev1 er1 r kk => k F M1 a b H1 ρ1 er1 r kk⟩
theorem RgS.cong {f g : Env → Res Fl} (h : ∀ ρ, f ρ = g ρ) (x : RgS K XR W f E σ H) : RgS K XR W g E σ H := by
  obtain ⟨F, M, ρ, er, y⟩ := x
  exact ⟨F, M, ρ, er, AtS.cong (h ρ) y⟩
theorem RgS.bad {f : Env → Res Fl} (h : ∀ ρ, f ρ = .no) : ¬ RgS K XR W f E σ H := fun ⟨F, M, ρ, er, y⟩ => y.no (h ρ)
/-- the end of a set -/
theorem atS_set_nx {i : Nat} {own : Bool} {d : D} {v : V} (er : EnvR K F M H σ ρ) (r : RvR K F M H σ ρ own v d) (x : AtS K XR W (fun ρ => optF (setSl i own d ρ)) F M H σ ρ E) : E.nx (σ.set i (some v)) H := by
  cases hs : setSl i own d ρ with
  | none => exact (x.no (by show optF _ = _; rw [hs]; rfl)).elim
  | some ρ' => exact x.nx (by show optF _ = _; rw [hs]; rfl) _ M H (.refl er.mt) (er.set hs r) (by rw [List.length_set])
end
abbrev RdS (K : PySem.W.Frag) (XR : XRel) (W : L2.WX) (T : Tb) (s : Sx) : TS := RgS K XR W (exec T s)
abbrev RdSs (K : PySem.W.Frag) (XR : XRel) (W : L2.WX) (T : Tb) (ss : List Sx) : TS := RgS K XR W (execs T ss)
section
variable {X : Cx} {T : Tb} {XR : XRel} {W : L2.WX} {K : PySem.W.Frag}
theorem set_i {i : Nat} {x : Ex} {E : Ends} {σ : L2.St} {H : Hp} (h : RdS K XR W T (.set i x) E σ H) : tAsg (RdV K XR W T x) (gName i) E σ H :=
  RgS.bind (β := V) (R1 := RV K) (h := fun (a : Bool × D) ρ1 => optF (setSl i a.1 a.2 ρ1)) (RgS.cong (fun ρ => by rw [exec]) h) fun F M a b H1 ρ1 er r k => atS_set_nx er r k
theorem expr_i {x : Ex} {E : Ends} {σ : L2.St} {H : Hp} (h : RdS K XR W T (.expr x) E σ H) : tDrop (RdV K XR W T x) E σ H :=
  RgS.bind (β := V) (R1 := RV K) (h := fun (a : Bool × D) ρ1 => .ok (.nx ρ1)) (RgS.cong (fun ρ => by rw [exec]) h) fun F M a b H1 ρ1 er r k => k.nx rfl σ M H1 (.refl er.mt) er rfl
theorem setT_i {is : List Nat} {x : Ex} {E : Ends} {σ : L2.St} {H : Hp} (h : RdS K XR W T (.setT is x) E σ H) : tAsg (RdV K XR W T x) (rT K is false) E σ H :=
  RgS.bind (β := V) (R1 := RV K) (h := fun (a : Bool × D) ρ1 => setTD is a.2 ρ1) (RgS.cong (fun ρ => by rw [exec]) h) fun F M a b H1 ρ1 er r k => by
    obtain ⟨M2, ev2, er2, rp⟩ := RvR.freeze er r
    cases hb : bindI is false a.2 ρ1 with
    | none => exact (k.no (by show setTD is a.2 ρ1 = _; unfold setTD; rw [hb]; rfl)).elim
    | some ρ' => exact ⟨F, M2, a.2, ρ1, ρ', er2, rp, hb, fun σ' e' _ hl => k.nx (by show setTD is a.2 ρ1 = _; unfold setTD; rw [hb]; rfl) σ' M2 H1 ev2 e' hl⟩
theorem ite_s {c : Ex} {a b : List Sx} {E : Ends} {σ : L2.St} {H : Hp} (h : RdS K XR W T (.ite c a b) E σ H) : tIfS (RdT K XR W T c) (RdSs K XR W T a) (RdSs K XR W T b) E σ H :=
  RgS.bind (β := Bool) (R1 := RB) (h := fun (k : Bool) ρ1 => if k = true then execs T a ρ1 else execs T b ρ1) (RgS.cong (fun ρ => by rw [exec]) h) fun F M x y H1 ρ1 er r k => by
    have : x = y := r
    subst this
    cases x with
    | true => exact ⟨F, M, ρ1, er, AtS.cong rfl k⟩
    | false => exact ⟨F, M, ρ1, er, AtS.cong rfl k⟩
theorem seq_s {s : Sx} {ss : List Sx} {E : Ends} {σ : L2.St} {H : Hp} (h : RdSs K XR W T (s :: ss) E σ H) : tSeq (RdS K XR W T s) (RdSs K XR W T ss) E σ H := by
  obtain ⟨F, M, ρ, er, x⟩ := h
  refine ⟨F, M, ρ, er, ?_⟩
  unfold AtS at x ⊢
  rw [execs] at x
  cases e : exec T s ρ with
  | ok fl =>
    rw [e] at x
    cases fl with
    | nx ρ1 => exact fun σ' M' H' ev er' hl => ⟨F, M', ρ1, er', AtS.step (M := M) (H := H) (σ := σ) ev hl (by unfold AtS; exact x)⟩
    | _ => exact x
  | ex z ρ1 => rw [e] at x; exact x
  | no => rw [e] at x; exact x
theorem nil_s {E : Ends} {σ : L2.St} {H : Hp} (h : RdSs K XR W T [] E σ H) : tNext E σ H := by
  obtain ⟨F, M, ρ, er, x⟩ := h
  exact x.nx (ρ1 := ρ) (by rw [execs]) σ M H (.refl er.mt) er rfl
theorem pass_s {E : Ends} {σ : L2.St} {H : Hp} (h : RdS K XR W T .pass E σ H) : tNext E σ H := by
  obtain ⟨F, M, ρ, er, x⟩ := h
  exact x.nx (ρ1 := ρ) (by rw [exec]) σ M H (.refl er.mt) er rfl
theorem brk_s {E : Ends} {σ : L2.St} {H : Hp} (h : RdS K XR W T .brk E σ H) : tBreak E σ H := by
  obtain ⟨F, M, ρ, er, x⟩ := h
  unfold AtS at x
  rw [exec] at x
  exact x σ M H (.refl er.mt) er rfl
theorem cont_s {E : Ends} {σ : L2.St} {H : Hp} (h : RdS K XR W T .cont E σ H) : tCont E σ H := by
  obtain ⟨F, M, ρ, er, x⟩ := h
  unfold AtS at x
  rw [exec] at x
  exact x σ M H (.refl er.mt) er rfl
/-! return -/
/-- a slot is forgotten, what it held goes on -/
theorem EnvR.drop {F : Fx} {M : Ad} {H : Hp} {σ : L2.St} {ρ : Env} {i : Nat} {d : D} (e : EnvR K F M H σ ρ) (h : ρ[i]? = some (.ow d)) : EnvR K F M H σ (ρ.set i .no) := by
  have old : ∀ j, mineAt (ρ.set i .no) j = true → i ≠ j ∧ mineAt ρ j = true := fun j hj => by
    by_cases z : i = j
    · subst z
      rw [mineAt_set (List.getElem?_eq_some_iff.mp h).1] at hj
      cases hj
    · exact ⟨z, by rwa [mineAt_set_ne z] at hj⟩
  refine e.re (by rw [List.length_set]; exact e.len) (fun j s es => ?_) (fun j k a hjk h1 h2 => e.ne j k a hjk (old j h1).2 (old k h2).2) fun j a hl => ?_
  · by_cases z : i = j
    · subst z
      rw [List.getElem?_set_self (List.getElem?_eq_some_iff.mp h).1] at es
      cases es
      trivial
    · rw [List.getElem?_set_ne z] at es
      exact e.sl j s es
  · obtain ⟨d', q⟩ := e.lent j a hl
    refine ⟨d', ?_⟩
    rw [List.getElem?_set_ne fun z => by subst z; rw [h] at q; rcases q with q | q <;> cases q]
    exact q
theorem simRet {e : Expr} {x : Ex} (h : PE X e (RdV X.K XR W T x)) (hv : ∀ i, x = .var i → PE X e (tVar i)) : PE X e (Rg X.K XR W (retD (evalV T x) x) (RV X.K)) := by
  cases x with
  | var i =>
    -- an own one, or as always
    refine ⟨fun pins s σ H Q I w => ?_⟩
    obtain ⟨F, M, ρ, er, y⟩ := w
    by_cases ho : ∃ d, ρ[i]? = some (.ow d)
    · obtain ⟨d, hd⟩ := ho
      obtain ⟨a, e1, m, nk, c⟩ := er.sl i _ hd
      refine (hv i rfl).run pins s σ H Q I ⟨.ref a, atS_some e1, ?_⟩
      have mi : mineAt ρ i = true := by unfold mineAt; rw [hd]; rfl
      refine y.ok (a := ((true, d) : Bool × D)) (ρ1 := ρ.set i .no) (by unfold retD; dsimp only; rw [hd]) (.ref a) M H (.refl er.mt) (er.drop hd) ?_
      refine ⟨a, rfl, m, nk, fun j mj ha => ?_, c⟩
      by_cases z : i = j
      · subst z
        rw [mineAt_set (List.getElem?_eq_some_iff.mp hd).1] at mj
        cases mj
      · rw [mineAt_set_ne z] at mj
        exact er.ne i j a z mi mj e1 ha
    · refine h.run pins s σ H Q I ⟨F, M, ρ, er, At.cong ?_ y⟩
      show retD (evalV T (.var i)) (.var i) ρ = evalV T (.var i) ρ
      rw [evalV]
      unfold retD
      dsimp only
      split
      · rename_i d hd; exact absurd ⟨d, hd⟩ ho
      · rfl
  | _ => exact h
theorem ret_s {x : Ex} {E : Ends} {σ : L2.St} {H : Hp} (h : RdS K XR W T (.ret x) E σ H) : tRet (Rg K XR W (retD (evalV T x) x) (RV K)) E σ H :=
  RgS.bind (β := V) (R1 := RV K) (h := fun (a : Bool × D) ρ1 => .ok (.rt a.1 a.2 ρ1)) (RgS.cong (fun ρ => by rw [exec]) h) fun F M a b H1 ρ1 er r k => k.rt rfl b σ M H1 (.refl er.mt) er rfl r
theorem retN_s {E : Ends} {σ : L2.St} {H : Hp} (h : RdS K XR W T (.ret .non) E σ H) : tRetN E σ H := by
  obtain ⟨F, M, ρ, er, x⟩ := h
  exact x.rt (own := false) (d := .non) (ρ1 := ρ) (by rw [exec]; unfold retD; dsimp only; rw [evalV]; rfl) .non σ M H (.refl er.mt) er rfl .non
/-! while -/
theorem whl_s {c : Ex} {b : List Sx} {E : Ends} {σ : L2.St} {H : Hp} (h : RdS K XR W T (.whl c b) E σ H) : tWhile (RdT K XR W T c) (RdSs K XR W T b) E σ H := by
  obtain ⟨F, M, ρ, er, x⟩ := h
  have x0 : AtS K XR W (whlD (testD (evalV T c) c) (execs T b)) F M H σ ρ E := AtS.cong (by rw [exec]) x
  have hn : whlD (testD (evalV T c) c) (execs T b) ρ ≠ .no := fun z => x0.no z
  generalize hr : whlD (testD (evalV T c) c) (execs T b) ρ = r at hn
  obtain ⟨n, e⟩ := whlD_ex hr hn
  have x1 : AtS K XR W (fun _ => r) F M H σ ρ E := AtS.cong hr x0
  refine ⟨fun m σ' H' => ∃ M' ρ', EnvR K F M' H' σ' ρ' ∧ Ev F.k M H M' H' ∧ σ'.length = σ.length ∧ whlN (testD (evalV T c) c) (execs T b) m ρ' = some r, ⟨n, M, ρ, er, .refl er.mt, rfl, e⟩, ?_⟩
  rintro m σ' H' ⟨M', ρ', er', ev', hl', e'⟩
  have x2 : AtS K XR W (fun _ => r) F M' H' σ' ρ' E := by
    have := AtS.step ev' hl' x1
    unfold AtS at this ⊢
    exact this
  cases m with
  | zero => cases e'
  | succ m =>
  unfold whlN at e'
  refine ⟨F, M', ρ', er', ?_⟩
  unfold At
  cases hc : testD (evalV T c) c ρ' with
  | no => rw [hc] at e'; cases e'; exact absurd rfl hn
  | ex z ρ1 =>
    rw [hc] at e'
    cases e'
    unfold AtS at x2
    exact fun cl da M2 H2 ev er2 xr => x2 cl da σ' M2 H2 ev er2 rfl xr
  | ok p =>
    obtain ⟨k, ρ1⟩ := p
    rw [hc] at e'
    intro k' M2 H2 ev2 er2 hk
    have : k = k' := hk
    subst this
    cases k with
    | false =>
      rw [if_neg Bool.false_ne_true]
      cases e'
      exact x2.nx rfl σ' M2 H2 ev2 er2 rfl
    | true =>
      rw [if_pos rfl]
      dsimp only at e'
      refine ⟨fun σ3 H3 => ∃ M3 ρ3, EnvR K F M3 H3 σ3 ρ3 ∧ Ev F.k M H M3 H3 ∧ σ3.length = σ.length ∧ whlN (testD (evalV T c) c) (execs T b) m ρ3 = some r, fun σ3 H3 w => ⟨m, Nat.lt_succ_self m, w⟩, F, M2, ρ1, er2, ?_⟩
      have x3 : AtS K XR W (fun _ => r) F M2 H2 σ' ρ1 E := by
        have := AtS.step (σ2 := σ') ev2 rfl x2
        unfold AtS at this ⊢
        exact this
      unfold AtS
      cases hb : execs T b ρ1 with
      | no => rw [hb] at e'; cases e'; exact absurd rfl hn
      | ex z ρ2 =>
        rw [hb] at e'
        cases e'
        unfold AtS at x3
        exact x3
      | ok fl =>
        rw [hb] at e'
        cases fl with
        | nx ρ2 => exact fun σ3 M3 H3 ev3 er3 l3 => ⟨M3, ρ2, er3, (ev'.trans ev2).trans ev3, l3.trans hl', e'⟩
        | ct ρ2 => exact fun σ3 M3 H3 ev3 er3 l3 => ⟨M3, ρ2, er3, (ev'.trans ev2).trans ev3, l3.trans hl', e'⟩
        | bk ρ2 =>
          cases e'
          exact fun σ3 M3 H3 ev3 er3 l3 => x3.nx rfl σ3 M3 H3 ev3 er3 l3
        | rt own d ρ2 =>
          cases e'
          exact fun v σ3 M3 H3 ev3 er3 l3 rv => x3.rt rfl v σ3 M3 H3 ev3 er3 l3 rv
end
end Pd
set_option Elab.async false
set_option linter.all false
/-! Pd16: methods that change, stores, loops. -/
namespace Pd
open PySem PySem.Spec PyProof.Rows L2
section
variable {K : PySem.W.Frag} {XR : XRel} {W : L2.WX} {F : Fx} {M : Ad} {H : Hp} {σ : L2.St} {ρ : Env} {E : Ends} {T : Tb} {X : Cx}
/-- a change of one's own thing as the last step -/
theorem mod_nx {i : Nat} {f : D → Option D} {d d' : D} {a : Addr} {o : HO} (er : EnvR K F M H σ ρ) (g : getAr ρ (.io i) = some d) (hf : f d = some d') (ha : atS σ i = some (.ref a)) (ho : Mut (some o)) (c : ∀ P, Ev P M H M (upd H a o) → Con K M (upd H a o) a d')
    (x : AtS K XR W (fun ρ => optF (modSl i f ρ)) F M H σ ρ E) : E.nx σ (upd H a o) := by
  obtain ⟨b, hb, mb, nk, cb⟩ := er.io g
  rw [ha] at hb
  cases hb
  have ev0 : Ev (fun _ => False) M H M (upd H a o) := ⟨er.mt, fun b hb => by
    by_cases z : b = a
    · rw [z, upd_same]; simp
    · rwa [upd_ne z], fun b u hb nb => by rw [upd_ne (show b ≠ a from fun z => nb (z ▸ mb))]; exact hb, fun b m => .inl m, fun b k m => k.elim⟩
  obtain ⟨er2, ev2⟩ := er.write g ha ho (c _ ev0)
  exact x.nx (ρ1 := putIo i d' ρ) (by show optF (modSl i f ρ) = _; unfold modSl; rw [g]; show optF ((f d).map _) = _; rw [hf]; rfl) σ M _ ev2 er2 rfl
theorem mod_no {i : Nat} {f : D → Option D} {d : D} (g : getAr ρ (.io i) = some d) (hf : f d = none) (x : AtS K XR W (fun ρ => optF (modSl i f ρ)) F M H σ ρ E) : False :=
  x.no (by show optF (modSl i f ρ) = _; unfold modSl; rw [g]; show optF ((f d).map _) = _; rw [hf]; rfl)
theorem mod_no0 {i : Nat} {f : D → Option D} (g : getAr ρ (.io i) = none) (x : AtS K XR W (fun ρ => optF (modSl i f ρ)) F M H σ ρ E) : False :=
  x.no (by show optF (modSl i f ρ) = _; unfold modSl; rw [g]; rfl)
/-- a list's method as a rule -/
def MuR (m : Mu) (r : V → List V → Hp → VK → Prop) : Prop := ∀ (K : PySem.W.Frag) (M : Ad) (H : Hp) (a : Addr) (xs : List V) (zs ds : List D) (vs : List V) (d' : D) (Q : VK), H a = some (.lst xs) → Reps K M H xs zs → Reps K M H vs ds → muD m ds (.lst zs) = some d' →
  ∃ ws es, d' = .lst es ∧ Reps K M H ws es ∧ (Q .non (upd H a (.lst ws)) → r (.ref a) vs H Q)
theorem mu_append : MuR .append rAppend := by
  intro K M H a xs zs ds vs d' Q hH rx rv h
  match ds, rv, h with
  | [d], .cons r .nil, h =>
    by_cases hz : zs.length < sizeLine
    · have h' : (if zs.length < sizeLine then some (D.lst (zs ++ [d])) else none) = some d' := h
      rw [if_pos hz] at h'
      cases h'
      exact ⟨_, _, rfl, rx.append (.cons r .nil), fun q => ⟨a, xs, _, rfl, rfl, hH, by rw [rx.length]; exact hz, q⟩⟩
    · have h' : (if zs.length < sizeLine then some (D.lst (zs ++ [d])) else none) = some d' := h
      rw [if_neg hz] at h'
      cases h'
  | [], _, h => cases h
  | _ :: _ :: _, _, h => cases h
theorem mu_reverse : MuR .reverse rReverse := by
  intro K M H a xs zs ds vs d' Q hH rx rv h
  match ds, rv, h with
  | [], .nil, h => cases h; exact ⟨_, _, rfl, rx.reverse, fun q => ⟨a, xs, rfl, rfl, hH, q⟩⟩
  | _ :: _, _, h => cases h
theorem mu_clear : MuR .clear rClear := by
  intro K M H a xs zs ds vs d' Q hH rx rv h
  match ds, rv, h with
  | [], .nil, h => cases h; exact ⟨_, _, rfl, .nil, fun q => ⟨a, xs, rfl, rfl, hH, q⟩⟩
  | _ :: _, _, h => cases h
/-- what the receiver is -/
theorem recv_lst {i : Nat} (er : EnvR K F M H σ ρ) (h : (getAr ρ (.io i)).any isLst = true) : ∃ a xs, atS σ i = some (.ref a) ∧ H a = some (.lst xs) := by
  cases g : getAr ρ (.io i) with
  | none => rw [g] at h; cases h
  | some d =>
  rw [g] at h
  obtain ⟨a, e1, _, _, c⟩ := er.io g
  cases c with
  | lst hH rr => exact ⟨a, _, e1, hH⟩
  | dK _ _ _ => cases h
  | dTu _ _ _ => cases h
  | obj _ _ _ => cases h
theorem mu_last {i : Nat} {m : Mu} {r : V → List V → Hp → VK → Prop} (mr : MuR m r) {a : Addr} (ha : atS σ i = some (.ref a)) (er : EnvR K F M H σ ρ) {ds : List D} {vs : List V} (rv : Reps K M H vs ds) (x : AtS K XR W (fun ρ => optF (modSl i (muD m ds) ρ)) F M H σ ρ E) : r (.ref a) vs H (fun _ H' => E.nx σ H') := by
  cases g : getAr ρ (.io i) with
  | none => exact (mod_no0 g x).elim
  | some d =>
  cases hf : muD m ds d with
  | none => exact (mod_no g hf x).elim
  | some d' =>
  obtain ⟨b, hb, mb, nk, cb⟩ := er.io g
  rw [ha] at hb
  cases hb
  cases cb with
  | lst hH rr =>
    obtain ⟨ws, es, rfl, rw', k⟩ := mr K M H a _ _ _ _ _ (fun _ H' => E.nx σ H') hH rr rv hf
    exact k (mod_nx er g hf ha trivial (fun P ev => .lst upd_same (rw'.ev ev)) x)
  | dK _ _ _ => cases m <;> (revert hf; unfold muD; split <;> first | (intro h; cases h) | skip) <;> simp_all
  | dTu _ _ _ => cases m <;> (revert hf; unfold muD; split <;> first | (intro h; cases h) | skip) <;> simp_all
  | obj _ _ _ => cases m <;> (revert hf; unfold muD; split <;> first | (intro h; cases h) | skip) <;> simp_all
theorem mu_i {i : Nat} {m : Mu} {xs : List Ex} {r : V → List V → Hp → VK → Prop} (mr : MuR m r) (h : RdS K XR W T (.mu i m xs) E σ H) : tDrop (tBM K "list" r (tVar i) (RdVs K XR W T xs)) E σ H := by
  obtain ⟨F, M, ρ, er, x⟩ := h
  by_cases hany : (getAr ρ (.io i)).any isLst = true
  case neg => exact (x.no (by rw [exec, if_neg hany])).elim
  obtain ⟨a, zs, ha, hH⟩ := recv_lst er hany
  refine ⟨.ref a, atS_some ha, .inl ⟨rfl, zs, .of hH⟩, F, M, ρ, er, ?_⟩
  exact AtS.bind (β := List V) (R1 := RVs K) (h := fun ds ρ1 => optF (modSl i (muD m ds) ρ1)) (AtS.cong (by rw [exec, if_pos hany]) x) fun ds vs M1 H1 ρ1 _ ev1 er1 rv k => mu_last mr ha er1 rv k
theorem mu_i0 {i : Nat} {m : Mu} {r : V → List V → Hp → VK → Prop} (mr : MuR m r) (h : RdS K XR W T (.mu i m []) E σ H) : tDrop (tBM0 K "list" r (tVar i)) E σ H := by
  obtain ⟨F, M, ρ, er, x⟩ := h
  by_cases hany : (getAr ρ (.io i)).any isLst = true
  case neg => exact (x.no (by rw [exec, if_neg hany])).elim
  obtain ⟨a, zs, ha, hH⟩ := recv_lst er hany
  refine ⟨.ref a, atS_some ha, .inl ⟨rfl, zs, .of hH⟩, ?_⟩
  exact mu_last (vs := []) (ds := []) mr ha er .nil (AtS.cong (by rw [exec, if_pos hany]; show (evalVs T [] ρ >>= _) = _; rw [evalVs]; rfl) x)
/-! o[i] = v -/
def rSet (K : PySem.W.Frag) : TSet := fun o i v H Q => rSetL o i v H Q ∨ rSetD o i v H Q
theorem set_all (hu : X.A.units + 1 < cLine) : PSet X (rSet X.K) := by
  intro pins s σ H o i v ov iv u Q I ro ri rv h
  rcases h with h | h
  · exact set_list pins s σ H o i v ov iv u Q I ro ri rv h
  · exact set_dict hu pins s σ H o i v ov iv u Q I ro ri rv h
theorem dput_reps {k : Key} {v : V} {d : D} : ∀ {kvs : List (Key × V)} {ds : List D}, Reps K M H (kvs.map (·.2)) ds → Rep K M H v d →
    Reps K M H ((kvs.map fun kv => if kv.1 = k then (kv.1, v) else kv).map (·.2)) (List.zipWith (fun (k' : Ky) d' => if k' = .inl k then d else d') (kvs.map fun p => Sum.inl p.1) ds)
  | [], [], .nil, _ => .nil
  | p :: kvs, d0 :: ds, .cons r t, q => by
    have ih := dput_reps (k := k) t q
    show Reps K M H ((if p.1 = k then (p.1, v) else p).2 :: _) ((if (Sum.inl p.1 : Ky) = .inl k then d else d0) :: _)
    refine .cons ?_ ih
    by_cases hk : p.1 = k
    · rw [if_pos hk, if_pos (by rw [hk])]; exact q
    · rw [if_neg hk, if_neg (fun z => hk (Sum.inl.inj z))]; exact r
theorem dput_rep {k : Key} {v : V} {d : D} {kvs : List (Key × V)} {ds : List D} (r : Reps K M H (kvs.map (·.2)) ds) (q : Rep K M H v d) :
    (dputL (.inl k) d (kvs.map fun p => Sum.inl p.1) ds).1 = (putK kvs k v).map (fun p => Sum.inl p.1) ∧ Reps K M H ((putK kvs k v).map (·.2)) (dputL (.inl k) d (kvs.map fun p => Sum.inl p.1) ds).2 := by
  have e : ((kvs.map fun p => (Sum.inl p.1 : Ky)).any fun k' => decide (k' = .inl k)) = kvs.any fun kv => decide (kv.1 = k) := by
    rw [List.any_map]
    congr 1
    funext p
    simp
  unfold dputL putK
  rw [e]
  by_cases h : (kvs.any fun kv => decide (kv.1 = k)) = true
  · rw [if_pos h, if_pos h]
    refine ⟨?_, dput_reps r q⟩
    rw [List.map_map]
    refine List.map_congr_left fun p _ => ?_
    show Sum.inl p.1 = Sum.inl (if p.1 = k then (p.1, v) else p).1
    split <;> rfl
  · rw [if_neg h, if_neg h]
    refine ⟨by rw [List.map_append] <;> rfl, ?_⟩
    rw [List.map_append]
    exact r.append (.cons q .nil)
theorem setIx_last {i : Nat} {kd d : D} {a : Addr} {v y : V} (ha : atS σ i = some (.ref a)) (er : EnvR K F M H σ ρ) (rv : Rep K M H v d) (vy : ValR K M H y kd) (x : AtS K XR W (fun ρ => optF (modSl i (setIxD kd d) ρ)) F M H σ ρ E) : rSet K (.ref a) y v H fun H' => E.nx σ H' := by
  cases g : getAr ρ (.io i) with
  | none => exact (mod_no0 g x).elim
  | some d0 =>
  cases hf : setIxD kd d d0 with
  | none => exact (mod_no g hf x).elim
  | some d' =>
  obtain ⟨b, hb, mb, nk, cb⟩ := er.io g
  rw [ha] at hb
  cases hb
  cases cb with
  | lst hH rr =>
    cases kd with
    | int k =>
      obtain ⟨j, hj, rfl⟩ := Option.map_eq_some_iff.mp (show (ixN _ k).map _ = some d' from hf)
      have ey := vy.int
      subst ey
      exact .inl ⟨a, _, k, j, rfl, rfl, hH, by rw [rr.length]; exact hj, mod_nx er g hf ha trivial (fun P ev => .lst upd_same ((rr.ev ev).set j (rv.ev ev))) x⟩
    | _ => cases hf
  | @dK kvs ks ds hH hk rr =>
    obtain ⟨k, h1, h2⟩ := Option.bind_eq_some_iff.mp (show (toKey kd).bind _ = some d' from hf)
    have ey := toKey_v vy h1
    subst ey
    subst hk
    cases kvs with
    | nil => cases h2
    | cons p kvs =>
      have h2' : (if (((p :: kvs).map fun p => (Sum.inl p.1 : Ky))).length < 1000000 then some (D.dct (dputL (.inl k) d ((p :: kvs).map fun p => (Sum.inl p.1 : Ky)) ds).1 (dputL (.inl k) d ((p :: kvs).map fun p => (Sum.inl p.1 : Ky)) ds).2) else none) = some d' := h2
      by_cases hl : (((p :: kvs).map fun p => (Sum.inl p.1 : Ky))).length < 1000000
      case neg => rw [if_neg hl] at h2'; cases h2'
      rw [if_pos hl] at h2'
      cases h2'
      rw [List.length_map] at hl
      refine .inr ⟨a, _, rfl, .k hH (by rw [sizeLine_eq]; omega), ?_⟩
      exact mod_nx er g hf ha trivial (fun P ev => .dK upd_same (dput_rep rr rv).1 ((dput_rep rr rv).2.ev ev)) x
  | @dTu kvs ks ds hH hk rr =>
    cases kd with
    | tup xs =>
      obtain ⟨k, h1, h2⟩ := Option.bind_eq_some_iff.mp (show (toKeys xs).bind _ = some d' from hf)
      obtain ⟨b, ys, rfl, hb, rb⟩ := vy.tupH
      have ey := keys_v rb h1
      subst ey hk
      by_cases hl : (kvs.map fun p => p.1).length < 1000000
      case neg => rw [if_neg hl] at h2; cases h2
      rw [if_pos hl] at h2
      cases h2
      rw [List.length_map] at hl
      refine .inr ⟨a, _, rfl, .t hH hb (by rw [sizeLine_eq]; omega), ?_⟩
      exact mod_nx er g hf ha trivial (fun P ev => .dTu upd_same (dputG_rep rr rv).1 ((dputG_rep rr rv).2.ev ev)) x
    | _ => cases hf
  | obj _ _ _ => cases hf
theorem setIx_i {i : Nat} {k e : Ex} (h : RdS K XR W T (.setIx i k e) E σ H) : tAsg (RdV K XR W T e) (gSub (tVar i) (RdO K XR W T k) (rSet K)) E σ H :=
  RgS.bind (β := V) (R1 := RV K) (h := fun (p : Bool × D) ρ1 => if (getAr ρ1 (.io i)).isSome = true then (opd (evalV T k) k ρ1 >>= fun q => match getOp q.2 q.1 with
    | some kd => optF (modSl i (setIxD kd p.2) q.2)
    | none => .no) else .no) (RgS.cong (fun ρ => by rw [exec] <;> rfl) h) fun F M p v H1 ρ1 er r x => by
    obtain ⟨M2, ev2, er2, rp⟩ := RvR.freeze er r
    by_cases hs : (getAr ρ1 (.io i)).isSome = true
    case neg => exact (x.no (by rw [if_neg hs])).elim
    have x2 := AtS.step (σ2 := σ) ev2 rfl x
    obtain ⟨d0, g0⟩ := Option.isSome_iff_exists.mp hs
    obtain ⟨a, ha, _⟩ := er2.io g0
    refine ⟨.ref a, atS_some ha, F, M2, ρ1, er2, ?_⟩
    refine AtS.bind (β := V) (R1 := RO K) (h := fun o ρ2 => match getOp ρ2 o with
      | some kd => optF (modSl i (setIxD kd p.2) ρ2)
      | none => .no) (AtS.cong (by rw [if_pos hs]) x2) fun o y M3 H3 ρ3 _ ev3 er3 ry x3 => ?_
    cases g : getOp ρ3 o with
    | none => exact (x3.no (by simp only [g])).elim
    | some kd => exact setIx_last ha er3 (rp.ev ev3) (OpdR.val er3 ry g) (AtS.cong (by simp only [g]) x3)
/-! o.f = e -/
theorem setFs_rep {f : Str} {v : V} {d : D} : ∀ {fv : List (Str × V)} {ds : List D}, Reps K M H (fv.map (·.2)) ds → Rep K M H v d →
    (setFs f d (fv.map fun p => p.1) ds).1 = (putF f v fv).map (fun p => p.1) ∧ Reps K M H ((putF f v fv).map (·.2)) (setFs f d (fv.map fun p => p.1) ds).2
  | [], [], .nil, q => ⟨rfl, .cons q .nil⟩
  | p :: fv, d0 :: ds, .cons r t, q => by
    obtain ⟨g, w⟩ := p
    obtain ⟨i1, i2⟩ := setFs_rep (f := f) t q
    show (if g = f then (g :: fv.map (fun p => p.1), d :: ds) else (g :: (setFs f d (fv.map fun p => p.1) ds).1, d0 :: (setFs f d (fv.map fun p => p.1) ds).2)).1 = _ ∧ Reps K M H _ (if g = f then (g :: fv.map (fun p => p.1), d :: ds) else (g :: (setFs f d (fv.map fun p => p.1) ds).1, d0 :: (setFs f d (fv.map fun p => p.1) ds).2)).2
    unfold putF
    by_cases e : g = f
    · rw [if_pos e]
      subst e
      first
        | (rw [if_pos rfl]; exact ⟨rfl, .cons q t⟩)
        | (rw [if_pos (beq_self_eq_true _)]; exact ⟨rfl, .cons q t⟩)
        | (simp only [beq_self_eq_true, if_true]; exact ⟨rfl, .cons q t⟩)
    · rw [if_neg e]
      first
        | (rw [if_neg e]; exact ⟨by rw [List.map_cons, i1], .cons r i2⟩)
        | (rw [if_neg (by simpa using e)]; exact ⟨by rw [List.map_cons, i1], .cons r i2⟩)
theorem setF_last {ok : Str → Str → Bool} {i : Nat} {f : Str} {d : D} {a : Addr} {y : V} (hok : ∀ c, ok c f = true → Cls K (He.ga K c) ∧ NoAttr K (He.ga K c) f) (ha : atS σ i = some (.ref a)) (er : EnvR K F M H σ ρ) (rv : Rep K M H y d) (x : AtS K XR W (fun ρ => optF (modSl i (setFD ok f d) ρ)) F M H σ ρ E) :
    ∃ C dx fs, H a = some (.ins C dx fs) ∧ Cls K C ∧ NoAttr K C f ∧ fs.length < 1000 ∧ E.nx σ (upd H a (.ins C dx (putF f y fs))) := by
  cases g : getAr ρ (.io i) with
  | none => exact (mod_no0 g x).elim
  | some d0 =>
  cases hf : setFD ok f d d0 with
  | none => exact (mod_no g hf x).elim
  | some d' =>
  obtain ⟨b, hb, mb, nk, cb⟩ := er.io g
  rw [ha] at hb
  cases hb
  cases cb with
  | @obj dx fv c fs ds hH hk rr =>
    have hf' : (if ok c f = true ∧ fs.length < 900 then some (D.obj c (setFs f d fs ds).1 (setFs f d fs ds).2) else none) = some d' := hf
    by_cases hl : ok c f = true ∧ fs.length < 900
    case neg => rw [if_neg hl] at hf'; cases hf'
    rw [if_pos hl] at hf'
    cases hf'
    subst hk
    obtain ⟨c1, c2⟩ := hok c hl.1
    have hl2 := hl.2
    rw [List.length_map] at hl2
    exact ⟨_, dx, fv, hH, c1, c2, by omega, mod_nx er g hf ha trivial (fun P ev => .obj upd_same (setFs_rep rr rv).1 ((setFs_rep rr rv).2.ev ev)) x⟩
  | _ => cases hf
theorem setF_i {i : Nat} {f : Str} {e : Ex} (hok : ∀ c, T.isF c f = true → Cls K (He.ga K c) ∧ NoAttr K (He.ga K c) f) (h : RdS K XR W T (.setF i f e) E σ H) : sFld K (tVar i) (RdV K XR W T e) f E σ H :=
  RgS.bind (β := V) (R1 := RV K) (h := fun (p : Bool × D) ρ1 => optF (modSl i (setFD T.isF f p.2) ρ1)) (RgS.cong (fun ρ => by rw [exec] <;> rfl) h) fun F M p v H1 ρ1 er r x => by
    obtain ⟨M2, ev2, er2, rp⟩ := RvR.freeze er r
    have x2 := AtS.step (σ2 := σ) ev2 rfl x
    cases g : getAr ρ1 (.io i) with
    | none => exact (mod_no0 g x2).elim
    | some d0 =>
      obtain ⟨a, ha, _⟩ := er2.io g
      obtain ⟨C, dx, fs, h1, h2, h3, h4, h5⟩ := setF_last hok ha er2 rp x2
      exact ⟨.ref a, atS_some ha, a, C, dx, fs, rfl, h1, h2, h3, h4, h5⟩
/-! x op= e -/
theorem set_self {i : Nat} {v : V} (h : atS σ i = some v) : σ.set i (some v) = σ := by
  have := atS_some h
  exact List.ext_getElem? fun j => by
    by_cases z : i = j
    · subst z
      rw [List.getElem?_set_self (List.getElem?_eq_some_iff.mp this).1, this]
    · rw [List.getElem?_set_ne z]
theorem ip_aug (o : Operator) : PIp X o (fun x y H Q => (∃ i j r, x = .int i ∧ y = .int j ∧ augD o (.int i) (.int j) = some (.int r) ∧ Q (.int r) H) ∨ (o = .Add ∧ rExt2 x y H Q)) := by
  intro pins s σ H x y v u Q I rx ry h
  rcases h with ⟨i, j, r, rfl, rfl, hf, q⟩ | ⟨rfl, h⟩
  · cases o with
    | Add => cases hf; exact iop_add pins s σ H _ _ v u Q I rx ry ⟨i, j, rfl, rfl, q⟩
    | Sub => cases hf; exact iop_sub pins s σ H _ _ v u Q I rx ry ⟨i, j, rfl, rfl, q⟩
    | Mult =>
      have hf' : (if mulOk i j then some (D.int (i * j)) else none) = some (.int r) := hf
      by_cases hm : mulOk i j
      case neg => rw [if_neg hm] at hf'; cases hf'
      rw [if_pos hm] at hf'
      cases hf'
      obtain ⟨t, rfl⟩ := rx
      obtain ⟨t', rfl⟩ := ry
      exact imul_int ⟨.int _, H, I.tok _, ⟨_, rfl⟩, q⟩ (CMulW.ok hm)
    | _ => cases hf
  · exact iop_ext pins s σ H _ _ v u Q I rx ry h
def rAug (o : Operator) : TIp := fun x y H Q => (∃ i j r, x = .int i ∧ y = .int j ∧ augD o (.int i) (.int j) = some (.int r) ∧ Q (.int r) H) ∨ (o = .Add ∧ rExt2 x y H Q)
theorem aug_int {o : Operator} {d e r : D} (h : augD o d e = some r) : ∃ i j k, d = .int i ∧ e = .int j ∧ r = .int k := by
  unfold augD at h
  split at h
  · cases h; exact ⟨_, _, _, rfl, rfl, rfl⟩
  · cases h; exact ⟨_, _, _, rfl, rfl, rfl⟩
  · split at h
    · cases h; exact ⟨_, _, _, rfl, rfl, rfl⟩
    · cases h
  · cases h
theorem aug_last {i : Nat} {o : Operator} {v y : V} {op : Op} (ha : atS σ i = some v) (er : EnvR K F M H σ ρ) (ry : OpdR K M H σ y op) (x : AtS K XR W (fun ρ => augS i o ρ (getOp ρ (.s i)) (getOp ρ op)) F M H σ ρ E) : rAug o v y H fun z H' => E.nx (σ.set i (some z)) H' := by
  cases g1 : getOp ρ (.s i) with
  | none => exact (x.no (by simp only [g1]; rfl)).elim
  | some d =>
  cases g2 : getOp ρ op with
  | none => exact (x.no (by simp only [g1, g2]; cases d <;> rfl)).elim
  | some e =>
  have vd : ValR K M H v d := OpdR.val er (o := .s i) ha g1
  have ve : ValR K M H y e := OpdR.val er ry g2
  have intc : augS i o ρ (some d) (some e) = (match augD o d e with
    | some r => optF (setSl i false r ρ)
    | none => .no) → rAug o v y H fun z H' => E.nx (σ.set i (some z)) H' := fun he => by
    cases hf : augD o d e with
    | none => exact (x.no (by simp only [g1, g2]; rw [he, hf])).elim
    | some r =>
      obtain ⟨a, b, c, rfl, rfl, rfl⟩ := aug_int hf
      have e1 := vd.int
      have e2 := ve.int
      subst e1; subst e2
      refine .inl ⟨a, b, c, rfl, rfl, hf, ?_⟩
      exact atS_set_nx (own := false) (d := .int c) er (.int c) (AtS.cong (by simp only [g1, g2]; rw [he, hf]) x)
  cases d with
  | lst xs =>
    cases e with
    | lst ys =>
      have he : augS i o ρ (some (.lst xs)) (some (.lst ys)) = if o = .Add ∧ xs.length + ys.length ≤ sizeLine then optF (modSl i (fun _ => some (.lst (xs ++ ys))) ρ) else .no := rfl
      by_cases hc : o = .Add ∧ xs.length + ys.length ≤ sizeLine
      case neg => exact (x.no (by simp only [g1, g2]; rw [he, if_neg hc])).elim
      have x2 : AtS K XR W (fun ρ => optF (modSl i (fun _ => some (.lst (xs ++ ys))) ρ)) F M H σ ρ E := AtS.cong (by simp only [g1, g2]; rw [he, if_pos hc]) x
      cases g : getAr ρ (.io i) with
      | none => exact (mod_no0 g x2).elim
      | some d0 =>
        obtain ⟨a, ws, rfl, hH, rw'⟩ := vd.lst
        obtain ⟨b, zs, rfl, hB, rz⟩ := ve.lst
        refine .inr ⟨hc.1, a, b, ws, zs, rfl, rfl, hH, hB, by rw [rw'.length, rz.length]; exact hc.2, ?_⟩
        show E.nx (σ.set i (some (V.ref a))) _
        rw [set_self ha]
        exact mod_nx (f := fun _ => some (.lst (xs ++ ys))) (d' := .lst (xs ++ ys)) er g rfl ha trivial (fun P ev => .lst upd_same ((rw'.append rz).ev ev)) x2
    | _ => exact intc rfl
  | _ => exact intc (by cases e <;> rfl)
theorem aug_i {i : Nat} {o : Operator} {e : Ex} (h : RdS K XR W T (.aug i o e) E σ H) : tAug i (RdO K XR W T e) (rAug o) E σ H := by
  obtain ⟨F, M, ρ, er, x⟩ := h
  by_cases hv : hasV ρ i = true
  case neg => exact (x.no (by rw [exec, if_neg hv])).elim
  obtain ⟨v, ha⟩ := hasV_some er hv
  refine ⟨v, atS_some ha, F, M, ρ, er, ?_⟩
  exact AtS.bind (β := V) (R1 := RO K) (h := fun op ρ1 => augS i o ρ1 (getOp ρ1 (.s i)) (getOp ρ1 op)) (AtS.cong (by rw [exec, if_pos hv]) x) fun op y M1 H1 ρ1 _ ev1 er1 ry k => aug_last ha er1 ry k
/-! for -/
theorem RvR.unlend {M1 : Ad} {H1 : Hp} {σ' : L2.St} {ρ1 ρ3 : Env} {ls : List Nat} {own : Bool} {v : V} {d : D} (e1 : EnvR K F M1 H1 σ ρ1) (e : EnvR K (F.lend σ ρ1 ls) M H σ' ρ3) (hl : σ'.length = σ.length) (r : RvR K (F.lend σ ρ1 ls) M H σ' ρ3 own v d) :
    RvR K F M H σ' (Pd.unlend ρ1 ρ3 ls) own v d := by
  cases own with
  | false => exact r
  | true =>
    obtain ⟨a, rfl, m, nk, ns, c⟩ := r
    refine ⟨a, rfl, m, fun z => nk (z.elim .inl fun z => .inr (.inl z)), fun i mi ha => ?_, c⟩
    have hlen : ρ1.length = ρ3.length := by rw [e1.len, e.len]; exact hl.symm
    have get := unlend_get (ls := ls) (j := i) hlen
    by_cases hi : i ∈ ls ∧ ∃ d, ρ1[i]? = some (.ow d)
    · obtain ⟨hi, d', q⟩ := hi
      obtain ⟨b, q1, _, _, _⟩ := e1.sl i _ q
      have hL : (F.lend σ ρ1 ls).l i = some b := lendL_ow hi q q1
      have hk : (F.lend σ ρ1 ls).k b := .inr (.inr ⟨i, hi, d', q, q1⟩)
      obtain ⟨d2, z⟩ := e.lent i b hL
      have : atS σ' i = some (.ref b) := by
        rcases z with z | z
        · obtain ⟨b', w1, _, _, w2, _⟩ := e.sl i _ z
          rw [hL] at w2
          cases w2
          exact w1
        · obtain ⟨b', w1, _, _, w2, _⟩ := e.sl i _ z
          rw [hL] at w2
          cases w2
          exact w1
      rw [ha] at this
      cases this
      exact nk hk
    · have : (Pd.unlend ρ1 ρ3 ls)[i]? = ρ3[i]? := by
        rw [get]
        by_cases hi2 : i ∈ ls
        · rw [if_pos hi2]
          unfold backSl
          split
          · rename_i d' q; exact absurd ⟨hi2, d', q⟩ hi
          · rfl
        · rw [if_neg hi2]
      refine ns i ?_ ha
      unfold mineAt at mi ⊢
      rw [this] at mi
      exact mi
theorem for_s {is : List Nat} {one : Bool} {it : Ex} {b : List Sx} (h : RdS K XR W T (.forr is one it b) E σ H) : tFor (fun σ H R => RdI K XR W T it σ H fun J H' => R J H') (rT K is one) (RdSs K XR W T b) E σ H := by
  obtain ⟨F, M, ρ, er, x⟩ := h
  refine ⟨F, M, ρ, er, ?_⟩
  refine AtS.bind (β := It) (R1 := ItR K) (h := fun (a : List D × List Nat) ρ1 => if lsOk ρ1 a.2 = true then unlF ρ1 a.2 (forL is one (execs T b) a.1 (lends ρ1 a.2)) else .no) (AtS.cong (by rw [exec]) x) fun a J M1 H1 ρ1 _ ev1 er1 itr k1 => ?_
  obtain ⟨ds, ls⟩ := a
  by_cases hls : lsOk ρ1 ls = true
  case neg => exact (k1.no (by dsimp only; rw [if_neg hls])).elim
  have k2 : AtS K XR W (fun _ => unlF ρ1 ls (forL is one (execs T b) ds (lends ρ1 ls))) F M1 H1 σ ρ1 E := AtS.cong (by dsimp only; rw [if_pos hls]) k1
  generalize hr : forL is one (execs T b) ds (lends ρ1 ls) = r at k2
  have erl := er1.lends hls
  have itr2 := itr.2 hls
  have sub : ∀ a, F.k a → (F.lend σ ρ1 ls).k a := fun a z => z.elim .inl fun z => .inr (.inl z)
  refine ⟨fun i m σ' H' => m = ds.length - i ∧ i ≤ ds.length ∧ ∃ M' ρ', EnvR K (F.lend σ ρ1 ls) M' H' σ' ρ' ∧ Ev (F.lend σ ρ1 ls).k M1 H1 M' H' ∧ σ'.length = σ.length ∧ forL is one (execs T b) (ds.drop i) ρ' = r,
    ⟨ds.length, rfl, Nat.zero_le _, M1, lends ρ1 ls, erl, .refl er1.mt, rfl, hr⟩, ?_⟩
  rintro i m σ' H' ⟨rfl, hi, M', ρ', er', ev', hl', e'⟩
  obtain ⟨go, stop, yld⟩ := itr2 M' H' ev' er'.mt
  have fin : ∀ {σ3 : L2.St} {M3 : Ad} {H3 : Hp} {ρ3 : Env}, EnvR K (F.lend σ ρ1 ls) M3 H3 σ3 ρ3 → Ev (F.lend σ ρ1 ls).k M1 H1 M3 H3 → σ3.length = σ.length → EnvR K F M3 H3 σ3 (Pd.unlend ρ1 ρ3 ls) ∧ Ev F.k M1 H1 M3 H3 :=
    fun e3 v3 l3 => ⟨er1.unlend hls e3 (P := (F.lend σ ρ1 ls).k) (fun a la => .inr (.inr la)) v3 l3, v3.mono sub⟩
  by_cases hlt : i < ds.length
  case neg =>
    have hi' : i = ds.length := by omega
    subst hi'
    rw [List.drop_length] at e'
    have e2 : Res.ok (Fl.nx ρ') = r := e'
    subst e2
    obtain ⟨f1, f2⟩ := fin er' ev' hl'
    exact .inl ⟨stop, k2.nx rfl σ' M' H' f2 f1 hl'⟩
  case pos =>
    have ed : ds.drop i = ds[i] :: ds.drop (i + 1) := List.drop_eq_getElem_cons hlt
    rw [ed] at e'
    unfold forL at e'
    refine .inr ⟨go i hlt, fun σ3 H3 => ∃ M3 ρ3, EnvR K (F.lend σ ρ1 ls) M3 H3 σ3 ρ3 ∧ Ev (F.lend σ ρ1 ls).k M1 H1 M3 H3 ∧ σ3.length = σ.length ∧ forL is one (execs T b) (ds.drop (i + 1)) ρ3 = r, ?_, ?_⟩
    · rintro σ3 H3 ⟨M3, ρ3, a1, a2, a3, a4⟩
      exact ⟨ds.length - (i + 1), by omega, rfl, hlt, M3, ρ3, a1, a2, a3, a4⟩
    · intro xv H3 hy
      obtain ⟨M3, gr, rx⟩ := yld i ds[i] xv H3 (List.getElem?_eq_getElem hlt) hy
      cases eb : bindI is one ds[i] ρ' with
      | none => rw [eb] at e'; have e2 : Res.no = r := e'; subst e2; exact (k2.no rfl).elim
      | some ρb =>
      rw [eb] at e'
      dsimp only at e'
      have er3 := er'.grow gr
      refine ⟨F.lend σ ρ1 ls, M3, ds[i], ρ', ρb, er3, rx, eb, fun σ2 e2 hj hl2 => ⟨F.lend σ ρ1 ls, M3, ρb, e2, ?_⟩⟩
      have evA : Ev (F.lend σ ρ1 ls).k M1 H1 M3 H3 := ev'.trans (gr.ev er'.mt)
      have hl3 : σ2.length = σ.length := hl2.trans hl'
      unfold AtS
      cases hb : execs T b ρb with
      | no => rw [hb] at e'; have e2 : Res.no = r := e'; subst e2; exact (k2.no rfl).elim
      | ex z ρ3 =>
        rw [hb] at e'
        have e2 : Res.ex z ρ3 = r := e'
        subst e2
        unfold AtS at k2
        intro cl da σ4 M4 H4 ev4 er4 l4 xr
        obtain ⟨f1, f2⟩ := fin er4 (evA.trans ev4) (l4.trans hl3)
        exact k2 cl da σ4 M4 H4 f2 f1 (l4.trans hl3) xr
      | ok fl =>
        rw [hb] at e'
        cases fl with
        | nx ρ3 => exact fun σ4 M4 H4 ev4 er4 l4 => ⟨M4, ρ3, er4, evA.trans ev4, l4.trans hl3, e'⟩
        | ct ρ3 => exact fun σ4 M4 H4 ev4 er4 l4 => ⟨M4, ρ3, er4, evA.trans ev4, l4.trans hl3, e'⟩
        | bk ρ3 =>
          have e2 : Res.ok (Fl.nx ρ3) = r := e'
          subst e2
          intro σ4 M4 H4 ev4 er4 l4
          obtain ⟨f1, f2⟩ := fin er4 (evA.trans ev4) (l4.trans hl3)
          exact k2.nx rfl σ4 M4 H4 f2 f1 (l4.trans hl3)
        | rt own d ρ3 =>
          have e2 : Res.ok (Fl.rt own d ρ3) = r := e'
          subst e2
          intro v σ4 M4 H4 ev4 er4 l4 rv
          obtain ⟨f1, f2⟩ := fin er4 (evA.trans ev4) (l4.trans hl3)
          exact k2.rt rfl v σ4 M4 H4 f2 f1 (l4.trans hl3) (RvR.unlend er1 er4 (l4.trans hl3) rv)
/-! a, b = x, y -/
theorem bindT_sets : ∀ {is : List Nat} {ds : List D} {vs : List V} {ρ ρ' : Env} {σ : L2.St}, EnvR K F M H σ ρ → Reps K M H vs ds → bindT is ds ρ = some ρ' → EnvR K F M H ((is.zip vs).foldl (fun σ p => σ.set p.1 (some p.2)) σ) ρ' ∧ is.length = vs.length
  | [], [], [], ρ, ρ', σ, er, .nil, h => by cases h; exact ⟨er, rfl⟩
  | i :: is, d :: ds, v :: vs, ρ, ρ', σ, er, .cons r t, h => by
    unfold bindT at h
    cases hs : setSl i false d ρ with
    | none => rw [hs] at h; cases h
    | some ρ1 =>
      rw [hs] at h
      obtain ⟨a, b⟩ := bindT_sets (er.set hs (RvR.f r)) t h
      exact ⟨a, by rw [List.length_cons, List.length_cons, b]⟩
  | [], _ :: _, _ :: _, _, _, _, _, .cons _ _, h => by cases h
  | _ :: _, [], [], _, _, _, _, .nil, h => by cases h
theorem foldl_len : ∀ (ps : List (Nat × V)) (σ : L2.St), (ps.foldl (fun σ p => σ.set p.1 (some p.2)) σ).length = σ.length
  | [], _ => rfl
  | p :: ps, σ => by rw [List.foldl_cons, foldl_len ps, List.length_set]
theorem setP_i {is : List Nat} {es : List Ex} (h : RdS K XR W T (.setP is es) E σ H) : RdVs K XR W T es σ H fun vs H1 => is.length = vs.length ∧ E.nx ((is.zip vs).foldl (fun σ p => σ.set p.1 (some p.2)) σ) H1 :=
  RgS.bind (β := List V) (R1 := RVs K) (h := fun ds ρ1 => optF (bindT is ds ρ1)) (RgS.cong (fun ρ => by rw [exec]) h) fun F M ds vs H1 ρ1 er r k => by
    cases hb : bindT is ds ρ1 with
    | none => exact (k.no (by show optF _ = _; rw [hb]; rfl)).elim
    | some ρ' =>
      obtain ⟨e2, hl⟩ := bindT_sets er r hb
      exact ⟨hl, k.nx (by show optF _ = _; rw [hb]; rfl) _ M H1 (.refl er.mt) e2 (foldl_len _ _)⟩
end
end Pd
set_option Elab.async false
set_option linter.all false
/-! Pd17: statements: the translator, and that the small syntax says what they do. -/
namespace Pd
open PySem PySem.Spec PyProof.Rows L2
def isCompE : Expr → Bool
  | .ListComp .. => true
  | .SetComp .. => true
  | .DictComp .. => true
  | _ => false
def isDoc : Expr → Bool
  | .Constant (.str _) _ _ => true
  | _ => false
def isTupE : Expr → Bool
  | .Tuple .. => true
  | _ => false
def muOf1 (x : Str) : Option Mu := if x = "append" then some .append else none
def muOf0 (x : Str) : Option Mu := if x = "reverse" then some .reverse else if x = "clear" then some .clear else none
/-- an expression that stands alone -/
def trX (m : Ms) (N : List Str) (sc : Scope) : Expr → Sx
  | .Call (.Attribute (.Name o p) meth apos) args [] pos => if (apos.endLine == pos.line) = true then (match slotV N sc o with
      | some i => (match args with
        | [] => match muOf0 meth with
          | some u => .mu i u []
          | none => .expr (tr m N (.Call (.Attribute (.Name o p) meth apos) args [] pos) sc)
        | a :: as => match muOf1 meth with
          | some u => if (a :: as).all notStar && decide ((a :: as).length < 30) then .mu i u (trs m N (a :: as) sc) else .bad
          | none => .expr (tr m N (.Call (.Attribute (.Name o p) meth apos) args [] pos) sc))
      | none => .bad) else .bad
  | e => if isDoc e then .pass else if isCompE e then .bad else .expr (tr m N e sc)
/-- plain local names on one line, told apart, and values that are not all constants -/
def sw2 (sc : Scope) (x y : Str) (px py : Pos) (a b : Expr) : Bool :=
  decide (sc.names.lookup x = some .local) && decide (sc.names.lookup y = some .local) && (py.line == px.line) && decide (x ≠ y) && !([a, b].all (foldedForSure 8)) && !([a, b].all (constantsAlone 8)) && notStar a && notStar b
/-- some name is no plain local one -/
def nonLoc (sc : Scope) (ts : List Expr) : Bool := ts.any fun t => match t with
  | .Name x _ => !decide (sc.names.lookup x = some .local)
  | _ => false
def trA (m : Ms) (N : List Str) (sc : Scope) : Expr → Expr → Sx
  | .Name x _, e => match slotS N sc x with
    | some i => .set i (tr m N e sc)
    | none => .bad
  | .Tuple ts k p, e => match trTs N sc ts with
    | none => .bad
    | some is => if nonLoc sc ts = true then .setT is (tr m N e sc) else if isTupE e then (match ts, e with
        | [.Name x px, .Name y py], .Tuple [a, b] k1 p1 => if [a, b].all (foldedForSure 8) then .setT is (tr m N (.Tuple [a, b] k1 p1) sc) else if sw2 sc x y px py a b then .setP is [tr m N a sc, tr m N b sc] else .bad
        | _, .Tuple vs _ _ => if vs.all (foldedForSure 8) then .setT is (tr m N e sc) else .bad
        | _, _ => .bad) else .setT is (tr m N e sc)
  | .Subscript (.Name o _) k _, e => match slotV N sc o with
    | some i => if plainIx k = true then .setIx i (tr m N k sc) (tr m N e sc) else .bad
    | none => .bad
  | .Attribute (.Name o _) f _, e => match slotV N sc o with
    | some i => if isCompE e then .bad else .setF i f (tr m N e sc)
    | none => .bad
  | _, _ => .bad
mutual
def trS (m : Ms) (N : List Str) (sc : Scope) : Stmt → Sx
  | .Pass _ => .pass
  | .Break _ => .brk
  | .Continue _ => .cont
  | .Return none _ => .ret .non
  | .Return (some e) _ => .ret (tr m N e sc)
  | .Expr e _ => trX m N sc e
  | .Assign [tg] e _ => trA m N sc tg e
  | .AugAssign (.Name x _) op e _ => match slotS N sc x with
    | some i => .aug i op (tr m N e sc)
    | none => .bad
  | .If c a b _ => .ite (tr m N c sc) (trSs m N sc a) (trSs m N sc b)
  | .While c b [] _ => .whl (tr m N c sc) (trSs m N sc b)
  | .For tg it b [] _ => match trT N sc tg with
    | some (is, one) => if isSet it then .bad else .forr is one (itOf (trI m N (tupT tg) it sc) (tr m N it sc)) (trSs m N sc b)
    | none => .bad
  | _ => .bad
def trSs (m : Ms) (N : List Str) (sc : Scope) : List Stmt → List Sx
  | [] => []
  | s :: ss => trS m N sc s :: trSs m N sc ss
end
/-- a def's body -/
structure SXs (m : Ms) (T : Tb) (XR : XRel) (n : Nat) (W : L2.WX) (X : Cx) : Prop where
  sx : SX m T XR n W X
  ps : PassesOwn (model X.prog X.w) X.A X.env X.xe
  fn : ∀ x, X.fn x = true
  kind : X.env.scope.kind = .function
section
variable {m : Ms} {T : Tb} {XR : XRel} {n : Nat} {X : Cx} {W : L2.WX}
theorem three (S : SXs m T XR n W X) (e : Expr) : Three X T XR W e (tr m X.N e X.env.scope) := master m T XR n (sizeOf e + 1) e (Nat.lt_succ_self _) X W S.sx
theorem rdS_bad {E : Ends} {σ : L2.St} {H : Hp} : ¬ RdS X.K XR W T .bad E σ H := RgS.bad fun ρ => by rw [exec] <;> simp
theorem ps_bad {st : Stmt} : PS X st (RdS X.K XR W T .bad) := ps_absurd fun _ _ _ => rdS_bad
theorem sw_no {e : Expr} {t : Option Expr} {l : Nat} {env : PySem.Env} (h : isCompE e = false) : swapsWith e t l env = pure false := by
  cases e <;> first | rfl | cases h
theorem fnOn (S : SXs m T XR n W X) (is : List Nat) : FnOn X is := fun _ _ x _ => .inl (S.fn x)
theorem simExpr (S : SXs m T XR n W X) {e : Expr} {pos : Pos} (h : isCompE e = false) : PS X (.Expr e pos) (RdS X.K XR W T (.expr (tr m X.N e X.env.scope))) :=
  ps_imp (ps_expr (three S e).v (sw_no h)) fun _ _ _ w => expr_i w
theorem star_all : ∀ {es : List Expr} {env : PySem.Env} {pos : Pos}, es.all notStar = true → (backTo pos (starEach es env)).all (fun x => !x.1) = true
  | [], _, _, _ => rfl
  | e :: es, env, pos, h => by
    rw [List.all_cons, Bool.and_eq_true] at h
    rw [starEach_cons h.1]
    show (true && (backTo pos (starEach es env)).all (fun x => !x.1)) = true
    rw [star_all h.2]; rfl
theorem simX (S : SXs m T XR n W X) (e : Expr) (pos : Pos) : PS X (.Expr e pos) (RdS X.K XR W T (trX m X.N X.env.scope e)) := by
  have go : trX m X.N X.env.scope e = (if isDoc e then .pass else if isCompE e then .bad else .expr (tr m X.N e X.env.scope)) → PS X (.Expr e pos) (RdS X.K XR W T (trX m X.N X.env.scope e)) := fun h => by
    rw [h]
    by_cases h1 : isDoc e = true
    · rw [if_pos h1]
      unfold isDoc at h1
      split at h1
      · exact ps_imp ps_doc fun _ _ _ w => pass_s w
      · cases h1
    · rw [if_neg h1]
      by_cases h2 : isCompE e = true
      · rw [if_pos h2]; exact ps_bad
      · rw [if_neg h2]; exact simExpr S (by simpa using h2)
  by_cases hc : ∃ o p meth apos args cpos, e = .Call (.Attribute (.Name o p) meth apos) args [] cpos
  case neg =>
    refine go ?_
    unfold trX
    split
    · rename_i o p meth apos args cpos
      exact absurd ⟨o, p, meth, apos, args, cpos, rfl⟩ hc
    · rfl
  obtain ⟨o, p, meth, apos, args, cpos, rfl⟩ := hc
  rw [trX]
  by_cases hl : (apos.endLine == cpos.line) = true
  case neg => rw [if_neg hl]; exact ps_bad
  rw [if_pos hl]
  cases hs : slotV X.N X.env.scope o with
  | none => exact ps_bad
  | some i =>
  have hv : PE X (.Name o p) (tVar i) := pe_slot hs
  cases args with
  | nil =>
    dsimp only
    cases hu : muOf0 meth with
    | none => exact simExpr S rfl
    | some u =>
      unfold muOf0 at hu
      by_cases h1 : meth = "reverse"
      · rw [if_pos h1] at hu
        cases hu
        subst h1
        exact ps_imp (ps_expr (pe_bm0 PySem.F.plainAttrs_list PySem.F.slot_list_reverse PySem.F.type_list_reverse mt_reverse hv rfl hl)) fun _ _ _ w => mu_i0 mu_reverse w
      · rw [if_neg h1] at hu
        by_cases h2 : meth = "clear"
        · rw [if_pos h2] at hu
          cases hu
          subst h2
          exact ps_imp (ps_expr (pe_bm0 PySem.F.plainAttrs_list PySem.F.slot_list_clear PySem.F.type_list_clear mt_clear hv rfl hl)) fun _ _ _ w => mu_i0 mu_clear w
        · rw [if_neg h2] at hu; cases hu
  | cons a as =>
    dsimp only
    cases hu : muOf1 meth with
    | none => exact simExpr S rfl
    | some u =>
      dsimp only
      by_cases hst : ((a :: as).all notStar && decide ((a :: as).length < 30)) = true
      case neg => rw [if_neg hst]; exact ps_bad
      rw [if_pos hst]
      simp only [Bool.and_eq_true, decide_eq_true_eq] at hst
      have hst2 := hst.1
      rw [List.all_cons, Bool.and_eq_true] at hst2
      have hrow : PA X (a :: as) (RdVs X.K XR W T (trs m X.N (a :: as) X.env.scope)) := rowV (master m T XR n (sizeOf (a :: as))) S.sx (Nat.le_refl _) hst.1
      unfold muOf1 at hu
      by_cases h1 : meth = "append"
      · rw [if_pos h1] at hu
        cases hu
        subst h1
        refine ps_imp (ps_expr (pe_bm PySem.F.plainAttrs_list PySem.F.slot_list_append PySem.F.type_list_append mt_append hv hrow rfl ?_ hl (starEach_cons hst2.1) (star_any hst2.2))) fun _ _ _ w => mu_i mu_append w
        rw [star_all hst.1]
        have := hst.2
        simp only [List.isEmpty_nil, if_true, List.length_nil, Nat.add_zero, decide_eq_true this]
        rfl
      · rw [if_neg h1] at hu; cases hu
theorem lc_swap (S : SXs m T XR n W X) {e : Expr} {x : Str} {i : Nat} {p spos : Pos} (h1 : X.N[i]? = some x) (h2 : Loc X.env.scope x) : PS X (.Assign [.Name x p] e spos) (tAsg (RdV X.K XR W T (tr m X.N e X.env.scope)) (gName i)) := by
  have plain : swapsWith e (some (.Name x p)) spos.line X.env = pure false → PS X (.Assign [.Name x p] e spos) (tAsg (RdV X.K XR W T (tr m X.N e X.env.scope)) (gName i)) := fun h =>
    ps_set S.sx.nd h1 h2 (three S e).v h (.inl (S.fn x))
  by_cases hc : isCompE e = true
  case neg => exact plain (sw_no (by simpa using hc))
  cases e with
  | ListComp elt gs scope pos =>
    have key : swapsWith (.ListComp elt gs scope pos) (some (.Name x p)) spos.line X.env = pure (X.env.blockKind == .function && X.env.kindOf x == some .local && p.line == pos.line && !(scope.names.any fun (n, k) => n == x && (k == .local || k == .cell))) := rfl
    by_cases hb : (X.env.blockKind == .function && X.env.kindOf x == some .local && p.line == pos.line && !(scope.names.any fun (n, k) => n == x && (k == .local || k == .cell))) = true
    · have hx : X.env.scope.names.lookup x = some .local := by
        simp only [Bool.and_eq_true] at hb
        have := hb.1.1.2
        exact eq_of_beq this
      exact (masterComp (master m T XR n (sizeOf (Expr.ListComp elt gs scope pos))) S.sx elt gs scope pos (by simp only [Expr.ListComp.sizeOf_spec]; omega) (by simp only [Expr.ListComp.sizeOf_spec]; omega)).asg i x p spos h1 hx (by rw [key, hb])
    · have hb' := Bool.eq_false_iff.mpr hb
      exact plain (by rw [key, hb'])
  | SetComp _ _ _ _ => refine ps_absurd fun D σ H w => ?_; unfold tr at w; exact Rg.bad w
  | DictComp _ _ _ _ _ => refine ps_absurd fun D σ H w => ?_; unfold tr at w; exact Rg.bad w
  | _ => cases hc
theorem folded_none {ts vs : List Expr} {k k2 : Nat} {p p2 : Pos} {env : PySem.Env} (h : vs.all (foldedForSure 8) = true) : swappedStores [.Tuple ts k p] (.Tuple vs k2 p2) env = pure none := by
  unfold swappedStores
  dsimp only
  split
  · rfl
  split
  · rfl
  split
  · rfl
  first
    | rfl
    | (rw [if_pos h]; rfl)
theorem names_short {f : Expr → Option Str} : ∀ {ts : List Expr}, (∃ t ∈ ts, f t = none) → (ts.filterMap f).length < ts.length
  | [], h => by obtain ⟨t, h, _⟩ := h; cases h
  | t :: ts, h => by
    rw [List.filterMap_cons]
    split
    · exact Nat.lt_succ_of_le (List.length_filterMap_le _ _)
    · rename_i b e
      obtain ⟨u, hu, hn⟩ := h
      rcases List.mem_cons.mp hu with rfl | hu
      · rw [e] at hn; cases hn
      · exact Nat.succ_lt_succ (names_short ⟨u, hu, hn⟩)
theorem nonloc_none {ts : List Expr} {kp : Nat} {p : Pos} {e : Expr} {env : PySem.Env} (h : nonLoc env.scope ts = true) : swappedStores [.Tuple ts kp p] e env = pure none := by
  by_cases ht : isTupE e = true
  case neg => cases e <;> first | (exact absurd rfl ht) | rfl
  cases e with
  | Tuple vs k2 p2 =>
    unfold swappedStores
    dsimp only
    split
    · rfl
    split
    · rfl
    have : (ts.filterMap fun t => match t with
        | .Name id pos => if (env.kindOf id == some .local && pos.line == (ts.head?.map (·.pos.line)).getD 0) = true then some id else none
        | _ => none).length < ts.length := by
      refine names_short ?_
      unfold nonLoc at h
      rw [List.any_eq_true] at h
      obtain ⟨t, ht, hb⟩ := h
      refine ⟨t, ht, ?_⟩
      cases t with
      | Name x px =>
        have hx : ¬ env.scope.names.lookup x = some .local := by simpa using hb
        have : (env.kindOf x == some .local) = false := by
          have : ¬ env.kindOf x = some .local := hx
          simpa using this
        show (if (env.kindOf x == some .local && _) = true then some x else none) = none
        rw [this]; rfl
      | _ => cases hb
    rw [if_pos]
    rw [Bool.or_eq_true]
    left
    rw [bne_iff_ne]
    intro z
    exact Nat.ne_of_lt this z
  | _ => cases ht
theorem swapped2 {x y : Str} {px py kp p2 : Pos} {k k2 : Nat} {a b : Expr} {env : PySem.Env} (hk : env.scope.kind = .function) (h : sw2 env.scope x y px py a b = true) : swappedStores [.Tuple [.Name x px, .Name y py] k kp] (.Tuple [a, b] k2 p2) env = pure (some [x, y]) := by
  unfold sw2 at h
  simp only [Bool.and_eq_true, decide_eq_true_eq, Bool.not_eq_true'] at h
  obtain ⟨⟨⟨⟨⟨⟨⟨h1, h2⟩, h3⟩, h4⟩, h5⟩, h6⟩, h7⟩, h8⟩ := h
  have k1 : env.kindOf x = some .local := h1
  have k2' : env.kindOf y = some .local := h2
  have h3' : py.line = px.line := eq_of_beq h3
  have hb : env.blockKind = .function := by unfold Env.blockKind; rw [hk]; rfl
  have hed : ([x, y] : List Str).eraseDups.length = 2 := by
    have : ¬ (y == x) = true := fun z => h4 (eq_of_beq z).symm
    simp [List.eraseDups_cons, this]
  unfold swappedStores
  dsimp only
  split
  · rename_i h
    rw [hb] at h
    exact absurd h (by simp)
  split
  · rename_i h
    exfalso
    rw [List.any_eq_true] at h
    obtain ⟨e, me, he⟩ := h
    have ns : notStar e = true := by
      rcases List.mem_cons.mp me with rfl | me
      · exact h7
      · rcases List.mem_cons.mp me with rfl | me
        · exact h8
        · cases me
    cases e <;> first | (cases he; done) | (simp [notStar] at ns)
  simp [k1, k2', h3', Expr.pos, hed, h5, h6]
theorem sole_tup {ts : List Expr} {k l : Nat} {p : Pos} {e : Expr} {env : PySem.Env} : swapsWithSole [.Tuple ts k p] e l env = pure false := by
  show swapsWith e (some (.Tuple ts k p)) l env = pure false
  cases e <;> rfl
theorem sole_sub {o i : Expr} {l : Nat} {p : Pos} {e : Expr} {env : PySem.Env} : swapsWithSole [.Subscript o i p] e l env = pure false := by
  show swapsWith e (some (.Subscript o i p)) l env = pure false
  cases e <;> rfl
theorem stores_no {tg e : Expr} {env : PySem.Env} (h : isTupE e = false) : swappedStores [tg] e env = pure none := by
  cases e <;> first | (cases h; done) | (cases tg <;> rfl)
theorem stores_sub {o i e : Expr} {p : Pos} {env : PySem.Env} : swappedStores [.Subscript o i p] e env = pure none := by
  cases e <;> rfl
theorem plain_asg {o i : Expr} {pos : Pos} {env : PySem.Env} (h : plainIx i = true) : ∀ v, assign (.Subscript o i pos) env v = (do
      let ov ← holding [v] (eval o env)
      let iv ← holding [v, ov] (eval i env)
      standAt pos
      holding [v, ov, iv] (setItem ov iv v)
      release [v, ov, iv] []) := by
  cases i <;> first | (exact fun _ => rfl) | (cases h; done)
theorem simA (S : SXs m T XR n W X) (tg e : Expr) (pos : Pos) : PS X (.Assign [tg] e pos) (RdS X.K XR W T (trA m X.N X.env.scope tg e)) := by
  match tg with
  | .Name x p =>
    rw [trA]
    cases hs : slotS X.N X.env.scope x with
    | none => exact ps_bad
    | some i =>
      obtain ⟨h1, h2⟩ := slotS_some hs
      exact ps_imp (lc_swap S h1 h2) fun _ _ _ w => set_i w
  | .Tuple ts k p =>
    unfold trA
    dsimp only
    cases ht : trTs X.N X.env.scope ts with
    | none => exact ps_bad
    | some is =>
    dsimp only
    have hT : PG X (.Tuple ts k p) (rT X.K is false) := simT S.sx.calm S.sx.nd (by show (trTs X.N X.env.scope ts).map _ = _; rw [ht]; rfl) (fnOn S is)
    have setT : swappedStores [.Tuple ts k p] e X.env = pure none → PS X (.Assign [.Tuple ts k p] e pos) (RdS X.K XR W T (.setT is (tr m X.N e X.env.scope))) := fun hw =>
      ps_imp (ps_asg (three S e).v hT sole_tup hw) fun _ _ _ w => setT_i w
    by_cases hn : nonLoc X.env.scope ts = true
    · rw [if_pos hn]; exact setT (nonloc_none hn)
    rw [if_neg hn]
    by_cases hb : isTupE e = true
    case neg =>
      rw [if_neg hb]
      exact setT (stores_no (by simpa using hb))
    rw [if_pos hb]
    split
    · rename_i x px y py a b k1 p1
      by_cases hf : ([a, b].all (foldedForSure 8)) = true
      · rw [if_pos hf]; exact setT (folded_none hf)
      rw [if_neg hf]
      by_cases h2 : sw2 X.env.scope x y px py a b = true
      case neg => rw [if_neg h2]; exact ps_bad
      rw [if_pos h2]
      have hw := swapped2 (k := k) (k2 := k1) (kp := p) (p2 := p1) S.kind h2
      unfold sw2 at h2
      simp only [Bool.and_eq_true, decide_eq_true_eq, Bool.not_eq_true'] at h2
      obtain ⟨⟨⟨⟨⟨⟨⟨h1, h2⟩, h3⟩, h4⟩, h5⟩, h6⟩, h7⟩, h8⟩ := h2
      unfold trTs at ht
      split at ht
      · rename_i i is' hi hr
        cases ht
        unfold trTs at hr
        split at hr
        · rename_i j js' hj hr2
          cases hr
          unfold trTs at hr2
          cases hr2
          obtain ⟨n1, _⟩ := slotS_some hi
          obtain ⟨n2, _⟩ := slotS_some hj
          have hij : i ≠ j := fun z => by subst z; rw [n1] at n2; exact h4 (Option.some.inj n2)
          have hA : PA X [a, b] (RdVs X.K XR W T [tr m X.N a X.env.scope, tr m X.N b X.env.scope]) := simVs (.cons ⟨h7, (three S a).v⟩ (.cons ⟨h8, (three S b).v⟩ .nil))
          refine ps_imp (ps_par S.sx.calm S.sx.nd n1 n2 hij h1 h2 hA hw sole_tup) fun E σ H w => ?_
          refine Rg.mono ?_ (setP_i w)
          rintro vs H1 ⟨hl, q⟩
          match vs, hl, q with
          | [v, w], _, q => exact ⟨v, w, rfl, q⟩
        · cases hr
      · cases ht
    · rename_i vs k1 p1 _
      by_cases hf : (vs.all (foldedForSure 8)) = true
      · rw [if_pos hf]; exact setT (folded_none hf)
      · rw [if_neg hf]; exact ps_bad
    · exact ps_bad
  | .Subscript (.Name o op) k p =>
    rw [trA]
    cases hs : slotV X.N X.env.scope o with
    | none => exact ps_bad
    | some i =>
      dsimp only
      by_cases hk : plainIx k = true
      case neg => rw [if_neg hk]; exact ps_bad
      rw [if_pos hk]
      exact ps_imp (ps_asg (three S e).v (pg_sub (pe_slot hs) (three S k).ro (set_all (by have := S.sx.un; omega)) (plain_asg hk)) sole_sub stores_sub) fun _ _ _ w => setIx_i w
  | .Subscript (.BoolOp ..) _ _ => unfold trA; exact ps_bad
  | .Subscript (.NamedExpr ..) _ _ => unfold trA; exact ps_bad
  | .Subscript (.BinOp ..) _ _ => unfold trA; exact ps_bad
  | .Subscript (.UnaryOp ..) _ _ => unfold trA; exact ps_bad
  | .Subscript (.Lambda ..) _ _ => unfold trA; exact ps_bad
  | .Subscript (.IfExp ..) _ _ => unfold trA; exact ps_bad
  | .Subscript (.Dict ..) _ _ => unfold trA; exact ps_bad
  | .Subscript (.Set ..) _ _ => unfold trA; exact ps_bad
  | .Subscript (.ListComp ..) _ _ => unfold trA; exact ps_bad
  | .Subscript (.SetComp ..) _ _ => unfold trA; exact ps_bad
  | .Subscript (.DictComp ..) _ _ => unfold trA; exact ps_bad
  | .Subscript (.GeneratorExp ..) _ _ => unfold trA; exact ps_bad
  | .Subscript (.Await ..) _ _ => unfold trA; exact ps_bad
  | .Subscript (.Yield ..) _ _ => unfold trA; exact ps_bad
  | .Subscript (.YieldFrom ..) _ _ => unfold trA; exact ps_bad
  | .Subscript (.Compare ..) _ _ => unfold trA; exact ps_bad
  | .Subscript (.Call ..) _ _ => unfold trA; exact ps_bad
  | .Subscript (.FormattedValue ..) _ _ => unfold trA; exact ps_bad
  | .Subscript (.JoinedStr ..) _ _ => unfold trA; exact ps_bad
  | .Subscript (.Constant ..) _ _ => unfold trA; exact ps_bad
  | .Subscript (.Attribute ..) _ _ => unfold trA; exact ps_bad
  | .Subscript (.Subscript ..) _ _ => unfold trA; exact ps_bad
  | .Subscript (.Starred ..) _ _ => unfold trA; exact ps_bad
  | .Subscript (.List ..) _ _ => unfold trA; exact ps_bad
  | .Subscript (.Tuple ..) _ _ => unfold trA; exact ps_bad
  | .Subscript (.Slice ..) _ _ => unfold trA; exact ps_bad
  | .BoolOp .. => unfold trA; exact ps_bad
  | .NamedExpr .. => unfold trA; exact ps_bad
  | .BinOp .. => unfold trA; exact ps_bad
  | .UnaryOp .. => unfold trA; exact ps_bad
  | .Lambda .. => unfold trA; exact ps_bad
  | .IfExp .. => unfold trA; exact ps_bad
  | .Dict .. => unfold trA; exact ps_bad
  | .Set .. => unfold trA; exact ps_bad
  | .ListComp .. => unfold trA; exact ps_bad
  | .SetComp .. => unfold trA; exact ps_bad
  | .DictComp .. => unfold trA; exact ps_bad
  | .GeneratorExp .. => unfold trA; exact ps_bad
  | .Await .. => unfold trA; exact ps_bad
  | .Yield .. => unfold trA; exact ps_bad
  | .YieldFrom .. => unfold trA; exact ps_bad
  | .Compare .. => unfold trA; exact ps_bad
  | .Call .. => unfold trA; exact ps_bad
  | .FormattedValue .. => unfold trA; exact ps_bad
  | .JoinedStr .. => unfold trA; exact ps_bad
  | .Constant .. => unfold trA; exact ps_bad
  | .Attribute o f p =>
    cases o with
    | Name y py =>
      rw [trA]
      cases hs : slotV X.N X.env.scope y with
      | none => exact ps_bad
      | some i =>
        dsimp only
        by_cases hk : isCompE e = true
        · rw [if_pos hk]; exact ps_bad
        rw [if_neg hk]
        exact ps_imp (ps_fld (pe_slot hs) (three S e).v (sw_no (by simpa using hk))) fun _ _ _ w => setF_i (fun c h => S.sx.fld c f h) w
    | _ => unfold trA; exact ps_bad
  | .Starred .. => unfold trA; exact ps_bad
  | .List .. => unfold trA; exact ps_bad
  | .Slice .. => unfold trA; exact ps_bad
theorem masterS (S : SXs m T XR n W X) : ∀ k, (∀ st : Stmt, sizeOf st < k → PS X st (RdS X.K XR W T (trS m X.N X.env.scope st))) ∧ ∀ ss : List Stmt, sizeOf ss < k → PSs X ss (RdSs X.K XR W T (trSs m X.N X.env.scope ss))
  | 0 => ⟨fun _ h => absurd h (Nat.not_lt_zero _), fun _ h => absurd h (Nat.not_lt_zero _)⟩
  | k + 1 => by
    have ih := masterS S k
    refine ⟨fun st h => ?_, fun ss h => ?_⟩
    · cases st with
      | Pass p => rw [trS]; exact ps_imp ps_pass fun _ _ _ w => pass_s w
      | Break p => rw [trS]; exact ps_imp ps_break fun _ _ _ w => brk_s w
      | Continue p => rw [trS]; exact ps_imp ps_continue fun _ _ _ w => cont_s w
      | Return e p =>
        cases e with
        | none => rw [trS]; exact ps_imp ps_retN fun _ _ _ w => retN_s w
        | some e => rw [trS]; exact ps_imp (ps_ret (simRet (three S e).v (three S e).o)) fun _ _ _ w => ret_s w
      | Expr e p => rw [trS]; exact simX S e p
      | Assign ts e p =>
        match ts with
        | [tg] => rw [trS]; exact simA S tg e p
        | [] => unfold trS; exact ps_bad
        | _ :: _ :: _ => unfold trS; exact ps_bad
      | AugAssign tg op e p =>
        cases tg with
        | Name x px =>
          rw [trS]
          cases hs : slotS X.N X.env.scope x with
          | none => exact ps_bad
          | some i =>
            obtain ⟨h1, h2⟩ := slotS_some hs
            exact ps_imp (ps_aug (ti := rAug op) S.sx.nd h1 h2 (three S e).ro (ip_aug op) (.inl (S.fn x))) fun _ _ _ w => aug_i w
        | _ => unfold trS; exact ps_bad
      | If c a b p =>
        rw [trS]
        simp only [Stmt.If.sizeOf_spec] at h
        exact ps_imp (ps_if (three S c).t (ih.2 a (by omega)) (ih.2 b (by omega))) fun _ _ _ w => ite_s w
      | While c b o p =>
        cases o with
        | nil =>
          rw [trS]
          simp only [Stmt.While.sizeOf_spec] at h
          exact ps_imp (ps_while S.ps (three S c).t (ih.2 b (by omega))) fun _ _ _ w => whl_s w
        | cons _ _ => unfold trS; exact ps_bad
      | For tg it b o p =>
        cases o with
        | nil =>
          rw [trS]
          simp only [Stmt.For.sizeOf_spec] at h
          cases ht : trT X.N X.env.scope tg with
          | none => exact ps_bad
          | some q =>
            obtain ⟨is, one⟩ := q
            dsimp only
            by_cases hs : isSet it = true
            · rw [if_pos hs]; exact ps_bad
            · rw [if_neg hs]
              have pi : PI X tg it (RdI X.K XR W T (itOf (trI m X.N (tupT tg) it X.env.scope) (tr m X.N it X.env.scope))) := masterI (master m T XR n (sizeOf it + 1)) S.sx tg it (Nat.lt_succ_self _)
              exact ps_imp (ps_for S.ps S.sx.calm pi (simT S.sx.calm S.sx.nd ht (fnOn S is)) (ih.2 b (by omega)) (folded_no (by simpa using hs))) fun _ _ _ w => for_s w
        | cons _ _ => unfold trS; exact ps_bad
      | _ => unfold trS; exact ps_bad
    · cases ss with
      | nil => rw [trSs]; exact pss_imp pss_nil fun _ _ _ w => nil_s w
      | cons s ss =>
        rw [trSs]
        simp only [List.cons.sizeOf_spec] at h
        exact pss_imp (pss_cons (ih.1 s (by omega)) (ih.2 ss (by omega))) fun _ _ _ w => seq_s w
theorem body_ok (S : SXs m T XR n W X) (ss : List Stmt) : PSs X ss (RdSs X.K XR W T (trSs m X.N X.env.scope ss)) := (masterS S (sizeOf ss + 1)).2 ss (Nat.lt_succ_self _)
end
end Pd
set_option Elab.async false
set_option linter.all false
/-! Pd18: a def keeps its promise. -/
namespace Pd
open PySem PySem.Spec PyProof.Rows L2
/-- where the lent arguments stand -/
def ioAt : List Kd → List V → Nat → Option Addr
  | .io :: _, .ref a :: _, 0 => some a
  | _ :: ks, _ :: vs, i + 1 => ioAt ks vs i
  | _, _, _ => none
section
variable {K : PySem.W.Frag} {P M : Ad} {H : Hp}
theorem ArgsR.at' : ∀ {ks : List Kd} {vs : List V} {ds : List D}, ArgsR K P M H ks vs ds → ∀ {i : Nat} {k : Kd}, ks[i]? = some k → ∃ v d, vs[i]? = some v ∧ ds[i]? = some d ∧ (List.zipWith enter1 ks ds)[i]? = some (enter1 k d) ∧
    (k = .fr → Rep K M H v d) ∧ (k = .bo → Rep K M H v d ∨ ∃ a, v = .ref a ∧ P a ∧ M a ∧ Con K M H a d) ∧ (k = .io → ∃ a, v = .ref a ∧ M a ∧ ¬ P a ∧ Con K M H a d ∧ ioAt ks vs i = some a)
  | _, _, _, .nil, i, k, h => by simp at h
  | _, _, _, .fr r t, 0, k, h => by
    have : Kd.fr = k := Option.some.inj h
    subst this
    exact ⟨_, _, rfl, rfl, rfl, fun _ => r, (fun z => nomatch z), (fun z => nomatch z)⟩
  | _, _, _, .bo r t, 0, k, h => by
    have : Kd.bo = k := Option.some.inj h
    subst this
    exact ⟨_, _, rfl, rfl, rfl, (fun z => nomatch z), fun _ => r, (fun z => nomatch z)⟩
  | _, _, _, .io m np c t, 0, k, h => by
    have : Kd.io = k := Option.some.inj h
    subst this
    exact ⟨_, _, rfl, rfl, rfl, (fun z => nomatch z), (fun z => nomatch z), fun _ => ⟨_, rfl, m, np, c, rfl⟩⟩
  | _, _, _, .fr r t, i + 1, k, h => by
    obtain ⟨v, d, a, b, c, e1, e2, e3⟩ := t.at' (i := i) (by simpa using h)
    exact ⟨v, d, by simpa using a, by simpa using b, by simpa using c, e1, e2, fun z => e3 z⟩
  | _, _, _, .bo r t, i + 1, k, h => by
    obtain ⟨v, d, a, b, c, e1, e2, e3⟩ := t.at' (i := i) (by simpa using h)
    exact ⟨v, d, by simpa using a, by simpa using b, by simpa using c, e1, e2, fun z => e3 z⟩
  | _, _, _, .io m np c' t, i + 1, k, h => by
    obtain ⟨v, d, a, b, c, e1, e2, e3⟩ := t.at' (i := i) (by simpa using h)
    exact ⟨v, d, by simpa using a, by simpa using b, by simpa using c, e1, e2, fun z => e3 z⟩
theorem ioAt_get : ∀ {ks : List Kd} {vs : List V} {i : Nat} {a : Addr}, ioAt ks vs i = some a → ks[i]? = some .io ∧ vs[i]? = some (.ref a) ∧ IoA ks vs a
  | .io :: _, .ref b :: _, 0, a, h => by cases h; exact ⟨rfl, rfl, .inl rfl⟩
  | k :: ks, v :: vs, i + 1, a, h => by
    have h' : ioAt ks vs i = some a := by cases k <;> cases v <;> exact h
    obtain ⟨a1, a2, a3⟩ := ioAt_get h'
    refine ⟨by simpa using a1, by simpa using a2, ?_⟩
    cases k <;> cases v <;> first | exact a3 | exact .inr a3
  | .fr :: _, _ :: _, 0, _, h => by cases h
  | .bo :: _, _ :: _, 0, _, h => by cases h
  | .io :: _, .non :: _, 0, _, h => by cases h
  | .io :: _, .bl _ :: _, 0, _, h => by cases h
  | .io :: _, .int _ :: _, 0, _, h => by cases h
  | .io :: _, .str _ :: _, 0, _, h => by cases h
  | .io :: _, .byt _ :: _, 0, _, h => by cases h
  | .io :: _, .flt _ :: _, 0, _, h => by cases h
  | .io :: _, .ty _ :: _, 0, _, h => by cases h
  | [], [], _, _, h => by cases h
  | [], _ :: _, _, _, h => by cases h
  | _ :: _, [], _, _, h => by rename_i k _ _ _; cases k <;> cases h
theorem ioA_at : ∀ {ks : List Kd} {vs : List V} {a : Addr}, IoA ks vs a → ∃ i, ioAt ks vs i = some a
  | .io :: ks, .ref b :: vs, a, h => by
    rcases (show a = b ∨ IoA ks vs a from h) with rfl | h
    · exact ⟨0, rfl⟩
    · obtain ⟨i, e⟩ := ioA_at h
      exact ⟨i + 1, e⟩
  | .fr :: ks, v :: vs, a, h => by
    obtain ⟨i, e⟩ := ioA_at (ks := ks) (vs := vs) (a := a) (by cases v <;> exact h)
    exact ⟨i + 1, by cases v <;> exact e⟩
  | .bo :: ks, v :: vs, a, h => by
    obtain ⟨i, e⟩ := ioA_at (ks := ks) (vs := vs) (a := a) (by cases v <;> exact h)
    exact ⟨i + 1, by cases v <;> exact e⟩
  | .io :: ks, .non :: vs, a, h => by obtain ⟨i, e⟩ := ioA_at (ks := ks) (vs := vs) (a := a) h; exact ⟨i + 1, e⟩
  | .io :: ks, .bl _ :: vs, a, h => by obtain ⟨i, e⟩ := ioA_at (ks := ks) (vs := vs) (a := a) h; exact ⟨i + 1, e⟩
  | .io :: ks, .int _ :: vs, a, h => by obtain ⟨i, e⟩ := ioA_at (ks := ks) (vs := vs) (a := a) h; exact ⟨i + 1, e⟩
  | .io :: ks, .str _ :: vs, a, h => by obtain ⟨i, e⟩ := ioA_at (ks := ks) (vs := vs) (a := a) h; exact ⟨i + 1, e⟩
  | .io :: ks, .byt _ :: vs, a, h => by obtain ⟨i, e⟩ := ioA_at (ks := ks) (vs := vs) (a := a) h; exact ⟨i + 1, e⟩
  | .io :: ks, .flt _ :: vs, a, h => by obtain ⟨i, e⟩ := ioA_at (ks := ks) (vs := vs) (a := a) h; exact ⟨i + 1, e⟩
  | .io :: ks, .ty _ :: vs, a, h => by obtain ⟨i, e⟩ := ioA_at (ks := ks) (vs := vs) (a := a) h; exact ⟨i + 1, e⟩
  | [], [], a, h => h.elim
  | [], _ :: _, a, h => h.elim
  | _ :: _, [], a, h => by rename_i k _; cases k <;> exact h.elim
theorem ioNe_at : ∀ {ks : List Kd} {vs : List V} {i j : Nat} {a : Addr}, IoNe ks vs → i ≠ j → ioAt ks vs i = some a → ioAt ks vs j ≠ some a
  | .io :: ks, .ref b :: vs, 0, 0, a, _, hij, _ => absurd rfl hij
  | .io :: ks, .ref b :: vs, 0, j + 1, a, h, _, h1 => fun h2 => by
    cases h1
    exact h.1 (ioAt_get (ks := ks) (vs := vs) (i := j) h2).2.2
  | .io :: ks, .ref b :: vs, i + 1, 0, a, h, _, h1 => fun h2 => by
    cases h2
    exact h.1 (ioAt_get (ks := ks) (vs := vs) (i := i) h1).2.2
  | k :: ks, v :: vs, i + 1, j + 1, a, h, hij, h1 => fun h2 => by
    have h' : IoNe ks vs := by cases k <;> cases v <;> first | exact h | exact h.2
    have e1 : ioAt ks vs i = some a := by cases k <;> cases v <;> exact h1
    have e2 : ioAt ks vs j = some a := by cases k <;> cases v <;> exact h2
    exact ioNe_at h' (fun z => hij (by rw [z])) e1 e2
  | .fr :: ks, v :: vs, 0, _, a, _, _, h1 => by cases v <;> cases h1
  | .bo :: ks, v :: vs, 0, _, a, _, _, h1 => by cases v <;> cases h1
  | .fr :: ks, v :: vs, _ + 1, 0, a, _, _, _ => fun h2 => by cases v <;> cases h2
  | .bo :: ks, v :: vs, _ + 1, 0, a, _, _, _ => fun h2 => by cases v <;> cases h2
  | .io :: ks, .non :: vs, 0, _, a, _, _, h1 => by cases h1
  | .io :: ks, .bl _ :: vs, 0, _, a, _, _, h1 => by cases h1
  | .io :: ks, .int _ :: vs, 0, _, a, _, _, h1 => by cases h1
  | .io :: ks, .str _ :: vs, 0, _, a, _, _, h1 => by cases h1
  | .io :: ks, .byt _ :: vs, 0, _, a, _, _, h1 => by cases h1
  | .io :: ks, .flt _ :: vs, 0, _, a, _, _, h1 => by cases h1
  | .io :: ks, .ty _ :: vs, 0, _, a, _, _, h1 => by cases h1
  | .io :: ks, .non :: vs, _ + 1, 0, a, _, _, _ => fun h2 => by cases h2
  | .io :: ks, .bl _ :: vs, _ + 1, 0, a, _, _, _ => fun h2 => by cases h2
  | .io :: ks, .int _ :: vs, _ + 1, 0, a, _, _, _ => fun h2 => by cases h2
  | .io :: ks, .str _ :: vs, _ + 1, 0, a, _, _, _ => fun h2 => by cases h2
  | .io :: ks, .byt _ :: vs, _ + 1, 0, a, _, _, _ => fun h2 => by cases h2
  | .io :: ks, .flt _ :: vs, _ + 1, 0, a, _, _, _ => fun h2 => by cases h2
  | .io :: ks, .ty _ :: vs, _ + 1, 0, a, _, _, _ => fun h2 => by cases h2
  | [], [], _, _, _, _, _, h1 => by cases h1
  | [], _ :: _, _, _, _, _, _, h1 => by cases h1
  | k :: _, [], 0, _, _, _, _, h1 => by cases k <;> simp [ioAt] at h1
  | k :: _, [], _ + 1, _, _, _, _, h1 => by cases k <;> simp [ioAt] at h1
/-- the lent ones, as they are handed back -/
theorem outs_r {M' : Ad} {H' : Hp} : ∀ {ks : List Kd} {vs : List V} {ds : List D} {ρ : Env} {outs : List D}, ArgsR K P M H ks vs ds → outsOf ks ρ = some outs → (∀ i a d, ioAt ks vs i = some a → ρ[i]? = some (.io d) → M' a ∧ Con K M' H' a d) → OutsR K M' H' ks vs outs
  | _, _, _, ρ, outs, .nil, h, _ => by cases h; exact .nil
  | _, _, _, ρ, outs, .fr r t, h, k => by
    cases ρ with
    | nil => cases h
    | cons s ρ => exact .fr (outs_r t h fun i a d h1 h2 => k (i + 1) a d h1 (by simpa using h2))
  | _, _, _, ρ, outs, .bo r t, h, k => by
    cases ρ with
    | nil => cases h
    | cons s ρ => exact .bo (outs_r t h fun i a d h1 h2 => k (i + 1) a d h1 (by simpa using h2))
  | _, _, _, ρ, outs, .io m np c t, h, k => by
    cases ρ with
    | nil => cases h
    | cons s ρ =>
      cases s with
      | io d =>
        obtain ⟨o2, e1, e2⟩ := Option.map_eq_some_iff.mp (show (outsOf _ ρ).map (d :: ·) = some outs from h)
        subst e2
        obtain ⟨q1, q2⟩ := k 0 _ d rfl rfl
        exact .io q1 q2 (outs_r t e1 fun i a d h1 h2 => k (i + 1) a d h1 (by simpa using h2))
      | _ => cases h
/-- a def's own frame -/
abbrev fx0 (P : Ad) (ks : List Kd) (vs : List V) : Fx := ⟨P, fun _ => False, ioAt ks vs⟩
theorem atS_start {N : List Str} {vs : List V} {i : Nat} {v : V} (h : vs[i]? = some v) : atS (start N vs) i = some v := by
  unfold atS L2.start
  have hi : i < vs.length := (List.getElem?_eq_some_iff.mp h).1
  rw [List.getElem?_append_left (by simpa using hi), List.getElem?_map, h]
  rfl
theorem enter_env {Fn : Fn} {N : List Str} {vs : List V} {ds : List D} (mt : ∀ a, M a → Mut (H a)) (pm : ∀ a, P a → M a) (ar : ArgsR K P M H Fn.ks vs ds) (ne : IoNe Fn.ks vs) (hn : Fn.n = N.length) (hl : Fn.ks.length ≤ Fn.n) : EnvR K (fx0 P Fn.ks vs) M H (start N vs) (enter Fn ds) := by
  obtain ⟨l1, l2⟩ := ar.len
  have zl : (List.zipWith enter1 Fn.ks ds).length = Fn.ks.length := by rw [List.length_zipWith]; omega
  have get : ∀ i s, (enter Fn ds)[i]? = some s → (∃ k, Fn.ks[i]? = some k ∧ (List.zipWith enter1 Fn.ks ds)[i]? = some s) ∨ s = Sl.no := fun i s h => by
    unfold enter at h
    by_cases hi : i < Fn.ks.length
    · rw [List.getElem?_append_left (by rw [zl]; exact hi)] at h
      exact .inl ⟨_, List.getElem?_eq_getElem hi, h⟩
    · rw [List.getElem?_append_right (by rw [zl]; omega), List.getElem?_replicate] at h
      split at h
      · cases h; exact .inr rfl
      · cases h
  have mine : ∀ i, mineAt (enter Fn ds) i = true → ∀ a, atS (start N vs) i = some (.ref a) → ioAt Fn.ks vs i = some a := fun i h a ha => by
    unfold mineAt at h
    split at h
    · rename_i s es
      rcases get i s es with ⟨k, hk, hz⟩ | rfl
      · obtain ⟨v, d, e1, e2, e3, e4, e5, e6⟩ := ar.at' hk
        rw [e3] at hz
        cases hz
        cases k with
        | io =>
          obtain ⟨b, rfl, _, _, _, e7⟩ := e6 rfl
          rw [atS_start e1] at ha
          cases ha
          exact e7
        | _ => cases h
      · cases h
    · cases h
  refine ⟨mt, fun a p => p.elim (pm a) fun z => z.elim, ?_, fun i s es => ?_, fun i j a hij h1 h2 h3 h4 => ioNe_at ne hij (mine i h1 a h3) (mine j h2 a h4), fun j a h => ?_⟩
  · unfold enter L2.start
    rw [List.length_append, zl, List.length_replicate, List.length_append, List.length_map, List.length_replicate]
    omega
  · rcases get i s es with ⟨k, hk, hz⟩ | rfl
    · obtain ⟨v, d, e1, e2, e3, e4, e5, e6⟩ := ar.at' hk
      rw [e3] at hz
      cases hz
      rw [atS_start e1]
      cases k with
      | fr => exact ⟨v, rfl, e4 rfl⟩
      | bo => exact ⟨v, rfl, e5 rfl⟩
      | io =>
        obtain ⟨b, rfl, m, np, c, e7⟩ := e6 rfl
        exact ⟨b, rfl, m, fun z => z.elim np fun z => z, e7, c⟩
    · trivial
  · obtain ⟨h1, h2, _⟩ := ioAt_get h
    obtain ⟨v, d, e1, e2, e3, _⟩ := ar.at' h1
    refine ⟨d, .inl ?_⟩
    unfold enter
    have hi : j < Fn.ks.length := (List.getElem?_eq_some_iff.mp h1).1
    rw [List.getElem?_append_left (by rw [zl]; exact hi)]
    exact e3
end
section
variable {P : Program} {w : World} {K : PySem.W.Frag} {mg : Str → Option Value} {base : Heap} {m : Ms} {Mo : Md} {XR : XRel}
/-- the module: what the names are, each def kept at n -/
structure Mok (P : Program) (w : World) (K : PySem.W.Frag) (mg : Str → Option Value) (base : Heap) (m : Ms) (Mo : Md) (XR : XRel) (n : Nat) : Prop where
  blt : ∀ x, m.blts.contains x = true → mg x = none
  cst : ∀ x, m.csts.contains x = true → ∀ d, Mo.cst x = some d → ∃ v u, mg x = some u ∧ L2.RelV v u ∧ ∀ M H, Rep K M H v d
  tab : ∀ x, m.tabs.contains x = true → ∀ kvs, Mo.tab x = some kvs → TabAt K w (mg x) kvs
  fn : ∀ x, m.fns.contains x = true → ∃ f fd ps, mg x = some (.ref f) ∧ PySem.W.keepIn K (.ref f) = true ∧ Ps.FnG P w K mg base (L2.CX P w) n f fd ps (spT K XR (Mo.tb n) x) ∧ Binds K fd ps [] ∧ ∀ k, m.dfl.contains (x, k) = true → (Mo.kinds x).length = k ∧ Binds K fd ps [.none]
  mth : ∀ c k, Mo.isM c k = true → ∃ f fd ps, Cls K (He.ga K c) ∧ Meth K (He.ga K c) k f ∧ Ps.FnG P w K mg base (L2.CX P w) n f fd ps (spT K XR (Mo.tb n) (Pd.mth c k)) ∧ Binds K fd ps []
  cls : ∀ c, m.clss.contains c = true → isCN Mo n c = true → ∃ n' f fd ps, n = n' + 1 ∧ mg c = some (.ref (He.ga K c)) ∧ Mk K (He.ga K c) f ∧ Ps.FnG P w K mg base (L2.CX P w) n' f fd ps (spT K XR (Mo.tb n).low (Pd.mth c "__init__")) ∧ Binds K fd ps []
  fld : ∀ c f, Mo.isF c f = true → Cls K (He.ga K c) ∧ NoAttr K (He.ga K c) f
theorem fn_ok {n : Nat} (ok : Mok P w K mg base m Mo XR n) {x name qual : Str} {params : Arguments} {body : List Stmt} {scope : Scope} {f : Addr} {fd : FuncData} {N ps : List Str} {dvs : List V} (FD : FunD K name qual params body scope dvs [] f fd) (Sc : FnScope N ps scope)
    (hF : Mo.fns x = some ⟨F, N.length, trSs m N scope body⟩) (hks : F.length = ps.length) : Ps.FnG P w K mg base (L2.CX P w) (n + 1) f fd ps (spT K XR (Mo.tb (n + 1)) x) := by
  have kk : (Mo.tb (n + 1)).kinds x = F := by show Md.kinds Mo x = F; unfold Md.kinds; rw [hF]
  refine Ps.okG FD Sc (fun vs H Q E h => ?_) fun cdv A outer s H vs Q E hr h => ?_
  · obtain ⟨Pp, M, ds, _, _, ar, _⟩ := h
    rw [kk] at ar
    rw [ar.len.1, hks]
  obtain ⟨Pp, M, ds, mt, pm, ar, ne, h⟩ := h
  rw [kk] at ar ne h
  have S : SXs m (Mo.tb n) XR n (fun cls d _ H => E cls d H) (cxOf (L2.CX P w) P w K mg base N qual scope f cdv A outer s H E) :=
    ⟨⟨rfl, Sc.nd, hr, takes_of rfl rfl rfl rfl, ok.blt, ok.cst, ok.tab, ok.fn, ok.mth, ok.cls, ok.fld⟩, passes_of rfl, fun _ => rfl, Sc.kind⟩
  refine ⟨_, body_ok S body, ?_⟩
  -- the call, opened
  have hc : (Mo.tb (n + 1)).call x ds = (if ds.length = F.length ∧ F.length ≤ N.length then
        match execs (Mo.tb n) (trSs m N scope body) (enter ⟨F, N.length, trSs m N scope body⟩ ds) with
        | .ok (.rt own d ρ) => leave ⟨F, N.length, trSs m N scope body⟩ own d ρ
        | .ok (.nx ρ) => leave ⟨F, N.length, trSs m N scope body⟩ false .non ρ
        | .ex x _ => .ex x
        | _ => .no
      else .no) := by
    show callN Mo (n + 1) x ds = _
    rw [callN_succ, hF] <;> rfl
  rw [hc] at h
  by_cases hl : ds.length = F.length ∧ F.length ≤ N.length
  case neg => rw [if_neg hl] at h; exact h.elim
  rw [if_pos hl] at h
  have er : EnvR K (fx0 Pp F vs) M H (start N vs) (enter ⟨F, N.length, trSs m N scope body⟩ ds) := enter_env (Fn := ⟨F, N.length, trSs m N scope body⟩) mt pm ar ne rfl hl.2
  refine ⟨fx0 Pp F vs, M, _, er, ?_⟩
  have kp : ∀ a, Pp a → (fx0 Pp F vs).k a := fun a p => .inl p
  -- what a return gives
  have fin : ∀ (own : Bool) (d : D) (ρ' : Env) (v : V) (σ' : L2.St) (M' : Ad) (H' : Hp), (match leave ⟨F, N.length, trSs m N scope body⟩ own d ρ' with
      | .ok own d outs => ∀ v M' H', Ev Pp M H M' H' → (∀ a, M' a → Mut (H' a)) → OutsR K M' H' F vs outs → (if own = true then ∃ a, v = .ref a ∧ M' a ∧ ¬ Pp a ∧ ¬ IoA F vs a ∧ Con K M' H' a d else Rep K M' H' v d) → Q v H'
      | .ex x => ∀ c da M' H', Ev Pp M H M' H' → (∀ a, M' a → Mut (H' a)) → XR M' H' x c da → E c da H'
      | .no => False) → Ev (fx0 Pp F vs).k M H M' H' → EnvR K (fx0 Pp F vs) M' H' σ' ρ' → RvR K (fx0 Pp F vs) M' H' σ' ρ' own v d → Q v H' := by
    intro own d ρ' v σ' M' H' h ev er' rv
    unfold leave at h
    cases ho : outsOf F ρ' with
    | none => dsimp only at h; rw [ho] at h; exact h.elim
    | some outs =>
      dsimp only at h
      rw [ho] at h
      refine h v M' H' (ev.mono kp) er'.mt (outs_r ar ho fun i a d hi hs => ?_) ?_
      · obtain ⟨b, q1, q2, q3, q4, q5⟩ := er'.sl i _ hs
        have : ioAt F vs i = some b := q4
        rw [hi] at this
        cases this
        exact ⟨q2, q5⟩
      · cases own with
        | false => exact rv
        | true =>
          obtain ⟨a, rfl, ma, nk, ns, c⟩ := rv
          refine ⟨a, rfl, ma, fun z => nk (.inl z), fun z => ?_, c⟩
          obtain ⟨i, hi⟩ := ioA_at z
          obtain ⟨d', q⟩ := er'.lent i a hi
          rcases q with q | q
          · obtain ⟨b, q1, _, _, q4, _⟩ := er'.sl i _ q
            have : ioAt F vs i = some b := q4
            rw [hi] at this
            cases this
            exact ns i (by unfold mineAt; rw [q]; rfl) q1
          · obtain ⟨b, _, _, q3, _⟩ := er'.sl i _ q
            exact q3.elim
  unfold AtS
  have key : execs (Mo.tb n) (trSs m (cxOf (L2.CX P w) P w K mg base N qual scope f cdv A outer s H E).N (cxOf (L2.CX P w) P w K mg base N qual scope f cdv A outer s H E).env.scope body) (enter ⟨F, N.length, trSs m N scope body⟩ ds) = execs (Mo.tb n) (trSs m N scope body) (enter ⟨F, N.length, trSs m N scope body⟩ ds) := rfl
  rw [key]
  cases e : execs (Mo.tb n) (trSs m N scope body) (enter ⟨F, N.length, trSs m N scope body⟩ ds) with
  | no => rw [e] at h; exact h.elim
  | ex z ρ' =>
    rw [e] at h
    exact fun c da σ' M' H' ev er' _ xr => h c da M' H' (ev.mono kp) er'.mt xr
  | ok fl =>
    rw [e] at h
    cases fl with
    | rt own d ρ' => exact fun v σ' M' H' ev er' _ rv => fin own d ρ' v σ' M' H' h ev er' rv
    | nx ρ' => exact fun σ' M' H' ev er' _ => fin false .non ρ' .non σ' M' H' h ev er' .non
    | bk _ => exact h.elim
    | ct _ => exact h.elim
end
end Pd
set_option Elab.async false
set_option linter.all false
/-! Pd19: the module: all defs keep their promises; the law's end. -/
namespace Pd
open PySem PySem.Spec PyProof.Rows L2
structure DefI where
  x : Str
  at_ : Str × Option Str
  name : Str
  qual : Str
  params : Arguments
  body : List Stmt
  scope : Scope
  N : List Str
  ps : List Str
  ks : List Kd
  dfl : Bool := false
def DefI.of (st : Stmt) (x : Str) (N ps : List Str) (ks : List Kd) : DefI := ⟨x, (x, none), x, x, defArgs st, defBody st, defScope st, N, ps, ks, false⟩
/-- a method -/
def DefI.me (st : Stmt) (c k : Str) (N ps : List Str) (ks : List Kd) : DefI := ⟨mth c k, (c, some k), k, mth c k, defArgs st, defBody st, defScope st, N, ps, ks, false⟩
def DefI.dv (d : DefI) : List He.Dv := if d.dfl = true then [.non] else []
abbrev DefI.he (d : DefI) : He.DefD := ⟨d.at_, d.name, d.qual, d.params, d.body, d.scope, d.dv, []⟩
def DefI.fn (m : Ms) (d : DefI) : Fn := ⟨d.ks, d.N.length, trSs m d.N d.scope d.body⟩
def DefI.chk (d : DefI) : Bool := (match d.scope.kind with | .function => true | _ => false) && !d.scope.isCoroutine && !d.scope.isGenerator && decide d.N.Nodup && decide (d.N.take d.ps.length = d.ps) &&
  (d.ps.all fun x => match d.scope.names.lookup x with | some .local => true | some .cell => true | _ => false) && (d.scope.names.all fun y => match y.2 with | .free => false | _ => true) && decide (d.ks.length = d.ps.length)
theorem DefI.sc {d : DefI} (h : d.chk = true) : FnScope d.N d.ps d.scope ∧ d.ks.length = d.ps.length := by
  unfold DefI.chk at h
  simp only [Bool.and_eq_true, Bool.not_eq_true', decide_eq_true_eq, List.all_eq_true] at h
  obtain ⟨⟨⟨⟨⟨⟨⟨h1, h2⟩, h3⟩, h4⟩, h5⟩, h6⟩, h7⟩, h8⟩ := h
  refine ⟨⟨?_, h2, h3, h4, h5, fun x hx => ?_, fun y hy z => ?_⟩, h8⟩
  · split at h1
    · assumption
    · cases h1
  · have := h6 x hx
    split at this
    · rename_i e; exact .inl e
    · rename_i e; exact .inr e
    · cases this
  · have := h7 y hy
    rw [z] at this
    cases this
/-- the arguments go to the parameters -/
def DefI.bnd0 (d : DefI) : Prop := ∀ (kV doc pm : Value) (an : Option Addr) (cdv ct : Value) (us : List Value), us.length = d.ps.length → bindArgs (PySem.W.fnOf d.name d.qual d.params d.body d.scope .none kV doc pm an cdv ct) ⟨us, []⟩ = pure (d.ps.zip us)
/-- .. the last one may be left out -/
def DefI.bnd1 (d : DefI) (j : Nat) : Prop := ∀ (T : Addr) (kV doc pm : Value) (an : Option Addr) (cdv ct : Value) (us its : List Value), us.length + (1 - j) = d.ps.length → its.length = 1 →
  ∃ k, bindArgs (PySem.W.fnOf d.name d.qual d.params d.body d.scope (.ref T) kV doc pm an cdv ct) ⟨us, []⟩ = seqItems? (.ref T) >>= k ∧ k (some its.toArray) = pure (d.ps.zip (us ++ its.drop j))
def DefI.bnd (d : DefI) : Prop := (d.dfl = false → d.bnd0) ∧ (d.dfl = true → d.ps ≠ [] ∧ d.bnd1 1 ∧ d.bnd1 0)
theorem DefI.bnd_of {d : DefI} (h : d.bnd0) (hd : d.dfl = false) : d.bnd := ⟨fun _ => h, fun z => by rw [hd] at z; cases z⟩
/-- what a module has beside its defs: built-ins that stay free, ints, tables by texts -/
structure ModI where
  free : List Str
  cts : List (Str × Int) := []
  tabs : List (Str × List (Str × D)) := []
  cls : List (Str × List Str × List Str) := []
  lks : List (List Str × Str) := []
/-- the facts of a class -/
def clsFa (k : Str × List Str × List Str) : List He.Fa := .glo k.1 :: .cls k.1 :: .mkr k.1 :: (k.2.1.map (.meth k.1) ++ k.2.2.map (.noat k.1))
def plainDs (ds : List DefI) : List DefI := ds.filter fun d => decide (d.at_ = (d.x, none))
def faOf (ds : List DefI) (free : ModI) : List He.Fa := ((((plainDs ds).map (fun d => .glo d.x) ++ free.free.map .free) ++ free.cts.map fun c => .int c.1 c.2) ++ free.tabs.map fun t => .glo t.1) ++ free.cls.flatMap clsFa
def msOf (ds : List DefI) (free : ModI) : Ms := ⟨(plainDs ds).map (·.x), free.free, free.cts.map (·.1), free.cls.map (·.1), free.cls.flatMap (·.2.1), free.tabs.map (·.1), free.lks, ((plainDs ds).filter (·.dfl)).map fun d => (d.x, d.ps.length)⟩
def mdOf (ds : List DefI) (free : ModI) : Md := ⟨fun x => (ds.find? fun d => decide (d.x = x)).map (DefI.fn (msOf ds free)), fun x => (free.cts.find? fun c => decide (c.1 = x)).map fun c => .int c.2, fun x => (free.tabs.find? fun c => decide (c.1 = x)).map fun c => c.2, fun c => free.cls.any fun k => decide (k.1 = c), fun c m => free.cls.any fun k => decide (k.1 = c) && k.2.1.contains m, fun c f => free.cls.any fun k => decide (k.1 = c) && k.2.2.contains f⟩
/-- each class's methods are among the defs -/
def clsChk (ds : List DefI) (free : ModI) : Bool := free.cls.all fun k => (("__init__" : Str) :: k.2.1).all fun m => ds.any fun d => decide (d.at_ = (k.1, some m)) && decide (d.x = mth k.1 m)
/-! ### what is looked at when the module has run -/
def intsB : List D → List Value → Bool
  | [], [] => true
  | .int i :: ds, .int j _ :: vs => decide (j = i) && intsB ds vs
  | _, _ => false
def tupB (ds : List D) : Option Obj → Bool
  | some ⟨.type c, _, .seq its _, _⟩ => decide (c = "tuple") && (decide (its.size ≤ 1000) && intsB ds its.toList)
  | _ => false
def datB (K : PySem.W.Frag) (u : Value) : D → Bool
  | .int i => match u with
    | .int j _ => decide (j = i)
    | _ => false
  | .kt ns => match u with
    | .ref a => tupB (ns.map .int) (K.lookup a)
    | _ => false
  | _ => false
theorem intsB_v {ds : List D} {vs : List Value} (h : intsB ds vs = true) : ∃ ns : List Int, Vals (ns.map V.int) vs ∧ ds = ns.map .int := by
  induction ds generalizing vs with
  | nil =>
    cases vs with
    | nil => exact ⟨[], .nil, rfl⟩
    | cons _ _ => cases h
  | cons d ds ih =>
    cases vs with
    | nil => cases d <;> cases h
    | cons v vs =>
      cases d with
      | int i =>
        cases v with
        | int j t =>
          have h1 : (decide (j = i) && intsB ds vs) = true := h
          rw [Bool.and_eq_true, decide_eq_true_eq] at h1
          obtain ⟨rfl, h2⟩ := h1
          obtain ⟨ns, a, b⟩ := ih h2
          exact ⟨j :: ns, .cons ⟨t, rfl⟩ a, by rw [b]; rfl⟩
        | _ => cases h
      | _ => cases h
theorem datB_ok {K : PySem.W.Frag} {u : Value} {d : D} (h : datB K u d = true) : ∃ v, L2.RelV v u ∧ ∀ M H, Rep K M H v d := by
  cases d with
  | int i =>
    cases u with
    | int j t =>
      obtain rfl : j = i := of_decide_eq_true h
      exact ⟨.int j, ⟨t, rfl⟩, fun M H => .int _⟩
    | _ => cases h
  | kt ms =>
    cases u with
    | ref a =>
      have h1 : tupB (ms.map .int) (K.lookup a) = true := h
      cases e : K.lookup a with
      | none => rw [e] at h1; cases h1
      | some o =>
        rw [e] at h1
        obtain ⟨oc, od, dt, osl⟩ := o
        cases oc with
        | type c =>
          cases dt with
          | seq its n =>
            have h2 : (decide (c = "tuple") && (decide (its.size ≤ 1000) && intsB (ms.map .int) its.toList)) = true := h1
            rw [Bool.and_eq_true, Bool.and_eq_true, decide_eq_true_eq, decide_eq_true_eq] at h2
            obtain ⟨rfl, h3, h4⟩ := h2
            obtain ⟨ns, rv, em⟩ := intsB_v h4
            have ez : ms = ns := by
              have := congrArg (List.map fun d => match d with | D.int i => i | _ => 0) em
              simpa [List.map_map, Function.comp_def] using this
            subst ez
            exact ⟨.ref a, rfl, fun M H => .kt ⟨_, its, n, e, rfl, rfl, Nat.le_trans h3 (by rw [sizeLine_eq]; decide), rv⟩⟩
          | _ => cases h1
        | _ => cases dt <;> cases h1
    | _ => cases h
  | _ => cases h
def tabB (K : PySem.W.Frag) (t : Str × List (Str × D)) : Bool := t.2.all fun q => match PySem.W.nsIn K (He.ga K t.1) q.1 with
  | some (some u) => datB K u q.2
  | _ => false
def tabsT (ts : List (Str × List (Str × D))) : List He.Tab := ts.map fun t => (fun K => He.ga K t.1, t.2.map (·.1))
abbrev AlP : Type := He.AlT × Bool
def obsP (fa : List He.Fa) (fn : List He.DefD) (ts : List (Str × List (Str × D))) (K : PySem.W.Frag) : AlP := (He.obsT fa fn (tabsT ts) K, ts.all (tabB K))
def valP (fn : List He.DefD) (ts : List (Str × List (Str × D))) (w : World) : AlP := (He.valT fn (tabsT ts) w, true)
def SaysP (fa : List He.Fa) (fn : List He.DefD) (ts : List (Str × List (Str × D))) (w : World) (K : PySem.W.Frag) : Prop := obsP fa fn ts K = valP fn ts w
theorem SaysP.d {fa : List He.Fa} {fn : List He.DefD} {ts : List (Str × List (Str × D))} {w : World} {K : PySem.W.Frag} (c : SaysP fa fn ts w K) : He.SaysD fa fn K := He.SaysT.d (w := w) (ts := tabsT ts) (congrArg (fun z : AlP => z.1) c)
theorem SaysP.tab {fa : List He.Fa} {fn : List He.DefD} {ts : List (Str × List (Str × D))} {w : World} {K : PySem.W.Frag} (c : SaysP fa fn ts w K) {t : Str × List (Str × D)} (ht : t ∈ ts) : ∃ es n, KDict K w (He.ga K t.1) es n ∧ es.toList.map He.keyOf = He.keysIn w.params (t.2.map (·.1)) ∧ tabB K t = true := by
  have c1 : He.obsT fa fn (tabsT ts) K = He.valT fn (tabsT ts) w := congrArg (fun z : AlP => z.1) c
  have e : (tabsT ts).map (fun t => He.dicW K (t.1 K)) = (tabsT ts).map fun t => some (He.keysIn w.params t.2) := congrArg (fun z : He.AlT => z.2) c1
  obtain ⟨i, hi, ei⟩ := List.mem_iff_getElem.mp ht
  have e2 : ((tabsT ts).map fun t => He.dicW K (t.1 K))[i]? = ((tabsT ts).map fun t => some (He.keysIn w.params t.2))[i]? := by rw [e]
  have e3 : (tabsT ts)[i]? = some (fun K => He.ga K t.1, t.2.map (·.1)) := by
    unfold tabsT
    rw [List.getElem?_map, List.getElem?_eq_getElem hi, ei]; rfl
  rw [List.getElem?_map, List.getElem?_map, e3] at e2
  have e4 : He.dicW K (He.ga K t.1) = some (He.keysIn w.params (t.2.map (·.1))) := Option.some.inj e2
  obtain ⟨es, n, KD⟩ := He.dicW_ok e4
  refine ⟨es, n, KD, ?_, ?_⟩
  · unfold He.dicW at e4
    rw [KD.at_] at e4
    simp only [KD.low] at e4
    exact Option.some.inj (by simpa using e4)
  · exact List.all_eq_true.mp (show ts.all (tabB K) = true from congrArg (fun z : AlP => z.2) c) t ht
theorem lookup_none {l : List (Str × D)} {z : Str} (h : l.lookup z = none) : z ∉ l.map (·.1) := by
  induction l with
  | nil => simp
  | cons p l ih =>
    obtain ⟨k, d⟩ := p
    rw [List.lookup_cons] at h
    split at h
    · cases h
    · rename_i hk
      rw [List.map_cons, List.mem_cons]
      rintro (rfl | hm)
      · simp at hk
      · exact ih h hm
theorem lookup_mem {l : List (Str × D)} {z : Str} {d : D} (h : l.lookup z = some d) : (z, d) ∈ l := by
  induction l with
  | nil => cases h
  | cons p l ih =>
    obtain ⟨k, e⟩ := p
    rw [List.lookup_cons] at h
    split at h
    · rename_i hk
      obtain rfl := Option.some.inj h
      have : z = k := by simpa using hk
      subst this
      exact List.mem_cons_self
    · exact List.mem_cons_of_mem _ (ih h)
theorem SaysP.at {fa : List He.Fa} {fn : List He.DefD} {ts : List (Str × List (Str × D))} {w : World} {K : PySem.W.Frag} (c : SaysP fa fn ts w K) {t : Str × List (Str × D)} (ht : t ∈ ts) : TabAt K w (some (.ref (He.ga K t.1))) t.2 := by
  obtain ⟨es, n, KD, hk, hv⟩ := c.tab ht
  refine ⟨_, es, n, rfl, KD, fun z => ?_⟩
  cases e : t.2.lookup z with
  | some d =>
    have h1 := List.all_eq_true.mp hv _ (lookup_mem e)
    dsimp only at h1 ⊢
    split at h1
    · rename_i u hu
      obtain ⟨v, r, q⟩ := datB_ok h1
      exact ⟨u, v, hu, r, q⟩
    · cases h1
  | none =>
    have hz := lookup_none e
    have key : ∀ en ∈ es.toList, ∃ k tk, en.key = .str k tk ∧ k ≠ z := by
      intro en hen
      have h1 : He.keyOf en ∈ He.keysIn w.params (t.2.map (·.1)) := hk ▸ List.mem_map.mpr ⟨en, hen, rfl⟩
      obtain ⟨k, hk1, hk2⟩ := List.mem_map.mp h1
      unfold He.keyOf at hk2
      split at hk2
      · rename_i x tk q
        have h3 := Option.some.inj hk2
        obtain ⟨h4, _⟩ := Prod.mk.inj h3
        refine ⟨x, tk, q, fun zz => hz ?_⟩
        rw [← zz, ← h4]
        exact hk1
      · cases hk2
    show PySem.W.nsIn K _ z = some none
    unfold PySem.W.nsIn
    rw [KD.at_]
    dsimp only
    have f1 : es.toList.find? (fun x => x.key.isStr z) = none := by
      rw [List.find?_eq_none]
      intro en hen
      obtain ⟨k, tk, q, hne⟩ := key en hen
      rw [q]
      show ¬ (k == z) = true
      simpa using hne
    have f2 : es.toList.any (fun x => x.refKey) = false := by
      rw [List.any_eq_false]
      intro en hen
      obtain ⟨k, tk, q, hne⟩ := key en hen
      unfold DictEntry.refKey
      rw [q]
      exact Bool.false_ne_true
    rw [f1, f2]
    rfl
theorem contains_mem {l : List Str} {x : Str} (h : l.contains x = true) : x ∈ l := by simpa using h
section
variable {P : Program} {w : World} {K : PySem.W.Frag} {mg : Str → Option Value} {base h : Heap} {XR : XRel} {ds : List DefI} {free : ModI}
theorem find_mem (hx : (ds.map (·.x)).Nodup) {d : DefI} (hd : d ∈ ds) : (ds.find? fun e => decide (e.x = d.x)) = some d := by
  have : ∀ {l : List DefI}, (l.map (·.x)).Nodup → d ∈ l → l.find? (fun e => decide (e.x = d.x)) = some d := by
    intro l
    induction l with
    | nil => intro _ h; cases h
    | cons a l ih =>
      intro hn hm
      rw [List.map_cons, List.nodup_cons] at hn
      rcases List.mem_cons.mp hm with rfl | hm
      · rw [List.find?_cons_of_pos (by simp)]
      · rw [List.find?_cons_of_neg (by
          simp only [decide_eq_true_eq]
          intro z
          exact hn.1 (z ▸ List.mem_map.mpr ⟨d, hm, rfl⟩))]
        exact ih hn.2 hm
  exact this hx hd
theorem find_def (hx : (ds.map (·.x)).Nodup) {d : DefI} (hd : d ∈ ds) : (mdOf ds free).fns d.x = some (d.fn (msOf ds free)) := by
  show (ds.find? fun e => decide (e.x = d.x)).map _ = _
  have : ∀ {l : List DefI}, (l.map (·.x)).Nodup → d ∈ l → l.find? (fun e => decide (e.x = d.x)) = some d := by
    intro l
    induction l with
    | nil => intro _ h; cases h
    | cons a l ih =>
      intro hn hm
      rw [List.map_cons, List.nodup_cons] at hn
      rcases List.mem_cons.mp hm with rfl | hm
      · rw [List.find?_cons_of_pos (by simp)]
      · rw [List.find?_cons_of_neg (by
          simp only [decide_eq_true_eq]
          intro z
          exact hn.1 (z ▸ List.mem_map.mpr ⟨d, hm, rfl⟩))]
        exact ih hn.2 hm
  rw [this hx hd]
  rfl
theorem spT0 {x : Str} {vs : List V} {H : Hp} {Q : VK} {E : XK} {Mo : Md} : ¬ spT K XR (Mo.tb 0) x vs H Q E := by
  rintro ⟨Pp, M, ds, _, _, _, _, h⟩
  exact h
/-- all defs keep their promises at n -/
def DefsOk (P : Program) (w : World) (K : PySem.W.Frag) (mg : Str → Option Value) (base : Heap) (XR : XRel) (ds : List DefI) (free : ModI) (n : Nat) : Prop :=
  ∀ d ∈ ds, ∃ fd, Ps.FnG P w K mg base (L2.CX P w) n (He.fAd K d.at_) fd d.ps (spT K XR ((mdOf ds free).tb n) d.x) ∧ Binds K fd d.ps [] ∧ PySem.W.keepIn K (.ref (He.fAd K d.at_)) = true ∧ (d.dfl = true → d.ks.length = d.ps.length ∧ Binds K fd d.ps [.none])
theorem cls_mem {free : ModI} {c k : Str} {g : Str × List Str × List Str → List Str} (h : (free.cls.any fun q => decide (q.1 = c) && (g q).contains k) = true) : ∃ q ∈ free.cls, q.1 = c ∧ k ∈ g q := by
  obtain ⟨q, hq, e⟩ := List.any_eq_true.mp h
  rw [Bool.and_eq_true, decide_eq_true_eq] at e
  exact ⟨q, hq, e.1, by simpa using e.2⟩
theorem cls_fact (c : SaysP (faOf ds free) (ds.map DefI.he) free.tabs w K) {q : Str × List Str × List Str} (hq : q ∈ free.cls) {f : He.Fa} (hf : f ∈ clsFa q) : f.ok K = true :=
  c.d.facts (List.mem_append_right _ (List.mem_flatMap.mpr ⟨q, hq, hf⟩))
theorem mok_of (hx : (ds.map (·.x)).Nodup) (hcc : clsChk ds free = true) (KX : K.In h) (G : h.Ns mainGlobals mg) (c : SaysP (faOf ds free) (ds.map DefI.he) free.tabs w K) {n : Nat} (D0 : DefsOk P w K mg base XR ds free n) (D1 : ∀ n', n = n' + 1 → DefsOk P w K mg base XR ds free n') :
    Mok P w K mg base (msOf ds free) (mdOf ds free) XR n := by
  have find : ∀ q ∈ free.cls, ∀ k ∈ (("__init__" : Str) :: q.2.1), ∃ d ∈ ds, d.at_ = (q.1, some k) ∧ d.x = mth q.1 k := fun q hq k hk => by
    have h1 := List.all_eq_true.mp (List.all_eq_true.mp hcc q hq) k hk
    obtain ⟨d, hd, e⟩ := List.any_eq_true.mp h1
    rw [Bool.and_eq_true, decide_eq_true_eq, decide_eq_true_eq] at e
    exact ⟨d, hd, e.1, e.2⟩
  refine ⟨fun x hx => ?_, fun x _ d hd => ?_, fun x _ kvs hk => ?_, fun x hx' => ?_, fun cl k hm => ?_, fun cl _ hC => ?_, fun cl f hf => ?_⟩
  · exact He.free_ok KX G (c.d.facts (f := .free x) (List.mem_append_left _ (List.mem_append_left _ (List.mem_append_left _ (List.mem_append_right _ (List.mem_map.mpr ⟨x, contains_mem hx, rfl⟩))))))
  · obtain ⟨e, h1, h2⟩ := Option.map_eq_some_iff.mp (show (free.cts.find? fun c => decide (c.1 = x)).map (fun c => D.int c.2) = some d from hd)
    have hx : e.1 = x := by simpa using List.find?_some h1
    obtain ⟨t, ht⟩ := He.int_ok KX G (c.d.facts (f := .int e.1 e.2) (List.mem_append_left _ (List.mem_append_left _ (List.mem_append_right _ (List.mem_map.mpr ⟨e, List.mem_of_find?_eq_some h1, rfl⟩)))))
    rw [hx] at ht
    subst h2
    exact ⟨.int e.2, _, ht, ⟨t, rfl⟩, fun M H => .int _⟩
  · obtain ⟨e, h1, h2⟩ := Option.map_eq_some_iff.mp (show (free.tabs.find? fun c => decide (c.1 = x)).map (fun c => c.2) = some kvs from hk)
    have hx : e.1 = x := by simpa using List.find?_some h1
    have hm := List.mem_of_find?_eq_some h1
    have hg := He.glo_ok KX G (c.d.facts (f := .glo e.1) (List.mem_append_left _ (List.mem_append_right _ (List.mem_map.mpr ⟨e, hm, rfl⟩))))
    subst h2
    rw [← hx, hg]
    exact c.at hm
  · obtain ⟨d, hd, rfl⟩ := List.mem_map.mp (contains_mem (l := (plainDs ds).map (·.x)) hx')
    have hd' := List.mem_filter.mp hd
    have hat : d.at_ = (d.x, none) := of_decide_eq_true hd'.2
    obtain ⟨fd, F, hb, hk, hdf⟩ := D0 d hd'.1
    have ea : He.fAd K d.at_ = He.ga K d.x := by rw [hat]; rfl
    rw [ea] at F hk
    refine ⟨_, fd, d.ps, He.glo_ok KX G (c.d.facts (f := .glo d.x) (List.mem_append_left _ (List.mem_append_left _ (List.mem_append_left _ (List.mem_append_left _ (List.mem_map.mpr ⟨d, hd, rfl⟩)))))), hk, F, hb, fun k hk => ?_⟩
    have h1 := (List.contains_iff_mem.mp hk : (d.x, k) ∈ ((plainDs ds).filter (·.dfl)).map fun d => (d.x, d.ps.length))
    obtain ⟨d2, hd2, e2⟩ := List.mem_map.mp h1
    obtain ⟨e3, e4⟩ := Prod.mk.inj e2
    obtain ⟨hd3, hd4⟩ := List.mem_filter.mp hd2
    have : d2 = d := by
      have f1 := find_def (free := free) hx (List.mem_filter.mp hd3).1
      have f2 : (ds.find? fun e => decide (e.x = d2.x)) = some d2 := find_mem hx (List.mem_filter.mp hd3).1
      have f3 : (ds.find? fun e => decide (e.x = d.x)) = some d := find_mem hx hd'.1
      rw [e3] at f2
      exact Option.some.inj (f2.symm.trans f3)
    subst this
    obtain ⟨g1, g2⟩ := hdf hd4
    refine ⟨?_, g2⟩
    have kk : (mdOf ds free).kinds d2.x = d2.ks := by unfold Md.kinds; rw [find_def hx hd'.1]; rfl
    rw [kk, g1, e4]
  · obtain ⟨q, hq, rfl, hk⟩ := cls_mem (g := fun q => q.2.1) hm
    obtain ⟨d, hd, e1, e2⟩ := find q hq k (List.mem_cons_of_mem _ hk)
    obtain ⟨fd, F, hb, _⟩ := D0 d hd
    rw [e1, e2] at F
    exact ⟨_, fd, d.ps, He.cls_ok (cls_fact c hq (by simp [clsFa])), He.meth_ok (cls_fact c hq (f := .meth q.1 k) (by simp [clsFa, hk])), F, hb⟩
  · cases n with
    | zero => cases hC
    | succ n =>
      have hC' : (free.cls.any fun k => decide (k.1 = cl)) = true := hC
      obtain ⟨q, hq, e⟩ := List.any_eq_true.mp hC'
      have e := of_decide_eq_true e
      subst e
      obtain ⟨d, hd, e1, e2⟩ := find q hq _ List.mem_cons_self
      obtain ⟨fd, F, hb, _⟩ := D1 n rfl d hd
      rw [e1, e2] at F
      exact ⟨n, _, fd, d.ps, rfl, He.glo_ok KX G (cls_fact c hq (by simp [clsFa])), He.mkr_ok (cls_fact c hq (f := .mkr q.1) (by simp [clsFa])), F, hb⟩
  · obtain ⟨q, hq, rfl, hk⟩ := cls_mem (g := fun q => q.2.2) hf
    exact ⟨He.cls_ok (cls_fact c hq (by simp [clsFa])), He.noat_ok (cls_fact c hq (f := .noat q.1 f) (by simp [clsFa, hk]))⟩
theorem def_at (c : SaysP (faOf ds free) (ds.map DefI.he) free.tabs w K) {d : DefI} (hd : d ∈ ds) : ∃ fd, FunD K d.name d.qual d.params d.body d.scope (if d.dfl = true then [.non] else []) [] (He.fAd K d.at_) fd := by
  obtain ⟨i, hi⟩ := List.getElem?_of_mem hd
  obtain ⟨fd, F⟩ := c.d.def_ i (d := d.he) (by rw [List.getElem?_map, hi] <;> rfl)
  refine ⟨fd, ?_⟩
  have e : d.he.dvs K = (if d.dfl = true then [.non] else []) := by
    show (DefI.dv d).map (He.Dv.v K) = _
    unfold DefI.dv
    split <;> rfl
  rw [← e]
  exact F
theorem vals_non {us : List Value} (h : Vals [V.non] us) : us = [.none] := by
  cases h with
  | cons a b => cases b; exact congrArg (fun z => [z]) a
theorem binds_of {d : DefI} {fd : FuncData} {f : Addr} (F : FunD K d.name d.qual d.params d.body d.scope (if d.dfl = true then [.non] else []) [] f fd) (hb : d.bnd) : Binds K fd d.ps [] ∧ (d.dfl = true → Binds K fd d.ps [.none]) := by
  cases hd : d.dfl with
  | false =>
    rw [hd, if_neg Bool.false_ne_true] at F
    exact ⟨F.bindsN (hb.1 hd), fun z => nomatch z⟩
  | true =>
    rw [hd, if_pos rfl] at F
    obtain ⟨h1, h2, h3⟩ := hb.2 hd
    have hl : d.ps.length ≠ 0 := fun z => h1 (List.eq_nil_of_length_eq_zero z)
    obtain ⟨es, v1, b1⟩ := F.binds1 d.ps.length 1 (by simp) (by simp) fun T kV doc pm an cdv ct us its l1 l2 => h2 T kV doc pm an cdv ct us its (by omega) l2
    obtain ⟨es2, v2, b2⟩ := F.binds1 (d.ps.length - 1) 0 (by simp) (by simp; omega) fun T kV doc pm an cdv ct us its l1 l2 => h3 T kV doc pm an cdv ct us its (by omega) l2
    have e1 : es = [] := by cases v1; rfl
    have e2 : es2 = [.none] := vals_non v2
    subst e1 e2
    exact ⟨b1, fun _ => b2⟩
theorem defs_ok (hx : (ds.map (·.x)).Nodup) (hchk : ∀ d ∈ ds, d.chk = true) (hb : ∀ d ∈ ds, d.bnd) (hcc : clsChk ds free = true) (KX : K.In h) (G : h.Ns mainGlobals mg) (c : SaysP (faOf ds free) (ds.map DefI.he) free.tabs w K) :
    ∀ n, DefsOk P w K mg base XR ds free n ∧ ∀ n', n = n' + 1 → DefsOk P w K mg base XR ds free n' := by
  intro n
  induction n with
  | zero =>
    refine ⟨fun d hd => ?_, fun n' z => nomatch z⟩
    obtain ⟨fd, F⟩ := def_at c hd
    exact ⟨fd, ⟨fun _ _ _ _ z => (spT0 z).elim, fun _ _ _ _ _ _ _ _ _ _ _ _ _ z => (spT0 z).elim⟩, (binds_of F (hb d hd)).1, F.kp, fun z => ⟨(DefI.sc (hchk d hd)).2, (binds_of F (hb d hd)).2 z⟩⟩
  | succ n ih =>
    refine ⟨fun d hd => ?_, fun n' z => by cases z; exact ih.1⟩
    obtain ⟨fd, F⟩ := def_at c hd
    obtain ⟨Sc, hk⟩ := DefI.sc (hchk d hd)
    exact ⟨fd, fn_ok (mok_of hx hcc KX G c ih.1 ih.2) F Sc (find_def hx hd) hk, (binds_of F (hb d hd)).1, F.kp, fun z => ⟨hk, (binds_of F (hb d hd)).2 z⟩⟩
theorem mok_all (hx : (ds.map (·.x)).Nodup) (hchk : ∀ d ∈ ds, d.chk = true) (hb : ∀ d ∈ ds, d.bnd) (hcc : clsChk ds free = true) (KX : K.In h) (G : h.Ns mainGlobals mg) (c : SaysP (faOf ds free) (ds.map DefI.he) free.tabs w K) (n : Nat) :
    Mok P w K mg base (msOf ds free) (mdOf ds free) XR n := by
  obtain ⟨a, b⟩ := defs_ok (P := P) (base := base) (XR := XR) hx hchk hb hcc KX G c n
  exact mok_of hx hcc KX G c a b
/-- exceptions whatever the world -/
def CXw (P : Program) : CXT := fun outer H s E e s' => ∃ w, L2.CX P w outer H s E e s'
theorem fnok_w {k : Nat} {f : Addr} {fd : FuncData} {ps : List Str} {sp : Sp} (F : Ps.FnG P w K mg base (L2.CX P w) k f fd ps sp) : Ps.FnG P w K mg base (CXw P) k f fd ps sp :=
  ⟨F.len, fun A outer s H args us vs Q E hr he hb hv hs => codeAny_mono (F.run A outer s H args us vs Q E hr he hb hv hs) fun r s' hq => by
    cases r with
    | ok fl => cases fl <;> exact hq
    | error e => exact ⟨w, hq⟩⟩
theorem cxw_no {H : Hp} {s : Shared} {e : Value} {s' : Shared} (h : CXw P [] H s (fun _ _ _ => False) e s') : False := by
  obtain ⟨w, a, B, H', cls, d, _, _, _, _, _, _, _, z⟩ := h
  exact z
theorem law_fn (hx : (ds.map (·.x)).Nodup) (hchk : ∀ d ∈ ds, d.chk = true) (hb : ∀ d ∈ ds, d.bnd) (hcc : clsChk ds free = true) (KX : K.In h) (G : h.Ns mainGlobals mg) (c : SaysP (faOf ds free) (ds.map DefI.he) free.tabs w K) {d : DefI} (hd : d ∈ ds) (hdf : d.dfl = false) (hat : d.at_ = (d.x, none)) {x : Str} (hps : d.ps = [x]) {f : Addr} (hf : mg d.x = some (.ref f)) (n : Nat) :
    ∃ fd : FuncData, (∀ (s : Shared) (u : Value), BindsTo s fd ⟨[u], []⟩ [(x, u)]) ∧ ∀ base : Heap, Ps.FnG P w K mg base (CXw P) (n + 1) f fd [x] (spT K XR ((mdOf ds free).tb (n + 1)) d.x) := by
  obtain ⟨fd, F⟩ := def_at c hd
  have e := He.glo_ok KX G (c.d.facts (f := .glo d.x) (List.mem_append_left _ (List.mem_append_left _ (List.mem_append_left _ (List.mem_append_left _ (List.mem_map.mpr ⟨d, List.mem_filter.mpr ⟨hd, decide_eq_true hat⟩, rfl⟩))))))
  have e2 := hf.symm.trans e
  cases e2
  have ea : He.fAd K d.at_ = He.ga K d.x := by rw [hat]; rfl
  rw [ea, hdf, if_neg Bool.false_ne_true] at F
  obtain ⟨Sc, hk⟩ := DefI.sc (hchk d hd)
  have b := FunD.bindsA F ((hb d hd).1 hdf)
  refine ⟨fd, fun s u => ?_, fun base => ?_⟩
  · have := b s [u] (by rw [hps] <;> rfl)
    rw [hps] at this
    exact this
  · have := fnok_w (fn_ok (mok_all (P := P) (w := w) (base := base) (XR := XR) hx hchk hb hcc KX G c n) F Sc (find_def hx hd) hk)
    rw [hps] at this
    exact this
/-- the law's promise at the script -/
theorem law_sp {k : Nat} {Mo : Md} {x : Str} {H : Hp} {a : Addr} {ns : List Int} (hO : Only H) (hS : SqL K H a (ns.map V.int)) (hk : Mo.kinds x = [.bo]) {outs : List D} (hv : callN Mo k x [.scr ns] = .ok false (.bl true) outs) : spT K XR (Mo.tb k) x [.ref a] H (fun v _ => v = .bl true) fun _ _ _ => False := by
  refine ⟨fun _ => False, fun _ => False, [.scr ns], (fun _ z => z.elim), (fun _ z => z), ?_, ?_, ?_⟩
  · show ArgsR K _ _ H (Mo.kinds x) _ _
    rw [hk]
    refine .bo (.inl (.scr ?_)) .nil
    rcases hS with hS | hS
    · rcases hS with hS | ⟨o, hS⟩
      · rcases hO a with z | ⟨o, xs, z⟩
        · rw [z] at hS; cases hS
        · rw [z] at hS; cases hS
      · exact .inl ⟨o, hS⟩
    · exact .inr hS
  · show IoNe (Mo.kinds x) _
    rw [hk]; trivial
  · have e : (Mo.tb k).call x [.scr ns] = .ok false (.bl true) outs := hv
    rw [e]
    intro v M' H' _ _ _ r
    have r' : Rep K M' H' v (.bl true) := r
    cases r'
    rfl
end
end Pd
set_option Elab.async false
set_option linter.all false
/-! Pd20: what every law has: its draws. -/
namespace Pd
open PySem L2
abbrev kCells : Str := "cells"
abbrev kAt : Str := "at"
abbrev kRest : Str := "rest"
abbrev kTurn : Str := "turn"
abbrev kMore : Str := "more"
abbrev kOwn : Str := "own"
def fBegun : Fn := ⟨[.bo], 4, [.set 1 (.and (.cmp .Gt (.bi .len [.var 0]) (.int 0)) (.cmp .Eq (.bin .Mod (.ix (.var 0) (.int 0)) (.int 2)) (.int 0))),
  .set 2 (.comp (.bi .abs [.var 3]) [3] true (.itr (.var 0)) .nil [3]),
  .ret (.dct [kCells, kAt, kRest, kTurn, kMore, kOwn] [.var 2, .int 0, .int 0, .int 0, .bin .Add (.int 7) (.bi .len [.var 0]), .var 1])]⟩
def fTake : Fn := ⟨[.io, .bo], 5, [.set 2 (.ix (.var 0) (.str kCells)),
  .ite (.ix (.var 0) (.str kOwn))
    [.whl (.and (.cmp .Eq (.ix (.var 0) (.str kRest)) (.int 0)) (.cmp .Lt (.ix (.var 0) (.str kAt)) (.bi .len [.var 2])))
        [.setIx 0 (.str kRest) (.bin .FloorDiv (.ix (.var 2) (.ix (.var 0) (.str kAt))) (.ix (.lst [.int 1, .int 2]) (.bi .int [.cmp .Eq (.ix (.var 0) (.str kAt)) (.int 0)]))),
          .setIx 0 (.str kAt) (.bin .Add (.ix (.var 0) (.str kAt)) (.int 1))],
      .ite (.cmp .Gt (.ix (.var 0) (.str kRest)) (.int 0))
        [.set 4 (.bin .Mod (.ix (.var 0) (.str kRest)) (.var 1)), .setIx 0 (.str kRest) (.bin .FloorDiv (.ix (.var 0) (.str kRest)) (.var 1)), .ret (.var 4)] []] [],
  .set 3 (.int 0),
  .ite (.cmp .Gt (.bi .len [.var 2]) (.int 0)) [.set 3 (.ix (.var 2) (.bin .Mod (.ix (.var 0) (.str kTurn)) (.bi .len [.var 2])))] [],
  .setIx 0 (.str kTurn) (.bin .Add (.ix (.var 0) (.str kTurn)) (.int 1)),
  .setIx 0 (.str kMore) (.bin .Mod (.bin .Add (.bin .Add (.bin .Mult (.ix (.var 0) (.str kMore)) (.int 48271)) (.var 3)) (.ix (.var 0) (.str kTurn))) (.int 2147483647)),
  .ret (.bin .Mod (.bin .Mod (.bin .Add (.bin .Mult (.ix (.var 0) (.str kMore)) (.ix (.var 0) (.str kMore))) (.bin .Mult (.int 16807) (.ix (.var 0) (.str kMore)))) (.int 2147483629)) (.var 1))]⟩
/-- the draws' state -/
def stD (cells : List Int) (at_ rest turn more : Int) (own : Bool) : D := .dct ([kCells, kAt, kRest, kTurn, kMore, kOwn].map fun k => .inl (.inr k)) [.lst (cells.map .int), .int at_, .int rest, .int turn, .int more, .bl own]
theorem seq_ok {T : Tb} {s : Sx} {ss : List Sx} {ρ ρ1 : Env} (h : exec T s ρ = .ok (.nx ρ1)) : execs T (s :: ss) ρ = execs T ss ρ1 := by rw [execs, h]
theorem seq_rt {T : Tb} {s : Sx} {ss : List Sx} {ρ ρ1 : Env} {o : Bool} {d : D} (h : exec T s ρ = .ok (.rt o d ρ1)) : execs T (s :: ss) ρ = .ok (.rt o d ρ1) := by rw [execs, h]
theorem one_nx {T : Tb} {s : Sx} {ρ : Env} {r : Res Fl} (h : exec T s ρ = r) : execs T [s] ρ = r := by
  rw [execs, h]
  cases r with
  | ok f => cases f <;> first | rfl | (rw [execs])
  | _ => rfl
theorem begun_comp (T : Tb) (a b c : Sl) : ∀ (ns : List Int) (s : Sl), (s = .no ∨ ∃ d, s = .fr d) → ∃ s', compL [3] true [3] (condD (evalV T .nil) .nil) (evalV T (.bi .abs [.var 3])) (ns.map .int) [a, b, c, s] = .ok (ns.map fun n => .int n.natAbs, [a, b, c, s'])
  | [], s, _ => ⟨s, rfl⟩
  | n :: ns, s, h => by
    obtain ⟨s', e⟩ := begun_comp T a b c ns (.fr (.int n)) (.inr ⟨_, rfl⟩)
    refine ⟨s', ?_⟩
    have hb : bindI [3] true (.int n) (wipeS [a, b, c, s] [3]) = some [a, b, c, .fr (.int n)] := rfl
    have he : evalV T (.bi .abs [.var 3]) [a, b, c, .fr (.int n)] = .ok ((false, .int n.natAbs), [a, b, c, .fr (.int n)]) := by
      simp [evalV, evalOs, opd, hasV, getOp, getOps, biD, optR, Sl.val]
    rw [List.map_cons, compL, hb]
    show (condD (evalV T .nil) .nil _ >>= _) = _
    rw [show condD (evalV T .nil) .nil [a, b, c, .fr (.int n)] = .ok (true, [a, b, c, .fr (.int n)]) from rfl, bind_ok]
    dsimp only
    rw [if_pos rfl, he, bind_ok]
    dsimp only
    rw [e]
    rfl
def ownD : List Int → Bool
  | [] => false
  | n :: _ => decide (n.fmod 2 = 0)
theorem eq_int (i j : Int) : eqD (.int i) (.int j) = some (decide (i = j)) := by
  unfold eqD
  simp [toPy, shp, PyData.canLay0, PyData.depth, PyData.eqv]
  exact Bool.eq_iff_iff.mpr (by simp)
theorem begun_ok (M : Md) (hM : M.fns "_law_begun" = some fBegun) (ns : List Int) (n : Nat) : callN M (n + 1) "_law_begun" [.scr ns] = .ok true (stD (ns.map fun k => (k.natAbs : Int)) 0 0 0 (7 + ns.length) (ownD ns)) [] := by
  rw [callN_succ, hM]
  dsimp only
  rw [if_pos ⟨rfl, by decide⟩]
  have e1 : exec (M.tb n) (.set 1 (.and (.cmp .Gt (.bi .len [.var 0]) (.int 0)) (.cmp .Eq (.bin .Mod (.ix (.var 0) (.int 0)) (.int 2)) (.int 0)))) [.bo (.scr ns), .no, .no, .no] = .ok (.nx [.bo (.scr ns), .fr (.bl (ownD ns)), .no, .no]) := by
    cases ns with
    | nil => simp [exec, evalV, evalOs, testD, op2, op1, opd, hasV, getOp, getOps, biD, optR, Sl.val, cmpV, cmpD, optF, setSl, ownD]
    | cons a r => simp [exec, evalV, evalOs, testD, op2, op1, opd, hasV, getOp, getOps, biD, optR, Sl.val, cmpV, cmpD, optF, setSl, ownD, ixV, ixD, atI, ixN, binD, eq_int]
  show (match execs (M.tb n) fBegun.body (enter fBegun [.scr ns]) with
    | .ok (.rt own d ρ) => leave fBegun own d ρ
    | .ok (.nx ρ) => leave fBegun false .non ρ
    | .ex x _ => .ex x
    | _ => .no) = _
  have he : enter fBegun [.scr ns] = [.bo (.scr ns), .no, .no, .no] := rfl
  rw [he]
  show (match execs (M.tb n) (_ :: _ :: _ :: []) _ with
    | .ok (.rt own d ρ) => leave fBegun own d ρ
    | .ok (.nx ρ) => leave fBegun false .non ρ
    | .ex x _ => .ex x
    | _ => .no) = _
  rw [seq_ok e1]
  obtain ⟨s', ec⟩ := begun_comp (M.tb n) (.bo (.scr ns)) (.fr (.bl (ownD ns))) .no ns .no (.inl rfl)
  have e2 : exec (M.tb n) (.set 2 (.comp (.bi .abs [.var 3]) [3] true (.itr (.var 0)) .nil [3])) [.bo (.scr ns), .fr (.bl (ownD ns)), .no, .no] = .ok (.nx [.bo (.scr ns), .fr (.bl (ownD ns)), .ow (.lst (ns.map fun n => .int n.natAbs)), .no]) := by
    rw [exec, evalV]
    have hi : evalI (M.tb n) (.itr (.var 0)) [.bo (.scr ns), .fr (.bl (ownD ns)), .no, .no] = .ok ((ns.map .int, [0]), [.bo (.scr ns), .fr (.bl (ownD ns)), .no, .no]) := by
      simp [evalI, opd, hasV, getOp, Sl.val, itrD, seqD, opSl]
    rw [hi, bind_ok]
    dsimp only
    have hl : lends [.bo (.scr ns), .fr (.bl (ownD ns)), .no, .no] [0] = [.bo (.scr ns), .fr (.bl (ownD ns)), .no, .no] := rfl
    rw [hl, ec]
    rfl
  rw [seq_ok e2]
  have e3 : exec (M.tb n) (.ret (.dct [kCells, kAt, kRest, kTurn, kMore, kOwn] [.var 2, .int 0, .int 0, .int 0, .bin .Add (.int 7) (.bi .len [.var 0]), .var 1])) [.bo (.scr ns), .fr (.bl (ownD ns)), .ow (.lst (ns.map fun n => .int n.natAbs)), .no] =
      .ok (.rt true (stD (ns.map fun k => (k.natAbs : Int)) 0 0 0 (7 + ns.length) (ownD ns)) [.bo (.scr ns), .fr (.bl (ownD ns)), .fr (.lst (ns.map fun n => .int n.natAbs)), .no]) := by
    have hn : ([kCells, kAt, kRest, kTurn, kMore, kOwn] : List Str).Nodup := by decide
    simp [exec, retD, evalV, evalVs, evalOs, varD, op2, opd, hasV, getOp, getOps, Sl.val, biD, optR, binD, stD, hn, List.map_map, Function.comp_def]
  rw [seq_rt e3]
  rfl
section
variable (c : List Int) (a r t m : Int) (o : Bool) (v : Int)
theorem st_cells : ixV (stD c a r t m o) (.str kCells) = some (false, .lst (c.map .int)) := by rfl
theorem st_at : ixV (stD c a r t m o) (.str kAt) = some (false, .int a) := by rfl
theorem st_rest : ixV (stD c a r t m o) (.str kRest) = some (false, .int r) := by rfl
theorem st_turn : ixV (stD c a r t m o) (.str kTurn) = some (false, .int t) := by rfl
theorem st_more : ixV (stD c a r t m o) (.str kMore) = some (false, .int m) := by rfl
theorem st_own : ixV (stD c a r t m o) (.str kOwn) = some (false, .bl o) := by rfl
theorem put_at : setIxD (.str kAt) (.int v) (stD c a r t m o) = some (stD c v r t m o) := by rfl
theorem put_rest : setIxD (.str kRest) (.int v) (stD c a r t m o) = some (stD c a v t m o) := by rfl
theorem put_turn : setIxD (.str kTurn) (.int v) (stD c a r t m o) = some (stD c a r v m o) := by rfl
theorem put_more : setIxD (.str kMore) (.int v) (stD c a r t m o) = some (stD c a r t v o) := by rfl
end
/-- a state's slot is changed -/
theorem mod_st {f : D → Option D} {d d' : D} {ρ : Env} (h : f d = some d') : modSl 0 f (.io d :: ρ) = some (.io d' :: ρ) := by
  unfold modSl
  show (some d).bind _ = _
  rw [Option.bind_some, h]
  rfl
theorem at_cell {c : List Int} {i : Nat} (h : i < c.length) : ixV (.lst (c.map .int)) (.int (i : Int)) = some (false, .int c[i]) := by
  show ((atI (c.map D.int) (i : Int))).map _ = _
  rw [atI_nat (v := D.int c[i]) (by rw [List.getElem?_map, List.getElem?_eq_getElem h] <;> rfl)]
  rfl
theorem bin_fdiv {i j : Int} (h : j ≠ 0) (h2 : j.natAbs.log2 < 9000) : binD .FloorDiv (.int i) (.int j) = some (false, .int (i.fdiv j)) := by
  unfold binD
  exact if_pos ⟨h, h2⟩
theorem bin_mod {i j : Int} (h : j ≠ 0) : binD .Mod (.int i) (.int j) = some (false, .int (i.fmod j)) := by
  unfold binD
  exact if_pos h
/-- the places that are read till one is not nought -/
theorem take_scan {T : Tb} (c : List Int) (hc : ∀ x ∈ c, 0 ≤ x) (t m : Int) (o : Bool) (b s3 s4 : Sl) : ∀ (k i : Nat) (r : Int), c.length - i = k → i ≤ c.length → 0 ≤ r → ∃ (i' : Nat) (r' : Int), i' ≤ c.length ∧ 0 ≤ r' ∧
    whlD (testD (evalV T (.and (.cmp .Eq (.ix (.var 0) (.str kRest)) (.int 0)) (.cmp .Lt (.ix (.var 0) (.str kAt)) (.bi .len [.var 2])))) (.and (.cmp .Eq (.ix (.var 0) (.str kRest)) (.int 0)) (.cmp .Lt (.ix (.var 0) (.str kAt)) (.bi .len [.var 2]))))
      (execs T [.setIx 0 (.str kRest) (.bin .FloorDiv (.ix (.var 2) (.ix (.var 0) (.str kAt))) (.ix (.lst [.int 1, .int 2]) (.bi .int [.cmp .Eq (.ix (.var 0) (.str kAt)) (.int 0)]))),
          .setIx 0 (.str kAt) (.bin .Add (.ix (.var 0) (.str kAt)) (.int 1))]) [.io (stD c i r t m o), b, .fr (.lst (c.map .int)), s3, s4] = .ok (.nx [.io (stD c i' r' t m o), b, .fr (.lst (c.map .int)), s3, s4])
  | 0, i, r, hk, hi, hr => by
    refine ⟨i, r, hi, hr, whlD_done ?_⟩
    have hl : ¬ (i : Int) < c.length := by omega
    by_cases h0 : r = 0
    · simp [testD, evalV, evalOs, op2, opd, hasV, getOp, getOps, Sl.val, biD, optR, cmpV, cmpD, st_rest, st_at, eq_int, h0, hl]
    · simp [testD, evalV, evalOs, op2, opd, hasV, getOp, getOps, Sl.val, biD, optR, cmpV, cmpD, st_rest, st_at, eq_int, h0]
  | k + 1, i, r, hk, hi, hr => by
    by_cases h0 : r = 0
    case neg =>
      refine ⟨i, r, hi, hr, whlD_done ?_⟩
      simp [testD, evalV, evalOs, op2, opd, hasV, getOp, getOps, Sl.val, biD, optR, cmpV, cmpD, st_rest, st_at, eq_int, h0]
    have hl : (i : Int) < c.length := by omega
    have hi' : i < c.length := by omega
    subst h0
    have hd : ∃ q : Int, 0 ≤ q ∧ execs T [.setIx 0 (.str kRest) (.bin .FloorDiv (.ix (.var 2) (.ix (.var 0) (.str kAt))) (.ix (.lst [.int 1, .int 2]) (.bi .int [.cmp .Eq (.ix (.var 0) (.str kAt)) (.int 0)]))),
          .setIx 0 (.str kAt) (.bin .Add (.ix (.var 0) (.str kAt)) (.int 1))] [.io (stD c i 0 t m o), b, .fr (.lst (c.map .int)), s3, s4] = .ok (.nx [.io (stD c (i + 1 : Nat) q t m o), b, .fr (.lst (c.map .int)), s3, s4]) := by
      have hci : 0 ≤ c[i] := hc _ (List.getElem_mem hi')
      have ix : ∀ q : Int, evalV T (.bin .FloorDiv (.ix (.var 2) (.ix (.var 0) (.str kAt))) (.ix (.lst [.int 1, .int 2]) (.bi .int [.cmp .Eq (.ix (.var 0) (.str kAt)) (.int 0)]))) [.io (stD c i 0 t m o), b, .fr (.lst (c.map .int)), s3, s4] = .ok ((false, .int q), [.io (stD c i 0 t m o), b, .fr (.lst (c.map .int)), s3, s4]) →
          execs T [.setIx 0 (.str kRest) (.bin .FloorDiv (.ix (.var 2) (.ix (.var 0) (.str kAt))) (.ix (.lst [.int 1, .int 2]) (.bi .int [.cmp .Eq (.ix (.var 0) (.str kAt)) (.int 0)]))),
          .setIx 0 (.str kAt) (.bin .Add (.ix (.var 0) (.str kAt)) (.int 1))] [.io (stD c i 0 t m o), b, .fr (.lst (c.map .int)), s3, s4] = .ok (.nx [.io (stD c (i + 1 : Nat) q t m o), b, .fr (.lst (c.map .int)), s3, s4]) := by
        intro q hq
        have e1 : exec T (.setIx 0 (.str kRest) (.bin .FloorDiv (.ix (.var 2) (.ix (.var 0) (.str kAt))) (.ix (.lst [.int 1, .int 2]) (.bi .int [.cmp .Eq (.ix (.var 0) (.str kAt)) (.int 0)])))) [.io (stD c i 0 t m o), b, .fr (.lst (c.map .int)), s3, s4] = .ok (.nx [.io (stD c i q t m o), b, .fr (.lst (c.map .int)), s3, s4]) := by
          rw [exec, hq]
          simp [getAr, opd, evalV, getOp, mod_st (put_rest c i 0 t m o q), optF]
        rw [seq_ok e1]
        refine one_nx ?_
        simp [exec, evalV, op2, opd, hasV, getOp, Sl.val, optR, st_at, binD, getAr, mod_st (put_at c i q t m o (i + 1)), optF]
      have cell := at_cell hi'
      by_cases hz : i = 0
      · subst hz
        refine ⟨c[0].fdiv 2, Int.fdiv_nonneg hci (by decide), ix _ ?_⟩
        have two : ixV (.lst [.int 1, .int 2]) (.int 1) = some (false, .int 2) := rfl
        have cell0 : ixV (.lst (c.map .int)) (.int 0) = some (false, .int c[0]) := cell
        have fd : binD .FloorDiv (.int c[0]) (.int 2) = some (false, .int (c[0].fdiv 2)) := by
          exact bin_fdiv (by decide) (by decide)
        simp [evalV, evalVs, evalOs, op2, opd, hasV, getOp, getOps, Sl.val, optR, biD, cmpV, cmpD, st_at, eq_int, cell0, two, fd]
      · refine ⟨c[i].fdiv 1, Int.fdiv_nonneg hci (by decide), ix _ ?_⟩
        have one : ixV (.lst [.int 1, .int 2]) (.int 0) = some (false, .int 1) := rfl
        have fd : binD .FloorDiv (.int c[i]) (.int 1) = some (false, .int (c[i].fdiv 1)) := by
          exact bin_fdiv (by decide) (by decide)
        have hz' : ¬ (i : Int) = 0 := by omega
        simp [evalV, evalVs, evalOs, op2, opd, hasV, getOp, getOps, Sl.val, optR, biD, cmpV, cmpD, st_at, eq_int, cell, one, fd, hz, hz']
    obtain ⟨q, hq, hx⟩ := hd
    obtain ⟨i', r', a1, a2, a3⟩ := take_scan c hc t m o b s3 s4 k (i + 1) q (by omega) (by omega) hq
    refine ⟨i', r', a1, a2, ?_⟩
    rw [whlD_step (ρ1 := [.io (stD c i 0 t m o), b, .fr (.lst (c.map .int)), s3, s4]) ?_ hx]
    · exact a3
    · simp [testD, evalV, evalOs, op2, opd, hasV, getOp, getOps, Sl.val, biD, optR, cmpV, cmpD, st_rest, st_at, eq_int, hl]
theorem bin_mul {i j : Int} (h : mulOk i j) : binD .Mult (.int i) (.int j) = some (false, .int (i * j)) := by
  unfold binD
  exact if_pos h
theorem mul_small {i j : Int} (h1 : 0 ≤ i) (h2 : i < 4294967296) (h3 : 0 ≤ j) (h4 : j < 4294967296) : mulOk i j := by
  have lg : ∀ x : Int, 0 ≤ x → x < 4294967296 → x.natAbs.log2 < 32 := fun x a b => by
    by_cases hz : x.natAbs = 0
    · rw [hz]; decide
    · exact (Nat.log2_lt hz).mpr (by omega)
  have a := lg i h1 h2
  have b := lg j h3 h4
  show i.natAbs.log2 + j.natAbs.log2 < 1000000
  omega
theorem fmod_pos {i j : Int} (h : 0 < j) : 0 ≤ i.fmod j ∧ i.fmod j < j := ⟨Int.fmod_nonneg_of_pos i h, Int.fmod_lt_of_pos i h⟩
/-- the draw by the mixed number -/
def takeTail : List Sx := [.set 3 (.int 0),
  .ite (.cmp .Gt (.bi .len [.var 2]) (.int 0)) [.set 3 (.ix (.var 2) (.bin .Mod (.ix (.var 0) (.str kTurn)) (.bi .len [.var 2])))] [],
  .setIx 0 (.str kTurn) (.bin .Add (.ix (.var 0) (.str kTurn)) (.int 1)),
  .setIx 0 (.str kMore) (.bin .Mod (.bin .Add (.bin .Add (.bin .Mult (.ix (.var 0) (.str kMore)) (.int 48271)) (.var 3)) (.ix (.var 0) (.str kTurn))) (.int 2147483647)),
  .ret (.bin .Mod (.bin .Mod (.bin .Add (.bin .Mult (.ix (.var 0) (.str kMore)) (.ix (.var 0) (.str kMore))) (.bin .Mult (.int 16807) (.ix (.var 0) (.str kMore)))) (.int 2147483629)) (.var 1))]
theorem take_tail {T : Tb} (c : List Int) (i r t m : Int) (o : Bool) (many : Int) (ht : 0 ≤ t) (hm : 0 ≤ m) (hm2 : m < 4294967296) (hn : 0 < many) (s3 s4 : Sl) (h3 : s3 = .no) :
    ∃ (v m' : Int) (s3' : Sl), 0 ≤ v ∧ v < many ∧ 0 ≤ m' ∧ m' < 4294967296 ∧ execs T takeTail [.io (stD c i r t m o), .bo (.int many), .fr (.lst (c.map .int)), s3, s4] = .ok (.rt false (.int v) [.io (stD c i r (t + 1) m' o), .bo (.int many), .fr (.lst (c.map .int)), s3', s4]) := by
  subst h3
  have e1 : exec T (.set 3 (.int 0)) [.io (stD c i r t m o), .bo (.int many), .fr (.lst (c.map .int)), .no, s4] = .ok (.nx [.io (stD c i r t m o), .bo (.int many), .fr (.lst (c.map .int)), .fr (.int 0), s4]) := by
    simp [exec, evalV, setSl, optF]
  have e2 : ∃ w : Int, exec T (.ite (.cmp .Gt (.bi .len [.var 2]) (.int 0)) [.set 3 (.ix (.var 2) (.bin .Mod (.ix (.var 0) (.str kTurn)) (.bi .len [.var 2])))] []) [.io (stD c i r t m o), .bo (.int many), .fr (.lst (c.map .int)), .fr (.int 0), s4] = .ok (.nx [.io (stD c i r t m o), .bo (.int many), .fr (.lst (c.map .int)), .fr (.int w), s4]) := by
    by_cases hc : c = []
    · subst hc
      refine ⟨0, ?_⟩
      simp [exec, execs, testD, evalV, evalOs, op2, opd, hasV, getOp, getOps, Sl.val, biD, optR, cmpV, cmpD]
    · have hl : 0 < c.length := List.length_pos_iff.mpr hc
      obtain ⟨f1, f2⟩ := fmod_pos (i := t) (j := (c.length : Int)) (by omega)
      obtain ⟨k, hk⟩ := Int.eq_ofNat_of_zero_le f1
      have hk2 : k < c.length := by omega
      refine ⟨c[k], ?_⟩
      have cell := at_cell hk2
      have bm : binD .Mod (.int t) (.int (c.length : Int)) = some (false, .int (k : Int)) := by rw [bin_mod (by omega), hk]
      have e3 : exec T (.set 3 (.ix (.var 2) (.bin .Mod (.ix (.var 0) (.str kTurn)) (.bi .len [.var 2])))) [.io (stD c i r t m o), .bo (.int many), .fr (.lst (c.map .int)), .fr (.int 0), s4] = .ok (.nx [.io (stD c i r t m o), .bo (.int many), .fr (.lst (c.map .int)), .fr (.int c[k]), s4]) := by
        simp [exec, evalV, evalOs, op2, opd, hasV, getOp, getOps, Sl.val, biD, optR, st_turn, bm, cell, setSl, optF]
      have hl2 : (0 : Int) < c.length := by omega
      rw [exec]
      have e4 : testD (evalV T (.cmp .Gt (.bi .len [.var 2]) (.int 0))) (.cmp .Gt (.bi .len [.var 2]) (.int 0)) [.io (stD c i r t m o), .bo (.int many), .fr (.lst (c.map .int)), .fr (.int 0), s4] = .ok (true, [.io (stD c i r t m o), .bo (.int many), .fr (.lst (c.map .int)), .fr (.int 0), s4]) := by
        simp [testD, evalV, evalOs, op2, opd, hasV, getOp, getOps, Sl.val, biD, optR, cmpV, cmpD, hl2, hl]
      rw [e4, bind_ok]
      dsimp only
      rw [if_pos rfl]
      exact one_nx e3
  obtain ⟨w, e2⟩ := e2
  have e3 : exec T (.setIx 0 (.str kTurn) (.bin .Add (.ix (.var 0) (.str kTurn)) (.int 1))) [.io (stD c i r t m o), .bo (.int many), .fr (.lst (c.map .int)), .fr (.int w), s4] = .ok (.nx [.io (stD c i r (t + 1) m o), .bo (.int many), .fr (.lst (c.map .int)), .fr (.int w), s4]) := by
    simp [exec, evalV, op2, opd, hasV, getOp, Sl.val, optR, st_turn, binD, getAr, mod_st (put_turn c i r t m o (t + 1)), optF]
  obtain ⟨p1, p2⟩ := fmod_pos (i := m * 48271 + w + (t + 1)) (j := 2147483647) (by decide)
  generalize hm' : (m * 48271 + w + (t + 1)).fmod 2147483647 = m' at p1 p2
  have e4 : exec T (.setIx 0 (.str kMore) (.bin .Mod (.bin .Add (.bin .Add (.bin .Mult (.ix (.var 0) (.str kMore)) (.int 48271)) (.var 3)) (.ix (.var 0) (.str kTurn))) (.int 2147483647))) [.io (stD c i r (t + 1) m o), .bo (.int many), .fr (.lst (c.map .int)), .fr (.int w), s4] = .ok (.nx [.io (stD c i r (t + 1) m' o), .bo (.int many), .fr (.lst (c.map .int)), .fr (.int w), s4]) := by
    have b1 := bin_mul (mul_small hm hm2 (by decide : (0 : Int) ≤ 48271) (by decide))
    have b2 : binD .Mod (.int (m * 48271 + w + (t + 1))) (.int 2147483647) = some (false, .int m') := by rw [bin_mod (by decide), hm']
    have b3 : ∀ x y : Int, binD .Add (.int x) (.int y) = some (false, .int (x + y)) := fun _ _ => rfl
    simp [exec, evalV, op2, opd, hasV, getOp, Sl.val, optR, st_turn, st_more, b1, b2, b3, getAr, mod_st (put_more c i r (t + 1) m o m'), optF]
  obtain ⟨q1, q2⟩ := fmod_pos (i := (m' * m' + 16807 * m').fmod 2147483629) (j := many) hn
  refine ⟨_, m', .fr (.int w), q1, q2, p1, by omega, ?_⟩
  unfold takeTail
  rw [seq_ok e1, seq_ok e2, seq_ok e3, seq_ok e4]
  refine seq_rt ?_
  have b1 := bin_mul (mul_small p1 (by omega : m' < 4294967296) p1 (by omega : m' < 4294967296))
  have b2 := bin_mul (mul_small (by decide : (0 : Int) ≤ 16807) (by decide) p1 (by omega : m' < 4294967296))
  have b3 : ∀ x y : Int, binD .Add (.int x) (.int y) = some (false, .int (x + y)) := fun _ _ => rfl
  have b4 : ∀ x : Int, binD .Mod (.int x) (.int 2147483629) = some (false, .int (x.fmod 2147483629)) := fun x => bin_mod (by decide)
  have b5 : ∀ x : Int, binD .Mod (.int x) (.int many) = some (false, .int (x.fmod many)) := fun x => bin_mod (by omega)
  simp [exec, retD, evalV, op2, opd, hasV, getOp, Sl.val, optR, st_more, b1, b2, b3, b4, b5]
/-- a state of the draws -/
def IsSt (d : D) : Prop := ∃ (c : List Int) (i : Nat) (r t m : Int) (o : Bool), d = stD c i r t m o ∧ (∀ x ∈ c, 0 ≤ x) ∧ i ≤ c.length ∧ 0 ≤ r ∧ 0 ≤ t ∧ 0 ≤ m ∧ m < 4294967296
theorem begun_st (M : Md) (hM : M.fns "_law_begun" = some fBegun) (ns : List Int) (h : ns.length ≤ 63) (n : Nat) : ∃ s, IsSt s ∧ callN M (n + 1) "_law_begun" [.scr ns] = .ok true s [] := by
  refine ⟨_, ⟨ns.map fun k => (k.natAbs : Int), 0, 0, 0, 7 + ns.length, ownD ns, rfl, ?_, Nat.zero_le _, by decide, by decide, by omega, by omega⟩, begun_ok M hM ns n⟩
  intro x hx
  obtain ⟨k, _, rfl⟩ := List.mem_map.mp hx
  exact Int.natCast_nonneg _
theorem take_ok (M : Md) (hM : M.fns "_law_take" = some fTake) {s : D} (hs : IsSt s) {many : Int} (hn : 0 < many) (hb : many.natAbs.log2 < 9000) (n : Nat) : ∃ (v : Int) (s' : D), IsSt s' ∧ 0 ≤ v ∧ v < many ∧ callN M (n + 1) "_law_take" [s, .int many] = .ok false (.int v) [s'] := by
  obtain ⟨c, i, r, t, m, o, rfl, hc, hi, hr, ht, hm, hm2⟩ := hs
  have e0 : exec (M.tb n) (.set 2 (.ix (.var 0) (.str kCells))) [.io (stD c i r t m o), .bo (.int many), .no, .no, .no] = .ok (.nx [.io (stD c i r t m o), .bo (.int many), .fr (.lst (c.map .int)), .no, .no]) := by
    simp [exec, evalV, op2, opd, hasV, getOp, Sl.val, optR, st_cells, setSl, optF]
  have open_ : ∀ {v : Int} {s' : D} {a b c' d : Sl}, execs (M.tb n) fTake.body [.io (stD c i r t m o), .bo (.int many), .no, .no, .no] = .ok (.rt false (.int v) [.io s', a, b, c', d]) → callN M (n + 1) "_law_take" [stD c i r t m o, .int many] = .ok false (.int v) [s'] := by
    intro v s' a b c' d h
    rw [callN_succ, hM]
    dsimp only
    rw [if_pos ⟨rfl, by decide⟩]
    have he : enter fTake [stD c i r t m o, .int many] = [.io (stD c i r t m o), .bo (.int many), .no, .no, .no] := rfl
    rw [he]
    show (match execs (M.tb n) fTake.body _ with
      | .ok (.rt own d ρ) => leave fTake own d ρ
      | .ok (.nx ρ) => leave fTake false .non ρ
      | .ex x _ => .ex x
      | _ => .no) = _
    rw [h]
    rfl
  have tail : ∀ (i' : Nat) (r' : Int) (s4 : Sl), i' ≤ c.length → 0 ≤ r' → (∀ {R : Res Fl}, execs (M.tb n) takeTail [.io (stD c i' r' t m o), .bo (.int many), .fr (.lst (c.map .int)), .no, s4] = R → execs (M.tb n) fTake.body [.io (stD c i r t m o), .bo (.int many), .no, .no, .no] = R) →
      ∃ (v : Int) (s' : D), IsSt s' ∧ 0 ≤ v ∧ v < many ∧ callN M (n + 1) "_law_take" [stD c i r t m o, .int many] = .ok false (.int v) [s'] := by
    intro i' r' s4 h1 h2 h
    obtain ⟨v, m', s3', v1, v2, m1, m2, e⟩ := take_tail (T := M.tb n) c i' r' t m o many ht hm hm2 hn .no s4 rfl
    exact ⟨v, _, ⟨c, i', r', t + 1, m', o, rfl, hc, h1, h2, by omega, m1, m2⟩, v1, v2, open_ (h e)⟩
  cases o with
  | false =>
    refine tail i r .no hi hr fun {R} h => ?_
    have e1 : exec (M.tb n) (.ite (.ix (.var 0) (.str kOwn)) (match fTake.body with | [_, .ite _ a _, _, _, _, _, _] => a | _ => []) []) [.io (stD c i r t m false), .bo (.int many), .fr (.lst (c.map .int)), .no, .no] = .ok (.nx [.io (stD c i r t m false), .bo (.int many), .fr (.lst (c.map .int)), .no, .no]) := by
      rw [exec]
      simp [testD, evalV, op2, opd, hasV, getOp, Sl.val, optR, st_own, execs]
    show execs (M.tb n) (_ :: _ :: takeTail) _ = R
    rw [seq_ok e0]
    exact (seq_ok e1).trans h
  | true =>
    obtain ⟨i', r', a1, a2, a3⟩ := take_scan (T := M.tb n) c hc t m true (.bo (.int many)) .no .no (c.length - i) i r rfl hi hr
    have e1 : testD (evalV (M.tb n) (.ix (.var 0) (.str kOwn))) (.ix (.var 0) (.str kOwn)) [.io (stD c i r t m true), .bo (.int many), .fr (.lst (c.map .int)), .no, .no] = .ok (true, [.io (stD c i r t m true), .bo (.int many), .fr (.lst (c.map .int)), .no, .no]) := by
      simp [testD, evalV, op2, opd, hasV, getOp, Sl.val, optR, st_own]
    by_cases h0 : 0 < r'
    · obtain ⟨q1, q2⟩ := fmod_pos (i := r') hn
      refine ⟨r'.fmod many, stD c i' (r'.fdiv many) t m true, ⟨c, i', _, t, m, true, rfl, hc, a1, Int.fdiv_nonneg a2 (by omega), ht, hm, hm2⟩, q1, q2, open_ (a := .bo (.int many)) (b := .fr (.lst (c.map .int))) (c' := .no) (d := .fr (.int (r'.fmod many))) ?_⟩
      show execs (M.tb n) (_ :: _ :: takeTail) _ = _
      rw [seq_ok e0]
      refine seq_rt ?_
      rw [exec, e1, bind_ok]
      dsimp only
      rw [if_pos rfl]
      refine (seq_ok (by rw [exec]; exact a3)).trans (one_nx ?_)
      have bm : binD .Mod (.int r') (.int many) = some (false, .int (r'.fmod many)) := bin_mod (by omega)
      have bf : binD .FloorDiv (.int r') (.int many) = some (false, .int (r'.fdiv many)) := bin_fdiv (by omega) hb
      simp [exec, execs, retD, varD, testD, evalV, op2, opd, hasV, getOp, Sl.val, optR, cmpV, cmpD, st_rest, h0, bm, bf, setSl, optF, getAr, mod_st (put_rest c i' r' t m true (r'.fdiv many))]
    · refine tail i' r' .no a1 a2 fun {R} h => ?_
      show execs (M.tb n) (_ :: _ :: takeTail) _ = R
      rw [seq_ok e0]
      refine (seq_ok ?_).trans h
      rw [exec, e1, bind_ok]
      dsimp only
      rw [if_pos rfl]
      refine (seq_ok (by rw [exec]; exact a3)).trans (one_nx ?_)
      simp [exec, execs, testD, evalV, op2, opd, hasV, getOp, Sl.val, optR, cmpV, cmpD, st_rest, h0]
end Pd
set_option Elab.async false
set_option linter.all false
/-! Pd21: a logic over the small syntax: what must hold ahead so that something holds behind. -/
namespace Pd
open PySem L2
def Wp {α : Type} (r : Res α) (Q : α → Prop) : Prop := ∃ a, r = .ok a ∧ Q a
section
variable {α β : Type} {Q : α → Prop}
theorem wp_ok {a : α} : Wp (.ok a) Q ↔ Q a := ⟨fun ⟨_, e, h⟩ => (by cases e; exact h), fun h => ⟨_, rfl, h⟩⟩
theorem wp_no : Wp (.no : Res α) Q ↔ False := ⟨fun ⟨_, e, _⟩ => (by cases e), False.elim⟩
theorem wp_ex {x : D} {ρ : Env} : Wp (.ex x ρ : Res α) Q ↔ False := ⟨fun ⟨_, e, _⟩ => (by cases e), False.elim⟩
theorem wp_bind {r : Res β} {f : β → Res α} : Wp (r >>= f) Q ↔ Wp r fun b => Wp (f b) Q := by
  constructor
  · rintro ⟨a, e, h⟩
    obtain ⟨b, e1, e2⟩ := bind_eq_ok e
    exact ⟨b, e1, a, e2, h⟩
  · rintro ⟨b, rfl, a, e, h⟩
    exact ⟨a, e, h⟩
theorem wp_ifno {c : Prop} [Decidable c] {r : Res α} : Wp (if c then r else .no) Q ↔ c ∧ Wp r Q := by
  split
  · rename_i h; exact ⟨fun x => ⟨h, x⟩, fun x => x.2⟩
  · rename_i h; exact ⟨fun ⟨_, e, _⟩ => (by cases e), fun x => absurd x.1 h⟩
theorem wp_noif {c : Prop} [Decidable c] {r : Res α} : Wp (if c then .no else r) Q ↔ ¬ c ∧ Wp r Q := by
  split
  · rename_i h; exact ⟨fun ⟨_, e, _⟩ => (by cases e), fun x => absurd h x.1⟩
  · rename_i h; exact ⟨fun x => ⟨h, x⟩, fun x => x.2⟩
theorem wp_mono {r : Res α} {Q' : α → Prop} (h : Wp r Q) (m : ∀ a, Q a → Q' a) : Wp r Q' := by
  obtain ⟨a, e, q⟩ := h
  exact ⟨a, e, m a q⟩
end
/-- what is left to do behind a statement -/
def Kont (T : Tb) (ss : List Sx) (Q : Fl → Prop) : Fl → Prop
  | .nx ρ => Wp (execs T ss ρ) Q
  | f => Q f
section
variable {T : Tb} {ss : List Sx} {Q : Fl → Prop} {ρ : Env}
theorem kont_nx : Kont T ss Q (.nx ρ) ↔ Wp (execs T ss ρ) Q := Iff.rfl
theorem kont_rt {o : Bool} {d : D} : Kont T ss Q (.rt o d ρ) ↔ Q (.rt o d ρ) := Iff.rfl
theorem kont_bk : Kont T ss Q (.bk ρ) ↔ Q (.bk ρ) := Iff.rfl
theorem kont_ct : Kont T ss Q (.ct ρ) ↔ Q (.ct ρ) := Iff.rfl
theorem wp_cons {s : Sx} : Wp (execs T (s :: ss) ρ) Q ↔ Wp (exec T s ρ) (Kont T ss Q) := by
  rw [execs]
  constructor
  · rintro ⟨f, e, h⟩
    cases hs : exec T s ρ with
    | ok g =>
      rw [hs] at e
      cases g with
      | nx ρ1 => exact ⟨_, rfl, f, e, h⟩
      | _ => cases e; exact ⟨_, rfl, h⟩
    | ex x ρ1 => rw [hs] at e; cases e
    | no => rw [hs] at e; cases e
  · rintro ⟨f, e, h⟩
    rw [e]
    cases f with
    | nx ρ1 => exact h
    | _ => exact ⟨_, rfl, h⟩
theorem wp_nil : Wp (execs T [] ρ) Q ↔ Q (.nx ρ) := by rw [execs]; exact wp_ok
end
/-! loops -/
/-- behind a loop's body -/
def LpK (P : Env → Prop) (Q : Fl → Prop) : Fl → Prop
  | .nx ρ => P ρ
  | .ct ρ => P ρ
  | .bk ρ => Q (.nx ρ)
  | .rt o d ρ => Q (.rt o d ρ)
section
variable {P : Env → Prop} {Q : Fl → Prop} {ρ : Env}
theorem lpk_nx : LpK P Q (.nx ρ) ↔ P ρ := Iff.rfl
theorem lpk_ct : LpK P Q (.ct ρ) ↔ P ρ := Iff.rfl
theorem lpk_bk : LpK P Q (.bk ρ) ↔ Q (.nx ρ) := Iff.rfl
theorem lpk_rt {o : Bool} {d : D} : LpK P Q (.rt o d ρ) ↔ Q (.rt o d ρ) := Iff.rfl
end
/-- a for: an invariant over what is left -/
theorem wp_for {tg : List Nat} {one : Bool} {body : Env → Res Fl} (I : List D → Env → Prop) {Q : Fl → Prop} :
    ∀ {ds : List D} {ρ : Env}, I ds ρ → (∀ ρ, I [] ρ → Q (.nx ρ)) →
    (∀ d r ρ, I (d :: r) ρ → ∃ ρ1, bindI tg one d ρ = some ρ1 ∧ Wp (body ρ1) (LpK (I r) Q)) → Wp (forL tg one body ds ρ) Q
  | [], ρ, h0, h1, _ => ⟨_, rfl, h1 _ h0⟩
  | d :: ds, ρ, h0, h1, h2 => by
    obtain ⟨ρ1, e1, f, e2, h⟩ := h2 _ _ _ h0
    rw [forL, e1]
    dsimp only
    rw [e2]
    cases f with
    | nx ρ2 => exact wp_for I h h1 h2
    | ct ρ2 => exact wp_for I h h1 h2
    | bk ρ2 => exact ⟨_, rfl, h⟩
    | rt o d ρ2 => exact ⟨_, rfl, h⟩
/-- a while: an invariant by a measure -/
theorem wp_whl {c : Env → Res (Bool × Env)} {b : Env → Res Fl} (I : Nat → Env → Prop) {Q : Fl → Prop}
    (h : ∀ n ρ, I n ρ → Wp (c ρ) fun p => if p.1 = true then Wp (b p.2) (LpK (fun ρ2 => ∃ m, m < n ∧ I m ρ2) Q) else Q (.nx p.2)) : ∀ {n : Nat} {ρ : Env}, I n ρ → Wp (whlD c b ρ) Q := by
  have key : ∀ (k n : Nat) (ρ : Env), n < k → I n ρ → ∃ f m, whlN c b m ρ = some (.ok f) ∧ Q f := by
    intro k
    induction k with
    | zero => intro n ρ h; omega
    | succ k ih =>
      intro n ρ hn hi
      obtain ⟨⟨t, ρ1⟩, e1, h1⟩ := h n ρ hi
      cases t with
      | false => exact ⟨_, 1, by unfold whlN; rw [e1], by simpa using h1⟩
      | true =>
        rw [if_pos rfl] at h1
        obtain ⟨f, e2, h2⟩ := h1
        have e2' : b ρ1 = .ok f := e2
        cases f with
        | nx ρ2 =>
          obtain ⟨m, hm, hi2⟩ := h2
          obtain ⟨g, j, e3, q⟩ := ih m ρ2 (by omega) hi2
          exact ⟨g, j + 1, by unfold whlN; rw [e1]; simp only [e2', e3], q⟩
        | ct ρ2 =>
          obtain ⟨m, hm, hi2⟩ := h2
          obtain ⟨g, j, e3, q⟩ := ih m ρ2 (by omega) hi2
          exact ⟨g, j + 1, by unfold whlN; rw [e1]; simp only [e2', e3], q⟩
        | bk ρ2 => exact ⟨_, 1, by unfold whlN; rw [e1]; simp only [e2'], h2⟩
        | rt o d ρ2 => exact ⟨_, 1, by unfold whlN; rw [e1]; simp only [e2'], h2⟩
  intro n ρ hi
  obtain ⟨f, m, e, q⟩ := key (n + 1) n ρ (Nat.lt_succ_self _) hi
  exact ⟨f, whlD_of e, q⟩
/-- a comprehension: an invariant over what is found and what is left -/
theorem wp_comp {tg : List Nat} {one : Bool} {own : List Nat} {cond : Env → Res (Bool × Env)} {elt : Env → Rv} (I : List D → List D → Env → Prop) {Q : List D × Env → Prop}
    (h : ∀ fs d r ρ, I fs (d :: r) ρ → ∃ ρ1, bindI tg one d (wipeS ρ own) = some ρ1 ∧ Wp (cond ρ1) fun p =>
      if p.1 = true then Wp (elt p.2) fun q => I (fs ++ [q.1.2]) r q.2 else I fs r p.2) :
    ∀ {ds : List D} {ρ : Env} (fs : List D), I fs ds ρ → (∀ gs ρ, I (fs ++ gs) [] ρ → Q (gs, ρ)) → Wp (compL tg one own cond elt ds ρ) Q
  | [], ρ, fs, h0, h1 => ⟨_, rfl, h1 [] ρ (by simpa using h0)⟩
  | d :: ds, ρ, fs, h0, h1 => by
    obtain ⟨ρ1, e1, ⟨t, ρ2⟩, e2, h2⟩ := h _ _ _ _ h0
    rw [compL, e1]
    dsimp only
    rw [e2, bind_ok]
    cases t with
    | false =>
      dsimp only
      rw [if_neg Bool.false_ne_true]
      exact wp_comp I h fs (by simpa using h2) h1
    | true =>
      rw [if_pos rfl] at h2
      obtain ⟨⟨⟨o, x⟩, ρ3⟩, e3, h3⟩ := h2
      dsimp only at e3 h3 ⊢
      rw [if_pos rfl, e3, bind_ok, wp_bind]
      dsimp only
      refine wp_comp I h (fs ++ [x]) h3 fun gs ρ' hi => ?_
      exact wp_ok.mpr (h1 _ _ (by simpa using hi))
/-- a comprehension's end -/
def compR (T : Tb) (elt : Ex) (tg : List Nat) (one : Bool) (cond : Ex) (own : List Nat) (ds : List D) (ls : List Nat) (ρ1 : Env) : Rv :=
  if (wipeOk ρ1 own && lsOk ρ1 ls) = true then noEx (compL tg one own (condD (evalV T cond) cond) (evalV T elt) ds (lends ρ1 ls)) >>= fun p =>
      .ok ((true, .lst p.1), backS ρ1 (unlend ρ1 p.2 ls) own) else .no
section
variable {T : Tb} {ρ : Env}
theorem ev_var {i : Nat} : evalV T (.var i) ρ = varD i ρ := by rw [evalV] <;> rfl
theorem ev_non : evalV T .non ρ = .ok ((false, .non), ρ) := by rw [evalV] <;> rfl
theorem ev_bl {b : Bool} : evalV T (.bl b) ρ = .ok ((false, .bl b), ρ) := by rw [evalV] <;> rfl
theorem ev_int {i : Int} : evalV T (.int i) ρ = .ok ((false, .int i), ρ) := by rw [evalV] <;> rfl
theorem ev_str {x : Str} : evalV T (.str x) ρ = .ok ((false, .str x), ρ) := by rw [evalV] <;> rfl
theorem ev_tup {es : List Ex} : evalV T (.tup es) ρ = evalVs T es ρ >>= fun p => .ok ((false, .tup p.1), p.2) := by rw [evalV] <;> rfl
theorem ev_lst {es : List Ex} : evalV T (.lst es) ρ = evalVs T es ρ >>= fun p => .ok ((true, .lst p.1), p.2) := by rw [evalV] <;> rfl
theorem ev_dct {ks : List Str} {es : List Ex} : evalV T (.dct ks es) ρ = evalVs T es ρ >>= fun p => if ks.length = p.1.length ∧ ks.Nodup ∧ ks.length ≤ 15 then .ok ((true, .dct (ks.map fun k => .inl (.inr k)) p.1), p.2) else .no := by rw [evalV] <;> rfl
theorem ev_bin {o : Operator} {a b : Ex} : evalV T (.bin o a b) ρ = op2 (opd (evalV T a) a) (opd (evalV T b) b) (binD o) ρ := by rw [evalV] <;> rfl
theorem ev_neg {a : Ex} : evalV T (.neg a) ρ = op1 (opd (evalV T a) a) negD ρ := by rw [evalV] <;> rfl
theorem ev_not {a : Ex} : evalV T (.not a) ρ = testD (evalV T a) a ρ >>= fun p => .ok ((false, .bl (!p.1)), p.2) := by rw [evalV] <;> rfl
theorem ev_cmp {o : CmpOp} {a b : Ex} : evalV T (.cmp o a b) ρ = op2 (opd (evalV T a) a) (opd (evalV T b) b) (cmpV o) ρ := by rw [evalV] <;> rfl
theorem ev_chn {o1 o2 : CmpOp} {a b c : Ex} : evalV T (.chn o1 o2 a b c) ρ = opd (evalV T a) a ρ >>= fun p => opd (evalV T b) b p.2 >>= fun q =>
    match getOp q.2 p.1, getOp q.2 q.1 with
    | some d, some e => match cmpD o1 d e with
      | some true => opd (evalV T c) c q.2 >>= fun r => match getOp r.2 q.1, getOp r.2 r.1 with
        | some e', some g => optR ((cmpD o2 e' g).map fun k => (false, .bl k)) r.2
        | _, _ => .no
      | some false => .ok ((false, .bl false), q.2)
      | none => .no
    | _, _ => .no := by rw [evalV] <;> rfl
theorem ev_and {a b : Ex} : evalV T (.and a b) ρ = testD (evalV T a) a ρ >>= fun p => if p.1 = true then (testD (evalV T b) b p.2 >>= fun q => .ok ((false, .bl q.1), q.2)) else .ok ((false, .bl false), p.2) := by rw [evalV] <;> rfl
theorem ev_or {a b : Ex} : evalV T (.or a b) ρ = testD (evalV T a) a ρ >>= fun p => if p.1 = true then .ok ((false, .bl true), p.2) else (testD (evalV T b) b p.2 >>= fun q => .ok ((false, .bl q.1), q.2)) := by rw [evalV] <;> rfl
theorem ev_ite {c a b : Ex} : evalV T (.ite c a b) ρ = testD (evalV T c) c ρ >>= fun p => if p.1 = true then evalV T a p.2 else evalV T b p.2 := by rw [evalV] <;> rfl
theorem ev_ix {a b : Ex} : evalV T (.ix a b) ρ = op2 (opd (evalV T a) a) (opd (evalV T b) b) ixV ρ := by rw [evalV] <;> rfl
theorem ev_sl {a lo hi : Ex} : evalV T (.sl a lo hi) ρ = opd (evalV T a) a ρ >>= fun p => partD (opd (evalV T lo) lo) lo p.2 >>= fun l => partD (opd (evalV T hi) hi) hi l.2 >>= fun h =>
    match getOp h.2 p.1 with
    | some d => optR (slD d l.1 h.1) h.2
    | none => .no := by rw [evalV] <;> rfl
theorem ev_bi {f : Bi} {es : List Ex} : evalV T (.bi f es) ρ = evalOs T es ρ >>= fun p => match getOps p.2 p.1 with
    | some ds => optR (biD f ds) p.2
    | none => .no := by rw [evalV] <;> rfl
theorem ev_isi {a : Ex} {t : Ty} : evalV T (.isi a t) ρ = op1 (opd (evalV T a) a) (isiV t) ρ := by rw [evalV] <;> rfl
theorem ev_call {f : Str} {es : List Ex} : evalV T (.call f es) ρ = evalAs T es (T.kinds f) ρ >>= fun p => runCall T f p.1 p.2 := by rw [evalV] <;> rfl
theorem ev_pop {i : Nat} {e : Ex} : evalV T (.pop i e) ρ = if (getAr ρ (.io i)).any isLst = true then (partD (opd (evalV T e) e) e ρ >>= fun p => match getAr p.2 (.io i) with
    | some d => match popD p.1 d with
      | some (r, d') => .ok ((false, r), putIo i d' p.2)
      | none => .no
    | none => .no) else .no := by rw [evalV] <;> rfl
theorem ev_comp {elt : Ex} {tg : List Nat} {one : Bool} {it cond : Ex} {own : List Nat} : evalV T (.comp elt tg one it cond own) ρ = evalI T it ρ >>= fun p => compR T elt tg one cond own p.1.1 p.1.2 p.2 := by rw [evalV] <;> rfl
theorem ev_sortedR {e : Ex} : evalV T (.sortedR e) ρ = op1 (opd (evalV T e) e) sortRD ρ := by rw [evalV] <;> rfl
theorem ev_rev {a : Ex} : evalV T (.rev a) ρ = op1 (opd (evalV T a) a) revD ρ := by rw [evalV] <;> rfl
theorem ev_sset {a : Ex} : evalV T (.sset a) ρ = op1 (opd (evalV T a) a) ssetD ρ := by rw [evalV] <;> rfl
theorem ev_meet {a b : Ex} : evalV T (.meet a b) ρ = (opd (evalV T a) a ρ >>= fun p => match fewI (getOp p.2 p.1) with
    | some ns => opd (evalV T b) b p.2 >>= fun q => match fewI (getOp q.2 q.1) with
      | some ms => .ok ((false, .bl (meetB ns ms)), q.2)
      | none => .no
    | none => .no) := by rw [evalV] <;> rfl
theorem ev_me {m : Me} {a b : Ex} : evalV T (.me m a [b]) ρ = (opd (evalV T a) a ρ >>= fun p => if (getOp p.2 p.1).any isLst = true then (opd (evalV T b) b p.2 >>= fun q => match getOp q.2 p.1, getOp q.2 q.1 with
    | some d, some e => optR (meD m d e) q.2
    | _, _ => .no) else .no) := by rw [evalV] <;> rfl
theorem ev_tin {neg : Bool} {x : Str} {a : Ex} : evalV T (.tin neg x a) ρ = (match T.tab x with
    | some kvs => op1 (opd (evalV T a) a) (tinD neg kvs) ρ
    | none => .no) := by rw [evalV] <;> rfl
theorem ev_cst {x : Str} : evalV T (.cst x) ρ = (match T.cst x with
    | some d => .ok ((false, d), ρ)
    | none => .no) := by rw [evalV] <;> rfl
theorem rev_lst {ds : List D} : revD (.lst ds) = some (true, .lst ds.reverse) := rfl
theorem rev_tup {ds : List D} : revD (.tup ds) = some (false, .tup ds.reverse) := rfl
theorem intsD_map' : ∀ {ns : List Int}, intsD (ns.map .int) = some ns
  | [] => rfl
  | n :: ns => by rw [List.map_cons, intsD, intsD_map'] <;> rfl
theorem few_ints {ns : List Int} : fewI (some (.tup (ns.map .int))) = if ns.length ≤ 60 then some ns else none := by
  show (match intsD (ns.map .int) with
    | some ns => if ns.length ≤ 60 then some ns else none
    | none => none) = _
  rw [intsD_map']
theorem sset_ints {ns : List Int} : ssetD (.tup (ns.map .int)) = if ns.length ≤ 60 then some (true, .lst ((ssetZ ns).map .int)) else none := by
  unfold ssetD
  rw [few_ints]
  split <;> rfl
theorem ev_rgs {t : Bool} {a : Ex} : evalV T (.rgs t a) ρ = op1 (opd (evalV T a) a) (rgsD t) ρ := by rw [evalV] <;> rfl
/-- a comprehension, by an invariant -/
theorem wp_compR {elt : Ex} {tg : List Nat} {one : Bool} {cond : Ex} {own : List Nat} {ds : List D} {ls : List Nat} {Q : (Bool × D) × Env → Prop} (I : List D → List D → Env → Prop)
    (h1 : (wipeOk ρ own && lsOk ρ ls) = true) (h2 : I [] ds (lends ρ ls))
    (h3 : ∀ fs d r ρ, I fs (d :: r) ρ → ∃ ρ1, bindI tg one d (wipeS ρ own) = some ρ1 ∧ Wp (condD (evalV T cond) cond ρ1) fun p =>
      if p.1 = true then Wp (evalV T elt p.2) fun q => I (fs ++ [q.1.2]) r q.2 else I fs r p.2)
    (h4 : ∀ gs ρ', I gs [] ρ' → Q ((true, .lst gs), backS ρ (unlend ρ ρ' ls) own)) : Wp (compR T elt tg one cond own ds ls ρ) Q := by
  unfold compR
  rw [if_pos h1, wp_bind]
  obtain ⟨a, e, q⟩ := wp_comp (Q := fun p => Q ((true, .lst p.1), backS ρ (unlend ρ p.2 ls) own)) I h3 [] h2 (fun gs ρ' hi => h4 gs ρ' (by simpa using hi))
  exact ⟨a, by rw [e] <;> rfl, wp_ok.mpr q⟩
end
theorem wp_noEx {α : Type} {r : Res α} {Q : α → Prop} : Wp (noEx r) Q ↔ Wp r Q := by
  cases r with
  | ok a => exact Iff.rfl
  | ex x ρ => exact ⟨fun ⟨_, e, _⟩ => (by cases e), fun ⟨_, e, _⟩ => (by cases e)⟩
  | no => exact Iff.rfl
/-- behind a loop -/
def UnlK (ρ₀ : Env) (ls : List Nat) (Q : Fl → Prop) (f : Fl) : Prop := match f with
    | .nx ρ => Q (.nx (unlend ρ₀ ρ ls))
    | .rt o d ρ => Q (.rt o d (unlend ρ₀ ρ ls))
    | .bk ρ => Q (.bk (unlend ρ₀ ρ ls))
    | .ct ρ => Q (.ct (unlend ρ₀ ρ ls))
theorem wp_unlF {ρ₀ : Env} {ls : List Nat} {r : Res Fl} {Q : Fl → Prop} : Wp (unlF ρ₀ ls r) Q ↔ Wp r (UnlK ρ₀ ls Q) := by
  cases r with
  | ok a => cases a <;> exact ⟨fun ⟨_, e, h⟩ => (by cases e; exact ⟨_, rfl, h⟩), fun ⟨_, e, h⟩ => (by cases e; exact ⟨_, rfl, h⟩)⟩
  | ex x ρ => exact ⟨fun ⟨_, e, _⟩ => (by cases e), fun ⟨_, e, _⟩ => (by cases e)⟩
  | no => exact ⟨fun ⟨_, e, _⟩ => (by cases e), fun ⟨_, e, _⟩ => (by cases e)⟩
section
variable {ρ₀ : Env} {ls : List Nat} {Q : Fl → Prop} {ρ : Env}
theorem unlk_nx : UnlK ρ₀ ls Q (.nx ρ) ↔ Q (.nx (unlend ρ₀ ρ ls)) := Iff.rfl
theorem unlk_rt {o : Bool} {d : D} : UnlK ρ₀ ls Q (.rt o d ρ) ↔ Q (.rt o d (unlend ρ₀ ρ ls)) := Iff.rfl
end
/-! calls -/
/-- what a call gives -/
def Wc (M : Md) (n : Nat) (f : Str) (ds : List D) (Q : Bool → D → List D → Prop) : Prop := ∃ o d outs, callN M n f ds = .ok o d outs ∧ Q o d outs
theorem wc_mono {M : Md} {n : Nat} {f : Str} {ds : List D} {Q Q' : Bool → D → List D → Prop} (h : Wc M n f ds Q) (m : ∀ o d outs, Q o d outs → Q' o d outs) : Wc M n f ds Q' := by
  obtain ⟨o, d, outs, e, q⟩ := h
  exact ⟨o, d, outs, e, m _ _ _ q⟩
theorem wc_eq {M : Md} {n : Nat} {f : Str} {ds : List D} {o : Bool} {d : D} {outs : List D} (h : Wc M n f ds fun o' d' outs' => o' = o ∧ d' = d ∧ outs' = outs) : callN M n f ds = .ok o d outs := by
  obtain ⟨_, _, _, e, rfl, rfl, rfl⟩ := h
  exact e
def Ends (ks : List Kd) (Q : Bool → D → List D → Prop) : Fl → Prop
  | .rt o d ρ => ∃ outs, outsOf ks ρ = some outs ∧ Q o d outs
  | .nx ρ => ∃ outs, outsOf ks ρ = some outs ∧ Q false .non outs
  | _ => False
theorem ends_rt {ks : List Kd} {Q : Bool → D → List D → Prop} {o : Bool} {d : D} {ρ : Env} : Ends ks Q (.rt o d ρ) ↔ ∃ outs, outsOf ks ρ = some outs ∧ Q o d outs := Iff.rfl
theorem ends_nx {ks : List Kd} {Q : Bool → D → List D → Prop} {ρ : Env} : Ends ks Q (.nx ρ) ↔ ∃ outs, outsOf ks ρ = some outs ∧ Q false .non outs := Iff.rfl
theorem wc_of {M : Md} {n : Nat} {f : Str} {F : Fn} {ds : List D} {Q : Bool → D → List D → Prop} (hM : M.fns f = some F) (hl : ds.length = F.ks.length ∧ F.ks.length ≤ F.n)
    (h : Wp (execs (M.tb n) F.body (enter F ds)) (Ends F.ks Q)) : Wc M (n + 1) f ds Q := by
  obtain ⟨fl, e, h⟩ := h
  unfold Wc
  rw [callN_succ, hM]
  dsimp only
  rw [if_pos hl, e]
  cases fl with
  | rt o d ρ =>
    obtain ⟨outs, e1, q⟩ := h
    exact ⟨o, d, outs, by simp only [leave, e1], q⟩
  | nx ρ =>
    obtain ⟨outs, e1, q⟩ := h
    exact ⟨_, _, outs, by simp only [leave, e1], q⟩
  | bk ρ => exact h.elim
  | ct ρ => exact h.elim
def afterC (c : CR) (as : List Ar) (ρ : Env) : Rv := match c with
  | .no => .no
  | .ex x => if as.any Ar.lent then .no else .ex x ρ
  | .ok own d outs => match putOuts as outs ρ with
    | some ρ' => .ok ((own, d), ρ')
    | none => .no
theorem run_eq {M : Md} {n : Nat} {f : Str} {as : List Ar} {ρ : Env} : runCall (M.tb n) f as ρ = if ioDup as = true then .no else match getArs ρ as with
    | none => .no
    | some ds => afterC (callN M n f ds) as ρ := rfl
theorem after_ok {o : Bool} {d : D} {outs : List D} {as : List Ar} {ρ : Env} : afterC (.ok o d outs) as ρ = match putOuts as outs ρ with
    | some ρ' => .ok ((o, d), ρ')
    | none => .no := rfl
theorem wp_after {M : Md} {n : Nat} {f : Str} {ds : List D} {as : List Ar} {ρ : Env} {Q : (Bool × D) × Env → Prop} (h : Wc M n f ds fun o d outs => ∃ ρ', putOuts as outs ρ = some ρ' ∧ Q ((o, d), ρ')) : Wp (afterC (callN M n f ds) as ρ) Q := by
  obtain ⟨o, d, outs, e, ρ', e1, q⟩ := h
  rw [e]
  exact ⟨_, by rw [after_ok, e1], q⟩
theorem wp_if {α : Type} {c : Prop} [Decidable c] {a b : Res α} {Q : α → Prop} : Wp (if c then a else b) Q ↔ (c → Wp a Q) ∧ (¬ c → Wp b Q) := by
  split
  · rename_i h; exact ⟨fun x => ⟨fun _ => x, fun z => absurd h z⟩, fun x => x.1 h⟩
  · rename_i h; exact ⟨fun x => ⟨fun z => absurd z h, fun _ => x⟩, fun x => x.2 h⟩
theorem tb_kinds {M : Md} {n : Nat} : (M.tb n).kinds = M.kinds := rfl
theorem kinds_of {M : Md} {f : Str} {F : Fn} (h : M.fns f = some F) : M.kinds f = F.ks := by unfold Md.kinds; rw [h]
/-- goes on, with P -/
def NxK (P : Env → Prop) : Fl → Prop
  | .nx ρ => P ρ
  | _ => False
theorem nxk_nx {P : Env → Prop} {ρ : Env} : NxK P (.nx ρ) ↔ P ρ := Iff.rfl
/-- ways that meet -/
theorem wp_join {T : Tb} {ss : List Sx} {Q : Fl → Prop} {r : Res Fl} (P : Env → Prop) (h1 : Wp r (NxK P)) (h2 : ∀ ρ, P ρ → Wp (execs T ss ρ) Q) : Wp r (Kont T ss Q) := by
  obtain ⟨f, e, h⟩ := h1
  refine ⟨f, e, ?_⟩
  cases f with
  | nx ρ => exact h2 ρ h
  | _ => exact h.elim
end Pd
set_option Elab.async false
set_option linter.all false
/-! Pd22: rows for simp. -/
namespace Pd
open PySem L2
def Sl.isOk : Sl → Bool
  | .io _ => false
  | .le _ => false
  | _ => true
def Sl.isFr : Sl → Bool
  | .no => true
  | .fr _ => true
  | _ => false
theorem isOk_no : Sl.isOk .no = true := rfl
theorem isOk_fr {d : D} : Sl.isOk (.fr d) = true := rfl
theorem isOk_ow {d : D} : Sl.isOk (.ow d) = true := rfl
theorem isOk_bo {d : D} : Sl.isOk (.bo d) = true := rfl
theorem isFr_no : Sl.isFr .no = true := rfl
theorem isFr_fr {d : D} : Sl.isFr (.fr d) = true := rfl
theorem setSl_0 { s : Sl} {r : Env} {d : D} {own : Bool} : setSl 0 own d (s :: r) = if s.isOk = true then some ((if own = true then .ow d else .fr d) :: r) else none := by
  cases s <;> rfl
theorem setSl_1 {a0 s : Sl} {r : Env} {d : D} {own : Bool} : setSl 1 own d (a0 :: s :: r) = if s.isOk = true then some (a0 :: (if own = true then .ow d else .fr d) :: r) else none := by
  cases s <;> rfl
theorem setSl_2 {a0 a1 s : Sl} {r : Env} {d : D} {own : Bool} : setSl 2 own d (a0 :: a1 :: s :: r) = if s.isOk = true then some (a0 :: a1 :: (if own = true then .ow d else .fr d) :: r) else none := by
  cases s <;> rfl
theorem setSl_3 {a0 a1 a2 s : Sl} {r : Env} {d : D} {own : Bool} : setSl 3 own d (a0 :: a1 :: a2 :: s :: r) = if s.isOk = true then some (a0 :: a1 :: a2 :: (if own = true then .ow d else .fr d) :: r) else none := by
  cases s <;> rfl
theorem setSl_4 {a0 a1 a2 a3 s : Sl} {r : Env} {d : D} {own : Bool} : setSl 4 own d (a0 :: a1 :: a2 :: a3 :: s :: r) = if s.isOk = true then some (a0 :: a1 :: a2 :: a3 :: (if own = true then .ow d else .fr d) :: r) else none := by
  cases s <;> rfl
theorem setSl_5 {a0 a1 a2 a3 a4 s : Sl} {r : Env} {d : D} {own : Bool} : setSl 5 own d (a0 :: a1 :: a2 :: a3 :: a4 :: s :: r) = if s.isOk = true then some (a0 :: a1 :: a2 :: a3 :: a4 :: (if own = true then .ow d else .fr d) :: r) else none := by
  cases s <;> rfl
theorem setSl_6 {a0 a1 a2 a3 a4 a5 s : Sl} {r : Env} {d : D} {own : Bool} : setSl 6 own d (a0 :: a1 :: a2 :: a3 :: a4 :: a5 :: s :: r) = if s.isOk = true then some (a0 :: a1 :: a2 :: a3 :: a4 :: a5 :: (if own = true then .ow d else .fr d) :: r) else none := by
  cases s <;> rfl
theorem setSl_7 {a0 a1 a2 a3 a4 a5 a6 s : Sl} {r : Env} {d : D} {own : Bool} : setSl 7 own d (a0 :: a1 :: a2 :: a3 :: a4 :: a5 :: a6 :: s :: r) = if s.isOk = true then some (a0 :: a1 :: a2 :: a3 :: a4 :: a5 :: a6 :: (if own = true then .ow d else .fr d) :: r) else none := by
  cases s <;> rfl
theorem setSl_8 {a0 a1 a2 a3 a4 a5 a6 a7 s : Sl} {r : Env} {d : D} {own : Bool} : setSl 8 own d (a0 :: a1 :: a2 :: a3 :: a4 :: a5 :: a6 :: a7 :: s :: r) = if s.isOk = true then some (a0 :: a1 :: a2 :: a3 :: a4 :: a5 :: a6 :: a7 :: (if own = true then .ow d else .fr d) :: r) else none := by
  cases s <;> rfl
theorem setSl_9 {a0 a1 a2 a3 a4 a5 a6 a7 a8 s : Sl} {r : Env} {d : D} {own : Bool} : setSl 9 own d (a0 :: a1 :: a2 :: a3 :: a4 :: a5 :: a6 :: a7 :: a8 :: s :: r) = if s.isOk = true then some (a0 :: a1 :: a2 :: a3 :: a4 :: a5 :: a6 :: a7 :: a8 :: (if own = true then .ow d else .fr d) :: r) else none := by
  cases s <;> rfl
theorem setSl_10 {a0 a1 a2 a3 a4 a5 a6 a7 a8 a9 s : Sl} {r : Env} {d : D} {own : Bool} : setSl 10 own d (a0 :: a1 :: a2 :: a3 :: a4 :: a5 :: a6 :: a7 :: a8 :: a9 :: s :: r) = if s.isOk = true then some (a0 :: a1 :: a2 :: a3 :: a4 :: a5 :: a6 :: a7 :: a8 :: a9 :: (if own = true then .ow d else .fr d) :: r) else none := by
  cases s <;> rfl
theorem setSl_11 {a0 a1 a2 a3 a4 a5 a6 a7 a8 a9 a10 s : Sl} {r : Env} {d : D} {own : Bool} : setSl 11 own d (a0 :: a1 :: a2 :: a3 :: a4 :: a5 :: a6 :: a7 :: a8 :: a9 :: a10 :: s :: r) = if s.isOk = true then some (a0 :: a1 :: a2 :: a3 :: a4 :: a5 :: a6 :: a7 :: a8 :: a9 :: a10 :: (if own = true then .ow d else .fr d) :: r) else none := by
  cases s <;> rfl
theorem setSl_12 {a0 a1 a2 a3 a4 a5 a6 a7 a8 a9 a10 a11 s : Sl} {r : Env} {d : D} {own : Bool} : setSl 12 own d (a0 :: a1 :: a2 :: a3 :: a4 :: a5 :: a6 :: a7 :: a8 :: a9 :: a10 :: a11 :: s :: r) = if s.isOk = true then some (a0 :: a1 :: a2 :: a3 :: a4 :: a5 :: a6 :: a7 :: a8 :: a9 :: a10 :: a11 :: (if own = true then .ow d else .fr d) :: r) else none := by
  cases s <;> rfl
theorem setSl_13 {a0 a1 a2 a3 a4 a5 a6 a7 a8 a9 a10 a11 a12 s : Sl} {r : Env} {d : D} {own : Bool} : setSl 13 own d (a0 :: a1 :: a2 :: a3 :: a4 :: a5 :: a6 :: a7 :: a8 :: a9 :: a10 :: a11 :: a12 :: s :: r) = if s.isOk = true then some (a0 :: a1 :: a2 :: a3 :: a4 :: a5 :: a6 :: a7 :: a8 :: a9 :: a10 :: a11 :: a12 :: (if own = true then .ow d else .fr d) :: r) else none := by
  cases s <;> rfl
theorem setSl_14 {a0 a1 a2 a3 a4 a5 a6 a7 a8 a9 a10 a11 a12 a13 s : Sl} {r : Env} {d : D} {own : Bool} : setSl 14 own d (a0 :: a1 :: a2 :: a3 :: a4 :: a5 :: a6 :: a7 :: a8 :: a9 :: a10 :: a11 :: a12 :: a13 :: s :: r) = if s.isOk = true then some (a0 :: a1 :: a2 :: a3 :: a4 :: a5 :: a6 :: a7 :: a8 :: a9 :: a10 :: a11 :: a12 :: a13 :: (if own = true then .ow d else .fr d) :: r) else none := by
  cases s <;> rfl
theorem setSl_15 {a0 a1 a2 a3 a4 a5 a6 a7 a8 a9 a10 a11 a12 a13 a14 s : Sl} {r : Env} {d : D} {own : Bool} : setSl 15 own d (a0 :: a1 :: a2 :: a3 :: a4 :: a5 :: a6 :: a7 :: a8 :: a9 :: a10 :: a11 :: a12 :: a13 :: a14 :: s :: r) = if s.isOk = true then some (a0 :: a1 :: a2 :: a3 :: a4 :: a5 :: a6 :: a7 :: a8 :: a9 :: a10 :: a11 :: a12 :: a13 :: a14 :: (if own = true then .ow d else .fr d) :: r) else none := by
  cases s <;> rfl
theorem setSl_16 {a0 a1 a2 a3 a4 a5 a6 a7 a8 a9 a10 a11 a12 a13 a14 a15 s : Sl} {r : Env} {d : D} {own : Bool} : setSl 16 own d (a0 :: a1 :: a2 :: a3 :: a4 :: a5 :: a6 :: a7 :: a8 :: a9 :: a10 :: a11 :: a12 :: a13 :: a14 :: a15 :: s :: r) = if s.isOk = true then some (a0 :: a1 :: a2 :: a3 :: a4 :: a5 :: a6 :: a7 :: a8 :: a9 :: a10 :: a11 :: a12 :: a13 :: a14 :: a15 :: (if own = true then .ow d else .fr d) :: r) else none := by
  cases s <;> rfl
theorem setSl_17 {a0 a1 a2 a3 a4 a5 a6 a7 a8 a9 a10 a11 a12 a13 a14 a15 a16 s : Sl} {r : Env} {d : D} {own : Bool} : setSl 17 own d (a0 :: a1 :: a2 :: a3 :: a4 :: a5 :: a6 :: a7 :: a8 :: a9 :: a10 :: a11 :: a12 :: a13 :: a14 :: a15 :: a16 :: s :: r) = if s.isOk = true then some (a0 :: a1 :: a2 :: a3 :: a4 :: a5 :: a6 :: a7 :: a8 :: a9 :: a10 :: a11 :: a12 :: a13 :: a14 :: a15 :: a16 :: (if own = true then .ow d else .fr d) :: r) else none := by
  cases s <;> rfl
theorem setSl_18 {a0 a1 a2 a3 a4 a5 a6 a7 a8 a9 a10 a11 a12 a13 a14 a15 a16 a17 s : Sl} {r : Env} {d : D} {own : Bool} : setSl 18 own d (a0 :: a1 :: a2 :: a3 :: a4 :: a5 :: a6 :: a7 :: a8 :: a9 :: a10 :: a11 :: a12 :: a13 :: a14 :: a15 :: a16 :: a17 :: s :: r) = if s.isOk = true then some (a0 :: a1 :: a2 :: a3 :: a4 :: a5 :: a6 :: a7 :: a8 :: a9 :: a10 :: a11 :: a12 :: a13 :: a14 :: a15 :: a16 :: a17 :: (if own = true then .ow d else .fr d) :: r) else none := by
  cases s <;> rfl
theorem setSl_19 {a0 a1 a2 a3 a4 a5 a6 a7 a8 a9 a10 a11 a12 a13 a14 a15 a16 a17 a18 s : Sl} {r : Env} {d : D} {own : Bool} : setSl 19 own d (a0 :: a1 :: a2 :: a3 :: a4 :: a5 :: a6 :: a7 :: a8 :: a9 :: a10 :: a11 :: a12 :: a13 :: a14 :: a15 :: a16 :: a17 :: a18 :: s :: r) = if s.isOk = true then some (a0 :: a1 :: a2 :: a3 :: a4 :: a5 :: a6 :: a7 :: a8 :: a9 :: a10 :: a11 :: a12 :: a13 :: a14 :: a15 :: a16 :: a17 :: a18 :: (if own = true then .ow d else .fr d) :: r) else none := by
  cases s <;> rfl
theorem setSl_20 {a0 a1 a2 a3 a4 a5 a6 a7 a8 a9 a10 a11 a12 a13 a14 a15 a16 a17 a18 a19 s : Sl} {r : Env} {d : D} {own : Bool} : setSl 20 own d (a0 :: a1 :: a2 :: a3 :: a4 :: a5 :: a6 :: a7 :: a8 :: a9 :: a10 :: a11 :: a12 :: a13 :: a14 :: a15 :: a16 :: a17 :: a18 :: a19 :: s :: r) = if s.isOk = true then some (a0 :: a1 :: a2 :: a3 :: a4 :: a5 :: a6 :: a7 :: a8 :: a9 :: a10 :: a11 :: a12 :: a13 :: a14 :: a15 :: a16 :: a17 :: a18 :: a19 :: (if own = true then .ow d else .fr d) :: r) else none := by
  cases s <;> rfl
theorem setSl_21 {a0 a1 a2 a3 a4 a5 a6 a7 a8 a9 a10 a11 a12 a13 a14 a15 a16 a17 a18 a19 a20 s : Sl} {r : Env} {d : D} {own : Bool} : setSl 21 own d (a0 :: a1 :: a2 :: a3 :: a4 :: a5 :: a6 :: a7 :: a8 :: a9 :: a10 :: a11 :: a12 :: a13 :: a14 :: a15 :: a16 :: a17 :: a18 :: a19 :: a20 :: s :: r) = if s.isOk = true then some (a0 :: a1 :: a2 :: a3 :: a4 :: a5 :: a6 :: a7 :: a8 :: a9 :: a10 :: a11 :: a12 :: a13 :: a14 :: a15 :: a16 :: a17 :: a18 :: a19 :: a20 :: (if own = true then .ow d else .fr d) :: r) else none := by
  cases s <;> rfl
theorem setSl_22 {a0 a1 a2 a3 a4 a5 a6 a7 a8 a9 a10 a11 a12 a13 a14 a15 a16 a17 a18 a19 a20 a21 s : Sl} {r : Env} {d : D} {own : Bool} : setSl 22 own d (a0 :: a1 :: a2 :: a3 :: a4 :: a5 :: a6 :: a7 :: a8 :: a9 :: a10 :: a11 :: a12 :: a13 :: a14 :: a15 :: a16 :: a17 :: a18 :: a19 :: a20 :: a21 :: s :: r) = if s.isOk = true then some (a0 :: a1 :: a2 :: a3 :: a4 :: a5 :: a6 :: a7 :: a8 :: a9 :: a10 :: a11 :: a12 :: a13 :: a14 :: a15 :: a16 :: a17 :: a18 :: a19 :: a20 :: a21 :: (if own = true then .ow d else .fr d) :: r) else none := by
  cases s <;> rfl
theorem setSl_23 {a0 a1 a2 a3 a4 a5 a6 a7 a8 a9 a10 a11 a12 a13 a14 a15 a16 a17 a18 a19 a20 a21 a22 s : Sl} {r : Env} {d : D} {own : Bool} : setSl 23 own d (a0 :: a1 :: a2 :: a3 :: a4 :: a5 :: a6 :: a7 :: a8 :: a9 :: a10 :: a11 :: a12 :: a13 :: a14 :: a15 :: a16 :: a17 :: a18 :: a19 :: a20 :: a21 :: a22 :: s :: r) = if s.isOk = true then some (a0 :: a1 :: a2 :: a3 :: a4 :: a5 :: a6 :: a7 :: a8 :: a9 :: a10 :: a11 :: a12 :: a13 :: a14 :: a15 :: a16 :: a17 :: a18 :: a19 :: a20 :: a21 :: a22 :: (if own = true then .ow d else .fr d) :: r) else none := by
  cases s <;> rfl
theorem setSl_24 {a0 a1 a2 a3 a4 a5 a6 a7 a8 a9 a10 a11 a12 a13 a14 a15 a16 a17 a18 a19 a20 a21 a22 a23 s : Sl} {r : Env} {d : D} {own : Bool} : setSl 24 own d (a0 :: a1 :: a2 :: a3 :: a4 :: a5 :: a6 :: a7 :: a8 :: a9 :: a10 :: a11 :: a12 :: a13 :: a14 :: a15 :: a16 :: a17 :: a18 :: a19 :: a20 :: a21 :: a22 :: a23 :: s :: r) = if s.isOk = true then some (a0 :: a1 :: a2 :: a3 :: a4 :: a5 :: a6 :: a7 :: a8 :: a9 :: a10 :: a11 :: a12 :: a13 :: a14 :: a15 :: a16 :: a17 :: a18 :: a19 :: a20 :: a21 :: a22 :: a23 :: (if own = true then .ow d else .fr d) :: r) else none := by
  cases s <;> rfl
theorem setSl_25 {a0 a1 a2 a3 a4 a5 a6 a7 a8 a9 a10 a11 a12 a13 a14 a15 a16 a17 a18 a19 a20 a21 a22 a23 a24 s : Sl} {r : Env} {d : D} {own : Bool} : setSl 25 own d (a0 :: a1 :: a2 :: a3 :: a4 :: a5 :: a6 :: a7 :: a8 :: a9 :: a10 :: a11 :: a12 :: a13 :: a14 :: a15 :: a16 :: a17 :: a18 :: a19 :: a20 :: a21 :: a22 :: a23 :: a24 :: s :: r) = if s.isOk = true then some (a0 :: a1 :: a2 :: a3 :: a4 :: a5 :: a6 :: a7 :: a8 :: a9 :: a10 :: a11 :: a12 :: a13 :: a14 :: a15 :: a16 :: a17 :: a18 :: a19 :: a20 :: a21 :: a22 :: a23 :: a24 :: (if own = true then .ow d else .fr d) :: r) else none := by
  cases s <;> rfl
theorem optF_some {ρ : Env} : optF (some ρ) = .ok (.nx ρ) := rfl
theorem optR_some {p : Bool × D} {ρ : Env} : optR (some p) ρ = .ok (p, ρ) := by
  obtain ⟨o, d⟩ := p; rfl
theorem optR_if {c : Prop} [Decidable c] {p : Bool × D} {ρ : Env} : optR (if c then some p else none) ρ = if c then .ok (p, ρ) else .no := by
  split
  · exact optR_some
  · rfl
theorem bin_add {i j : Int} : binD .Add (.int i) (.int j) = some (false, .int (i + j)) := rfl
theorem bin_sub {i j : Int} : binD .Sub (.int i) (.int j) = some (false, .int (i - j)) := rfl
theorem bin_mul' {i j : Int} : binD .Mult (.int i) (.int j) = if mulOk i j then some (false, .int (i * j)) else none := rfl
theorem bin_mod' {i j : Int} : binD .Mod (.int i) (.int j) = if j ≠ 0 then some (false, .int (i.fmod j)) else none := rfl
theorem bin_fdiv' {i j : Int} : binD .FloorDiv (.int i) (.int j) = if j ≠ 0 ∧ j.natAbs.log2 < 9000 then some (false, .int (i.fdiv j)) else none := rfl
theorem bin_pow {i j : Int} : binD .Pow (.int i) (.int j) = if 0 ≤ j ∧ j ≤ 100000 ∧ i.natAbs < 2 ^ 64 then some (false, .int (i ^ j.toNat)) else none := rfl
theorem bin_addT {xs ys : List D} : binD .Add (.tup xs) (.tup ys) = if xs.length + ys.length ≤ sizeLine then some (false, .tup (xs ++ ys)) else none := rfl
theorem bin_mulT {xs : List D} {k : Int} : binD .Mult (.tup xs) (.int k) = if xs.isEmpty = false ∧ 1 ≤ k ∧ k ≤ 1000 ∧ xs.length ≤ 1000 then some (false, .tup (List.replicate k.toNat xs).flatten) else none := rfl
theorem bi_str {i : Int} : biD .str [.int i] = if i.natAbs.log2 < 1920 then some (false, .str (toString i : String)) else none := rfl
theorem bin_addL {xs ys : List D} : binD .Add (.lst xs) (.lst ys) = if xs.length + ys.length ≤ sizeLine then some (true, .lst (xs ++ ys)) else none := rfl
theorem cmp_eq {a b : D} : cmpD .Eq a b = eqD a b := rfl
theorem cmp_ne {a b : D} : cmpD .NotEq a b = (eqD a b).map (!·) := rfl
theorem cmp_lt {i j : Int} : cmpD .Lt (.int i) (.int j) = some (decide (i < j)) := rfl
theorem cmp_le {i j : Int} : cmpD .LtE (.int i) (.int j) = some (decide (i ≤ j)) := rfl
theorem cmp_gt {i j : Int} : cmpD .Gt (.int i) (.int j) = some (decide (j < i)) := rfl
theorem cmp_ge {i j : Int} : cmpD .GtE (.int i) (.int j) = some (decide (j ≤ i)) := rfl
theorem cmp_inT {a : D} {ds : List D} : cmpD .In a (.tup ds) = inD a ds := rfl
theorem cmp_inL {a : D} {ds : List D} : cmpD .In a (.lst ds) = inD a ds := rfl
theorem cmp_ninT {a : D} {ds : List D} : cmpD .NotIn a (.tup ds) = (inD a ds).map (!·) := rfl
theorem cmp_ninL {a : D} {ds : List D} : cmpD .NotIn a (.lst ds) = (inD a ds).map (!·) := rfl
theorem cmp_is {a b : D} : cmpD .Is a b = isD a b := rfl
theorem cmp_isn {a b : D} : cmpD .IsNot a b = (isD a b).map (!·) := rfl
/-! alike: plain things, with truths and no ints (fl) or ints and no truths -/
mutual
def nzD (fl : Bool) : D → Nat → Bool
  | .non, _ => true
  | .bl _, _ => fl
  | .int _, _ => !fl
  | .str x, _ => PyData.strOk x
  | .tup ds, k => (match k with | 0 => false | k + 1 => nzDs fl ds k)
  | .lst ds, k => (match k with | 0 => false | k + 1 => nzDs fl ds k)
  | _, _ => false
def nzDs (fl : Bool) : List D → Nat → Bool
  | [], _ => true
  | d :: ds, k => nzD fl d k && nzDs fl ds k
end
mutual
theorem nz_py {fl : Bool} : ∀ (d : D) (k : Nat), nzD fl d k = true → ∃ p, toPy d = some p ∧ p.canLay0 = true ∧ p.depth ≤ k
  | .non, k, _ => ⟨.none, rfl, rfl, Nat.zero_le _⟩
  | .bl b, k, _ => ⟨.bool b, rfl, rfl, Nat.zero_le _⟩
  | .int i, k, _ => ⟨.int i, rfl, rfl, Nat.zero_le _⟩
  | .str x, k, h => ⟨.str x, rfl, by rw [PyData.canLay0]; simpa [nzD] using h, Nat.zero_le _⟩
  | .tup ds, 0, h => by simp [nzD] at h
  | .lst ds, 0, h => by simp [nzD] at h
  | .tup ds, k + 1, h => by
    obtain ⟨ps, a, b, c⟩ := nz_pys ds k (by simpa [nzD] using h)
    exact ⟨.tuple ps, by rw [toPy, a] <;> rfl, by rw [PyData.canLay0]; exact b, by rw [PyData.depth]; omega⟩
  | .lst ds, k + 1, h => by
    obtain ⟨ps, a, b, c⟩ := nz_pys ds k (by simpa [nzD] using h)
    exact ⟨.list ps, by rw [toPy, a] <;> rfl, by rw [PyData.canLay0]; exact b, by rw [PyData.depth]; omega⟩
  | .scr _, k, h => by simp [nzD] at h
  | .dct _ _, k, h => by simp [nzD] at h
  | .set _, k, h => by simp [nzD] at h
  | .obj _ _ _, k, h => by simp [nzD] at h
  | .exc _ _ _, k, h => by simp [nzD] at h
  | .lam _ _, k, h => by simp [nzD] at h
theorem nz_pys {fl : Bool} : ∀ (ds : List D) (k : Nat), nzDs fl ds k = true → ∃ ps, toPys ds = some ps ∧ PyData.canLayAll0 ps = true ∧ PyData.depthAll ps ≤ k
  | [], k, _ => ⟨[], rfl, rfl, Nat.zero_le _⟩
  | d :: ds, k, h => by
    have h' : nzD fl d k = true ∧ nzDs fl ds k = true := by simpa [nzDs] using h
    obtain ⟨p, a1, b1, c1⟩ := nz_py d k h'.1
    obtain ⟨ps, a2, b2, c2⟩ := nz_pys ds k h'.2
    exact ⟨p :: ps, by rw [toPys, a1, a2], by rw [PyData.canLayAll0, b1, b2] <;> rfl, by rw [PyData.depthAll]; omega⟩
end
mutual
def pureP (fl : Bool) : PyData → Bool
  | .none => true
  | .bool _ => fl
  | .int _ => !fl
  | .str _ => true
  | .list xs => purePs fl xs
  | .tuple xs => purePs fl xs
  | .dict _ => false
def purePs (fl : Bool) : List PyData → Bool
  | [] => true
  | x :: xs => pureP fl x && purePs fl xs
end
mutual
theorem eqv_pure {fl : Bool} : ∀ (p q : PyData), pureP fl p = true → pureP fl q = true → (PyData.eqv p q = true ↔ p = q)
  | .none, q, _, hq => by cases q <;> simp_all [pureP, PyData.eqv]
  | .bool _, q, _, hq => by cases q <;> simp_all [pureP, PyData.eqv]
  | .int _, q, _, hq => by cases q <;> simp_all [pureP, PyData.eqv]
  | .str _, q, _, hq => by cases q <;> simp_all [pureP, PyData.eqv]
  | .dict _, q, h, _ => by simp [pureP] at h
  | .list xs, q, hp, hq => by
    cases q with
    | list ys =>
      rw [PyData.eqv, eqvs_pure xs ys (by simpa [pureP] using hp) (by simpa [pureP] using hq)]
      simp
    | _ => simp [PyData.eqv]
  | .tuple xs, q, hp, hq => by
    cases q with
    | tuple ys =>
      rw [PyData.eqv, eqvs_pure xs ys (by simpa [pureP] using hp) (by simpa [pureP] using hq)]
      simp
    | _ => simp [PyData.eqv]
theorem eqvs_pure {fl : Bool} : ∀ (ps qs : List PyData), purePs fl ps = true → purePs fl qs = true → (PyData.eqvAll ps qs = true ↔ ps = qs)
  | [], [], _, _ => by simp [PyData.eqvAll]
  | [], _ :: _, _, _ => by simp [PyData.eqvAll]
  | _ :: _, [], _, _ => by simp [PyData.eqvAll]
  | p :: ps, q :: qs, hp, hq => by
    have hp' : pureP fl p = true ∧ purePs fl ps = true := by simpa [purePs] using hp
    have hq' : pureP fl q = true ∧ purePs fl qs = true := by simpa [purePs] using hq
    rw [PyData.eqvAll, Bool.and_eq_true, eqv_pure p q hp'.1 hq'.1, eqvs_pure ps qs hp'.2 hq'.2]
    simp
end
mutual
def ofPyD : PyData → D
  | .none => .non
  | .bool b => .bl b
  | .int i => .int i
  | .str x => .str x
  | .list xs => .lst (ofPyDs xs)
  | .tuple xs => .tup (ofPyDs xs)
  | .dict _ => .non
def ofPyDs : List PyData → List D
  | [] => []
  | x :: xs => ofPyD x :: ofPyDs xs
end
mutual
theorem of_to {fl : Bool} : ∀ (d : D) (k : Nat) (p : PyData), nzD fl d k = true → toPy d = some p → ofPyD p = d ∧ pureP fl p = true
  | .non, k, p, h, hp => by cases hp; exact ⟨rfl, rfl⟩
  | .bl b, k, p, h, hp => by cases hp; exact ⟨rfl, by simpa [nzD, pureP] using h⟩
  | .int b, k, p, h, hp => by cases hp; exact ⟨rfl, by simpa [nzD, pureP] using h⟩
  | .str b, k, p, h, hp => by cases hp; exact ⟨rfl, rfl⟩
  | .tup ds, k, p, h, hp => by
    cases k with
    | zero => simp [nzD] at h
    | succ k =>
      have h' : nzDs fl ds k = true := by simpa [nzD] using h
      obtain ⟨ps, e, _⟩ := nz_pys ds k h'
      rw [toPy, e] at hp
      cases hp
      obtain ⟨a, b⟩ := of_tos ds k ps h' e
      exact ⟨by rw [ofPyD, a], by rw [pureP, b]⟩
  | .lst ds, k, p, h, hp => by
    cases k with
    | zero => simp [nzD] at h
    | succ k =>
      have h' : nzDs fl ds k = true := by simpa [nzD] using h
      obtain ⟨ps, e, _⟩ := nz_pys ds k h'
      rw [toPy, e] at hp
      cases hp
      obtain ⟨a, b⟩ := of_tos ds k ps h' e
      exact ⟨by rw [ofPyD, a], by rw [pureP, b]⟩
  | .scr _, _, _, h, _ => by simp [nzD] at h
  | .dct _ _, _, _, h, _ => by simp [nzD] at h
  | .set _, _, _, h, _ => by simp [nzD] at h
  | .obj _ _ _, _, _, h, _ => by simp [nzD] at h
  | .exc _ _ _, _, _, h, _ => by simp [nzD] at h
  | .lam _ _, _, _, h, _ => by simp [nzD] at h
theorem of_tos {fl : Bool} : ∀ (ds : List D) (k : Nat) (ps : List PyData), nzDs fl ds k = true → toPys ds = some ps → ofPyDs ps = ds ∧ purePs fl ps = true
  | [], k, ps, h, hp => by cases hp; exact ⟨rfl, rfl⟩
  | d :: ds, k, ps, h, hp => by
    have h' : nzD fl d k = true ∧ nzDs fl ds k = true := by simpa [nzDs] using h
    obtain ⟨p, e1, _⟩ := nz_py d k h'.1
    obtain ⟨ps', e2, _⟩ := nz_pys ds k h'.2
    rw [toPys, e1, e2] at hp
    cases hp
    obtain ⟨a1, b1⟩ := of_to d k p h'.1 e1
    obtain ⟨a2, b2⟩ := of_tos ds k ps' h'.2 e2
    exact ⟨by rw [ofPyDs, a1, a2], by rw [purePs, b1, b2] <;> rfl⟩
end
theorem nz_eqv {fl : Bool} (a b : D) (k : Nat) (p q : PyData) (ha : nzD fl a k = true) (hb : nzD fl b k = true) (hp : toPy a = some p) (hq : toPy b = some q) : (PyData.eqv p q = true ↔ a = b) := by
  obtain ⟨a1, b1⟩ := of_to a k p ha hp
  obtain ⟨a2, b2⟩ := of_to b k q hb hq
  rw [eqv_pure p q b1 b2]
  constructor
  · rintro rfl; rw [← a1, ← a2]
  · rintro rfl; rw [hp] at hq; exact Option.some.inj hq
theorem nz_lst {fl : Bool} {ds : List D} {k : Nat} : nzD fl (.lst ds) (k + 1) = nzDs fl ds k := by rw [nzD]
theorem nz_tup {fl : Bool} {ds : List D} {k : Nat} : nzD fl (.tup ds) (k + 1) = nzDs fl ds k := by rw [nzD]
open Classical in
theorem eq_nz {fl : Bool} {a b : D} (ha : nzD fl a 60 = true) (hb : nzD fl b 60 = true) : eqD a b = some (decide (a = b)) := by
  obtain ⟨p, a1, a2, a3⟩ := nz_py a 60 ha
  obtain ⟨q, b1, b2, b3⟩ := nz_py b 60 hb
  unfold eqD
  rw [a1, b1]
  dsimp only
  rw [if_pos (by simp [shp, a2, b2, a3, b3])]
  congr 1
  exact Bool.eq_iff_iff.mpr (by rw [nz_eqv a b 60 p q ha hb a1 b1]; simp)
open Classical in
theorem in_nz {fl : Bool} {a : D} {ds : List D} (ha : nzD fl a 60 = true) (hb : nzDs fl ds 60 = true) : inD a ds = some (decide (a ∈ ds)) := by
  obtain ⟨p, a1, a2, a3⟩ := nz_py a 60 ha
  obtain ⟨qs, b1, b2, b3⟩ := nz_pys ds 60 hb
  unfold inD
  rw [a1, b1]
  dsimp only
  rw [if_pos (by simp [shp, shps, a2, b2, a3, b3])]
  congr 1
  clear b2 b3
  induction ds generalizing qs with
  | nil => cases b1; simp
  | cons d ds ih =>
    have hb' : nzD fl d 60 = true ∧ nzDs fl ds 60 = true := by simpa [nzDs] using hb
    obtain ⟨q, e1, _⟩ := nz_py d 60 hb'.1
    obtain ⟨qs', e2, _⟩ := nz_pys ds 60 hb'.2
    rw [toPys, e1, e2] at b1
    cases b1
    rw [List.any_cons, ih hb'.2 qs' e2]
    refine Bool.eq_iff_iff.mpr ?_
    rw [Bool.or_eq_true, nz_eqv d a 60 q p hb'.1 ha e1 a1]
    simp only [decide_eq_true_eq, List.mem_cons]
    exact ⟨fun h => h.imp (fun x => x.symm) id, fun h => h.imp (fun x => x.symm) id⟩
theorem nz_ints (k : Nat) : ∀ ns : List Int, nzDs false (ns.map .int) k = true
  | [] => rfl
  | n :: ns => by rw [List.map_cons, nzDs, nz_ints k ns] <;> rfl
theorem D.int_inj {ns ms : List Int} : (ns.map D.int = ms.map D.int) ↔ ns = ms := by
  constructor
  · intro h
    exact (List.map_inj_right (fun x y z => D.int.inj z)).mp h
  · rintro rfl; rfl
theorem eq_ints (ns ms : List Int) : eqD (.lst (ns.map .int)) (.lst (ms.map .int)) = some (decide (ns = ms)) := by
  rw [eq_nz (fl := false) (nz_lst.trans (nz_ints 59 ns)) (nz_lst.trans (nz_ints 59 ms))]
  congr 1
  exact Bool.eq_iff_iff.mpr (by simp [D.int_inj])
theorem eq_intsT (ns ms : List Int) : eqD (.tup (ns.map .int)) (.tup (ms.map .int)) = some (decide (ns = ms)) := by
  rw [eq_nz (fl := false) (nz_tup.trans (nz_ints 59 ns)) (nz_tup.trans (nz_ints 59 ms))]
  congr 1
  exact Bool.eq_iff_iff.mpr (by simp [D.int_inj])
theorem natAbs_lit (n : Nat) : Int.natAbs (no_index (OfNat.ofNat n)) = OfNat.ofNat n := rfl
theorem log2_le {x k : Nat} (h : x < 2 ^ k) : x.log2 ≤ k := by
  by_cases hz : x = 0
  · subst hz; exact Nat.zero_le _
  · exact Nat.le_of_lt ((Nat.log2_lt hz).mpr h)
theorem mulOk_b {i j : Int} (a b : Nat) (hi : i.natAbs < 2 ^ a) (hj : j.natAbs < 2 ^ b) (h : a + b < 1000000) : mulOk i j := by
  have := log2_le hi
  have := log2_le hj
  show _ < _
  omega
/-- a draw -/
theorem wp_take {M : Md} (hM : M.fns "_law_take" = some fTake) {as : List Ar} {ρ : Env} {s : D} {many : Int} {n : Nat} {Q : (Bool × D) × Env → Prop} (hs : IsSt s) (hn : 0 < many) (hb : many.natAbs.log2 < 9000)
    (h : ∀ v s', IsSt s' → 0 ≤ v → v < many → ∃ ρ', putOuts as [s'] ρ = some ρ' ∧ Q ((false, .int v), ρ')) : Wp (afterC (callN M (n + 1) "_law_take" [s, .int many]) as ρ) Q := by
  obtain ⟨v, s', a1, a2, a3, a4⟩ := take_ok M hM hs hn hb n
  exact wp_after ⟨_, _, _, a4, h v s' a1 a2 a3⟩
theorem kinds_take {M : Md} (hM : M.fns "_law_take" = some fTake) : M.kinds "_law_take" = [.io, .bo] := kinds_of hM
theorem kinds_begun {M : Md} (hM : M.fns "_law_begun" = some fBegun) : M.kinds "_law_begun" = [.bo] := kinds_of hM
section
variable {ds es : List D} {i j : Int} {x d : D} {b : Bool} {n : Nat}
theorem bi_lenT : biD .len [.tup ds] = some (false, .int ds.length) := rfl
theorem bi_lenL : biD .len [.lst ds] = some (false, .int ds.length) := rfl
theorem bi_abs : biD .abs [.int i] = some (false, .int i.natAbs) := rfl
theorem bi_sum : biD .sum [.lst ds] = (intsD ds).map fun is => (false, .int is.sum) := rfl
theorem bi_sumT : biD .sum [.tup ds] = (intsD ds).map fun is => (false, .int is.sum) := rfl
theorem bi_minL : biD .min [.lst ds] = (intsD ds).bind fun is => (minZ is).map fun m => (false, .int m) := rfl
theorem bi_maxL : biD .max [.lst ds] = (intsD ds).bind fun is => (maxZ is).map fun m => (false, .int m) := rfl
theorem bi_min2 : biD .min [.int i, .int j] = some (false, .int (if j < i then j else i)) := rfl
theorem bi_max2 : biD .max [.int i, .int j] = some (false, .int (if j > i then j else i)) := rfl
theorem bi_tupT : biD .tuple [.tup ds] = some (false, .tup ds) := rfl
theorem bi_tupL : biD .tuple [.lst ds] = some (false, .tup ds) := rfl
theorem bi_lstT : biD .list [.tup ds] = some (true, .lst ds) := rfl
theorem bi_lstL : biD .list [.lst ds] = some (true, .lst ds) := rfl
theorem bi_intI : biD .int [.int i] = some (false, .int i) := rfl
theorem bi_intB : biD .int [.bl b] = some (false, .int (if b then 1 else 0)) := rfl
theorem bi_boolB : biD .bool [.bl b] = some (false, .bl b) := rfl
theorem bi_all : biD .all [.lst ds] = (blsD ds).map fun bs => (false, .bl (bs.all id)) := rfl
theorem bi_any : biD .any [.lst ds] = (blsD ds).map fun bs => (false, .bl (bs.any id)) := rfl
theorem bi_sorted : biD .sorted [d] = sortedD false d := rfl
theorem muD_append : muD .append [x] (.lst ds) = if ds.length < sizeLine then some (.lst (ds ++ [x])) else none := rfl
theorem muD_reverse : muD .reverse [] (.lst ds) = some (.lst ds.reverse) := rfl
theorem muD_clear : muD .clear [] (.lst ds) = some (.lst []) := rfl
theorem sl_tup {lo hi : Option Int} : slD (.tup ds) lo hi = some (false, .tup (cutD ds lo hi)) := rfl
theorem sl_lst {lo hi : Option Int} : slD (.lst ds) lo hi = some (true, .lst (cutD ds lo hi)) := rfl
theorem bin_mulL : binD .Mult (.lst ds) (.int j) = if ds.length * j.toNat ≤ sizeLine ∧ j < 1000000 ∧ -1000000 < j then some (true, .lst (List.replicate j.toNat ds).flatten) else none := rfl
theorem isl_lst : isLst (.lst ds) = true := rfl
end
theorem optF_none : optF none = .no := rfl
theorem optR_none {ρ : Env} : optR none ρ = .no := rfl
theorem opt_if {α β : Type} {c : Prop} [Decidable c] {a : α} {f : α → β} : (if c then some a else none).map f = if c then some (f a) else none := by split <;> rfl
theorem optF_if {c : Prop} [Decidable c] {ρ : Env} : optF (if c then some ρ else none) = if c then .ok (.nx ρ) else .no := by split <;> rfl
theorem size_lt {n : Nat} (h : n < 16777216) : n < sizeLine := by rw [sizeLine_eq]; exact h
theorem size_le {n : Nat} (h : n ≤ 16777216) : n ≤ sizeLine := by rw [sizeLine_eq]; exact h
end Pd
set_option Elab.async false
set_option linter.all false
/-! Pd23: comprehensions that change nothing; order of ints. -/
namespace Pd
open PySem L2
theorem wipeS_len (ρ : Env) : ∀ vs : List Nat, (wipeS ρ vs).length = ρ.length
  | [] => rfl
  | v :: vs => by rw [wipeS, List.length_set, wipeS_len ρ vs]
theorem wipeS_at (ρ : Env) (i : Nat) : ∀ vs : List Nat, i ∉ vs → (wipeS ρ vs)[i]? = ρ[i]?
  | [], _ => rfl
  | v :: vs, h => by
    rw [wipeS, List.getElem?_set_ne (fun z => h (by simp [z])), wipeS_at ρ i vs (fun z => h (List.mem_cons_of_mem _ z))]
theorem lend_len (ρ : Env) (i : Nat) : (lend ρ i).length = ρ.length := by
  unfold lend
  split
  · rw [List.length_set]
  · rfl
theorem lends_len (ρ : Env) : ∀ ls : List Nat, (lends ρ ls).length = ρ.length
  | [] => rfl
  | i :: is => by rw [lends, lend_len, lends_len ρ is]
theorem unlend_len (ρ₀ ρ : Env) : ∀ ls : List Nat, (unlend ρ₀ ρ ls).length = ρ.length
  | [] => rfl
  | i :: is => by
    rw [unlend]
    split
    · rw [List.length_set, unlend_len ρ₀ ρ is]
    · exact unlend_len ρ₀ ρ is
theorem backS_len (ρ₀ ρ : Env) : ∀ vs : List Nat, (backS ρ₀ ρ vs).length = ρ.length
  | [] => rfl
  | v :: vs => by rw [backS, List.length_set, backS_len ρ₀ ρ vs]
theorem lends_at (ρ : Env) (i : Nat) : ∀ ls : List Nat, (lends ρ ls)[i]? = ρ[i]? ∨ (∃ d, i ∈ ls ∧ ρ[i]? = some (.ow d))
  | [] => .inl rfl
  | j :: js => by
    rcases lends_at ρ i js with h | ⟨d, h1, h2⟩
    · by_cases hij : i = j
      · subst hij
        by_cases ho : ∃ d, ρ[i]? = some (.ow d)
        · obtain ⟨d, ho⟩ := ho
          exact .inr ⟨d, List.mem_cons_self, ho⟩
        · left
          rw [lends]
          unfold lend
          split
          · rename_i d e
            exact absurd ⟨d, h ▸ e⟩ ho
          · exact h
      · left
        rw [lends]
        unfold lend
        split
        · rw [List.getElem?_set_ne (fun z => hij z.symm)]; exact h
        · exact h
    · exact .inr ⟨d, List.mem_cons_of_mem _ h1, h2⟩
theorem unlend_at (ρ₀ ρ : Env) (i : Nat) (hl : ρ₀.length = ρ.length) : ∀ ls : List Nat, (∀ d, i ∈ ls → ρ₀[i]? = some (.ow d) → (unlend ρ₀ ρ ls)[i]? = some (.ow d)) ∧ ((¬ ∃ d, i ∈ ls ∧ ρ₀[i]? = some (.ow d)) → (unlend ρ₀ ρ ls)[i]? = ρ[i]?)
  | [] => ⟨fun d h => absurd h (by simp), fun _ => rfl⟩
  | j :: js => by
    obtain ⟨a, b⟩ := unlend_at ρ₀ ρ i hl js
    refine ⟨fun d hm ho => ?_, fun hn => ?_⟩
    · rw [unlend]
      by_cases hij : i = j
      · subst hij
        rw [ho]
        dsimp only
        rw [List.getElem?_set_self]
        rw [unlend_len, ← hl]
        exact (List.getElem?_eq_some_iff.mp ho).1
      · have hm' : i ∈ js := by
          rcases List.mem_cons.mp hm with z | z
          · exact absurd z hij
          · exact z
        split
        · rw [List.getElem?_set_ne (fun z => hij z.symm)]; exact a d hm' ho
        · exact a d hm' ho
    · have hn' : ¬ ∃ d, i ∈ js ∧ ρ₀[i]? = some (.ow d) := fun ⟨d, h1, h2⟩ => hn ⟨d, List.mem_cons_of_mem _ h1, h2⟩
      rw [unlend]
      split
      · rename_i d e
        by_cases hij : i = j
        · subst hij
          exact absurd ⟨d, List.mem_cons_self, e⟩ hn
        · rw [List.getElem?_set_ne (fun z => hij z.symm)]; exact b hn'
      · exact b hn'
theorem backS_at (ρ₀ ρ : Env) (i : Nat) (hl : ρ₀.length = ρ.length) : ∀ vs : List Nat, (i ∈ vs → (backS ρ₀ ρ vs)[i]? = ρ₀[i]?) ∧ (i ∉ vs → (backS ρ₀ ρ vs)[i]? = ρ[i]?)
  | [] => ⟨fun h => absurd h (by simp), fun _ => rfl⟩
  | v :: vs => by
    obtain ⟨a, b⟩ := backS_at ρ₀ ρ i hl vs
    refine ⟨fun hm => ?_, fun hn => ?_⟩
    · rw [backS]
      by_cases hiv : i = v
      · subst hiv
        by_cases hi : i < ρ.length
        · rw [List.getElem?_set_self (by rw [backS_len]; exact hi)]
          rw [List.getD_eq_getElem?_getD, List.getElem?_eq_getElem (by omega)]
          rfl
        · rw [List.getElem?_eq_none (by rw [List.length_set, backS_len]; omega), List.getElem?_eq_none (by omega)]
      · rw [List.getElem?_set_ne (fun z => hiv z.symm)]
        rcases List.mem_cons.mp hm with z | z
        · exact absurd z hiv
        · exact a z
    · rw [backS, List.getElem?_set_ne (fun z => hn (by simp [z]))]
      exact b fun z => hn (List.mem_cons_of_mem _ z)
/-- what a comprehension that changes nothing leaves -/
theorem back_same {ρ ρ' : Env} {ls own : List Nat} (h : wipeS ρ' own = wipeS (lends ρ ls) own) : backS ρ (unlend ρ ρ' ls) own = ρ := by
  have hl : ρ.length = ρ'.length := by
    have := congrArg List.length h
    rw [wipeS_len, wipeS_len, lends_len] at this
    exact this.symm
  apply List.ext_getElem?
  intro i
  by_cases hi : i ∈ own
  · exact (backS_at ρ _ i (by rw [unlend_len]; exact hl) own).1 hi
  · rw [(backS_at ρ _ i (by rw [unlend_len]; exact hl) own).2 hi]
    obtain ⟨a, b⟩ := unlend_at ρ ρ' i hl ls
    by_cases ho : ∃ d, i ∈ ls ∧ ρ[i]? = some (.ow d)
    · obtain ⟨d, h1, h2⟩ := ho
      rw [a d h1 h2, h2]
    · rw [b ho, ← wipeS_at ρ' i own hi, h, wipeS_at _ i own hi]
      rcases lends_at ρ i ls with z | ⟨d, z1, z2⟩
      · exact z
      · exact absurd ⟨d, z1, z2⟩ ho
/-- 0, 1, .., n - 1 -/
def rg (n : Nat) : List Int := (List.range n).map fun (k : Nat) => (k : Int)
theorem rngD_rg (n : Nat) : rngD 0 n = (rg n).map .int := by
  unfold rngD rg
  rw [List.map_map]
  refine List.map_congr_left fun k _ => ?_
  show D.int (0 + (k : Int)) = .int (k : Int)
  rw [Int.zero_add]
theorem mem_rg {n : Nat} {x : Int} : x ∈ rg n ↔ 0 ≤ x ∧ x < n := by
  unfold rg
  rw [List.mem_map]
  constructor
  · rintro ⟨k, hk, rfl⟩
    rw [List.mem_range] at hk
    omega
  · rintro ⟨h1, h2⟩
    exact ⟨x.toNat, List.mem_range.mpr (by omega), by omega⟩
theorem rg_lt (n : Nat) : (rg n).Pairwise (· < ·) := by
  unfold rg
  rw [List.pairwise_map]
  exact List.pairwise_lt_range.imp fun {a b} (h : a < b) => by show (a : Int) < (b : Int); omega
theorem rg_len (n : Nat) : (rg n).length = n := by unfold rg; rw [List.length_map, List.length_range]
/-- rising lists with the same items are the same -/
theorem rising_ext : ∀ {a b : List Int}, a.Pairwise (· < ·) → b.Pairwise (· < ·) → (∀ x, x ∈ a ↔ x ∈ b) → a = b
  | [], [], _, _, _ => rfl
  | [], y :: b, _, _, h => absurd ((h y).mpr List.mem_cons_self) (by simp)
  | x :: a, [], _, _, h => absurd ((h x).mp List.mem_cons_self) (by simp)
  | x :: a, y :: b, ha, hb, h => by
    rw [List.pairwise_cons] at ha hb
    have hxy : x = y := by
      have h1 := (h x).mp List.mem_cons_self
      have h2 := (h y).mpr List.mem_cons_self
      rcases List.mem_cons.mp h1 with e | m1
      · exact e
      · rcases List.mem_cons.mp h2 with e | m2
        · exact e.symm
        · have := hb.1 x m1
          have := ha.1 y m2
          omega
    subst hxy
    congr 1
    refine rising_ext ha.2 hb.2 fun z => ⟨fun hz => ?_, fun hz => ?_⟩
    · rcases List.mem_cons.mp ((h z).mp (List.mem_cons_of_mem _ hz)) with e | m
      · subst e; exact absurd (ha.1 z hz) (Int.lt_irrefl _)
      · exact m
    · rcases List.mem_cons.mp ((h z).mpr (List.mem_cons_of_mem _ hz)) with e | m
      · subst e; exact absurd (hb.1 z hz) (Int.lt_irrefl _)
      · exact m
theorem eq_self_nz {fl : Bool} {d : D} (h : nzD fl d 60 = true) : eqD d d = some true := by
  rw [eq_nz h h]; simp
theorem nzDs_cons {fl : Bool} {d : D} {ds : List D} {k : Nat} : nzDs fl (d :: ds) k = (nzD fl d k && nzDs fl ds k) := by rw [nzDs]
theorem nzDs_nil {fl : Bool} {k : Nat} : nzDs fl [] k = true := by rw [nzDs]
theorem nz_bl {b : Bool} {k : Nat} : nzD true (.bl b) k = true := by rw [nzD]
theorem nz_lstI {ns : List Int} {k : Nat} : nzD false (.lst (ns.map .int)) (k + 1) = true := by rw [nz_lst]; exact nz_ints _ _
theorem eq_bl (a b : Bool) : eqD (.bl a) (.bl b) = some (decide (a = b)) := by
  rw [eq_nz (fl := true) nz_bl nz_bl]
  congr 1
  exact Bool.eq_iff_iff.mpr (by simp)
end Pd
set_option Elab.async false
set_option linter.all false
/-! Pd24: the logic's rules for fields, methods, makers, tables, texts. -/
namespace Pd
open PySem L2
section
variable {T : Tb} {ρ : Env}
theorem ev_tget {x : Str} {a : Ex} : evalV T (.tget x a) ρ = (match T.tab x with
  | some kvs => op1 (opd (evalV T a) a) (tgetD kvs) ρ
  | none => .no) := by rw [evalV] <;> rfl
theorem ev_tgetE {x : Str} {a : Ex} : evalV T (.tgetE x a) ρ = (match T.tab x with
  | some kvs => op1 (opd (evalV T a) a) (tgetE kvs) ρ
  | none => .no) := by rw [evalV] <;> rfl
theorem ev_dzip {es : List Ex} : evalV T (.dzip es) ρ = (evalOs T es ρ >>= fun p => match getOps p.2 p.1 with
  | some ds => optR (dzipD ds) p.2
  | none => .no) := by rw [evalV] <;> rfl
theorem ev_dprs {a : Ex} : evalV T (.dprs a) ρ = op1 (opd (evalV T a) a) dprsD ρ := by rw [evalV] <;> rfl
theorem ev_fld {a : Ex} {f : Str} : evalV T (.fld a f) ρ = op1 (opd (evalV T a) a) (fldD T.isF f) ρ := by rw [evalV] <;> rfl
theorem ev_mk {c : Str} {es : List Ex} : evalV T (.mk c es) ρ = (if T.isC c = true then (match T.kinds (mth c "__init__") with
  | .io :: ks => evalAs T es ks ρ >>= fun p => runMk T c p.1 p.2
  | _ => .no) else .no) := by rw [evalV] <;> rfl
end
section
variable {M : Md} {n : Nat}
theorem tb_cst : (M.tb n).cst = M.cst := rfl
theorem tb_tab : (M.tb n).tab = M.tab := rfl
theorem tb_isC : (M.tb (n + 1)).isC = M.isC := rfl
theorem tb_isM : (M.tb n).isM = M.isM := rfl
theorem tb_isF : (M.tb n).isF = M.isF := rfl
theorem tb_mkC : (M.tb (n + 1)).mkC = callN M n := rfl
end
theorem nz_str {x : Str} {k : Nat} (h : PyData.strOk x = true) : nzD false (.str x) k = true := by rw [nzD]; exact h
theorem eq_str {a b : Str} (ha : PyData.strOk a = true) (hb : PyData.strOk b = true) : eqD (.str a) (.str b) = some (decide (a = b)) := by
  rw [eq_nz (fl := false) (nz_str ha) (nz_str hb)]
  simp only [D.str.injEq]
theorem in_str2 {z x y : Str} (hz : PyData.strOk z = true) (hx : PyData.strOk x = true) (hy : PyData.strOk y = true) : inD (.str z) [.str x, .str y] = some (decide (z = x ∨ z = y)) := by
  rw [in_nz (fl := false) (nz_str hz) (by rw [nzDs_cons, nzDs_cons, nz_str hx, nz_str hy, nzDs_nil]; rfl)]
  simp
section
variable {a b c d : D} {r : List D} {kvs : List (Str × D)} {z : Str}
theorem at_0 : atI (a :: r) 0 = some a := by unfold atI ixN; rw [if_pos (by decide), if_pos (by simp only [List.length_cons]; omega)]; rfl
theorem at_1 : atI (a :: b :: r) 1 = some b := by unfold atI ixN; rw [if_pos (by decide), if_pos (by simp only [List.length_cons]; omega)]; rfl
theorem at_2 : atI (a :: b :: c :: r) 2 = some c := by unfold atI ixN; rw [if_pos (by decide), if_pos (by simp only [List.length_cons]; omega)]; rfl
theorem tin_str {neg : Bool} : tinD neg kvs (.str z) = some (false, .bl (neg != (kvs.lookup z).isSome)) := rfl
theorem tget_str : tgetD kvs (.str z) = some (false, (kvs.lookup z).getD .non) := rfl
theorem tgetE_str : tgetE kvs (.str z) = some (false, (kvs.lookup z).getD (.tup [])) := rfl
end
theorem sk_each : PyData.strOk "each" = true := by decide +kernel
theorem sk_cover : PyData.strOk "cover" = true := by decide +kernel
theorem sk_cut : PyData.strOk "cut" = true := by decide +kernel
theorem sk_steps : PyData.strOk "steps" = true := by decide +kernel
theorem sk_forest : PyData.strOk "forest" = true := by decide +kernel
theorem sk_table : PyData.strOk "table" = true := by decide +kernel
theorem sk_plus : PyData.strOk "plus" = true := by decide +kernel
theorem sk_times : PyData.strOk "times" = true := by decide +kernel
theorem sk_upto : PyData.strOk "upto" = true := by decide +kernel
theorem sk_behind : PyData.strOk "behind" = true := by decide +kernel
theorem sk_among : PyData.strOk "among" = true := by decide +kernel
theorem sk_turned : PyData.strOk "turned" = true := by decide +kernel
theorem str_inj (a b : String) : (Str.ofString a = Str.ofString b) = (a = b) := by
  refine propext ⟨fun h => ?_, fun h => by rw [h]⟩
  rw [Str.ofString_eq_toList, Str.ofString_eq_toList] at h
  have h2 := congrArg (fun z : Str => z.cps.toList) h
  have h3 : a.toList.map Char.toNat = b.toList.map Char.toNat := by simpa using h2
  have h4 : a.toList = b.toList := (List.map_inj_right fun x y e => Char.toNat_inj.mp e).mp h3
  exact String.toList_inj.mp h4
end Pd
set_option Elab.async false
set_option linter.all false
set_option maxRecDepth 100000
set_option maxHeartbeats 0
namespace Pd
open PySem PySem.Spec PyProof.Rows L2
abbrev R : PySem.W.OpenRow := PySem.W.OpenLaw.row PySem.Challenge.rw_lessmore_k27_lists_that_fall_apart
def top (i : Nat) : Stmt := PySem.Challenge.pw_lessmore_k27_lists_that_fall_apart.main.body.getD i (.Pass ⟨0, 0, 0, 0⟩)
def mem (i j : Nat) : Stmt := match top i with
  | .ClassDef _ _ _ b _ _ _ _ _ _ _ => b.getD j (.Pass ⟨0, 0, 0, 0⟩)
  | s => s
def d_divisor : DefI := .of (top 1) "divisor" ["numbers", "found", "number", "left"] ["numbers"] [.bo]
def d_lessened : DefI := .of (top 2) "lessened" ["row", "common", "number"] ["row"] [.fr]
def d_cleared : DefI := .of (top 3) "cleared" ["row", "first", "place", "number", "other"] ["row", "first", "place"] [.bo, .bo, .bo]
def d_stairs : DefI := .of (top 4) "stairs" ["rows", "wide", "left", "found", "place", "able", "row", "first", "number"] ["rows", "wide"] [.bo, .bo]
def d_falls_apart : DefI := .of (top 5) "falls_apart" ["rows"] ["rows"] [.bo]
def d__law_columns : DefI := .of (top 7) "_law_columns" ["_law_wide", "_law_many", "_law_found", "_law_last", "_law_one"] ["_law_wide", "_law_many"] [.bo, .bo]
def d__law_det : DefI := .of (top 8) "_law_det" ["_law_rows_here", "_law_found", "_law_k", "_law_row"] ["_law_rows_here"] [.bo]
def d__law_apart : DefI := .of (top 9) "_law_apart" ["_law_rows_here", "_law_wide", "_law_places", "_law_row", "_law_k"] ["_law_rows_here", "_law_wide"] [.bo, .bo]
def d__law_take : DefI := .of (top 10) "_law_take" ["_law_state", "_law_many", "_law_cells", "_law_cell", "_law_found"] ["_law_state", "_law_many"] [.io, .bo]
def d__law_big : DefI := .of (top 11) "_law_big" ["_law_state", "_law_number"] ["_law_state"] [.io]
def d__law_pick : DefI := .of (top 12) "_law_pick" ["_law_state", "_law_some"] ["_law_state", "_law_some"] [.io, .bo]
def d__law_rows : DefI := .of (top 13) "_law_rows" ["_law_state", "_law_wide", "_law_rows_here", "_law_k", "_law_row", "_law_times", "_law_j", "_law_one", "_law_other", "_law_here", "_law_there"] ["_law_state", "_law_wide"] [.io, .bo]
def d__law_begun : DefI := .of (top 14) "_law_begun" ["_law_script", "_law_own", "_law_cells", "_law_cell"] ["_law_script"] [.bo]
def d_law : DefI := .of (top 15) "law" ["_law_script", "_law_state", "_law_turn", "_law_wide", "_law_rows_here", "_law_handed", "_law_found", "_law_row"] ["_law_script"] [.bo]
def dfs : List DefI := [d_divisor, d_lessened, d_cleared, d_stairs, d_falls_apart, d__law_columns, d__law_det, d__law_apart, d__law_take, d__law_big, d__law_pick, d__law_rows, d__law_begun, d_law]
def free : ModI := ⟨["abs", "bool", "enumerate", "int", "isinstance", "len", "list", "range", "zip"], [], [], [], []⟩
theorem bnd_divisor : d_divisor.bnd := DefI.bnd_of (fun _ _ _ _ _ _ us hl => match us, hl with | [_], _ => rfl) rfl
theorem bnd_lessened : d_lessened.bnd := DefI.bnd_of (fun _ _ _ _ _ _ us hl => match us, hl with | [_], _ => rfl) rfl
theorem bnd_cleared : d_cleared.bnd := DefI.bnd_of (fun _ _ _ _ _ _ us hl => match us, hl with | [_, _, _], _ => rfl) rfl
theorem bnd_stairs : d_stairs.bnd := DefI.bnd_of (fun _ _ _ _ _ _ us hl => match us, hl with | [_, _], _ => rfl) rfl
theorem bnd_falls_apart : d_falls_apart.bnd := DefI.bnd_of (fun _ _ _ _ _ _ us hl => match us, hl with | [_], _ => rfl) rfl
theorem bnd__law_columns : d__law_columns.bnd := DefI.bnd_of (fun _ _ _ _ _ _ us hl => match us, hl with | [_, _], _ => rfl) rfl
theorem bnd__law_det : d__law_det.bnd := DefI.bnd_of (fun _ _ _ _ _ _ us hl => match us, hl with | [_], _ => rfl) rfl
theorem bnd__law_apart : d__law_apart.bnd := DefI.bnd_of (fun _ _ _ _ _ _ us hl => match us, hl with | [_, _], _ => rfl) rfl
theorem bnd__law_take : d__law_take.bnd := DefI.bnd_of (fun _ _ _ _ _ _ us hl => match us, hl with | [_, _], _ => rfl) rfl
theorem bnd__law_big : d__law_big.bnd := DefI.bnd_of (fun _ _ _ _ _ _ us hl => match us, hl with | [_], _ => rfl) rfl
theorem bnd__law_pick : d__law_pick.bnd := DefI.bnd_of (fun _ _ _ _ _ _ us hl => match us, hl with | [_, _], _ => rfl) rfl
theorem bnd__law_rows : d__law_rows.bnd := DefI.bnd_of (fun _ _ _ _ _ _ us hl => match us, hl with | [_, _], _ => rfl) rfl
theorem bnd__law_begun : d__law_begun.bnd := DefI.bnd_of (fun _ _ _ _ _ _ us hl => match us, hl with | [_], _ => rfl) rfl
theorem bnd_law : d_law.bnd := DefI.bnd_of (fun _ _ _ _ _ _ us hl => match us, hl with | [_], _ => rfl) rfl
theorem bnd_all : ∀ d ∈ dfs, d.bnd := by
  intro d hd
  simp only [dfs, List.mem_cons, List.not_mem_nil, or_false] at hd
  rcases hd with rfl | rfl | rfl | rfl | rfl | rfl | rfl | rfl | rfl | rfl | rfl | rfl | rfl | rfl
  · exact bnd_divisor
  · exact bnd_lessened
  · exact bnd_cleared
  · exact bnd_stairs
  · exact bnd_falls_apart
  · exact bnd__law_columns
  · exact bnd__law_det
  · exact bnd__law_apart
  · exact bnd__law_take
  · exact bnd__law_big
  · exact bnd__law_pick
  · exact bnd__law_rows
  · exact bnd__law_begun
  · exact bnd_law
theorem chk_all : ∀ d ∈ dfs, d.chk = true := by
  have h : dfs.all DefI.chk = true := by decide +kernel
  exact List.all_eq_true.mp h
theorem nd_all : (dfs.map (·.x)).Nodup := by decide +kernel
theorem cls_all : clsChk dfs free = true := by decide +kernel
end Pd
set_option Elab.async false
set_option linter.all false
/-! Lb1: sets of things. -/
namespace Pd
open PySem L2
set_option maxRecDepth 100000
set_option hygiene false in
local macro_rules
  | `(tactic| simp_arith [$as,*]) => `(tactic| simp only [reduceIte, outsOf, Nat.reduceBEq, bind_ok, bind_no, exec, ev_var, ev_non, ev_bl, ev_int, ev_str, ev_tup, ev_lst, ev_dct, ev_bin, ev_neg, ev_not, ev_cmp, ev_chn, ev_and, ev_or, ev_ite, ev_ix, ev_sl, ev_bi, ev_isi, ev_call, ev_pop, ev_comp, ev_sortedR, ev_rev, ev_rgs, ev_sset, ev_meet, ev_me, ev_tin, ev_cst, rev_lst, rev_tup, few_ints, sset_ints, evalVs, evalOs, evalAs, evalI, op1, op2, opd, argD, hasV, mineV, getOp, getOps, Sl.val, varD, retD, testD, condD, partD, optR_some, optR_if, optF_some, optF_none, optR_none, wp_ok, wp_no, wp_ex, wp_bind, wp_ifno, wp_noif, wp_noEx, wp_unlF, List.any_cons, List.any_nil, Int.reducePow, Int.reduceToNat, natAbs_lit, Int.reduceLE, Int.reduceLT, Int.reduceNeg, Nat.reduceLT, Nat.reduceLeDiff, Nat.reducePow, Nat.reduceAdd, Int.reduceAdd, Int.reduceEq, Nat.reduceEqDiff, Bool.or_self, Bool.and_self, ixV, ixD, implies_true, false_implies, true_implies, forall_const, wp_cons, run_eq, after_ok, ioDup, getArs, unlk_nx, unlk_rt, lpk_nx, lpk_ct, lpk_bk, lpk_rt, nxk_nx, Option.some.injEq, exists_eq_left', kont_nx, kont_rt, kont_bk, kont_ct, wp_nil, setSl_0, setSl_1, setSl_2, setSl_3, setSl_4, setSl_5, setSl_6, setSl_7, setSl_8, setSl_9, setSl_10, setSl_11, setSl_12, setSl_13, setSl_14, setSl_15, setSl_16, setSl_17, setSl_18, setSl_19, setSl_20, setSl_21, setSl_22, setSl_23, setSl_24, setSl_25, ends_rt, ends_nx,  isOk_no, isOk_fr, isOk_ow, isOk_bo, isFr_no, isFr_fr, bindI, bindT, setTD, bin_add, bin_sub, bin_mul', bin_mod', bin_fdiv', bin_pow, bin_addT, bin_addL, cmpV, cmp_eq, cmp_ne, cmp_lt, cmp_le, cmp_gt, cmp_ge, cmp_inT, cmp_inL, cmp_ninT, cmp_ninL, cmp_is, cmp_isn, isD, eq_int, eq_ints, eq_intsT, isiV, isiD, bi_lenT, bi_lenL, bi_abs, bi_sum, bi_min2, bi_max2, bi_tupT, bi_tupL, bi_lstT, bi_lstL, bi_intI, bi_intB, bi_boolB, bi_all, bi_any, bi_sorted, muD_append, muD_reverse, muD_clear, sl_tup, sl_lst, bin_mulL, isl_lst, opt_if, optF_if, negD, notD, lsOk, lends, lend, unlend, opSl, wipeOk, wipeS, backS, seqD, itrD, getAr, putIo, putOuts, augS, augD, modSl, List.getElem?_cons_zero, List.getElem?_cons_succ, List.set_cons_zero, List.set_cons_succ, List.getD_cons_zero, List.getD_cons_succ, Option.map_some, Option.map_none, Option.isSome_some, Option.any_some, Option.bind_some, Option.bind_none, Bool.and_true, Bool.true_and, Bool.and_false, Bool.false_and, Bool.or_false, Bool.false_or, Bool.true_or, Bool.or_true, Bool.not_true, Bool.not_false, List.all_cons, List.all_nil, List.map_cons, List.map_nil, List.cons_append, List.nil_append, if_true, if_false, reduceCtorEq, Bool.false_eq_true, ite_true, ite_false, ite_cond_eq_true, tb_kinds, decide_true, decide_false, true_and, and_true, ne_eq, not_true_eq_false, not_false_eq_true, List.length_cons, List.length_nil, beq_self_eq_true, bin_mulT, bi_str, rgsD, bi_sumT, bi_minL, bi_maxL, ev_tget, ev_tgetE, ev_dzip, ev_dprs, ev_fld, ev_mk, tb_cst, tb_tab, tb_isC, tb_isM, tb_isF, tb_mkC, at_0, at_1, at_2, tin_str, tget_str, tgetE_str, str_inj, String.reduceEq, eq_str, in_str2, sk_each, sk_cover, sk_cut, sk_steps, sk_forest, sk_table, sk_plus, sk_times, sk_upto, sk_behind, sk_among, sk_turned, bne_self_eq_false, Bool.true_bne, Bool.false_bne, Bool.not_true, Bool.not_false, $as,*])
set_option hygiene false in
local macro_rules
  | `(tactic| simp_arith) => `(tactic| simp_arith [if_true])
  | `(tactic| simp_arith!) => `(tactic| first | (simp_arith [if_true]; done) | (simp_arith [if_true]; rfl))
  | `(tactic| simp_arith! [$as,*]) => `(tactic| first | (simp_arith [$as,*]; done) | (simp_arith [$as,*]; rfl))
/-- a set of things -/
structure IsSet (n : Int) (a : List Int) : Prop where
  lt : a.Pairwise (· < ·)
  mem : ∀ x ∈ a, 0 ≤ x ∧ x < n
theorem IsSet.len {n : Int} {a : List Int} (h : IsSet n a) : a.length ≤ n.toNat := by
  have : a = (rg n.toNat).filter fun x => decide (x ∈ a) := rising_ext h.lt ((rg_lt _).filter _) fun x => by
    rw [List.mem_filter, mem_rg]
    simp only [decide_eq_true_eq]
    exact ⟨fun hx => ⟨by have := h.mem x hx; omega, hx⟩, fun hx => hx.2⟩
  rw [this]
  exact Nat.le_trans (List.length_filter_le _ _) (by rw [rg_len]; exact Nat.le_refl _)
theorem IsSet.filter {n : Int} {a : List Int} (h : IsSet n a) (p : Int → Bool) : IsSet n (a.filter p) := ⟨h.lt.filter p, fun x hx => h.mem x (List.mem_filter.mp hx).1⟩
theorem IsSet.rg (n : Int) : IsSet n (rg n.toNat) := ⟨rg_lt _, fun x hx => by rw [mem_rg] at hx; omega⟩
end Pd
set_option Elab.async false
set_option linter.all false
/-! Lb2: is_number, is_set, sets_of; rows of ints in order. -/
namespace Pd
open PySem L2
/-- a comprehension that changes nothing, over a row of things of one kind -/
theorem compM {α : Type} (f : α → D) {T : Tb} {elt : Ex} {tg : List Nat} {one : Bool} {cond : Ex} {own : List Nat} {as : List α} {ls : List Nat} {ρ : Env} (c : α → Bool) (g : α → D) (h1 : (wipeOk ρ own && lsOk ρ ls) = true)
    (h : ∀ a ∈ as, ∃ ρ1 ρ2, bindI tg one (f a) (wipeS (lends ρ ls) own) = some ρ1 ∧ condD (evalV T cond) cond ρ1 = .ok (c a, ρ2) ∧ wipeS ρ2 own = wipeS (lends ρ ls) own ∧
      (c a = true → ∃ o ρ3, evalV T elt ρ2 = .ok ((o, g a), ρ3) ∧ wipeS ρ3 own = wipeS (lends ρ ls) own)) :
    compR T elt tg one cond own (as.map f) ls ρ = .ok ((true, .lst ((as.filter c).map g)), ρ) := by
  have key : ∀ (ds : List α) (ρ' : Env), (∀ d ∈ ds, ∃ ρ1 ρ2, bindI tg one (f d) (wipeS (lends ρ ls) own) = some ρ1 ∧ condD (evalV T cond) cond ρ1 = .ok (c d, ρ2) ∧ wipeS ρ2 own = wipeS (lends ρ ls) own ∧
      (c d = true → ∃ o ρ3, evalV T elt ρ2 = .ok ((o, g d), ρ3) ∧ wipeS ρ3 own = wipeS (lends ρ ls) own)) → wipeS ρ' own = wipeS (lends ρ ls) own →
      ∃ ρ'', compL tg one own (condD (evalV T cond) cond) (evalV T elt) (ds.map f) ρ' = .ok ((ds.filter c).map g, ρ'') ∧ wipeS ρ'' own = wipeS (lends ρ ls) own := by
    intro ds
    induction ds with
    | nil => intro ρ' _ hw; exact ⟨ρ', rfl, hw⟩
    | cons d ds ih =>
      intro ρ' hd hw
      obtain ⟨ρ1, ρ2, e1, e2, e3, e4⟩ := hd d List.mem_cons_self
      rw [List.map_cons, compL, hw, e1]
      dsimp only
      rw [e2, bind_ok]
      cases hc : c d with
      | false =>
        obtain ⟨ρ'', e5, e6⟩ := ih ρ2 (fun x hx => hd x (List.mem_cons_of_mem _ hx)) e3
        exact ⟨ρ'', by rw [List.filter_cons_of_neg (by rw [hc]; exact Bool.false_ne_true)]; dsimp only; rw [if_neg Bool.false_ne_true]; exact e5, e6⟩
      | true =>
        obtain ⟨o, ρ3, e7, e8⟩ := e4 hc
        obtain ⟨ρ'', e5, e6⟩ := ih ρ3 (fun x hx => hd x (List.mem_cons_of_mem _ hx)) e8
        refine ⟨ρ'', ?_, e6⟩
        rw [List.filter_cons_of_pos (by rw [hc])]
        dsimp only
        rw [if_pos rfl, e7, bind_ok]
        dsimp only
        rw [e5]
        rfl
  unfold compR
  rw [if_pos h1]
  obtain ⟨ρ'', e1, e2⟩ := key as (lends ρ ls) h rfl
  rw [e1]
  show Res.ok _ = _
  rw [back_same e2]
/-! ### rows of ints in order -/
/-! ### all sets -/
/-! ### sets by doubling -/
end Pd
set_option Elab.async false
set_option linter.all false
/-! Lb3: is_number, is_set, sets_of. -/
namespace Pd
open PySem L2
set_option maxRecDepth 100000
set_option hygiene false in
local macro_rules
  | `(tactic| simp_arith [$as,*]) => `(tactic| simp only [reduceIte, outsOf, Nat.reduceBEq, bind_ok, bind_no, exec, ev_var, ev_non, ev_bl, ev_int, ev_str, ev_tup, ev_lst, ev_dct, ev_bin, ev_neg, ev_not, ev_cmp, ev_chn, ev_and, ev_or, ev_ite, ev_ix, ev_sl, ev_bi, ev_isi, ev_call, ev_pop, ev_comp, ev_sortedR, ev_rev, ev_rgs, ev_sset, ev_meet, ev_me, ev_tin, ev_cst, rev_lst, rev_tup, few_ints, sset_ints, evalVs, evalOs, evalAs, evalI, op1, op2, opd, argD, hasV, mineV, getOp, getOps, Sl.val, varD, retD, testD, condD, partD, optR_some, optR_if, optF_some, optF_none, optR_none, wp_ok, wp_no, wp_ex, wp_bind, wp_ifno, wp_noif, wp_noEx, wp_unlF, List.any_cons, List.any_nil, Int.reducePow, Int.reduceToNat, natAbs_lit, Int.reduceLE, Int.reduceLT, Int.reduceNeg, Nat.reduceLT, Nat.reduceLeDiff, Nat.reducePow, Nat.reduceAdd, Int.reduceAdd, Int.reduceEq, Nat.reduceEqDiff, Bool.or_self, Bool.and_self, ixV, ixD, implies_true, false_implies, true_implies, forall_const, wp_cons, run_eq, after_ok, ioDup, getArs, unlk_nx, unlk_rt, lpk_nx, lpk_ct, lpk_bk, lpk_rt, nxk_nx, Option.some.injEq, exists_eq_left', kont_nx, kont_rt, kont_bk, kont_ct, wp_nil, setSl_0, setSl_1, setSl_2, setSl_3, setSl_4, setSl_5, setSl_6, setSl_7, setSl_8, setSl_9, setSl_10, setSl_11, setSl_12, setSl_13, setSl_14, setSl_15, setSl_16, setSl_17, setSl_18, setSl_19, setSl_20, setSl_21, setSl_22, setSl_23, setSl_24, setSl_25, ends_rt, ends_nx,  isOk_no, isOk_fr, isOk_ow, isOk_bo, isFr_no, isFr_fr, bindI, bindT, setTD, bin_add, bin_sub, bin_mul', bin_mod', bin_fdiv', bin_pow, bin_addT, bin_addL, cmpV, cmp_eq, cmp_ne, cmp_lt, cmp_le, cmp_gt, cmp_ge, cmp_inT, cmp_inL, cmp_ninT, cmp_ninL, cmp_is, cmp_isn, isD, eq_int, eq_ints, eq_intsT, isiV, isiD, bi_lenT, bi_lenL, bi_abs, bi_sum, bi_min2, bi_max2, bi_tupT, bi_tupL, bi_lstT, bi_lstL, bi_intI, bi_intB, bi_boolB, bi_all, bi_any, bi_sorted, muD_append, muD_reverse, muD_clear, sl_tup, sl_lst, bin_mulL, isl_lst, opt_if, optF_if, negD, notD, lsOk, lends, lend, unlend, opSl, wipeOk, wipeS, backS, seqD, itrD, getAr, putIo, putOuts, augS, augD, modSl, List.getElem?_cons_zero, List.getElem?_cons_succ, List.set_cons_zero, List.set_cons_succ, List.getD_cons_zero, List.getD_cons_succ, Option.map_some, Option.map_none, Option.isSome_some, Option.any_some, Option.bind_some, Option.bind_none, Bool.and_true, Bool.true_and, Bool.and_false, Bool.false_and, Bool.or_false, Bool.false_or, Bool.true_or, Bool.or_true, Bool.not_true, Bool.not_false, List.all_cons, List.all_nil, List.map_cons, List.map_nil, List.cons_append, List.nil_append, if_true, if_false, reduceCtorEq, Bool.false_eq_true, ite_true, ite_false, ite_cond_eq_true, tb_kinds, decide_true, decide_false, true_and, and_true, ne_eq, not_true_eq_false, not_false_eq_true, List.length_cons, List.length_nil, beq_self_eq_true, bin_mulT, bi_str, rgsD, bi_sumT, bi_minL, bi_maxL, ev_tget, ev_tgetE, ev_dzip, ev_dprs, ev_fld, ev_mk, tb_cst, tb_tab, tb_isC, tb_isM, tb_isF, tb_mkC, at_0, at_1, at_2, tin_str, tget_str, tgetE_str, str_inj, String.reduceEq, eq_str, in_str2, sk_each, sk_cover, sk_cut, sk_steps, sk_forest, sk_table, sk_plus, sk_times, sk_upto, sk_behind, sk_among, sk_turned, bne_self_eq_false, Bool.true_bne, Bool.false_bne, Bool.not_true, Bool.not_false, $as,*])
set_option hygiene false in
local macro_rules
  | `(tactic| simp_arith) => `(tactic| simp_arith [if_true])
  | `(tactic| simp_arith!) => `(tactic| first | (simp_arith [if_true]; done) | (simp_arith [if_true]; rfl))
  | `(tactic| simp_arith! [$as,*]) => `(tactic| first | (simp_arith [$as,*]; done) | (simp_arith [$as,*]; rfl))
theorem getD_lt {ns : List Int} {i : Nat} (h : i < ns.length) : ns.getD i 0 = ns[i] := by
  rw [List.getD_eq_getElem?_getD, List.getElem?_eq_getElem h]; rfl
theorem at_ints {ns : List Int} {i : Int} (h0 : 0 ≤ i) (h1 : i < ns.length) : atI (ns.map D.int) i = some (.int (ns.getD i.toNat 0)) := by
  obtain ⟨k, rfl⟩ := Int.eq_ofNat_of_zero_le h0
  have hk : k < ns.length := by omega
  unfold atI ixN
  rw [if_pos h0, if_pos (by rw [List.length_map]; exact h1), Option.bind_some, Int.toNat_natCast, List.getElem?_map, List.getElem?_eq_getElem hk, getD_lt hk]
  rfl
/-! ### sets_of -/
def rgF (f : Int) (m : Nat) : List Int := (List.range m).map fun (k : Nat) => f + (k : Int)
theorem rgF_succ (f : Int) (m : Nat) : rgF f (m + 1) = f :: rgF (f + 1) m := by
  unfold rgF
  rw [List.range_succ_eq_map, List.map_cons, List.map_map]
  congr 1
  · exact Int.add_zero f
  · refine List.map_congr_left fun k _ => ?_
    show f + ((k + 1 : Nat) : Int) = f + 1 + (k : Int)
    omega
theorem rngD_rgF (f : Int) (m : Nat) : rngD f m = (rgF f m).map .int := by
  unfold rngD rgF
  rw [List.map_map]; rfl
end Pd
set_option Elab.async false
set_option linter.all false
/-! Lr1: what repr shows of data without texts. -/
set_option Elab.async false
set_option linter.all false
/-norgs-/
/-! Lr2: comprehensions that draw; a drawn number. -/
namespace Pd
open PySem L2
set_option maxRecDepth 100000
set_option hygiene false in
local macro_rules
  | `(tactic| simp_arith [$as,*]) => `(tactic| simp only [reduceIte, outsOf, Nat.reduceBEq, bind_ok, bind_no, exec, ev_var, ev_non, ev_bl, ev_int, ev_str, ev_tup, ev_lst, ev_dct, ev_bin, ev_neg, ev_not, ev_cmp, ev_chn, ev_and, ev_or, ev_ite, ev_ix, ev_sl, ev_bi, ev_isi, ev_call, ev_pop, ev_comp, ev_sortedR, ev_rev, ev_rgs, ev_sset, ev_meet, ev_me, ev_tin, ev_cst, rev_lst, rev_tup, few_ints, sset_ints, evalVs, evalOs, evalAs, evalI, op1, op2, opd, argD, hasV, mineV, getOp, getOps, Sl.val, varD, retD, testD, condD, partD, optR_some, optR_if, optF_some, optF_none, optR_none, wp_ok, wp_no, wp_ex, wp_bind, wp_ifno, wp_noif, wp_noEx, wp_unlF, List.any_cons, List.any_nil, Int.reducePow, Int.reduceToNat, natAbs_lit, Int.reduceLE, Int.reduceLT, Int.reduceNeg, Nat.reduceLT, Nat.reduceLeDiff, Nat.reducePow, Nat.reduceAdd, Int.reduceAdd, Int.reduceEq, Nat.reduceEqDiff, Bool.or_self, Bool.and_self, ixV, ixD, implies_true, false_implies, true_implies, forall_const, wp_cons, run_eq, after_ok, ioDup, getArs, unlk_nx, unlk_rt, lpk_nx, lpk_ct, lpk_bk, lpk_rt, nxk_nx, Option.some.injEq, exists_eq_left', kont_nx, kont_rt, kont_bk, kont_ct, wp_nil, setSl_0, setSl_1, setSl_2, setSl_3, setSl_4, setSl_5, setSl_6, setSl_7, setSl_8, setSl_9, setSl_10, setSl_11, setSl_12, setSl_13, setSl_14, setSl_15, setSl_16, setSl_17, setSl_18, setSl_19, setSl_20, setSl_21, setSl_22, setSl_23, setSl_24, setSl_25, ends_rt, ends_nx,  isOk_no, isOk_fr, isOk_ow, isOk_bo, isFr_no, isFr_fr, bindI, bindT, setTD, bin_add, bin_sub, bin_mul', bin_mod', bin_fdiv', bin_pow, bin_addT, bin_addL, cmpV, cmp_eq, cmp_ne, cmp_lt, cmp_le, cmp_gt, cmp_ge, cmp_inT, cmp_inL, cmp_ninT, cmp_ninL, cmp_is, cmp_isn, isD, eq_int, eq_ints, eq_intsT, isiV, isiD, bi_lenT, bi_lenL, bi_abs, bi_sum, bi_min2, bi_max2, bi_tupT, bi_tupL, bi_lstT, bi_lstL, bi_intI, bi_intB, bi_boolB, bi_all, bi_any, bi_sorted, muD_append, muD_reverse, muD_clear, sl_tup, sl_lst, bin_mulL, isl_lst, opt_if, optF_if, negD, notD, lsOk, lends, lend, unlend, opSl, wipeOk, wipeS, backS, seqD, itrD, getAr, putIo, putOuts, augS, augD, modSl, List.getElem?_cons_zero, List.getElem?_cons_succ, List.set_cons_zero, List.set_cons_succ, List.getD_cons_zero, List.getD_cons_succ, Option.map_some, Option.map_none, Option.isSome_some, Option.any_some, Option.bind_some, Option.bind_none, Bool.and_true, Bool.true_and, Bool.and_false, Bool.false_and, Bool.or_false, Bool.false_or, Bool.true_or, Bool.or_true, Bool.not_true, Bool.not_false, List.all_cons, List.all_nil, List.map_cons, List.map_nil, List.cons_append, List.nil_append, if_true, if_false, reduceCtorEq, Bool.false_eq_true, ite_true, ite_false, ite_cond_eq_true, tb_kinds, decide_true, decide_false, true_and, and_true, ne_eq, not_true_eq_false, not_false_eq_true, List.length_cons, List.length_nil, beq_self_eq_true, bin_mulT, bi_str, bi_sumT, bi_minL, bi_maxL, ev_tget, ev_tgetE, ev_dzip, ev_dprs, ev_fld, ev_mk, tb_cst, tb_tab, tb_isC, tb_isM, tb_isF, tb_mkC, at_0, at_1, at_2, tin_str, tget_str, tgetE_str, str_inj, String.reduceEq, eq_str, in_str2, sk_each, sk_cover, sk_cut, sk_steps, sk_forest, sk_table, sk_plus, sk_times, sk_upto, sk_behind, sk_among, sk_turned, bne_self_eq_false, Bool.true_bne, Bool.false_bne, Bool.not_true, Bool.not_false, $as,*])
set_option hygiene false in
local macro_rules
  | `(tactic| simp_arith) => `(tactic| simp_arith [if_true])
  | `(tactic| simp_arith!) => `(tactic| first | (simp_arith [if_true]; done) | (simp_arith [if_true]; rfl))
  | `(tactic| simp_arith! [$as,*]) => `(tactic| first | (simp_arith [$as,*]; done) | (simp_arith [$as,*]; rfl))
theorem wp_draws {T : Tb} {elt : Ex} {tg own ls : List Nat} {ds : List D} {s : D} {v : Sl} {Q : (Bool × D) × Env → Prop} (E : D → Sl → Env) (P : D → Prop) (hs : IsSt s) (hw : (wipeOk (E s v) own && lsOk (E s v) ls) = true) (hl : lends (E s v) ls = E s v)
    (hbind : ∀ s v d, bindI tg true d (wipeS (E s v) own) = some (E s (.fr d)))
    (helt : ∀ s d, IsSt s → d ∈ ds → Wp (evalV T elt (E s (.fr d))) fun q => ∃ s', IsSt s' ∧ q.2 = E s' (.fr d) ∧ P q.1.2)
    (hback : ∀ s' v', backS (E s v) (unlend (E s v) (E s' v') ls) own = E s' v)
    (hQ : ∀ gs s', IsSt s' → gs.length = ds.length → (∀ g ∈ gs, P g) → Q ((true, .lst gs), E s' v)) : Wp (compR T elt tg true .nil own ds ls (E s v)) Q := by
  refine wp_compR (fun fs r ρ => ∃ s' v', IsSt s' ∧ ρ = E s' v' ∧ fs.length + r.length = ds.length ∧ (∀ g ∈ fs, P g) ∧ ∀ d ∈ r, d ∈ ds) hw ?_ ?_ ?_
  · exact ⟨s, v, hs, hl, by simp, fun g hg => by simp at hg, fun d hd => hd⟩
  · rintro fs d r ρ ⟨s', v', is, rfl, hn, hp, hd⟩
    refine ⟨_, hbind s' v' d, ?_⟩
    refine ⟨(true, E s' (.fr d)), rfl, ?_⟩
    dsimp only
    rw [if_pos rfl]
    refine wp_mono (helt s' d is (hd d List.mem_cons_self)) ?_
    rintro ⟨⟨o, x⟩, ρ2⟩ ⟨s2, is2, e, hx⟩
    refine ⟨s2, _, is2, e, ?_, ?_, fun z hz => hd z (List.mem_cons_of_mem _ hz)⟩
    · rw [List.length_append, List.length_singleton]
      rw [List.length_cons] at hn
      omega
    · intro g hg
      rcases List.mem_append.mp hg with h | h
      · exact hp g h
      · rw [List.mem_singleton] at h
        rw [h]
        exact hx
  · rintro gs ρ ⟨s', v', is, rfl, hn, hp, _⟩
    rw [hback]
    exact hQ gs s' is (by simpa using hn) hp
theorem lg_lt {t : Int} (h : t.natAbs < 2 ^ 40) : t.natAbs.log2 < 9000 := by
  have := log2_le h
  omega
theorem rng_len (m : Int) (n : Nat) : (rngD m n).length = n := by
  unfold rngD
  rw [List.length_map, List.length_range]
/-- all are of a kind -/
theorem all_of {α : Type} {f : α → D} {P : α → Prop} : ∀ {gs : List D}, (∀ g ∈ gs, ∃ a, g = f a ∧ P a) → ∃ as : List α, gs = as.map f ∧ ∀ a ∈ as, P a
  | [], _ => ⟨[], rfl, fun a h => by cases h⟩
  | g :: gs, h => by
    obtain ⟨a, rfl, pa⟩ := h g List.mem_cons_self
    obtain ⟨as, rfl, pas⟩ := all_of fun z hz => h z (List.mem_cons_of_mem _ hz)
    exact ⟨a :: as, rfl, fun x hx => by
      rcases List.mem_cons.mp hx with rfl | hx
      · exact pa
      · exact pas x hx⟩
end Pd
set_option Elab.async false
set_option linter.all false
/-norgs-/
/-! Lg1: the greatest common part; points in lowest terms, by the law's own way. -/
namespace Pd
open PySem L2
set_option maxRecDepth 100000
set_option hygiene false in
local macro_rules
  | `(tactic| simp_arith [$as,*]) => `(tactic| simp only [reduceIte, outsOf, Nat.reduceBEq, bind_ok, bind_no, exec, ev_var, ev_non, ev_bl, ev_int, ev_str, ev_tup, ev_lst, ev_dct, ev_bin, ev_neg, ev_not, ev_cmp, ev_chn, ev_and, ev_or, ev_ite, ev_ix, ev_sl, ev_bi, ev_isi, ev_call, ev_pop, ev_comp, ev_sortedR, ev_rev, ev_rgs, ev_sset, ev_meet, ev_me, ev_tin, ev_cst, rev_lst, rev_tup, few_ints, sset_ints, evalVs, evalOs, evalAs, evalI, op1, op2, opd, argD, hasV, mineV, getOp, getOps, Sl.val, varD, retD, testD, condD, partD, optR_some, optR_if, optF_some, optF_none, optR_none, wp_ok, wp_no, wp_ex, wp_bind, wp_ifno, wp_noif, wp_noEx, wp_unlF, List.any_cons, List.any_nil, Int.reducePow, Int.reduceToNat, natAbs_lit, Int.reduceLE, Int.reduceLT, Int.reduceNeg, Nat.reduceLT, Nat.reduceLeDiff, Nat.reducePow, Nat.reduceAdd, Int.reduceAdd, Int.reduceEq, Nat.reduceEqDiff, Bool.or_self, Bool.and_self, ixV, ixD, implies_true, false_implies, true_implies, forall_const, wp_cons, run_eq, after_ok, ioDup, getArs, unlk_nx, unlk_rt, lpk_nx, lpk_ct, lpk_bk, lpk_rt, nxk_nx, Option.some.injEq, exists_eq_left', kont_nx, kont_rt, kont_bk, kont_ct, wp_nil, setSl_0, setSl_1, setSl_2, setSl_3, setSl_4, setSl_5, setSl_6, setSl_7, setSl_8, setSl_9, setSl_10, setSl_11, setSl_12, setSl_13, setSl_14, setSl_15, setSl_16, setSl_17, setSl_18, setSl_19, setSl_20, setSl_21, setSl_22, setSl_23, setSl_24, setSl_25, ends_rt, ends_nx,  isOk_no, isOk_fr, isOk_ow, isOk_bo, isFr_no, isFr_fr, bindI, bindT, setTD, bin_add, bin_sub, bin_mul', bin_mod', bin_fdiv', bin_pow, bin_addT, bin_addL, cmpV, cmp_eq, cmp_ne, cmp_lt, cmp_le, cmp_gt, cmp_ge, cmp_inT, cmp_inL, cmp_ninT, cmp_ninL, cmp_is, cmp_isn, isD, eq_int, eq_ints, eq_intsT, isiV, isiD, bi_lenT, bi_lenL, bi_abs, bi_sum, bi_min2, bi_max2, bi_tupT, bi_tupL, bi_lstT, bi_lstL, bi_intI, bi_intB, bi_boolB, bi_all, bi_any, bi_sorted, muD_append, muD_reverse, muD_clear, sl_tup, sl_lst, bin_mulL, isl_lst, opt_if, optF_if, negD, notD, lsOk, lends, lend, unlend, opSl, wipeOk, wipeS, backS, seqD, itrD, getAr, putIo, putOuts, augS, augD, modSl, List.getElem?_cons_zero, List.getElem?_cons_succ, List.set_cons_zero, List.set_cons_succ, List.getD_cons_zero, List.getD_cons_succ, Option.map_some, Option.map_none, Option.isSome_some, Option.any_some, Option.bind_some, Option.bind_none, Bool.and_true, Bool.true_and, Bool.and_false, Bool.false_and, Bool.or_false, Bool.false_or, Bool.true_or, Bool.or_true, Bool.not_true, Bool.not_false, List.all_cons, List.all_nil, List.map_cons, List.map_nil, List.cons_append, List.nil_append, if_true, if_false, reduceCtorEq, Bool.false_eq_true, ite_true, ite_false, ite_cond_eq_true, tb_kinds, decide_true, decide_false, true_and, and_true, ne_eq, not_true_eq_false, not_false_eq_true, List.length_cons, List.length_nil, beq_self_eq_true, bin_mulT, bi_str, bi_sumT, bi_minL, bi_maxL, ev_tget, ev_tgetE, ev_dzip, ev_dprs, ev_fld, ev_mk, tb_cst, tb_tab, tb_isC, tb_isM, tb_isF, tb_mkC, at_0, at_1, at_2, tin_str, tget_str, tgetE_str, str_inj, String.reduceEq, eq_str, in_str2, sk_each, sk_cover, sk_cut, sk_steps, sk_forest, sk_table, sk_plus, sk_times, sk_upto, sk_behind, sk_among, sk_turned, bne_self_eq_false, Bool.true_bne, Bool.false_bne, Bool.not_true, Bool.not_false, $as,*])
set_option hygiene false in
local macro_rules
  | `(tactic| simp_arith) => `(tactic| simp_arith [if_true])
  | `(tactic| simp_arith!) => `(tactic| first | (simp_arith [if_true]; done) | (simp_arith [if_true]; rfl))
  | `(tactic| simp_arith! [$as,*]) => `(tactic| first | (simp_arith [$as,*]; done) | (simp_arith [$as,*]; rfl))
theorem filt_all {α : Type} (as : List α) : (as.filter fun _ => true) = as := List.filter_eq_self.mpr fun _ _ => rfl
def gI (a b : Int) : Int := Int.gcd a b
theorem gI_nn (a b : Int) : 0 ≤ gI a b := Int.natCast_nonneg _
theorem gI_step {f l : Int} (hf : 0 ≤ f) (hl : 0 ≤ l) : gI f l = gI l (f.fmod l) := by
  obtain ⟨a, rfl⟩ := Int.eq_ofNat_of_zero_le hf
  obtain ⟨b, rfl⟩ := Int.eq_ofNat_of_zero_le hl
  rw [Int.fmod_eq_emod_of_nonneg _ hl]
  show ((Nat.gcd a b : Nat) : Int) = ((Nat.gcd b (a % b) : Nat) : Int)
  rw [Nat.gcd_comm a b, Nat.gcd_rec b a, Nat.gcd_comm]
theorem gI_zero {f : Int} (hf : 0 ≤ f) : gI f 0 = f := by
  obtain ⟨a, rfl⟩ := Int.eq_ofNat_of_zero_le hf
  show ((Nat.gcd a 0 : Nat) : Int) = a
  rw [Nat.gcd_zero_right]
/-- the greatest number that goes into f and all of ns -/
def gF (f : Int) (ns : List Int) : Int := ns.foldl (fun f n => gI f n.natAbs) f
theorem gF_nn : ∀ {ns : List Int} {f : Int}, 0 ≤ f → 0 ≤ gF f ns
  | [], _, h => h
  | n :: ns, f, _ => gF_nn (ns := ns) (f := gI f n.natAbs) (gI_nn _ _)
end Pd
set_option Elab.async false
set_option linter.all false
/-norgs-/
/-! Lg2: common parts, lowest terms. -/
namespace Pd
open PySem L2
set_option maxRecDepth 100000
set_option hygiene false in
local macro_rules
  | `(tactic| simp_arith [$as,*]) => `(tactic| simp only [reduceIte, outsOf, Nat.reduceBEq, bind_ok, bind_no, exec, ev_var, ev_non, ev_bl, ev_int, ev_str, ev_tup, ev_lst, ev_dct, ev_bin, ev_neg, ev_not, ev_cmp, ev_chn, ev_and, ev_or, ev_ite, ev_ix, ev_sl, ev_bi, ev_isi, ev_call, ev_pop, ev_comp, ev_sortedR, ev_rev, ev_rgs, ev_sset, ev_meet, ev_me, ev_tin, ev_cst, rev_lst, rev_tup, few_ints, sset_ints, evalVs, evalOs, evalAs, evalI, op1, op2, opd, argD, hasV, mineV, getOp, getOps, Sl.val, varD, retD, testD, condD, partD, optR_some, optR_if, optF_some, optF_none, optR_none, wp_ok, wp_no, wp_ex, wp_bind, wp_ifno, wp_noif, wp_noEx, wp_unlF, List.any_cons, List.any_nil, Int.reducePow, Int.reduceToNat, natAbs_lit, Int.reduceLE, Int.reduceLT, Int.reduceNeg, Nat.reduceLT, Nat.reduceLeDiff, Nat.reducePow, Nat.reduceAdd, Int.reduceAdd, Int.reduceEq, Nat.reduceEqDiff, Bool.or_self, Bool.and_self, ixV, ixD, implies_true, false_implies, true_implies, forall_const, wp_cons, run_eq, after_ok, ioDup, getArs, unlk_nx, unlk_rt, lpk_nx, lpk_ct, lpk_bk, lpk_rt, nxk_nx, Option.some.injEq, exists_eq_left', kont_nx, kont_rt, kont_bk, kont_ct, wp_nil, setSl_0, setSl_1, setSl_2, setSl_3, setSl_4, setSl_5, setSl_6, setSl_7, setSl_8, setSl_9, setSl_10, setSl_11, setSl_12, setSl_13, setSl_14, setSl_15, setSl_16, setSl_17, setSl_18, setSl_19, setSl_20, setSl_21, setSl_22, setSl_23, setSl_24, setSl_25, ends_rt, ends_nx,  isOk_no, isOk_fr, isOk_ow, isOk_bo, isFr_no, isFr_fr, bindI, bindT, setTD, bin_add, bin_sub, bin_mul', bin_mod', bin_fdiv', bin_pow, bin_addT, bin_addL, cmpV, cmp_eq, cmp_ne, cmp_lt, cmp_le, cmp_gt, cmp_ge, cmp_inT, cmp_inL, cmp_ninT, cmp_ninL, cmp_is, cmp_isn, isD, eq_int, eq_ints, eq_intsT, isiV, isiD, bi_lenT, bi_lenL, bi_abs, bi_sum, bi_min2, bi_max2, bi_tupT, bi_tupL, bi_lstT, bi_lstL, bi_intI, bi_intB, bi_boolB, bi_all, bi_any, bi_sorted, muD_append, muD_reverse, muD_clear, sl_tup, sl_lst, bin_mulL, isl_lst, opt_if, optF_if, negD, notD, lsOk, lends, lend, unlend, opSl, wipeOk, wipeS, backS, seqD, itrD, getAr, putIo, putOuts, augS, augD, modSl, List.getElem?_cons_zero, List.getElem?_cons_succ, List.set_cons_zero, List.set_cons_succ, List.getD_cons_zero, List.getD_cons_succ, Option.map_some, Option.map_none, Option.isSome_some, Option.any_some, Option.bind_some, Option.bind_none, Bool.and_true, Bool.true_and, Bool.and_false, Bool.false_and, Bool.or_false, Bool.false_or, Bool.true_or, Bool.or_true, Bool.not_true, Bool.not_false, List.all_cons, List.all_nil, List.map_cons, List.map_nil, List.cons_append, List.nil_append, if_true, if_false, reduceCtorEq, Bool.false_eq_true, ite_true, ite_false, ite_cond_eq_true, tb_kinds, decide_true, decide_false, true_and, and_true, ne_eq, not_true_eq_false, not_false_eq_true, List.length_cons, List.length_nil, beq_self_eq_true, bin_mulT, bi_str, bi_sumT, bi_minL, bi_maxL, ev_tget, ev_tgetE, ev_dzip, ev_dprs, ev_fld, ev_mk, tb_cst, tb_tab, tb_isC, tb_isM, tb_isF, tb_mkC, at_0, at_1, at_2, tin_str, tget_str, tgetE_str, str_inj, String.reduceEq, eq_str, in_str2, sk_each, sk_cover, sk_cut, sk_steps, sk_forest, sk_table, sk_plus, sk_times, sk_upto, sk_behind, sk_among, sk_turned, bne_self_eq_false, Bool.true_bne, Bool.false_bne, Bool.not_true, Bool.not_false, $as,*])
set_option hygiene false in
local macro_rules
  | `(tactic| simp_arith) => `(tactic| simp_arith [if_true])
  | `(tactic| simp_arith!) => `(tactic| first | (simp_arith [if_true]; done) | (simp_arith [if_true]; rfl))
  | `(tactic| simp_arith! [$as,*]) => `(tactic| first | (simp_arith [$as,*]; done) | (simp_arith [$as,*]; rfl))
end Pd
set_option Elab.async false
set_option linter.all false
/-norgs-/
/-! Lg3: is_point, and the law's own look at points, of any plain thing. -/
namespace Pd
open PySem L2
set_option maxRecDepth 100000
set_option hygiene false in
local macro_rules
  | `(tactic| simp_arith [$as,*]) => `(tactic| simp only [reduceIte, outsOf, Nat.reduceBEq, bind_ok, bind_no, exec, ev_var, ev_non, ev_bl, ev_int, ev_str, ev_tup, ev_lst, ev_dct, ev_bin, ev_neg, ev_not, ev_cmp, ev_chn, ev_and, ev_or, ev_ite, ev_ix, ev_sl, ev_bi, ev_isi, ev_call, ev_pop, ev_comp, ev_sortedR, ev_rev, ev_rgs, ev_sset, ev_meet, ev_me, ev_tin, ev_cst, rev_lst, rev_tup, few_ints, sset_ints, evalVs, evalOs, evalAs, evalI, op1, op2, opd, argD, hasV, mineV, getOp, getOps, Sl.val, varD, retD, testD, condD, partD, optR_some, optR_if, optF_some, optF_none, optR_none, wp_ok, wp_no, wp_ex, wp_bind, wp_ifno, wp_noif, wp_noEx, wp_unlF, List.any_cons, List.any_nil, Int.reducePow, Int.reduceToNat, natAbs_lit, Int.reduceLE, Int.reduceLT, Int.reduceNeg, Nat.reduceLT, Nat.reduceLeDiff, Nat.reducePow, Nat.reduceAdd, Int.reduceAdd, Int.reduceEq, Nat.reduceEqDiff, Bool.or_self, Bool.and_self, ixV, ixD, implies_true, false_implies, true_implies, forall_const, wp_cons, run_eq, after_ok, ioDup, getArs, unlk_nx, unlk_rt, lpk_nx, lpk_ct, lpk_bk, lpk_rt, nxk_nx, Option.some.injEq, exists_eq_left', kont_nx, kont_rt, kont_bk, kont_ct, wp_nil, setSl_0, setSl_1, setSl_2, setSl_3, setSl_4, setSl_5, setSl_6, setSl_7, setSl_8, setSl_9, setSl_10, setSl_11, setSl_12, setSl_13, setSl_14, setSl_15, setSl_16, setSl_17, setSl_18, setSl_19, setSl_20, setSl_21, setSl_22, setSl_23, setSl_24, setSl_25, ends_rt, ends_nx,  isOk_no, isOk_fr, isOk_ow, isOk_bo, isFr_no, isFr_fr, bindI, bindT, setTD, bin_add, bin_sub, bin_mul', bin_mod', bin_fdiv', bin_pow, bin_addT, bin_addL, cmpV, cmp_eq, cmp_ne, cmp_lt, cmp_le, cmp_gt, cmp_ge, cmp_inT, cmp_inL, cmp_ninT, cmp_ninL, cmp_is, cmp_isn, isD, eq_int, eq_ints, eq_intsT, isiV, isiD, bi_lenT, bi_lenL, bi_abs, bi_sum, bi_min2, bi_max2, bi_tupT, bi_tupL, bi_lstT, bi_lstL, bi_intI, bi_intB, bi_boolB, bi_all, bi_any, bi_sorted, muD_append, muD_reverse, muD_clear, sl_tup, sl_lst, bin_mulL, isl_lst, opt_if, optF_if, negD, notD, lsOk, lends, lend, unlend, opSl, wipeOk, wipeS, backS, seqD, itrD, getAr, putIo, putOuts, augS, augD, modSl, List.getElem?_cons_zero, List.getElem?_cons_succ, List.set_cons_zero, List.set_cons_succ, List.getD_cons_zero, List.getD_cons_succ, Option.map_some, Option.map_none, Option.isSome_some, Option.any_some, Option.bind_some, Option.bind_none, Bool.and_true, Bool.true_and, Bool.and_false, Bool.false_and, Bool.or_false, Bool.false_or, Bool.true_or, Bool.or_true, Bool.not_true, Bool.not_false, List.all_cons, List.all_nil, List.map_cons, List.map_nil, List.cons_append, List.nil_append, if_true, if_false, reduceCtorEq, Bool.false_eq_true, ite_true, ite_false, ite_cond_eq_true, tb_kinds, decide_true, decide_false, true_and, and_true, ne_eq, not_true_eq_false, not_false_eq_true, List.length_cons, List.length_nil, beq_self_eq_true, bin_mulT, bi_str, bi_sumT, bi_minL, bi_maxL, ev_tget, ev_tgetE, ev_dzip, ev_dprs, ev_fld, ev_mk, tb_cst, tb_tab, tb_isC, tb_isM, tb_isF, tb_mkC, at_0, at_1, at_2, tin_str, tget_str, tgetE_str, str_inj, String.reduceEq, eq_str, in_str2, sk_each, sk_cover, sk_cut, sk_steps, sk_forest, sk_table, sk_plus, sk_times, sk_upto, sk_behind, sk_among, sk_turned, bne_self_eq_false, Bool.true_bne, Bool.false_bne, Bool.not_true, Bool.not_false, $as,*])
set_option hygiene false in
local macro_rules
  | `(tactic| simp_arith) => `(tactic| simp_arith [if_true])
  | `(tactic| simp_arith!) => `(tactic| first | (simp_arith [if_true]; done) | (simp_arith [if_true]; rfl))
  | `(tactic| simp_arith! [$as,*]) => `(tactic| first | (simp_arith [$as,*]; done) | (simp_arith [$as,*]; rfl))
end Pd
set_option Elab.async false
set_option linter.all false
/-norgs-/
/-! Lg4: is_point and the law's own look, for a thing near a point. -/
namespace Pd
open PySem L2
set_option maxRecDepth 100000
set_option hygiene false in
local macro_rules
  | `(tactic| simp_arith [$as,*]) => `(tactic| simp only [reduceIte, outsOf, Nat.reduceBEq, bind_ok, bind_no, exec, ev_var, ev_non, ev_bl, ev_int, ev_str, ev_tup, ev_lst, ev_dct, ev_bin, ev_neg, ev_not, ev_cmp, ev_chn, ev_and, ev_or, ev_ite, ev_ix, ev_sl, ev_bi, ev_isi, ev_call, ev_pop, ev_comp, ev_sortedR, ev_rev, ev_rgs, ev_sset, ev_meet, ev_me, ev_tin, ev_cst, rev_lst, rev_tup, few_ints, sset_ints, evalVs, evalOs, evalAs, evalI, op1, op2, opd, argD, hasV, mineV, getOp, getOps, Sl.val, varD, retD, testD, condD, partD, optR_some, optR_if, optF_some, optF_none, optR_none, wp_ok, wp_no, wp_ex, wp_bind, wp_ifno, wp_noif, wp_noEx, wp_unlF, List.any_cons, List.any_nil, Int.reducePow, Int.reduceToNat, natAbs_lit, Int.reduceLE, Int.reduceLT, Int.reduceNeg, Nat.reduceLT, Nat.reduceLeDiff, Nat.reducePow, Nat.reduceAdd, Int.reduceAdd, Int.reduceEq, Nat.reduceEqDiff, Bool.or_self, Bool.and_self, ixV, ixD, implies_true, false_implies, true_implies, forall_const, wp_cons, run_eq, after_ok, ioDup, getArs, unlk_nx, unlk_rt, lpk_nx, lpk_ct, lpk_bk, lpk_rt, nxk_nx, Option.some.injEq, exists_eq_left', kont_nx, kont_rt, kont_bk, kont_ct, wp_nil, setSl_0, setSl_1, setSl_2, setSl_3, setSl_4, setSl_5, setSl_6, setSl_7, setSl_8, setSl_9, setSl_10, setSl_11, setSl_12, setSl_13, setSl_14, setSl_15, setSl_16, setSl_17, setSl_18, setSl_19, setSl_20, setSl_21, setSl_22, setSl_23, setSl_24, setSl_25, ends_rt, ends_nx,  isOk_no, isOk_fr, isOk_ow, isOk_bo, isFr_no, isFr_fr, bindI, bindT, setTD, bin_add, bin_sub, bin_mul', bin_mod', bin_fdiv', bin_pow, bin_addT, bin_addL, cmpV, cmp_eq, cmp_ne, cmp_lt, cmp_le, cmp_gt, cmp_ge, cmp_inT, cmp_inL, cmp_ninT, cmp_ninL, cmp_is, cmp_isn, isD, eq_int, eq_ints, eq_intsT, isiV, isiD, bi_lenT, bi_lenL, bi_abs, bi_sum, bi_min2, bi_max2, bi_tupT, bi_tupL, bi_lstT, bi_lstL, bi_intI, bi_intB, bi_boolB, bi_all, bi_any, bi_sorted, muD_append, muD_reverse, muD_clear, sl_tup, sl_lst, bin_mulL, isl_lst, opt_if, optF_if, negD, notD, lsOk, lends, lend, unlend, opSl, wipeOk, wipeS, backS, seqD, itrD, getAr, putIo, putOuts, augS, augD, modSl, List.getElem?_cons_zero, List.getElem?_cons_succ, List.set_cons_zero, List.set_cons_succ, List.getD_cons_zero, List.getD_cons_succ, Option.map_some, Option.map_none, Option.isSome_some, Option.any_some, Option.bind_some, Option.bind_none, Bool.and_true, Bool.true_and, Bool.and_false, Bool.false_and, Bool.or_false, Bool.false_or, Bool.true_or, Bool.or_true, Bool.not_true, Bool.not_false, List.all_cons, List.all_nil, List.map_cons, List.map_nil, List.cons_append, List.nil_append, if_true, if_false, reduceCtorEq, Bool.false_eq_true, ite_true, ite_false, ite_cond_eq_true, tb_kinds, decide_true, decide_false, true_and, and_true, ne_eq, not_true_eq_false, not_false_eq_true, List.length_cons, List.length_nil, beq_self_eq_true, bin_mulT, bi_str, bi_sumT, bi_minL, bi_maxL, ev_tget, ev_tgetE, ev_dzip, ev_dprs, ev_fld, ev_mk, tb_cst, tb_tab, tb_isC, tb_isM, tb_isF, tb_mkC, at_0, at_1, at_2, tin_str, tget_str, tgetE_str, str_inj, String.reduceEq, eq_str, in_str2, sk_each, sk_cover, sk_cut, sk_steps, sk_forest, sk_table, sk_plus, sk_times, sk_upto, sk_behind, sk_among, sk_turned, bne_self_eq_false, Bool.true_bne, Bool.false_bne, Bool.not_true, Bool.not_false, $as,*])
set_option hygiene false in
local macro_rules
  | `(tactic| simp_arith) => `(tactic| simp_arith [if_true])
  | `(tactic| simp_arith!) => `(tactic| first | (simp_arith [if_true]; done) | (simp_arith [if_true]; rfl))
  | `(tactic| simp_arith! [$as,*]) => `(tactic| first | (simp_arith [$as,*]; done) | (simp_arith [$as,*]; rfl))
end Pd
set_option Elab.async false
set_option linter.all false
/-norgs-/
/-! Lg5: drawn numbers over a bottom; things near a point. -/
namespace Pd
open PySem L2
set_option maxRecDepth 100000
set_option hygiene false in
local macro_rules
  | `(tactic| simp_arith [$as,*]) => `(tactic| simp only [reduceIte, outsOf, Nat.reduceBEq, bind_ok, bind_no, exec, ev_var, ev_non, ev_bl, ev_int, ev_str, ev_tup, ev_lst, ev_dct, ev_bin, ev_neg, ev_not, ev_cmp, ev_chn, ev_and, ev_or, ev_ite, ev_ix, ev_sl, ev_bi, ev_isi, ev_call, ev_pop, ev_comp, ev_sortedR, ev_rev, ev_rgs, ev_sset, ev_meet, ev_me, ev_tin, ev_cst, rev_lst, rev_tup, few_ints, sset_ints, evalVs, evalOs, evalAs, evalI, op1, op2, opd, argD, hasV, mineV, getOp, getOps, Sl.val, varD, retD, testD, condD, partD, optR_some, optR_if, optF_some, optF_none, optR_none, wp_ok, wp_no, wp_ex, wp_bind, wp_ifno, wp_noif, wp_noEx, wp_unlF, List.any_cons, List.any_nil, Int.reducePow, Int.reduceToNat, natAbs_lit, Int.reduceLE, Int.reduceLT, Int.reduceNeg, Nat.reduceLT, Nat.reduceLeDiff, Nat.reducePow, Nat.reduceAdd, Int.reduceAdd, Int.reduceEq, Nat.reduceEqDiff, Bool.or_self, Bool.and_self, ixV, ixD, implies_true, false_implies, true_implies, forall_const, wp_cons, run_eq, after_ok, ioDup, getArs, unlk_nx, unlk_rt, lpk_nx, lpk_ct, lpk_bk, lpk_rt, nxk_nx, Option.some.injEq, exists_eq_left', kont_nx, kont_rt, kont_bk, kont_ct, wp_nil, setSl_0, setSl_1, setSl_2, setSl_3, setSl_4, setSl_5, setSl_6, setSl_7, setSl_8, setSl_9, setSl_10, setSl_11, setSl_12, setSl_13, setSl_14, setSl_15, setSl_16, setSl_17, setSl_18, setSl_19, setSl_20, setSl_21, setSl_22, setSl_23, setSl_24, setSl_25, ends_rt, ends_nx,  isOk_no, isOk_fr, isOk_ow, isOk_bo, isFr_no, isFr_fr, bindI, bindT, setTD, bin_add, bin_sub, bin_mul', bin_mod', bin_fdiv', bin_pow, bin_addT, bin_addL, cmpV, cmp_eq, cmp_ne, cmp_lt, cmp_le, cmp_gt, cmp_ge, cmp_inT, cmp_inL, cmp_ninT, cmp_ninL, cmp_is, cmp_isn, isD, eq_int, eq_ints, eq_intsT, isiV, isiD, bi_lenT, bi_lenL, bi_abs, bi_sum, bi_min2, bi_max2, bi_tupT, bi_tupL, bi_lstT, bi_lstL, bi_intI, bi_intB, bi_boolB, bi_all, bi_any, bi_sorted, muD_append, muD_reverse, muD_clear, sl_tup, sl_lst, bin_mulL, isl_lst, opt_if, optF_if, negD, notD, lsOk, lends, lend, unlend, opSl, wipeOk, wipeS, backS, seqD, itrD, getAr, putIo, putOuts, augS, augD, modSl, List.getElem?_cons_zero, List.getElem?_cons_succ, List.set_cons_zero, List.set_cons_succ, List.getD_cons_zero, List.getD_cons_succ, Option.map_some, Option.map_none, Option.isSome_some, Option.any_some, Option.bind_some, Option.bind_none, Bool.and_true, Bool.true_and, Bool.and_false, Bool.false_and, Bool.or_false, Bool.false_or, Bool.true_or, Bool.or_true, Bool.not_true, Bool.not_false, List.all_cons, List.all_nil, List.map_cons, List.map_nil, List.cons_append, List.nil_append, if_true, if_false, reduceCtorEq, Bool.false_eq_true, ite_true, ite_false, ite_cond_eq_true, tb_kinds, decide_true, decide_false, true_and, and_true, ne_eq, not_true_eq_false, not_false_eq_true, List.length_cons, List.length_nil, beq_self_eq_true, bin_mulT, bi_str, bi_sumT, bi_minL, bi_maxL, ev_tget, ev_tgetE, ev_dzip, ev_dprs, ev_fld, ev_mk, tb_cst, tb_tab, tb_isC, tb_isM, tb_isF, tb_mkC, at_0, at_1, at_2, tin_str, tget_str, tgetE_str, str_inj, String.reduceEq, eq_str, in_str2, sk_each, sk_cover, sk_cut, sk_steps, sk_forest, sk_table, sk_plus, sk_times, sk_upto, sk_behind, sk_among, sk_turned, bne_self_eq_false, Bool.true_bne, Bool.false_bne, Bool.not_true, Bool.not_false, $as,*])
set_option hygiene false in
local macro_rules
  | `(tactic| simp_arith) => `(tactic| simp_arith [if_true])
  | `(tactic| simp_arith!) => `(tactic| first | (simp_arith [if_true]; done) | (simp_arith [if_true]; rfl))
  | `(tactic| simp_arith! [$as,*]) => `(tactic| first | (simp_arith [$as,*]; done) | (simp_arith [$as,*]; rfl))
def f_l_pick : Fn := ⟨[.io, .bo], 2, [.ret (.ix (.var 1) (.call "_law_take" [.var 0, .bi .len [.var 1]]))]⟩
end Pd
set_option Elab.async false
set_option linter.all false
/-norgs-/
/-! Lg6: things near a point, as the law draws them. -/
namespace Pd
open PySem L2
set_option maxRecDepth 100000
set_option hygiene false in
local macro_rules
  | `(tactic| simp_arith [$as,*]) => `(tactic| simp only [reduceIte, outsOf, Nat.reduceBEq, bind_ok, bind_no, exec, ev_var, ev_non, ev_bl, ev_int, ev_str, ev_tup, ev_lst, ev_dct, ev_bin, ev_neg, ev_not, ev_cmp, ev_chn, ev_and, ev_or, ev_ite, ev_ix, ev_sl, ev_bi, ev_isi, ev_call, ev_pop, ev_comp, ev_sortedR, ev_rev, ev_rgs, ev_sset, ev_meet, ev_me, ev_tin, ev_cst, rev_lst, rev_tup, few_ints, sset_ints, evalVs, evalOs, evalAs, evalI, op1, op2, opd, argD, hasV, mineV, getOp, getOps, Sl.val, varD, retD, testD, condD, partD, optR_some, optR_if, optF_some, optF_none, optR_none, wp_ok, wp_no, wp_ex, wp_bind, wp_ifno, wp_noif, wp_noEx, wp_unlF, List.any_cons, List.any_nil, Int.reducePow, Int.reduceToNat, natAbs_lit, Int.reduceLE, Int.reduceLT, Int.reduceNeg, Nat.reduceLT, Nat.reduceLeDiff, Nat.reducePow, Nat.reduceAdd, Int.reduceAdd, Int.reduceEq, Nat.reduceEqDiff, Bool.or_self, Bool.and_self, ixV, ixD, implies_true, false_implies, true_implies, forall_const, wp_cons, run_eq, after_ok, ioDup, getArs, unlk_nx, unlk_rt, lpk_nx, lpk_ct, lpk_bk, lpk_rt, nxk_nx, Option.some.injEq, exists_eq_left', kont_nx, kont_rt, kont_bk, kont_ct, wp_nil, setSl_0, setSl_1, setSl_2, setSl_3, setSl_4, setSl_5, setSl_6, setSl_7, setSl_8, setSl_9, setSl_10, setSl_11, setSl_12, setSl_13, setSl_14, setSl_15, setSl_16, setSl_17, setSl_18, setSl_19, setSl_20, setSl_21, setSl_22, setSl_23, setSl_24, setSl_25, ends_rt, ends_nx,  isOk_no, isOk_fr, isOk_ow, isOk_bo, isFr_no, isFr_fr, bindI, bindT, setTD, bin_add, bin_sub, bin_mul', bin_mod', bin_fdiv', bin_pow, bin_addT, bin_addL, cmpV, cmp_eq, cmp_ne, cmp_lt, cmp_le, cmp_gt, cmp_ge, cmp_inT, cmp_inL, cmp_ninT, cmp_ninL, cmp_is, cmp_isn, isD, eq_int, eq_ints, eq_intsT, isiV, isiD, bi_lenT, bi_lenL, bi_abs, bi_sum, bi_min2, bi_max2, bi_tupT, bi_tupL, bi_lstT, bi_lstL, bi_intI, bi_intB, bi_boolB, bi_all, bi_any, bi_sorted, muD_append, muD_reverse, muD_clear, sl_tup, sl_lst, bin_mulL, isl_lst, opt_if, optF_if, negD, notD, lsOk, lends, lend, unlend, opSl, wipeOk, wipeS, backS, seqD, itrD, getAr, putIo, putOuts, augS, augD, modSl, List.getElem?_cons_zero, List.getElem?_cons_succ, List.set_cons_zero, List.set_cons_succ, List.getD_cons_zero, List.getD_cons_succ, Option.map_some, Option.map_none, Option.isSome_some, Option.any_some, Option.bind_some, Option.bind_none, Bool.and_true, Bool.true_and, Bool.and_false, Bool.false_and, Bool.or_false, Bool.false_or, Bool.true_or, Bool.or_true, Bool.not_true, Bool.not_false, List.all_cons, List.all_nil, List.map_cons, List.map_nil, List.cons_append, List.nil_append, if_true, if_false, reduceCtorEq, Bool.false_eq_true, ite_true, ite_false, ite_cond_eq_true, tb_kinds, decide_true, decide_false, true_and, and_true, ne_eq, not_true_eq_false, not_false_eq_true, List.length_cons, List.length_nil, beq_self_eq_true, bin_mulT, bi_str, bi_sumT, bi_minL, bi_maxL, ev_tget, ev_tgetE, ev_dzip, ev_dprs, ev_fld, ev_mk, tb_cst, tb_tab, tb_isC, tb_isM, tb_isF, tb_mkC, at_0, at_1, at_2, tin_str, tget_str, tgetE_str, str_inj, String.reduceEq, eq_str, in_str2, sk_each, sk_cover, sk_cut, sk_steps, sk_forest, sk_table, sk_plus, sk_times, sk_upto, sk_behind, sk_among, sk_turned, bne_self_eq_false, Bool.true_bne, Bool.false_bne, Bool.not_true, Bool.not_false, $as,*])
set_option hygiene false in
local macro_rules
  | `(tactic| simp_arith) => `(tactic| simp_arith [if_true])
  | `(tactic| simp_arith!) => `(tactic| first | (simp_arith [if_true]; done) | (simp_arith [if_true]; rfl))
  | `(tactic| simp_arith! [$as,*]) => `(tactic| first | (simp_arith [$as,*]; done) | (simp_arith [$as,*]; rfl))
theorem at_map' {α : Type} {f : α → D} {as : List α} {i : Int} (d : α) (h0 : 0 ≤ i) (h1 : i < as.length) : atI (as.map f) i = some (f (as.getD i.toNat d)) := by
  unfold atI ixN
  have h2 : i.toNat < as.length := by omega
  rw [if_pos h0, if_pos (by rw [List.length_map]; exact h1), Option.bind_some, List.getElem?_map, List.getElem?_eq_getElem h2, List.getD_eq_getElem?_getD, List.getElem?_eq_getElem h2]
  rfl
theorem cut_take' {α : Type} {ds : List α} {k : Nat} : cutD ds none (some (k : Int)) = ds.take k := by
  unfold cutD
  rw [HT.sIx_none, HT.sIx_nat, List.drop_zero, Nat.sub_zero]
  by_cases h : k ≤ ds.length
  · rw [Nat.min_eq_left h]
  · rw [Nat.min_eq_right (by omega), List.take_of_length_le (Nat.le_refl _), List.take_of_length_le (by omega)]
theorem cut_drop' {α : Type} {ds : List α} {j : Nat} : cutD ds (some ((j : Int) + 1)) none = ds.drop (j + 1) := by
  unfold cutD
  rw [show (j : Int) + 1 = ((j + 1 : Nat) : Int) by omega, HT.sIx_none, HT.sIx_nat]
  by_cases h : j + 1 ≤ ds.length
  · rw [Nat.min_eq_left h, List.take_of_length_le (by rw [List.length_drop]; exact Nat.le_refl _)]
  · rw [Nat.min_eq_right (by omega), List.drop_eq_nil_of_le (Nat.le_refl _), List.drop_eq_nil_of_le (by omega), List.take_nil]
theorem eq_nil0 : eqD (.lst []) (.lst []) = some true := by
  have := eq_nz (fl := true) (a := .lst []) (b := .lst []) (by rw [nz_lst, nzDs_nil]) (by rw [nz_lst, nzDs_nil])
  rw [this]
  simp only [decide_true]
theorem getD_in {α : Type} {l : List α} {i : Nat} {d : α} (h : i < l.length) : l.getD i d ∈ l := by
  rw [List.getD_eq_getElem?_getD, List.getElem?_eq_getElem h, Option.getD_some]
  exact List.getElem_mem _
theorem pick_ok {M : Md} (ht : M.fns "_law_take" = some fTake) (h : M.fns "_law_pick" = some f_l_pick) (n : Nat) {s : D} (hs : IsSt s) {ds : List D} (h1 : 1 ≤ ds.length ∧ ds.length ≤ 1000) : Wc M (n + 2) "_law_pick" [s, .lst ds] fun o d outs => ∃ s', o = false ∧ outs = [s'] ∧ IsSt s' ∧ d ∈ ds := by
  refine wc_of h ⟨rfl, by decide⟩ ?_
  show Wp (execs (M.tb (n + 1)) f_l_pick.body [.io s, .bo (.lst ds)]) _
  simp_arith [f_l_pick, kinds_take ht]
  refine wp_take ht hs (by omega) (lg_lt (by omega)) fun w s1 is1 w0 w1 => ⟨_, rfl, ?_⟩
  have e := at_map' (f := id) (as := ds) .non w0 w1
  rw [List.map_id] at e
  simp_arith [e]
  exact ⟨s1, rfl, is1, getD_in (by omega)⟩
end Pd
set_option Elab.async false
set_option linter.all false
/-norgs-/
/-! Lg7: lowest terms have no common part. -/
set_option linter.all false
/-! Ld1: what a square of numbers spans (plain). -/
namespace Pd
abbrev Rw : Type := Nat → Int
def sumN : Nat → (Nat → Int) → Int
  | 0, _ => 0
  | n + 1, f => sumN n f + f n
theorem sumN_congr {n : Nat} {f g : Nat → Int} (h : ∀ k, k < n → f k = g k) : sumN n f = sumN n g := by
  induction n with
  | zero => rfl
  | succ n ih => rw [sumN, sumN, ih fun k hk => h k (by omega), h n (by omega)]
theorem sumN_add (n : Nat) (f g : Nat → Int) : sumN n (fun k => f k + g k) = sumN n f + sumN n g := by
  induction n with
  | zero => rfl
  | succ n ih => rw [sumN, sumN, sumN, ih]; omega
theorem sumN_mul (n : Nat) (c : Int) (f : Nat → Int) : sumN n (fun k => c * f k) = c * sumN n f := by
  induction n with
  | zero => simp [sumN]
  | succ n ih => rw [sumN, sumN, ih, Int.mul_add]
theorem sumN_zero (n : Nat) {f : Nat → Int} (h : ∀ k, k < n → f k = 0) : sumN n f = 0 := by
  induction n with
  | zero => rfl
  | succ n ih => rw [sumN, ih fun k hk => h k (by omega), h n (by omega)]; rfl
theorem sumN_abs {n : Nat} {f : Nat → Int} {B : Nat} (h : ∀ k, k < n → (f k).natAbs ≤ B) : (sumN n f).natAbs ≤ n * B := by
  induction n with
  | zero => simp [sumN]
  | succ n ih =>
    have h1 := ih fun k hk => h k (by omega)
    have h2 := h n (by omega)
    rw [sumN, Nat.add_mul]
    omega
/-- one alone -/
theorem sumN_one {n : Nat} {f : Nat → Int} {k : Nat} (hk : k < n) (h : ∀ j, j < n → j ≠ k → f j = 0) : sumN n f = f k := by
  induction n with
  | zero => omega
  | succ n ih =>
    rw [sumN]
    by_cases e : k = n
    · subst e
      rw [sumN_zero k fun j hj => h j (by omega) (by omega)]; omega
    · rw [ih (by omega) fun j hj hn => h j (by omega) hn, h n (by omega) (by omega)]; omega
/-- the first alone -/
theorem sumN_first (n : Nat) (f : Nat → Int) : sumN (n + 1) f = f 0 + sumN n fun k => f (k + 1) := by
  induction n with
  | zero => simp [sumN]
  | succ n ih =>
    rw [sumN, ih, sumN]
    omega
theorem sumN_pair (g : Nat → Nat → Int) : ∀ n : Nat, sumN (n + 1) (fun k => sumN n fun l => g k l) = sumN n fun l => sumN (l + 1) fun k => g k l + g (l + 1) k
  | 0 => by simp [sumN]
  | n + 1 => by
    have h1 : sumN (n + 2) (fun k => sumN (n + 1) fun l => g k l) = sumN (n + 1) (fun k => sumN n fun l => g k l) + sumN (n + 1) (fun k => g k n) + sumN (n + 1) (fun l => g (n + 1) l) := by
      have e : sumN (n + 1) (fun k => sumN (n + 1) fun l => g k l) = sumN (n + 1) (fun k => sumN n (fun l => g k l) + g k n) := sumN_congr fun k _ => rfl
      rw [show sumN (n + 2) (fun k => sumN (n + 1) fun l => g k l) = sumN (n + 1) (fun k => sumN (n + 1) fun l => g k l) + sumN (n + 1) (fun l => g (n + 1) l) from rfl, e, sumN_add]
    have h2 : sumN (n + 1) (fun l => g (n + 1) l) = sumN (n + 1) (g (n + 1)) := rfl
    rw [h1, sumN_pair g n, show sumN (n + 1) (fun l => sumN (l + 1) fun k => g k l + g (l + 1) k) = sumN n (fun l => sumN (l + 1) fun k => g k l + g (l + 1) k) + sumN (n + 1) (fun k => g k n + g (n + 1) k) from rfl, sumN_add]
    omega
def sgn (k : Nat) : Int := if k % 2 = 0 then 1 else -1
theorem sgn_succ (k : Nat) : sgn (k + 1) = - sgn k := by
  unfold sgn
  by_cases h : k % 2 = 0
  · rw [if_pos h, if_neg (by omega)]
  · rw [if_neg h, if_pos (by omega)]; rfl
theorem sgn_abs (k : Nat) : (sgn k).natAbs = 1 := by unfold sgn; split <;> rfl
/-- a row without a column -/
def dropc (k : Nat) (r : Rw) : Rw := fun j => if j < k then r j else r (j + 1)
theorem dropc_comm {k l : Nat} (h : k ≤ l) (r : Rw) : dropc l (dropc k r) = dropc k (dropc (l + 1) r) := by
  funext j
  unfold dropc
  by_cases h1 : j < k
  · rw [if_pos (by omega), if_pos h1, if_pos h1, if_pos (by omega)]
  · by_cases h2 : j < l
    · rw [if_pos h2, if_neg h1, if_neg h1, if_pos (by omega)]
    · rw [if_neg h2, if_neg (by omega), if_neg h1, if_neg (by omega)]
def detF : Nat → List Rw → Int
  | 0, _ => 1
  | n + 1, r :: rs => sumN (n + 1) fun k => sgn k * r k * detF n (rs.map (dropc k))
  | _ + 1, [] => 0
abbrev detR (rs : List Rw) : Int := detF rs.length rs
theorem detR_nil : detR [] = 1 := rfl
theorem detR_cons (r : Rw) (rs : List Rw) : detR (r :: rs) = sumN (rs.length + 1) fun k => sgn k * r k * detR (rs.map (dropc k)) := by
  show detF (rs.length + 1) (r :: rs) = _
  rw [detF]
  refine sumN_congr fun k _ => ?_
  show _ = sgn k * r k * detF (rs.map (dropc k)).length (rs.map (dropc k))
  rw [List.length_map]
/-! linear in each row -/
def rAdd (a b : Rw) : Rw := fun j => a j + b j
def rMul (c : Int) (a : Rw) : Rw := fun j => c * a j
theorem drop_add (k : Nat) (a b : Rw) : dropc k (rAdd a b) = rAdd (dropc k a) (dropc k b) := by
  funext j; unfold dropc rAdd; dsimp only; split <;> rfl
theorem drop_mul (k : Nat) (c : Int) (a : Rw) : dropc k (rMul c a) = rMul c (dropc k a) := by
  funext j; unfold dropc rMul; dsimp only; split <;> rfl
theorem det_add : ∀ (pre post : List Rw) (a b : Rw), detR (pre ++ rAdd a b :: post) = detR (pre ++ a :: post) + detR (pre ++ b :: post)
  | [], post, a, b => by
    simp only [List.nil_append]
    rw [detR_cons, detR_cons, detR_cons, ← sumN_add]
    refine sumN_congr fun k _ => ?_
    unfold rAdd
    rw [Int.mul_add, Int.add_mul]
  | p :: pre, post, a, b => by
    simp only [List.cons_append]
    rw [detR_cons, detR_cons, detR_cons]
    have hl : ∀ x : Rw, (pre ++ x :: post).length = pre.length + (post.length + 1) := fun x => by simp
    rw [hl, hl, hl, ← sumN_add]
    refine sumN_congr fun k _ => ?_
    simp only [List.map_append, List.map_cons]
    rw [drop_add, det_add (pre.map (dropc k)), Int.mul_add]
termination_by pre => pre.length
decreasing_by simp
theorem det_mul : ∀ (pre post : List Rw) (c : Int) (a : Rw), detR (pre ++ rMul c a :: post) = c * detR (pre ++ a :: post)
  | [], post, c, a => by
    simp only [List.nil_append]
    rw [detR_cons, detR_cons, ← sumN_mul]
    refine sumN_congr fun k _ => ?_
    unfold rMul
    ac_rfl
  | p :: pre, post, c, a => by
    simp only [List.cons_append]
    rw [detR_cons, detR_cons]
    have hl : ∀ x : Rw, (pre ++ x :: post).length = pre.length + (post.length + 1) := fun x => by simp
    rw [hl, hl, ← sumN_mul]
    refine sumN_congr fun k _ => ?_
    simp only [List.map_append, List.map_cons]
    rw [drop_mul, det_mul (pre.map (dropc k))]
    ac_rfl
termination_by pre => pre.length
decreasing_by simp
/-! alike rows -/
theorem det_twice0 (r : Rw) (post : List Rw) : detR (r :: r :: post) = 0 := by
  rw [detR_cons]
  have h1 : ∀ k, k < (r :: post).length + 1 → sgn k * r k * detR ((r :: post).map (dropc k)) = sumN (post.length + 1) fun l => sgn k * r k * (sgn l * dropc k r l * detR ((post.map (dropc k)).map (dropc l))) := fun k _ => by
    rw [List.map_cons, detR_cons, List.length_map, ← sumN_mul]
  rw [sumN_congr h1, List.length_cons, sumN_pair]
  refine sumN_zero _ fun l hl => sumN_zero _ fun k hk => ?_
  have hkl : k ≤ l := by omega
  have e1 : dropc k r l = r (l + 1) := by unfold dropc; rw [if_neg (by omega)]
  have e2 : dropc (l + 1) r k = r k := by unfold dropc; rw [if_pos (by omega)]
  have e3 : (post.map (dropc k)).map (dropc l) = (post.map (dropc (l + 1))).map (dropc k) := by
    rw [List.map_map, List.map_map]
    exact List.map_congr_left fun x _ => dropc_comm hkl x
  rw [e1, e2, e3, sgn_succ]
  generalize detR _ = d
  have : sgn k * r k * (sgn l * r (l + 1) * d) = sgn l * r (l + 1) * (sgn k * r k * d) := by
    ac_rfl
  rw [this, Int.neg_mul, Int.neg_mul]
  omega
theorem det_twice1 : ∀ (pre post : List Rw) (r : Rw), detR (pre ++ r :: r :: post) = 0
  | [], post, r => det_twice0 r post
  | p :: pre, post, r => by
    simp only [List.cons_append]
    rw [detR_cons]
    refine sumN_zero _ fun k _ => ?_
    simp only [List.map_append, List.map_cons]
    rw [det_twice1 (pre.map (dropc k)), Int.mul_zero]
termination_by pre => pre.length
decreasing_by simp
theorem det_swap (pre post : List Rw) (a b : Rw) : detR (pre ++ a :: b :: post) = - detR (pre ++ b :: a :: post) := by
  have h := det_twice1 pre post (rAdd a b)
  rw [det_add, show pre ++ a :: rAdd a b :: post = (pre ++ [a]) ++ rAdd a b :: post by simp, det_add, show pre ++ b :: rAdd a b :: post = (pre ++ [b]) ++ rAdd a b :: post by simp, det_add] at h
  simp only [List.append_assoc, List.cons_append, List.nil_append] at h
  rw [det_twice1, det_twice1] at h
  omega
theorem det_twice : ∀ (mid pre post : List Rw) (r : Rw), detR (pre ++ r :: (mid ++ r :: post)) = 0
  | [], pre, post, r => det_twice1 pre post r
  | m :: mid, pre, post, r => by
    simp only [List.cons_append]
    rw [det_swap, show pre ++ m :: r :: (mid ++ r :: post) = (pre ++ [m]) ++ r :: (mid ++ r :: post) by simp, det_twice mid]
    rfl
theorem det_twice' {pre post : List Rw} {r : Rw} (h : r ∈ pre ++ post) : detR (pre ++ r :: post) = 0 := by
  rcases List.mem_append.mp h with h | h
  · obtain ⟨a, b, rfl⟩ := List.append_of_mem h
    rw [List.append_assoc, List.cons_append]
    exact det_twice b a post r
  · obtain ⟨a, b, rfl⟩ := List.append_of_mem h
    exact det_twice a pre b r
theorem det_front : ∀ (pre post : List Rw) (r : Rw), detR (pre ++ r :: post) = sgn pre.length * detR (r :: (pre ++ post))
  | [], post, r => by show _ = sgn 0 * _; rw [show sgn 0 = 1 from rfl, Int.one_mul]; rfl
  | p :: pre, post, r => by
    have hr : ∀ k, detR ((pre ++ r :: post).map (dropc k)) = sgn pre.length * detR ((r :: (pre ++ post)).map (dropc k)) := fun k => by
      rw [List.map_append, List.map_cons, det_front, List.length_map, List.map_cons, List.map_append]
    have h2 : detR (p :: r :: (pre ++ post)) = - detR (r :: p :: (pre ++ post)) := det_swap [] (pre ++ post) p r
    simp only [List.cons_append]
    rw [detR_cons, List.length_cons, sgn_succ, Int.neg_mul, ← Int.mul_neg, ← h2, detR_cons, ← sumN_mul]
    rw [show (pre ++ r :: post).length = (r :: (pre ++ post)).length by simp; omega]
    refine sumN_congr fun k _ => ?_
    rw [hr]
    ac_rfl
termination_by pre => pre.length
decreasing_by simp
/-- a row put to another one -/
theorem det_put {pre post : List Rw} {r s : Rw} (c : Int) (h : s ∈ pre ++ post) : detR (pre ++ rAdd r (rMul c s) :: post) = detR (pre ++ r :: post) := by
  rw [det_add, det_mul, det_twice' h, Int.mul_zero, Int.add_zero]
/-- a column of noughts -/
theorem det_col0 : ∀ (rs : List Rw) (c : Nat), c < rs.length → (∀ r ∈ rs, r c = 0) → detR rs = 0
  | [], c, h, _ => by simp at h
  | r :: rs, c, h, hz => by
    rw [detR_cons]
    refine sumN_zero _ fun k hk => ?_
    by_cases e : k = c
    · subst e
      rw [hz r List.mem_cons_self, Int.mul_zero, Int.zero_mul]
    · have : detR (rs.map (dropc k)) = 0 := by
        by_cases e2 : c < k
        · refine det_col0 _ c (by rw [List.length_map]; omega) fun x hx => ?_
          obtain ⟨y, hy, rfl⟩ := List.mem_map.mp hx
          unfold dropc
          rw [if_pos e2]
          exact hz y (List.mem_cons_of_mem _ hy)
        · rw [List.length_cons] at h
          refine det_col0 _ (c - 1) (by rw [List.length_map]; omega) fun x hx => ?_
          obtain ⟨y, hy, rfl⟩ := List.mem_map.mp hx
          unfold dropc
          rw [if_neg (by omega), show c - 1 + 1 = c by omega]
          exact hz y (List.mem_cons_of_mem _ hy)
      rw [this, Int.mul_zero]
termination_by rs => rs.length
/-- the first column has nothing but at the top -/
theorem det_top (r : Rw) (rs : List Rw) (hz : ∀ x ∈ rs, x 0 = 0) : detR (r :: rs) = r 0 * detR (rs.map (dropc 0)) := by
  rw [detR_cons, sumN_first]
  rw [show sgn 0 = 1 from rfl, Int.one_mul]
  rw [sumN_zero rs.length fun k hk => ?_, Int.add_zero]
  have : detR (rs.map (dropc (k + 1))) = 0 := by
    refine det_col0 _ 0 (by rw [List.length_map]; omega) fun x hx => ?_
    obtain ⟨y, hy, rfl⟩ := List.mem_map.mp hx
    unfold dropc
    rw [if_pos (by omega)]
    exact hz y hy
  rw [this, Int.mul_zero]
/-- how great -/
def facN : Nat → Nat
  | 0 => 1
  | n + 1 => (n + 1) * facN n
theorem det_abs {B : Nat} : ∀ (n : Nat) (rs : List Rw), rs.length = n → (∀ r ∈ rs, ∀ j, j < n → (r j).natAbs ≤ B) → (detR rs).natAbs ≤ facN n * B ^ n
  | 0, [], _, _ => Nat.le_refl 1
  | n + 1, r :: rs, hl, h => by
    rw [List.length_cons] at hl
    have hl' : rs.length = n := by omega
    rw [detR_cons, hl']
    have : ∀ k, k < n + 1 → (sgn k * r k * detR (rs.map (dropc k))).natAbs ≤ facN n * B ^ (n + 1) := fun k hk => by
      have h1 := det_abs n (rs.map (dropc k)) (by rw [List.length_map]; exact hl') fun x hx j hj => by
        obtain ⟨y, hy, rfl⟩ := List.mem_map.mp hx
        unfold dropc
        split
        · exact h y (List.mem_cons_of_mem _ hy) j (by omega)
        · exact h y (List.mem_cons_of_mem _ hy) (j + 1) (by omega)
      have h2 := h r List.mem_cons_self k hk
      rw [Int.natAbs_mul, Int.natAbs_mul, sgn_abs, Nat.one_mul, Nat.pow_succ]
      calc _ ≤ B * (facN n * B ^ n) := Nat.mul_le_mul h2 h1
        _ = facN n * (B ^ n * B) := by rw [Nat.mul_left_comm, Nat.mul_comm B]
    refine Nat.le_trans (sumN_abs this) ?_
    rw [facN, Nat.mul_assoc]
    exact Nat.le_refl _
theorem det_congr : ∀ (n : Nat) (rs ss : List Rw), rs.length = n → ss.length = n → (∀ i, i < n → ∀ j, j < n → (rs.getD i fun _ => 0) j = (ss.getD i fun _ => 0) j) → detR rs = detR ss
  | 0, [], [], _, _, _ => rfl
  | n + 1, r :: rs, s :: ss, h1, h2, h => by
    rw [List.length_cons] at h1 h2
    rw [detR_cons, detR_cons, show rs.length = n by omega, show ss.length = n by omega]
    refine sumN_congr fun k hk => ?_
    rw [show r k = s k from h 0 (by omega) k hk]
    congr 1
    refine det_congr n _ _ (by rw [List.length_map]; omega) (by rw [List.length_map]; omega) fun i hi j hj => ?_
    have hq := fun j hj => h (i + 1) (by omega) j hj
    simp only [List.getD_cons_succ] at hq
    have g1 : ∀ (l : List Rw), i < l.length → (l.map (dropc k)).getD i (fun _ => 0) = dropc k (l.getD i fun _ => 0) := fun l hl => by
      simp [List.getD, List.getElem?_map, hl]
    rw [g1 rs (by omega), g1 ss (by omega)]
    unfold dropc
    split
    · exact hq j (by omega)
    · exact hq (j + 1) (by omega)
end Pd
set_option linter.all false
/-! Ld2: rows that fall apart (plain). -/
namespace Pd
def cmb (P : List (Int × Rw)) (j : Nat) : Int := (P.map fun p => p.1 * p.2 j).sum
theorem cmb_nil (j : Nat) : cmb [] j = 0 := rfl
theorem cmb_cons (p : Int × Rw) (P : List (Int × Rw)) (j : Nat) : cmb (p :: P) j = p.1 * p.2 j + cmb P j := by
  unfold cmb; rw [List.map_cons, List.sum_cons]
theorem cmb_mul (a : Int) (j : Nat) : ∀ P : List (Int × Rw), cmb (P.map fun p => (a * p.1, p.2)) j = a * cmb P j
  | [] => by simp [cmb]
  | p :: P => by rw [List.map_cons, cmb_cons, cmb_cons, cmb_mul a j P, Int.mul_add, Int.mul_assoc]
/-- some multiples of the rows, not all nought, come to noughts -/
def Dep (w : Nat) (rows : List Rw) : Prop := ∃ P : List (Int × Rw), P.map (·.2) = rows ∧ (∃ p ∈ P, p.1 ≠ 0) ∧ ∀ j, j < w → cmb P j = 0
theorem perm_lift {α β : Type} {f : α → β} {l l' : List β} (h : l.Perm l') : ∀ P : List α, P.map f = l → ∃ P', P.Perm P' ∧ P'.map f = l' := by
  induction h with
  | nil => exact fun P h => ⟨P, .refl _, h⟩
  | cons x _ ih =>
    intro P h
    cases P with
    | nil => cases h
    | cons p P =>
      obtain ⟨rfl, h2⟩ := List.cons.inj h
      obtain ⟨P', h3, h4⟩ := ih P h2
      exact ⟨p :: P', h3.cons p, by rw [List.map_cons, h4]⟩
  | swap x y l =>
    intro P h
    cases P with
    | nil => cases h
    | cons p P =>
      cases P with
      | nil => cases (List.cons.inj h).2
      | cons q P =>
        obtain ⟨rfl, h2⟩ := List.cons.inj h
        obtain ⟨rfl, rfl⟩ := List.cons.inj h2
        exact ⟨q :: p :: P, .swap q p P, rfl⟩
  | trans _ _ ih1 ih2 =>
    intro P h
    obtain ⟨P1, h1, h2⟩ := ih1 P h
    obtain ⟨P2, h3, h4⟩ := ih2 P1 h2
    exact ⟨P2, h1.trans h3, h4⟩
theorem sum_perm {l m : List Int} (h : l.Perm m) : l.sum = m.sum := by
  induction h with
  | nil => rfl
  | cons x _ ih => rw [List.sum_cons, List.sum_cons, ih]
  | swap x y l => simp only [List.sum_cons]; omega
  | trans _ _ h1 h2 => exact h1.trans h2
theorem cmb_perm {P Q : List (Int × Rw)} (h : P.Perm Q) (j : Nat) : cmb P j = cmb Q j := sum_perm (h.map _)
theorem Dep.perm {w : Nat} {l m : List Rw} (h : Dep w l) (p : l.Perm m) : Dep w m := by
  obtain ⟨P, h1, ⟨q, h2, h3⟩, h4⟩ := h
  obtain ⟨P', h5, h6⟩ := perm_lift p P h1
  exact ⟨P', h6, ⟨q, h5.mem_iff.mp h2, h3⟩, fun j hj => by rw [← cmb_perm h5 j]; exact h4 j hj⟩
theorem Dep.cons {w : Nat} {l : List Rw} (h : Dep w l) (r : Rw) : Dep w (r :: l) := by
  obtain ⟨P, h1, ⟨q, h2, h3⟩, h4⟩ := h
  exact ⟨(0, r) :: P, by rw [List.map_cons, h1], ⟨q, List.mem_cons_of_mem _ h2, h3⟩, fun j hj => by rw [cmb_cons, h4 j hj]; simp⟩
theorem Dep.append {w : Nat} {l : List Rw} (h : Dep w l) : ∀ m : List Rw, Dep w (m ++ l)
  | [] => h
  | r :: m => (h.append m).cons r
theorem dep_zero {w : Nat} {r : Rw} (l : List Rw) (h : ∀ j, j < w → r j = 0) : Dep w (r :: l) :=
  ⟨(1, r) :: l.map fun x => (0, x), by simp [Function.comp_def], ⟨_, List.mem_cons_self, by simp⟩, fun j hj => by
    have : ∀ m : List Rw, cmb (m.map fun x => (0, x)) j = 0 := fun m => by
      induction m with
      | nil => rfl
      | cons x m ih => rw [List.map_cons, cmb_cons, ih]; simp
    rw [cmb_cons, this]
    show 1 * r j + 0 = 0
    rw [h j hj]; rfl⟩
theorem Dep.more {w v : Nat} {l : List Rw} (h : Dep w l) (hz : ∀ r ∈ l, ∀ j, w ≤ j → j < v → r j = 0) : Dep v l := by
  obtain ⟨P, h1, h2, h4⟩ := h
  refine ⟨P, h1, h2, fun j hj => ?_⟩
  by_cases e : j < w
  · exact h4 j e
  · have : ∀ Q : List (Int × Rw), (∀ q ∈ Q, q.2 j = 0) → cmb Q j = 0 := fun Q => by
      induction Q with
      | nil => exact fun _ => rfl
      | cons q Q ih =>
        intro hq
        rw [cmb_cons, hq q List.mem_cons_self, ih fun x hx => hq x (List.mem_cons_of_mem _ hx)]
        simp
    exact this P fun q hq => hz q.2 (by rw [← h1]; exact List.mem_map_of_mem hq) j (by omega) hj
/-- a row put otherwise by another one -/
theorem dep_step {w : Nat} {r r' f : Rw} {a b d : Int} {l : List Rw} (ha : a ≠ 0) (hd : d ≠ 0) (h : ∀ j, j < w → d * r' j = a * r j + b * f j) (hp : Dep w (r :: f :: l)) : Dep w (r' :: f :: l) := by
  obtain ⟨P, h1, ⟨q, h2, h3⟩, h4⟩ := hp
  cases P with
  | nil => cases h1
  | cons p P =>
    cases P with
    | nil => simp at h1
    | cons p2 P =>
      simp only [List.map_cons, List.cons.injEq] at h1
      obtain ⟨rfl, rfl, rfl⟩ := h1
      refine ⟨(p.1 * d, r') :: (a * p2.1 - p.1 * b, p2.2) :: P.map fun q => (a * q.1, q.2), ?_, ?_, fun j hj => ?_⟩
      · simp [Function.comp_def]
      · by_cases e : p.1 = 0
        · rcases List.mem_cons.mp h2 with rfl | h2
          · exact absurd e h3
          · rcases List.mem_cons.mp h2 with rfl | h2
            · refine ⟨_, List.mem_cons_of_mem _ List.mem_cons_self, ?_⟩
              show a * q.1 - p.1 * b ≠ 0
              rw [e, Int.zero_mul, Int.sub_zero]
              exact Int.mul_ne_zero ha h3
            · exact ⟨_, List.mem_cons_of_mem _ (List.mem_cons_of_mem _ (List.mem_map_of_mem h2)), Int.mul_ne_zero ha h3⟩
        · exact ⟨_, List.mem_cons_self, Int.mul_ne_zero e hd⟩
      · have h5 := h4 j hj
        rw [cmb_cons, cmb_cons] at h5
        rw [cmb_cons, cmb_cons, cmb_mul]
        dsimp only
        rw [Int.mul_assoc, h j hj]
        have h6 : a * (p.1 * p.2 j + (p2.1 * p2.2 j + cmb P j)) = 0 := by rw [h5, Int.mul_zero]
        rw [← h6]
        simp only [Int.mul_add, Int.sub_mul]
        have e1 : p.1 * (a * p.2 j) = a * (p.1 * p.2 j) := by ac_rfl
        have e2 : p.1 * (b * p2.2 j) = p.1 * b * p2.2 j := by ac_rfl
        have e3 : a * p2.1 * p2.2 j = a * (p2.1 * p2.2 j) := by ac_rfl
        rw [e1, e2, e3]
        omega
theorem dep_put {w : Nat} {r r' f : Rw} {a b d : Int} {l : List Rw} (ha : a ≠ 0) (hd : d ≠ 0) (h : ∀ j, j < w → d * r' j = a * r j + b * f j) : Dep w (r :: f :: l) ↔ Dep w (r' :: f :: l) :=
  ⟨dep_step ha hd h, dep_step (b := - b) hd ha fun j hj => by rw [h j hj, Int.neg_mul]; omega⟩
/-- how rows are cleared by a first one -/
inductive Clr (w : Nat) (f : Rw) : List Rw → List Rw → Prop
  | nil : Clr w f [] []
  | cons {r r' : Rw} {l l' : List Rw} {a b d : Int} : a ≠ 0 → d ≠ 0 → (∀ j, j < w → d * r' j = a * r j + b * f j) → Clr w f l l' → Clr w f (r :: l) (r' :: l')
theorem Clr.length {w : Nat} {f : Rw} {l l' : List Rw} (h : Clr w f l l') : l.length = l'.length := by
  induction h with
  | nil => rfl
  | cons _ _ _ _ ih => rw [List.length_cons, List.length_cons, ih]
theorem dep_clr {w : Nat} {f : Rw} {l l' : List Rw} (h : Clr w f l l') : ∀ m : List Rw, Dep w (f :: (l ++ m)) ↔ Dep w (f :: (l' ++ m)) := by
  induction h with
  | nil => exact fun m => Iff.rfl
  | @cons r r' l l' a b d ha hd hr _ ih =>
    intro m
    have p1 : ∀ (x : Rw) (l : List Rw), (f :: (x :: l ++ m)).Perm (x :: f :: (l ++ m)) := fun x l => .swap _ _ _
    have p2 : ∀ (x : Rw) (l : List Rw), (x :: f :: (l ++ m)).Perm (f :: (l ++ (x :: m))) := fun x l => (List.Perm.swap _ _ _).trans (.cons f List.perm_middle.symm)
    constructor
    · intro h
      have h := (dep_put ha hd hr).mp (h.perm (p1 r l))
      exact (((ih _).mp (h.perm (p2 r' l))).perm (p2 r' l').symm).perm (p1 r' l').symm
    · intro h
      have h := ((ih _).mpr ((h.perm (p1 r' l')).perm (p2 r' l'))).perm (p2 r' l).symm
      exact ((dep_put ha hd hr).mpr h).perm (p1 r l).symm
theorem dep_clr0 {w : Nat} {f : Rw} {l l' : List Rw} (h : Clr w f l l') : Dep w (f :: l) ↔ Dep w (f :: l') := by
  have := dep_clr h []
  rwa [List.append_nil, List.append_nil] at this
/-- cleared plainly -/
def clr1 (f : Rw) (c : Nat) (r : Rw) : Rw := fun j => f c * r j - r c * f j
theorem clr_all {w : Nat} {f : Rw} {c : Nat} (hf : f c ≠ 0) : ∀ l : List Rw, Clr w f l (l.map (clr1 f c))
  | [] => .nil
  | r :: l => .cons (a := f c) (b := - r c) (d := 1) hf (by decide) (fun j _ => by unfold clr1; rw [Int.one_mul, Int.neg_mul]; omega) (clr_all hf l)
theorem clr1_zero (f : Rw) (c : Nat) (r : Rw) : clr1 f c r c = 0 := by unfold clr1; rw [Int.mul_comm]; omega
/-- more rows than columns -/
theorem pigeon : ∀ (w : Nat) (l : List Rw), w < l.length → Dep w l
  | 0, r :: l, _ => dep_zero l fun j hj => by omega
  | w + 1, l, h => by
    by_cases hz : ∀ r ∈ l, r w = 0
    · refine (pigeon w l (by omega)).more fun r hr j h1 h2 => ?_
      rw [show j = w by omega]
      exact hz r hr
    · obtain ⟨f, hf⟩ := Classical.not_forall.mp hz
      obtain ⟨hf, hne⟩ := Classical.not_imp.mp hf
      obtain ⟨a, b, rfl⟩ := List.append_of_mem hf
      have p : (a ++ f :: b).Perm (f :: (a ++ b)) := List.perm_middle
      refine Dep.perm ?_ p.symm
      refine (dep_clr0 (clr_all hne _)).mpr ?_
      refine Dep.cons ?_ f
      refine (pigeon w _ ?_).more fun r hr j h1 h2 => ?_
      · rw [List.length_map]
        simp at h ⊢
        omega
      · obtain ⟨x, _, rfl⟩ := List.mem_map.mp hr
        rw [show j = w by omega]
        exact clr1_zero f w x
/-! what is spanned is nought just where rows fall apart -/
theorem det_zero_row (pre post : List Rw) {z : Rw} (h : ∀ j, j < (pre ++ z :: post).length → z j = 0) : detR (pre ++ z :: post) = 0 := by
  have e : detR (pre ++ z :: post) = detR (pre ++ rMul 0 z :: post) := det_congr _ _ _ rfl (by simp) fun i hi j hj => by
    by_cases e : i = pre.length
    · subst e
      simp only [List.getD, List.getElem?_append_right (Nat.le_refl _), Nat.sub_self, List.getElem?_cons_zero, Option.getD_some]
      rw [h j hj]
      unfold rMul
      rw [Int.zero_mul]
    · by_cases e2 : i < pre.length
      · simp [List.getD, List.getElem?_append_left e2]
      · obtain ⟨q, hq⟩ : ∃ q, i = pre.length + (q + 1) := ⟨i - pre.length - 1, by omega⟩
        subst hq
        simp [List.getD, List.getElem?_append_right]
  rw [e, det_mul, Int.zero_mul]
theorem det_comb (pre post : List Rw) (r : Rw) : ∀ Q : List (Int × Rw), (∀ q ∈ Q, q.2 ∈ pre ++ post) → detR (pre ++ (fun j => r j + cmb Q j) :: post) = detR (pre ++ r :: post)
  | [], _ => by
    have : (fun j => r j + cmb [] j) = r := by funext j; rw [cmb_nil, Int.add_zero]
    rw [this]
  | q :: Q, h => by
    have e : (fun j => r j + cmb (q :: Q) j) = rAdd (fun j => r j + cmb Q j) (rMul q.1 q.2) := by
      funext j
      rw [cmb_cons]
      unfold rAdd rMul
      dsimp only
      omega
    rw [e, det_put q.1 (h q List.mem_cons_self), det_comb pre post r Q fun x hx => h x (List.mem_cons_of_mem _ hx)]
theorem det_of_dep {l : List Rw} (h : Dep l.length l) : detR l = 0 := by
  obtain ⟨P, h1, ⟨q, h2, h3⟩, h4⟩ := h
  obtain ⟨a, b, rfl⟩ := List.append_of_mem h2
  rw [List.map_append, List.map_cons] at h1
  have hl := h1
  subst hl
  have e1 := det_comb (a.map (·.2)) (b.map (·.2)) (rMul q.1 q.2) (a ++ b) fun x hx => by
    rcases List.mem_append.mp hx with hx | hx
    · exact List.mem_append.mpr (.inl (List.mem_map_of_mem hx))
    · exact List.mem_append.mpr (.inr (List.mem_map_of_mem hx))
  rw [det_mul] at e1
  have e2 := det_zero_row (a.map (·.2)) (b.map (·.2)) (z := fun j => rMul q.1 q.2 j + cmb (a ++ b) j) fun j hj => by
    have := h4 j (by simpa using hj)
    rw [cmb_perm List.perm_middle, cmb_cons] at this
    exact this
  rw [e2] at e1
  rcases Int.mul_eq_zero.mp e1.symm with z | z
  · exact absurd z h3
  · exact z
theorem det_clr {f : Rw} {c : Nat} : ∀ (pre post : List Rw), detR (f :: (pre ++ post.map (clr1 f c))) = f c ^ post.length * detR (f :: (pre ++ post))
  | pre, [] => by simp
  | pre, r :: post => by
    have e : clr1 f c r = rAdd (rMul (f c) r) (rMul (- r c) f) := by
      funext j
      unfold clr1 rAdd rMul
      rw [Int.neg_mul]
      omega
    have e1 : detR (f :: (pre ++ (r :: post).map (clr1 f c))) = detR ((f :: pre) ++ rAdd (rMul (f c) r) (rMul (- r c) f) :: post.map (clr1 f c)) := by rw [List.map_cons, e]; rfl
    rw [e1, det_put _ (by simp), det_mul, show f :: pre ++ r :: post.map (clr1 f c) = f :: ((pre ++ [r]) ++ post.map (clr1 f c)) by simp, det_clr (pre ++ [r]) post, List.length_cons, Int.pow_succ]
    simp only [List.append_assoc, List.cons_append, List.nil_append]
    ac_rfl
theorem dep_dropc {w : Nat} {l : List Rw} (h : Dep w (l.map (dropc 0))) (hz : ∀ r ∈ l, r 0 = 0) : Dep (w + 1) l := by
  obtain ⟨P, h1, ⟨q, h2, h3⟩, h4⟩ := h
  have : ∀ (P : List (Int × Rw)) (l : List Rw), P.map (·.2) = l.map (dropc 0) → (∀ r ∈ l, r 0 = 0) → ∃ Q : List (Int × Rw), Q.map (·.2) = l ∧ Q.map (·.1) = P.map (·.1) ∧ ∀ j, cmb Q (j + 1) = cmb P j ∧ cmb Q 0 = 0 := by
    intro P
    induction P with
    | nil =>
      intro l h _
      have : l = [] := by simpa using h.symm
      subst this
      exact ⟨[], rfl, rfl, fun j => ⟨rfl, rfl⟩⟩
    | cons p P ih =>
      intro l h hz
      cases l with
      | nil => cases h
      | cons r l =>
        obtain ⟨e1, e2⟩ := List.cons.inj h
        dsimp only at e1
        obtain ⟨Q, q1, q2, q3⟩ := ih l e2 fun x hx => hz x (List.mem_cons_of_mem _ hx)
        refine ⟨(p.1, r) :: Q, by rw [List.map_cons, q1], by rw [List.map_cons, List.map_cons, q2], fun j => ⟨?_, ?_⟩⟩
        · rw [cmb_cons, cmb_cons, (q3 j).1, e1]
          dsimp only
          unfold dropc
          rw [if_neg (by omega)]
        · rw [cmb_cons, (q3 j).2]
          dsimp only
          rw [hz r List.mem_cons_self]
          simp
  obtain ⟨Q, q1, q2, q3⟩ := this P l h1 hz
  have hm : q.1 ∈ Q.map (·.1) := by rw [q2]; exact List.mem_map_of_mem h2
  obtain ⟨q', hq', e⟩ := List.mem_map.mp hm
  refine ⟨Q, q1, ⟨q', hq', by rw [e]; exact h3⟩, fun j hj => ?_⟩
  cases j with
  | zero => exact (q3 0).2
  | succ j => rw [(q3 j).1]; exact h4 j (by omega)
theorem dep_of_det : ∀ (n : Nat) (l : List Rw), l.length = n → detR l = 0 → Dep n l
  | 0, [], _, h => by cases h
  | n + 1, l, hl, h => by
    by_cases hz : ∀ r ∈ l, r 0 = 0
    · have := pigeon n (l.map (dropc 0)) (by rw [List.length_map]; omega)
      exact dep_dropc this hz
    · obtain ⟨f, hf⟩ := Classical.not_forall.mp hz
      obtain ⟨hf, hne⟩ := Classical.not_imp.mp hf
      obtain ⟨a, b, rfl⟩ := List.append_of_mem hf
      have p : (a ++ f :: b).Perm (f :: (a ++ b)) := List.perm_middle
      refine Dep.perm ?_ p.symm
      rw [det_front] at h
      have h0 : detR (f :: (a ++ b)) = 0 := by
        rcases Int.mul_eq_zero.mp h with z | z
        · have := sgn_abs a.length
          rw [z] at this
          cases this
        · exact z
      have h1 := det_clr (f := f) (c := 0) [] (a ++ b)
      rw [List.nil_append, List.nil_append, h0, Int.mul_zero, det_top f _ fun x hx => by
        obtain ⟨y, _, rfl⟩ := List.mem_map.mp hx
        exact clr1_zero f 0 y] at h1
      rcases Int.mul_eq_zero.mp h1 with z | z
      · exact absurd z hne
      · refine (dep_clr0 (clr_all hne _)).mpr ?_
        refine Dep.cons ?_ f
        refine dep_dropc (dep_of_det n _ ?_ z) fun x hx => ?_
        · simp at hl ⊢
          omega
        · obtain ⟨y, _, rfl⟩ := List.mem_map.mp hx
          exact clr1_zero f 0 y
theorem det_iff (l : List Rw) : detR l = 0 ↔ Dep l.length l := ⟨dep_of_det _ l rfl, det_of_dep⟩
end Pd
set_option linter.all false
/-! Ld3: stairs of rows, plainly. -/
namespace Pd
def rowR (r : List Int) : Rw := fun j => r.getD j 0
theorem rowR_out {r : List Int} {j : Nat} (h : r.length ≤ j) : rowR r j = 0 := by
  unfold rowR
  rw [List.getD, List.getElem?_eq_none h]; rfl
theorem rowR_in {r : List Int} {j : Nat} (h : j < r.length) : rowR r j = r[j] := by
  unfold rowR
  rw [List.getD, List.getElem?_eq_getElem h]; rfl
theorem rowR_mem {r : List Int} {x : Int} (h : x ∈ r) : ∃ j, j < r.length ∧ rowR r j = x := by
  obtain ⟨j, hj, e⟩ := List.mem_iff_getElem.mp h
  exact ⟨j, hj, by rw [rowR_in hj, e]⟩
/-! greatest divisors -/
theorem gF_goes : ∀ {ns : List Int} {f : Int}, gF f ns ∣ f ∧ ∀ x ∈ ns, gF f ns ∣ x
  | [], f => ⟨Int.dvd_refl _, fun x hx => by cases hx⟩
  | n :: ns, f => by
    obtain ⟨h1, h2⟩ := gF_goes (ns := ns) (f := gI f n.natAbs)
    refine ⟨Int.dvd_trans h1 (Int.gcd_dvd_left ..), fun x hx => ?_⟩
    rcases List.mem_cons.mp hx with rfl | hx
    · refine Int.dvd_trans h1 ?_
      have : gI f x.natAbs ∣ (x.natAbs : Int) := Int.gcd_dvd_right ..
      exact Int.dvd_trans this (Int.natAbs_dvd_self ..)
    · exact h2 x hx
theorem dvd_gF {e : Int} : ∀ {ns : List Int} {f : Int}, e ∣ f → (∀ x ∈ ns, e ∣ x) → e ∣ gF f ns
  | [], _, h, _ => h
  | n :: ns, f, h, hx => dvd_gF (ns := ns) (f := gI f n.natAbs) (Int.dvd_coe_gcd h (Int.dvd_natAbs.mpr (hx n List.mem_cons_self))) fun x hm => hx x (List.mem_cons_of_mem _ hm)
theorem gF_mul (m : Nat) : ∀ {ns : List Int} {f : Int}, gF (m * f) (ns.map fun x => (m : Int) * x) = m * gF f ns
  | [], f => rfl
  | n :: ns, f => by
    show gF (gI ((m : Int) * f) ((m : Int) * n).natAbs) (ns.map fun x => (m : Int) * x) = m * gF (gI f n.natAbs) ns
    rw [← gF_mul m (ns := ns)]
    congr 1
    unfold gI
    rw [Int.natAbs_mul, Int.natAbs_natCast, Int.natCast_mul, Int.gcd_mul_left, Int.natAbs_natCast, Int.natCast_mul]
theorem prim_dvd {r : List Int} (h : gF 0 r = 1) {e m : Int} (hm : ∀ x ∈ r, e ∣ m * x) : e ∣ m := by
  have h1 : e ∣ gF ((m.natAbs : Int) * 0) (r.map fun x => (m.natAbs : Int) * x) := dvd_gF (by rw [Int.mul_zero]; exact Int.dvd_zero ..) fun x hx => by
    obtain ⟨y, hy, rfl⟩ := List.mem_map.mp hx
    have := hm y hy
    rcases Int.natAbs_eq m with z | z
    · rw [← z]; exact this
    · have e2 : (m.natAbs : Int) = - m := by omega
      rw [e2, Int.neg_mul]
      exact Int.dvd_neg.mpr this
  rw [gF_mul, h, Int.mul_one] at h1
  exact Int.dvd_natAbs.mp h1
def lessZ (r : List Int) : List Int := if 1 < gF 0 r then r.map fun x => x.fdiv (gF 0 r) else r
theorem lessZ_len (r : List Int) : (lessZ r).length = r.length := by unfold lessZ; split <;> simp
theorem fdiv_dvd {x g : Int} (h : g ∣ x) (hg : g ≠ 0) : g * x.fdiv g = x := by
  obtain ⟨c, rfl⟩ := h
  rw [Int.mul_fdiv_cancel_left c hg]
theorem rowR_map {r : List Int} {f : Int → Int} (h0 : f 0 = 0) (j : Nat) : rowR (r.map f) j = f (rowR r j) := by
  by_cases h : j < r.length
  · rw [rowR_in (by simpa using h), rowR_in h, List.getElem_map]
  · rw [rowR_out (by simpa using h), rowR_out (by omega), h0]
theorem lessZ_ok (r : List Int) : ∃ d : Int, 1 ≤ d ∧ ∀ j, d * rowR (lessZ r) j = rowR r j := by
  unfold lessZ
  split
  · rename_i h
    refine ⟨gF 0 r, by omega, fun j => ?_⟩
    rw [rowR_map (f := fun x => x.fdiv (gF 0 r)) (Int.zero_fdiv _)]
    refine fdiv_dvd ?_ (by omega)
    by_cases e : j < r.length
    · rw [rowR_in e]
      exact (gF_goes (f := 0)).2 _ (List.getElem_mem e)
    · rw [rowR_out (by omega)]
      exact Int.dvd_zero ..
  · exact ⟨1, by omega, fun j => Int.one_mul _⟩
theorem lessZ_prim (r : List Int) : gF 0 (lessZ r) = 1 ∨ ∀ x ∈ lessZ r, x = 0 := by
  by_cases h : 1 < gF 0 r
  · left
    have e : lessZ r = r.map fun x => x.fdiv (gF 0 r) := if_pos h
    have hg : gF 0 r = ((gF 0 r).natAbs : Int) := by omega
    have h1 : gF (((gF 0 r).natAbs : Int) * 0) ((lessZ r).map fun x => ((gF 0 r).natAbs : Int) * x) = (gF 0 r).natAbs * gF 0 (lessZ r) := gF_mul _
    have h2 : (lessZ r).map (fun x => ((gF 0 r).natAbs : Int) * x) = r := by
      rw [e, List.map_map, ← hg]
      conv => rhs; rw [← List.map_id r]
      refine List.map_congr_left fun x hx => ?_
      exact fdiv_dvd ((gF_goes (f := 0)).2 x hx) (by omega)
    rw [h2, Int.mul_zero, ← hg] at h1
    have h3 : gF 0 r * gF 0 (lessZ r) = gF 0 r * 1 := by rw [← h1, Int.mul_one]
    exact Int.eq_of_mul_eq_mul_left (by omega) h3
  · have e : lessZ r = r := if_neg h
    rw [e]
    have h0 : 0 ≤ gF 0 r := gF_nn (Int.le_refl 0)
    by_cases h1 : gF 0 r = 1
    · exact .inl h1
    · right
      have h2 : gF 0 r = 0 := by omega
      intro x hx
      have := (gF_goes (ns := r) (f := 0)).2 x hx
      rw [h2] at this
      exact Int.zero_dvd.mp this
def clearZ (r f : List Int) (p : Nat) : List Int := lessZ ((r.zip f).map fun x => rowR f p * x.1 - rowR r p * x.2)
theorem clearZ_len {r f : List Int} (p : Nat) (h : r.length = f.length) : (clearZ r f p).length = f.length := by
  unfold clearZ
  rw [lessZ_len, List.length_map, List.length_zip, h, Nat.min_self]
theorem clearZ_ok {r f : List Int} (p : Nat) (h : r.length = f.length) : ∃ d : Int, 1 ≤ d ∧ ∀ j, d * rowR (clearZ r f p) j = rowR f p * rowR r j + (- rowR r p) * rowR f j := by
  obtain ⟨d, h1, h2⟩ := lessZ_ok ((r.zip f).map fun x => rowR f p * x.1 - rowR r p * x.2)
  refine ⟨d, h1, fun j => ?_⟩
  unfold clearZ
  rw [h2 j]
  by_cases e : j < f.length
  · rw [rowR_in (by rw [List.length_map, List.length_zip, h, Nat.min_self]; exact e), List.getElem_map, List.getElem_zip, rowR_in (show j < r.length by omega), rowR_in e, Int.neg_mul]
    dsimp only
    omega
  · rw [rowR_out (by rw [List.length_map, List.length_zip, h, Nat.min_self]; omega), rowR_out (r := r) (by omega), rowR_out (r := f) (j := j) (by omega)]
    simp
theorem clearZ_zero {r f : List Int} (p : Nat) (h : r.length = f.length) {j : Nat} (h1 : rowR r j = 0) (h2 : rowR f j = 0) : rowR (clearZ r f p) j = 0 := by
  obtain ⟨d, h3, h4⟩ := clearZ_ok p h
  have := h4 j
  rw [h1, h2, Int.mul_zero, Int.mul_zero] at this
  rcases Int.mul_eq_zero.mp this with z | z
  · omega
  · exact z
theorem clearZ_at {r f : List Int} (p : Nat) (h : r.length = f.length) : rowR (clearZ r f p) p = 0 := by
  obtain ⟨d, h3, h4⟩ := clearZ_ok p h
  have := h4 p
  rw [Int.neg_mul, Int.mul_comm (rowR r p)] at this
  rcases Int.mul_eq_zero.mp (show d * rowR (clearZ r f p) p = 0 by omega) with z | z
  · omega
  · exact z
/-- the first row with something at a place, and the others -/
def pickZ (p : Nat) : List (List Int) → Option (List Int × List (List Int))
  | [] => none
  | r :: l => if rowR r p ≠ 0 then some (r, l) else (pickZ p l).map fun q => (q.1, r :: q.2)
theorem pick_none {p : Nat} : ∀ {l : List (List Int)}, pickZ p l = none → ∀ r ∈ l, rowR r p = 0
  | [], _, r, h => by cases h
  | x :: l, h, r, hr => by
    unfold pickZ at h
    split at h
    · cases h
    · rename_i hx
      rcases List.mem_cons.mp hr with rfl | hr
      · exact Classical.not_not.mp hx
      · exact pick_none (by simpa using h) r hr
theorem pick_some {p : Nat} : ∀ {l : List (List Int)} {f : List Int} {m : List (List Int)}, pickZ p l = some (f, m) → rowR f p ≠ 0 ∧ l.Perm (f :: m)
  | [], _, _, h => by cases h
  | x :: l, f, m, h => by
    unfold pickZ at h
    split at h
    · rename_i hx
      obtain ⟨rfl, rfl⟩ : x = f ∧ l = m := by simpa using h
      exact ⟨hx, .refl _⟩
    · obtain ⟨q, h1, h2⟩ := Option.map_eq_some_iff.mp h
      obtain ⟨rfl, rfl⟩ : q.1 = f ∧ x :: q.2 = m := by simpa using h2
      obtain ⟨h3, h4⟩ := pick_some h1
      exact ⟨h3, (h4.cons x).trans (.swap _ _ _)⟩
def stairZ : Nat → Nat → List (List Int) → List (Nat × List Int)
  | _, 0, _ => []
  | p, k + 1, l => match pickZ p l with
    | none => stairZ (p + 1) k l
    | some (f, m) => (p, f) :: stairZ (p + 1) k (m.map fun r => clearZ r f p)
theorem clr_map {W n p : Nat} {f : List Int} (hf : f.length = n) (hp : rowR f p ≠ 0) : ∀ {m : List (List Int)}, (∀ r ∈ m, r.length = n) → Clr W (rowR f) (m.map rowR) ((m.map fun r => clearZ r f p).map rowR)
  | [], _ => .nil
  | r :: m, h => by
    obtain ⟨d, h1, h2⟩ := clearZ_ok p (show r.length = f.length by rw [hf]; exact h r List.mem_cons_self)
    exact .cons hp (by omega) (fun j _ => h2 j) (clr_map hf hp fun x hx => h x (List.mem_cons_of_mem _ hx))
theorem dep_pivot {w c : Nat} {f : Rw} {l : List Rw} (hc : c < w) (hf : f c ≠ 0) (hl : ∀ r ∈ l, r c = 0) : Dep w (f :: l) ↔ Dep w l := by
  refine ⟨fun ⟨P, h1, ⟨q, h2, h3⟩, h4⟩ => ?_, fun h => h.cons f⟩
  cases P with
  | nil => cases h1
  | cons p P =>
    simp only [List.map_cons, List.cons.injEq] at h1
    obtain ⟨rfl, rfl⟩ := h1
    have hz : ∀ Q : List (Int × Rw), (∀ q ∈ Q, q.2 c = 0) → cmb Q c = 0 := fun Q => by
      induction Q with
      | nil => exact fun _ => rfl
      | cons q Q ih =>
        intro hq
        rw [cmb_cons, hq q List.mem_cons_self, ih fun x hx => hq x (List.mem_cons_of_mem _ hx)]
        simp
    have h5 := h4 c hc
    rw [cmb_cons, hz P fun q hq => hl _ (List.mem_map_of_mem hq), Int.add_zero] at h5
    have h6 : p.1 = 0 := (Int.mul_eq_zero.mp h5).resolve_right hf
    refine ⟨P, rfl, ⟨q, ?_, h3⟩, fun j hj => ?_⟩
    · rcases List.mem_cons.mp h2 with rfl | h2
      · exact absurd h6 h3
      · exact h2
    · have := h4 j hj
      rw [cmb_cons, h6, Int.zero_mul, Int.zero_add] at this
      exact this
/-- rows fall apart just where there are fewer steps -/
theorem stair_dep {n : Nat} : ∀ (k p : Nat) (l : List (List Int)), (∀ r ∈ l, r.length = n) → (∀ r ∈ l, ∀ j, j < p → rowR r j = 0) → (Dep (p + k) (l.map rowR) ↔ (stairZ p k l).length < l.length)
  | 0, p, l, _, hz => by
    unfold stairZ
    cases l with
    | nil => exact ⟨fun ⟨P, h1, ⟨q, h2, _⟩, _⟩ => (by
        have : P = [] := by simpa using h1
        rw [this] at h2; cases h2), fun h => absurd h (by simp)⟩
    | cons r l => exact ⟨fun _ => by simp, fun _ => dep_zero _ fun j hj => hz r List.mem_cons_self j (by omega)⟩
  | k + 1, p, l, hl, hz => by
    unfold stairZ
    split
    · rename_i e
      have h0 := pick_none e
      have := stair_dep k (p + 1) l hl fun r hr j hj => by
        by_cases e2 : j = p
        · rw [e2]; exact h0 r hr
        · exact hz r hr j (by omega)
      rw [show p + (k + 1) = p + 1 + k by omega]
      exact this
    · rename_i f m e
      obtain ⟨hp, pm⟩ := pick_some e
      have hf : f.length = n := hl f (pm.mem_iff.mpr List.mem_cons_self)
      have hm : ∀ r ∈ m, r.length = n := fun r hr => hl r (pm.mem_iff.mpr (List.mem_cons_of_mem _ hr))
      have hfz := hz f (pm.mem_iff.mpr List.mem_cons_self)
      have hmz : ∀ r ∈ m, ∀ j, j < p → rowR r j = 0 := fun r hr => hz r (pm.mem_iff.mpr (List.mem_cons_of_mem _ hr))
      have hcz : ∀ r ∈ (m.map fun r => clearZ r f p), ∀ j, j < p + 1 → rowR r j = 0 := fun r hr j hj => by
        obtain ⟨x, hx, rfl⟩ := List.mem_map.mp hr
        by_cases e2 : j = p
        · subst e2; exact clearZ_at _ (by rw [hm x hx, hf])
        · exact clearZ_zero _ (by rw [hm x hx, hf]) (hmz x hx j (by omega)) (hfz j (by omega))
      have ih := stair_dep k (p + 1) (m.map fun r => clearZ r f p) (fun r hr => by
        obtain ⟨x, hx, rfl⟩ := List.mem_map.mp hr
        rw [clearZ_len p (by rw [hm x hx, hf]), hf]) hcz
      have c1 : Dep (p + (k + 1)) (l.map rowR) ↔ Dep (p + (k + 1)) (rowR f :: m.map rowR) := ⟨fun h => h.perm (pm.map rowR), fun h => h.perm (pm.map rowR).symm⟩
      rw [c1, dep_clr0 (clr_map hf hp hm), dep_pivot (c := p) (by omega) hp fun r hr => by
        obtain ⟨x, hx, rfl⟩ := List.mem_map.mp hr
        exact hcz x hx p (by omega), show p + (k + 1) = p + 1 + k by omega, ih, List.length_map, pm.length_eq, List.length_cons, List.length_cons]
      omega
/-! what fulfils rows -/
end Pd
set_option linter.all false
/-! Ld4: sums that have to come to numbers, plainly. -/
namespace Pd
/-- rows that fall apart leave something that fulfils all of them -/
theorem cmb_cols {c : Nat → Rw} {i : Nat} : ∀ (k s : Nat) (P : List (Int × Rw)), P.map (·.2) = (List.range' s k).map c → cmb P i = sumN k fun j => rowR (P.map (·.1)) j * c (s + j) i
  | 0, s, P, h => by
    have : P = [] := by simpa using h
    subst this
    rfl
  | k + 1, s, [], h => by simp at h
  | k + 1, s, p :: P, h => by
    rw [List.range'_succ] at h
    simp only [List.map_cons, List.cons.injEq] at h
    rw [cmb_cons, sumN_first, cmb_cols k (s + 1) P h.2, h.1, List.map_cons]
    congr 1
    refine sumN_congr fun j _ => ?_
    rw [show s + 1 + j = s + (j + 1) by omega]
    rfl
theorem kernel {w : Nat} {l : List Rw} (hl : l.length = w) (h : Dep w l) : ∃ x : List Int, x.length = w ∧ (∃ c ∈ x, c ≠ 0) ∧ ∀ r ∈ l, sumN w (fun j => r j * rowR x j) = 0 := by
  obtain ⟨P, h1, ⟨q, h2, h3⟩, h4⟩ := h
  obtain ⟨a, b, rfl⟩ := List.append_of_mem h2
  rw [List.map_append, List.map_cons] at h1
  subst h1
  obtain ⟨L, hL⟩ : ∃ L : List Rw, L = (a ++ b).map (·.2) := ⟨_, rfl⟩
  have hlen : L.length + 1 = w := by rw [hL, ← hl]; simp; omega
  obtain ⟨c, hc⟩ : ∃ c : Nat → Rw, c = fun j i => (L.getD i fun _ => 0) j := ⟨_, rfl⟩
  obtain ⟨Q, q1, ⟨p, q2, q3⟩, q4⟩ := pigeon L.length ((List.range' 0 w).map c) (by rw [List.length_map, List.length_range']; omega)
  have hx : ∀ r ∈ L, sumN w (fun j => r j * rowR (Q.map (·.1)) j) = 0 := fun r hr => by
    obtain ⟨i, hi, e⟩ := List.mem_iff_getElem.mp hr
    have := q4 i hi
    rw [cmb_cols w 0 Q q1] at this
    rw [← this]
    refine sumN_congr fun j _ => ?_
    rw [hc, Nat.zero_add, Int.mul_comm]
    dsimp only
    rw [List.getD, List.getElem?_eq_getElem hi, e]
    rfl
  refine ⟨Q.map (·.1), ?_, ⟨p.1, List.mem_map_of_mem q2, q3⟩, fun r hr => ?_⟩
  · rw [List.length_map, ← List.length_map (f := (·.2)), q1, List.length_map, List.length_range']
  · have hr' : r ∈ L ∨ r = q.2 := by
      rcases List.mem_append.mp hr with hr | hr
      · left; rw [hL, List.map_append]; exact List.mem_append.mpr (.inl hr)
      · rcases List.mem_cons.mp hr with rfl | hr
        · exact .inr rfl
        · left; rw [hL, List.map_append]; exact List.mem_append.mpr (.inr hr)
    rcases hr' with hr' | rfl
    · exact hx r hr'
    · have key : ∀ S : List (Int × Rw), (∀ s ∈ S, s.2 ∈ L) → sumN w (fun j => cmb S j * rowR (Q.map (·.1)) j) = 0 := by
        intro S
        induction S with
        | nil => exact fun _ => sumN_zero _ fun j _ => by rw [cmb_nil, Int.zero_mul]
        | cons s S ih =>
          intro hS
          rw [sumN_congr (g := fun j => s.1 * (s.2 j * rowR (Q.map (·.1)) j) + cmb S j * rowR (Q.map (·.1)) j) fun j _ => by rw [cmb_cons, Int.add_mul, Int.mul_assoc], sumN_add, sumN_mul, hx s.2 (hS s List.mem_cons_self), ih fun z hz => hS z (List.mem_cons_of_mem _ hz)]
          simp
      have h5 := key (a ++ b) fun s hs => by rw [hL]; exact List.mem_map_of_mem hs
      have h6 : sumN w (fun j => (q.1 * q.2 j + cmb (a ++ b) j) * rowR (Q.map (·.1)) j) = 0 := sumN_zero _ fun j hj => by
        have := h4 j hj
        rw [cmb_perm List.perm_middle, cmb_cons] at this
        rw [this, Int.zero_mul]
      rw [sumN_congr (g := fun j => q.1 * (q.2 j * rowR (Q.map (·.1)) j) + cmb (a ++ b) j * rowR (Q.map (·.1)) j) fun j _ => by rw [Int.add_mul, Int.mul_assoc], sumN_add, sumN_mul, h5, Int.add_zero] at h6
      exact (Int.mul_eq_zero.mp h6).resolve_left h3
end Pd
set_option linter.all false
/-! Ld5: how great cleared rows grow, plainly. -/
namespace Pd
/-- the things of rows at a place -/
def colR (L : List Rw) (j : Nat) : Rw := fun i => (L.getD i fun _ => 0) j
def cmF (b : Rw) (Q : List Rw) (j : Nat) : Int := sumN Q.length fun i => b i * colR Q j i
theorem colR_app {Q : List Rw} {R : Rw} {j i : Nat} (h : i < Q.length) : colR (Q ++ [R]) j i = colR Q j i := by
  unfold colR
  rw [List.getD, List.getD, List.getElem?_append_left h]
theorem colR_last {Q : List Rw} {R : Rw} {j : Nat} : colR (Q ++ [R]) j Q.length = R j := by
  unfold colR
  rw [List.getD, List.getElem?_append_right (Nat.le_refl _), Nat.sub_self]; rfl
theorem cmF_app (b : Rw) (Q : List Rw) (R : Rw) (j : Nat) : cmF b (Q ++ [R]) j = cmF b Q j + b Q.length * R j := by
  unfold cmF
  rw [List.length_append, List.length_singleton, sumN, colR_last]
  congr 1
  exact sumN_congr fun i hi => by rw [colR_app hi]
theorem cmF_lin (x y : Int) (a b : Rw) (Q : List Rw) (j : Nat) : cmF (fun i => x * a i + y * b i) Q j = x * cmF a Q j + y * cmF b Q j := by
  unfold cmF
  rw [← sumN_mul, ← sumN_mul, ← sumN_add]
  exact sumN_congr fun i _ => by rw [Int.add_mul, Int.mul_assoc, Int.mul_assoc]
theorem cmF_zero {b : Rw} {Q : List Rw} {j : Nat} (h : ∀ i, i < Q.length → b i = 0) : cmF b Q j = 0 := sumN_zero _ fun i hi => by rw [h i hi, Int.zero_mul]
theorem cmF_congr {a b : Rw} {Q : List Rw} {j : Nat} (h : ∀ i, i < Q.length → a i = b i) : cmF a Q j = cmF b Q j := sumN_congr fun i hi => by rw [h i hi]
def KT (pc : List Nat) (Q : List Rw) : Prop := ∀ b : Rw, (∀ c ∈ pc, cmF b Q c = 0) → ∀ i, i < Q.length → b i = 0
def minR (pc : List Nat) (L : List Rw) (j : Nat) : Int := detR (colR L j :: pc.map (colR L))
theorem min_zero {pc : List Nat} {L : List Rw} {c : Nat} (h : c ∈ pc) : minR pc L c = 0 :=
  det_twice' (pre := []) (post := pc.map (colR L)) (List.mem_map_of_mem h)
def minC (pc : List Nat) (L : List Rw) : Rw := fun i => sgn i * detR ((pc.map (colR L)).map (dropc i))
theorem min_comb {pc : List Nat} {L : List Rw} (h : pc.length + 1 = L.length) (j : Nat) : minR pc L j = cmF (minC pc L) L j := by
  unfold minR cmF
  rw [detR_cons, List.length_map, h]
  refine sumN_congr fun i _ => ?_
  unfold minC
  ac_rfl
theorem min_last {pc : List Nat} {Q : List Rw} {R : Rw} (h : pc.length = Q.length) (k : KT pc Q) : minC pc (Q ++ [R]) Q.length ≠ 0 := by
  unfold minC
  have e : detR ((pc.map (colR (Q ++ [R]))).map (dropc Q.length)) = detR (pc.map (colR Q)) := det_congr Q.length _ _ (by simpa using h) (by simpa using h) fun i hi j hj => by
    have hp : i < pc.length := by omega
    simp only [List.getD, List.getElem?_map, List.getElem?_eq_getElem hp, Option.map_some, Option.getD_some]
    unfold dropc
    rw [if_pos hj, colR_app hj]
  rw [e]
  intro z
  have z' : detR (pc.map (colR Q)) = 0 := by
    rcases Int.mul_eq_zero.mp z with z | z
    · have := sgn_abs Q.length
      rw [z] at this
      cases this
    · exact z
  have hd := (det_iff _).mp z'
  rw [List.length_map, h] at hd
  obtain ⟨x, x1, ⟨c, x2, x3⟩, x4⟩ := kernel (by rw [List.length_map, h]) hd
  obtain ⟨i, hi, rfl⟩ := rowR_mem x2
  refine x3 (k (rowR x) (fun c hc => ?_) i (by omega))
  rw [← x4 _ (List.mem_map_of_mem hc)]
  unfold cmF
  exact sumN_congr fun i _ => Int.mul_comm ..
theorem det_abs1 {B b n : Nat} {r : Rw} {rs : List Rw} (hl : rs.length = n) (h0 : ∀ j, j < n + 1 → (r j).natAbs ≤ b) (h : ∀ r ∈ rs, ∀ j, j < n + 1 → (r j).natAbs ≤ B) : (detR (r :: rs)).natAbs ≤ facN (n + 1) * (b * B ^ n) := by
  rw [detR_cons, hl]
  have : ∀ k, k < n + 1 → (sgn k * r k * detR (rs.map (dropc k))).natAbs ≤ b * (facN n * B ^ n) := fun k hk => by
    have h1 := det_abs (B := B) n (rs.map (dropc k)) (by rw [List.length_map]; exact hl) fun x hx j hj => by
      obtain ⟨y, hy, rfl⟩ := List.mem_map.mp hx
      unfold dropc
      split
      · exact h y hy j (by omega)
      · exact h y hy (j + 1) (by omega)
    rw [Int.natAbs_mul, Int.natAbs_mul, sgn_abs, Nat.one_mul]
    exact Nat.mul_le_mul (h0 k hk) h1
  refine Nat.le_trans (sumN_abs this) ?_
  rw [facN, Nat.mul_assoc, Nat.mul_left_comm b]
  exact Nat.le_refl _
theorem min_abs {pc : List Nat} {L : List Rw} {n B : Nat} {β : Nat → Nat} (h : pc.length + 1 = L.length) (hc : ∀ c ∈ pc, c < n ∧ β c ≤ B) (hb : ∀ r ∈ L, ∀ j, j < n → (r j).natAbs ≤ β j) {j : Nat} (hj : j < n) : (minR pc L j).natAbs ≤ facN (pc.length + 1) * (β j * B ^ pc.length) := by
  have hcol : ∀ j, j < n → ∀ i, i < L.length → (colR L j i).natAbs ≤ β j := fun j hj i hi => by
    unfold colR
    rw [List.getD, List.getElem?_eq_getElem hi]
    exact hb _ (List.getElem_mem hi) j hj
  refine det_abs1 (n := pc.length) (by rw [List.length_map]) (fun i hi => hcol j hj i (by omega)) fun r hr i hi => ?_
  obtain ⟨c, hc', rfl⟩ := List.mem_map.mp hr
  exact Nat.le_trans (hcol c (hc c hc').1 i (by omega)) (hc c hc').2
/-- where a row comes from -/
structure From (n : Nat) (β : Nat → Nat) (pc : List Nat) (Q : List Rw) (r : List Int) : Prop where
  len : r.length = n
  zero : ∀ c ∈ pc, rowR r c = 0
  low : gF 0 r = 1 ∨ (∀ x ∈ r, x = 0) ∨ (pc = [] ∧ ∀ j, j < n → (rowR r j).natAbs ≤ β j)
  from_ : ∃ (R b : Rw) (α γ : Int), α ≠ 0 ∧ γ ≠ 0 ∧ (∀ j, j < n → (R j).natAbs ≤ β j) ∧ ∀ j, j < n → α * rowR r j = cmF b Q j + γ * R j
structure Stg (n B : Nat) (β : Nat → Nat) (pc : List Nat) (Q : List Rw) (l : List (List Int)) : Prop where
  len : pc.length = Q.length
  pl : ∀ c ∈ pc, c < n ∧ β c ≤ B
  kt : KT pc Q
  bd : ∀ r ∈ Q, ∀ j, j < n → (r j).natAbs ≤ β j
  left : ∀ r ∈ l, From n β pc Q r
def gB (b B k : Nat) : Nat := facN (k + 1) * (b * B ^ k)
theorem from_bound {n B : Nat} {β : Nat → Nat} {pc : List Nat} {Q : List Rw} {l : List (List Int)} (s : Stg n B β pc Q l) {r : List Int} (h : From n β pc Q r) {j : Nat} (hj : j < n) : (rowR r j).natAbs ≤ gB (β j) B pc.length := by
  obtain ⟨hlen, hz, hlow, R, b, α, γ, ha, hg, hR, hr⟩ := h
  have hd := s.len
  rcases hlow with hp | h0 | ⟨h1, h2⟩
  · have hm := min_last (R := R) s.len s.kt
    generalize hM : minC pc (Q ++ [R]) Q.length = M at hm
    have hL : pc.length + 1 = (Q ++ [R]).length := by rw [List.length_append, List.length_singleton, s.len]
    have key : ∀ j, j < n → γ * minR pc (Q ++ [R]) j = M * α * rowR r j := by
      have e : ∀ j, j < n → γ * minR pc (Q ++ [R]) j - M * (α * rowR r j) = cmF (fun i => γ * minC pc (Q ++ [R]) i + (- M) * b i) Q j := fun j hj => by
        rw [min_comb hL, cmF_app, hM, hr j hj, cmF_lin, Int.mul_add, Int.mul_add, Int.neg_mul]
        have : γ * (M * R j) = M * (γ * R j) := by ac_rfl
        rw [this]
        omega
      have hb := s.kt (fun i => γ * minC pc (Q ++ [R]) i + (- M) * b i) fun c hc => by
        rw [← e c (s.pl c hc).1, min_zero hc, hz c hc]
        simp
      intro j hj
      have := e j hj
      rw [cmF_zero hb] at this
      rw [Int.mul_assoc]
      omega
    have hdv : γ ∣ M * α := prim_dvd hp fun x hx => by
      obtain ⟨i, hi, rfl⟩ := rowR_mem hx
      exact ⟨_, (key i (by omega)).symm⟩
    obtain ⟨t, ht⟩ := hdv
    have ht0 : t ≠ 0 := fun z => by
      rw [z, Int.mul_zero] at ht
      exact Int.mul_ne_zero hm ha ht
    have hv : minR pc (Q ++ [R]) j = t * rowR r j := by
      have := key j hj
      rw [ht, Int.mul_assoc] at this
      exact Int.eq_of_mul_eq_mul_left hg this
    have hab := min_abs (n := n) (B := B) (β := β) hL s.pl (fun x hx => by
      rcases List.mem_append.mp hx with hx | hx
      · exact s.bd x hx
      · rw [List.mem_singleton] at hx
        rw [hx]; exact hR) hj
    rw [hv, Int.natAbs_mul] at hab
    have h1 : 1 ≤ t.natAbs := by omega
    exact Nat.le_trans (by have := Nat.mul_le_mul_right (rowR r j).natAbs h1; omega) hab
  · have : rowR r j = 0 := by
      by_cases e : j < r.length
      · rw [rowR_in e]; exact h0 _ (List.getElem_mem e)
      · exact rowR_out (by omega)
    rw [this]
    exact Nat.zero_le _
  · subst h1
    have := h2 j hj
    unfold gB facN facN
    simpa using this
theorem stg_step {n B : Nat} {β : Nat → Nat} {pc : List Nat} {Q : List Rw} {l m : List (List Int)} {f : List Int} {p : Nat} (s : Stg n B β pc Q l) (hp : rowR f p ≠ 0) (hpn : p < n ∧ β p ≤ B) (pm : l.Perm (f :: m)) : ∃ R : Rw, Stg n B β (pc ++ [p]) (Q ++ [R]) (m.map fun r => clearZ r f p) := by
  obtain ⟨hlen, hz, hlow, R, b, α, γ, ha, hg, hR, hr⟩ := s.left f (pm.mem_iff.mpr List.mem_cons_self)
  refine ⟨R, by rw [List.length_append, List.length_append, s.len]; rfl, fun c hc => ?_, fun d hd i hi => ?_, fun x hx => ?_, fun x hx => ?_⟩
  · rcases List.mem_append.mp hc with hc | hc
    · exact s.pl c hc
    · rw [List.mem_singleton] at hc; subst hc; exact hpn
  · have e : ∀ j, j < n → γ * cmF d (Q ++ [R]) j - d Q.length * (α * rowR f j) = cmF (fun i => γ * d i + (- d Q.length) * b i) Q j := fun j hj => by
      rw [cmF_app, hr j hj, cmF_lin, Int.mul_add, Int.mul_add, Int.neg_mul]
      have : γ * (d Q.length * R j) = d Q.length * (γ * R j) := by ac_rfl
      rw [this]
      omega
    have hb := s.kt (fun i => γ * d i + (- d Q.length) * b i) fun c hc => by
      rw [← e c (s.pl c hc).1, hd c (List.mem_append.mpr (.inl hc)), hz c hc]
      simp
    have e1 := e p hpn.1
    rw [cmF_zero hb, hd p (List.mem_append.mpr (.inr List.mem_cons_self)), Int.mul_zero, Int.zero_sub] at e1
    have hk : d Q.length = 0 := by
      rcases Int.mul_eq_zero.mp (show d Q.length * (α * rowR f p) = 0 by omega) with z | z
      · exact z
      · exact absurd z (Int.mul_ne_zero ha hp)
    rw [List.length_append, List.length_singleton] at hi
    by_cases e2 : i = Q.length
    · rw [e2]; exact hk
    · refine s.kt d (fun c hc => ?_) i (by omega)
      have := hd c (List.mem_append.mpr (.inl hc))
      rw [cmF_app, hk, Int.zero_mul, Int.add_zero] at this
      exact this
  · rcases List.mem_append.mp hx with hx | hx
    · exact s.bd x hx
    · rw [List.mem_singleton] at hx
      rw [hx]; exact hR
  · obtain ⟨r, hrm, rfl⟩ := List.mem_map.mp hx
    obtain ⟨hlen', hz', hlow', R', b', α', γ', ha', hg', hR', hr'⟩ := s.left r (pm.mem_iff.mpr (List.mem_cons_of_mem _ hrm))
    have hl : r.length = f.length := by omega
    obtain ⟨d, hd, hd'⟩ := clearZ_ok p hl
    refine ⟨by rw [clearZ_len p hl, hlen], fun c hc => ?_, ?_, R', fun i => if i < Q.length then (α * rowR f p) * b' i + (- (α' * rowR r p)) * b i else - (α' * rowR r p) * γ, α * α' * d, α * rowR f p * γ', Int.mul_ne_zero (Int.mul_ne_zero ha ha') (by omega), Int.mul_ne_zero (Int.mul_ne_zero ha hp) hg', hR', fun j hj => ?_⟩
    · rcases List.mem_append.mp hc with hc | hc
      · exact clearZ_zero p hl (hz' c hc) (hz c hc)
      · rw [List.mem_singleton] at hc
        rw [hc]; exact clearZ_at p hl
    · unfold clearZ
      rcases lessZ_prim ((r.zip f).map fun x => rowR f p * x.1 - rowR r p * x.2) with z | z
      · exact .inl z
      · exact .inr (.inl z)
    · rw [cmF_app, if_neg (by omega), cmF_congr (b := fun i => (α * rowR f p) * b' i + (- (α' * rowR r p)) * b i) fun i hi => by rw [if_pos hi], cmF_lin]
      rw [Int.mul_assoc, hd' j, Int.mul_add]
      have e1 : α * α' * (rowR f p * rowR r j) = α * rowR f p * (α' * rowR r j) := by ac_rfl
      have e2 : α * α' * (- rowR r p * rowR f j) = - (α' * rowR r p * (α * rowR f j)) := by
        rw [Int.neg_mul, Int.mul_neg]
        congr 1
        ac_rfl
      rw [e1, e2, hr' j hj, hr j hj, Int.mul_add, Int.mul_add, Int.neg_mul, Int.neg_mul, Int.neg_mul]
      have e3 : α * rowR f p * (γ' * R' j) = α * rowR f p * γ' * R' j := by ac_rfl
      have e4 : α' * rowR r p * (γ * R j) = α' * rowR r p * γ * R j := by ac_rfl
      rw [e3, e4]
      omega
theorem stg_skip {n B : Nat} {β : Nat → Nat} {l : List (List Int)} (h : ∀ r ∈ l, r.length = n) (hb : ∀ r ∈ l, ∀ j, j < n → (rowR r j).natAbs ≤ β j) : Stg n B β [] [] l :=
  ⟨rfl, fun c hc => (by cases hc), fun b _ i hi => absurd hi (by simp), fun r hr => (by cases hr), fun r hr => ⟨h r hr, fun c hc => (by cases hc), .inr (.inr ⟨rfl, hb r hr⟩), rowR r, fun _ => 0, 1, 1, by decide, by decide, hb r hr, fun j _ => by unfold cmF; simp [sumN]⟩⟩
theorem facN_mono {k m : Nat} (h : k ≤ m) : facN k ≤ facN m := by
  induction h with
  | refl => exact Nat.le_refl _
  | @step m _ ih => exact Nat.le_trans ih (by rw [facN]; exact Nat.le_mul_of_pos_left _ (by omega))
theorem gB_mono {b c B k m : Nat} (hB : 1 ≤ B) (hb : b ≤ c) (h : k ≤ m) : gB b B k ≤ gB c B m := by
  unfold gB
  exact Nat.mul_le_mul (facN_mono (by omega)) (Nat.mul_le_mul hb (Nat.pow_le_pow_right hB h))
end Pd
set_option Elab.async false
set_option linter.all false
/-norgs-/
/-! Ld6: the program's stairs, walked. -/
namespace Pd
open PySem L2
set_option maxRecDepth 100000
set_option hygiene false in
local macro_rules
  | `(tactic| simp_arith [$as,*]) => `(tactic| simp only [reduceIte, outsOf, Nat.reduceBEq, bind_ok, bind_no, exec, ev_var, ev_non, ev_bl, ev_int, ev_str, ev_tup, ev_lst, ev_dct, ev_bin, ev_neg, ev_not, ev_cmp, ev_chn, ev_and, ev_or, ev_ite, ev_ix, ev_sl, ev_bi, ev_isi, ev_call, ev_pop, ev_comp, ev_sortedR, ev_rev, ev_rgs, ev_sset, ev_meet, ev_me, ev_tin, ev_cst, rev_lst, rev_tup, few_ints, sset_ints, evalVs, evalOs, evalAs, evalI, op1, op2, opd, argD, hasV, mineV, getOp, getOps, Sl.val, varD, retD, testD, condD, partD, optR_some, optR_if, optF_some, optF_none, optR_none, wp_ok, wp_no, wp_ex, wp_bind, wp_ifno, wp_noif, wp_noEx, wp_unlF, List.any_cons, List.any_nil, Int.reducePow, Int.reduceToNat, natAbs_lit, Int.reduceLE, Int.reduceLT, Int.reduceNeg, Nat.reduceLT, Nat.reduceLeDiff, Nat.reducePow, Nat.reduceAdd, Int.reduceAdd, Int.reduceEq, Nat.reduceEqDiff, Bool.or_self, Bool.and_self, ixV, ixD, implies_true, false_implies, true_implies, forall_const, wp_cons, run_eq, after_ok, ioDup, getArs, unlk_nx, unlk_rt, lpk_nx, lpk_ct, lpk_bk, lpk_rt, nxk_nx, Option.some.injEq, exists_eq_left', kont_nx, kont_rt, kont_bk, kont_ct, wp_nil, setSl_0, setSl_1, setSl_2, setSl_3, setSl_4, setSl_5, setSl_6, setSl_7, setSl_8, setSl_9, setSl_10, setSl_11, setSl_12, setSl_13, setSl_14, setSl_15, setSl_16, setSl_17, setSl_18, setSl_19, setSl_20, setSl_21, setSl_22, setSl_23, setSl_24, setSl_25, ends_rt, ends_nx,  isOk_no, isOk_fr, isOk_ow, isOk_bo, isFr_no, isFr_fr, bindI, bindT, setTD, bin_add, bin_sub, bin_mul', bin_mod', bin_fdiv', bin_pow, bin_addT, bin_addL, cmpV, cmp_eq, cmp_ne, cmp_lt, cmp_le, cmp_gt, cmp_ge, cmp_inT, cmp_inL, cmp_ninT, cmp_ninL, cmp_is, cmp_isn, isD, eq_int, eq_ints, eq_intsT, isiV, isiD, bi_lenT, bi_lenL, bi_abs, bi_sum, bi_min2, bi_max2, bi_tupT, bi_tupL, bi_lstT, bi_lstL, bi_intI, bi_intB, bi_boolB, bi_all, bi_any, bi_sorted, muD_append, muD_reverse, muD_clear, sl_tup, sl_lst, bin_mulL, isl_lst, opt_if, optF_if, negD, notD, lsOk, lends, lend, unlend, opSl, wipeOk, wipeS, backS, seqD, itrD, getAr, putIo, putOuts, augS, augD, modSl, List.getElem?_cons_zero, List.getElem?_cons_succ, List.set_cons_zero, List.set_cons_succ, List.getD_cons_zero, List.getD_cons_succ, Option.map_some, Option.map_none, Option.isSome_some, Option.any_some, Option.bind_some, Option.bind_none, Bool.and_true, Bool.true_and, Bool.and_false, Bool.false_and, Bool.or_false, Bool.false_or, Bool.true_or, Bool.or_true, Bool.not_true, Bool.not_false, List.all_cons, List.all_nil, List.map_cons, List.map_nil, List.cons_append, List.nil_append, if_true, if_false, reduceCtorEq, Bool.false_eq_true, ite_true, ite_false, ite_cond_eq_true, tb_kinds, decide_true, decide_false, true_and, and_true, ne_eq, not_true_eq_false, not_false_eq_true, List.length_cons, List.length_nil, beq_self_eq_true, bin_mulT, bi_str, bi_sumT, bi_minL, bi_maxL, ev_tget, ev_tgetE, ev_dzip, ev_dprs, ev_fld, ev_mk, tb_cst, tb_tab, tb_isC, tb_isM, tb_isF, tb_mkC, at_0, at_1, at_2, tin_str, tget_str, tgetE_str, str_inj, String.reduceEq, eq_str, in_str2, sk_each, sk_cover, sk_cut, sk_steps, sk_forest, sk_table, sk_plus, sk_times, sk_upto, sk_behind, sk_among, sk_turned, bne_self_eq_false, Bool.true_bne, Bool.false_bne, Bool.not_true, Bool.not_false, $as,*])
set_option hygiene false in
local macro_rules
  | `(tactic| simp_arith) => `(tactic| simp_arith [if_true])
  | `(tactic| simp_arith!) => `(tactic| first | (simp_arith [if_true]; done) | (simp_arith [if_true]; rfl))
  | `(tactic| simp_arith! [$as,*]) => `(tactic| first | (simp_arith [$as,*]; done) | (simp_arith [$as,*]; rfl))
def f_divisor : Fn := ⟨[.bo], 4, [.set 1 (.int 0),
  .forr [2] true (.itr (.var 0)) [.set 3 (.bi .abs [.var 2]),
  .whl (.cmp .NotEq (.var 3) (.int 0)) [.setP [1, 3] [.var 3, .bin .Mod (.var 1) (.var 3)]]],
  .ret (.var 1)]⟩
def f_lessened : Fn := ⟨[.fr], 3, [.set 1 (.call "divisor" [.var 0]),
  .ret (.ite (.cmp .Gt (.var 1) (.int 1)) (.comp (.bin .FloorDiv (.var 2) (.var 1)) [2] true (.itr (.var 0)) .nil [2]) (.var 0))]⟩
def f_cleared : Fn := ⟨[.bo, .bo, .bo], 5, [.ret (.call "lessened" [.comp (.bin .Sub (.bin .Mult (.ix (.var 1) (.var 2)) (.var 3)) (.bin .Mult (.ix (.var 0) (.var 2)) (.var 4))) [3, 4] false (.zip (.var 0) (.var 1)) .nil [3, 4]])]⟩
def f_stairs : Fn := ⟨[.bo, .bo], 9, [.set 2 (.comp (.bi .list [.var 6]) [6] true (.itr (.var 0)) .nil [6]),
  .set 3 (.lst []),
  .forr [4] true (.rng1 (.var 1)) [.set 5 (.comp (.var 8) [8, 6] false (.enum (.var 2)) (.cmp .NotEq (.ix (.var 6) (.var 4)) (.int 0)) [8, 6]),
  .ite (.cmp .NotEq (.var 5) (.lst [])) [.set 7 (.pop 2 (.ix (.var 5) (.int 0))),
  .set 2 (.comp (.call "cleared" [.var 6, .var 7, .var 4]) [6] true (.itr (.var 2)) .nil [6]),
  .mu 3 .append [.tup [.var 4, .var 7]]] []],
  .ret (.var 3)]⟩
abbrev lI (a : List Int) : D := .lst (a.map .int)
theorem div_whl {T : Tb} {a0 a2 : Sl} {Q : Fl → Prop} {f l : Int} (hf : 0 ≤ f) (hl : 0 ≤ l) (h : Q (.nx [a0, .fr (.int (gI f l)), a2, .fr (.int 0)])) :
    Wp (whlD (testD (evalV T (.cmp .NotEq (.var 3) (.int 0))) (.cmp .NotEq (.var 3) (.int 0))) (execs T [.setP [1, 3] [.var 3, .bin .Mod (.var 1) (.var 3)]]) [a0, .fr (.int f), a2, .fr (.int l)]) Q := by
  refine wp_whl (fun k ρ => ∃ u v : Int, 0 ≤ u ∧ 0 ≤ v ∧ v ≤ k ∧ gI u v = gI f l ∧ ρ = [a0, .fr (.int u), a2, .fr (.int v)]) ?_ (n := l.toNat) ⟨f, l, hf, hl, by omega, rfl, rfl⟩
  rintro k ρ ⟨u, v, hu, hv, hk, hg, rfl⟩
  simp_arith
  by_cases h0 : v = 0
  · subst h0
    rw [gI_zero hu] at hg
    subst hg
    simp_arith
    exact h
  · obtain ⟨p1, p2⟩ := fmod_pos (i := u) (show 0 < v by omega)
    simp_arith [h0]
    exact ⟨(u.fmod v).toNat, by omega, v, u.fmod v, hv, p1, by omega, by rw [← hg, gI_step hu hv], rfl⟩
theorem divisor_z {M : Md} (h : M.fns "divisor" = some f_divisor) (n : Nat) {ns : List Int} {d : D} (hd : itrD d = some (ns.map .int)) : callN M (n + 1) "divisor" [d] = .ok false (.int (gF 0 ns)) [] := by
  refine wc_eq (wc_of h ⟨rfl, by decide⟩ ?_)
  show Wp (execs (M.tb n) f_divisor.body [.bo d, .no, .no, .no]) _
  simp_arith [f_divisor, -itrD, hd]
  refine wp_for (fun r ρ => ∃ (L : List Int) (f : Int) (s2 s3 : Sl), r = L.map .int ∧ 0 ≤ f ∧ gF f L = gF 0 ns ∧ Sl.isOk s2 = true ∧ Sl.isOk s3 = true ∧ ρ = [.bo d, .fr (.int f), s2, s3]) ?_ ?_ ?_
  · exact ⟨ns, 0, .no, .no, rfl, Int.le_refl _, rfl, rfl, rfl, rfl⟩
  · rintro ρ ⟨L, f, s2, s3, hL, _, hg, _, _, rfl⟩
    have : L = [] := by simpa using hL.symm
    subst this
    have hg' : f = gF 0 ns := hg
    subst hg'
    simp_arith
  · rintro e r ρ ⟨L, f, s2, s3, hL, hf, hg, o2, o3, rfl⟩
    cases L with
    | nil => cases hL
    | cons y L =>
      obtain ⟨rfl, rfl⟩ := List.cons.inj hL
      refine ⟨[.bo d, .fr (.int f), .fr (.int y), s3], by simp_arith [o2], ?_⟩
      simp_arith [o3]
      refine div_whl hf (by omega) ?_
      simp_arith
      exact ⟨L, _, _, _, rfl, gI_nn _ _, hg, rfl, rfl, rfl⟩
theorem gF_small {ns : List Int} {B : Nat} (h : ∀ x ∈ ns, x.natAbs < B) (hB : 0 < B) : (gF 0 ns).natAbs < B := by
  by_cases hz : ∀ x ∈ ns, x = 0
  · have : ∀ {L : List Int}, (∀ x ∈ L, x = 0) → gF 0 L = 0 := fun {L} => by
      induction L with
      | nil => exact fun _ => rfl
      | cons x L ih =>
        intro h
        have hx := h x List.mem_cons_self
        subst hx
        exact ih fun y hy => h y (List.mem_cons_of_mem _ hy)
    rw [this hz]
    exact hB
  · obtain ⟨x, hx⟩ := Classical.not_forall.mp hz
    obtain ⟨hx, hne⟩ := Classical.not_imp.mp hx
    have hd := (gF_goes (ns := ns) (f := 0)).2 x hx
    have := Int.natAbs_dvd_natAbs.mpr hd
    have := Nat.le_of_dvd (by omega) this
    have := h x hx
    omega
theorem log_lt {i : Int} {k : Nat} (hk : 0 < k) (h : i.natAbs < 2 ^ k) : i.natAbs.log2 < k := by
  by_cases e : i.natAbs = 0
  · rw [e]; simpa using hk
  · exact (Nat.log2_lt e).mpr h
theorem lessened_z {M : Md} (h : M.fns "lessened" = some f_lessened) (hd : M.fns "divisor" = some f_divisor) (n : Nat) {ns : List Int} (hb : ∀ x ∈ ns, x.natAbs < 2 ^ 8000) : ∃ o, callN M (n + 2) "lessened" [lI ns] = .ok o (lI (lessZ ns)) [] := by
  have e1 := divisor_z hd n (ns := ns) (d := lI ns) rfl
  have hg := log_lt (by decide) (gF_small hb (Nat.pow_pos (by decide)))
  have hlg : (gF 0 ns).natAbs.log2 < 9000 := by omega
  by_cases h1 : 1 < gF 0 ns
  · refine ⟨true, wc_eq (wc_of h ⟨rfl, by decide⟩ ?_)⟩
    show Wp (execs (M.tb (n + 1)) f_lessened.body [.fr (lI ns), .no, .no]) _
    have e2 : lessZ ns = ns.map fun x => x.fdiv (gF 0 ns) := if_pos h1
    rw [e2]
    generalize gF 0 ns = g at e1 hlg h1
    have h0 : ¬ g = 0 := by omega
    simp_arith [f_lessened, kinds_of hd, f_divisor, e1, h1]
    rw [compM D.int (fun _ => true) (fun x => .int (x.fdiv g)) rfl fun x _ => ⟨_, _, by rfl, by rfl, by rfl, fun _ => ⟨_, _, by simp_arith! [h0, hlg], by rfl⟩⟩, filt_all]
    simp_arith
    simp [lI, Function.comp_def]
  · refine ⟨false, wc_eq (wc_of h ⟨rfl, by decide⟩ ?_)⟩
    show Wp (execs (M.tb (n + 1)) f_lessened.body [.fr (lI ns), .no, .no]) _
    have e2 : lessZ ns = ns := if_neg h1
    rw [e2]
    simp_arith [f_lessened, kinds_of hd, f_divisor, e1, h1]
theorem at_row {r : List Int} {p : Int} {q : Nat} (hp : p = q) (h : q < r.length) : atI (r.map D.int) p = some (.int (rowR r q)) := by
  subst hp
  have := at_ints (ns := r) (i := (q : Int)) (Int.natCast_nonneg _) (by omega)
  rw [this]
  rfl
theorem zip_ints (as bs : List Int) : zipD (as.map D.int) (bs.map D.int) = (as.zip bs).map fun ab => .tup [.int ab.1, .int ab.2] := by
  induction as generalizing bs with
  | nil => simp [zipD]
  | cons a as ih =>
    cases bs with
    | nil => simp [zipD]
    | cons b bs =>
      rw [List.map_cons, List.map_cons, zipD, ih]
      rfl
theorem cleared_z {M : Md} (h : M.fns "cleared" = some f_cleared) (hl : M.fns "lessened" = some f_lessened) (hd : M.fns "divisor" = some f_divisor) (n : Nat) {r f : List Int} {p : Int} {q : Nat} (hp : p = q) (hr : q < r.length) (hf : q < f.length) (br : ∀ x ∈ r, x.natAbs < 2 ^ 3000) (bf : ∀ x ∈ f, x.natAbs < 2 ^ 3000) :
    ∃ o, callN M (n + 3) "cleared" [lI r, lI f, .int p] = .ok o (lI (clearZ r f q)) [] := by
  have hin : ∀ {l : List Int}, (∀ x ∈ l, x.natAbs < 2 ^ 3000) → q < l.length → (rowR l q).natAbs < 2 ^ 3000 := fun {l} hb hq => by
    rw [rowR_in hq]; exact hb _ (List.getElem_mem hq)
  have b1 := hin br hr
  have b2 := hin bf hf
  have a1 := at_row hp hr
  have a2 := at_row hp hf
  have hm : ∀ ab ∈ r.zip f, mulOk (rowR f q) ab.1 ∧ mulOk (rowR r q) ab.2 := fun ab hab => by
    obtain ⟨m1, m2⟩ := List.of_mem_zip (a := ab.1) (b := ab.2) hab
    exact ⟨mulOk_b 3000 3000 b2 (br _ m1) (by decide), mulOk_b 3000 3000 b1 (bf _ m2) (by decide)⟩
  have hlt : ∀ x ∈ ((r.zip f).map fun x => rowR f q * x.1 - rowR r q * x.2), x.natAbs < 2 ^ 8000 := fun x hx => by
    obtain ⟨ab, hab, rfl⟩ := List.mem_map.mp hx
    obtain ⟨m1, m2⟩ := List.of_mem_zip (a := ab.1) (b := ab.2) hab
    have c1 : (rowR f q * ab.1).natAbs < 2 ^ 6000 := by
      rw [Int.natAbs_mul, show (6000 : Nat) = 3000 + 3000 from rfl, Nat.pow_add]
      exact Nat.mul_lt_mul'' b2 (br _ m1)
    have c2 : (rowR r q * ab.2).natAbs < 2 ^ 6000 := by
      rw [Int.natAbs_mul, show (6000 : Nat) = 3000 + 3000 from rfl, Nat.pow_add]
      exact Nat.mul_lt_mul'' b1 (bf _ m2)
    have c3 := Int.natAbs_sub_le (rowR f q * ab.1) (rowR r q * ab.2)
    have c4 : (2 : Nat) ^ 6000 + 2 ^ 6000 = 2 ^ 6001 := by rw [Nat.pow_succ]; omega
    have c5 : (2 : Nat) ^ 6001 ≤ 2 ^ 8000 := Nat.pow_le_pow_right (by decide) (by decide)
    omega
  obtain ⟨o, e1⟩ := lessened_z hl hd n hlt
  refine ⟨o, wc_eq (wc_of h ⟨rfl, by decide⟩ ?_)⟩
  show Wp (execs (M.tb (n + 2)) f_cleared.body [.bo (lI r), .bo (lI f), .bo (.int p), .no, .no]) _
  unfold clearZ
  generalize rowR f q = u at a2 hm e1 ⊢
  generalize rowR r q = v at a1 hm e1 ⊢
  simp_arith [f_cleared, zipK, zip_ints, kinds_of hl, f_lessened]
  rw [compM (fun ab : Int × Int => D.tup [.int ab.1, .int ab.2]) (fun _ => true) (fun ab => .int (u * ab.1 - v * ab.2)) rfl fun ab hab => ⟨_, _, by rfl, by rfl, by rfl, fun _ => ⟨_, _, by
    obtain ⟨m1, m2⟩ := hm ab hab
    simp_arith! [a1, a2, m1, m2], by rfl⟩⟩, filt_all]
  have e2 : (r.zip f).map (fun ab : Int × Int => D.int (u * ab.1 - v * ab.2)) = ((r.zip f).map fun x => u * x.1 - v * x.2).map D.int := by rw [List.map_map]; rfl
  simp_arith [e2, e1]
/-! stairs -/
abbrev lL (l : List (List Int)) : D := .lst (l.map lI)
def stepD (q : Nat × List Int) : D := .tup [.int q.1, lI q.2]
theorem enum_rows : ∀ (l : List (List Int)) (k : Nat), enumD k (l.map lI) = (l.zipIdx k).map fun a => D.tup [.int (a.2 : Nat), lI a.1]
  | [], _ => rfl
  | r :: l, k => by
    rw [List.map_cons, enumD, enum_rows l (k + 1), List.zipIdx_cons, List.map_cons]
def ableZ (p : Nat) (l : List (List Int)) (k : Nat) : List Int := ((l.zipIdx k).filter fun a => !decide (rowR a.1 p = 0)).map fun a => ((a.2 : Nat) : Int)
theorem able_pick {p : Nat} : ∀ (l : List (List Int)) (k : Nat), match pickZ p l with
    | none => ableZ p l k = []
    | some (f, m) => ∃ i r, ableZ p l k = ((k + i : Nat) : Int) :: r ∧ i < l.length ∧ l[i]? = some f ∧ m = l.eraseIdx i
  | [], _ => rfl
  | r :: l, k => by
    have ih := able_pick (p := p) l (k + 1)
    unfold pickZ
    by_cases h : rowR r p = 0
    · rw [if_neg (fun z => z h)]
      have e : ableZ p (r :: l) k = ableZ p l (k + 1) := by
        unfold ableZ
        rw [List.zipIdx_cons, List.filter_cons_of_neg (by simp [h])]
      rw [e]
      cases hp : pickZ p l with
      | none => rw [hp] at ih; exact ih
      | some q =>
        obtain ⟨f, m⟩ := q
        rw [hp] at ih
        obtain ⟨i, r', h1, h2, h3, h4⟩ := ih
        exact ⟨i + 1, r', by rw [h1, show k + 1 + i = k + (i + 1) by omega], by rw [List.length_cons]; omega, by rw [List.getElem?_cons_succ]; exact h3, by rw [h4]; rfl⟩
    · rw [if_pos h]
      exact ⟨0, _, by unfold ableZ; rw [List.zipIdx_cons, List.filter_cons_of_pos (by simp [h])]; rfl, by simp, rfl, rfl⟩
theorem era_mapG {α β : Type} (f : α → β) : ∀ (l : List α) (i : Nat), (l.map f).eraseIdx i = (l.eraseIdx i).map f
  | [], _ => rfl
  | n :: l, 0 => rfl
  | n :: l, i + 1 => by rw [List.map_cons, List.eraseIdx_cons_succ, List.eraseIdx_cons_succ, List.map_cons, era_mapG f l i]
theorem eq_nil {ns : List Int} : eqD (.lst (ns.map .int)) (.lst []) = some (decide (ns = [])) := eq_ints ns []
theorem bound_bits {n B W N : Nat} {β : Nat → Nat} {pc : List Nat} {Q : List Rw} {l : List (List Int)} (s : Stg n B β pc Q l) (hN : pc.length + l.length = N) (hB : 1 ≤ B) (hβ : ∀ j, j < n → β j ≤ W) (hg : gB W B N < 2 ^ 3000) : ∀ r ∈ l, ∀ x ∈ r, x.natAbs < 2 ^ 3000 := fun r hr x hx => by
  have hf := s.left r hr
  obtain ⟨j, hj, rfl⟩ := rowR_mem hx
  have hjn : j < n := by rw [← hf.len]; exact hj
  have h1 := from_bound s hf hjn
  have h2 : gB (β j) B pc.length ≤ gB W B N := gB_mono hB (hβ j hjn) (by omega)
  omega
structure SolvM (M : Md) : Prop where
  divisor : M.fns "divisor" = some f_divisor
  lessened : M.fns "lessened" = some f_lessened
  cleared : M.fns "cleared" = some f_cleared
  stairs : M.fns "stairs" = some f_stairs
theorem stairs_z {M : Md} (H : SolvM M) (n : Nat) {rows : List (List Int)} {c B W w : Nat} {β : Nat → Nat} (hr : ∀ r ∈ rows, r.length = c) (hw : w ≤ c) (hc : c ≤ 1000) (hN : rows.length ≤ 1000) (hB : 1 ≤ B) (hb : ∀ r ∈ rows, ∀ j, j < c → (rowR r j).natAbs ≤ β j) (hβ : ∀ j, j < w → β j ≤ B) (hβW : ∀ j, j < c → β j ≤ W) (hg : gB W B rows.length < 2 ^ 3000) {i : Int} (hi : i = w) :
    callN M (n + 4) "stairs" [lL rows, .int i] = .ok true (.lst ((stairZ 0 w rows).map stepD)) [] := by
  refine wc_eq (wc_of H.stairs ⟨rfl, by decide⟩ ?_)
  show Wp (execs (M.tb (n + 3)) f_stairs.body [.bo (lL rows), .bo (.int i), .no, .no, .no, .no, .no, .no, .no]) _
  have hb1 : -(1048576 : Int) < i ∧ i < 1048576 := by omega
  have hit : i.toNat = w := by omega
  simp_arith [f_stairs, hb1.1, hb1.2, hit, -wp_cons, -kont_nx]
  rw [wp_cons]
  simp_arith [-wp_cons, -kont_nx]
  rw [compM lI (fun _ => true) lI rfl fun r _ => ⟨_, _, by rfl, by rfl, by rfl, fun _ => ⟨_, _, by simp_arith!, by rfl⟩⟩, filt_all]
  simp_arith [hb1.1, hb1.2, hit]
  refine wp_for (fun r ρ => ∃ (p : Nat) (pc : List Nat) (Q : List Rw) (l : List (List Int)) (st : List (Nat × List Int)) (s4 s5 s7 : Sl), r = rngD p (w - p) ∧ p ≤ w ∧ Stg c B β pc Q l ∧ pc.length + l.length = rows.length ∧ st.length ≤ p ∧ st ++ stairZ p (w - p) l = stairZ 0 w rows ∧ Sl.isOk s4 = true ∧ Sl.isOk s5 = true ∧ Sl.isOk s7 = true ∧ ρ = [.bo (lL rows), .bo (.int i), .ow (lL l), .ow (.lst (st.map stepD)), s4, s5, .no, s7, .no]) ?_ ?_ ?_
  · exact ⟨0, [], [], rows, [], .no, .no, .no, rfl, Nat.zero_le _, stg_skip hr hb, by simp, Nat.le_refl _, rfl, rfl, rfl, rfl, rfl⟩
  · rintro ρ ⟨p, pc, Q, l, st, s4, s5, s7, hR, hp, _, _, _, hst, _, _, _, rfl⟩
    have hz : w - p = 0 := by
      have := congrArg List.length hR
      rw [rng_len] at this
      exact this.symm
    rw [hz, stairZ, List.append_nil] at hst
    subst hst
    simp_arith
  · rintro d r ρ ⟨p, pc, Q, l, st, s4, s5, s7, hR, hp, hs, hN', hsl, hst, o4, o5, o7, rfl⟩
    obtain ⟨k, hk⟩ : ∃ k, w - p = k + 1 := by
      refine ⟨w - p - 1, ?_⟩
      have := congrArg List.length hR
      rw [rng_len, List.length_cons] at this
      omega
    rw [hk] at hR hst
    have hR' : d = .int p ∧ r = rngD ((p + 1 : Nat) : Int) k := by
      rw [rngD_rgF, rgF_succ, List.map_cons, ← rngD_rgF] at hR
      exact List.cons.inj hR
    obtain ⟨rfl, rfl⟩ := hR'
    have hpc : p < c := by omega
    have hlen : ∀ r ∈ l, r.length = c := fun r hr => (hs.left r hr).len
    have hbits := bound_bits hs hN' hB hβW hg
    obtain ⟨P, hP⟩ : ∃ P : Int, P = p := ⟨_, rfl⟩
    refine ⟨[.bo (lL rows), .bo (.int i), .ow (lL l), .ow (.lst (st.map stepD)), .fr (.int P), s5, .no, s7, .no], by rw [hP]; simp_arith [o4], ?_⟩
    have eable : ∀ ρ : Env, ρ = [.bo (lL rows), .bo (.int i), .ow (lL l), .ow (.lst (st.map stepD)), .fr (.int P), s5, .no, s7, .no] → compR (M.tb (n + 3)) (.var 8) [8, 6] false (.cmp .NotEq (.ix (.var 6) (.var 4)) (.int 0)) [8, 6] (enumD 0 (l.map lI)) [2] ρ = .ok ((true, .lst ((ableZ p l 0).map .int)), ρ) := fun ρ hρ => by
      subst hρ
      rw [enum_rows, compM (fun a : List Int × Nat => D.tup [.int (a.2 : Nat), lI a.1]) (fun a => !decide (rowR a.1 p = 0)) (fun a => .int ((a.2 : Nat) : Int)) rfl fun a ha => ⟨_, _, by rfl, by
        have hl := hlen a.1 (List.fst_mem_of_mem_zipIdx ha)
        have := at_row hP (r := a.1) (by omega)
        simp_arith! [this, eq_int], by rfl, fun _ => ⟨_, _, by simp_arith!, by rfl⟩⟩]
      unfold ableZ
      rw [List.map_map]
      rfl
    have hpick := able_pick (p := p) l 0
    rw [wp_cons]
    simp_arith [-wp_cons, -kont_nx, eable _ rfl, o5]
    rw [kont_nx]
    cases hp' : pickZ p l with
    | none =>
      have es : stairZ p (k + 1) l = stairZ (p + 1) k l := by rw [stairZ, hp']
      rw [hp'] at hpick
      rw [es] at hst
      have hnb : (ableZ p l 0 = []) = True := eq_true hpick
      simp_arith [eq_nil, hnb]
      refine ⟨p + 1, pc, Q, l, st, _, _, _, ?_, by omega, hs, hN', by omega, ?_, rfl, rfl, o7, rfl⟩
      · rw [show w - (p + 1) = k by omega]
      · rw [show w - (p + 1) = k by omega]; exact hst
    | some q =>
      obtain ⟨f, m⟩ := q
      have es : stairZ p (k + 1) l = (p, f) :: stairZ (p + 1) k (m.map fun r => clearZ r f p) := by rw [stairZ, hp']
      rw [hp'] at hpick
      rw [es] at hst
      obtain ⟨j, R, h1, h2, h3, h4⟩ := hpick
      obtain ⟨hne, pm⟩ := pick_some hp'
      rw [Nat.zero_add] at h1
      obtain ⟨J, hJ⟩ : ∃ J : Int, J = j := ⟨_, rfl⟩
      rw [← hJ] at h1
      have eix : atI ((ableZ p l 0).map D.int) 0 = some (.int J) := by rw [h1]; exact at_0
      have hnb : (ableZ p l 0 = []) = False := eq_false (by rw [h1]; simp)
      have hfm : f ∈ l := pm.mem_iff.mpr List.mem_cons_self
      have hmm : ∀ x ∈ m, x ∈ l := fun x hx => pm.mem_iff.mpr (List.mem_cons_of_mem _ hx)
      have hz : (l.map lI).length ≤ sizeLine := by rw [List.length_map]; exact size_le (by omega)
      have epop : popD (some J) (lL l) = some (lI f, lL m) := by
        show (if (l.map lI).length ≤ sizeLine then (ixN (l.map lI).length J).bind fun j => ((l.map lI)[j]?).map fun d => (d, D.lst ((l.map lI).eraseIdx j)) else none) = _
        have e3 : ixN (l.map lI).length J = some j := by
          unfold ixN
          rw [if_pos (by omega), if_pos (by rw [List.length_map]; omega)]
          congr 1
          omega
        rw [if_pos hz, e3, Option.bind_some, List.getElem?_map, h3, h4, era_mapG]
        rfl
      have ecl := fun (x : List Int) (hx : x ∈ m) => cleared_z H.cleared H.lessened H.divisor n (r := x) (f := f) hP (by rw [hlen x (hmm x hx)]; exact hpc) (by rw [hlen f hfm]; exact hpc) (hbits x (hmm x hx)) (hbits f hfm)
      have hzs : (st.map stepD).length < sizeLine := by rw [List.length_map]; exact size_lt (by omega)
      rw [wp_cons]
      simp_arith [eq_nil, hnb, ev_pop, eix, epop, o7, -wp_cons, -kont_nx]
      rw [wp_cons]
      simp_arith [eq_nil, hnb, ev_pop, eix, epop, o7, -wp_cons, -kont_nx]
      rw [kont_nx, wp_cons]
      simp_arith [kinds_of H.cleared, f_cleared, -wp_cons, -kont_nx]
      rw [compM lI (fun _ => true) (fun x => lI (clearZ x f p)) rfl fun x hx => ⟨_, _, by rfl, by rfl, by rfl, fun _ => by
        obtain ⟨o, e⟩ := ecl x hx
        exact ⟨o, _, by simp_arith! [kinds_of H.cleared, f_cleared, e], by rfl⟩⟩, filt_all]
      obtain ⟨R', hs'⟩ := stg_step hs hne ⟨hpc, hβ p (by omega)⟩ pm
      simp_arith [hzs]
      refine ⟨p + 1, pc ++ [p], Q ++ [R'], m.map fun x => clearZ x f p, st ++ [(p, f)], .fr (.int P), .ow (.lst ((ableZ p l 0).map .int)), .fr (lI f), ?_, by omega, hs', ?_, ?_, ?_, rfl, rfl, rfl, ?_⟩
      · rw [show w - (p + 1) = k by omega]
      · have := pm.length_eq
        simp only [List.length_append, List.length_cons, List.length_nil, List.length_map] at *
        omega
      · rw [List.length_append]
        simp
        omega
      · rw [show w - (p + 1) = k by omega, List.append_assoc]
        exact hst
      · rw [List.map_append, hP]
        simp [stepD, Function.comp_def]
end Pd
set_option Elab.async false
set_option linter.all false
/-norgs-/
set_option maxHeartbeats 0
/-! Ld7: solved and falls_apart, walked. -/
namespace Pd
open PySem L2
set_option maxRecDepth 100000
set_option hygiene false in
local macro_rules
  | `(tactic| simp_arith [$as,*]) => `(tactic| simp only [reduceIte, outsOf, Nat.reduceBEq, bind_ok, bind_no, exec, ev_var, ev_non, ev_bl, ev_int, ev_str, ev_tup, ev_lst, ev_dct, ev_bin, ev_neg, ev_not, ev_cmp, ev_chn, ev_and, ev_or, ev_ite, ev_ix, ev_sl, ev_bi, ev_isi, ev_call, ev_pop, ev_comp, ev_sortedR, ev_rev, ev_rgs, ev_sset, ev_meet, ev_me, ev_tin, ev_cst, rev_lst, rev_tup, few_ints, sset_ints, evalVs, evalOs, evalAs, evalI, op1, op2, opd, argD, hasV, mineV, getOp, getOps, Sl.val, varD, retD, testD, condD, partD, optR_some, optR_if, optF_some, optF_none, optR_none, wp_ok, wp_no, wp_ex, wp_bind, wp_ifno, wp_noif, wp_noEx, wp_unlF, List.any_cons, List.any_nil, Int.reducePow, Int.reduceToNat, natAbs_lit, Int.reduceLE, Int.reduceLT, Int.reduceNeg, Nat.reduceLT, Nat.reduceLeDiff, Nat.reducePow, Nat.reduceAdd, Int.reduceAdd, Int.reduceEq, Nat.reduceEqDiff, Bool.or_self, Bool.and_self, ixV, ixD, implies_true, false_implies, true_implies, forall_const, wp_cons, run_eq, after_ok, ioDup, getArs, unlk_nx, unlk_rt, lpk_nx, lpk_ct, lpk_bk, lpk_rt, nxk_nx, Option.some.injEq, exists_eq_left', kont_nx, kont_rt, kont_bk, kont_ct, wp_nil, setSl_0, setSl_1, setSl_2, setSl_3, setSl_4, setSl_5, setSl_6, setSl_7, setSl_8, setSl_9, setSl_10, setSl_11, setSl_12, setSl_13, setSl_14, setSl_15, setSl_16, setSl_17, setSl_18, setSl_19, setSl_20, setSl_21, setSl_22, setSl_23, setSl_24, setSl_25, ends_rt, ends_nx,  isOk_no, isOk_fr, isOk_ow, isOk_bo, isFr_no, isFr_fr, bindI, bindT, setTD, bin_add, bin_sub, bin_mul', bin_mod', bin_fdiv', bin_pow, bin_addT, bin_addL, cmpV, cmp_eq, cmp_ne, cmp_lt, cmp_le, cmp_gt, cmp_ge, cmp_inT, cmp_inL, cmp_ninT, cmp_ninL, cmp_is, cmp_isn, isD, eq_int, eq_ints, eq_intsT, isiV, isiD, bi_lenT, bi_lenL, bi_abs, bi_sum, bi_min2, bi_max2, bi_tupT, bi_tupL, bi_lstT, bi_lstL, bi_intI, bi_intB, bi_boolB, bi_all, bi_any, bi_sorted, muD_append, muD_reverse, muD_clear, sl_tup, sl_lst, bin_mulL, isl_lst, opt_if, optF_if, negD, notD, lsOk, lends, lend, unlend, opSl, wipeOk, wipeS, backS, seqD, itrD, getAr, putIo, putOuts, augS, augD, modSl, List.getElem?_cons_zero, List.getElem?_cons_succ, List.set_cons_zero, List.set_cons_succ, List.getD_cons_zero, List.getD_cons_succ, Option.map_some, Option.map_none, Option.isSome_some, Option.any_some, Option.bind_some, Option.bind_none, Bool.and_true, Bool.true_and, Bool.and_false, Bool.false_and, Bool.or_false, Bool.false_or, Bool.true_or, Bool.or_true, Bool.not_true, Bool.not_false, List.all_cons, List.all_nil, List.map_cons, List.map_nil, List.cons_append, List.nil_append, if_true, if_false, reduceCtorEq, Bool.false_eq_true, ite_true, ite_false, ite_cond_eq_true, tb_kinds, decide_true, decide_false, true_and, and_true, ne_eq, not_true_eq_false, not_false_eq_true, List.length_cons, List.length_nil, beq_self_eq_true, bin_mulT, bi_str, bi_sumT, bi_minL, bi_maxL, ev_tget, ev_tgetE, ev_dzip, ev_dprs, ev_fld, ev_mk, tb_cst, tb_tab, tb_isC, tb_isM, tb_isF, tb_mkC, at_0, at_1, at_2, tin_str, tget_str, tgetE_str, str_inj, String.reduceEq, eq_str, in_str2, sk_each, sk_cover, sk_cut, sk_steps, sk_forest, sk_table, sk_plus, sk_times, sk_upto, sk_behind, sk_among, sk_turned, bne_self_eq_false, Bool.true_bne, Bool.false_bne, Bool.not_true, Bool.not_false, $as,*])
set_option hygiene false in
local macro_rules
  | `(tactic| simp_arith) => `(tactic| simp_arith [if_true])
  | `(tactic| simp_arith!) => `(tactic| first | (simp_arith [if_true]; done) | (simp_arith [if_true]; rfl))
  | `(tactic| simp_arith! [$as,*]) => `(tactic| first | (simp_arith [$as,*]; done) | (simp_arith [$as,*]; rfl))
def f_falls_apart : Fn := ⟨[.bo], 1, [.ret (.and (.cmp .Gt (.bi .len [.var 0]) (.int 0)) (.cmp .Lt (.bi .len [.call "stairs" [.var 0, .bi .len [.ix (.var 0) (.int 0)]]]) (.bi .len [.var 0])))]⟩
structure FalM (M : Md) : Prop extends SolvM M where
  falls_apart : M.fns "falls_apart" = some f_falls_apart
theorem falls_z {M : Md} (H : FalM M) (n : Nat) {rows : List (List Int)} {c B : Nat} (hr : ∀ r ∈ rows, r.length = c) (hc : c ≤ 900) (hN : rows.length ≤ 900) (hB : 1 ≤ B) (hb : ∀ r ∈ rows, ∀ x ∈ r, x.natAbs ≤ B) (hg : gB B B rows.length < 2 ^ 3000) :
    ∃ v : Bool, callN M (n + 5) "falls_apart" [lL rows] = .ok false (.bl v) [] ∧ (v = true ↔ 0 < rows.length ∧ Dep c (rows.map rowR)) := by
  cases rows with
  | nil =>
    refine ⟨false, wc_eq (wc_of H.falls_apart ⟨rfl, by decide⟩ ?_), by simp⟩
    show Wp (execs (M.tb (n + 4)) f_falls_apart.body [.bo (lL [])]) _
    have h0 : decide (0 < ((0 : Nat) : Int)) = false := by decide
    simp_arith [f_falls_apart, lL, h0]
  | cons r0 rows =>
    obtain ⟨C, hC⟩ : ∃ C : Int, C = c := ⟨_, rfl⟩
    have hbR : ∀ r ∈ r0 :: rows, ∀ j, j < c → (rowR r j).natAbs ≤ B := fun r h j hj => by
      rw [rowR_in (by rw [hr r h]; exact hj)]
      exact hb r h _ (List.getElem_mem _)
    have est := stairs_z H.toSolvM n (rows := r0 :: rows) (c := c) (B := B) (W := B) (β := fun _ => B) (w := c) hr (Nat.le_refl _) (by omega) (by omega) hB hbR (fun _ _ => Nat.le_refl _) (fun _ _ => Nat.le_refl _) hg hC
    have hdep := stair_dep (n := c) c 0 (r0 :: rows) hr fun r _ j hj => by omega
    rw [Nat.zero_add] at hdep
    refine ⟨decide ((stairZ 0 c (r0 :: rows)).length < (r0 :: rows).length), wc_eq (wc_of H.falls_apart ⟨rfl, by decide⟩ ?_), ?_⟩
    · show Wp (execs (M.tb (n + 4)) f_falls_apart.body [.bo (lL (r0 :: rows))]) _
      obtain ⟨N, hN'⟩ : ∃ N : Int, N = ((List.map lI (r0 :: rows)).length : Int) := ⟨_, rfl⟩
      obtain ⟨S, hS⟩ : ∃ S : Int, S = (((stairZ 0 c (r0 :: rows)).map stepD).length : Int) := ⟨_, rfl⟩
      have h0 : (0 < N) = True := eq_true (by rw [hN']; simp)
      have h1 : ((r0.map D.int).length : Int) = C := by rw [List.length_map, hr r0 List.mem_cons_self, hC]
      have h2 : atI (List.map lI (r0 :: rows)) 0 = some (lI r0) := at_0
      have h3 : decide ((stairZ 0 c (r0 :: rows)).length < (r0 :: rows).length) = decide (S < N) := by
        rw [hS, hN', List.length_map, List.length_map]
        by_cases h : (stairZ 0 c (r0 :: rows)).length < (r0 :: rows).length
        · rw [decide_eq_true h, decide_eq_true (by omega)]
        · rw [decide_eq_false h, decide_eq_false (by omega)]
      rw [h3]
      unfold lL at est ⊢
      generalize List.map lI (r0 :: rows) = LL at *
      simp_arith [f_falls_apart, ← hN', h0, h2, h1, kinds_of H.stairs, f_stairs, est, ← hS]
    · rw [decide_eq_true_iff, hdep]
      simp
end Pd
set_option Elab.async false
set_option linter.all false
set_option maxHeartbeats 0
/-norgs-/
/-! Ls1: points that are alike; rows scaled, mixed, put in order; great numbers drawn; orders of more things. -/
namespace Pd
open PySem L2
set_option maxRecDepth 100000
set_option hygiene false in
local macro_rules
  | `(tactic| simp_arith [$as,*]) => `(tactic| simp only [reduceIte, outsOf, Nat.reduceBEq, bind_ok, bind_no, exec, ev_var, ev_non, ev_bl, ev_int, ev_str, ev_tup, ev_lst, ev_dct, ev_bin, ev_neg, ev_not, ev_cmp, ev_chn, ev_and, ev_or, ev_ite, ev_ix, ev_sl, ev_bi, ev_isi, ev_call, ev_pop, ev_comp, ev_sortedR, ev_rev, ev_rgs, ev_sset, ev_meet, ev_me, ev_tin, ev_cst, rev_lst, rev_tup, few_ints, sset_ints, evalVs, evalOs, evalAs, evalI, op1, op2, opd, argD, hasV, mineV, getOp, getOps, Sl.val, varD, retD, testD, condD, partD, optR_some, optR_if, optF_some, optF_none, optR_none, wp_ok, wp_no, wp_ex, wp_bind, wp_ifno, wp_noif, wp_noEx, wp_unlF, List.any_cons, List.any_nil, Int.reducePow, Int.reduceToNat, natAbs_lit, Int.reduceLE, Int.reduceLT, Int.reduceNeg, Nat.reduceLT, Nat.reduceLeDiff, Nat.reducePow, Nat.reduceAdd, Int.reduceAdd, Int.reduceEq, Nat.reduceEqDiff, Bool.or_self, Bool.and_self, ixV, ixD, implies_true, false_implies, true_implies, forall_const, wp_cons, run_eq, after_ok, ioDup, getArs, unlk_nx, unlk_rt, lpk_nx, lpk_ct, lpk_bk, lpk_rt, nxk_nx, Option.some.injEq, exists_eq_left', kont_nx, kont_rt, kont_bk, kont_ct, wp_nil, setSl_0, setSl_1, setSl_2, setSl_3, setSl_4, setSl_5, setSl_6, setSl_7, setSl_8, setSl_9, setSl_10, setSl_11, setSl_12, setSl_13, setSl_14, setSl_15, setSl_16, setSl_17, setSl_18, setSl_19, setSl_20, setSl_21, setSl_22, setSl_23, setSl_24, setSl_25, ends_rt, ends_nx,  isOk_no, isOk_fr, isOk_ow, isOk_bo, isFr_no, isFr_fr, bindI, bindT, setTD, bin_add, bin_sub, bin_mul', bin_mod', bin_fdiv', bin_pow, bin_addT, bin_addL, cmpV, cmp_eq, cmp_ne, cmp_lt, cmp_le, cmp_gt, cmp_ge, cmp_inT, cmp_inL, cmp_ninT, cmp_ninL, cmp_is, cmp_isn, isD, eq_int, eq_ints, eq_intsT, isiV, isiD, bi_lenT, bi_lenL, bi_abs, bi_sum, bi_min2, bi_max2, bi_tupT, bi_tupL, bi_lstT, bi_lstL, bi_intI, bi_intB, bi_boolB, bi_all, bi_any, bi_sorted, muD_append, muD_reverse, muD_clear, sl_tup, sl_lst, bin_mulL, isl_lst, opt_if, optF_if, negD, notD, lsOk, lends, lend, unlend, opSl, wipeOk, wipeS, backS, seqD, itrD, getAr, putIo, putOuts, augS, augD, modSl, List.getElem?_cons_zero, List.getElem?_cons_succ, List.set_cons_zero, List.set_cons_succ, List.getD_cons_zero, List.getD_cons_succ, Option.map_some, Option.map_none, Option.isSome_some, Option.any_some, Option.bind_some, Option.bind_none, Bool.and_true, Bool.true_and, Bool.and_false, Bool.false_and, Bool.or_false, Bool.false_or, Bool.true_or, Bool.or_true, Bool.not_true, Bool.not_false, List.all_cons, List.all_nil, List.map_cons, List.map_nil, List.cons_append, List.nil_append, if_true, if_false, reduceCtorEq, Bool.false_eq_true, ite_true, ite_false, ite_cond_eq_true, tb_kinds, decide_true, decide_false, true_and, and_true, ne_eq, not_true_eq_false, not_false_eq_true, List.length_cons, List.length_nil, beq_self_eq_true, bin_mulT, bi_str, bi_sumT, bi_minL, bi_maxL, ev_tget, ev_tgetE, ev_dzip, ev_dprs, ev_fld, ev_mk, tb_cst, tb_tab, tb_isC, tb_isM, tb_isF, tb_mkC, at_0, at_1, at_2, tin_str, tget_str, tgetE_str, str_inj, String.reduceEq, eq_str, in_str2, sk_each, sk_cover, sk_cut, sk_steps, sk_forest, sk_table, sk_plus, sk_times, sk_upto, sk_behind, sk_among, sk_turned, bne_self_eq_false, Bool.true_bne, Bool.false_bne, Bool.not_true, Bool.not_false, $as,*])
set_option hygiene false in
local macro_rules
  | `(tactic| simp_arith) => `(tactic| simp_arith [if_true])
  | `(tactic| simp_arith!) => `(tactic| first | (simp_arith [if_true]; done) | (simp_arith [if_true]; rfl))
  | `(tactic| simp_arith! [$as,*]) => `(tactic| first | (simp_arith [$as,*]; done) | (simp_arith [$as,*]; rfl))
/-! rows times numbers -/
/-! rows in steps -/
def Tri : Nat → List Rw → Prop
  | _, [] => True
  | k, r :: L => r k ≠ 0 ∧ (∀ x ∈ L, x k = 0) ∧ Tri (k + 1) L
theorem tri_ind {w : Nat} : ∀ (k : Nat) (L : List Rw), k + L.length ≤ w → Tri k L → ¬ Dep w L
  | _, [], _, _, ⟨P, h1, ⟨q, h2, _⟩, _⟩ => by
    have : P = [] := by simpa using h1
    rw [this] at h2
    cases h2
  | k, r :: L, hk, h, hd => by
    rw [List.length_cons] at hk
    exact tri_ind (k + 1) L (by omega) h.2.2 ((dep_pivot (by omega) h.1 h.2.1).mp hd)
/-! drawn -/
def f_l_big : Fn := ⟨[.io], 2, [.ite (.cmp .Eq (.call "_law_take" [.var 0, .int 4]) (.int 3)) [.set 1 (.bin .Sub (.call "_law_take" [.var 0, .bin .Add (.bin .Mult (.int 2) (.bin .Pow (.int 10) (.int 9))) (.int 1)]) (.bin .Pow (.int 10) (.int 9))),
  .ret (.bin .Add (.bin .Mult (.var 1) (.ix (.lst [.int 1, .bin .Add (.bin .Pow (.int 10) (.int 9)) (.int 7), .bin .Add (.bin .Pow (.int 10) (.int 20)) (.int 39)]) (.call "_law_take" [.var 0, .int 3]))) (.call "_law_take" [.var 0, .int 1000]))] [],
  .ret (.bin .Sub (.call "_law_take" [.var 0, .int 11]) (.int 5))]⟩
theorem ten9 : (10 : Int) ^ (9 : Nat) = 1000000000 := by decide
theorem ten20 : (10 : Int) ^ (20 : Nat) = 100000000000000000000 := by decide
theorem big_ok {M : Md} (ht : M.fns "_law_take" = some fTake) (h : M.fns "_law_big" = some f_l_big) (n : Nat) {s : D} (hs : IsSt s) : Wc M (n + 2) "_law_big" [s] fun o d outs => ∃ (v : Int) (s' : D), o = false ∧ d = .int v ∧ outs = [s'] ∧ IsSt s' ∧ v.natAbs < 2 ^ 98 := by
  refine wc_of h ⟨rfl, by decide⟩ ?_
  show Wp (execs (M.tb (n + 1)) f_l_big.body [.io s, .no]) _
  unfold f_l_big
  dsimp only
  rw [wp_cons]
  simp_arith [kinds_take ht, -kont_nx, -wp_cons]
  refine wp_take ht hs (by decide) (by decide) fun v s1 is1 v0 v1 => ⟨_, rfl, ?_⟩
  simp_arith [eq_int, -kont_nx, -wp_cons]
  rw [wp_if]
  refine ⟨fun _ => ?_, fun _ => ?_⟩
  · have m2 : mulOk 2 1000000000 := mulOk_b 2 30 (by decide) (by decide) (by decide)
    rw [wp_cons]
    simp_arith [kinds_take ht, ten9, m2, -kont_nx, -wp_cons]
    refine wp_take ht is1 (by decide) (by decide) fun a s2 is2 a0 a1 => ⟨_, rfl, ?_⟩
    simp_arith [ten9, -kont_nx, -wp_cons]
    rw [kont_nx, wp_cons]
    simp_arith [kinds_take ht, ten9, ten20, -kont_nx, -wp_cons]
    refine wp_take ht is2 (by decide) (by decide) fun b s3 is3 b0 b1 => ⟨_, rfl, ?_⟩
    obtain ⟨p, at_, p0, p1⟩ : ∃ p : Int, atI [D.int 1, D.int 1000000007, D.int 100000000000000000039] b = some (.int p) ∧ 0 ≤ p ∧ p ≤ 100000000000000000039 := by
      have : b = 0 ∨ b = 1 ∨ b = 2 := by omega
      rcases this with rfl | rfl | rfl
      · exact ⟨1, rfl, by decide, by decide⟩
      · exact ⟨_, rfl, by decide, by decide⟩
      · exact ⟨_, rfl, by decide, by decide⟩
    have m3 : mulOk (a - 1000000000) p := mulOk_b 31 68 (by omega) (by omega) (by decide)
    simp_arith [at_, m3, kinds_take ht, -kont_nx, -wp_cons]
    refine wp_take ht is3 (by decide) (by decide) fun c s4 is4 c0 c1 => ⟨_, rfl, ?_⟩
    simp_arith
    refine ⟨_, s4, rfl, rfl, is4, ?_⟩
    have hab : ((a - 1000000000) * p).natAbs ≤ 1000000000 * 100000000000000000039 := by
      rw [Int.natAbs_mul]
      exact Nat.mul_le_mul (by omega) (by omega)
    have := Int.natAbs_add_le ((a - 1000000000) * p) c
    omega
  · simp_arith [kinds_take ht]
    refine wp_take ht is1 (by decide) (by decide) fun a s2 is2 a0 a1 => ⟨_, rfl, ?_⟩
    simp_arith
    exact ⟨_, s2, rfl, rfl, is2, by omega⟩
end Pd
set_option Elab.async false
set_option linter.all false
set_option maxHeartbeats 0
/-norgs-/
/-! Lt1: rows fall apart just where each choice of columns spans nothing. -/
namespace Pd
open PySem L2
set_option maxRecDepth 100000
set_option hygiene false in
local macro_rules
  | `(tactic| simp_arith [$as,*]) => `(tactic| simp only [reduceIte, outsOf, Nat.reduceBEq, bind_ok, bind_no, exec, ev_var, ev_non, ev_bl, ev_int, ev_str, ev_tup, ev_lst, ev_dct, ev_bin, ev_neg, ev_not, ev_cmp, ev_chn, ev_and, ev_or, ev_ite, ev_ix, ev_sl, ev_bi, ev_isi, ev_call, ev_pop, ev_comp, ev_sortedR, ev_rev, ev_rgs, ev_sset, ev_meet, ev_me, ev_tin, ev_cst, rev_lst, rev_tup, few_ints, sset_ints, evalVs, evalOs, evalAs, evalI, op1, op2, opd, argD, hasV, mineV, getOp, getOps, Sl.val, varD, retD, testD, condD, partD, optR_some, optR_if, optF_some, optF_none, optR_none, wp_ok, wp_no, wp_ex, wp_bind, wp_ifno, wp_noif, wp_noEx, wp_unlF, List.any_cons, List.any_nil, Int.reducePow, Int.reduceToNat, natAbs_lit, Int.reduceLE, Int.reduceLT, Int.reduceNeg, Nat.reduceLT, Nat.reduceLeDiff, Nat.reducePow, Nat.reduceAdd, Int.reduceAdd, Int.reduceEq, Nat.reduceEqDiff, Bool.or_self, Bool.and_self, ixV, ixD, implies_true, false_implies, true_implies, forall_const, wp_cons, run_eq, after_ok, ioDup, getArs, unlk_nx, unlk_rt, lpk_nx, lpk_ct, lpk_bk, lpk_rt, nxk_nx, Option.some.injEq, exists_eq_left', kont_nx, kont_rt, kont_bk, kont_ct, wp_nil, setSl_0, setSl_1, setSl_2, setSl_3, setSl_4, setSl_5, setSl_6, setSl_7, setSl_8, setSl_9, setSl_10, setSl_11, setSl_12, setSl_13, setSl_14, setSl_15, setSl_16, setSl_17, setSl_18, setSl_19, setSl_20, setSl_21, setSl_22, setSl_23, setSl_24, setSl_25, ends_rt, ends_nx,  isOk_no, isOk_fr, isOk_ow, isOk_bo, isFr_no, isFr_fr, bindI, bindT, setTD, bin_add, bin_sub, bin_mul', bin_mod', bin_fdiv', bin_pow, bin_addT, bin_addL, cmpV, cmp_eq, cmp_ne, cmp_lt, cmp_le, cmp_gt, cmp_ge, cmp_inT, cmp_inL, cmp_ninT, cmp_ninL, cmp_is, cmp_isn, isD, eq_int, eq_ints, eq_intsT, isiV, isiD, bi_lenT, bi_lenL, bi_abs, bi_sum, bi_min2, bi_max2, bi_tupT, bi_tupL, bi_lstT, bi_lstL, bi_intI, bi_intB, bi_boolB, bi_all, bi_any, bi_sorted, muD_append, muD_reverse, muD_clear, sl_tup, sl_lst, bin_mulL, isl_lst, opt_if, optF_if, negD, notD, lsOk, lends, lend, unlend, opSl, wipeOk, wipeS, backS, seqD, itrD, getAr, putIo, putOuts, augS, augD, modSl, List.getElem?_cons_zero, List.getElem?_cons_succ, List.set_cons_zero, List.set_cons_succ, List.getD_cons_zero, List.getD_cons_succ, Option.map_some, Option.map_none, Option.isSome_some, Option.any_some, Option.bind_some, Option.bind_none, Bool.and_true, Bool.true_and, Bool.and_false, Bool.false_and, Bool.or_false, Bool.false_or, Bool.true_or, Bool.or_true, Bool.not_true, Bool.not_false, List.all_cons, List.all_nil, List.map_cons, List.map_nil, List.cons_append, List.nil_append, if_true, if_false, reduceCtorEq, Bool.false_eq_true, ite_true, ite_false, ite_cond_eq_true, tb_kinds, decide_true, decide_false, true_and, and_true, ne_eq, not_true_eq_false, not_false_eq_true, List.length_cons, List.length_nil, beq_self_eq_true, bin_mulT, bi_str, bi_sumT, bi_minL, bi_maxL, ev_tget, ev_tgetE, ev_dzip, ev_dprs, ev_fld, ev_mk, tb_cst, tb_tab, tb_isC, tb_isM, tb_isF, tb_mkC, at_0, at_1, at_2, tin_str, tget_str, tgetE_str, str_inj, String.reduceEq, eq_str, in_str2, sk_each, sk_cover, sk_cut, sk_steps, sk_forest, sk_table, sk_plus, sk_times, sk_upto, sk_behind, sk_among, sk_turned, bne_self_eq_false, Bool.true_bne, Bool.false_bne, Bool.not_true, Bool.not_false, $as,*])
set_option hygiene false in
local macro_rules
  | `(tactic| simp_arith) => `(tactic| simp_arith [if_true])
  | `(tactic| simp_arith!) => `(tactic| first | (simp_arith [if_true]; done) | (simp_arith [if_true]; rfl))
  | `(tactic| simp_arith! [$as,*]) => `(tactic| first | (simp_arith [$as,*]; done) | (simp_arith [$as,*]; rfl))
def rst (c : List Nat) (r : Rw) : Rw := fun j => r (c.getD j 0)
/-- the law's choices of columns -/
def colZ : Nat → Nat → List (List Nat)
  | _, 0 => [[]]
  | w, k + 1 => (List.range' k (w - k)).flatMap fun l => (colZ l k).map fun c => c ++ [l]
theorem col_len : ∀ {k w : Nat} {c : List Nat}, c ∈ colZ w k → c.length = k ∧ ∀ x ∈ c, x < w
  | 0, w, c, h => by
    have : c = [] := by simpa [colZ] using h
    subst this
    exact ⟨rfl, fun x hx => by cases hx⟩
  | k + 1, w, c, h => by
    unfold colZ at h
    obtain ⟨l, hl, h⟩ := List.mem_flatMap.mp h
    obtain ⟨c', hc, rfl⟩ := List.mem_map.mp h
    obtain ⟨h1, h2⟩ := col_len hc
    have hlw : l < w := by have := List.mem_range'_1.mp hl; omega
    refine ⟨by rw [List.length_append, h1]; rfl, fun x hx => ?_⟩
    rcases List.mem_append.mp hx with hx | hx
    · have := h2 x hx; omega
    · rw [List.mem_singleton] at hx; omega
theorem col_last {w k : Nat} {c : List Nat} (hk : k ≤ w) (h : c ∈ colZ w k) : c ++ [w] ∈ colZ (w + 1) (k + 1) := by
  unfold colZ
  exact List.mem_flatMap.mpr ⟨w, List.mem_range'_1.mpr (by omega), List.mem_map_of_mem h⟩
theorem col_more : ∀ {k w : Nat} {c : List Nat}, c ∈ colZ w k → c ∈ colZ (w + 1) k
  | 0, w, c, h => h
  | k + 1, w, c, h => by
    unfold colZ at h ⊢
    obtain ⟨l, hl, h⟩ := List.mem_flatMap.mp h
    exact List.mem_flatMap.mpr ⟨l, List.mem_range'_1.mpr (by have := List.mem_range'_1.mp hl; omega), h⟩
theorem cmb_rst (c : List Nat) (j : Nat) : ∀ P : List (Int × Rw), cmb (P.map fun p => (p.1, rst c p.2)) j = cmb P (c.getD j 0)
  | [] => rfl
  | p :: P => by rw [List.map_cons, cmb_cons, cmb_cons, cmb_rst c j P]; rfl
theorem det_rst {w : Nat} {L : List Rw} {c : List Nat} (hl : c.length = L.length) (hc : ∀ x ∈ c, x < w) (h : Dep w L) : detR (L.map (rst c)) = 0 := by
  refine det_of_dep ?_
  rw [List.length_map, ← hl]
  obtain ⟨P, h1, ⟨q, h2, h3⟩, h4⟩ := h
  refine ⟨P.map fun p => (p.1, rst c p.2), ?_, ⟨_, List.mem_map_of_mem h2, h3⟩, fun j hj => ?_⟩
  · rw [← h1, List.map_map, List.map_map]; rfl
  · rw [cmb_rst]
    refine h4 _ (hc _ ?_)
    rw [List.getD, List.getElem?_eq_getElem hj]
    exact List.getElem_mem hj
theorem det_lastcol {r : Rw} {L : List Rw} (h : ∀ j, j < L.length → r j = 0) : detR (r :: L) = sgn L.length * r L.length * detR (L.map (dropc L.length)) := by
  rw [detR_cons]
  exact sumN_one (by omega) fun j hj hn => by rw [h j (by omega), Int.mul_zero, Int.zero_mul]
theorem sgn_ne (k : Nat) : sgn k ≠ 0 := fun z => by
  have := sgn_abs k
  rw [z] at this
  cases this
/-- rows that don't fall apart span something in some columns -/
theorem det_found : ∀ (w : Nat) (L : List Rw), L.length ≤ w → ¬ Dep w L → ∃ c ∈ colZ w L.length, detR (L.map (rst c)) ≠ 0
  | 0, L, hl, _ => by
    have : L = [] := List.eq_nil_of_length_eq_zero (by omega)
    subst this
    exact ⟨[], by simp [colZ], by rw [List.map_nil, detR_nil]; decide⟩
  | w + 1, L, hl, hn => by
    by_cases hd : Dep w L
    · obtain ⟨P, h1, ⟨q, h2, h3⟩, h4⟩ := hd
      have hw : cmb P w ≠ 0 := fun z => hn ⟨P, h1, ⟨q, h2, h3⟩, fun j hj => by
        by_cases e : j < w
        · exact h4 j e
        · rw [show j = w by omega]; exact z⟩
      obtain ⟨a, b, rfl⟩ := List.append_of_mem h2
      rw [List.map_append, List.map_cons] at h1
      subst h1
      have hp : ((a.map (·.2)) ++ q.2 :: b.map (·.2)).Perm (q.2 :: (a ++ b).map (·.2)) := by rw [List.map_append]; exact List.perm_middle
      have hlen : ((a ++ b).map (·.2)).length + 1 = ((a.map (·.2)) ++ q.2 :: b.map (·.2)).length := by simp; omega
      have hn' : ¬ Dep w ((a ++ b).map (·.2)) := fun ⟨B, g1, ⟨p, g2, g3⟩, g4⟩ => by
        refine hn (Dep.perm ?_ hp.symm)
        by_cases hb : cmb B w = 0
        · refine Dep.cons ⟨B, g1, ⟨p, g2, g3⟩, fun j hj => ?_⟩ q.2
          by_cases e : j < w
          · exact g4 j e
          · rw [show j = w by omega]; exact hb
        · have hz : ∀ (A B : List (Int × Rw)) (x y : Int), A.map (·.2) = B.map (·.2) → ∃ C : List (Int × Rw), C.map (·.2) = A.map (·.2) ∧ ∀ j, cmb C j = x * cmb A j + y * cmb B j := by
            intro A
            induction A with
            | nil =>
              intro B x y h
              have : B = [] := by simpa using h.symm
              subst this
              exact ⟨[], rfl, fun j => by simp [cmb_nil]⟩
            | cons u A ih =>
              intro B x y h
              cases B with
              | nil => cases h
              | cons v B =>
                simp only [List.map_cons, List.cons.injEq] at h
                obtain ⟨C, c1, c2⟩ := ih B x y h.2
                refine ⟨(x * u.1 + y * v.1, u.2) :: C, by rw [List.map_cons, List.map_cons, c1], fun j => ?_⟩
                rw [cmb_cons, cmb_cons, cmb_cons, c2 j, ← h.1]
                dsimp only
                rw [Int.add_mul, Int.mul_add, Int.mul_add, Int.mul_assoc, Int.mul_assoc]
                omega
          have hAB : cmb (a ++ q :: b) w = q.1 * q.2 w + cmb (a ++ b) w := by rw [cmb_perm List.perm_middle, cmb_cons]
          obtain ⟨C, c1, c2⟩ := hz (a ++ b) B (- cmb B w) (cmb (a ++ q :: b) w) g1.symm
          refine ⟨(- cmb B w * q.1, q.2) :: C, by rw [List.map_cons, c1], ⟨_, List.mem_cons_self, Int.mul_ne_zero (by omega) h3⟩, fun j hj => ?_⟩
          rw [cmb_cons, c2 j]
          dsimp only
          have e1 : cmb (a ++ q :: b) j = q.1 * q.2 j + cmb (a ++ b) j := by rw [cmb_perm List.perm_middle, cmb_cons]
          have e2 : - cmb B w * q.1 * q.2 j + (- cmb B w * cmb (a ++ b) j + cmb (a ++ q :: b) w * cmb B j) = - cmb B w * cmb (a ++ q :: b) j + cmb (a ++ q :: b) w * cmb B j := by
            rw [e1, Int.mul_add, ← Int.mul_assoc]; omega
          rw [e2]
          by_cases e : j < w
          · rw [h4 j e, g4 j e]; simp
          · rw [show j = w by omega, Int.neg_mul, Int.mul_comm (cmb B w)]; omega
      have hln : ((a ++ b).map (·.2)).length ≤ w := by omega
      obtain ⟨c, hc, hdet⟩ := det_found w _ hln hn'
      obtain ⟨k1, k2⟩ := col_len hc
      refine ⟨c ++ [w], by rw [← hlen]; exact col_last hln hc, fun z => hdet ?_⟩
      rw [List.map_append, List.map_cons, det_front] at z
      have z1 := (Int.mul_eq_zero.mp z).resolve_left (sgn_ne _)
      rw [← List.map_append, ← List.map_append] at z1
      -- the first row, times its number, with all others put to it
      have e1 := det_comb [] (((a ++ b).map (·.2)).map (rst (c ++ [w]))) (rMul q.1 (rst (c ++ [w]) q.2)) ((a ++ b).map fun p => (p.1, rst (c ++ [w]) p.2)) fun p hp => by
        obtain ⟨x, hx, rfl⟩ := List.mem_map.mp hp
        rw [List.nil_append, List.map_map]
        exact List.mem_map_of_mem hx
      have e2 := det_mul [] (((a ++ b).map (·.2)).map (rst (c ++ [w]))) q.1 (rst (c ++ [w]) q.2)
      rw [List.nil_append, List.nil_append] at e1 e2
      rw [e2, z1, Int.mul_zero] at e1
      have hrow : ∀ j, rMul q.1 (rst (c ++ [w]) q.2) j + cmb ((a ++ b).map fun p => (p.1, rst (c ++ [w]) p.2)) j = cmb (a ++ q :: b) ((c ++ [w]).getD j 0) := fun j => by
        rw [cmb_rst, cmb_perm List.perm_middle, cmb_cons]; rfl
      have hkl : (((a ++ b).map (·.2)).map (rst (c ++ [w]))).length = c.length := by rw [List.length_map, k1]
      rw [det_lastcol fun j hj => by
        rw [hrow]
        rw [hkl] at hj
        refine h4 _ ?_
        rw [List.getD, List.getElem?_append_left hj, List.getElem?_eq_getElem hj]
        exact k2 _ (List.getElem_mem hj)] at e1
      rw [hrow, hkl] at e1
      have hlw : (c ++ [w]).getD c.length 0 = w := by
        rw [List.getD, List.getElem?_append_right (Nat.le_refl _), Nat.sub_self]; rfl
      rw [hlw] at e1
      have e3 := (Int.mul_eq_zero.mp e1).resolve_left (Int.mul_ne_zero (sgn_ne _) hw)
      rw [← e3]
      refine det_congr c.length _ _ (by rw [List.length_map, k1]) (by rw [List.length_map, hkl]) fun i hi j hj => ?_
      have hi' : i < ((a ++ b).map (·.2)).length := by omega
      simp only [List.getD, List.getElem?_map, List.getElem?_eq_getElem hi', Option.map_some, Option.getD_some]
      unfold dropc rst
      rw [if_pos hj]
      simp only [List.getD]
      rw [List.getElem?_append_left hj]
    · have hl' : L.length ≤ w := Nat.le_of_not_lt fun z => hd (pigeon w L z)
      obtain ⟨c, hc, h⟩ := det_found w L hl' hd
      exact ⟨c, col_more hc, h⟩
/-! the law's own looks, walked -/
def f_l_columns : Fn := ⟨[.bo, .bo], 5, [.ite (.cmp .Eq (.var 1) (.int 0)) [.ret (.lst [.tup []])] [],
  .set 2 (.lst []),
  .forr [3] true (.rng2 (.bin .Sub (.var 1) (.int 1)) (.var 0)) [.set 2 (.bin .Add (.var 2) (.comp (.bin .Add (.var 4) (.tup [.var 3])) [4] true (.itr (.call "_law_columns" [.var 3, .bin .Sub (.var 1) (.int 1)])) .nil [4]))],
  .ret (.var 2)]⟩
def f_l_det : Fn := ⟨[.bo], 4, [.ite (.cmp .Eq (.var 0) (.lst [])) [.ret (.int 1)] [],
  .set 1 (.int 0),
  .forr [2] true (.rng1 (.bi .len [.var 0])) [.ite (.cmp .NotEq (.ix (.ix (.var 0) (.int 0)) (.var 2)) (.int 0)) [.set 1 (.bin .Add (.var 1) (.bin .Mult (.bin .Mult (.ix (.lst [.int 1, .neg (.int 1)]) (.bin .Mod (.var 2) (.int 2))) (.ix (.ix (.var 0) (.int 0)) (.var 2))) (.call "_law_det" [.comp (.bin .Add (.sl (.var 3) .nil (.var 2)) (.sl (.var 3) (.bin .Add (.var 2) (.int 1)) .nil)) [3] true (.itr (.sl (.var 0) (.int 1) .nil)) .nil [3]])))] []],
  .ret (.var 1)]⟩
def cutR1 (k : Nat) (r : List Int) : List Int := r.take k ++ r.drop (k + 1)
theorem cutR1_row {k : Nat} {r : List Int} (hk : k < r.length) : ∀ j, rowR (cutR1 k r) j = dropc k (rowR r) j := fun j => by
  unfold cutR1 dropc rowR
  by_cases h : j < k
  · rw [if_pos h, List.getD, List.getD, List.getElem?_append_left (by rw [List.length_take]; omega), List.getElem?_take_of_lt h]
  · rw [if_neg h, List.getD, List.getD, List.getElem?_append_right (by rw [List.length_take]; omega), List.length_take, List.getElem?_drop, show k + 1 + (j - min k r.length) = j + 1 by omega]
theorem cut1_len {k n : Nat} {r : List Int} (hr : r.length = n + 1) (hk : k < n + 1) : (cutR1 k r).length = n := by
  unfold cutR1
  rw [List.length_append, List.length_take, List.length_drop]
  omega
theorem det_map {rs : List (List Int)} {f g : List Int → Rw} {n : Nat} (hl : rs.length = n) (h : ∀ r ∈ rs, ∀ j, j < n → f r j = g r j) : detR (rs.map f) = detR (rs.map g) := by
  refine det_congr n _ _ (by rw [List.length_map, hl]) (by rw [List.length_map, hl]) fun i hi j hj => ?_
  have hi' : i < rs.length := by omega
  simp only [List.getD, List.getElem?_map, List.getElem?_eq_getElem hi', Option.map_some, Option.getD_some]
  exact h _ (List.getElem_mem hi') j hj
theorem det_step {r : List Int} {rs : List (List Int)} {n : Nat} (hl : rs.length = n) (hw : ∀ x ∈ r :: rs, x.length = n + 1) : detR ((r :: rs).map rowR) = sumN (n + 1) fun k => sgn k * rowR r k * detR ((rs.map (cutR1 k)).map rowR) := by
  rw [List.map_cons, detR_cons, List.length_map, hl]
  refine sumN_congr fun k hk => ?_
  rw [List.map_map, List.map_map, det_map (f := dropc k ∘ rowR) (g := rowR ∘ cutR1 k) hl fun x hx j _ => (cutR1_row (by rw [hw x (List.mem_cons_of_mem _ hx)]; exact hk) j).symm]
theorem sgn_at (k : Nat) {x : Int} (hx : x = k) : ∃ y : Int, (x.fmod 2 = y) ∧ atI [D.int 1, D.int (-1)] y = some (.int (sgn k)) := by
  refine ⟨_, rfl, ?_⟩
  rw [hx, Int.fmod_eq_emod_of_nonneg _ (by decide)]
  unfold sgn
  by_cases h : k % 2 = 0
  · rw [if_pos h, show ((k : Int) % 2) = 0 by omega]; rfl
  · rw [if_neg h, show ((k : Int) % 2) = 1 by omega]; rfl
theorem bits_det {n B : Nat} (hn : n ≤ 9) (hB : B ≤ 2 ^ 300) {rs : List (List Int)} (hl : rs.length = n) (hw : ∀ r ∈ rs, ∀ x ∈ r, x.natAbs ≤ B) : (detR (rs.map rowR)).natAbs < 2 ^ 3000 := by
  have h1 := det_abs (B := B) n (rs.map rowR) (by rw [List.length_map, hl]) fun r hr j _ => by
    obtain ⟨x, hx, rfl⟩ := List.mem_map.mp hr
    by_cases e : j < x.length
    · rw [rowR_in e]; exact hw x hx _ (List.getElem_mem e)
    · rw [rowR_out (by omega)]; exact Nat.zero_le _
  have h2 : B ^ n ≤ (2 ^ 300) ^ 9 := Nat.le_trans (Nat.pow_le_pow_left hB n) (Nat.pow_le_pow_right (by decide) hn)
  have h3 : facN n * B ^ n ≤ facN 9 * (2 ^ 300) ^ 9 := Nat.mul_le_mul (facN_mono hn) h2
  have h4 : facN 9 * (2 ^ 300) ^ 9 < 2 ^ 3000 := by decide +kernel
  omega
theorem cut_upto {r : List Int} {x : Int} {k : Nat} (hx : x = k) : cutD (r.map D.int) none (some x) = (r.take k).map .int := by
  rw [hx]
  have : cutD (r.map D.int) none (some (k : Int)) = (r.map D.int).take k := cut_take'
  rw [this, List.map_take]
theorem cut_behind {r : List Int} {x : Int} {k : Nat} (hx : x = k) : cutD (r.map D.int) (some (x + 1)) none = (r.drop (k + 1)).map .int := by
  rw [hx]
  have : cutD (r.map D.int) (some ((k : Int) + 1)) none = (r.map D.int).drop (k + 1) := cut_drop'
  rw [this, List.map_drop]
theorem nz_rowsL (k : Nat) : ∀ L : List (List Int), nzDs false (L.map lI) (k + 1) = true
  | [] => nzDs_nil
  | r :: L => by rw [List.map_cons, nzDs_cons, nz_lstI, nz_rowsL k L]; rfl
theorem nz_LL (L : List (List Int)) : nzD false (lL L) 60 = true := by rw [nz_lst]; exact nz_rowsL 58 L
theorem eq_rows_same (L : List (List Int)) : eqD (lL L) (lL L) = some true := eq_self_nz (nz_LL L)
theorem eq_rows_nil {r : List Int} {L : List (List Int)} : eqD (lL (r :: L)) (.lst []) = some false := by
  show eqD (lL (r :: L)) (lL []) = _
  rw [eq_nz (fl := false) (nz_LL _) (nz_LL [])]
  simp [lL]
theorem det_ok {M : Md} (h : M.fns "_law_det" = some f_l_det) : ∀ (n e : Nat) (rs : List (List Int)), rs.length = n → n ≤ 9 → (∀ r ∈ rs, r.length = n) → (∀ r ∈ rs, ∀ x ∈ r, x.natAbs ≤ 2 ^ 300) → callN M (n + 1 + e) "_law_det" [lL rs] = .ok false (.int (detR (rs.map rowR))) []
  | 0, e, rs, hl, _, _, _ => by
    have : rs = [] := List.eq_nil_of_length_eq_zero hl
    subst this
    rw [show 0 + 1 + e = e + 1 by omega]
    refine wc_eq (wc_of h ⟨rfl, by decide⟩ ?_)
    show Wp (execs (M.tb e) f_l_det.body [.bo (lL []), .no, .no, .no]) _
    have e1 : eqD (.lst []) (.lst []) = some true := eq_nil0
    simp_arith [f_l_det, lL, e1]
    rfl
  | n + 1, e, [], hl, _, _, _ => by simp at hl
  | n + 1, e, r0 :: rs, hl, h9, hw, hb => by
    rw [show n + 1 + 1 + e = (n + 1 + e) + 1 by omega]
    refine wc_eq (wc_of h ⟨rfl, by decide⟩ ?_)
    show Wp (execs (M.tb (n + 1 + e)) f_l_det.body [.bo (lL (r0 :: rs)), .no, .no, .no]) _
    have hl' : rs.length = n := by simpa using hl
    obtain ⟨N, hN⟩ : ∃ N : Int, N = (((r0 :: rs).map lI).length : Int) := ⟨_, rfl⟩
    have hN1 : N = (n : Int) + 1 := by rw [hN, List.length_map, hl]; rfl
    have hNt : N.toNat = n + 1 := by omega
    have zb : -(1048576 : Int) < N ∧ N < 1048576 := by omega
    have ene : eqD (lL (r0 :: rs)) (.lst []) = some false := eq_rows_nil
    have eix : atI ((r0 :: rs).map lI) 0 = some (lI r0) := at_0
    have ecut : cutD ((r0 :: rs).map lI) (some 1) none = rs.map lI := by
      have : cutD ((r0 :: rs).map lI) (some (((0 : Nat) : Int) + 1)) none = ((r0 :: rs).map lI).drop (0 + 1) := cut_drop'
      exact this
    have hdet := det_step hl' hw
    have hr0 : r0.length = n + 1 := hw r0 List.mem_cons_self
    have hfin : ∀ k, k < n + 1 → mulOk (sgn k) (rowR r0 k) ∧ mulOk (sgn k * rowR r0 k) (detR ((rs.map (cutR1 k)).map rowR)) := fun k hk => by
      have b1 : (rowR r0 k).natAbs < 2 ^ 301 := by
        rw [rowR_in (by omega)]
        exact Nat.lt_of_le_of_lt (hb r0 List.mem_cons_self _ (List.getElem_mem _)) (Nat.pow_lt_pow_right (by decide) (by decide))
      have b2 : (sgn k).natAbs < 2 ^ 1 := by rw [sgn_abs]; decide
      refine ⟨mulOk_b 1 301 b2 b1 (by decide), mulOk_b 301 3000 (by rw [Int.natAbs_mul, sgn_abs, Nat.one_mul]; exact b1) (bits_det (n := n) (by omega) (Nat.le_refl _) (by rw [List.length_map, hl']) fun r hr x hx => ?_) (by decide)⟩
      obtain ⟨y, hy, rfl⟩ := List.mem_map.mp hr
      unfold cutR1 at hx
      rcases List.mem_append.mp hx with hx | hx
      · exact hb y (List.mem_cons_of_mem _ hy) x (List.mem_of_mem_take hx)
      · exact hb y (List.mem_cons_of_mem _ hy) x (List.mem_of_mem_drop hx)
    have ih := fun k (hk : k < n + 1) => det_ok h n e (rs.map (cutR1 k)) (by rw [List.length_map, hl']) (by omega) (fun r hr => by
      obtain ⟨y, hy, rfl⟩ := List.mem_map.mp hr
      exact cut1_len (hw y (List.mem_cons_of_mem _ hy)) hk) (fun r hr x hx => by
      obtain ⟨y, hy, rfl⟩ := List.mem_map.mp hr
      unfold cutR1 at hx
      rcases List.mem_append.mp hx with hx | hx
      · exact hb y (List.mem_cons_of_mem _ hy) x (List.mem_of_mem_take hx)
      · exact hb y (List.mem_cons_of_mem _ hy) x (List.mem_of_mem_drop hx))
    rw [hdet]
    clear hdet
    obtain ⟨RR, hRR⟩ : ∃ RR, RR = r0 :: rs := ⟨_, rfl⟩
    rw [← hRR] at hN ene eix ecut ⊢
    unfold f_l_det
    dsimp only
    rw [wp_cons]
    simp_arith [ene, -kont_nx, -wp_cons]
    simp_arith [← hN, zb.1, zb.2, hNt]
    refine wp_for (fun r ρ => ∃ (k : Nat) (s2 : Sl), r = rngD k (n + 1 - k) ∧ k ≤ n + 1 ∧ Sl.isOk s2 = true ∧ ρ = [.bo (lL RR), .fr (.int (sumN k fun k => sgn k * rowR r0 k * detR ((rs.map (cutR1 k)).map rowR))), s2, .no]) ?_ ?_ ?_
    · exact ⟨0, .no, rfl, Nat.zero_le _, rfl, rfl⟩
    · rintro ρ ⟨k, s2, hR, hk, o2, rfl⟩
      have hz : n + 1 - k = 0 := by
        have := congrArg List.length hR
        rw [rng_len] at this
        exact this.symm
      have : k = n + 1 := by omega
      subst this
      simp_arith
    · rintro d r ρ ⟨k, s2, hR, hk, o2, rfl⟩
      obtain ⟨m, hm⟩ : ∃ m, n + 1 - k = m + 1 := by
        refine ⟨n + 1 - k - 1, ?_⟩
        have := congrArg List.length hR
        rw [rng_len, List.length_cons] at this
        omega
      rw [hm] at hR
      have hR' : d = .int k ∧ r = rngD ((k + 1 : Nat) : Int) m := by
        rw [rngD_rgF, rgF_succ, List.map_cons, ← rngD_rgF] at hR
        exact List.cons.inj hR
      obtain ⟨rfl, rfl⟩ := hR'
      have hkn : k < n + 1 := by omega
      obtain ⟨K, hK⟩ : ∃ K : Int, K = k := ⟨_, rfl⟩
      rw [← hK]
      obtain ⟨S, hS⟩ : ∃ S : Int, S = sumN k fun k => sgn k * rowR r0 k * detR ((rs.map (cutR1 k)).map rowR) := ⟨_, rfl⟩
      have hS1 : sumN (k + 1) (fun k => sgn k * rowR r0 k * detR ((rs.map (cutR1 k)).map rowR)) = S + sgn k * rowR r0 k * detR ((rs.map (cutR1 k)).map rowR) := by rw [hS]; rfl
      rw [← hS]
      have e1 := at_row hK (r := r0) (q := k) (by omega)
      obtain ⟨y, hy, e2⟩ := sgn_at k hK
      obtain ⟨m1, m2⟩ := hfin k hkn
      have e3 := ih k hkn
      refine ⟨[.bo (lL RR), .fr (.int S), .fr (.int K), .no], by simp_arith [o2], ?_⟩
      have ec : ∀ ρ : Env, ρ = [.bo (lL RR), .fr (.int S), .fr (.int K), .no] → compR (M.tb (n + 1 + e)) (.bin .Add (.sl (.var 3) .nil (.var 2)) (.sl (.var 3) (.bin .Add (.var 2) (.int 1)) .nil)) [3] true .nil [3] (rs.map lI) [] ρ = .ok ((true, lL (rs.map (cutR1 k))), ρ) := fun ρ hρ => by
        subst hρ
        rw [compM lI (fun _ => true) (fun r => lI (cutR1 k r)) rfl fun r hr => ⟨_, _, by rfl, by rfl, by rfl, fun _ => ⟨true, _, by
          have c1 := cut_upto (r := r) hK
          have c2 := cut_behind (r := r) hK
          have hz : ((r.take k).map D.int).length + ((r.drop (k + 1)).map D.int).length ≤ sizeLine := by
            have := hw r (List.mem_cons_of_mem _ hr)
            rw [List.length_map, List.length_map, List.length_take, List.length_drop]
            exact size_le (by omega)
          have e : lI (cutR1 k r) = .lst ((r.take k).map D.int ++ (r.drop (k + 1)).map D.int) := by unfold cutR1 lI; rw [List.map_append]
          rw [e]
          simp_arith! [c1, c2, hz], by rfl⟩⟩, filt_all]
        unfold lL
        rw [List.map_map]
        rfl
      by_cases h0 : rowR r0 k = 0
      · rw [h0, Int.mul_zero, Int.zero_mul, Int.add_zero] at hS1
        simp_arith [eix, e1, h0, eq_int]
        refine ⟨k + 1, .fr (.int K), by rw [show n + 1 - (k + 1) = m by omega], by omega, rfl, ?_⟩
        rw [hS1]
      · simp_arith [eix, e1, h0, eq_int, hy, e2, m1, m2, ecut, ec _ rfl, kinds_of h, f_l_det, e3]
        refine ⟨k + 1, .fr (.int K), by rw [show n + 1 - (k + 1) = m by omega], by omega, rfl, ?_⟩
        rw [hS1]
def cI (c : List Nat) : D := .tup (c.map fun x => .int (x : Nat))
theorem columns_ok {M : Md} (h : M.fns "_law_columns" = some f_l_columns) : ∀ (k e w : Nat), k ≤ 20 → w ≤ 20 → (∀ l j, l ≤ 20 → j ≤ k → (colZ l j).length ≤ 100000) → ∀ {W K : Int}, W = w → K = k → callN M (k + 1 + e) "_law_columns" [.int W, .int K] = .ok true (.lst ((colZ w k).map cI)) []
  | 0, e, w, _, hw, _, W, K, hW, hK => by
    rw [show 0 + 1 + e = e + 1 by omega]
    refine wc_eq (wc_of h ⟨rfl, by decide⟩ ?_)
    show Wp (execs (M.tb e) f_l_columns.body [.bo (.int W), .bo (.int K), .no, .no, .no]) _
    have hK0 : K = 0 := by simpa using hK
    simp_arith [f_l_columns, eq_int, hK0]
    rfl
  | k + 1, e, w, hk, hw, hsz, W, K, hW, hK => by
    rw [show k + 1 + 1 + e = (k + 1 + e) + 1 by omega]
    refine wc_eq (wc_of h ⟨rfl, by decide⟩ ?_)
    show Wp (execs (M.tb (k + 1 + e)) f_l_columns.body [.bo (.int W), .bo (.int K), .no, .no, .no]) _
    have hK0 : ¬ K = 0 := by omega
    obtain ⟨J, hJ⟩ : ∃ J : Int, J = K - 1 := ⟨_, rfl⟩
    have zb : -(1048576 : Int) < J ∧ J < 1048576 ∧ -(1048576 : Int) < W ∧ W < 1048576 := by omega
    have hr : rngD J (W - J).toNat = (List.range' k (w - k)).map fun l => D.int (l : Nat) := by
      unfold rngD
      rw [show (W - J).toNat = w - k by omega, List.range'_eq_map_range, List.map_map]
      refine List.map_congr_left fun t _ => ?_
      show D.int (J + (t : Int)) = D.int ((k + t : Nat) : Int)
      congr 1
      omega
    have ih := fun (l : Nat) (hl : l ≤ 20) (L : Int) (hL : L = l) => columns_ok h k e l (by omega) hl (fun l j a b => hsz l j a (by omega)) (W := L) (K := J) hL (by omega)
    unfold f_l_columns
    dsimp only
    rw [wp_cons]
    simp_arith [eq_int, hK0, -kont_nx, -wp_cons]
    simp_arith [← hJ, zb, hr]
    refine wp_for (fun r ρ => ∃ (R A : List Nat) (s3 : Sl), r = R.map (fun l => D.int (l : Nat)) ∧ A ++ R = List.range' k (w - k) ∧ Sl.isOk s3 = true ∧ ρ = [.bo (.int W), .bo (.int K), .ow (.lst ((A.flatMap fun l => (colZ l k).map fun c => c ++ [l]).map cI)), s3, .no]) ?_ ?_ ?_
    · exact ⟨_, [], .no, rfl, rfl, rfl, rfl⟩
    · rintro ρ ⟨R, A, s3, hR, hA, o3, rfl⟩
      have : R = [] := by simpa using hR.symm
      subst this
      rw [List.append_nil] at hA
      subst hA
      simp_arith
      rfl
    · rintro d r ρ ⟨R, A, s3, hR, hA, o3, rfl⟩
      cases R with
      | nil => cases hR
      | cons l R =>
        obtain ⟨rfl, rfl⟩ := List.cons.inj hR
        have hl : k ≤ l ∧ l < w := by
          have : l ∈ List.range' k (w - k) := by rw [← hA]; simp
          have := List.mem_range'_1.mp this
          omega
        obtain ⟨L, hL⟩ : ∃ L : Int, L = (l : Nat) := ⟨_, rfl⟩
        have e1 := ih l (by omega) L hL
        dsimp only
        rw [← hL]
        refine ⟨[.bo (.int W), .bo (.int K), .ow (.lst ((A.flatMap fun l => (colZ l k).map fun c => c ++ [l]).map cI)), .fr (.int L), .no], by simp_arith [o3], ?_⟩
        have hs1 : ((A.flatMap fun l => (colZ l k).map fun c => c ++ [l]).map cI).length + (((colZ l k).map fun c => c ++ [l]).map cI).length ≤ sizeLine := by
          have h2 := hsz w (k + 1) (by omega) (Nat.le_refl _)
          rw [show colZ w (k + 1) = (List.range' k (w - k)).flatMap fun l => (colZ l k).map fun c => c ++ [l] from rfl, ← hA, List.flatMap_append, List.length_append, List.flatMap_cons, List.length_append] at h2
          rw [List.length_map, List.length_map]
          exact size_le (by omega)
        have ec : ∀ (V : D) (ρ : Env), ρ = [.bo (.int W), .bo (.int K), .ow V, .fr (.int L), .no] → compR (M.tb (k + 1 + e)) (.bin .Add (.var 4) (.tup [.var 3])) [4] true .nil [4] ((colZ l k).map cI) [] ρ = .ok ((true, .lst (((colZ l k).map fun c => c ++ [l]).map cI)), ρ) := fun V ρ hρ => by
          subst hρ
          rw [compM cI (fun _ => true) (fun c => cI (c ++ [l])) rfl fun c hc => ⟨_, _, by rfl, by rfl, by rfl, fun _ => ⟨false, _, by
            have hz : (c.map fun x : Nat => D.int (x : Int)).length + 1 ≤ sizeLine := by
              rw [List.length_map, (col_len hc).1]
              exact size_le (by omega)
            have e : cI (c ++ [l]) = .tup ((c.map fun x : Nat => D.int (x : Int)) ++ [.int L]) := by unfold cI; rw [List.map_append, hL]; rfl
            rw [e]
            unfold cI
            simp_arith! [hz], by rfl⟩⟩, filt_all, List.map_map]
          rfl
        have eg : ∀ A B : List D, A.length + B.length ≤ sizeLine → binD .Add (.lst A) (.lst B) = some (true, .lst (A ++ B)) := fun A B hz => by rw [bin_addL, if_pos hz]
        have eg' := eg _ _ hs1
        generalize hV : D.lst ((A.flatMap fun l => (colZ l k).map fun c => c ++ [l]).map cI) = V at eg' ⊢
        simp_arith [-bin_addL, ← hJ, kinds_of h, f_l_columns, e1, ec V _ rfl, eg']
        refine ⟨R, A ++ [l], .fr (.int L), rfl, by rw [← hA]; simp, rfl, ?_⟩
        rw [List.flatMap_append, List.map_append]
        simp
def f_l_apart : Fn := ⟨[.bo, .bo], 5, [.ite (.cmp .Gt (.bi .len [.var 0]) (.var 1)) [.ret (.bl true)] [],
  .forr [2] true (.itr (.call "_law_columns" [.var 1, .bi .len [.var 0]])) [.ite (.cmp .NotEq (.call "_law_det" [.comp (.comp (.ix (.var 3) (.var 4)) [4] true (.itr (.var 2)) .nil [4]) [3] true (.itr (.var 0)) .nil [3]]) (.int 0)) [.ret (.bl false)] []],
  .ret (.bl true)]⟩
def pickC (c : List Nat) (r : List Int) : List Int := c.map fun x => r.getD x 0
theorem pickC_row {c : List Nat} {r : List Int} {j : Nat} (hj : j < c.length) : rowR (pickC c r) j = rst c (rowR r) j := by
  unfold pickC rst
  rw [rowR_in (by rw [List.length_map]; exact hj), List.getElem_map, show c.getD j 0 = c[j] by rw [List.getD, List.getElem?_eq_getElem hj]; rfl]
  rfl
theorem apart_okL {M : Md} (h : M.fns "_law_apart" = some f_l_apart) (hc : M.fns "_law_columns" = some f_l_columns) (hd : M.fns "_law_det" = some f_l_det) (e : Nat) {rs : List (List Int)} {w : Nat} (hw : w ≤ 9) (hl : rs.length ≤ 9) (hr : ∀ r ∈ rs, r.length = w) (hb : ∀ r ∈ rs, ∀ x ∈ r, x.natAbs ≤ 2 ^ 300) (hsz : ∀ l j, l ≤ 20 → j ≤ rs.length → (colZ l j).length ≤ 100000) {W : Int} (hW : W = w) {v : Bool} (hv : v = true ↔ Dep w (rs.map rowR)) :
    callN M (12 + e) "_law_apart" [lL rs, .int W] = .ok false (.bl v) [] := by
  rw [show 12 + e = (11 + e) + 1 by omega]
  refine wc_eq (wc_of h ⟨rfl, by decide⟩ ?_)
  show Wp (execs (M.tb (11 + e)) f_l_apart.body [.bo (lL rs), .bo (.int W), .no, .no, .no]) _
  obtain ⟨N, hN⟩ : ∃ N : Int, N = ((rs.map lI).length : Int) := ⟨_, rfl⟩
  have hN1 : N = rs.length := by rw [hN, List.length_map]
  unfold f_l_apart
  dsimp only
  rw [wp_cons]
  by_cases hgt : W < N
  · have hvt : v = true := hv.mpr (pigeon _ _ (by rw [List.length_map]; omega))
    subst hvt
    simp_arith [← hN, hgt]
  · have ecol : callN M (11 + e) "_law_columns" [.int W, .int N] = .ok true (.lst ((colZ w rs.length).map cI)) [] := by
      have := columns_ok hc rs.length (10 - rs.length + e) w (by omega) (by omega) hsz hW hN1
      rw [show rs.length + 1 + (10 - rs.length + e) = 11 + e by omega] at this
      exact this
    have edet : ∀ c ∈ colZ w rs.length, callN M (11 + e) "_law_det" [lL (rs.map (pickC c))] = .ok false (.int (detR ((rs.map rowR).map (rst c)))) [] := fun c hcm => by
      obtain ⟨c1, c2⟩ := col_len hcm
      have := det_ok hd rs.length (10 - rs.length + e) (rs.map (pickC c)) (by rw [List.length_map]) hl (fun r hr' => by
        obtain ⟨x, _, rfl⟩ := List.mem_map.mp hr'
        unfold pickC
        rw [List.length_map, c1]) (fun r hr' x hx => by
        obtain ⟨y, hy, rfl⟩ := List.mem_map.mp hr'
        unfold pickC at hx
        obtain ⟨z, hz, rfl⟩ := List.mem_map.mp hx
        exact hb y hy _ (getD_in (by rw [hr y hy]; exact c2 z hz)))
      rw [show rs.length + 1 + (10 - rs.length + e) = 11 + e by omega] at this
      have e2 : detR ((rs.map (pickC c)).map rowR) = detR ((rs.map rowR).map (rst c)) := by
        rw [List.map_map, List.map_map]
        exact det_map (f := rowR ∘ pickC c) (g := rst c ∘ rowR) rfl fun r _ j hj => pickC_row (by rw [c1]; exact hj)
      rw [this, e2]
    have ec : ∀ c ∈ colZ w rs.length, ∀ ρ : Env, ρ = [.bo (lL rs), .bo (.int W), .fr (cI c), .no, .no] → compR (M.tb (11 + e)) (.comp (.ix (.var 3) (.var 4)) [4] true (.itr (.var 2)) .nil [4]) [3] true .nil [3] (rs.map lI) [0] ρ = .ok ((true, lL (rs.map (pickC c))), ρ) := fun c hcm ρ hρ => by
      subst hρ
      obtain ⟨c1, c2⟩ := col_len hcm
      have inner : ∀ r ∈ rs, compR (M.tb (11 + e)) (.ix (.var 3) (.var 4)) [4] true .nil [4] (c.map fun x => D.int (x : Nat)) [2] [.bo (lL rs), .bo (.int W), .fr (cI c), .fr (lI r), .no] = .ok ((true, lI (pickC c r)), [.bo (lL rs), .bo (.int W), .fr (cI c), .fr (lI r), .no]) := fun r hrm => by
        rw [compM (fun x : Nat => D.int (x : Nat)) (fun _ => true) (fun x => .int (r.getD x 0)) rfl fun x hx => ⟨_, _, by rfl, by rfl, by rfl, fun _ => ⟨false, _, by
          have hat : atI (r.map D.int) (x : Int) = some (.int (r.getD x 0)) := at_row (r := r) (p := (x : Int)) (q := x) rfl (by rw [hr r hrm]; exact c2 x hx)
          simp_arith! [hat], by rfl⟩⟩, filt_all]
        unfold pickC lI
        rw [List.map_map]
        rfl
      rw [compM lI (fun _ => true) (fun r => lI (pickC c r)) rfl fun r hrm => ⟨_, _, by rfl, by rfl, by rfl, fun _ => ⟨true, _, by
        have := inner r hrm
        unfold cI at this ⊢
        simp_arith! [this], by rfl⟩⟩, filt_all]
      unfold lL
      rw [List.map_map]
      rfl
    have hle : rs.length ≤ w := by omega
    simp_arith [← hN, hgt, -kont_nx, -wp_cons]
    simp_arith [← hN, kinds_of hc, f_l_columns, ecol]
    refine wp_for (fun r ρ => ∃ (C : List (List Nat)) (s2 : Sl), r = C.map cI ∧ (∀ c ∈ C, c ∈ colZ w rs.length) ∧ (v = false → ∃ c ∈ C, detR ((rs.map rowR).map (rst c)) ≠ 0) ∧ Sl.isOk s2 = true ∧ ρ = [.bo (lL rs), .bo (.int W), s2, .no, .no]) ?_ ?_ ?_
    · refine ⟨_, .no, rfl, fun c hc => hc, fun hvf => ?_, rfl, rfl⟩
      have := det_found w (rs.map rowR) (by rw [List.length_map]; exact hle) fun hd => by
        rw [hv.mpr hd] at hvf; cases hvf
      rw [List.length_map] at this
      exact this
    · rintro ρ ⟨C, s2, hR, _, hex, o2, rfl⟩
      have : C = [] := by simpa using hR.symm
      subst this
      cases v with
      | true => simp_arith
      | false =>
        obtain ⟨c, hc, _⟩ := hex rfl
        cases hc
    · rintro d r ρ ⟨C, s2, hR, hC, hex, o2, rfl⟩
      cases C with
      | nil => cases hR
      | cons c C =>
        obtain ⟨rfl, rfl⟩ := List.cons.inj hR
        have hcm := hC c List.mem_cons_self
        have e1 := edet c hcm
        refine ⟨[.bo (lL rs), .bo (.int W), .fr (cI c), .no, .no], by simp_arith [o2], ?_⟩
        have e2 := ec c hcm
        by_cases hz : detR ((rs.map rowR).map (rst c)) = 0
        · simp_arith [e2 _ rfl, kinds_of hd, f_l_det, e1, eq_int, hz]
          refine ⟨C, .fr (cI c), rfl, fun x hx => hC x (List.mem_cons_of_mem _ hx), fun hvf => ?_, rfl, rfl⟩
          obtain ⟨x, hx, hn⟩ := hex hvf
          rcases List.mem_cons.mp hx with rfl | hx
          · exact absurd hz hn
          · exact ⟨x, hx, hn⟩
        · have hvf : v = false := by
            cases hv' : v with
            | false => rfl
            | true =>
              obtain ⟨k1, k2⟩ := col_len hcm
              exact absurd (det_rst (by rw [List.length_map]; exact k1) k2 (hv.mp hv')) hz
          subst hvf
          simp_arith [e2 _ rfl, kinds_of hd, f_l_det, e1, eq_int, hz]
end Pd
set_option Elab.async false
set_option linter.all false
set_option maxHeartbeats 0
/-norgs-/
/-! Lt2: drawn rows, some made of others. -/
namespace Pd
open PySem L2
set_option maxRecDepth 100000
set_option hygiene false in
local macro_rules
  | `(tactic| simp_arith [$as,*]) => `(tactic| simp only [reduceIte, outsOf, Nat.reduceBEq, bind_ok, bind_no, exec, ev_var, ev_non, ev_bl, ev_int, ev_str, ev_tup, ev_lst, ev_dct, ev_bin, ev_neg, ev_not, ev_cmp, ev_chn, ev_and, ev_or, ev_ite, ev_ix, ev_sl, ev_bi, ev_isi, ev_call, ev_pop, ev_comp, ev_sortedR, ev_rev, ev_rgs, ev_sset, ev_meet, ev_me, ev_tin, ev_cst, rev_lst, rev_tup, few_ints, sset_ints, evalVs, evalOs, evalAs, evalI, op1, op2, opd, argD, hasV, mineV, getOp, getOps, Sl.val, varD, retD, testD, condD, partD, optR_some, optR_if, optF_some, optF_none, optR_none, wp_ok, wp_no, wp_ex, wp_bind, wp_ifno, wp_noif, wp_noEx, wp_unlF, List.any_cons, List.any_nil, Int.reducePow, Int.reduceToNat, natAbs_lit, Int.reduceLE, Int.reduceLT, Int.reduceNeg, Nat.reduceLT, Nat.reduceLeDiff, Nat.reducePow, Nat.reduceAdd, Int.reduceAdd, Int.reduceEq, Nat.reduceEqDiff, Bool.or_self, Bool.and_self, ixV, ixD, implies_true, false_implies, true_implies, forall_const, wp_cons, run_eq, after_ok, ioDup, getArs, unlk_nx, unlk_rt, lpk_nx, lpk_ct, lpk_bk, lpk_rt, nxk_nx, Option.some.injEq, exists_eq_left', kont_nx, kont_rt, kont_bk, kont_ct, wp_nil, setSl_0, setSl_1, setSl_2, setSl_3, setSl_4, setSl_5, setSl_6, setSl_7, setSl_8, setSl_9, setSl_10, setSl_11, setSl_12, setSl_13, setSl_14, setSl_15, setSl_16, setSl_17, setSl_18, setSl_19, setSl_20, setSl_21, setSl_22, setSl_23, setSl_24, setSl_25, ends_rt, ends_nx,  isOk_no, isOk_fr, isOk_ow, isOk_bo, isFr_no, isFr_fr, bindI, bindT, setTD, bin_add, bin_sub, bin_mul', bin_mod', bin_fdiv', bin_pow, bin_addT, bin_addL, cmpV, cmp_eq, cmp_ne, cmp_lt, cmp_le, cmp_gt, cmp_ge, cmp_inT, cmp_inL, cmp_ninT, cmp_ninL, cmp_is, cmp_isn, isD, eq_int, eq_ints, eq_intsT, isiV, isiD, bi_lenT, bi_lenL, bi_abs, bi_sum, bi_min2, bi_max2, bi_tupT, bi_tupL, bi_lstT, bi_lstL, bi_intI, bi_intB, bi_boolB, bi_all, bi_any, bi_sorted, muD_append, muD_reverse, muD_clear, sl_tup, sl_lst, bin_mulL, isl_lst, opt_if, optF_if, negD, notD, lsOk, lends, lend, unlend, opSl, wipeOk, wipeS, backS, seqD, itrD, getAr, putIo, putOuts, augS, augD, modSl, List.getElem?_cons_zero, List.getElem?_cons_succ, List.set_cons_zero, List.set_cons_succ, List.getD_cons_zero, List.getD_cons_succ, Option.map_some, Option.map_none, Option.isSome_some, Option.any_some, Option.bind_some, Option.bind_none, Bool.and_true, Bool.true_and, Bool.and_false, Bool.false_and, Bool.or_false, Bool.false_or, Bool.true_or, Bool.or_true, Bool.not_true, Bool.not_false, List.all_cons, List.all_nil, List.map_cons, List.map_nil, List.cons_append, List.nil_append, if_true, if_false, reduceCtorEq, Bool.false_eq_true, ite_true, ite_false, ite_cond_eq_true, tb_kinds, decide_true, decide_false, true_and, and_true, ne_eq, not_true_eq_false, not_false_eq_true, List.length_cons, List.length_nil, beq_self_eq_true, bin_mulT, bi_str, bi_sumT, bi_minL, bi_maxL, ev_tget, ev_tgetE, ev_dzip, ev_dprs, ev_fld, ev_mk, tb_cst, tb_tab, tb_isC, tb_isM, tb_isF, tb_mkC, at_0, at_1, at_2, tin_str, tget_str, tgetE_str, str_inj, String.reduceEq, eq_str, in_str2, sk_each, sk_cover, sk_cut, sk_steps, sk_forest, sk_table, sk_plus, sk_times, sk_upto, sk_behind, sk_among, sk_turned, bne_self_eq_false, Bool.true_bne, Bool.false_bne, Bool.not_true, Bool.not_false, $as,*])
set_option hygiene false in
local macro_rules
  | `(tactic| simp_arith) => `(tactic| simp_arith [if_true])
  | `(tactic| simp_arith!) => `(tactic| first | (simp_arith [if_true]; done) | (simp_arith [if_true]; rfl))
  | `(tactic| simp_arith! [$as,*]) => `(tactic| first | (simp_arith [$as,*]; done) | (simp_arith [$as,*]; rfl))
def f_l_rows : Fn := ⟨[.io, .bo], 11, [.set 2 (.lst []),
  .forr [3] true (.rng1 (.call "_law_take" [.var 0, .int 6])) [.set 4 (.comp (.bin .Mult (.call "_law_big" [.var 0]) (.call "_law_take" [.var 0, .int 2])) [6] true (.rng1 (.var 1)) .nil [6]),
  .ite (.and (.cmp .Gt (.var 3) (.int 0)) (.cmp .Eq (.call "_law_take" [.var 0, .int 4]) (.int 0))) [.setP [7, 8] [.call "_law_pick" [.var 0, .var 2], .call "_law_pick" [.var 0, .var 2]],
  .set 5 (.lst [.bin .Sub (.call "_law_take" [.var 0, .int 5]) (.int 2), .bin .Sub (.call "_law_take" [.var 0, .int 5]) (.int 2)]),
  .set 4 (.comp (.bin .Add (.bin .Mult (.ix (.var 5) (.int 0)) (.var 9)) (.bin .Mult (.ix (.var 5) (.int 1)) (.var 10))) [9, 10] false (.zip (.var 7) (.var 8)) .nil [9, 10])] [],
  .mu 2 .append [.var 4]],
  .ret (.var 2)]⟩
structure RowM (M : Md) : Prop where
  take : M.fns "_law_take" = some fTake
  big : M.fns "_law_big" = some f_l_big
  pick : M.fns "_law_pick" = some f_l_pick
  rows : M.fns "_law_rows" = some f_l_rows
theorem draw_half {M : Md} (H : RowM M) {n : Nat} {s : D} {ds : List D} {a1 a2 a3 a4 a5 a6 a7 a8 a9 a10 : Sl} (o6 : Sl.isFr a6 = true) (is : IsSt s) {Q : (Bool × D) × Env → Prop}
    (hQ : ∀ (gs : List Int) (s : D), IsSt s → gs.length = ds.length → (∀ x ∈ gs, x.natAbs ≤ 2 ^ 98) → Q ((true, lI gs), [.io s, a1, a2, a3, a4, a5, a6, a7, a8, a9, a10])) :
    Wp (compR (M.tb (n + 2)) (.bin .Mult (.call "_law_big" [.var 0]) (.call "_law_take" [.var 0, .int 2])) [6] true .nil [6] ds [] [.io s, a1, a2, a3, a4, a5, a6, a7, a8, a9, a10]) Q := by
  refine wp_draws (fun d v => [.io d, a1, a2, a3, a4, a5, v, a7, a8, a9, a10]) (fun d => ∃ v : Int, d = .int v ∧ v.natAbs ≤ 2 ^ 98) is (by cases a6 <;> first | rfl | (cases o6; done)) rfl (fun s v d => rfl) (fun s d is hd => ?_) (fun s' v' => rfl) fun gs s' is' hl hg => ?_
  · simp_arith [kinds_of H.big, f_l_big]
    refine wp_after (wc_mono (big_ok H.take H.big n is) ?_)
    rintro o d' outs ⟨v, s', rfl, rfl, rfl, is', hv⟩
    refine ⟨_, rfl, ?_⟩
    simp_arith [kinds_take H.take]
    refine wp_take H.take is' (by decide) (by decide) fun u s2 is2 u0 u1 => ⟨_, rfl, ?_⟩
    have m1 : mulOk v u := mulOk_b 98 2 hv (by omega) (by decide)
    simp_arith [m1]
    refine ⟨s2, is2, rfl, _, rfl, ?_⟩
    have : u = 0 ∨ u = 1 := by omega
    rcases this with rfl | rfl
    · rw [Int.mul_zero]; decide
    · rw [Int.mul_one]; omega
  · obtain ⟨vs, rfl, hvs⟩ := all_of hg
    exact hQ vs s' is' (by simpa using hl) hvs
def mix2 (x y : Int) (a b : List Int) : List Int := (a.zip b).map fun p => x * p.1 + y * p.2
theorem mix2_ok {x y : Int} {a b : List Int} {w M : Nat} (ha : a.length = w) (hb : b.length = w) (ba : ∀ z ∈ a, z.natAbs ≤ M) (bb : ∀ z ∈ b, z.natAbs ≤ M) (hx : x.natAbs ≤ 2) (hy : y.natAbs ≤ 2) : (mix2 x y a b).length = w ∧ ∀ z ∈ mix2 x y a b, z.natAbs ≤ M * 4 := by
  unfold mix2
  refine ⟨by rw [List.length_map, List.length_zip, ha, hb, Nat.min_self], fun z hz => ?_⟩
  obtain ⟨p, hp, rfl⟩ := List.mem_map.mp hz
  obtain ⟨m1, m2⟩ := List.of_mem_zip (a := p.1) (b := p.2) hp
  have b1 : (x * p.1).natAbs ≤ 2 * M := by rw [Int.natAbs_mul]; exact Nat.mul_le_mul hx (ba _ m1)
  have b2 : (y * p.2).natAbs ≤ 2 * M := by rw [Int.natAbs_mul]; exact Nat.mul_le_mul hy (bb _ m2)
  have := Int.natAbs_add_le (x * p.1) (y * p.2)
  omega
theorem rows_ok {M : Md} (H : RowM M) (n : Nat) {k : Int} (hk : 1 ≤ k ∧ k ≤ 6) {s : D} (hs : IsSt s) : Wc M (n + 3) "_law_rows" [s, .int k] fun o d outs => o = true ∧ ∃ (L : List (List Int)) (s' : D), d = lL L ∧ outs = [s'] ∧ IsSt s' ∧ L.length ≤ 5 ∧ (∀ r ∈ L, r.length = k.toNat) ∧ ∀ r ∈ L, ∀ x ∈ r, x.natAbs ≤ 2 ^ 108 := by
  refine wc_of H.rows ⟨rfl, by decide⟩ ?_
  show Wp (execs (M.tb (n + 2)) f_l_rows.body [.io s, .bo (.int k), .no, .no, .no, .no, .no, .no, .no, .no, .no]) _
  have ht := H.take
  have hkb : -(1048576 : Int) < k ∧ k < 1048576 := by omega
  obtain ⟨q, hq⟩ : ∃ q : Nat, q = k.toNat := ⟨_, rfl⟩
  unfold f_l_rows
  dsimp only
  rw [wp_cons]
  simp_arith [-kont_nx, -wp_cons]
  rw [kont_nx, wp_cons]
  simp_arith [kinds_take ht, -kont_nx, -wp_cons]
  refine wp_take ht hs (by decide) (by decide) fun c s1 is1 c0 c1 => ⟨_, rfl, ?_⟩
  have hcb : -(1048576 : Int) < c ∧ c < 1048576 := by omega
  simp_arith [hcb.1, hcb.2, -kont_nx, -wp_cons]
  rw [← hq]
  refine wp_for (fun r ρ => ∃ (j : Nat) (L : List (List Int)) (s : D) (s3 s4 s5 s7 s8 : Sl), r = rngD j (c.toNat - j) ∧ j ≤ c.toNat ∧ IsSt s ∧ L.length = j ∧ (∀ r ∈ L, r.length = q) ∧ (∀ r ∈ L, ∀ x ∈ r, x.natAbs ≤ 2 ^ 98 * 4 ^ j) ∧ Sl.isOk s3 = true ∧ Sl.isOk s4 = true ∧ Sl.isOk s5 = true ∧ Sl.isOk s7 = true ∧ Sl.isOk s8 = true ∧ ρ = [.io s, .bo (.int k), .ow (lL L), s3, s4, s5, .no, s7, s8, .no, .no]) ?_ ?_ ?_
  · exact ⟨0, [], s1, .no, .no, .no, .no, .no, rfl, Nat.zero_le _, is1, rfl, fun r hr => (by cases hr), fun r hr => (by cases hr), rfl, rfl, rfl, rfl, rfl, rfl⟩
  · rintro ρ ⟨j, L, s, s3, s4, s5, s7, s8, hR, hj, is, hl, hw, hbd, o3, o4, o5, o7, o8, rfl⟩
    simp_arith
    refine ⟨L, s, rfl, rfl, is, by omega, hw, fun r hr x hx => Nat.le_trans (hbd r hr x hx) ?_⟩
    have : (4 : Nat) ^ j ≤ 4 ^ 5 := Nat.pow_le_pow_right (by decide) (by omega)
    exact Nat.le_trans (Nat.mul_le_mul_left _ this) (by decide)
  · rintro d r ρ ⟨j, L, s, s3, s4, s5, s7, s8, hR, hj, is, hl, hw, hbd, o3, o4, o5, o7, o8, rfl⟩
    obtain ⟨m, hm⟩ : ∃ m, c.toNat - j = m + 1 := by
      refine ⟨c.toNat - j - 1, ?_⟩
      have := congrArg List.length hR
      rw [rng_len, List.length_cons] at this
      omega
    rw [hm] at hR
    have hR' : d = .int j ∧ r = rngD ((j + 1 : Nat) : Int) m := by
      rw [rngD_rgF, rgF_succ, List.map_cons, ← rngD_rgF] at hR
      exact List.cons.inj hR
    obtain ⟨rfl, rfl⟩ := hR'
    obtain ⟨J, hJ⟩ : ∃ J : Int, J = j := ⟨_, rfl⟩
    rw [← hJ]
    refine ⟨[.io s, .bo (.int k), .ow (lL L), .fr (.int J), s4, s5, .no, s7, s8, .no, .no], by simp_arith [o3], ?_⟩
    rw [wp_cons]
    simp_arith [hkb.1, hkb.2, -kont_nx, -wp_cons]
    refine draw_half H rfl is fun gs s2 is2 hgl hgb => ?_
    rw [rng_len] at hgl
    simp_arith [o4, -kont_nx, -wp_cons]
    rw [kont_nx, wp_cons]
    have hM : (2 : Nat) ^ 98 * 4 ^ (j + 1) = 2 ^ 98 * 4 ^ j * 4 := by rw [Nat.pow_succ 4 j, Nat.mul_assoc (2 ^ 98)]
    have h1 : 1 ≤ (4 : Nat) ^ j := Nat.pow_pos (by decide)
    have hM2 : (2 : Nat) ^ 98 * 4 ^ j ≤ 2 ^ 108 := by
      have : (4 : Nat) ^ j ≤ 4 ^ 5 := Nat.pow_le_pow_right (by decide) (by omega)
      exact Nat.le_trans (Nat.mul_le_mul_left _ this) (by decide)
    refine wp_join (fun ρ => ∃ (row : List Int) (s : D) (s5 s7 s8 : Sl), IsSt s ∧ row.length = q ∧ (∀ x ∈ row, x.natAbs ≤ 2 ^ 98 * 4 ^ (j + 1)) ∧ Sl.isOk s5 = true ∧ Sl.isOk s7 = true ∧ Sl.isOk s8 = true ∧ ρ = [.io s, .bo (.int k), .ow (lL L), .fr (.int J), .ow (lI row), s5, .no, s7, s8, .no, .no]) ?_ ?_
    · have hgs : ∀ x ∈ gs, x.natAbs ≤ 2 ^ 98 * 4 ^ (j + 1) := fun x hx => by
        have := hgb x hx
        rw [hM]
        have h2 : 2 ^ 98 * 1 ≤ 2 ^ 98 * 4 ^ j := Nat.mul_le_mul_left _ h1
        omega
      by_cases h0 : 0 < J
      · simp_arith [h0, kinds_take ht, -kont_nx, -wp_cons]
        refine wp_take ht is2 (by decide) (by decide) fun a s3' is3 a0 a1 => ⟨_, rfl, ?_⟩
        simp_arith [eq_int, -kont_nx, -wp_cons]
        rw [wp_if]
        refine ⟨fun _ => ?_, fun _ => ?_⟩
        · have hL1 : 1 ≤ (L.map lI).length ∧ (L.map lI).length ≤ 1000 := by rw [List.length_map]; omega
          rw [wp_cons]
          simp_arith [kinds_of H.pick, f_l_pick, -kont_nx, -wp_cons]
          refine wp_after (wc_mono (pick_ok ht H.pick n is3 hL1) ?_)
          rintro o d outs ⟨s4', rfl, rfl, is4, hd⟩
          obtain ⟨A, hA, rfl⟩ := List.mem_map.mp hd
          refine ⟨_, rfl, ?_⟩
          simp_arith [kinds_of H.pick, f_l_pick, -kont_nx, -wp_cons]
          refine wp_after (wc_mono (pick_ok ht H.pick n is4 hL1) ?_)
          rintro o d outs ⟨s5', rfl, rfl, is5, hd⟩
          obtain ⟨B, hB, rfl⟩ := List.mem_map.mp hd
          refine ⟨_, rfl, ?_⟩
          simp_arith [o7, o8, -kont_nx, -wp_cons]
          rw [kont_nx, wp_cons]
          simp_arith [kinds_take ht, -kont_nx, -wp_cons]
          refine wp_take ht is5 (by decide) (by decide) fun x s6' is6 x0 x1 => ⟨_, rfl, ?_⟩
          simp_arith [kinds_take ht, -kont_nx, -wp_cons]
          refine wp_take ht is6 (by decide) (by decide) fun y s7' is7 y0 y1 => ⟨_, rfl, ?_⟩
          obtain ⟨X, hX⟩ : ∃ X : Int, X = x - 2 := ⟨_, rfl⟩
          obtain ⟨Y, hY⟩ : ∃ Y : Int, Y = y - 2 := ⟨_, rfl⟩
          simp_arith [← hX, ← hY, o5, -kont_nx, -wp_cons]
          rw [kont_nx]
          obtain ⟨r1, r2⟩ := mix2_ok (x := X) (y := Y) (hw A hA) (hw B hB) (hbd A hA) (hbd B hB) (by omega) (by omega)
          have mA : ∀ z ∈ A, mulOk X z := fun z hz => mulOk_b 2 109 (by omega) (by have := hbd A hA z hz; omega) (by decide)
          have mB : ∀ z ∈ B, mulOk Y z := fun z hz => mulOk_b 2 109 (by omega) (by have := hbd B hB z hz; omega) (by decide)
          have ec : ∀ ρ : Env, ρ = [.io s7', .bo (.int k), .ow (lL L), .fr (.int J), .ow (lI gs), .ow (.lst [.int X, .int Y]), .no, .fr (lI A), .fr (lI B), .no, .no] → compR (M.tb (n + 2)) (.bin .Add (.bin .Mult (.ix (.var 5) (.int 0)) (.var 9)) (.bin .Mult (.ix (.var 5) (.int 1)) (.var 10))) [9, 10] false .nil [9, 10] (zipD (A.map .int) (B.map .int)) [7, 8] ρ = .ok ((true, lI (mix2 X Y A B)), ρ) := fun ρ hρ => by
            subst hρ
            rw [zip_ints, compM (fun ab : Int × Int => D.tup [.int ab.1, .int ab.2]) (fun _ => true) (fun ab => .int (X * ab.1 + Y * ab.2)) rfl fun ab hab => ⟨_, _, by rfl, by rfl, by rfl, fun _ => ⟨_, _, by
              obtain ⟨m1, m2⟩ := List.of_mem_zip (a := ab.1) (b := ab.2) hab
              have e1 := mA _ m1
              have e2 := mB _ m2
              simp_arith! [e1, e2], by rfl⟩⟩, filt_all]
            unfold lI mix2
            rw [List.map_map]
            rfl
          simp_arith [zipK, ec _ rfl]
          exact ⟨_, s7', _, _, _, is7, r1, by rw [hM]; exact r2, rfl, rfl, rfl, rfl⟩
        · simp_arith
          exact ⟨gs, s3', s5, s7, s8, is3, by omega, hgs, o5, o7, o8, rfl⟩
      · simp_arith [h0, -kont_nx, -wp_cons]
        exact ⟨gs, s2, s5, s7, s8, is2, by omega, hgs, o5, o7, o8, rfl⟩
    · rintro ρ ⟨row, s, s5, s7, s8, is, hrl, hrb, o5, o7, o8, rfl⟩
      have hz : (L.map lI).length < sizeLine := by rw [List.length_map]; exact size_lt (by omega)
      simp_arith [hz]
      refine ⟨j + 1, L ++ [row], s, .fr (.int J), .fr (lI row), s5, s7, s8, by rw [show c.toNat - (j + 1) = m by omega], by omega, is, by rw [List.length_append, hl]; rfl, fun r hr => ?_, fun r hr x hx => ?_, rfl, rfl, o5, o7, o8, ?_⟩
      · rcases List.mem_append.mp hr with hr | hr
        · exact hw r hr
        · rw [List.mem_singleton] at hr
          rw [hr]; exact hrl
      · rcases List.mem_append.mp hr with hr | hr
        · exact Nat.le_trans (hbd r hr x hx) (by omega)
        · rw [List.mem_singleton] at hr
          rw [hr] at hx
          exact hrb x hx
      · have e : lL (L ++ [row]) = .lst (L.map lI ++ [lI row]) := by unfold lL; rw [List.map_append]; rfl
        rw [e]
end Pd
set_option Elab.async false
set_option linter.all false
set_option maxHeartbeats 0
/-norgs-/
/-! L27: k27. -/
namespace Pd
open PySem L2
set_option maxRecDepth 100000
set_option hygiene false in
local macro_rules
  | `(tactic| simp_arith [$as,*]) => `(tactic| simp only [reduceIte, outsOf, Nat.reduceBEq, bind_ok, bind_no, exec, ev_var, ev_non, ev_bl, ev_int, ev_str, ev_tup, ev_lst, ev_dct, ev_bin, ev_neg, ev_not, ev_cmp, ev_chn, ev_and, ev_or, ev_ite, ev_ix, ev_sl, ev_bi, ev_isi, ev_call, ev_pop, ev_comp, ev_sortedR, ev_rev, ev_rgs, ev_sset, ev_meet, ev_me, ev_tin, ev_cst, rev_lst, rev_tup, few_ints, sset_ints, evalVs, evalOs, evalAs, evalI, op1, op2, opd, argD, hasV, mineV, getOp, getOps, Sl.val, varD, retD, testD, condD, partD, optR_some, optR_if, optF_some, optF_none, optR_none, wp_ok, wp_no, wp_ex, wp_bind, wp_ifno, wp_noif, wp_noEx, wp_unlF, List.any_cons, List.any_nil, Int.reducePow, Int.reduceToNat, natAbs_lit, Int.reduceLE, Int.reduceLT, Int.reduceNeg, Nat.reduceLT, Nat.reduceLeDiff, Nat.reducePow, Nat.reduceAdd, Int.reduceAdd, Int.reduceEq, Nat.reduceEqDiff, Bool.or_self, Bool.and_self, ixV, ixD, implies_true, false_implies, true_implies, forall_const, wp_cons, run_eq, after_ok, ioDup, getArs, unlk_nx, unlk_rt, lpk_nx, lpk_ct, lpk_bk, lpk_rt, nxk_nx, Option.some.injEq, exists_eq_left', kont_nx, kont_rt, kont_bk, kont_ct, wp_nil, setSl_0, setSl_1, setSl_2, setSl_3, setSl_4, setSl_5, setSl_6, setSl_7, setSl_8, setSl_9, setSl_10, setSl_11, setSl_12, setSl_13, setSl_14, setSl_15, setSl_16, setSl_17, setSl_18, setSl_19, setSl_20, setSl_21, setSl_22, setSl_23, setSl_24, setSl_25, ends_rt, ends_nx,  isOk_no, isOk_fr, isOk_ow, isOk_bo, isFr_no, isFr_fr, bindI, bindT, setTD, bin_add, bin_sub, bin_mul', bin_mod', bin_fdiv', bin_pow, bin_addT, bin_addL, cmpV, cmp_eq, cmp_ne, cmp_lt, cmp_le, cmp_gt, cmp_ge, cmp_inT, cmp_inL, cmp_ninT, cmp_ninL, cmp_is, cmp_isn, isD, eq_int, eq_ints, eq_intsT, isiV, isiD, bi_lenT, bi_lenL, bi_abs, bi_sum, bi_min2, bi_max2, bi_tupT, bi_tupL, bi_lstT, bi_lstL, bi_intI, bi_intB, bi_boolB, bi_all, bi_any, bi_sorted, muD_append, muD_reverse, muD_clear, sl_tup, sl_lst, bin_mulL, isl_lst, opt_if, optF_if, negD, notD, lsOk, lends, lend, unlend, opSl, wipeOk, wipeS, backS, seqD, itrD, getAr, putIo, putOuts, augS, augD, modSl, List.getElem?_cons_zero, List.getElem?_cons_succ, List.set_cons_zero, List.set_cons_succ, List.getD_cons_zero, List.getD_cons_succ, Option.map_some, Option.map_none, Option.isSome_some, Option.any_some, Option.bind_some, Option.bind_none, Bool.and_true, Bool.true_and, Bool.and_false, Bool.false_and, Bool.or_false, Bool.false_or, Bool.true_or, Bool.or_true, Bool.not_true, Bool.not_false, List.all_cons, List.all_nil, List.map_cons, List.map_nil, List.cons_append, List.nil_append, if_true, if_false, reduceCtorEq, Bool.false_eq_true, ite_true, ite_false, ite_cond_eq_true, tb_kinds, decide_true, decide_false, true_and, and_true, ne_eq, not_true_eq_false, not_false_eq_true, List.length_cons, List.length_nil, beq_self_eq_true, bin_mulT, bi_str, bi_sumT, bi_minL, bi_maxL, ev_tget, ev_tgetE, ev_dzip, ev_dprs, ev_fld, ev_mk, tb_cst, tb_tab, tb_isC, tb_isM, tb_isF, tb_mkC, at_0, at_1, at_2, tin_str, tget_str, tgetE_str, str_inj, String.reduceEq, eq_str, in_str2, sk_each, sk_cover, sk_cut, sk_steps, sk_forest, sk_table, sk_plus, sk_times, sk_upto, sk_behind, sk_among, sk_turned, bne_self_eq_false, Bool.true_bne, Bool.false_bne, Bool.not_true, Bool.not_false, $as,*])
set_option hygiene false in
local macro_rules
  | `(tactic| simp_arith) => `(tactic| simp_arith [if_true])
  | `(tactic| simp_arith!) => `(tactic| first | (simp_arith [if_true]; done) | (simp_arith [if_true]; rfl))
  | `(tactic| simp_arith! [$as,*]) => `(tactic| first | (simp_arith [$as,*]; done) | (simp_arith [$as,*]; rfl))
abbrev lawK : Nat := 90
abbrev Mo : Md := mdOf dfs free
theorem m_begun : Mo.fns "_law_begun" = some fBegun := by kernel_rfl
theorem isFalM : FalM Mo where
  divisor := by kernel_rfl
  lessened := by kernel_rfl
  cleared := by kernel_rfl
  stairs := by kernel_rfl
  falls_apart := by kernel_rfl
theorem isRowM : RowM Mo where
  take := by kernel_rfl
  big := by kernel_rfl
  pick := by kernel_rfl
  rows := by kernel_rfl
theorem m_columns : Mo.fns "_law_columns" = some f_l_columns := by kernel_rfl
theorem m_det : Mo.fns "_law_det" = some f_l_det := by kernel_rfl
theorem m_apart : Mo.fns "_law_apart" = some f_l_apart := by kernel_rfl
/- law: 0 _law_script, 1 _law_state, 2 _law_turn, 3 _law_wide, 4 _law_rows_here, 5 _law_handed, 6 _law_found, 7 _law_row -/
def f_law : Fn := ⟨[.bo], 8, [.set 1 (.call "_law_begun" [.var 0]),
  .forr [2] true (.rng1 (.int 6)) [.set 3 (.bin .Add (.int 1) (.call "_law_take" [.var 1, .int 6])),
  .set 4 (.call "_law_rows" [.var 1, .var 3]),
  .set 5 (.comp (.bi .list [.var 7]) [7] true (.itr (.var 4)) .nil [7]),
  .set 6 (.call "falls_apart" [.var 5]),
  .ite (.or (.not (.isi (.var 6) .bool)) (.or (.cmp .NotEq (.var 6) (.call "_law_apart" [.var 4, .var 3])) (.cmp .NotEq (.var 5) (.var 4)))) [.ret (.bl false)] [],
  .ite (.cmp .NotEq (.call "falls_apart" [.rev (.var 4)]) (.var 6)) [.ret (.bl false)] []],
  .ret (.and (.cmp .Is (.call "falls_apart" [.lst []]) (.bl false)) (.and (.cmp .Is (.call "falls_apart" [.lst [.lst [.int 0]]]) (.bl true)) (.cmp .Is (.call "falls_apart" [.lst [.lst [.int 7]]]) (.bl false))))]⟩
theorem m_law : Mo.fns "law" = some f_law := by kernel_rfl
theorem bl_b (v : Bool) : (Ty.bool == Ty.bool || Ty.bool == Ty.int) = true := rfl
theorem g108 : ∀ w, w ≤ 10 → gB (2 ^ 108) (2 ^ 108) w < 2 ^ 3000 := by decide +kernel
theorem cols_few : ∀ l, l ≤ 20 → ∀ j, j ≤ 5 → (colZ l j).length ≤ 100000 := by decide +kernel
/-- what falls_apart says of such rows -/
theorem falls_27 {w : Nat} {L : List (List Int)} (hl : L.length ≤ 9) (hr : ∀ r ∈ L, r.length = w) (hw : w ≤ 9) (hb : ∀ r ∈ L, ∀ x ∈ r, x.natAbs ≤ 2 ^ 108) {v : Bool} (hv : v = true ↔ Dep w (L.map rowR)) : callN Mo 90 "falls_apart" [lL L] = .ok false (.bl v) [] := by
  obtain ⟨u, e, hu⟩ := falls_z isFalM 85 (c := w) (B := 2 ^ 108) hr (by omega) (by omega) (Nat.pow_pos (by decide)) hb (g108 _ (by omega))
  have : u = v := by
    rw [Bool.eq_iff_iff, hu, hv]
    refine ⟨fun h => h.2, fun h => ⟨?_, h⟩⟩
    obtain ⟨P, h1, ⟨q, h2, _⟩, _⟩ := h
    have := congrArg List.length h1
    rw [List.length_map, List.length_map] at this
    cases P with
    | nil => cases h2
    | cons p P => simp at this; omega
  rw [e, this]
theorem law_wp (ns : List Int) (h : ns.length ≤ 63) : Wc Mo (lawK + 1) "law" [.scr ns] fun o d outs => o = false ∧ d = .bl true ∧ outs = [] := by
  refine wc_of m_law ⟨rfl, by decide⟩ ?_
  show Wp (execs (Mo.tb 90) f_law.body [.bo (.scr ns), .no, .no, .no, .no, .no, .no, .no]) _
  obtain ⟨s0, is0, e0⟩ := begun_st Mo m_begun ns h 89
  have ht := isRowM.take
  unfold f_law
  dsimp only
  rw [wp_cons]
  simp_arith [kinds_begun m_begun, e0, -kont_nx, -wp_cons]
  rw [kont_nx, wp_cons]
  simp_arith [-kont_nx, -wp_cons]
  rw [rngD_rg]
  refine wp_for (fun r ρ => ∃ (s : D) (s2 s3 s4 s5 s6 : Sl), IsSt s ∧ Sl.isOk s2 = true ∧ Sl.isOk s3 = true ∧ Sl.isOk s4 = true ∧ Sl.isOk s5 = true ∧ Sl.isOk s6 = true ∧ ρ = [.bo (.scr ns), .ow s, s2, s3, s4, s5, s6, .no]) ?_ ?_ ?_
  · exact ⟨s0, _, _, _, _, _, is0, rfl, rfl, rfl, rfl, rfl, rfl⟩
  · rintro ρ ⟨s, s2, s3, s4, s5, s6, is, o2, o3, o4, o5, o6, rfl⟩
    have f0 : callN Mo 90 "falls_apart" [.lst []] = .ok false (.bl false) [] := falls_27 (w := 0) (L := []) (by decide) (fun r hr => (by cases hr)) (by decide) (fun r hr => (by cases hr)) ⟨fun z => (by cases z), fun ⟨P, h1, ⟨q, h2, _⟩, _⟩ => by
      have : P = [] := by simpa using h1
      rw [this] at h2; cases h2⟩
    have f1 : callN Mo 90 "falls_apart" [.lst [.lst [.int 0]]] = .ok false (.bl true) [] := falls_27 (w := 1) (L := [[0]]) (by decide) (by simp) (by decide) (by simp) ⟨fun _ => dep_zero _ fun j hj => (by
      have : j = 0 := by omega
      subst this; rfl), fun _ => rfl⟩
    have f2 : callN Mo 90 "falls_apart" [.lst [.lst [.int 7]]] = .ok false (.bl false) [] := falls_27 (w := 1) (L := [[7]]) (by decide) (by simp) (by decide) (by simp) ⟨fun z => (by cases z), fun hd => by
      have := tri_ind (w := 1) 0 [rowR [7]] (by decide) ⟨by decide, fun x hx => (by cases hx), trivial⟩
      exact absurd hd this⟩
    simp_arith [kinds_of isFalM.falls_apart, f_falls_apart, f0, f1, f2]
  · rintro d r ρ ⟨s, s2, s3, s4, s5, s6, is, o2, o3, o4, o5, o6, rfl⟩
    refine ⟨[.bo (.scr ns), .ow s, .fr d, s3, s4, s5, s6, .no], by simp_arith [o2], ?_⟩
    rw [wp_cons]
    simp_arith [kinds_take ht, -kont_nx, -wp_cons]
    refine wp_take ht is (by decide) (by decide) fun k0 s1 is1 k00 k01 => ⟨_, rfl, ?_⟩
    obtain ⟨k, hk⟩ : ∃ k : Int, k = 1 + k0 := ⟨_, rfl⟩
    simp_arith [← hk, o3, -kont_nx, -wp_cons]
    rw [kont_nx, wp_cons]
    simp_arith [kinds_of isRowM.rows, f_l_rows, -kont_nx, -wp_cons]
    refine wp_after (wc_mono (rows_ok isRowM 87 (by omega) is1) ?_)
    rintro o d' outs ⟨rfl, L, s2', rfl, rfl, is2, hl5, hw, hb⟩
    refine ⟨_, rfl, ?_⟩
    simp_arith [o4, -kont_nx, -wp_cons]
    rw [kont_nx, wp_cons]
    have ec : ∀ ρ : Env, ρ = [.bo (.scr ns), .ow s2', .fr d, .fr (.int k), .ow (lL L), s5, s6, .no] → compR (Mo.tb 90) (.bi .list [.var 7]) [7] true .nil [7] (L.map lI) [4] ρ = .ok ((true, lL L), ρ) := fun ρ hρ => by
      subst hρ
      rw [compM lI (fun _ => true) lI rfl fun r _ => ⟨_, _, by rfl, by rfl, by rfl, fun _ => ⟨_, _, by simp_arith!, by rfl⟩⟩, filt_all]
    simp_arith [ec _ rfl, o5, -kont_nx, -wp_cons]
    rw [kont_nx, wp_cons]
    obtain ⟨v, hv⟩ : ∃ v : Bool, v = true ↔ Dep k.toNat (L.map rowR) := by
      by_cases hd : Dep k.toNat (L.map rowR)
      · exact ⟨true, fun _ => hd, fun _ => rfl⟩
      · exact ⟨false, fun z => (by cases z), fun z => absurd z hd⟩
    have f1 := falls_27 (v := v) (by omega) hw (by omega) hb hv
    have f2 := apart_okL m_apart m_columns m_det 78 (rs := L) (w := k.toNat) (by omega) (by omega) hw (fun r hr x hx => Nat.le_trans (hb r hr x hx) (Nat.pow_le_pow_right (by decide) (by decide))) (fun l j hl hj => cols_few l hl j (by omega)) (W := k) (by omega) hv
    have f3 : callN Mo 90 "falls_apart" [.lst (L.map lI).reverse] = .ok false (.bl v) [] := by
      rw [← List.map_reverse]
      exact falls_27 (w := k.toNat) (L := L.reverse) (by rw [List.length_reverse]; omega) (fun r hr => hw r (List.mem_reverse.mp hr)) (by omega) (fun r hr => hb r (List.mem_reverse.mp hr)) (by
        rw [hv]
        exact ⟨fun hd => hd.perm ((List.reverse_perm L).symm.map rowR), fun hd => hd.perm ((List.reverse_perm L).map rowR)⟩)
    have eq1 : eqD (.bl v) (.bl v) = some true := by rw [eq_bl]; simp
    have eq2 := eq_rows_same L
    simp_arith [kinds_of isFalM.falls_apart, f_falls_apart, f1, o6, -kont_nx, -wp_cons]
    rw [kont_nx, wp_cons]
    simp_arith [kinds_of m_apart, f_l_apart, f2, eq1, eq2, bl_b v, -kont_nx, -wp_cons]
    rw [kont_nx]
    simp_arith [kinds_of isFalM.falls_apart, f_falls_apart, f3, eq1]
    exact ⟨s2', _, _, _, _, _, is2, rfl, rfl, rfl, rfl, rfl, rfl⟩
theorem law_pure (ns : List Int) (h : ns.length ≤ 63) : callN (mdOf dfs free) (lawK + 1) d_law.x [.scr ns] = .ok false (.bl true) [] := wc_eq (law_wp ns h)
end Pd
set_option Elab.async false
set_option linter.all false
set_option maxRecDepth 100000
set_option maxHeartbeats 0
open PySem PySem.W PySem.Calls PyProof.Rows
theorem PySem.Challenge.cw_lessmore_k27_lists_that_fall_apart_holds : PySem.Challenge.rw_lessmore_k27_lists_that_fall_apart.Holds := by
  w_on; o_law; k_head; (case hw => w_witness2)
  k_fill
  refine Ps.walkG_K (l := PySem.Challenge.rw_lessmore_k27_lists_that_fall_apart) (n := 63) (k := Pd.lawK + 1) (x := "_law_script") (CX := Pd.CXw (PySem.Challenge.rw_lessmore_k27_lists_that_fall_apart).prog) (sp := fun K => Pd.spT K (fun _ _ _ _ _ => False) ((Pd.mdOf Pd.dfs Pd.free).tb (Pd.lawK + 1)) Pd.d_law.x) rfl (by decide) rfl ⟨rfl, by decide, by decide⟩ (fun w h Y => PySem.W.kIn_of Y) ?F (fun K H a ns hl hO hS => Pd.law_sp hO hS (by rfl) (Pd.law_pure ns hl)) (fun _ _ _ _ z => Pd.cxw_no z)
  intro w mg fa h KX G hmg0
  obtain ⟨fd, hb, hF⟩ := Pd.law_fn (P := (PySem.Challenge.rw_lessmore_k27_lists_that_fall_apart).prog) (w := w) (XR := fun _ _ _ _ _ => False) (f := fa) (d := Pd.d_law) (x := "_law_script") Pd.nd_all Pd.chk_all Pd.bnd_all Pd.cls_all KX G (by show Pd.obsP _ _ _ _ = Pd.valP _ _ _; kernel_rfl) (by simp [Pd.dfs]) rfl rfl rfl hmg0 Pd.lawK
  exact ⟨fd, hb, fun base _ _ => hF base⟩
