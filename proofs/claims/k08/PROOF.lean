import PyProof.Rows.All
import Wide.All
import OpenK.AllK
import Wide.FinOn
import HandS.ForMost
import HandS.IsInst
import HandS.CallLocal
import HandS.Wide
import HandS.Style
import HandS.RaiseMore
import HandS.Exc
import HandS.Lambda
import HandS.TupAny
import HandS.TupLen
import HandS.ExcOwn
import HandS.Star
import KE.GoesEnum
import HandS.TryOnly
import HandS.Property
import HandS.ClsMeth
import HandS.TryMany
import HandS.ExcField
import KE.KDictDisplayH
import HandS.ExcIs
import HandS.CallRecv
import KE.KExcSuper
import HandS.ExcInit
import HandS.Head0
import HandS.Head1
import HandS.Head2
import HandS.HeadEnd
import HandS.HeadHook1
import HandS.HeadHook2
import HandS.HeadHook4
import HandS.EndTab
import PyProof.ExcBaseAll.ValueError
import PyProof.ExcBaseAll.IndexError
import PyProof.ExcBaseAll.LookupError
import PyProof.ReprBulk
import PySem.Challenge.RW_fallsback_k08_errors_of_machines
set_option Elab.async false
set_option linter.all false
set_option maxRecDepth 100000
set_option maxHeartbeats 0
set_option exponentiation.threshold 3000
namespace DI
open PySem L2

/-! ### plain data -/
inductive D where
  | non | bl (b : Bool) | int (i : Int) | str (cs : List Nat)
  | tup (xs : List D) | lst (xs : List D) | scr (xs : List D) | dct (kvs : List (D × D)) | fn (f : Nat)
  | obj (c : Nat) (fs : List (Nat × D)) | cls (c : Nat) | ctp (xs : List D)
deriving Inhabited

def sOf (cs : List Nat) : Str := ⟨cs.toArray⟩
theorem sOf_len (cs : List Nat) : (sOf cs).length = cs.length := by simp [sOf, Str.length]
theorem sOf_list (cs : List Nat) : (sOf cs).cps.toList = cs := by simp [sOf]
theorem sOf_of (x : Str) : sOf x.cps.toList = x := by simp [sOf]
theorem sOf_app (a b : List Nat) : sOf a ++ sOf b = sOf (a ++ b) := by
  show Str.append (sOf a) (sOf b) = sOf (a ++ b)
  simp [sOf, Str.append]
theorem sOf_inj {a b : List Nat} (h : sOf a = sOf b) : a = b := by
  have := congrArg (fun x : Str => x.cps.toList) h
  simpa [sOf] using this

mutual
def toPy : D → PyData
  | .non => .none
  | .bl b => .bool b
  | .int i => .int i
  | .str cs => .str (sOf cs)
  | .tup xs => .tuple (toPys xs)
  | .lst xs => .list (toPys xs)
  | .scr xs => .list (toPys xs)
  | .dct kvs => .dict (toPyk kvs)
  | .fn _ => .none
  | .obj _ _ => .none
  | .cls _ => .none
  | .ctp xs => .tuple (toPys xs)
def toPys : List D → List PyData
  | [] => []
  | x :: xs => toPy x :: toPys xs
def toPyk : List (D × D) → List (PyData × PyData)
  | [] => []
  | (k, v) :: xs => (toPy k, toPy v) :: toPyk xs
end
/- data without a def, a dict -/
mutual
def plain : D → Bool
  | .tup xs => plains xs
  | .lst xs => plains xs
  | .scr _ => false
  | .dct _ => false
  | .fn _ => false
  | .obj _ _ => false
  | .cls _ => false
  | .ctp _ => false
  | _ => true
def plains : List D → Bool
  | [] => true
  | x :: xs => plain x && plains xs
end
def flat : D → Bool
  | .non => true
  | .bl _ => true
  | .int _ => true
  | .str _ => true
  | _ => false
def vOf : D → V
  | .non => .non
  | .bl b => .bl b
  | .int i => .int i
  | .str cs => .str (sOf cs)
  | _ => .non
def tyD : D → Option String
  | .non => some "NoneType"
  | .bl _ => some "bool"
  | .int _ => some "int"
  | .str _ => some "str"
  | .tup _ => some "tuple"
  | .ctp _ => some "tuple"
  | .lst _ => some "list"
  | .dct _ => some "dict"
  | _ => none

/-- the names of attributes, by their numbers -/
def nmT : List String := ["value", "own_states", "name", "own_kinds", "own_machines", "index", "own_waiting", "own_program", "own_indices", "own_moves", "own_letters", "own_steps", "of_clean", "of_made", "of_price", "of_states", "of_process", "of_lanes", "own_rows", "own_many", "own_lanes", "own_clean", "limit", "of_standing", "of_step", "of_found", "of_kept", "of_later", "of_failed", "of_ahead", "own_events", "own_run", "own_found", "own_first", "own_number", "own_process", "own_held", "many", "place", "own_now", "own_past", "own_kept", "own_released", "own_later", "own_gone", "own_costs", "own_falls", "line", "own_desk", "own_tables", "own_touched", "own_backs", "own_is_back", "own_around", "own_place"]
def nm (i : Nat) : Str := Str.ofString (nmT.getD i "")
/-- a thing that one name alone has: its parts are frozen values or things of the same kind -/
inductive Ho where
  | fz (d : D) | ls (xs : List Ho) | dc (ks : List (Key × Ho)) | dt (ks : List (List Key × Ho)) | ob (c : Nat) (fs : List (Nat × Ho))
deriving Inhabited
def keyD : Key → D
  | .inl i => .int i
  | .inr x => .str x.cps.toList
mutual
def toD : Ho → D
  | .fz d => d
  | .ls xs => .lst (toDs xs)
  | .dc ks => .dct (toDk ks)
  | .dt ks => .dct (toDt ks)
  | .ob c fs => .obj c (toDf fs)
def toDs : List Ho → List D
  | [] => []
  | x :: xs => toD x :: toDs xs
def toDk : List (Key × Ho) → List (D × D)
  | [] => []
  | (k, x) :: xs => (keyD k, toD x) :: toDk xs
def toDt : List (List Key × Ho) → List (D × D)
  | [] => []
  | (k, x) :: xs => (.tup (k.map keyD), toD x) :: toDt xs
def toDf : List (Nat × Ho) → List (Nat × D)
  | [] => []
  | (k, x) :: xs => (k, toD x) :: toDf xs
end
def fzs (xs : List D) : Ho := .ls (xs.map .fz)
/-- what an expression hands back: a value, or a thing that nobody else has -/
inductive R where
  | val (d : D) | new (h : Ho)
def R.d : R → D
  | .val d => d
  | .new h => toD h
def R.h : R → Ho
  | .val d => .fz d
  | .new h => h
/-- an error that is raised: its class, what it keeps -/
structure Xc where
  c : Nat
  fs : List (Nat × D)
/-- a local name: nothing, a value, a thing of its own, the caller's thing, an error that is handled -/
inductive Sl where
  | un | val (d : D) | own (h : Ho) | io (h : Ho) | exc (x : Xc)
abbrev Ev := List Sl
/-- a run: stuck, or an error or a result, with the names behind it -/
abbrev Res (α : Type) := Option (Except Xc α × Ev)
def bnd {α β : Type} (m : Res α) (g : α → Ev → Res β) : Res β := match m with
  | some (.ok a, e) => g a e
  | some (.error x, e) => some (.error x, e)
  | none => none
def okR {α : Type} (o : Option α) (e : Ev) : Res α := match o with
  | some a => some (.ok a, e)
  | none => none

inductive Op where
  | add | sub | mul | fdiv | mod | pow | neg
  | eq | ne | lt | le | gt | ge | isin | notin | isn | notn | isb
  | item | rev
  | tup | list | len | all | int | abs | max | min | repr | listof | join | upper | isi (t : String) | dict
  | tupof | sum | any | stri
  | dget1 | dget2 | dor | dictof | sorted | sortset | lenset | fstr | idx | items

def big : Nat := 1000000
def bl (b : Bool) : Option R := some (.val (.bl b))
def num (i : Int) : Option R := some (.val (.int i))
def cutL {α : Type} (xs : List α) (lo hi : Option Int) : List α := (xs.drop (HT.sIx xs.length 0 lo)).take (HT.sIx xs.length xs.length hi - HT.sIx xs.length 0 lo)
def bools : List D → Option (List Bool)
  | [] => some []
  | .bl b :: xs => (bools xs).map (b :: ·)
  | _ :: _ => none
def texts : List D → Option (List (List Nat))
  | [] => some []
  | .str b :: xs => (texts xs).map (b :: ·)
  | _ :: _ => none
/-! dicts: keys that are ints and texts, or tuples of them -/
def keyOf : D → Option Key
  | .int i => some (.inl i)
  | .str cs => some (.inr (sOf cs))
  | _ => none
def keysOf : List D → Option (List Key)
  | [] => some []
  | d :: ds => match keyOf d, keysOf ds with
    | some k, some ks => some (k :: ks)
    | _, _ => none
abbrev KK := Key ⊕ List Key
def kkOf : D → Option KK
  | .tup ds => (keysOf ds).map .inr
  | d => (keyOf d).map .inl
def kkD : KK → D
  | .inl k => keyD k
  | .inr ks => .tup (ks.map keyD)
def valD (k : KK) : List (D × D) → Option D
  | [] => none
  | (a, d) :: r => if kkOf a = some k then some d else valD k r
def sortK : KK → D → Bool
  | .inl _, .int _ => true
  | .inl _, .str _ => true
  | .inr _, .tup _ => true
  | _, _ => false
/-- what a dict has at a key of the sort of its own keys -/
def getD1 (kvs : List (D × D)) (y : D) : Option (Option D) := match kkOf y with
  | some k => if kvs.all fun p => sortK k p.1 then some (valD k kvs) else none
  | none => none
def pairUp : List D → Option (List (Key × D))
  | [] => some []
  | .int i :: v :: r => (pairUp r).map ((.inl i, v) :: ·)
  | .str cs :: v :: r => (pairUp r).map ((.inr (sOf cs), v) :: ·)
  | _ => none
def okEq (d : D) : Bool := plain d && SeqAt.shaped (toPy d)
def okShow (d : D) : Bool := plain d && (toPy d).showable && decide ((toPy d).shown.length ≤ sizeLine) && decide ((toPy d).depth ≤ 60)

def dAdd : List D → Option R
  | [.int a, .int b] => num (a + b)
  | [.str a, .str b] => if a.length + b.length ≤ big then some (.val (.str (a ++ b))) else none
  | [.lst a, .lst b] => if a.length + b.length ≤ big then some (.new (fzs (a ++ b))) else none
  | [.tup a, .tup b] => if a.length + b.length ≤ big then some (.val (.tup (a ++ b))) else none
  | _ => none
def dSub : List D → Option R
  | [.int a, .int b] => num (a - b)
  | _ => none
def dMul : List D → Option R
  | [.int a, .int b] => if a.natAbs.log2 + b.natAbs.log2 < 1000000 then num (a * b) else none
  | [.str a, .int b] => if 2 ≤ b ∧ b ≤ 1000 ∧ 0 < a.length ∧ a.length * b.toNat ≤ big then some (.val (.str (List.replicate b.toNat a).flatten)) else none
  | [.lst a, .int b] => if 0 ≤ b ∧ b ≤ big ∧ a.length * b.toNat ≤ big then some (.new (fzs (List.replicate b.toNat a).flatten)) else none
  | _ => none
def dFdiv : List D → Option R
  | [.int a, .int b] => if 0 < b ∧ b < 1073741824 then num (a / b) else none
  | _ => none
def dMod : List D → Option R
  | [.int a, .int b] => if 0 < b then num (a % b) else none
  | _ => none
def dPow : List D → Option R
  | [.int a, .int b] => if 0 ≤ b ∧ b ≤ 1000 ∧ a.natAbs < 2 ^ 1000 then num (a ^ b.toNat) else none
  | _ => none
def dNeg : List D → Option R
  | [.int a] => num (-a)
  | _ => none
def dEq : List D → Option R
  | [.str a, .str b] => bl (decide (a = b))
  | [a, b] => if okEq a && okEq b then bl (PyData.eqv (toPy a) (toPy b)) else none
  | _ => none
def dNe : List D → Option R
  | [.str a, .str b] => bl (!decide (a = b))
  | [a, b] => if okEq a && okEq b then bl (!PyData.eqv (toPy a) (toPy b)) else none
  | _ => none
def dLt : List D → Option R
  | [.int a, .int b] => bl (decide (a < b))
  | [.str a, .str b] => bl (decide (a < b))
  | _ => none
def dLe : List D → Option R
  | [.int a, .int b] => bl (decide (a ≤ b))
  | [.str a, .str b] => bl (!decide (b < a))
  | _ => none
def dGt : List D → Option R
  | [.int a, .int b] => bl (decide (b < a))
  | _ => none
def dGe : List D → Option R
  | [.int a, .int b] => bl (decide (b ≤ a))
  | _ => none
def dIn (neg : Bool) : List D → Option R
  | [.str [c], .str b] => bl (if neg then !decide (c ∈ b) else decide (c ∈ b))
  | [a, .tup b] => if flat a && b.all flat then bl (if neg then !inV (vOf a) (b.map vOf) else inV (vOf a) (b.map vOf)) else none
  | [a, .lst b] => if flat a && b.all flat then bl (if neg then !inV (vOf a) (b.map vOf) else inV (vOf a) (b.map vOf)) else none
  | [a, .ctp b] => if flat a && b.all flat then bl (if neg then !inV (vOf a) (b.map vOf) else inV (vOf a) (b.map vOf)) else none
  | [a, .dct kvs] => match getD1 kvs a with
    | some o => bl (if neg then !o.isSome else o.isSome)
    | none => none
  | _ => none
def isNon : D → Bool
  | .non => true
  | _ => false
def dIsn (neg : Bool) : List D → Option R
  | [a, .non] => bl (if neg then !isNon a else isNon a)
  | _ => none
def dIsb : List D → Option R
  | [.bl a, .bl b] => bl (decide (a = b))
  | _ => none
def dItem : List D → Option R
  | [.dct kvs, y] => match getD1 kvs y with
    | some (some v) => some (.val v)
    | _ => none
  | [.lst xs, .int i] => (atI xs i).map .val
  | [.scr xs, .int i] => (atI xs i).map .val
  | [.tup xs, .int i] => (atI xs i).map .val
  | [.str cs, .int i] => if cs.length ≤ big then (atI cs i).map fun c => .val (.str [c]) else none
  | _ => none
def cutR (i j : Option Int) : D → Option R
  | .str cs => if cs.length ≤ big then some (.val (.str (cutL cs i j))) else none
  | .lst xs => some (.new (fzs (cutL xs i j)))
  | .tup xs => some (.val (.tup (cutL xs i j)))
  | _ => none
def dRev : List D → Option R
  | [.str cs] => if cs.length ≤ big then some (.val (.str cs.reverse)) else none
  | [.lst xs] => some (.new (fzs xs.reverse))
  | _ => none
def dLen : List D → Option R
  | [.str cs] => if cs.length ≤ big then num cs.length else none
  | [.lst xs] => num xs.length
  | [.scr xs] => num xs.length
  | [.tup xs] => num xs.length
  | [.dct kvs] => num kvs.length
  | _ => none
def dAll : List D → Option R
  | [.lst xs] => match bools xs with
    | some bs => bl (bs.all id)
    | none => none
  | _ => none
def dInt : List D → Option R
  | [.int i] => num i
  | [.bl b] => num (if b then 1 else 0)
  | _ => none
def dAbs : List D → Option R
  | [.int i] => num (if i < 0 then -i else i)
  | _ => none
def dMax : List D → Option R
  | [.int i, .int j] => num (if j > i then j else i)
  | _ => none
def dMin : List D → Option R
  | [.int i, .int j] => num (if j < i then j else i)
  | _ => none
def dRepr : List D → Option R
  | [d] => if okShow d then some (.val (.str (toPy d).shown.cps.toList)) else none
  | _ => none
def dTupof : List D → Option R
  | [.lst xs] => some (.val (.tup xs))
  | [.tup xs] => some (.val (.tup xs))
  | _ => none
def intsD : List D → Option (List Int)
  | [] => some []
  | .int b :: xs => (intsD xs).map (b :: ·)
  | _ :: _ => none
def dSum : List D → Option R
  | [.lst xs] => match intsD xs with
    | some ns => num ns.sum
    | none => none
  | _ => none
def dAny : List D → Option R
  | [.lst xs] => match bools xs with
    | some bs => bl (bs.any id)
    | none => none
  | _ => none
def dStri : List D → Option R
  | [.int i] => if i.natAbs.log2 < 1920 then some (.val (.str (Str.ofString (toString i)).cps.toList)) else none
  | _ => none
/-- texts put in order: by code points -/
def insS (x : List Nat) : List (List Nat) → List (List Nat)
  | [] => [x]
  | y :: r => if y < x then y :: insS x r else x :: y :: r
def sortS : List (List Nat) → List (List Nat)
  | [] => []
  | x :: r => insS x (sortS r)
def insI (x : Int) : List Int → List Int
  | [] => [x]
  | y :: r => if y < x then y :: insI x r else x :: y :: r
def sortI : List Int → List Int
  | [] => []
  | x :: r => insI x (sortI r)
/-- each text once, the first ones kept -/
def onceS : List (List Nat) → List (List Nat)
  | [] => []
  | x :: r => x :: (onceS r).filter fun y => decide (y ≠ x)
def sortD (ds : List D) : Option (List D) := match texts ds with
  | some xs => if xs.length < 64 then some ((sortS xs).map .str) else none
  | none => match intsD ds with
    | some ns => some ((sortI ns).map .int)
    | none => none
def dSorted : List D → Option R
  | [.lst ds] => (sortD ds).map fun xs => .new (fzs xs)
  | [.dct kvs] => match texts (kvs.map (·.1)) with
    | some xs => if xs.length < 64 then some (.new (fzs ((sortS xs).map .str))) else none
    | none => none
  | _ => none
def dSortset : List D → Option R
  | [.lst ds] => match texts ds with
    | some xs => if xs.length < 64 then some (.new (fzs ((sortS (onceS xs)).map .str))) else none
    | none => none
  | _ => none
def dLenset : List D → Option R
  | [.lst ds] => match texts ds with
    | some xs => num (onceS xs).length
    | none => none
  | _ => none
def dGet1 : List D → Option R
  | [.dct kvs, y] => (getD1 kvs y).map fun o => .val (o.getD .non)
  | _ => none
def dGet2 : List D → Option R
  | [.dct kvs, y, x] => (getD1 kvs y).map fun o => .val (o.getD x)
  | _ => none
/-- a dict's value is put in -/
def putD (kvs : List (D × D)) (k : KK) (v : D) : List (D × D) := match kvs with
  | [] => [(kkD k, v)]
  | (a, d) :: r => if kkOf a = some k then (a, v) :: r else (a, d) :: putD r k v
def frS (parts : List D) : Option (List Nat) := match parts with
  | [] => some []
  | .str cs :: r => (frS r).map (cs ++ ·)
  | .int i :: r => if i.natAbs.log2 < 1920 then (frS r).map ((Str.ofString (toString i)).cps.toList ++ ·) else none
  | _ => none
def dFstr (ds : List D) : Option R := match frS ds with
  | some cs => if cs.length ≤ big then some (.val (.str cs)) else none
  | none => none
def dListof : List D → Option R
  | [.lst xs] => some (.new (fzs xs))
  | [.tup xs] => some (.new (fzs xs))
  | [.str cs] => if cs.length ≤ big then some (.new (fzs (cs.map fun c => .str [c]))) else none
  | _ => none
def dJoin : List D → Option R
  | [.str cs, .lst xs] => match texts xs with
    | some ts => if (ts.map (·.length)).sum + ts.length * cs.length ≤ big then some (.val (.str (Txt.join (sOf cs) (ts.map sOf)).cps.toList)) else none
    | none => none
  | _ => none
def dUpper : List D → Option R
  | [.str cs] => if cs.length ≤ big then some (.val (.str (Txt.upper (sOf cs)).cps.toList)) else none
  | _ => none
def dIsi (t : String) : List D → Option R
  | [d] => match tyD d with
    | some a => match kitB a t with
      | some b => bl b
      | none => none
    | none => none
  | _ => none
/-- a display's pairs: tuples as keys -/
def pairUpT : List D → Option (List (List Key × D))
  | [] => some []
  | .tup ds :: v :: r => match keysOf ds with
    | some ks => (pairUpT r).map ((ks, v) :: ·)
    | none => none
  | _ => none
def dDict (xs : List D) : Option R := match pairUp xs with
  | some kvs => if kvs.length ≤ 15 ∧ (kvs.map (·.1)).Nodup then some (.new (.dc (kvs.map fun p => (p.1, .fz p.2)))) else none
  | none => match pairUpT xs with
    | some kvs => if kvs.length ≤ 15 ∧ (kvs.map (·.1)).Nodup then some (.new (.dt (kvs.map fun p => (p.1, .fz p.2)))) else none
    | none => none
def opD : Op → List D → Option R
  | .add, ds => dAdd ds
  | .sub, ds => dSub ds
  | .mul, ds => dMul ds
  | .fdiv, ds => dFdiv ds
  | .mod, ds => dMod ds
  | .pow, ds => dPow ds
  | .neg, ds => dNeg ds
  | .eq, ds => dEq ds
  | .ne, ds => dNe ds
  | .lt, ds => dLt ds
  | .le, ds => dLe ds
  | .gt, ds => dGt ds
  | .ge, ds => dGe ds
  | .isin, ds => dIn false ds
  | .notin, ds => dIn true ds
  | .isn, ds => dIsn false ds
  | .notn, ds => dIsn true ds
  | .isb, ds => dIsb ds
  | .item, ds => dItem ds
  | .rev, ds => dRev ds
  | .tup, xs => if xs.length ≤ big then some (.val (.tup xs)) else none
  | .list, xs => if xs.length ≤ big then some (.new (fzs xs)) else none
  | .len, ds => dLen ds
  | .all, ds => dAll ds
  | .int, ds => dInt ds
  | .abs, ds => dAbs ds
  | .max, ds => dMax ds
  | .min, ds => dMin ds
  | .repr, ds => dRepr ds
  | .listof, ds => dListof ds
  | .join, ds => dJoin ds
  | .upper, ds => dUpper ds
  | .isi t, ds => dIsi t ds
  | .dict, ds => dDict ds
  | .tupof, ds => dTupof ds
  | .sum, ds => dSum ds
  | .any, ds => dAny ds
  | .stri, ds => dStri ds
  | .dget1, ds => dGet1 ds
  | .dget2, ds => dGet2 ds
  | .sorted, ds => dSorted ds
  | .sortset, ds => dSortset ds
  | .lenset, ds => dLenset ds
  | .fstr, ds => dFstr ds
  | .dor, _ => none
  | .dictof, _ => none
  | .idx, _ => none
  | .items, _ => none

/-! ### expressions and statements, names by their places -/
/-- what a for binds: a name, or a tuple of such -/
inductive Tg where
  | nm (s : Nat) | tp (ts : List Tg)
mutual
inductive I where
  | con (d : D) | var (i : Nat) | op (o : Op) (as : Is)
  | opm (o : Op) (tb : List (Nat × Nat)) (as : Is)
  | call (f : Nat) (as : Is) | callio (f s : Nat) (as : Is) | callfr (f : Nat) (a : I) (as : Is) | callv (s : Nat) (as : Is)
  | ife (c : T) (a b : I) | andb (a b : I) | orb (a b : I) | notb (a : I)
  | item1 (s : Nat) (tb : List (Nat × Nat)) (a : I) | len1 (s : Nat) (tb : List (Nat × Nat)) | pop1 (s : Nat) (a : I) | chain (o p : Op) (a b c : I)
  | cut (a : I) (lo hi : Io) | lst (as : Is) | lc (tg : Tg) (it : It) (c : T) (e : I)
  | fld (a : I) (f : Nat) (cs : List Nat) | fld1 (s f : Nat) (cs : List Nat) | prop (a : I) (tb : List (Nat × Nat)) | meth (a : I) (tb : List (Nat × Nat)) (as : Is)
  | mk (c f : Nat) (as : Is) | mkv (s : Nat) (tb : List (Nat × Nat)) (as : Is) | cmeth (c f : Nat) (as : Is) | cmkw (c f : Nat) (as : Is) (p : I)
  | xfld (s c f : Nat) | xisi (s : Nat) (ks cs : List Nat)
  | lamc (g : Nat) (vs : List Nat) (e : I) | lam0 (s : Nat) | nil1 (s : Nat) (o : Op)
  | dg1 (a b : I) | dg2 (a b c : I) | dcm (tg : Tg) (it : It) (c : T) (k v : I)
inductive Is where
  | nil | cons (a : I) (as : Is) | star (a : I) (as : Is)
inductive Io where
  | none | some (a : I)
inductive T where
  | yes | val (a : I) | not (t : T) | and (a b : T) | or (a b : T) | ife (c a b : T)
inductive It where
  | seq (a : I) | rng1 (a : I) | rng2 (a b : I) | enum (a : I) | zip (a b : I) | items (a : I) | vals (a : I)
end
/-- what an assignment binds -/
inductive Pl where
  | nm (s : Nat) | sub (s : Nat) (ix : I) | fl (s f : Nat) (cs : List Nat)
mutual
inductive S where
  | ret (a : I) | set (s : Nat) (a : I) | par (ss : List Nat) (as : Is) | upk (ps : List Pl) (a : I) | expr (a : I)
  | put1 (s : Nat) (ix a : I) | app1 (s : Nat) (a : I) | ext1 (s : Nat) (a : I) | setf (s f : Nat) (cs : List Nat) (a : I)
  | ifs (c : T) (a b : Ss) | for_ (tg : Tg) (it : It) (b : Ss) | pass | brk | cont
  | rs (c : Nat) (f : Option Nat) (a : I) | try_ (b : Ss) (hs : Hs) | no
inductive Ss where
  | nil | cons (a : S) (as : Ss)
inductive Hs where
  | nil | cons (ks cs : List Nat) (s : Option Nat) (b : Ss) (hs : Hs)
end

structure CF where
  c : Nat → Option Ho → List D → Option (Except Xc R × Option Ho)
  /-- a def whose one argument is a lambda, told by what it would hand back -/
  l : Nat → Xc → Option (Except Xc R)
  /-- a def whose keyword-only parameter is given -/
  k : Nat → List D → Option (Except Xc R)
instance : CoeFun CF (fun _ => Nat → Option Ho → List D → Option (Except Xc R × Option Ho)) := ⟨CF.c⟩

def rdV (env : Ev) (i : Nat) : Option (D × Ev) :=
  match env[i]? with
  | some (.val d) => some (d, env)
  | some (.own h) => some (toD h, env.set i (.val (toD h)))
  | _ => none
def held (env : Ev) (i : Nat) : Option Ho :=
  match env[i]? with
  | some (.own h) => some h
  | some (.io h) => some h
  | _ => none
def hold (env : Ev) (i : Nat) (h : Ho) : Ev :=
  match env[i]? with
  | some (.io _) => env.set i (.io h)
  | _ => env.set i (.own h)
/-- a name's thing or value, looked at and left -/
def look1 (env : Ev) (i : Nat) : Option D :=
  match env[i]? with
  | some (.val d) => some d
  | some (.own h) => some (toD h)
  | some (.io h) => some (toD h)
  | _ => none
def bound1 (env : Ev) (i : Nat) : Bool := (look1 env i).isSome
def seqOf : D → Option (List D)
  | .lst xs => some xs
  | .tup xs => some xs
  | .scr xs => some xs
  | .str cs => some (cs.map fun c => .str [c])
  | .dct kvs => if (keysOf (kvs.map (·.1))).isSome then some (kvs.map (·.1)) else none
  | _ => none
def unpOf : D → Option (List D)
  | .lst xs => some xs
  | .tup xs => some xs
  | _ => none
def truth : D → Option Bool
  | .non => some false
  | .bl b => some b
  | .int i => some (i != 0)
  | .str cs => if cs.length ≤ big then some ((cs.length : Int) != 0) else none
  | .lst xs => some (!xs.isEmpty)
  | .tup xs => some (!xs.isEmpty)
  | _ => none
def rng (lo hi : Int) : List D := (List.range (hi - lo).toNat).map fun i => .int (lo + (i : Nat))
def inW (i : Int) : Bool := decide (-1000000000 ≤ i ∧ i ≤ 1000000000)
/-- a name may be bound anew -/
def free (env : Ev) (s : Nat) : Bool :=
  match env[s]? with
  | some (.io _) => false
  | some _ => true
  | none => false
mutual
def Tg.slots : Tg → List Nat
  | .nm s => [s]
  | .tp ts => Tg.slotss ts
def Tg.slotss : List Tg → List Nat
  | [] => []
  | t :: ts => t.slots ++ Tg.slotss ts
end
mutual
def bindT : Tg → D → Ev → Option Ev
  | .nm s, d, env => if free env s then some (env.set s (.val d)) else none
  | .tp ts, .tup ds, env => bindTs ts ds env
  | .tp _, _, _ => none
def bindTs : List Tg → List D → Ev → Option Ev
  | [], [], env => some env
  | t :: ts, d :: ds, env => match bindT t d env with
    | some e1 => bindTs ts ds e1
    | none => none
  | _, _, _ => none
end
def lcD (f : D → Ev → Res (Option Ho)) : List D → List Ho → Ev → Res (List Ho)
  | [], acc, env => some (.ok acc, env)
  | d :: ds, acc, env => bnd (f d env) fun o e1 => match o with
    | some x => if acc.length < big then lcD f ds (acc ++ [x]) e1 else none
    | none => lcD f ds acc e1
def asSl : R → Sl
  | .val d => .val d
  | .new h => .own h
def lsOf : Ho → Option (List Ho)
  | .ls xs => some xs
  | _ => none
/-- a dict with one entry put in -/
def putR {κ α : Type} [DecidableEq κ] : List (κ × α) → κ → α → List (κ × α)
  | [], k, x => [(k, x)]
  | (g, y) :: r, k, x => if g = k then (g, x) :: r else (g, y) :: putR r k x
/-- a thing with one part put in at an index, a key -/
def putAtH (h : Ho) (y : D) (x : Ho) : Option Ho := match h with
  | .ls xs => match y with
    | .int i => (ixN xs.length i).map fun j => .ls (xs.set j x)
    | _ => none
  | .dc ks => match kkOf y with
    | some (.inl k) => if ks.length < big then some (.dc (putR ks k x)) else none
    | some (.inr k) => if ks.isEmpty then some (.dt [(k, x)]) else none
    | none => none
  | .dt ks => match kkOf y with
    | some (.inr k) => if ks.length < big then some (.dt (putR ks k x)) else none
    | _ => none
  | _ => none
def dcmD (f : D → Ev → Res (Option (Key × Ho))) : List D → List (Key × Ho) → Ev → Res (List (Key × Ho))
  | [], acc, env => some (.ok acc, env)
  | d :: ds, acc, env => bnd (f d env) fun o e1 => match o with
    | some (k, x) => if acc.length < big then dcmD f ds (putR acc k x) e1 else none
    | none => dcmD f ds acc e1
/-- an item of a thing, where it is a frozen value -/
def itemH : Ho → D → Option D
  | .ls xs, .int i => match atI xs i with
    | some (.fz d) => some d
    | _ => none
  | _, _ => none
def obOf : Ho → Option (Nat × List (Nat × Ho))
  | .ob c fs => some (c, fs)
  | _ => none
def asR : Ho → R
  | .fz d => .val d
  | h => .new h
def putN : List (Nat × Ho) → Nat → Ho → List (Nat × Ho)
  | [], f, h => [(f, h)]
  | (g, x) :: r, f, h => if g = f then (g, h) :: r else (g, x) :: putN r f h
/-- a call, its result among the names of the caller -/
def rsC (o : Option (Except Xc R × Option Ho)) (e : Ev) : Res R := match o with
  | some (r, _) => some (r, e)
  | none => none
/-- a new object, behind its __init__ -/
def mkC (o : Option (Except Xc R × Option Ho)) (e : Ev) : Res R := match o with
  | some (.ok (.val .non), some h) => some (.ok (.new h), e)
  | some (.error x, some _) => some (.error x, e)
  | _ => none
/-- the method of an object by its class -/
def mthOf (tb : List (Nat × Nat)) : D → Option Nat
  | .obj c _ => tb.lookup c
  | _ => none
def fldOf (f : Nat) (cs : List Nat) : D → Option D
  | .obj c fs => if cs.contains c then fs.lookup f else none
  | _ => none
def fldH (f : Nat) (cs : List Nat) : Ho → Option D
  | .ob c fs => if cs.contains c then match fs.lookup f with
      | some (.fz d) => some d
      | _ => none
    else none
  | _ => none
/-- what enumerate walks: pairs of a number and an item -/
def enD (ds : List D) : List D := ds.mapIdx fun i d => .tup [.int i, d]
def enOf : D → Option (List D)
  | .lst ds => some ds
  | .tup ds => some ds
  | _ => none
/-- the names of a comprehension, put aside -/
def loose1 (env : Ev) (s : Nat) : Bool := match env[s]? with
  | some .un => true
  | some (.val _) => true
  | _ => false
def putBack (env old : Ev) : List Nat → Ev
  | [] => env
  | s :: ss => (putBack env old ss).set s (old.getD s .un)
def clr (env : Ev) : List Nat → Ev
  | [] => env
  | s :: ss => (clr env ss).set s .un

/-- a lambda without parameters, by what it hands back: an error's number is from 1000000 on, 2000000 is a value -/
def encX : Except Xc R → Xc
  | .ok r => ⟨2000000, [(0, r.d)]⟩
  | .error x => ⟨if x.c < 1000000 then 1000000 + x.c else 3000000, x.fs⟩
def decX (x : Xc) : Option (Except Xc R) :=
  if x.c < 1000000 then none else if x.c = 2000000 then match x.fs with
    | [(0, d)] => some (.ok (.val d))
    | _ => none
  else if x.c < 2000000 then some (.error ⟨x.c - 1000000, x.fs⟩) else none
/-- the names that a lambda takes with it, as values -/
def frzS : List Nat → Ev → Option Ev
  | [], env => some env
  | i :: is, env => match rdV env i with
    | some (_, e) => frzS is e
    | none => none
def onlyV (env : Ev) : Ev := env.map fun s => match s with
  | .val d => .val d
  | _ => .un

mutual
def eI (cf : CF) : I → Ev → Res R
  | .con d, env => some (.ok (.val d), env)
  | .var i, env => match rdV env i with
    | some (d, e) => some (.ok (.val d), e)
    | none => none
  | .op o as, env => bnd (eIs cf as env) fun ds e1 => okR (opD o ds) e1
  | .opm o tb as, env => bnd (eIs cf as env) fun ds e1 => match ds.head?.bind (mthOf tb) with
    | some f => rsC (cf f none ds) e1
    | none => okR (opD o ds) e1
  | .call f as, env => bnd (eIs cf as env) fun ds e1 => rsC (cf f none ds) e1
  | .callio f s as, env => if (held env s).isSome then bnd (eIs cf as env) fun ds e1 => match held e1 s with
      | some h => match cf f (some h) ds with
        | some (r, some h2) => some (r, hold e1 s h2)
        | _ => none
      | none => none
    else none
  | .callfr f a as, env => bnd (eI cf a env) fun r e1 => match r with
    | .new h => bnd (eIs cf as e1) fun ds e2 => rsC (cf f (some h) ds) e2
    | _ => none
  | .callv s as, env => match env[s]? with
    | some (.val (.fn f)) => match eIs cf as env with
      | some (.ok ds, e1) => rsC (cf f none ds) e1
      | _ => none
    | _ => none
  | .ife c a b, env => bnd (eT cf c env) fun k e1 => if k then eI cf a e1 else eI cf b e1
  | .andb a b, env => bnd (eI cf a env) fun r e1 => match r with
    | .val (.bl k) => if k then eI cf b e1 else some (.ok (.val (.bl false)), e1)
    | _ => none
  | .orb a b, env => bnd (eI cf a env) fun r e1 => match r with
    | .val (.bl k) => if k then some (.ok (.val (.bl true)), e1) else eI cf b e1
    | _ => none
  | .notb a, env => bnd (eI cf a env) fun r e1 => match r with
    | .val (.bl b) => some (.ok (.val (.bl (!b))), e1)
    | _ => none
  | .item1 s tb a, env => if bound1 env s then bnd (eI cf a env) fun r e1 => match (e1[s]? : Option Sl) with
      | some (.val d) => match mthOf tb d with
        | some f => rsC (cf f none [d, r.d]) e1
        | none => okR (opD .item [d, r.d]) e1
      | some (.own h) => match itemH h r.d with
        | some z => some (.ok (.val z), e1)
        | none => okR (opD .item [toD h, r.d]) (e1.set s (.val (toD h)))
      | some (.io h) => okR ((itemH h r.d).map .val) e1
      | _ => none
    else none
  | .len1 s tb, env => match look1 env s with
    | some d => match env[s]?, mthOf tb d with
      | some (.val _), some f => rsC (cf f none [d]) env
      | _, _ => okR (opD .len [d]) env
    | none => none
  | .chain o p a b c, env => bnd (eI cf a env) fun x e1 => bnd (eI cf b e1) fun y e2 => match opD o [x.d, y.d] with
    | some (.val (.bl k)) => if k then bnd (eI cf c e2) fun z e3 => okR (opD p [y.d, z.d]) e3 else some (.ok (.val (.bl false)), e2)
    | _ => none
  | .pop1 s a, env => if ((held env s).bind lsOf).isSome then bnd (eI cf a env) fun r e1 => match r with
      | .val (.int i) => match (held e1 s).bind lsOf with
        | some xs => if 0 ≤ i ∧ i < xs.length ∧ xs.length ≤ big then match xs[i.toNat]? with
            | some h => some (.ok (asR h), hold e1 s (.ls (xs.eraseIdx i.toNat)))
            | none => none
          else none
        | none => none
      | _ => none
    else none
  | .cut a lo hi, env => bnd (eI cf a env) fun r e1 => bnd (eO cf lo e1) fun i e2 => bnd (eO cf hi e2) fun j e3 => okR (cutR i j r.d) e3
  | .lst as, env => bnd (eRs cf as env) fun rs e1 => if rs.length ≤ big then some (.ok (.new (.ls (rs.map R.h))), e1) else none
  | .lc tg it c e, env => bnd (eIt cf it env) fun ds e1 => if tg.slots.all (loose1 e1) then
      match lcD (fun d en => match bindT tg d (clr en tg.slots) with
          | none => none
          | some en1 => bnd (eT cf c en1) fun k e2 => if k then bnd (eI cf e e2) fun r e3 => some (.ok (some r.h), e3) else some (.ok none, e2)) ds [] e1 with
        | some (.ok xs, e2) => some (.ok (.new (.ls xs)), putBack e2 e1 tg.slots)
        | _ => none
    else none
  | .fld a f cs, env => bnd (eI cf a env) fun r e1 => okR ((fldOf f cs r.d).map .val) e1
  | .fld1 s f cs, env => match (env[s]? : Option Sl) with
    | some (.val d) => okR ((fldOf f cs d).map .val) env
    | some (.own h) => okR ((fldH f cs h).map .val) env
    | some (.io h) => okR ((fldH f cs h).map .val) env
    | _ => none
  | .prop a tb, env => bnd (eI cf a env) fun r e1 => match mthOf tb r.d with
    | some f => match cf f none [r.d] with
      | some (.ok z, _) => some (.ok z, e1)
      | _ => none
    | none => none
  | .meth a tb as, env => bnd (eI cf a env) fun r e1 => match mthOf tb r.d with
    | some f => bnd (eIs cf as e1) fun ds e2 => rsC (cf f none (r.d :: ds)) e2
    | none => none
  | .mk c f as, env => bnd (eIs cf as env) fun ds e1 => mkC (cf f (some (.ob c [])) ds) e1
  | .mkv s tb as, env => match (env[s]? : Option Sl) with
    | some (.val (.cls c)) => match tb.lookup c with
      | some f => bnd (eIs cf as env) fun ds e1 => mkC (cf f (some (.ob c [])) ds) e1
      | none => none
    | _ => none
  | .cmeth c f as, env => bnd (eIs cf as env) fun ds e1 => rsC (cf f none (.cls c :: ds)) e1
  | .cmkw c f as p, env => bnd (eIs cf as env) fun ds e1 => bnd (eI cf p e1) fun r e2 => match cf.k f (.cls c :: r.d :: ds) with
    | some z => some (z, e2)
    | none => none
  | .xfld s c f, env => match env[s]? with
    | some (.exc x) => if x.c < 1000000 ∧ x.c = c then match x.fs.lookup f with
      | some d => some (.ok (.val d), env)
      | none => none
      else none
    | _ => none
  | .xisi s ks cs, env => match env[s]? with
    | some (.exc x) => if ks.contains x.c && x.fs.isEmpty then some (.ok (.val (.bl (cs.contains x.c))), env) else none
    | _ => none
  | .lamc g vs e, env => match frzS vs env with
    | some e1 => match eI cf e (onlyV e1) with
      | some (o, _) => match cf.l g (encX o) with
        | some z => some (z, e1)
        | none => none
      | none => none
    | none => none
  | .lam0 s, env => match env[s]? with
    | some (.exc x) => match decX x with
      | some z => some (z, env)
      | none => none
    | _ => none
  | .dg1 a b, env => bnd (eI cf a env) fun r e1 => match r.d with
    | .dct kvs => bnd (eI cf b e1) fun y e2 => okR ((getD1 kvs y.d).map fun o => .val (o.getD .non)) e2
    | _ => none
  | .dg2 a b c, env => bnd (eI cf a env) fun r e1 => match r.d with
    | .dct kvs => bnd (eI cf b e1) fun y e2 => bnd (eI cf c e2) fun x e3 => okR ((getD1 kvs y.d).map fun o => .val (o.getD x.d)) e3
    | _ => none
  | .dcm tg it c k v, env => bnd (eIt cf it env) fun ds e1 => if tg.slots.all (loose1 e1) then
      match dcmD (fun d en => match bindT tg d (clr en tg.slots) with
          | none => none
          | some en1 => bnd (eT cf c en1) fun b e2 => if b then bnd (eI cf k e2) fun r e3 => match keyOf r.d with
              | some q => bnd (eI cf v e3) fun z e4 => some (.ok (some (q, z.h)), e4)
              | none => none
            else some (.ok none, e2)) ds [] e1 with
        | some (.ok xs, e2) => some (.ok (.new (.dc xs)), putBack e2 e1 tg.slots)
        | _ => none
    else none
  | .nil1 s o, env => match look1 env s with
    | some d => okR (opD o [d, .lst []]) env
    | none => none
def eIs (cf : CF) : Is → Ev → Res (List D)
  | .nil, env => some (.ok [], env)
  | .cons a as, env => bnd (eI cf a env) fun r e1 => bnd (eIs cf as e1) fun ds e2 => some (.ok (r.d :: ds), e2)
  | .star a as, env => bnd (eI cf a env) fun r e1 => match r.d with
    | .tup xs => bnd (eIs cf as e1) fun ds e2 => some (.ok (xs ++ ds), e2)
    | .lst xs => bnd (eIs cf as e1) fun ds e2 => some (.ok (xs ++ ds), e2)
    | _ => none
/-- the values of a, b = x, y: what is new is the name's own -/
def eRs (cf : CF) : Is → Ev → Res (List R)
  | .nil, env => some (.ok [], env)
  | .cons a as, env => bnd (eI cf a env) fun r e1 => bnd (eRs cf as e1) fun ds e2 => some (.ok (r :: ds), e2)
  | .star _ _, _ => none
def eO (cf : CF) : Io → Ev → Res (Option Int)
  | .none, env => some (.ok none, env)
  | .some a, env => bnd (eI cf a env) fun r e1 => match r with
    | .val (.int i) => some (.ok (some i), e1)
    | _ => none
def eT (cf : CF) : T → Ev → Res Bool
  | .yes, env => some (.ok true, env)
  | .val a, env => bnd (eI cf a env) fun r e1 => okR (truth r.d) e1
  | .not t, env => bnd (eT cf t env) fun b e1 => some (.ok (!b), e1)
  | .and a b, env => bnd (eT cf a env) fun k e1 => if k then eT cf b e1 else some (.ok false, e1)
  | .or a b, env => bnd (eT cf a env) fun k e1 => if k then some (.ok true, e1) else eT cf b e1
  | .ife c a b, env => bnd (eT cf c env) fun k e1 => if k then eT cf a e1 else eT cf b e1
def eIt (cf : CF) : It → Ev → Res (List D)
  | .seq a, env => bnd (eI cf a env) fun r e1 => okR (seqOf r.d) e1
  | .rng1 a, env => bnd (eI cf a env) fun r e1 => match r with
    | .val (.int i) => if inW i then some (.ok (rng 0 i), e1) else none
    | _ => none
  | .rng2 a b, env => bnd (eI cf a env) fun r e1 => match r with
    | .val (.int i) => bnd (eI cf b e1) fun r2 e2 => match r2 with
      | .val (.int j) => if inW i && inW j then some (.ok (rng i j), e2) else none
      | _ => none
    | _ => none
  | .enum a, env => bnd (eI cf a env) fun r e1 => match enOf r.d with
    | some ds => some (.ok (enD ds), e1)
    | none => none
  | .items a, env => bnd (eI cf a env) fun r e1 => match r.d with
    | .dct kvs => if (keysOf (kvs.map (·.1))).isSome then some (.ok (kvs.map fun p => .tup [p.1, p.2]), e1) else none
    | _ => none
  | .vals a, env => bnd (eI cf a env) fun r e1 => match r.d with
    | .dct kvs => if (keysOf (kvs.map (·.1))).isSome then some (.ok (kvs.map (·.2)), e1) else none
    | _ => none
  | .zip a b, env => bnd (eI cf a env) fun r e1 => bnd (eI cf b e1) fun r2 e2 => match seqOf r.d, seqOf r2.d with
    | some ds, some es => some (.ok ((ds.zip es).map fun p => .tup [p.1, p.2]), e2)
    | _, _ => none
end

inductive Fl where
  | nx | rt (r : R) | bk | ct
def forD (body : Ev → Res Fl) (tg : Tg) : List D → Ev → Res Fl
  | [], env => some (.ok .nx, env)
  | d :: ds, env => match bindT tg d env with
    | none => none
    | some e0 => bnd (body e0) fun fl e1 => match fl with
      | .nx => forD body tg ds e1
      | .ct => forD body tg ds e1
      | .bk => some (.ok .nx, e1)
      | .rt r => some (.ok (.rt r), e1)
def setRs : List Nat → List R → Ev → Option Ev
  | [], [], env => some env
  | s :: ss, d :: ds, env => if free env s then setRs ss ds (env.set s (asSl d)) else none
  | _, _, _ => none
/-- a value is stored -/
def setP (cf : CF) : Pl → R → Ev → Res Unit
  | .nm s, r, env => if free env s then some (.ok (), env.set s (asSl r)) else none
  | .sub s ix, r, env => if (held env s).isSome then bnd (eI cf ix env) fun z e2 => match z with
      | .val y => match (held e2 s).bind fun h => putAtH h y r.h with
        | some h2 => some (.ok (), hold e2 s h2)
        | none => none
      | _ => none
    else none
  | .fl s f cs, r, env => match (held env s).bind obOf with
    | some (c, fs) => if cs.contains c && decide (fs.length < 100) then some (.ok (), hold env s (.ob c (putN fs f r.h))) else none
    | none => none
def setPs (cf : CF) : List Pl → List D → Ev → Res Unit
  | [], [], env => some (.ok (), env)
  | p :: ps, d :: ds, env => bnd (setP cf p (.val d) env) fun _ e1 => setPs cf ps ds e1
  | _, _, _ => none
/-- no name has an error -/
def noExc (env : Ev) : Bool := env.all fun s => match s with
  | .exc x => decide (1000000 ≤ x.c)
  | _ => true
/-- the end of a suite -/
def endX : Res Fl → Res Fl
  | some (.ok fl, e) => if noExc e then some (.ok fl, e) else none
  | _ => none
def endXi (i : Nat) : Res Fl → Res Fl
  | some (.ok fl, e) => if noExc (e.set i .un) && decide (i < e.length) then some (.ok fl, e.set i .un) else none
  | _ => none
mutual
def eS (cf : CF) : S → Ev → Res Fl
  | .ret a, env => bnd (eI cf a env) fun r e1 => some (.ok (.rt r), e1)
  | .set s a, env => bnd (eI cf a env) fun r e1 => if free e1 s then some (.ok .nx, e1.set s (asSl r)) else none
  | .par ss as, env => bnd (eRs cf as env) fun rs e1 => if ss.Nodup then okR ((setRs ss rs e1).map fun _ => Fl.nx) ((setRs ss rs e1).getD e1) else none
  | .upk ps a, env => bnd (eI cf a env) fun r e1 => match unpOf r.d with
    | some ds => if ds.length = ps.length then bnd (setPs cf ps ds e1) fun _ e2 => some (.ok .nx, e2) else none
    | none => none
  | .expr a, env => bnd (eI cf a env) fun _ e1 => some (.ok .nx, e1)
  | .put1 s ix a, env => bnd (eI cf a env) fun r e1 => bnd (setP cf (.sub s ix) r e1) fun _ e2 => some (.ok .nx, e2)
  | .app1 s a, env => if ((held env s).bind lsOf).isSome then bnd (eI cf a env) fun r e1 => match (held e1 s).bind lsOf with
      | some xs => if xs.length < big then some (.ok .nx, hold e1 s (.ls (xs ++ [r.h]))) else none
      | none => none
    else none
  | .ext1 s a, env => if ((held env s).bind lsOf).isSome then bnd (eI cf a env) fun r e1 => match (held e1 s).bind lsOf, r.d with
      | some xs, .lst ys => if xs.length + ys.length ≤ big then some (.ok .nx, hold e1 s (.ls (xs ++ ys.map .fz))) else none
      | _, _ => none
    else none
  | .setf s f cs a, env => bnd (eI cf a env) fun r e1 => bnd (setP cf (.fl s f cs) r e1) fun _ e2 => some (.ok .nx, e2)
  | .ifs c a b, env => bnd (eT cf c env) fun k e1 => if k then eSs cf a e1 else eSs cf b e1
  | .for_ tg it b, env => bnd (eIt cf it env) fun ds e1 => forD (fun e => eSs cf b e) tg ds e1
  | .pass, env => some (.ok .nx, env)
  | .no, _ => none
  | .brk, env => some (.ok .bk, env)
  | .cont, env => some (.ok .ct, env)
  | .rs c f a, env => bnd (eI cf a env) fun r e1 => some (.error ⟨c, match f with | some i => [(i, r.d)] | none => []⟩, e1)
  | .try_ b hs, env => match eSs cf b env with
    | some (.error x, e1) => eHs cf x hs e1
    | r => r
def eSs (cf : CF) : Ss → Ev → Res Fl
  | .nil, env => some (.ok .nx, env)
  | .cons a as, env => bnd (eS cf a env) fun fl e1 => match fl with
    | .nx => eSs cf as e1
    | f => some (.ok f, e1)
/-- the handlers of a try, one after the other -/
def eHs (cf : CF) (x : Xc) : Hs → Ev → Res Fl
  | .nil, env => some (.error x, env)
  | .cons ks cs s b hs, env => if ks.contains x.c then
      if cs.contains x.c then
        if noExc env then match s with
          | none => endX (eSs cf b env)
          | some i => if free env i then endXi i (eSs cf b (env.set i (.exc x))) else none
        else none
      else eHs cf x hs env
    else none
end

/-- a def of the text: by-reference first parameter or not, more arguments as a tuple or not, its parameters, its names, its body -/
-- a keyword-only parameter: none, it has its default, it is given
inductive Kd where
  | no | df (i : Int) | gv (x : Str)
structure Fn where
  io : Bool
  va : Bool
  np : Nat
  ns : Nat
  body : Ss
  kd : Kd := .no
def ioN : Bool → Nat
  | true => 1
  | false => 0
/-- the values of the parameters: what is left goes into the last one -/
def bindD (fn : Fn) (ds : List D) : Option (List D) :=
  if fn.va then if fn.np ≤ ds.length + ioN fn.io + 1 ∧ 0 < fn.np - ioN fn.io ∧ ds.length ≤ big then some (ds.take (fn.np - ioN fn.io - 1) ++ [.tup (ds.drop (fn.np - ioN fn.io - 1))]) else none
  else if fn.np = ds.length + ioN fn.io then some ds else none
-- .. the default stands ahead of what is left
def bindC (fn : Fn) (ds : List D) : Option (List D) := match fn.kd with
  | .no => bindD fn ds
  | .df i => if fn.io = false ∧ fn.va = true ∧ 2 ≤ fn.np ∧ fn.np ≤ ds.length + 2 ∧ ds.length ≤ big then some (ds.take (fn.np - 2) ++ [.int i] ++ [.tup (ds.drop (fn.np - 2))]) else none
  | .gv _ => none
def start0 (fn : Fn) (io : Option Ho) (ds : List D) : Ev :=
  (match io with | some h => [Sl.io h] | none => []) ++ ds.map Sl.val ++ List.replicate (fn.ns - fn.np) .un
def outOf (io : Bool) (env : Ev) : Option (Option Ho) :=
  if io then match (env[0]? : Option Sl) with
    | some (.io h) => some (some h)
    | _ => none
  else some none
/-- a def's body on the values of its parameters -/
def bodyF (cf : CF) (fn : Fn) (io : Option Ho) (es : List D) : Option (Except Xc R × Option Ho) :=
  match eSs cf fn.body (start0 fn io es) with
  | some (.ok (.rt r), env) => (outOf fn.io env).map fun o => (.ok r, o)
  | some (.ok .nx, env) => (outOf fn.io env).map fun o => (.ok (.val .non), o)
  | some (.error x, env) => (outOf fn.io env).map fun o => (.error x, o)
  | _ => none
/-- .. on a lambda -/
def bodyL (cf : CF) (fn : Fn) (x : Xc) : Option (Except Xc R) :=
  match eSs cf fn.body (Sl.exc x :: List.replicate (fn.ns - 1) .un) with
  | some (.ok (.rt r), _) => some (.ok r)
  | some (.ok .nx, _) => some (.ok (.val .non))
  | some (.error y, _) => some (.error y)
  | _ => none
/-- the defs by their numbers -/
def callF (fns : List (Nat × Fn)) : Nat → CF
  | 0 => ⟨fun _ _ _ => none, fun _ _ => none, fun _ _ => none⟩
  | k + 1 => ⟨fun f io ds => match fns.lookup f with
    | none => none
    | some fn => if fn.io = io.isSome ∧ fn.np ≤ fn.ns then
        match bindC fn ds with
        | none => none
        | some es => bodyF (callF fns k) fn io es
      else none,
    fun g x => match fns.lookup g with
    | none => none
    | some fn => if fn.io = false ∧ fn.va = false ∧ fn.np = 1 ∧ 1 ≤ fn.ns then bodyL (callF fns k) fn x else none,
    fun f ds => match fns.lookup f with
    | none => none
    | some fn => match fn.kd with
      | .gv _ => if fn.io = false ∧ fn.va = true ∧ 2 ≤ fn.np ∧ fn.np ≤ ds.length + 1 ∧ ds.length ≤ big ∧ fn.np ≤ fn.ns then (bodyF (callF fns k) fn none (ds.take (fn.np - 1) ++ [.tup (ds.drop (fn.np - 1))])).map (·.1) else none
      | _ => none⟩
end DI

namespace DI
open PySem L2

/-! ### tables of code objects may grow; all else stays -/
def ntb (o : HO) : Prop := ∀ ps, o ≠ .tbl ps
/-- a dict with keys that are ints and texts: it can be locked while it is walked -/
def isDk : HO → Bool
  | .dK _ => true
  | _ => false
def nod (o : HO) : Prop := isDk o = false
/-- .. kept: equal, or a table that has grown, or a frozen dict that is locked -/
def Kp (f : Prop) (o o' : HO) : Prop := o' = o ∨ ((∃ ps, o = .tbl ps) ∧ ∃ ps, o' = .tbl ps) ∨ (f ∧ isDk o = true ∧ ∃ od, o' = .frz od o)
theorem Kp.rfl {f : Prop} {o : HO} : Kp f o o := .inl (Eq.refl o)
theorem Kp.trans {f : Prop} {a b c : HO} (h : Kp f a b) (k : Kp f b c) : Kp f a c := by
  rcases h with rfl | ⟨⟨p1, h1⟩, p2, h2⟩ | ⟨hf, h1, od, h2⟩
  · exact k
  · subst h1; subst h2
    rcases k with rfl | ⟨_, k2⟩ | ⟨_, k2, _⟩
    · exact .inr (.inl ⟨⟨_, Eq.refl _⟩, _, Eq.refl _⟩)
    · exact .inr (.inl ⟨⟨_, Eq.refl _⟩, k2⟩)
    · cases k2
  · subst h2
    rcases k with rfl | ⟨⟨_, k2⟩, _⟩ | ⟨_, k2, _⟩
    · exact .inr (.inr ⟨hf, h1, od, Eq.refl _⟩)
    · cases k2
    · cases k2
theorem Kp.n {o o' : HO} (h : Kp False o o') (n : ntb o) : o' = o := by
  rcases h with h | ⟨⟨ps, h⟩, _⟩ | ⟨h, _⟩
  · exact h
  · exact (n ps h).elim
  · exact h.elim
theorem Kp.nd {f : Prop} {o o' : HO} (h : Kp f o o') (n : ntb o) (d : isDk o = false) : o' = o := by
  rcases h with h | ⟨⟨ps, h⟩, _⟩ | ⟨_, h, _⟩
  · exact h
  · exact (n ps h).elim
  · rw [d] at h; cases h
theorem Kp.mono {f g : Prop} {o o' : HO} (h : Kp f o o') (k : f → g) : Kp g o o' := by
  rcases h with h | h | ⟨h, r⟩
  · exact .inl h
  · exact .inr (.inl h)
  · exact .inr (.inr ⟨k h, r⟩)
/-- the object o at a, kept; f: it may be locked -/
def Kept (f : Prop) (H : Hp) (a : Addr) (o : HO) : Prop := ∃ o', H a = some o' ∧ Kp f o o'
theorem Kept.of {f : Prop} {H : Hp} {a : Addr} {o : HO} (h : H a = some o) : Kept f H a o := ⟨o, h, .rfl⟩
theorem Kept.n {f : Prop} {H : Hp} {a : Addr} {o : HO} (h : Kept f H a o) (n : ntb o) (hf : ¬ f) : H a = some o := let ⟨_, e, k⟩ := h; by rw [e, (k.mono hf).n n]
theorem Kept.nd {f : Prop} {H : Hp} {a : Addr} {o : HO} (h : Kept f H a o) (n : ntb o) (d : isDk o = false) : H a = some o := let ⟨_, e, k⟩ := h; by rw [e, k.nd n d]
theorem Kept.ne {f : Prop} {H : Hp} {a : Addr} {o : HO} (h : Kept f H a o) : H a ≠ none := let ⟨_, e, _⟩ := h; by rw [e]; simp
theorem Kept.no {f : Prop} {H : Hp} {a : Addr} {o : HO} (h : Kept f H a o) (n : H a = none) : False := h.ne n
theorem Kept.mono {f g : Prop} {H : Hp} {a : Addr} {o : HO} (h : Kept f H a o) (k : f → g) : Kept g H a o := let ⟨o', e, p⟩ := h; ⟨o', e, p.mono k⟩
theorem Kept.trans {f : Prop} {H H' : Hp} {a : Addr} {o : HO} (h : Kept f H a o) (k : ∀ o', H a = some o' → Kept f H' a o') : Kept f H' a o :=
  let ⟨o', e, p⟩ := h
  let ⟨o2, e2, p2⟩ := k o' e
  ⟨o2, e2, p.trans p2⟩
/-- what is frozen stands in the heap; dicts may be locked there -/
def SL (F H : Hp) : Prop := ∀ a o, F a = some o → H a = some o ∨ (isDk o = true ∧ ∃ od, H a = some (.frz od o))
theorem SL.at {F H : Hp} (s : SL F H) {a : Addr} {o : HO} (h : F a = some o) (d : isDk o = false) : H a = some o := by
  rcases s a o h with e | ⟨e, _⟩
  · exact e
  · rw [d] at e; cases e
theorem SL.rd {F H : Hp} (s : SL F H) {a : Addr} {o : HO} (h : F a = some o) : Rd H a o := by
  rcases s a o h with e | ⟨_, e⟩
  · exact .inl e
  · exact .inr e
theorem SL.free {F H : Hp} (s : SL F H) {a : Addr} (h : H a = none) : F a = none := by
  cases e : F a with
  | none => rfl
  | some o => rcases s a o e with z | ⟨_, _, z⟩ <;> (rw [h] at z; cases z)
theorem SL.pre {F G H : Hp} (a : Same F G) (b : SL G H) : SL F H := fun x o h => b x o (a x o h)
theorem SL.of {F H : Hp} (s : Same F H) : SL F H := fun a o h => .inl (s a o h)
theorem SL.refl (F : Hp) : SL F F := fun a o h => .inl h
theorem SL.there {F H : Hp} (s : SL F H) {a : Addr} {o : HO} (h : F a = some o) : H a ≠ none := fun z => by rw [s.free z] at h; cases h
theorem SL.tup {K : PySem.W.Frag} {F H : Hp} (s : SL F H) {a : Addr} {xs : List V} (h : SqT K F a xs) : SqT K H a xs := by
  rcases h with (h | ⟨o, h⟩) | h
  · exact .inl (.inl (s.at h rfl))
  · exact .inl (.inr ⟨o, s.at h rfl⟩)
  · exact .inr h
theorem SL.seq {K : PySem.W.Frag} {F H : Hp} (s : SL F H) {a : Addr} {xs : List V} (h : SqL K F a xs) : SqL K H a xs := by
  rcases h with (h | ⟨o, h⟩) | h
  · exact .inl (.inl (s.at h rfl))
  · exact .inl (.inr ⟨o, s.at h rfl⟩)
  · exact .inr h
theorem SL.upd {F H : Hp} (s : SL F H) {p : Addr} {o : HO} (hF : F p = none) : SL F (upd H p o) := fun a u e => by
  have : a ≠ p := fun z => by subst z; rw [hF] at e; cases e
  rw [upd_ne this]; exact s a u e
/-- no table is frozen -/
def NoT (F : Hp) : Prop := ∀ a ps, F a ≠ some (.tbl ps)
/-- the tables of code objects: what they tell is frozen -/
def TabF (T : List (Addr × Str)) (F H : Hp) : Prop := ∀ p ∈ T, ∃ ps : Array Value, H p.1 = some (.tbl ps) ∧ TriplesOk ps.toList ∧ ∀ (pos : Pos) (cv : Value), codeAmong pos ps.toList = some cv → ∃ c, cv = .ref c ∧ F c = some (LamX.CodeO c p.2)
structure Tb (T : List (Addr × Str)) (F H : Hp) : Prop where
  tabs : TabF T F H
  nof : NoT F
section
variable {T : List (Addr × Str)} {F F' H H' : Hp} {p : Addr} {o : HO}
theorem tabs_on (h : TabF T F H) (s : Same F F') (k : ∀ a ps, H a = some (.tbl ps) → H' a = some (.tbl ps)) : TabF T F' H' := fun p hp => by
  obtain ⟨ps, h1, h2, h3⟩ := h p hp
  refine ⟨ps, k _ _ h1, h2, fun pos cv hc => ?_⟩
  obtain ⟨c, e1, e2⟩ := h3 pos cv hc
  exact ⟨c, e1, s _ _ e2⟩
theorem tabs_new (h : Tb T F H) (n : H p = none) : Tb T F (upd H p o) := ⟨tabs_on h.tabs (fun _ _ e => e) fun a u e => by rw [upd_ne (ne_of_none e n)]; exact e, h.nof⟩
theorem tabs_froz (h : Tb T F H) (n : H p = none) (nt : ntb o) (s : SL F H) : Tb T (upd F p o) (upd H p o) := ⟨tabs_on h.tabs (fun a u e => by rw [upd_ne (fun z => by rw [z] at e; exact s.there e n)]; exact e) (fun a u e => by rw [upd_ne (ne_of_none e n)]; exact e), fun a ps e => by
  by_cases z : a = p
  · subst z
    rw [upd_same] at e
    cases e
    exact nt ps rfl
  · rw [upd_ne z] at e
    exact h.nof a ps e⟩
theorem tabs_lst {vs : List V} (h : Tb T F H) (n : H p = some (.lst vs)) : Tb T F (upd H p o) := ⟨tabs_on h.tabs (fun _ _ e => e) fun a u e => by
  have : a ≠ p := fun z => by subst z; rw [n] at e; cases e
  rw [upd_ne this]; exact e, h.nof⟩
theorem tabs_dk {vs : List (Key × V)} (h : Tb T F H) (n : H p = some (.dK vs)) : Tb T F (upd H p o) := ⟨tabs_on h.tabs (fun _ _ e => e) fun a u e => by
  have : a ≠ p := fun z => by subst z; rw [n] at e; cases e
  rw [upd_ne this]; exact e, h.nof⟩
theorem tabs_dt {vs : List (List Key × V)} (h : Tb T F H) (n : H p = some (.dT vs)) : Tb T F (upd H p o) := ⟨tabs_on h.tabs (fun _ _ e => e) fun a u e => by
  have : a ≠ p := fun z => by subst z; rw [n] at e; cases e
  rw [upd_ne this]; exact e, h.nof⟩
theorem tabs_ins {c d : Addr} {vs : List (Str × V)} (h : Tb T F H) (n : H p = some (.ins c d vs)) : Tb T F (upd H p o) := ⟨tabs_on h.tabs (fun _ _ e => e) fun a u e => by
  have : a ≠ p := fun z => by subst z; rw [n] at e; cases e
  rw [upd_ne this]; exact e, h.nof⟩
end

section
variable (K : PySem.W.Frag) (fa : Nat → Addr)
mutual
inductive Rep (F : Hp) : V → D → Prop
  | non : Rep F .non .non
  | bl (b : Bool) : Rep F (.bl b) (.bl b)
  | int (i : Int) : Rep F (.int i) (.int i)
  | str (cs : List Nat) : Rep F (.str (sOf cs)) (.str cs)
  | tup {a : Addr} {xs : List V} {ds : List D} : F a = some (.tup xs) → RepL F xs ds → Rep F (.ref a) (.tup ds)
  | ctp {a : Addr} {xs : List V} {ds : List D} : SqT K F a xs → RepL F xs ds → Rep F (.ref a) (.ctp ds)
  | lst {a : Addr} {xs : List V} {ds : List D} : F a = some (.lst xs) → RepL F xs ds → Rep F (.ref a) (.lst ds)
  | scr {a : Addr} {xs : List V} {ds : List D} : SqL K F a xs → RepL F xs ds → Rep F (.ref a) (.scr ds)
  | dct {a : Addr} {kvs : List (Key × V)} {ds : List (D × D)} : F a = some (.dK kvs) → RepK F kvs ds → Rep F (.ref a) (.dct ds)
  | dcp {a : Addr} {kvs : List (List Key × V)} {ds : List (D × D)} : F a = some (.dT kvs) → kvs ≠ [] → RepP F kvs ds → Rep F (.ref a) (.dct ds)
  | fn (f : Nat) : Rep F (.ref (fa f)) (.fn f)
  | cls (c : Nat) : Rep F (.ref (fa (1000 + c))) (.cls c)
  | obj {a dx : Addr} {c : Nat} {kvs : List (Str × V)} {fs : List (Nat × D)} : F a = some (.ins (fa (1000 + c)) dx kvs) → RepF F kvs fs → Rep F (.ref a) (.obj c fs)
inductive RepL (F : Hp) : List V → List D → Prop
  | nil : RepL F [] []
  | cons {v : V} {d : D} {vs : List V} {ds : List D} : Rep F v d → RepL F vs ds → RepL F (v :: vs) (d :: ds)
inductive RepK (F : Hp) : List (Key × V) → List (D × D) → Prop
  | nil : RepK F [] []
  | cons {k : Key} {v : V} {d : D} {vs : List (Key × V)} {ds : List (D × D)} : Rep F v d → RepK F vs ds → RepK F ((k, v) :: vs) ((keyD k, d) :: ds)
inductive RepP (F : Hp) : List (List Key × V) → List (D × D) → Prop
  | nil : RepP F [] []
  | cons {k : List Key} {v : V} {d : D} {vs : List (List Key × V)} {ds : List (D × D)} : Rep F v d → RepP F vs ds → RepP F ((k, v) :: vs) ((.tup (k.map keyD), d) :: ds)
inductive RepF (F : Hp) : List (Str × V) → List (Nat × D) → Prop
  | nil : RepF F [] []
  | cons {n : Str} {k : Nat} {v : V} {d : D} {vs : List (Str × V)} {ds : List (Nat × D)} : n = nm k → Rep F v d → RepF F vs ds → RepF F ((n, v) :: vs) ((k, d) :: ds)
end
end

section
variable {K : PySem.W.Frag} {fa : Nat → Addr}
theorem sqT_mono {F G : Hp} (s : Same F G) {a : Addr} {xs : List V} (h : SqT K F a xs) : SqT K G a xs := by
  rcases h with (h | ⟨o, h⟩) | h
  · exact .inl (.inl (s _ _ h))
  · exact .inl (.inr ⟨o, s _ _ h⟩)
  · exact .inr h
mutual
theorem Rep.mono {F G : Hp} (s : Same F G) : ∀ {v : V} {d : D}, Rep K fa F v d → Rep K fa G v d
  | _, _, .non => .non
  | _, _, .bl b => .bl b
  | _, _, .int i => .int i
  | _, _, .str cs => .str cs
  | _, _, .tup h r => .tup (s _ _ h) (RepL.mono s r)
  | _, _, .ctp h r => .ctp (sqT_mono s h) (RepL.mono s r)
  | _, _, .lst h r => .lst (s _ _ h) (RepL.mono s r)
  | _, _, .scr h r => .scr (s.seq h) (RepL.mono s r)
  | _, _, .dct h r => .dct (s _ _ h) (RepK.mono s r)
  | _, _, .dcp h n r => .dcp (s _ _ h) n (RepP.mono s r)
  | _, _, .fn f => .fn f
  | _, _, .cls c => .cls c
  | _, _, .obj h r => .obj (s _ _ h) (RepF.mono s r)
theorem RepL.mono {F G : Hp} (s : Same F G) : ∀ {v : List V} {d : List D}, RepL K fa F v d → RepL K fa G v d
  | _, _, .nil => .nil
  | _, _, .cons h r => .cons (Rep.mono s h) (RepL.mono s r)
theorem RepK.mono {F G : Hp} (s : Same F G) : ∀ {v : List (Key × V)} {d : List (D × D)}, RepK K fa F v d → RepK K fa G v d
  | _, _, .nil => .nil
  | _, _, .cons h r => .cons (Rep.mono s h) (RepK.mono s r)
theorem RepP.mono {F G : Hp} (s : Same F G) : ∀ {v : List (List Key × V)} {d : List (D × D)}, RepP K fa F v d → RepP K fa G v d
  | _, _, .nil => .nil
  | _, _, .cons h r => .cons (Rep.mono s h) (RepP.mono s r)
theorem RepF.mono {F G : Hp} (s : Same F G) : ∀ {v : List (Str × V)} {d : List (Nat × D)}, RepF K fa F v d → RepF K fa G v d
  | _, _, .nil => .nil
  | _, _, .cons n h r => .cons n (Rep.mono s h) (RepF.mono s r)
end
theorem RepL.length {F : Hp} : ∀ {vs : List V} {ds : List D}, RepL K fa F vs ds → vs.length = ds.length
  | _, _, .nil => rfl
  | _, _, .cons _ r => by simp [RepL.length r]
theorem RepL.get {F : Hp} : ∀ {vs : List V} {ds : List D} {i : Nat} {d : D}, RepL K fa F vs ds → ds[i]? = some d → ∃ v, vs[i]? = some v ∧ Rep K fa F v d
  | _, _, _, _, .nil, e => by simp at e
  | _, _, 0, _, .cons r _, e => by simp at e; subst e; exact ⟨_, rfl, r⟩
  | _, _, i + 1, d, .cons _ t, e => by
    obtain ⟨v, h1, h2⟩ := RepL.get (i := i) (d := d) t (by simpa using e)
    exact ⟨v, by simpa using h1, h2⟩
theorem RepL.get' {F : Hp} : ∀ {vs : List V} {ds : List D} {i : Nat} {v : V}, RepL K fa F vs ds → vs[i]? = some v → ∃ d, ds[i]? = some d ∧ Rep K fa F v d
  | _, _, _, _, .nil, e => by simp at e
  | _, _, 0, _, .cons r _, e => by simp at e; subst e; exact ⟨_, rfl, r⟩
  | _, _, i + 1, d, .cons _ t, e => by
    obtain ⟨v, h1, h2⟩ := RepL.get' (i := i) (v := d) t (by simpa using e)
    exact ⟨v, by simpa using h1, h2⟩
theorem RepL.append {F : Hp} : ∀ {vs ws : List V} {ds es : List D}, RepL K fa F vs ds → RepL K fa F ws es → RepL K fa F (vs ++ ws) (ds ++ es)
  | _, _, _, _, .nil, s => s
  | _, _, _, _, .cons r t, s => .cons r (RepL.append t s)
theorem RepL.take {F : Hp} : ∀ {vs : List V} {ds : List D} (n : Nat), RepL K fa F vs ds → RepL K fa F (vs.take n) (ds.take n)
  | _, _, 0, _ => .nil
  | _, _, _ + 1, .nil => .nil
  | _, _, n + 1, .cons r t => .cons r (RepL.take n t)
theorem RepL.drop {F : Hp} : ∀ {vs : List V} {ds : List D} (n : Nat), RepL K fa F vs ds → RepL K fa F (vs.drop n) (ds.drop n)
  | _, _, 0, r => r
  | _, _, _ + 1, .nil => .nil
  | _, _, n + 1, .cons _ t => RepL.drop n t
theorem RepL.set {F : Hp} {v : V} {d : D} (r : Rep K fa F v d) : ∀ {vs : List V} {ds : List D} (i : Nat), RepL K fa F vs ds → RepL K fa F (vs.set i v) (ds.set i d)
  | _, _, _, .nil => .nil
  | _, _, 0, .cons _ t => .cons r t
  | _, _, i + 1, .cons q t => .cons q (RepL.set r i t)
theorem RepL.erase {F : Hp} : ∀ {vs : List V} {ds : List D} (i : Nat), RepL K fa F vs ds → RepL K fa F (vs.eraseIdx i) (ds.eraseIdx i)
  | _, _, _, .nil => .nil
  | _, _, 0, .cons _ t => t
  | _, _, i + 1, .cons q t => .cons q (RepL.erase i t)
theorem RepL.atI {F : Hp} {vs : List V} {ds : List D} {i : Int} {d : D} (r : RepL K fa F vs ds) (h : atI ds i = some d) : ∃ v, L2.atI vs i = some v ∧ Rep K fa F v d := by
  unfold L2.atI at h ⊢
  rw [r.length]
  cases e : ixN ds.length i with
  | none => rw [e] at h; simp at h
  | some j =>
    rw [e] at h
    simp only [Option.bind_some] at h ⊢
    exact r.get h

/-! ### things that one name alone has, and where their parts lie -/
mutual
inductive RepO (K : PySem.W.Frag) (fa : Nat → Addr) (F H : Hp) : V → Ho → List Addr → Prop
  | fz {v : V} {d : D} : Rep K fa F v d → RepO K fa F H v (.fz d) []
  | ls {p : Addr} {vs : List V} {xs : List Ho} {fp : List Addr} : H p = some (.lst vs) → F p = none → RepOs K fa F H vs xs fp → p ∉ fp → RepO K fa F H (.ref p) (.ls xs) (p :: fp)
  | dc {p : Addr} {vs : List (Key × V)} {xs : List (Key × Ho)} {fp : List Addr} : H p = some (.dK vs) → F p = none → (vs.map (·.1)).Nodup → RepOk K fa F H vs xs fp → p ∉ fp → RepO K fa F H (.ref p) (.dc xs) (p :: fp)
  | dt {p : Addr} {vs : List (List Key × V)} {xs : List (List Key × Ho)} {fp : List Addr} : H p = some (.dT vs) → F p = none → (vs ≠ [] ∧ (vs.map (·.1)).Nodup) → RepOt K fa F H vs xs fp → p ∉ fp → RepO K fa F H (.ref p) (.dt xs) (p :: fp)
  | ob {p dx : Addr} {c : Nat} {vs : List (Str × V)} {xs : List (Nat × Ho)} {fp : List Addr} : H p = some (.ins (fa (1000 + c)) dx vs) → F p = none → RepOf K fa F H vs xs fp → p ∉ fp → RepO K fa F H (.ref p) (.ob c xs) (p :: fp)
inductive RepOs (K : PySem.W.Frag) (fa : Nat → Addr) (F H : Hp) : List V → List Ho → List Addr → Prop
  | nil : RepOs K fa F H [] [] []
  | cons {v : V} {x : Ho} {vs : List V} {xs : List Ho} {fp fq : List Addr} : RepO K fa F H v x fp → RepOs K fa F H vs xs fq → (∀ a ∈ fp, a ∉ fq) → RepOs K fa F H (v :: vs) (x :: xs) (fp ++ fq)
inductive RepOk (K : PySem.W.Frag) (fa : Nat → Addr) (F H : Hp) : List (Key × V) → List (Key × Ho) → List Addr → Prop
  | nil : RepOk K fa F H [] [] []
  | cons {k : Key} {v : V} {x : Ho} {vs : List (Key × V)} {xs : List (Key × Ho)} {fp fq : List Addr} : RepO K fa F H v x fp → RepOk K fa F H vs xs fq → (∀ a ∈ fp, a ∉ fq) → RepOk K fa F H ((k, v) :: vs) ((k, x) :: xs) (fp ++ fq)
inductive RepOt (K : PySem.W.Frag) (fa : Nat → Addr) (F H : Hp) : List (List Key × V) → List (List Key × Ho) → List Addr → Prop
  | nil : RepOt K fa F H [] [] []
  | cons {k : List Key} {v : V} {x : Ho} {vs : List (List Key × V)} {xs : List (List Key × Ho)} {fp fq : List Addr} : RepO K fa F H v x fp → RepOt K fa F H vs xs fq → (∀ a ∈ fp, a ∉ fq) → RepOt K fa F H ((k, v) :: vs) ((k, x) :: xs) (fp ++ fq)
inductive RepOf (K : PySem.W.Frag) (fa : Nat → Addr) (F H : Hp) : List (Str × V) → List (Nat × Ho) → List Addr → Prop
  | nil : RepOf K fa F H [] [] []
  | cons {n : Str} {k : Nat} {v : V} {x : Ho} {vs : List (Str × V)} {xs : List (Nat × Ho)} {fp fq : List Addr} : n = nm k → RepO K fa F H v x fp → RepOf K fa F H vs xs fq → (∀ a ∈ fp, a ∉ fq) → RepOf K fa F H ((n, v) :: vs) ((k, x) :: xs) (fp ++ fq)
end
theorem mem_l {a : Addr} {p q : List Addr} (h : a ∈ p) : a ∈ p ++ q := List.mem_append.mpr (.inl h)
theorem mem_r {a : Addr} {p q : List Addr} (h : a ∈ q) : a ∈ p ++ q := List.mem_append.mpr (.inr h)
/- it stays where its parts are left alone -/
mutual
theorem RepO.keep {F H F' H' : Hp} (s : Same F F') : ∀ {v : V} {x : Ho} {fp : List Addr}, RepO K fa F H v x fp → (∀ a ∈ fp, H' a = H a) → (∀ a ∈ fp, F' a = none) → RepO K fa F' H' v x fp
  | _, _, _, .fz r, _, _ => .fz (r.mono s)
  | _, _, _, .ls h _ r n, hh, hf => .ls ((hh _ List.mem_cons_self).trans h) (hf _ List.mem_cons_self) (RepOs.keep s r (fun a m => hh a (List.mem_cons_of_mem _ m)) fun a m => hf a (List.mem_cons_of_mem _ m)) n
  | _, _, _, .dc h _ nd r n, hh, hf => .dc ((hh _ List.mem_cons_self).trans h) (hf _ List.mem_cons_self) nd (RepOk.keep s r (fun a m => hh a (List.mem_cons_of_mem _ m)) fun a m => hf a (List.mem_cons_of_mem _ m)) n
  | _, _, _, .dt h _ ne r n, hh, hf => .dt ((hh _ List.mem_cons_self).trans h) (hf _ List.mem_cons_self) ne (RepOt.keep s r (fun a m => hh a (List.mem_cons_of_mem _ m)) fun a m => hf a (List.mem_cons_of_mem _ m)) n
  | _, _, _, .ob h _ r n, hh, hf => .ob ((hh _ List.mem_cons_self).trans h) (hf _ List.mem_cons_self) (RepOf.keep s r (fun a m => hh a (List.mem_cons_of_mem _ m)) fun a m => hf a (List.mem_cons_of_mem _ m)) n
theorem RepOs.keep {F H F' H' : Hp} (s : Same F F') : ∀ {v : List V} {x : List Ho} {fp : List Addr}, RepOs K fa F H v x fp → (∀ a ∈ fp, H' a = H a) → (∀ a ∈ fp, F' a = none) → RepOs K fa F' H' v x fp
  | _, _, _, .nil, _, _ => .nil
  | _, _, _, .cons r t d, hh, hf => .cons (RepO.keep s r (fun a m => hh a (mem_l m)) fun a m => hf a (mem_l m)) (RepOs.keep s t (fun a m => hh a (mem_r m)) fun a m => hf a (mem_r m)) d
theorem RepOk.keep {F H F' H' : Hp} (s : Same F F') : ∀ {v : List (Key × V)} {x : List (Key × Ho)} {fp : List Addr}, RepOk K fa F H v x fp → (∀ a ∈ fp, H' a = H a) → (∀ a ∈ fp, F' a = none) → RepOk K fa F' H' v x fp
  | _, _, _, .nil, _, _ => .nil
  | _, _, _, .cons r t d, hh, hf => .cons (RepO.keep s r (fun a m => hh a (mem_l m)) fun a m => hf a (mem_l m)) (RepOk.keep s t (fun a m => hh a (mem_r m)) fun a m => hf a (mem_r m)) d
theorem RepOt.keep {F H F' H' : Hp} (s : Same F F') : ∀ {v : List (List Key × V)} {x : List (List Key × Ho)} {fp : List Addr}, RepOt K fa F H v x fp → (∀ a ∈ fp, H' a = H a) → (∀ a ∈ fp, F' a = none) → RepOt K fa F' H' v x fp
  | _, _, _, .nil, _, _ => .nil
  | _, _, _, .cons r t d, hh, hf => .cons (RepO.keep s r (fun a m => hh a (mem_l m)) fun a m => hf a (mem_l m)) (RepOt.keep s t (fun a m => hh a (mem_r m)) fun a m => hf a (mem_r m)) d
theorem RepOf.keep {F H F' H' : Hp} (s : Same F F') : ∀ {v : List (Str × V)} {x : List (Nat × Ho)} {fp : List Addr}, RepOf K fa F H v x fp → (∀ a ∈ fp, H' a = H a) → (∀ a ∈ fp, F' a = none) → RepOf K fa F' H' v x fp
  | _, _, _, .nil, _, _ => .nil
  | _, _, _, .cons n r t d, hh, hf => .cons n (RepO.keep s r (fun a m => hh a (mem_l m)) fun a m => hf a (mem_l m)) (RepOf.keep s t (fun a m => hh a (mem_r m)) fun a m => hf a (mem_r m)) d
end
/- its parts are there, and not frozen -/
mutual
theorem RepO.thereN {F H : Hp} : ∀ {v : V} {x : Ho} {fp : List Addr}, RepO K fa F H v x fp → ∀ a ∈ fp, F a = none ∧ ∃ o, H a = some o ∧ ntb o
  | _, _, _, .fz r, a, m => by cases m
  | _, _, _, .ls h f r n, a, m => by
    rcases List.mem_cons.mp m with rfl | m
    · exact ⟨f, _, h, fun _ z => by cases z⟩
    · exact RepOs.thereN r a m
  | _, _, _, .dc h f nd r n, a, m => by
    rcases List.mem_cons.mp m with rfl | m
    · exact ⟨f, _, h, fun _ z => by cases z⟩
    · exact RepOk.thereN r a m
  | _, _, _, .dt h f ne r n, a, m => by
    rcases List.mem_cons.mp m with rfl | m
    · exact ⟨f, _, h, fun _ z => by cases z⟩
    · exact RepOt.thereN r a m
  | _, _, _, .ob h f r n, a, m => by
    rcases List.mem_cons.mp m with rfl | m
    · exact ⟨f, _, h, fun _ z => by cases z⟩
    · exact RepOf.thereN r a m
theorem RepOs.thereN {F H : Hp} : ∀ {v : List V} {x : List Ho} {fp : List Addr}, RepOs K fa F H v x fp → ∀ a ∈ fp, F a = none ∧ ∃ o, H a = some o ∧ ntb o
  | _, _, _, .nil, a, m => by cases m
  | _, _, _, .cons r t d, a, m => by
    rcases List.mem_append.mp m with m | m
    · exact RepO.thereN r a m
    · exact RepOs.thereN t a m
theorem RepOk.thereN {F H : Hp} : ∀ {v : List (Key × V)} {x : List (Key × Ho)} {fp : List Addr}, RepOk K fa F H v x fp → ∀ a ∈ fp, F a = none ∧ ∃ o, H a = some o ∧ ntb o
  | _, _, _, .nil, a, m => by cases m
  | _, _, _, .cons r t d, a, m => by
    rcases List.mem_append.mp m with m | m
    · exact RepO.thereN r a m
    · exact RepOk.thereN t a m
theorem RepOt.thereN {F H : Hp} : ∀ {v : List (List Key × V)} {x : List (List Key × Ho)} {fp : List Addr}, RepOt K fa F H v x fp → ∀ a ∈ fp, F a = none ∧ ∃ o, H a = some o ∧ ntb o
  | _, _, _, .nil, a, m => by cases m
  | _, _, _, .cons r t d, a, m => by
    rcases List.mem_append.mp m with m | m
    · exact RepO.thereN r a m
    · exact RepOt.thereN t a m
theorem RepOf.thereN {F H : Hp} : ∀ {v : List (Str × V)} {x : List (Nat × Ho)} {fp : List Addr}, RepOf K fa F H v x fp → ∀ a ∈ fp, F a = none ∧ ∃ o, H a = some o ∧ ntb o
  | _, _, _, .nil, a, m => by cases m
  | _, _, _, .cons _ r t d, a, m => by
    rcases List.mem_append.mp m with m | m
    · exact RepO.thereN r a m
    · exact RepOf.thereN t a m
end
theorem RepO.there {F H : Hp} {v : V} {x : Ho} {fp : List Addr} (r : RepO K fa F H v x fp) (a : Addr) (m : a ∈ fp) : F a = none ∧ ∃ o, H a = some o := let ⟨f, o, e, _⟩ := r.thereN a m; ⟨f, o, e⟩
theorem RepOs.there {F H : Hp} {v : List V} {x : List Ho} {fp : List Addr} (r : RepOs K fa F H v x fp) (a : Addr) (m : a ∈ fp) : F a = none ∧ ∃ o, H a = some o := let ⟨f, o, e, _⟩ := r.thereN a m; ⟨f, o, e⟩
theorem RepOk.there {F H : Hp} {v : List (Key × V)} {x : List (Key × Ho)} {fp : List Addr} (r : RepOk K fa F H v x fp) (a : Addr) (m : a ∈ fp) : F a = none ∧ ∃ o, H a = some o := let ⟨f, o, e, _⟩ := r.thereN a m; ⟨f, o, e⟩
theorem RepOt.there {F H : Hp} {v : List (List Key × V)} {x : List (List Key × Ho)} {fp : List Addr} (r : RepOt K fa F H v x fp) (a : Addr) (m : a ∈ fp) : F a = none ∧ ∃ o, H a = some o := let ⟨f, o, e, _⟩ := r.thereN a m; ⟨f, o, e⟩
theorem RepOf.there {F H : Hp} {v : List (Str × V)} {x : List (Nat × Ho)} {fp : List Addr} (r : RepOf K fa F H v x fp) (a : Addr) (m : a ∈ fp) : F a = none ∧ ∃ o, H a = some o := let ⟨f, o, e, _⟩ := r.thereN a m; ⟨f, o, e⟩
/- there is one place for it -/
mutual
theorem RepO.uniq {F H : Hp} : ∀ {v : V} {x : Ho} {fp fq : List Addr}, RepO K fa F H v x fp → RepO K fa F H v x fq → fp = fq
  | _, _, _, _, .fz _, .fz _ => rfl
  | _, _, _, _, .ls h _ r _, .ls h' _ r' _ => by
    rw [h] at h'
    cases h'
    rw [RepOs.uniq r r']
  | _, _, _, _, .dc h _ _ r _, .dc h' _ _ r' _ => by
    rw [h] at h'
    cases h'
    rw [RepOk.uniq r r']
  | _, _, _, _, .dt h _ _ r _, .dt h' _ _ r' _ => by
    rw [h] at h'
    cases h'
    rw [RepOt.uniq r r']
  | _, _, _, _, .ob h _ r _, .ob h' _ r' _ => by
    rw [h] at h'
    cases h'
    rw [RepOf.uniq r r']
theorem RepOs.uniq {F H : Hp} : ∀ {v : List V} {x : List Ho} {fp fq : List Addr}, RepOs K fa F H v x fp → RepOs K fa F H v x fq → fp = fq
  | _, _, _, _, .nil, .nil => rfl
  | _, _, _, _, .cons r t _, .cons r' t' _ => by rw [RepO.uniq r r', RepOs.uniq t t']
theorem RepOk.uniq {F H : Hp} : ∀ {v : List (Key × V)} {x : List (Key × Ho)} {fp fq : List Addr}, RepOk K fa F H v x fp → RepOk K fa F H v x fq → fp = fq
  | _, _, _, _, .nil, .nil => rfl
  | _, _, _, _, .cons r t _, .cons r' t' _ => by rw [RepO.uniq r r', RepOk.uniq t t']
theorem RepOt.uniq {F H : Hp} : ∀ {v : List (List Key × V)} {x : List (List Key × Ho)} {fp fq : List Addr}, RepOt K fa F H v x fp → RepOt K fa F H v x fq → fp = fq
  | _, _, _, _, .nil, .nil => rfl
  | _, _, _, _, .cons r t _, .cons r' t' _ => by rw [RepO.uniq r r', RepOt.uniq t t']
theorem RepOf.uniq {F H : Hp} : ∀ {v : List (Str × V)} {x : List (Nat × Ho)} {fp fq : List Addr}, RepOf K fa F H v x fp → RepOf K fa F H v x fq → fp = fq
  | _, _, _, _, .nil, .nil => rfl
  | _, _, _, _, .cons _ r t _, .cons _ r' t' _ => by rw [RepO.uniq r r', RepOf.uniq t t']
end
/-- frozen: all of its parts -/
def iced (F H : Hp) (fp : List Addr) : Hp := fun a => if a ∈ fp then H a else F a
theorem iced_in {F H : Hp} {fp : List Addr} {a : Addr} (h : a ∈ fp) : iced F H fp a = H a := if_pos h
theorem iced_out {F H : Hp} {fp : List Addr} {a : Addr} (h : a ∉ fp) : iced F H fp a = F a := if_neg h
theorem same_iced {F H : Hp} {fp : List Addr} (h : ∀ a ∈ fp, F a = none) : Same F (iced F H fp) := fun a o e => by
  by_cases m : a ∈ fp
  · rw [h a m] at e; cases e
  · rw [iced_out m]; exact e
theorem iced_same {F H : Hp} {fp : List Addr} (s : SL F H) : SL (iced F H fp) H := fun a o e => by
  by_cases m : a ∈ fp
  · rw [iced_in m] at e; exact .inl e
  · rw [iced_out m] at e; exact s a o e
theorem tabs_ice {T : List (Addr × Str)} {F H : Hp} {v : V} {x : Ho} {fp : List Addr} (h : Tb T F H) (r : RepO K fa F H v x fp) : Tb T (iced F H fp) H := ⟨tabs_on h.tabs (same_iced fun p m => (r.there p m).1) fun _ _ e => e, fun a ps e => by
  by_cases m : a ∈ fp
  · rw [iced_in m] at e
    obtain ⟨_, o, e2, nt⟩ := r.thereN a m
    rw [e] at e2
    cases e2
    exact nt ps rfl
  · rw [iced_out m] at e
    exact h.nof a ps e⟩
mutual
theorem RepO.ice {F H G : Hp} (s : Same F G) : ∀ {v : V} {x : Ho} {fp : List Addr}, RepO K fa F H v x fp → (∀ a ∈ fp, G a = H a) → Rep K fa G v (toD x)
  | _, _, _, .fz r, _ => r.mono s
  | _, _, _, .ls h _ r n, hh => .lst ((hh _ List.mem_cons_self).trans h) (RepOs.ice s r fun a m => hh a (List.mem_cons_of_mem _ m))
  | _, _, _, .dc h _ _ r n, hh => .dct ((hh _ List.mem_cons_self).trans h) (RepOk.ice s r fun a m => hh a (List.mem_cons_of_mem _ m))
  | _, _, _, .dt h _ ne r n, hh => .dcp ((hh _ List.mem_cons_self).trans h) ne.1 (RepOt.ice s r fun a m => hh a (List.mem_cons_of_mem _ m))
  | _, _, _, .ob h _ r n, hh => .obj ((hh _ List.mem_cons_self).trans h) (RepOf.ice s r fun a m => hh a (List.mem_cons_of_mem _ m))
theorem RepOs.ice {F H G : Hp} (s : Same F G) : ∀ {v : List V} {x : List Ho} {fp : List Addr}, RepOs K fa F H v x fp → (∀ a ∈ fp, G a = H a) → RepL K fa G v (toDs x)
  | _, _, _, .nil, _ => .nil
  | _, _, _, .cons r t d, hh => .cons (RepO.ice s r fun a m => hh a (mem_l m)) (RepOs.ice s t fun a m => hh a (mem_r m))
theorem RepOk.ice {F H G : Hp} (s : Same F G) : ∀ {v : List (Key × V)} {x : List (Key × Ho)} {fp : List Addr}, RepOk K fa F H v x fp → (∀ a ∈ fp, G a = H a) → RepK K fa G v (toDk x)
  | _, _, _, .nil, _ => .nil
  | _, _, _, .cons r t d, hh => .cons (RepO.ice s r fun a m => hh a (mem_l m)) (RepOk.ice s t fun a m => hh a (mem_r m))
theorem RepOt.ice {F H G : Hp} (s : Same F G) : ∀ {v : List (List Key × V)} {x : List (List Key × Ho)} {fp : List Addr}, RepOt K fa F H v x fp → (∀ a ∈ fp, G a = H a) → RepP K fa G v (toDt x)
  | _, _, _, .nil, _ => .nil
  | _, _, _, .cons r t d, hh => .cons (RepO.ice s r fun a m => hh a (mem_l m)) (RepOt.ice s t fun a m => hh a (mem_r m))
theorem RepOf.ice {F H G : Hp} (s : Same F G) : ∀ {v : List (Str × V)} {x : List (Nat × Ho)} {fp : List Addr}, RepOf K fa F H v x fp → (∀ a ∈ fp, G a = H a) → RepF K fa G v (toDf x)
  | _, _, _, .nil, _ => .nil
  | _, _, _, .cons n r t d, hh => .cons n (RepO.ice s r fun a m => hh a (mem_l m)) (RepOf.ice s t fun a m => hh a (mem_r m))
end
theorem repOs_fz {F H : Hp} : ∀ {vs : List V} {ds : List D}, RepL K fa F vs ds → RepOs K fa F H vs (ds.map .fz) []
  | _, _, .nil => .nil
  | _, _, .cons r t => .cons (fp := []) (fq := []) (.fz r) (repOs_fz t) (fun _ m => by cases m)
theorem toDs_fz : ∀ ds : List D, toDs (ds.map .fz) = ds
  | [] => rfl
  | d :: ds => by simp [toDs, toD, toDs_fz ds]
theorem toD_fzs (ds : List D) : toD (fzs ds) = .lst ds := by simp [fzs, toD, toDs_fz]
/-- what an error that flies is: its class, its own dict -/
def XRep (K : PySem.W.Frag) (fa : Nat → Addr) (F : Hp) (cls : Value) (d : Option Addr) (x : Xc) : Prop :=
  cls = .ref (fa (1000 + x.c)) ∧ ((x.fs = [] ∧ d = none) ∨ ∃ dd kvs, x.fs ≠ [] ∧ d = some dd ∧ F dd = some (.xd kvs) ∧ RepF K fa F kvs x.fs)
theorem XRep.mono {F G : Hp} (s : Same F G) {cls : Value} {d : Option Addr} {x : Xc} (h : XRep K fa F cls d x) : XRep K fa G cls d x := by
  obtain ⟨h1, h2⟩ := h
  refine ⟨h1, ?_⟩
  rcases h2 with h2 | ⟨dd, kvs, h6, h3, h4, h5⟩
  · exact .inl h2
  · exact .inr ⟨dd, kvs, h6, h3, s _ _ h4, h5.mono s⟩
end
/-- where defs and classes stand; what the error is that is handled; what is wanted of an error that leaves -/
structure Fa where
  f : Nat → Addr
  ex : Addr → Xc → Hp → Prop
  exm : ∀ (a : Addr) (x : Xc) (F G : Hp), Same F G → ex a x F → ex a x G
  W : WX
  tb : List (Addr × Str)
instance : Coe Fa (Nat → Addr) := ⟨Fa.f⟩
section
variable {K : PySem.W.Frag} {fa : Fa}
/-! ### the names of a frame, and what they hold -/
def Own (K : PySem.W.Frag) (fa : Fa) (F H : Hp) (σ : L2.St) (env : Ev) (p : Addr) : Prop :=
  ∃ (i : Nat) (x : Ho) (v : V) (fp : List Addr), held env i = some x ∧ σ[i]? = some (some v) ∧ RepO K fa F H v x fp ∧ p ∈ fp

structure Ok (K : PySem.W.Frag) (fa : Fa) (F H : Hp) (σ : L2.St) (env : Ev) : Prop where
  exc : ∀ (i : Nat) (x : Xc), env[i]? = some (Sl.exc x) → ∃ a, σ[i]? = some (some (.ref a)) ∧ fa.ex a x F
  len : σ.length = env.length
  sub : SL F H
  val : ∀ (i : Nat) (d : D), env[i]? = some (Sl.val d) → ∃ v, σ[i]? = some (some v) ∧ Rep K fa F v d
  own : ∀ (i : Nat) (x : Ho), held env i = some x → ∃ (v : V) (fp : List Addr), σ[i]? = some (some v) ∧ RepO K fa F H v x fp
  dis : ∀ (i j : Nat) (x y : Ho) (v w : V) (fp fq : List Addr), i ≠ j → held env i = some x → held env j = some y → σ[i]? = some (some v) → σ[j]? = some (some w) → RepO K fa F H v x fp → RepO K fa F H w y fq → ∀ a ∈ fp, a ∉ fq
  tabs : Tb fa.tb F H

theorem own_at {F H : Hp} {σ : L2.St} {env : Ev} {p : Addr} (h : Own K fa F H σ env p) : F p = none ∧ ∃ o, H p = some o := by
  obtain ⟨i, x, v, fp, _, _, r, m⟩ := h
  exact r.there p m
theorem own_nt {F H : Hp} {σ : L2.St} {env : Ev} {p : Addr} (h : Own K fa F H σ env p) : ∃ o, H p = some o ∧ ntb o := by
  obtain ⟨i, x, v, fp, _, _, r, m⟩ := h
  exact (r.thereN p m).2
theorem Ok.own_at {F H : Hp} {σ : L2.St} {env : Ev} (o : Ok K fa F H σ env) {p : Addr} (h : Own K fa F H σ env p) : F p = none ∧ ∃ o, H p = some o := DI.own_at h

structure Step (K : PySem.W.Frag) (fa : Fa) (F H : Hp) (σ : L2.St) (env : Ev) (F' H' : Hp) (σ' : L2.St) (env' : Ev) : Prop where
  sub : Same F F'
  keep : ∀ a o, H a = some o → ¬ Own K fa F H σ env a → Kept (F a ≠ none) H' a o
  stay : ∀ a, H a ≠ none → F a = none → ¬ Own K fa F H σ env a → F' a = none
  ok : Ok K fa F' H' σ' env'
  own : ∀ p, Own K fa F' H' σ' env' p → Own K fa F H σ env p ∨ H p = none
  io : ∀ (j : Nat) (x : Ho), env[j]? = some (Sl.io x) → σ'[j]? = σ[j]? ∧ ∃ y : Ho, env'[j]? = some (Sl.io y)

section
variable {F H F' H' F1 H1 F2 H2 : Hp} {σ σ' σ1 σ2 : L2.St} {env env' e1 e2 : Ev}
theorem Step.refl (o : Ok K fa F H σ env) : Step K fa F H σ env F H σ env :=
  ⟨Same.refl F, fun _ _ h _ => .of h, fun _ _ h _ => h, o, fun _ h => .inl h, fun _ xs h => ⟨rfl, xs, h⟩⟩
theorem Step.trans (a : Step K fa F H σ env F1 H1 σ1 e1) (b : Step K fa F1 H1 σ1 e1 F2 H2 σ2 e2) : Step K fa F H σ env F2 H2 σ2 e2 := by
  have no : ∀ x o, H x = some o → ¬ Own K fa F H σ env x → ¬ Own K fa F1 H1 σ1 e1 x := fun x o h n q => by
    rcases a.own x q with z | z
    · exact n z
    · rw [h] at z; cases z
  refine ⟨a.sub.trans b.sub, fun x o h n => (a.keep x o h n).trans fun o' e' => (b.keep x o' e' (no x o h n)).mono fun hf z => hf (a.stay x (by rw [h]; simp) z n), fun x h f n => ?_, b.ok, fun p q => ?_, fun j xs h => ?_⟩
  · cases e : H x with
    | none => exact absurd e h
    | some o => exact b.stay x (a.keep x o e n).ne (a.stay x h f n) (no x o e n)
  · rcases b.own p q with z | z
    · exact a.own p z
    · cases e : H p with
      | none => exact .inr rfl
      | some o =>
        refine .inl (Classical.byContradiction fun n => ?_)
        exact (a.keep p o e n).no z
  · obtain ⟨h1, ys, h2⟩ := a.io j xs h
    obtain ⟨h3, zs, h4⟩ := b.io j ys h2
    exact ⟨h3.trans h1, zs, h4⟩
/-- the heap as it was where something is owned, and what is frozen there is not -/
def Calm (K : PySem.W.Frag) (fa : Fa) (F H F' H' : Hp) (σ : L2.St) (env : Ev) : Prop := ∀ p, Own K fa F H σ env p → H' p = H p ∧ F' p = none
theorem Ok.back (o : Ok K fa F H σ env) (sF : Same F F') (c : Calm K fa F H F' H' σ env) {i : Nat} {x : Ho} {v : V} {fq : List Addr} (h : held env i = some x) (hv : σ[i]? = some (some v)) (r : RepO K fa F' H' v x fq) : RepO K fa F H v x fq := by
  obtain ⟨v', fp, h1, h2⟩ := o.own i x h
  rw [hv] at h1
  cases h1
  have r' : RepO K fa F' H' v x fp := h2.keep sF (fun a m => (c a ⟨i, x, v, fp, h, hv, h2, m⟩).1) fun a m => (c a ⟨i, x, v, fp, h, hv, h2, m⟩).2
  rw [r.uniq r']
  exact h2
theorem Ok.ownsame (o : Ok K fa F H σ env) (sF : Same F F') (c : Calm K fa F H F' H' σ env) {p : Addr} (h : Own K fa F' H' σ env p) : Own K fa F H σ env p := by
  obtain ⟨i, x, v, fq, h1, h2, h3, h4⟩ := h
  exact ⟨i, x, v, fq, h1, h2, o.back sF c h1 h2 h3, h4⟩
/-- what is tracked and known to be frozen may grow by what is new -/
theorem Ok.more (o : Ok K fa F H σ env) (sF : Same F F') (sub : SL F' H') (c : Calm K fa F H F' H' σ env) (tb : Tb fa.tb F' H') : Ok K fa F' H' σ env :=
  ⟨fun i x h => by
      obtain ⟨a, h1, h2⟩ := o.exc i x h
      exact ⟨a, h1, fa.exm a x _ _ sF h2⟩, o.len, sub, fun i d h => by
      obtain ⟨v, h1, h2⟩ := o.val i d h
      exact ⟨v, h1, h2.mono sF⟩,
    fun i x h => by
      obtain ⟨v, fp, h1, h2⟩ := o.own i x h
      exact ⟨v, fp, h1, h2.keep sF (fun a m => (c a ⟨i, x, v, fp, h, h1, h2, m⟩).1) fun a m => (c a ⟨i, x, v, fp, h, h1, h2, m⟩).2⟩,
    fun i j x y v w fp fq ne hx hy hv hw rx ry => o.dis i j x y v w fp fq ne hx hy hv hw (o.back sF c hx hv rx) (o.back sF c hy hw ry), tb⟩
/-- a thing that no name has becomes a value -/
theorem Step.freeze {v : V} {x : Ho} {fp : List Addr} (a : Step K fa F H σ env F1 H1 σ1 e1) (h0 : ∀ p ∈ fp, Own K fa F H σ env p ∨ H p = none) (r : RepO K fa F1 H1 v x fp) (n : ∀ p ∈ fp, ¬ Own K fa F1 H1 σ1 e1 p) :
    Step K fa F H σ env (iced F1 H1 fp) H1 σ1 e1 ∧ Rep K fa (iced F1 H1 fp) v (toD x) := by
  have sF : Same F1 (iced F1 H1 fp) := same_iced fun p m => (r.there p m).1
  have c : Calm K fa F1 H1 (iced F1 H1 fp) H1 σ1 e1 := fun p hp => ⟨rfl, by
    rw [iced_out fun m => n p m hp]
    exact (DI.own_at hp).1⟩
  refine ⟨⟨a.sub.trans sF, a.keep, fun q h f hn => ?_, a.ok.more sF (iced_same a.ok.sub) c (tabs_ice a.ok.tabs r), fun p hp => a.own p (a.ok.ownsame sF c hp), a.io⟩, r.ice sF fun q m => iced_in m⟩
  have : q ∉ fp := fun m => by
    rcases h0 q m with z | z
    · exact hn z
    · exact h z
  rw [iced_out this]
  exact a.stay q h f hn
end

/-- what stands for a result: entry (F, H, σ, env), end (F', H', σ', env') -/
def RRep (K : PySem.W.Frag) (fa : Fa) (F H : Hp) (σ : L2.St) (env : Ev) (F' H' : Hp) (σ' : L2.St) (env' : Ev) (v : V) : R → Prop
  | .val d => Rep K fa F' v d
  | .new x => ∃ fp, RepO K fa F' H' v x fp ∧ (∀ p ∈ fp, Own K fa F H σ env p ∨ H p = none) ∧ ∀ p ∈ fp, ¬ Own K fa F' H' σ' env' p

section
variable {F H F1 H1 F2 H2 : Hp} {σ σ1 σ2 : L2.St} {env e1 e2 : Ev}
theorem none_back (a : Step K fa F H σ env F1 H1 σ1 e1) {p : Addr} (h : Own K fa F1 H1 σ1 e1 p ∨ H1 p = none) : Own K fa F H σ env p ∨ H p = none := by
  rcases h with z | z
  · exact a.own p z
  · cases e : H p with
    | none => exact .inr rfl
    | some u =>
      refine .inl (Classical.byContradiction fun n => ?_)
      exact (a.keep p u e n).no z
theorem RRep.lift {v : V} {r : R} (a : Step K fa F H σ env F1 H1 σ1 e1) (h : RRep K fa F1 H1 σ1 e1 F2 H2 σ2 e2 v r) : RRep K fa F H σ env F2 H2 σ2 e2 v r := by
  cases r with
  | val d => exact h
  | new x =>
    obtain ⟨fp, h1, h2, h3⟩ := h
    exact ⟨fp, h1, fun p m => none_back a (h2 p m), h3⟩
end

/-! ### readings by a denotation -/
abbrev RlT (α β : Type) := Hp → Hp → L2.St → Ev → Hp → Hp → L2.St → Ev → β → α → Prop
def vRep (K : PySem.W.Frag) (fa : Fa) : RlT D V := fun _ _ _ _ F' _ _ _ v d => Rep K fa F' v d
def lRep (K : PySem.W.Frag) (fa : Fa) : RlT (List D) (List V) := fun _ _ _ _ F' _ _ _ v d => RepL K fa F' v d
def bRep : RlT Bool Bool := fun _ _ _ _ _ _ _ _ b' b => b' = b
class Lif {α β : Type} (K : PySem.W.Frag) (fa : Fa) (Rl : RlT α β) : Prop where
  lift : ∀ {F H F1 H1 F2 H2 : Hp} {σ σ1 σ2 : L2.St} {env e1 e2 : Ev} {v : β} {a : α}, Step K fa F H σ env F1 H1 σ1 e1 → Rl F1 H1 σ1 e1 F2 H2 σ2 e2 v a → Rl F H σ env F2 H2 σ2 e2 v a
instance : Lif K fa (RRep K fa) := ⟨fun s h => h.lift s⟩
instance : Lif K fa (vRep K fa) := ⟨fun _ h => h⟩
instance : Lif K fa (lRep K fa) := ⟨fun _ h => h⟩
instance : Lif K fa bRep := ⟨fun _ h => h⟩

def EndG {α β : Type} (K : PySem.W.Frag) (fa : Fa) (Rl : RlT α β) (F H : Hp) (σ : L2.St) (env env' : Ev) (Q : β → Hp → Prop) : Except Xc α → Prop
  | .ok a => ∀ F' H' v, Step K fa F H σ env F' H' σ env' → Rl F H σ env F' H' σ env' v a → Q v H'
  | .error x => ∀ F' H' cls d, Step K fa F H σ env F' H' σ env' → XRep K fa F' cls d x → fa.W cls d σ H'
/-- the denotation m gives a result at (F, H, σ, env), of which Q holds -/
def At {α β : Type} (K : PySem.W.Frag) (fa : Fa) (Rl : RlT α β) (m : Ev → Res α) (F H : Hp) (σ : L2.St) (env : Ev) (Q : β → Hp → Prop) : Prop :=
  Ok K fa F H σ env ∧ ∃ o env', m env = some (o, env') ∧ EndG K fa Rl F H σ env env' Q o

section
variable {α β γ δ : Type} {F H F1 H1 : Hp} {σ σ1 : L2.St} {env e1 e' : Ev} {Q : β → Hp → Prop} {Rl : RlT α β} {m : Ev → Res α}
theorem At.ok (h : At K fa Rl m F H σ env Q) : Ok K fa F H σ env := h.1
theorem At.no (h : At K fa Rl m F H σ env Q) (e : m env = none) : False := by
  obtain ⟨_, o, env', e2, _⟩ := h
  rw [e] at e2; cases e2
theorem At.ret (h : At K fa Rl m F H σ env Q) {a : α} (e : m env = some (.ok a, e')) {F' H' : Hp} {v : β} (s : Step K fa F H σ env F' H' σ e') (r : Rl F H σ env F' H' σ e' v a) : Q v H' := by
  obtain ⟨_, o, env', e2, q⟩ := h
  rw [e] at e2
  cases e2
  exact q F' H' v s r
theorem At.err (h : At K fa Rl m F H σ env Q) {x : Xc} (e : m env = some (.error x, e')) {F' H' : Hp} {cls : Value} {d : Option Addr} (s : Step K fa F H σ env F' H' σ e') (r : XRep K fa F' cls d x) : fa.W cls d σ H' := by
  obtain ⟨_, o, env', e2, q⟩ := h
  rw [e] at e2
  cases e2
  exact q F' H' cls d s r
theorem At.cast {m' : Ev → Res α} (h : At K fa Rl m F H σ env Q) (e : m' env = m env) : At K fa Rl m' F H σ env Q := ⟨h.1, by rw [e]; exact h.2⟩
theorem At.mono {Q' : β → Hp → Prop} (h : At K fa Rl m F H σ env Q) (k : ∀ v H', Q v H' → Q' v H') : At K fa Rl m F H σ env Q' := by
  obtain ⟨ok, o, env', e2, q⟩ := h
  refine ⟨ok, o, env', e2, ?_⟩
  cases o with
  | ok a => exact fun F' H' v s r => k _ _ (q F' H' v s r)
  | error x => exact q
/-- the same end, told from a later entry -/
theorem EndG.lift [Lif K fa Rl] {env' : Ev} {o : Except Xc α} (s : Step K fa F H σ env F1 H1 σ e1) (q : EndG K fa Rl F H σ env env' Q o) : EndG K fa Rl F1 H1 σ e1 env' Q o := by
  cases o with
  | ok a => exact fun F' H' v s2 r => q F' H' v (s.trans s2) (Lif.lift s r)
  | error x => exact fun F' H' cls d s2 r => q F' H' cls d (s.trans s2) r
/-- one thing, then the rest -/
theorem At.bnd {Rl2 : RlT γ δ} [Lif K fa Rl2] {g : α → Ev → Res γ} {Q : δ → Hp → Prop} {Q1 : β → Hp → Prop} (h : At K fa Rl2 (fun e => bnd (m e) g) F H σ env Q)
    (k : ∀ a e1 F1 H1 v, Step K fa F H σ env F1 H1 σ e1 → Rl F H σ env F1 H1 σ e1 v a → At K fa Rl2 (g a) F1 H1 σ e1 Q → Q1 v H1) : At K fa Rl m F H σ env Q1 := by
  obtain ⟨ok, o, env', e, q⟩ := h
  simp only at e
  cases hm : m env with
  | none => rw [hm] at e; cases e
  | some oe =>
    obtain ⟨o1, e1⟩ := oe
    rw [hm] at e
    cases o1 with
    | error x =>
      cases e
      exact ⟨ok, _, _, hm, q⟩
    | ok a => exact ⟨ok, _, _, hm, fun F1 H1 v s1 r1 => k a e1 F1 H1 v s1 r1 ⟨s1.ok, o, env', e, q.lift s1⟩⟩
/-- .. with what it came from -/
theorem At.bndE {Rl2 : RlT γ δ} [Lif K fa Rl2] {g : α → Ev → Res γ} {Q : δ → Hp → Prop} {Q1 : β → Hp → Prop} (h : At K fa Rl2 (fun e => DI.bnd (m e) g) F H σ env Q)
    (k : ∀ a e1 F1 H1 v, m env = some (.ok a, e1) → Step K fa F H σ env F1 H1 σ e1 → Rl F H σ env F1 H1 σ e1 v a → At K fa Rl2 (g a) F1 H1 σ e1 Q → Q1 v H1) : At K fa Rl m F H σ env Q1 := by
  obtain ⟨ok, o, env', e, q⟩ := h
  simp only at e
  cases hm : m env with
  | none => rw [hm] at e; cases e
  | some oe =>
    obtain ⟨o1, e1⟩ := oe
    rw [hm] at e
    cases o1 with
    | error x =>
      cases e
      exact ⟨ok, _, _, hm, q⟩
    | ok a => exact ⟨ok, _, _, hm, fun F1 H1 v s1 r1 => k a e1 F1 H1 v hm s1 r1 ⟨s1.ok, o, env', e, q.lift s1⟩⟩
end
theorem bnd_ok {α β : Type} {m : Res α} {g : α → Ev → Res β} {b : β} {e : Ev} (h : bnd m g = some (.ok b, e)) : ∃ a e1, m = some (.ok a, e1) ∧ g a e1 = some (.ok b, e) := by
  cases m with
  | none => cases h
  | some oe =>
    obtain ⟨o, e1⟩ := oe
    cases o with
    | error x => cases h
    | ok a => exact ⟨a, e1, rfl, h⟩
theorem okR_ok {α : Type} {o : Option α} {e e' : Ev} {a : α} (h : okR o e = some (.ok a, e')) : o = some a ∧ e' = e := by
  cases o with
  | none => cases h
  | some b => cases h; exact ⟨rfl, rfl⟩
def tI (K : PySem.W.Frag) (fa : Fa) (f : Ev → Res R) : TE := fun σ H Q => ∃ F env, At K fa (RRep K fa) f F H σ env Q
def tV (K : PySem.W.Frag) (fa : Fa) (f : Ev → Res D) : TE := fun σ H Q => ∃ F env, At K fa (vRep K fa) f F H σ env Q
def tVs (K : PySem.W.Frag) (fa : Fa) (f : Ev → Res (List D)) : TA := fun σ H Q => ∃ F env, At K fa (lRep K fa) f F H σ env Q
def tB (K : PySem.W.Frag) (fa : Fa) (f : Ev → Res Bool) : TT := fun σ H Q => ∃ F env, At K fa bRep f F H σ env Q
def asV (f : Ev → Res R) : Ev → Res D := fun env => bnd (f env) fun r e => some (.ok r.d, e)

theorem pe_weak {X : Cx} {e : Expr} {t t' : TE} (h : PE X e t) (w : ∀ σ H Q, t' σ H Q → t σ H Q) : PE X e t' := ⟨fun pins s σ H Q I q => h.run pins s σ H Q I (w σ H Q q)⟩
theorem pt_weak {X : Cx} {e : Expr} {t t' : TT} (h : PT X e t) (w : ∀ σ H Q, t' σ H Q → t σ H Q) : PT X e t' := ⟨fun pins s σ H Q I q => h.run pins s σ H Q I (w σ H Q q)⟩
theorem pa_weak {X : Cx} {e : List Expr} {t t' : TA} (h : PA X e t) (w : ∀ σ H Q, t' σ H Q → t σ H Q) : PA X e t' := ⟨fun p pins s σ H Q I q => h.run p pins s σ H Q I (w σ H Q q)⟩

theorem at_asV {f : Ev → Res R} {F H : Hp} {σ : L2.St} {env : Ev} {Q : VK} (h : At K fa (vRep K fa) (asV f) F H σ env Q) : At K fa (RRep K fa) f F H σ env Q := by
  obtain ⟨ok, o, env', e, q⟩ := h
  unfold asV at e
  cases hm : f env with
  | none => rw [hm] at e; cases e
  | some oe =>
    obtain ⟨o1, e1⟩ := oe
    rw [hm] at e
    cases o1 with
    | error x => cases e; exact ⟨ok, _, _, hm, q⟩
    | ok r =>
      cases e
      refine ⟨ok, _, _, hm, fun F' H' v st rr => ?_⟩
      cases r with
      | val d => exact q F' H' v st rr
      | new x =>
        obtain ⟨fp, h1, h2, h3⟩ := rr
        obtain ⟨a, b⟩ := st.freeze h2 h1 h3
        exact q _ H' _ a b
theorem tI_tV {f : Ev → Res R} {σ : L2.St} {H : Hp} {Q : VK} (h : tV K fa (asV f) σ H Q) : tI K fa f σ H Q := let ⟨F, env, h⟩ := h; ⟨F, env, at_asV h⟩
theorem pe_asV {X : Cx} {e : Expr} {f : Ev → Res R} (h : PE X e (tI K fa f)) : PE X e (tV K fa (asV f)) := pe_weak h fun _ _ _ q => tI_tV q

/-! ### argument lists -/
theorem pa_nilD {X : Cx} : PA X [] (tVs K fa fun env => some (.ok [], env)) := pa_weak pa_nil fun σ H Q ⟨F, env, h⟩ => h.ret rfl (Step.refl h.ok) RepL.nil
def consD (f : Ev → Res D) (g : Ev → Res (List D)) : Ev → Res (List D) := fun env => bnd (f env) fun d e1 => bnd (g e1) fun ds e2 => some (.ok (d :: ds), e2)
theorem tCons_D {f : Ev → Res D} {g : Ev → Res (List D)} {σ : L2.St} {H : Hp} {Q : List V → Hp → Prop} (h : tVs K fa (consD f g) σ H Q) : tCons (tV K fa f) (tVs K fa g) σ H Q := by
  obtain ⟨F, env, h⟩ := h
  refine ⟨F, env, At.bnd (Rl := vRep K fa) h fun d e1 F1 H1 v s1 r1 h1 => ⟨F1, e1, At.bnd (Rl := lRep K fa) h1 fun ds e2 F2 H2 vs s2 r2 h2 => ?_⟩⟩
  exact h2.ret rfl (Step.refl h2.ok) (.cons (Rep.mono s2.sub r1) r2)
theorem pa_consD {X : Cx} {e : Expr} {es : List Expr} {f : Ev → Res D} {g : Ev → Res (List D)} (ha : PE X e (tV K fa f)) (hr : PA X es (tVs K fa g)) (hs : starEach (e :: es) X.env = (false, eval e X.env) :: starEach es X.env) :
    PA X (e :: es) (tVs K fa (consD f g)) := pa_weak (pa_cons ha hr hs) fun _ _ _ q => tCons_D q

/-! ### what an operation on values leaves -/
inductive ARes (K : PySem.W.Frag) (fa : Nat → Addr) (F H : Hp) : V → R → Hp → Hp → Prop
  | same {v : V} {d : D} : Rep K fa F v d → ARes K fa F H v (.val d) F H
  | froz {p : Addr} {o : HO} {d : D} : H p = none → ntb o → Rep K fa (upd F p o) (.ref p) d → ARes K fa F H (.ref p) (.val d) (upd F p o) (upd H p o)
  | new {p : Addr} {vs : List V} {xs : List D} : H p = none → RepL K fa F vs xs → ARes K fa F H (.ref p) (.new (fzs xs)) F (upd H p (.lst vs))
theorem sub_none {F H : Hp} (s : SL F H) {p : Addr} (h : H p = none) : F p = none := s.free h
theorem same_upd {F : Hp} {p : Addr} {o : HO} (h : F p = none) : Same F (upd F p o) := fun x u e => by rw [upd_ne (ne_of_none e h)]; exact e
theorem same_upd2 {F H : Hp} (s : SL F H) {p : Addr} {o : HO} : SL (upd F p o) (upd H p o) := fun x u e => by
  by_cases h : x = p
  · subst h; rw [upd_same] at e ⊢; exact .inl e
  · rw [upd_ne h] at e ⊢; exact s x u e
theorem ARes.step {F H F' H' : Hp} {σ : L2.St} {env : Ev} {v : V} {r : R} (o : Ok K fa F H σ env) (a : ARes K fa F H v r F' H') :
    Step K fa F H σ env F' H' σ env ∧ RRep K fa F H σ env F' H' σ env v r := by
  cases a with
  | same h => exact ⟨Step.refl o, h⟩
  | @froz p ho d hp hnt h =>
    have hF := sub_none o.sub hp
    have np : ∀ q, Own K fa F H σ env q → q ≠ p := fun q hq e => by
      subst e
      obtain ⟨_, u, z⟩ := o.own_at hq
      rw [hp] at z; cases z
    have c : Calm K fa F H (upd F p ho) (upd H p ho) σ env := fun q hq => ⟨upd_ne (np q hq), by rw [upd_ne (np q hq)]; exact (o.own_at hq).1⟩
    refine ⟨⟨same_upd hF, fun x u e _ => ?_, fun x h1 h2 _ => ?_, o.more (same_upd hF) (same_upd2 o.sub) c (tabs_froz o.tabs hp hnt o.sub), fun _ h => .inl (o.ownsame (same_upd hF) c h), fun _ xs h => ⟨rfl, xs, h⟩⟩, h⟩
    · exact .of (by rw [upd_ne (ne_of_none e hp)]; exact e)
    · have : x ≠ p := fun e => by subst e; exact h1 hp
      rw [upd_ne this]; exact h2
  | @new p vs xs hp h =>
    have hF := sub_none o.sub hp
    have np : ∀ q, Own K fa F H σ env q → q ≠ p := fun q hq e => by
      subst e
      obtain ⟨_, u, z⟩ := o.own_at hq
      rw [hp] at z; cases z
    have c : Calm K fa F H F (upd H p (.lst vs)) σ env := fun q hq => ⟨upd_ne (np q hq), (o.own_at hq).1⟩
    have sub' : SL F (upd H p (.lst vs)) := o.sub.upd hF
    refine ⟨⟨Same.refl _, fun x u e _ => ?_, fun x _ h2 _ => h2, o.more (Same.refl _) sub' c (tabs_new o.tabs hp), fun _ h => .inl (o.ownsame (Same.refl _) c h), fun _ xs h => ⟨rfl, xs, h⟩⟩, [p], .ls upd_same hF (repOs_fz h) List.not_mem_nil, fun q m => ?_, fun q m z => ?_⟩
    · exact .of (by rw [upd_ne (ne_of_none e hp)]; exact e)
    · rw [List.mem_singleton.mp m]; exact .inr hp
    · rw [List.mem_singleton.mp m] at z
      exact np p (o.ownsame (Same.refl _) c z) rfl

/-- an operation by values: what it asks is met wherever the denotation has a result -/
def OpOk (K : PySem.W.Frag) (fa : Nat → Addr) (o : Op) (r : List V → Hp → VK → Prop) : Prop :=
  ∀ (F H : Hp) (vs : List V) (ds : List D) (z : R) (Q : VK), SL F H → RepL K fa F vs ds → opD o ds = some z → (∀ v F' H', ARes K fa F H v z F' H' → Q v H') → r vs H Q
def opF (o : Op) (g : Ev → Res (List D)) : Ev → Res R := fun env => bnd (g env) fun ds e1 => okR (opD o ds) e1
/-- the operation, its operands at hand -/
theorem op_at {o : Op} {r : List V → Hp → VK → Prop} (ho : OpOk K fa o r) {F H : Hp} {σ : L2.St} {env : Ev} {vs : List V} {ds : List D} {Q : VK} (rl : RepL K fa F vs ds) (h : At K fa (RRep K fa) (okR (opD o ds)) F H σ env Q) : r vs H Q := by
  cases hz : opD o ds with
  | none => exact (h.no (by rw [hz]; rfl)).elim
  | some z =>
    refine ho F H vs ds z Q h.ok.sub rl hz fun v F2 H2 a => ?_
    obtain ⟨s2, rr⟩ := a.step h.ok
    exact h.ret (by rw [hz]; rfl) s2 rr
/-- the operands' reading, then the operation -/
theorem op_by {o : Op} {r : List V → Hp → VK → Prop} (ho : OpOk K fa o r) {g : Ev → Res (List D)} {σ : L2.St} {H : Hp} {Q : VK} (h : tI K fa (opF o g) σ H Q) : tVs K fa g σ H fun vs H1 => r vs H1 Q := by
  obtain ⟨F, env, h⟩ := h
  exact ⟨F, env, At.bnd (Rl := lRep K fa) h fun ds e1 F1 H1 vs s1 r1 h1 => op_at ho r1 h1⟩
/-- two operands, one -/
def two (f g : Ev → Res D) : Ev → Res (List D) := consD f (consD g fun env => some (.ok [], env))
def one (f : Ev → Res D) : Ev → Res (List D) := consD f fun env => some (.ok [], env)
theorem tNil_D {σ : L2.St} {H : Hp} {Q : List V → Hp → Prop} (h : tVs K fa (fun env => some (.ok [], env)) σ H Q) : Q [] H := let ⟨_, _, h⟩ := h; h.ret rfl (Step.refl h.ok) RepL.nil
theorem tV_mono {f : Ev → Res D} {σ : L2.St} {H : Hp} {Q Q' : VK} (h : tV K fa f σ H Q) (k : ∀ v H', Q v H' → Q' v H') : tV K fa f σ H Q' := let ⟨F, env, h⟩ := h; ⟨F, env, h.mono k⟩
theorem tVs_mono {f : Ev → Res (List D)} {σ : L2.St} {H : Hp} {Q Q' : List V → Hp → Prop} (h : tVs K fa f σ H Q) (k : ∀ v H', Q v H' → Q' v H') : tVs K fa f σ H Q' := let ⟨F, env, h⟩ := h; ⟨F, env, h.mono k⟩
theorem two_D {f g : Ev → Res D} {σ : L2.St} {H : Hp} {Q : List V → Hp → Prop} (h : tVs K fa (two f g) σ H Q) : tV K fa f σ H fun x H1 => tV K fa g σ H1 fun y H2 => Q [x, y] H2 :=
  tV_mono (tCons_D h) fun x H1 q => tV_mono (tCons_D q) fun y H2 q2 => tNil_D q2
theorem one_D {f : Ev → Res D} {σ : L2.St} {H : Hp} {Q : List V → Hp → Prop} (h : tVs K fa (one f) σ H Q) : tV K fa f σ H fun x H1 => Q [x] H1 :=
  tV_mono (tCons_D h) fun x H1 q => tNil_D q
/-- a two-place rule, a one-place rule of the layer, as a rule over lists -/
def r2 (r : R2) : List V → Hp → VK → Prop := fun vs H Q => ∃ x y, vs = [x, y] ∧ r x y H Q
def r1 (r : V → Hp → VK → Prop) : List V → Hp → VK → Prop := fun vs H Q => ∃ x, vs = [x] ∧ r x H Q
theorem tOp_D {o : Op} {r : R2} (ho : OpOk K fa o (r2 r)) {f g : Ev → Res D} {σ : L2.St} {H : Hp} {Q : VK} (h : tI K fa (opF o (two f g)) σ H Q) : tOp r (tV K fa f) (tV K fa g) σ H Q :=
  tV_mono (two_D (op_by ho h)) fun x H1 q => tV_mono q fun y H2 ⟨a, b, e, z⟩ => by cases e; exact z
theorem tUn_D {o : Op} {r : V → Hp → VK → Prop} (ho : OpOk K fa o (r1 r)) {f : Ev → Res D} {σ : L2.St} {H : Hp} {Q : VK} (h : tI K fa (opF o (one f)) σ H Q) : tUn r (tV K fa f) σ H Q :=
  tV_mono (one_D (op_by ho h)) fun x H1 ⟨a, e, z⟩ => by cases e; exact z
section
variable {X : Cx} {a b : Expr} {f g : Ev → Res D} {pos : Pos}
theorem pe_opD {op : Operator} {o : Op} {r : R2} (hr : OpR X (binaryOp op) r) (ho : OpOk K fa o (r2 r)) (ha : PE X a (tV K fa f)) (hb : PE X b (tV K fa g)) : PE X (.BinOp a op b pos) (tI K fa (opF o (two f g))) :=
  pe_weak (pe_op hr ha hb) fun _ _ _ q => tOp_D ho q
theorem pe_unD {op : UnaryOp} {o : Op} {r : V → Hp → VK → Prop} (hr : UnR X (unaryOp op) r) (ho : OpOk K fa o (r1 r)) (ha : PE X a (tV K fa f)) : PE X (.UnaryOp op a pos) (tI K fa (opF o (one f))) :=
  pe_weak (pe_un hr ha) fun _ _ _ q => tUn_D ho q
theorem pe_cmpD {op : CmpOp} {o : Op} {r : R2} (hr : OpR X (compareOp op) r) (ho : OpOk K fa o (r2 r)) (ha : PE X a (tV K fa f)) (hb : PE X b (tV K fa g)) (hm : behindInMarks op b = false) : PE X (.Compare a [op] [b] pos) (tI K fa (opF o (two f g))) :=
  pe_weak (pe_cmpR hr ha hb hm) fun _ _ _ q => tOp_D ho q
end
end
end DI

namespace DI
open PySem L2

section
variable {K : PySem.W.Frag} {fa : Nat → Addr} {F H : Hp}

/-! ### data as the library reads it -/
mutual
theorem Rep.reads {X : Cx} {pins : List (Addr × Obj)} {σ : L2.St} {s : Shared} (I : Inv X pins σ H s) (sub : SL F H) : ∀ (d : D) (v : V) (u : Value), plain d = true → Rep X.K fa F v d → RelV v u → ∃ as, Reads s.heap u (toPy d) as
  | .non, _, _, _, .non, r => by cases r; exact ⟨_, Reads.none⟩
  | .bl b, _, _, _, .bl _, r => by cases r; exact ⟨_, Reads.bool b⟩
  | .int i, _, _, _, .int _, r => by obtain ⟨t, rfl⟩ := r; exact ⟨_, Reads.int i t⟩
  | .str cs, _, _, _, .str _, r => by obtain ⟨t, rfl⟩ := r; exact ⟨_, Reads.str _ t⟩
  | .tup ds, _, _, p, .tup hs ha, r => by
    cases r
    obtain ⟨its, rv, ⟨o, ho, hc, n, hd⟩, _⟩ := I.tuple (SqT.of (K := X.K) (sub.at hs rfl))
    obtain ⟨as, hr⟩ := RepL.reads I sub ds _ its p ha rv
    exact ⟨_, Reads.tuple ho hc hd hr⟩
  | .lst ds, _, _, p, .lst hs ha, r => by
    cases r
    obtain ⟨its, rv, ⟨o, n, ho, hc, _, hd⟩, _⟩ := I.list (SqL.of (K := X.K) (sub.at hs rfl))
    obtain ⟨as, hr⟩ := RepL.reads I sub ds _ its p ha rv
    exact ⟨_, Reads.list ho hc hd hr⟩
  | .scr _, _, _, p, _, _ => by cases p
  | .dct _, _, _, p, _, _ => by cases p
  | .fn _, _, _, p, _, _ => by cases p
theorem RepL.reads {X : Cx} {pins : List (Addr × Obj)} {σ : L2.St} {s : Shared} (I : Inv X pins σ H s) (sub : SL F H) : ∀ (ds : List D) (vs : List V) (us : List Value), plains ds = true → RepL X.K fa F vs ds → Vals vs us → ∃ as, ReadsAll s.heap us (toPys ds) as
  | [], _, _, _, .nil, r => by cases r; exact ⟨_, ReadsAll.nil⟩
  | d :: ds, _, _, p, .cons h1 h2, r => by
    have p' : (plain d && plains ds) = true := p
    rw [Bool.and_eq_true] at p'
    cases r with
    | cons r1 r2 =>
      obtain ⟨as, q1⟩ := Rep.reads I sub d _ _ p'.1 h1 r1
      obtain ⟨bs, q2⟩ := RepL.reads I sub ds _ _ p'.2 h2 r2
      exact ⟨_, ReadsAll.cons q1 q2⟩
end

theorem two_of {vs : List V} {a b : D} (r : RepL K fa F vs [a, b]) : ∃ x y, vs = [x, y] ∧ Rep K fa F x a ∧ Rep K fa F y b := by
  cases r with
  | cons h1 t => cases t with
    | cons h2 t => cases t; exact ⟨_, _, rfl, h1, h2⟩
theorem one_of {vs : List V} {a : D} (r : RepL K fa F vs [a]) : ∃ x, vs = [x] ∧ Rep K fa F x a := by
  cases r with
  | cons h1 t => cases t; exact ⟨_, rfl, h1⟩
theorem Rep.int_of {v : V} {i : Int} (r : Rep K fa F v (.int i)) : v = .int i := by cases r; rfl
theorem Rep.str_of {v : V} {c : List Nat} (r : Rep K fa F v (.str c)) : v = .str (sOf c) := by cases r; rfl
theorem Rep.bl_of {v : V} {b : Bool} (r : Rep K fa F v (.bl b)) : v = .bl b := by cases r; rfl
theorem Rep.non_of {v : V} (r : Rep K fa F v .non) : v = .non := by cases r; rfl
theorem Rep.lst_of {v : V} {ds : List D} (r : Rep K fa F v (.lst ds)) : ∃ a xs, v = .ref a ∧ F a = some (.lst xs) ∧ RepL K fa F xs ds := by
  cases r with | lst h t => exact ⟨_, _, rfl, h, t⟩
theorem Rep.scr_of {v : V} {ds : List D} (r : Rep K fa F v (.scr ds)) : ∃ a xs, v = .ref a ∧ SqL K F a xs ∧ RepL K fa F xs ds := by
  cases r with | scr h t => exact ⟨_, _, rfl, h, t⟩
theorem Rep.tup_of {v : V} {ds : List D} (r : Rep K fa F v (.tup ds)) : ∃ a xs, v = .ref a ∧ SqT K F a xs ∧ RepL K fa F xs ds := by
  cases r with | tup h t => exact ⟨_, _, rfl, SqT.of h, t⟩
theorem Rep.tup_at {v : V} {ds : List D} (r : Rep K fa F v (.tup ds)) : ∃ a xs, v = .ref a ∧ F a = some (.tup xs) ∧ RepL K fa F xs ds := by
  cases r with | tup h t => exact ⟨_, _, rfl, h, t⟩
theorem Rep.ctp_of {v : V} {ds : List D} (r : Rep K fa F v (.ctp ds)) : ∃ a xs, v = .ref a ∧ SqT K F a xs ∧ RepL K fa F xs ds := by
  cases r with | ctp h t => exact ⟨_, _, rfl, h, t⟩
theorem Rep.flat_of {v : V} {d : D} (r : Rep K fa F v d) (h : flat d = true) : v = vOf d ∧ flatV v = true := by
  cases r <;> first | exact ⟨rfl, rfl⟩ | cases h
theorem RepL.flat_of : ∀ {vs : List V} {ds : List D}, RepL K fa F vs ds → ds.all flat = true → vs = ds.map vOf ∧ vs.all flatV = true
  | _, _, .nil, _ => ⟨rfl, rfl⟩
  | _, _, .cons r t, h => by
    rw [List.all_cons, Bool.and_eq_true] at h
    obtain ⟨e1, f1⟩ := r.flat_of h.1
    obtain ⟨e2, f2⟩ := RepL.flat_of t h.2
    refine ⟨by rw [List.map_cons, e1, e2], by rw [List.all_cons, f1, f2]; rfl⟩
theorem big_le : big ≤ sizeLine := by decide
theorem le_line {n : Nat} (h : n ≤ big) : n ≤ sizeLine := Nat.le_trans h big_le

/-! ### operators -/
def rAddX (K : PySem.W.Frag) : R2 := fun x y H Q => rI0 (fun i j => .int (i + j)) x y H Q ∨ (fun x y H Q => (∃ i j, x = V.str i ∧ y = V.str j ∧ i.length + j.length ≤ sizeLine ∧ Q (.str (i ++ j)) H) ∨ (fun x y H Q => rCat x y H Q ∨ rCatA K x y H Q) x y H Q) x y H Q
theorem opr_add {X : Cx} : OpR X (binaryOp .Add) (rAddX X.K) := OpR.or op_add (OpR.or op_add_str (OpR.or op_cat op_catA))
theorem ok_add : OpOk K fa .add (r2 (rAddX K)) := by
  intro F H vs ds z Q sub rep h q
  have h' : dAdd ds = some z := h
  unfold dAdd at h'
  split at h'
  · obtain ⟨x, y, rfl, h1, h2⟩ := two_of rep
    cases h1.int_of; cases h2.int_of; cases h'
    exact ⟨_, _, rfl, .inl ⟨_, _, rfl, rfl, q _ F H (.same (.int _))⟩⟩
  · obtain ⟨x, y, rfl, h1, h2⟩ := two_of rep
    cases h1.str_of; cases h2.str_of
    split at h'
    · rename_i hz
      cases h'
      refine ⟨_, _, rfl, .inr (.inl ⟨_, _, rfl, rfl, by rw [sOf_len, sOf_len]; exact le_line hz, ?_⟩)⟩
      rw [sOf_app]
      exact q _ F H (.same (.str _))
    · cases h'
  · obtain ⟨x, y, rfl, h1, h2⟩ := two_of rep
    obtain ⟨a, xs, rfl, e1, r1⟩ := h1.lst_of
    obtain ⟨b, ys, rfl, e2, r2⟩ := h2.lst_of
    split at h'
    · rename_i hz
      cases h'
      refine ⟨_, _, rfl, .inr (.inr (.inl ⟨a, b, xs, ys, rfl, rfl, sub.at e1 rfl, sub.at e2 rfl, by rw [r1.length, r2.length]; exact le_line hz, fun p hp => ?_⟩))⟩
      exact q _ _ _ (.new hp (r1.append r2))
    · cases h'
  · obtain ⟨x, y, rfl, h1, h2⟩ := two_of rep
    obtain ⟨a, xs, rfl, e1, r1⟩ := h1.tup_at
    obtain ⟨b, ys, rfl, e2, r2⟩ := h2.tup_at
    split at h'
    · rename_i hz
      cases h'
      refine ⟨_, _, rfl, .inr (.inr (.inr ⟨a, b, xs, ys, rfl, rfl, SqT.of (sub.at e1 rfl), SqT.of (sub.at e2 rfl), by rw [r1.length, r2.length]; exact le_line hz, fun e => ?_, fun _ e => ?_, fun _ _ p hp => ?_⟩))⟩
      · subst e
        cases r1
        exact q _ _ _ (.same (.tup e2 r2))
      · subst e
        cases r2
        rw [List.append_nil] at q
        exact q _ _ _ (.same (.tup e1 r1))
      · exact q _ _ _ (.froz hp (fun _ z => by cases z) (.tup upd_same ((r1.append r2).mono (same_upd (sub_none sub hp)))))
    · cases h'
  · cases h'
theorem ok_sub : OpOk K fa .sub (r2 (rI0 fun i j => .int (i - j))) := by
  intro F H vs ds z Q sub rep h q
  have h' : dSub ds = some z := h
  unfold dSub at h'
  split at h'
  · obtain ⟨x, y, rfl, h1, h2⟩ := two_of rep
    cases h1.int_of; cases h2.int_of; cases h'
    exact ⟨_, _, rfl, _, _, rfl, rfl, q _ F H (.same (.int _))⟩
  · cases h'
theorem rep_flat (cs : List Nat) (n : Nat) : (⟨(List.replicate n (sOf cs).cps).foldl (· ++ ·) #[]⟩ : Str) = sOf (List.replicate n cs).flatten := by
  have h : ∀ (n : Nat) (acc : Array Nat), (List.replicate n (sOf cs).cps).foldl (· ++ ·) acc = acc ++ (List.replicate n cs).flatten.toArray := by
    intro n
    induction n with
    | zero => intro acc; simp
    | succ n ih =>
      intro acc
      rw [List.replicate_succ, List.foldl_cons, ih, List.replicate_succ, List.flatten_cons]
      apply Array.ext'
      simp [sOf]
  rw [h]
  simp [sOf]
theorem RepL.rep {vs : List V} {ds : List D} (r : RepL K fa F vs ds) : ∀ n : Nat, RepL K fa F (List.replicate n vs).flatten (List.replicate n ds).flatten
  | 0 => .nil
  | n + 1 => by
    rw [List.replicate_succ, List.replicate_succ, List.flatten_cons, List.flatten_cons]
    exact r.append (RepL.rep r n)
def rMulS : R2 := fun x y H Q => ∃ (z : Str) (n : Int), x = V.str z ∧ y = V.int n ∧ 2 ≤ n ∧ n ≤ 1000 ∧ 0 < z.length ∧ z.length * n.toNat ≤ sizeLine ∧ Q (.str ⟨(List.replicate n.toNat z.cps).foldl (· ++ ·) #[]⟩) H
theorem opr_mulS {X : Cx} : OpR X (binaryOp .Mult) rMulS := by
  intro pins s σ H x y v u Q I rx ry h
  obtain ⟨z, n, rfl, rfl, h1, h2, h3, h4, q⟩ := h
  obtain ⟨t, rfl⟩ := rx
  obtain ⟨t', rfl⟩ := ry
  have hn : (n == 1 || z.length == 0) = false := by
    rw [Bool.or_eq_false_iff]
    exact ⟨by simp; omega, by simp; omega⟩
  have hlong : PySem.Builtin.Str.tooLong (z.length * n.toNat) = false := by
    unfold PySem.Builtin.Str.tooLong
    rw [decide_eq_false_iff_not]
    exact Nat.not_lt.mpr h4
  have hfl : (⟨(List.replicate n.toNat z.cps).foldl (· ++ ·) #[]⟩ : Str).length = z.length * n.toNat := by
    have := rep_flat z.cps.toList n.toNat
    rw [sOf_of] at this
    rw [this, sOf_len]
    simp [List.length_flatten, Str.length, Nat.mul_comm]
  refine PySem.P.mul_str ?_ (fun _ _ => ?_) (fun _ _ => hlong) ?_
  · rw [Bool.or_eq_false_iff]
    exact ⟨decide_eq_false (by omega), decide_eq_false (by omega)⟩
  · have hz : (z.length : Int) * n ≤ sizeLine := by
      have : ((z.length * n.toNat : Nat) : Int) ≤ (sizeLine : Nat) := by exact_mod_cast h4
      rw [Int.natCast_mul, Int.toNat_of_nonneg (by omega)] at this
      exact this
    rw [sizeLine_eq] at hz
    have := (Int.le_ediv_iff_mul_le (a := (z.length : Int)) (b := 2 ^ 63 - 1) (c := n) (by omega)).mpr (by omega)
    omega
  · rw [if_neg (by omega), hn]
    exact ⟨by rw [hfl]; exact h4, .str _, H, I.tok _, ⟨_, rfl⟩, q⟩
def rMulX : R2 := fun x y H Q => rI CMulW (fun i j => .int (i * j)) x y H Q ∨ (fun x y H Q => rMulS x y H Q ∨ rRep x y H Q) x y H Q
theorem opr_mul {X : Cx} : OpR X (binaryOp .Mult) rMulX := OpR.or op_mulW (OpR.or opr_mulS op_rep)
theorem ok_mul : OpOk K fa .mul (r2 rMulX) := by
  intro F H vs ds z Q sub rep h q
  have h' : dMul ds = some z := h
  unfold dMul at h'
  split at h'
  · obtain ⟨x, y, rfl, h1, h2⟩ := two_of rep
    cases h1.int_of; cases h2.int_of
    split at h'
    · rename_i hc
      cases h'
      exact ⟨_, _, rfl, .inl ⟨_, _, rfl, rfl, hc, q _ F H (.same (.int _))⟩⟩
    · cases h'
  · obtain ⟨x, y, rfl, h1, h2⟩ := two_of rep
    cases h1.str_of; cases h2.int_of
    split at h'
    · rename_i hc
      cases h'
      refine ⟨_, _, rfl, .inr (.inl ⟨_, _, rfl, rfl, hc.1, hc.2.1, by rw [sOf_len]; exact hc.2.2.1, by rw [sOf_len]; exact le_line hc.2.2.2, ?_⟩)⟩
      rw [rep_flat]
      exact q _ F H (.same (.str _))
    · cases h'
  · obtain ⟨x, y, rfl, h1, h2⟩ := two_of rep
    obtain ⟨a, xs, rfl, e1, r1⟩ := h1.lst_of
    cases h2.int_of
    split at h'
    · rename_i hc
      cases h'
      have hb : (big : Int) < 2 ^ 63 := by decide
      refine ⟨_, _, rfl, .inr (.inr ⟨a, _, xs, rfl, rfl, sub.at e1 rfl, by omega, by omega, by rw [r1.length]; exact le_line hc.2.2, fun p hp => ?_⟩)⟩
      exact q _ _ _ (.new hp (r1.rep _))
    · cases h'
  · cases h'
theorem ok_fdiv : OpOk K fa .fdiv (r2 (rI CDiv fun i j => .int (i / j))) := by
  intro F H vs ds z Q sub rep h q
  have h' : dFdiv ds = some z := h
  unfold dFdiv at h'
  split at h'
  · obtain ⟨x, y, rfl, h1, h2⟩ := two_of rep
    cases h1.int_of; cases h2.int_of
    split at h'
    · rename_i hc
      cases h'
      exact ⟨_, _, rfl, _, _, rfl, rfl, hc, q _ F H (.same (.int _))⟩
    · cases h'
  · cases h'
theorem ok_mod : OpOk K fa .mod (r2 (rI (fun _ j => 0 < j) fun i j => .int (i % j))) := by
  intro F H vs ds z Q sub rep h q
  have h' : dMod ds = some z := h
  unfold dMod at h'
  split at h'
  · obtain ⟨x, y, rfl, h1, h2⟩ := two_of rep
    cases h1.int_of; cases h2.int_of
    split at h'
    · rename_i hc
      cases h'
      exact ⟨_, _, rfl, _, _, rfl, rfl, hc, q _ F H (.same (.int _))⟩
    · cases h'
  · cases h'
def CPowW (i j : Int) : Prop := 0 ≤ j ∧ j ≤ 1000 ∧ i.natAbs < 2 ^ 1000
theorem CPowW.ok {i j : Int} (h : CPowW i j) : (Builtin.Int.intBits i : Int) * j ≤ 2 ^ 27 := by
  obtain ⟨h0, h1, h2⟩ := h
  have hb : Builtin.Int.intBits i ≤ 1001 := by
    have : i.natAbs.log2 < 1000 := PySem.Flt.log2_lt_of (by decide) h2
    unfold Builtin.Int.intBits
    split <;> omega
  have hb' : (Builtin.Int.intBits i : Int) ≤ 1001 := by omega
  have h3 : (Builtin.Int.intBits i : Int) * j ≤ 1001 * 1000 := Int.mul_le_mul hb' h1 h0 (by decide)
  exact Int.le_trans h3 (by decide)
theorem opr_pow {X : Cx} : OpR X (binaryOp .Pow) (rI CPowW fun i j => .int (i ^ j.toNat)) := opI fun _ _ _ _ _ _ _ hc q => PyProof.Rows.pow_int hc.1 hc.ok q
theorem ok_pow : OpOk K fa .pow (r2 (rI CPowW fun i j => .int (i ^ j.toNat))) := by
  intro F H vs ds z Q sub rep h q
  have h' : dPow ds = some z := h
  unfold dPow at h'
  split at h'
  · obtain ⟨x, y, rfl, h1, h2⟩ := two_of rep
    cases h1.int_of; cases h2.int_of
    split at h'
    · rename_i hc
      cases h'
      exact ⟨_, _, rfl, _, _, rfl, rfl, hc, q _ F H (.same (.int _))⟩
    · cases h'
  · cases h'
theorem ok_neg : OpOk K fa .neg (r1 (rU fun i => .int (-i))) := by
  intro F H vs ds z Q sub rep h q
  have h' : dNeg ds = some z := h
  unfold dNeg at h'
  split at h'
  · obtain ⟨x, rfl, h1⟩ := one_of rep
    cases h1.int_of; cases h'
    exact ⟨_, rfl, _, rfl, q _ F H (.same (.int _))⟩
  · cases h'

/-! ### comparisons -/
def rEqP (neg : Bool) : R2 := fun x y H Q => ∃ i j, x = V.str i ∧ y = V.str j ∧ Q (.bl (if neg then !decide (i = j) else decide (i = j))) H
theorem dec_s {i j : List Nat} : decide (sOf i = sOf j) = decide (i = j) := by
  by_cases e : i = j
  · subst e; simp
  · rw [decide_eq_false e, decide_eq_false (fun q => e (sOf_inj q))]
theorem opr_eqS {X : Cx} : OpR X (compareOp .Eq) (rEqP false) := by
  intro pins s σ H x y v u Q I rx ry h
  obtain ⟨i, j, rfl, rfl, q⟩ := h
  refine op_eq pins s σ H _ _ v u Q I rx ry ⟨rfl, ?_⟩
  rw [dec_str]
  have : (i == j) = decide (i = j) := rfl
  rw [this]
  exact q
theorem opr_neS {X : Cx} : OpR X (compareOp .NotEq) (rEqP true) := by
  intro pins s σ H x y v u Q I rx ry h
  obtain ⟨i, j, rfl, rfl, q⟩ := h
  refine op_ne pins s σ H _ _ v u Q I rx ry ⟨rfl, ?_⟩
  rw [dec_str]
  have : (i == j) = decide (i = j) := rfl
  rw [this]
  exact q
def rEqX (K : PySem.W.Frag) (fa : Nat → Addr) (neg : Bool) : R2 := fun x y H Q => ∃ F d e, SL F H ∧ Rep K fa F x d ∧ Rep K fa F y e ∧ okEq d = true ∧ okEq e = true ∧ Q (.bl (if neg then !PyData.eqv (toPy d) (toPy e) else PyData.eqv (toPy d) (toPy e))) H
theorem okEq_of {d : D} (h : okEq d = true) : plain d = true ∧ SeqAt.shaped (toPy d) = true := by
  unfold okEq at h
  rw [Bool.and_eq_true] at h
  exact h
theorem opr_eqX {X : Cx} (hu : X.A.units + 64 < cLine) : OpR X (compareOp .Eq) (rEqX X.K fa false) := by
  intro pins s σ H x y v u Q I rx ry h
  obtain ⟨F, d, e, sub, hd, he, p1, p2, q⟩ := h
  obtain ⟨as, r1⟩ := Rep.reads I sub d x v (okEq_of p1).1 hd rx
  obtain ⟨bs, r2⟩ := Rep.reads I sub e y u (okEq_of p2).1 he ry
  exact SeqAt.compareEq_shaped r1 r2 (okEq_of p1).2 (okEq_of p2).2 hu ⟨.bl _, H, I, rfl, q⟩
theorem opr_neX {X : Cx} (hu : X.A.units + 64 < cLine) : OpR X (compareOp .NotEq) (rEqX X.K fa true) := by
  intro pins s σ H x y v u Q I rx ry h
  obtain ⟨F, d, e, sub, hd, he, p1, p2, q⟩ := h
  obtain ⟨as, r1⟩ := Rep.reads I sub d x v (okEq_of p1).1 hd rx
  obtain ⟨bs, r2⟩ := Rep.reads I sub e y u (okEq_of p2).1 he ry
  exact SeqAt.compareNe_shaped r1 r2 (okEq_of p1).2 (okEq_of p2).2 hu ⟨.bl _, H, I, rfl, q⟩
def rEqA (K : PySem.W.Frag) (fa : Nat → Addr) (neg : Bool) : R2 := fun x y H Q => rEqP neg x y H Q ∨ rEqX K fa neg x y H Q
theorem ok_eq : OpOk K fa .eq (r2 (rEqA K fa false)) := by
  intro F H vs ds z Q sub rep h q
  have h' : dEq ds = some z := h
  unfold dEq at h'
  split at h'
  · obtain ⟨x, y, rfl, h1, h2⟩ := two_of rep
    cases h1.str_of; cases h2.str_of; cases h'
    refine ⟨_, _, rfl, .inl ⟨_, _, rfl, rfl, ?_⟩⟩
    show Q (.bl (decide (sOf _ = sOf _))) H
    rw [dec_s]
    exact q _ F H (.same (.bl _))
  · obtain ⟨x, y, rfl, h1, h2⟩ := two_of rep
    split at h'
    · rename_i hc
      rw [Bool.and_eq_true] at hc
      cases h'
      exact ⟨_, _, rfl, .inr ⟨F, _, _, sub, h1, h2, hc.1, hc.2, q _ F H (.same (.bl _))⟩⟩
    · cases h'
  · cases h'
theorem ok_ne : OpOk K fa .ne (r2 (rEqA K fa true)) := by
  intro F H vs ds z Q sub rep h q
  have h' : dNe ds = some z := h
  unfold dNe at h'
  split at h'
  · obtain ⟨x, y, rfl, h1, h2⟩ := two_of rep
    cases h1.str_of; cases h2.str_of; cases h'
    refine ⟨_, _, rfl, .inl ⟨_, _, rfl, rfl, ?_⟩⟩
    show Q (.bl (!decide (sOf _ = sOf _))) H
    rw [dec_s]
    exact q _ F H (.same (.bl _))
  · obtain ⟨x, y, rfl, h1, h2⟩ := two_of rep
    split at h'
    · rename_i hc
      rw [Bool.and_eq_true] at hc
      cases h'
      exact ⟨_, _, rfl, .inr ⟨F, _, _, sub, h1, h2, hc.1, hc.2, q _ F H (.same (.bl _))⟩⟩
    · cases h'
  · cases h'
def rLtA : R2 := fun x y H Q => rI0 (fun i j => .bl (decide (i < j))) x y H Q ∨ (fun x y H Q => ∃ i j, x = V.str i ∧ y = V.str j ∧ Q (.bl (decide (i.cps.toList < j.cps.toList))) H) x y H Q
def rLeA : R2 := fun x y H Q => rI0 (fun i j => .bl (decide (i ≤ j))) x y H Q ∨ (fun x y H Q => ∃ i j, x = V.str i ∧ y = V.str j ∧ Q (.bl (!decide (j.cps.toList < i.cps.toList))) H) x y H Q
theorem opr_lt {X : Cx} : OpR X (compareOp .Lt) rLtA := OpR.or op_lt op_lt_str
theorem opr_le {X : Cx} : OpR X (compareOp .LtE) rLeA := OpR.or op_le op_le_str
theorem ok_lt : OpOk K fa .lt (r2 rLtA) := by
  intro F H vs ds z Q sub rep h q
  have h' : dLt ds = some z := h
  unfold dLt at h'
  split at h'
  · obtain ⟨x, y, rfl, h1, h2⟩ := two_of rep
    cases h1.int_of; cases h2.int_of; cases h'
    exact ⟨_, _, rfl, .inl ⟨_, _, rfl, rfl, q _ F H (.same (.bl _))⟩⟩
  · obtain ⟨x, y, rfl, h1, h2⟩ := two_of rep
    cases h1.str_of; cases h2.str_of; cases h'
    refine ⟨_, _, rfl, .inr ⟨_, _, rfl, rfl, ?_⟩⟩
    rw [sOf_list, sOf_list]
    exact q _ F H (.same (.bl _))
  · cases h'
theorem ok_le : OpOk K fa .le (r2 rLeA) := by
  intro F H vs ds z Q sub rep h q
  have h' : dLe ds = some z := h
  unfold dLe at h'
  split at h'
  · obtain ⟨x, y, rfl, h1, h2⟩ := two_of rep
    cases h1.int_of; cases h2.int_of; cases h'
    exact ⟨_, _, rfl, .inl ⟨_, _, rfl, rfl, q _ F H (.same (.bl _))⟩⟩
  · obtain ⟨x, y, rfl, h1, h2⟩ := two_of rep
    cases h1.str_of; cases h2.str_of; cases h'
    refine ⟨_, _, rfl, .inr ⟨_, _, rfl, rfl, ?_⟩⟩
    rw [sOf_list, sOf_list]
    exact q _ F H (.same (.bl _))
  · cases h'
theorem ok_gt : OpOk K fa .gt (r2 (rI0 fun i j => .bl (decide (j < i)))) := by
  intro F H vs ds z Q sub rep h q
  have h' : dGt ds = some z := h
  unfold dGt at h'
  split at h'
  · obtain ⟨x, y, rfl, h1, h2⟩ := two_of rep
    cases h1.int_of; cases h2.int_of; cases h'
    exact ⟨_, _, rfl, _, _, rfl, rfl, q _ F H (.same (.bl _))⟩
  · cases h'
theorem ok_ge : OpOk K fa .ge (r2 (rI0 fun i j => .bl (decide (j ≤ i)))) := by
  intro F H vs ds z Q sub rep h q
  have h' : dGe ds = some z := h
  unfold dGe at h'
  split at h'
  · obtain ⟨x, y, rfl, h1, h2⟩ := two_of rep
    cases h1.int_of; cases h2.int_of; cases h'
    exact ⟨_, _, rfl, _, _, rfl, rfl, q _ F H (.same (.bl _))⟩
  · cases h'
/-! ### dicts: what is at a key -/
theorem keyOf_keyD (k : Key) : keyOf (keyD k) = some k := by
  rcases k with i | x
  · rfl
  · simp [keyD, keyOf, sOf_of]
theorem keyOf_eq {d : D} {k : Key} (h : keyOf d = some k) : d = keyD k := by
  cases d with
  | int i => cases h; rfl
  | str cs => cases h; simp [keyD, sOf]
  | _ => cases h
theorem keysOf_map : ∀ ks : List Key, keysOf (ks.map keyD) = some ks
  | [] => rfl
  | k :: ks => by simp [keysOf, keyOf_keyD, keysOf_map ks]
theorem keysOf_eq : ∀ {ds : List D} {ks : List Key}, keysOf ds = some ks → ds = ks.map keyD
  | [], ks, h => by cases h; rfl
  | d :: ds, ks, h => by
    unfold keysOf at h
    cases e : keyOf d with
    | none => rw [e] at h; cases h
    | some k =>
      cases e2 : keysOf ds with
      | none => rw [e, e2] at h; cases h
      | some ks' =>
        rw [e, e2] at h
        cases h
        rw [keyOf_eq e, keysOf_eq e2]
        rfl
theorem kkOf_keyD (k : Key) : kkOf (keyD k) = some (.inl k) := by
  rcases k with i | x
  · rfl
  · simp [keyD, kkOf, keyOf, sOf_of]
theorem kkOf_tup (ks : List Key) : kkOf (.tup (ks.map keyD)) = some (.inr ks) := by simp [kkOf, keysOf_map]
theorem kkOf_kkD : ∀ k : KK, kkOf (kkD k) = some k
  | .inl k => kkOf_keyD k
  | .inr ks => kkOf_tup ks
theorem kkOf_eq {d : D} {k : KK} (h : kkOf d = some k) : d = kkD k := by
  cases d with
  | tup ds =>
    obtain ⟨ks, e, rfl⟩ := Option.map_eq_some_iff.mp h
    rw [keysOf_eq e]; rfl
  | int i => cases h; rfl
  | str cs => cases h; simp [kkD, keyD, sOf]
  | _ => cases h
theorem Rep.key_of {v : V} {k : Key} (r : Rep K fa F v (keyD k)) : v = kV k := by
  rcases k with i | x
  · exact r.int_of
  · have := r.str_of
    rw [this]; simp [kV, sOf_of]
theorem RepL.keys_of : ∀ {ks : List Key} {vs : List V}, RepL K fa F vs (ks.map keyD) → vs = ks.map kV
  | [], _, r => by cases r; rfl
  | k :: ks, _, r => by
    rw [List.map_cons] at r
    cases r with
    | cons h t => rw [h.key_of, RepL.keys_of t]; rfl
theorem val_repK {k : Key} : ∀ {kvs : List (Key × V)} {ds : List (D × D)}, RepK K fa F kvs ds → (valV kvs k = none ∧ valD (.inl k) ds = none) ∨ ∃ v d, valV kvs k = some v ∧ valD (.inl k) ds = some d ∧ Rep K fa F v d
  | _, _, .nil => .inl ⟨rfl, rfl⟩
  | _, _, .cons (k := k') (v := v) (d := d) (vs := vs) r t => by
    by_cases e : k' = k
    · subst e
      exact .inr ⟨v, d, by simp [valV], by simp [valD, kkOf_keyD], r⟩
    · have e2 : ¬ kkOf (keyD k') = some (.inl k) := by rw [kkOf_keyD]; exact fun z => e (by injection z with z; injection z)
      have ev : valV ((k', v) :: vs) k = valV vs k := by simp [valV, e]
      rw [ev]
      simp only [valD, if_neg e2]
      exact val_repK t
theorem val_repP {k : List Key} : ∀ {kvs : List (List Key × V)} {ds : List (D × D)}, RepP K fa F kvs ds → (valV kvs k = none ∧ valD (.inr k) ds = none) ∨ ∃ v d, valV kvs k = some v ∧ valD (.inr k) ds = some d ∧ Rep K fa F v d
  | _, _, .nil => .inl ⟨rfl, rfl⟩
  | _, _, .cons (k := k') (v := v) (d := d) (vs := vs) r t => by
    by_cases e : k' = k
    · subst e
      exact .inr ⟨v, d, by simp [valV], by simp [valD, kkOf_tup], r⟩
    · have e2 : ¬ kkOf (.tup (k'.map keyD)) = some (.inr k) := by rw [kkOf_tup]; exact fun z => e (by injection z with z; injection z)
      have ev : valV ((k', v) :: vs) k = valV vs k := by simp [valV, e]
      rw [ev]
      simp only [valD, if_neg e2]
      exact val_repP t
/-- .. an empty dict has no tuples -/
def DGetE (H : Hp) (a : Addr) (y : V) (r : Option V) : Prop := DGet H a y r ∨ (Rd H a (.dK []) ∧ r = none ∧ ∃ (k : List Key) (b : Addr), y = .ref b ∧ H b = some (.tup (k.map kV)))
theorem nil_dt {P : Program} {w : World} {H : Hp} {h : Heap} {a : Addr} (ok : HOk P w H h) (e : Rd H a (.dK [])) : (a == sysModules) = false ∧ h.DictOfH (tupleKind (mixKind P w)) a [] := by
  obtain ⟨z, y, vs, r, o, es, ep, h1, h2, h3, h4, h5, h6⟩ := dk_rd ok e
  cases r
  cases hz : es.toList with
  | nil => exact ⟨y, o, es, ep, h1, h2, h3, hz, (fun _ m => by cases m), List.nodup_nil⟩
  | cons x xs => rw [hz] at h5; cases h5
section
variable {X : Cx} {pins : List (Addr × Obj)} {σ : L2.St} {H : Hp} {s : Shared} {a : Addr} {y v d : V} {u r : Value} {o : Option V} {A : Around} {E : Value → Shared → Prop}
theorem dE_in {Q : Value → Shared → Prop} (hu : A.units + 1 < cLine) (I : Inv X pins σ H s) (g : DGetE H a y o) (ry : RelV y u) (h : ∀ s', Inv X pins σ H s' → Q (.bool o.isSome) s') :
    wpAny (model X.prog X.w) A (compareOp .In u (.ref a)) Q E s := by
  rcases g with g | ⟨e, rfl, k, b, rfl, eb⟩
  · exact d_in hu I g ry h
  · cases (show u = Value.ref b from ry)
    obtain ⟨hd, dd⟩ := nil_dt I.hok e
    exact wpAny_in_heap (tupleKind_room_in1 hu) (L2.key_of I.hok eb) hd dd (h _ (I.tok _))
theorem dE_notIn {Q : Value → Shared → Prop} (hu : A.units + 1 < cLine) (I : Inv X pins σ H s) (g : DGetE H a y o) (ry : RelV y u) (h : ∀ s', Inv X pins σ H s' → Q (.bool (!o.isSome)) s') :
    wpAny (model X.prog X.w) A (compareOp .NotIn u (.ref a)) Q E s := by
  rcases g with g | ⟨e, rfl, k, b, rfl, eb⟩
  · exact d_notIn hu I g ry h
  · cases (show u = Value.ref b from ry)
    obtain ⟨hd, dd⟩ := nil_dt I.hok e
    exact PyProof.Rows.wpAny_notIn_heap (tupleKind_room_in1 hu) (L2.key_of I.hok eb) hd dd (h _ (I.tok _))
theorem dE_get1 {Q : Value → Shared → Prop} (hu : A.units + 1 < cLine) (I : Inv X pins σ H s) (g : DGetE H a y o) (ry : RelV y u) (h : ∀ w' s', Inv X pins σ H s' → RelV (o.getD .non) w' → Q w' s') :
    wpAny (model X.prog X.w) A (call (.builtin "dict.get") [.ref a, u]) Q E s := by
  rcases g with g | ⟨e, rfl, k, b, rfl, eb⟩
  · exact d_get1 hu I g ry h
  · cases (show u = Value.ref b from ry)
    obtain ⟨hd, dd⟩ := nil_dt I.hok e
    exact call_meetsIn PySem.F.slot_dict_get dd.typeIs PySem.F.entry_dict_get (PySem.F.args_dict_get_2 _ _) (meetsH_dict_get (tupleKind (mixKind X.prog X.w)) a b hd) ⟨tupleKind_room_in1 hu, k, [], L2.key_of I.hok eb, dd, h _ _ (I.tok _) rfl⟩
theorem dE_get2 {Q : Value → Shared → Prop} (hu : A.units + 1 < cLine) (I : Inv X pins σ H s) (g : DGetE H a y o) (ry : RelV y u) (rd : RelV d r) (h : ∀ w' s', Inv X pins σ H s' → RelV (o.getD d) w' → Q w' s') :
    wpAny (model X.prog X.w) A (call (.builtin "dict.get") [.ref a, u, r]) Q E s := by
  rcases g with g | ⟨e, rfl, k, b, rfl, eb⟩
  · exact d_get2 hu I g ry rd h
  · cases (show u = Value.ref b from ry)
    obtain ⟨hd, dd⟩ := nil_dt I.hok e
    exact call_meetsIn PySem.F.slot_dict_get dd.typeIs PySem.F.entry_dict_get (PySem.F.args_dict_get_3 _ _ _) (meetsH_dict_get_default (tupleKind (mixKind X.prog X.w)) a b hd r) ⟨tupleKind_room_in1 hu, k, [], L2.key_of I.hok eb, dd, h _ _ (I.tok _) rd⟩
end
/-- a dict and a key -/
theorem dct_get {v y : V} {kvs : List (D × D)} {k : D} {o : Option D} (sub : SL F H) (r : Rep K fa F v (.dct kvs)) (ry : Rep K fa F y k) (h : getD1 kvs k = some o) :
    ∃ a w, v = .ref a ∧ DGetE H a y w ∧ ((w = none ∧ o = none) ∨ ∃ x d, w = some x ∧ o = some d ∧ Rep K fa F x d) := by
  unfold getD1 at h
  cases e : kkOf k with
  | none => rw [e] at h; cases h
  | some kk =>
  rw [e] at h
  simp only at h
  have hk := kkOf_eq e
  subst hk
  split at h
  case isFalse => cases h
  rename_i hs
  cases h
  cases r with
  | @dct a ks _ g1 g2 =>
    refine ⟨a, ?_⟩
    cases kk with
    | inl k =>
      have ey : y = kV k := ry.key_of
      subst ey
      refine ⟨valV ks k, rfl, .inl (.inl ⟨ks, k, sub.rd g1, rfl, rfl⟩), ?_⟩
      rcases val_repK (k := k) g2 with ⟨e1, e2⟩ | ⟨x, d, e1, e2, rx⟩
      · exact .inl ⟨e1, e2⟩
      · exact .inr ⟨x, d, e1, e2, rx⟩
    | inr ks' =>
      cases g2 with
      | nil =>
        obtain ⟨b, xs, rfl, h2, rl⟩ := Rep.tup_at ry
        rw [rl.keys_of] at h2
        exact ⟨none, rfl, .inr ⟨sub.rd g1, rfl, ks', b, rfl, sub.at h2 rfl⟩, .inl ⟨rfl, rfl⟩⟩
      | @cons k0 v0 d0 vs0 ds0 r0 t0 =>
        rw [List.all_cons, Bool.and_eq_true] at hs
        rcases k0 with i | x <;> cases hs.1
  | @dcp a ks _ g1 gn g2 =>
    refine ⟨a, ?_⟩
    cases kk with
    | inl k =>
      cases g2 with
      | nil => exact absurd rfl gn
      | @cons k0 v0 d0 vs0 ds0 r0 t0 =>
        rw [List.all_cons, Bool.and_eq_true] at hs
        rcases k with i | x <;> cases hs.1
    | inr ks' =>
      obtain ⟨b, xs, rfl, h2, rl⟩ := Rep.tup_at ry
      rw [rl.keys_of] at h2
      refine ⟨valV ks ks', rfl, .inl (.inr ⟨ks, ks', b, .inl (sub.at g1 rfl), rfl, sub.at h2 rfl, rfl⟩), ?_⟩
      rcases val_repP (k := ks') g2 with ⟨e1, e2⟩ | ⟨x, d, e1, e2, rx⟩
      · exact .inl ⟨e1, e2⟩
      · exact .inr ⟨x, d, e1, e2, rx⟩
def rInD (neg : Bool) : R2 := fun x y H Q => ∃ a o, y = .ref a ∧ DGetE H a x o ∧ Q (.bl (if neg then !o.isSome else o.isSome)) H
theorem opr_inD {X : Cx} (hu : X.A.units + 64 < cLine) : OpR X (compareOp .In) (rInD false) := by
  intro pins s σ H x y v u Q I rx ry ⟨a, o, ey, g, q⟩
  subst ey
  obtain rfl : u = Value.ref a := ry
  exact dE_in (by omega) I g rx fun s3 I3 => ⟨.bl o.isSome, H, I3, rfl, q⟩
theorem opr_notinD {X : Cx} (hu : X.A.units + 64 < cLine) : OpR X (compareOp .NotIn) (rInD true) := by
  intro pins s σ H x y v u Q I rx ry ⟨a, o, ey, g, q⟩
  subst ey
  obtain rfl : u = Value.ref a := ry
  exact dE_notIn (by omega) I g rx fun s3 I3 => ⟨.bl (!o.isSome), H, I3, rfl, q⟩
def rInA (K : PySem.W.Frag) (neg : Bool) : R2 := fun x y H Q => (fun x y H Q => ∃ (c : Nat) (z : Str), x = V.str ⟨#[c]⟩ ∧ y = V.str z ∧ Q (.bl (if neg then !decide (c ∈ z.cps.toList) else decide (c ∈ z.cps.toList))) H) x y H Q ∨ (fun x y H Q => rIn K neg x y H Q ∨ rInD neg x y H Q) x y H Q
theorem opr_in {X : Cx} (hu : X.A.units + 64 < cLine) : OpR X (compareOp .In) (rInA X.K false) := OpR.or op_in_sign (OpR.or op_in_seq (opr_inD hu))
theorem opr_notin {X : Cx} (hu : X.A.units + 64 < cLine) : OpR X (compareOp .NotIn) (rInA X.K true) := OpR.or op_notIn_sign (OpR.or op_notIn_seq (opr_notinD hu))
theorem in_gen {neg : Bool} {vs : List V} {ds : List D} {z : R} {Q : VK} (sub : SL F H) (rep : RepL K fa F vs ds) (h' : dIn neg ds = some z) (q : ∀ v F' H', ARes K fa F H v z F' H' → Q v H') : r2 (rInA K neg) vs H Q := by
  unfold dIn at h'
  split at h'
  · obtain ⟨x, y, rfl, h1, h2⟩ := two_of rep
    cases h1.str_of; cases h2.str_of; cases h'
    refine ⟨_, _, rfl, .inl ⟨_, _, rfl, rfl, ?_⟩⟩
    rw [sOf_list]
    exact q _ F H (.same (.bl _))
  · obtain ⟨x, y, rfl, h1, h2⟩ := two_of rep
    split at h'
    · rename_i hc
      rw [Bool.and_eq_true] at hc
      cases h'
      obtain ⟨b, ys, rfl, e2, r2⟩ := h2.tup_of
      obtain ⟨rfl, f1⟩ := h1.flat_of hc.1
      obtain ⟨rfl, f2⟩ := r2.flat_of hc.2
      exact ⟨_, _, rfl, .inr (.inl ⟨b, _, rfl, .inr (sub.tup e2), f1, f2, q _ F H (.same (.bl _))⟩)⟩
    · cases h'
  · obtain ⟨x, y, rfl, h1, h2⟩ := two_of rep
    split at h'
    · rename_i hc
      rw [Bool.and_eq_true] at hc
      cases h'
      obtain ⟨b, ys, rfl, e2, r2⟩ := h2.lst_of
      obtain ⟨rfl, f1⟩ := h1.flat_of hc.1
      obtain ⟨rfl, f2⟩ := r2.flat_of hc.2
      exact ⟨_, _, rfl, .inr (.inl ⟨b, _, rfl, .inl (SqL.of (sub.at e2 rfl)), f1, f2, q _ F H (.same (.bl _))⟩)⟩
    · cases h'
  · obtain ⟨x, y, rfl, h1, h2⟩ := two_of rep
    split at h'
    · rename_i hc
      rw [Bool.and_eq_true] at hc
      cases h'
      obtain ⟨b, ys, rfl, e2, r2⟩ := h2.ctp_of
      obtain ⟨rfl, f1⟩ := h1.flat_of hc.1
      obtain ⟨rfl, f2⟩ := r2.flat_of hc.2
      exact ⟨_, _, rfl, .inr (.inl ⟨b, _, rfl, .inr (sub.tup e2), f1, f2, q _ F H (.same (.bl _))⟩)⟩
    · cases h'
  · obtain ⟨x, y, rfl, h1, h2⟩ := two_of rep
    split at h'
    · rename_i o ho
      cases h'
      obtain ⟨a, w, rfl, g, z⟩ := dct_get sub h2 h1 ho
      have e : w.isSome = o.isSome := by rcases z with ⟨rfl, rfl⟩ | ⟨x, d, rfl, rfl, _⟩ <;> rfl
      exact ⟨_, _, rfl, .inr (.inr ⟨a, w, rfl, g, by rw [e]; exact q _ F H (.same (.bl _))⟩)⟩
    · cases h'
  · cases h'
theorem ok_in : OpOk K fa .isin (r2 (rInA K false)) := fun F H vs ds z Q sub rep h q => in_gen sub rep h q
theorem ok_notin : OpOk K fa .notin (r2 (rInA K true)) := fun F H vs ds z Q sub rep h q => in_gen sub rep h q
theorem Rep.isNon {v : V} {d : D} (r : Rep K fa F v d) : decide (v = .non) = DI.isNon d := by
  cases r <;> rfl
def rIsA : R2 := fun x y H Q => (fun x y H Q => y = V.non ∧ Q (.bl (decide (x = V.non))) H) x y H Q ∨ rIsB x y H Q
theorem opr_is {X : Cx} : OpR X (compareOp .Is) rIsA := OpR.or op_isN op_isBl
theorem ok_isn : OpOk K fa .isn (r2 rIsA) := by
  intro F H vs ds z Q sub rep h q
  have h' : dIsn false ds = some z := h
  unfold dIsn at h'
  split at h'
  · obtain ⟨x, y, rfl, h1, h2⟩ := two_of rep
    cases h2.non_of; cases h'
    refine ⟨_, _, rfl, .inl ⟨rfl, ?_⟩⟩
    rw [h1.isNon]
    exact q _ F H (.same (.bl _))
  · cases h'
theorem ok_isb : OpOk K fa .isb (r2 rIsA) := by
  intro F H vs ds z Q sub rep h q
  have h' : dIsb ds = some z := h
  unfold dIsb at h'
  split at h'
  · obtain ⟨x, y, rfl, h1, h2⟩ := two_of rep
    cases h1.bl_of; cases h2.bl_of; cases h'
    exact ⟨_, _, rfl, .inr ⟨_, _, rfl, rfl, q _ F H (.same (.bl _))⟩⟩
  · cases h'
theorem ok_notn : OpOk K fa .notn (r2 fun x y H Q => y = V.non ∧ Q (.bl (!decide (x = V.non))) H) := by
  intro F H vs ds z Q sub rep h q
  have h' : dIsn true ds = some z := h
  unfold dIsn at h'
  split at h'
  · obtain ⟨x, y, rfl, h1, h2⟩ := two_of rep
    cases h2.non_of; cases h'
    refine ⟨_, _, rfl, rfl, ?_⟩
    rw [h1.isNon]
    exact q _ F H (.same (.bl _))
  · cases h'

/-! ### items, slices -/
def rIxD : R2 := fun x y H Q => ∃ a v, x = .ref a ∧ DGet H a y (some v) ∧ Q v H
theorem ix_dict {X : Cx} (hu : X.A.units + 64 < cLine) : IxR X rIxD := by
  intro value slice pins s σ H x y v u Q I rx ry ⟨a, z, ex, g, q⟩ hs
  subst ex
  obtain rfl : v = Value.ref a := rx
  have hT := dict_typeIs I g
  unfold PyProof.Rows.subscriptTail
  refine wpAny_bind ?_
  rw [getitemInPython_of_ne hT.not_modules]
  refine wpAny_bind (wpAny_specialOf hT PySem.F.slot_dict_getitem.lookup ?_)
  have fin : wpAny (model X.prog X.w) X.A (subscripted slice false (.ref a) u) (fun r s₃ => wpAny (model X.prog X.w) X.A (letTemporaryGo value (.ref a) r >>= fun _ => pure r) (EP X pins σ Q) X.xe s₃) X.xe s := by
    rw [hs]
    exact wpAny_operating (d_getItem (by omega) I g ry fun w' s3 I3 rw' => wpAny_bind (wpAny_letTemporaryGo (wpAny_pure ⟨z, H, I3, rw', q⟩)))
  first
    | exact wpAny_pure (wpAny_bind fin)
    | exact wpAny_bind (wpAny_pure (wpAny_bind fin))
    | exact wpAny_bind fin
def rItem (K : PySem.W.Frag) : R2 := fun x y H Q => rIxL K x y H Q ∨ (fun x y H Q => rIxT K x y H Q ∨ (fun x y H Q => rIxS x y H Q ∨ rIxD x y H Q) x y H Q) x y H Q
theorem ixr_item {X : Cx} (hu : X.A.units + 64 < cLine) : IxR X (rItem X.K) := IxR.or ix_list (IxR.or ix_tup (IxR.or ix_str (ix_dict hu)))
theorem ok_item : OpOk K fa .item (r2 (rItem K)) := by
  intro F H vs ds z Q sub rep h q
  have h' : dItem ds = some z := h
  unfold dItem at h'
  split at h'
  · obtain ⟨x, y, rfl, h1, h2⟩ := two_of rep
    split at h'
    · rename_i w ho
      cases h'
      obtain ⟨a, w', rfl, g, z⟩ := dct_get sub h1 h2 ho
      rcases z with ⟨_, z⟩ | ⟨x, d, rfl, z, rx⟩
      · cases z
      · cases z
        rcases g with g | ⟨_, z, _⟩
        · exact ⟨_, _, rfl, .inr (.inr (.inr ⟨a, x, rfl, g, q _ F H (.same rx)⟩))⟩
        · cases z
    · cases h'
  · obtain ⟨x, y, rfl, h1, h2⟩ := two_of rep
    obtain ⟨b, ys, rfl, e2, rl⟩ := h1.lst_of
    cases h2.int_of
    obtain ⟨d, e, rfl⟩ := Option.map_eq_some_iff.mp h'
    obtain ⟨v, hv, rv⟩ := rl.atI e
    exact ⟨_, _, rfl, .inl ⟨b, ys, _, v, rfl, rfl, SqL.of (sub.at e2 rfl), hv, q _ F H (.same rv)⟩⟩
  · obtain ⟨x, y, rfl, h1, h2⟩ := two_of rep
    obtain ⟨b, ys, rfl, e2, rl⟩ := h1.scr_of
    cases h2.int_of
    obtain ⟨d, e, rfl⟩ := Option.map_eq_some_iff.mp h'
    obtain ⟨v, hv, rv⟩ := rl.atI e
    exact ⟨_, _, rfl, .inl ⟨b, ys, _, v, rfl, rfl, sub.seq e2, hv, q _ F H (.same rv)⟩⟩
  · obtain ⟨x, y, rfl, h1, h2⟩ := two_of rep
    obtain ⟨b, ys, rfl, e2, rl⟩ := h1.tup_of
    cases h2.int_of
    obtain ⟨d, e, rfl⟩ := Option.map_eq_some_iff.mp h'
    obtain ⟨v, hv, rv⟩ := rl.atI e
    exact ⟨_, _, rfl, .inr (.inl ⟨b, ys, _, v, rfl, rfl, sub.tup e2, hv, q _ F H (.same rv)⟩)⟩
  · obtain ⟨x, y, rfl, h1, h2⟩ := two_of rep
    cases h1.str_of; cases h2.int_of
    split at h'
    · rename_i hz
      obtain ⟨c, e, rfl⟩ := Option.map_eq_some_iff.mp h'
      refine ⟨_, _, rfl, .inr (.inr (.inl ⟨_, _, c, rfl, rfl, by rw [sOf_len]; exact le_line hz, by rw [sOf_list]; exact e, ?_⟩))⟩
      exact q _ F H (.same (.str [c]))
    · cases h'
  · cases h'
end
end DI

namespace DI
open PySem L2

section
variable {K : PySem.W.Frag} {fa : Nat → Addr} {F H : Hp}

theorem rep_sOf {x : Str} : Rep K fa F (.str x) (.str x.cps.toList) := by
  have e := Rep.str (K := K) (fa := fa) (F := F) x.cps.toList
  rw [sOf_of] at e
  exact e
theorem vals_by : ∀ {xs : List V} {us : List Value}, xs.length = us.length → (∀ (j : Nat) (x : V) (u : Value), xs[j]? = some x → us[j]? = some u → RelV x u) → Vals xs us
  | [], [], _, _ => .nil
  | [], _ :: _, h, _ => by cases h
  | _ :: _, [], h, _ => by cases h
  | x :: xs, u :: us, h, k => .cons (k 0 x u rfl rfl) (vals_by (by simpa using h) fun j y w e1 e2 => k (j + 1) y w (by simpa using e1) (by simpa using e2))
/-! ### displays -/
theorem ok_tup : OpOk K fa .tup (fun xs H Q => xs.length ≤ sizeLine ∧ ∀ p, H p = none → Q (.ref p) (upd H p (.tup xs))) := by
  intro F H vs ds z Q sub rep h q
  have h' : (if ds.length ≤ big then some (R.val (.tup ds)) else none) = some z := h
  split at h'
  · rename_i hz
    cases h'
    refine ⟨by rw [rep.length]; exact le_line hz, fun p hp => q _ _ _ (.froz hp (fun _ z => by cases z) (.tup upd_same ?_))⟩
    exact rep.mono (same_upd (sub_none sub hp))
  · cases h'
theorem ok_list : OpOk K fa .list (fun xs H Q => xs.length ≤ sizeLine ∧ ∀ p, H p = none → Q (.ref p) (upd H p (.lst xs))) := by
  intro F H vs ds z Q sub rep h q
  have h' : (if ds.length ≤ big then some (R.new (fzs ds)) else none) = some z := h
  split at h'
  · rename_i hz
    cases h'
    exact ⟨by rw [rep.length]; exact le_line hz, fun p hp => q _ _ _ (.new hp rep)⟩
  · cases h'

/-! ### built-ins by name -/
def rLenD : List V → Hp → VK → Prop := fun xs H Q => ∃ (p : Addr) (n : Nat), xs = [.ref p] ∧ ((∃ kvs, Rd H p (.dK kvs) ∧ n = kvs.length) ∨ ∃ kvs, H p = some (.dT kvs) ∧ n = kvs.length) ∧ Q (.int n) H
theorem cr_lenD {X : Cx} : CallR X (.builtin "len") rLenD := by
  intro pins s σ H xs us Q I r ⟨p, n, ex, h, q⟩
  subst ex
  rcases h with ⟨kvs, e, rfl⟩ | ⟨kvs, e, rfl⟩
  · obtain ⟨u, rfl, ru⟩ := vals1 r
    obtain rfl : u = Value.ref p := ru
    exact d_len I e fun t s3 I3 => ⟨.int kvs.length, H, I3, ⟨t, rfl⟩, q⟩
  · exact call_len_dT pins s σ H _ us Q I r ⟨p, kvs, rfl, e, q⟩
def rLenA (K : PySem.W.Frag) : List V → Hp → VK → Prop := fun xs H Q => (∃ x n, xs = [x] ∧ LenV K x H n ∧ Q (.int n) H) ∨ rLenD xs H Q
theorem cr_lenA {X : Cx} : CallR X (.builtin "len") (rLenA X.K) := by
  intro pins s σ H xs us Q I r h
  rcases h with h | h
  · exact call_len pins s σ H xs us Q I r h
  · exact cr_lenD pins s σ H xs us Q I r h
theorem RepK.length {F : Hp} : ∀ {vs : List (Key × V)} {ds : List (D × D)}, RepK K fa F vs ds → vs.length = ds.length
  | _, _, .nil => rfl
  | _, _, .cons _ r => by simp [RepK.length r]
theorem RepP.length {F : Hp} : ∀ {vs : List (List Key × V)} {ds : List (D × D)}, RepP K fa F vs ds → vs.length = ds.length
  | _, _, .nil => rfl
  | _, _, .cons _ r => by simp [RepP.length r]
theorem ok_len : OpOk K fa .len (rLenA K) := by
  intro F H vs ds z Q sub rep h q
  have h' : dLen ds = some z := h
  unfold dLen at h'
  split at h'
  · obtain ⟨x, rfl, h1⟩ := one_of rep
    cases h1.str_of
    split at h'
    · rename_i hz
      cases h'
      refine .inl ⟨_, _, rfl, ⟨by rw [sOf_len]; exact le_line hz, rfl⟩, ?_⟩
      rw [sOf_len]
      exact q _ F H (.same (.int _))
    · cases h'
  · obtain ⟨x, rfl, h1⟩ := one_of rep
    obtain ⟨b, ys, rfl, e2, rl⟩ := h1.lst_of
    cases h'
    refine .inl ⟨_, _, rfl, .inl ⟨ys, SqL.of (sub.at e2 rfl), rfl⟩, ?_⟩
    rw [rl.length]
    exact q _ F H (.same (.int _))
  · obtain ⟨x, rfl, h1⟩ := one_of rep
    obtain ⟨b, ys, rfl, e2, rl⟩ := h1.scr_of
    cases h'
    refine .inl ⟨_, _, rfl, .inl ⟨ys, sub.seq e2, rfl⟩, ?_⟩
    rw [rl.length]
    exact q _ F H (.same (.int _))
  · obtain ⟨x, rfl, h1⟩ := one_of rep
    obtain ⟨b, ys, rfl, e2, rl⟩ := h1.tup_of
    cases h'
    refine .inl ⟨_, _, rfl, .inr ⟨ys, sub.tup e2, rfl⟩, ?_⟩
    rw [rl.length]
    exact q _ F H (.same (.int _))
  · obtain ⟨x, rfl, h1⟩ := one_of rep
    cases h'
    cases h1 with
    | @dct a ks _ g1 g2 => exact .inr ⟨a, _, rfl, .inl ⟨ks, sub.rd g1, rfl⟩, by rw [g2.length]; exact q _ F H (.same (.int _))⟩
    | @dcp a ks _ g1 _ g2 => exact .inr ⟨a, _, rfl, .inr ⟨ks, sub.at g1 rfl, rfl⟩, by rw [g2.length]; exact q _ F H (.same (.int _))⟩
  · cases h'
theorem bools_of : ∀ {vs : List V} {ds : List D} {bs : List Bool}, RepL K fa F vs ds → bools ds = some bs → vs = bs.map V.bl
  | _, _, _, .nil, h => by cases h; rfl
  | _, _, _, .cons (.bl b) t, h => by
    obtain ⟨cs, e, rfl⟩ := Option.map_eq_some_iff.mp (show (bools _).map (b :: ·) = some _ from h)
    rw [List.map_cons, bools_of t e]
  | _, _, _, .cons (.non) t, h => by cases h
  | _, _, _, .cons (.int _) t, h => by cases h
  | _, _, _, .cons (.str _) t, h => by cases h
  | _, _, _, .cons (.tup _ _) t, h => by cases h
  | _, _, _, .cons (.lst _ _) t, h => by cases h
  | _, _, _, .cons (.scr _ _) t, h => by cases h
  | _, _, _, .cons (.dct _ _) t, h => by cases h
  | _, _, _, .cons (.fn _) t, h => by cases h
theorem ok_all : OpOk K fa .all (rAll K) := by
  intro F H vs ds z Q sub rep h q
  have h' : dAll ds = some z := h
  unfold dAll at h'
  split at h'
  · obtain ⟨x, rfl, h1⟩ := one_of rep
    obtain ⟨b, ys, rfl, e2, rl⟩ := h1.lst_of
    split at h'
    · rename_i bs hb
      cases h'
      refine ⟨b, bs, rfl, ?_, q _ F H (.same (.bl _))⟩
      rw [← bools_of rl hb]
      exact SqL.of (sub.at e2 rfl)
    · cases h'
  · cases h'
theorem ok_int : OpOk K fa .int (fun xs H Q => (∃ i, xs = [V.int i] ∧ Q (.int i) H) ∨ ∃ k, xs = [V.bl k] ∧ Q (.int (if k then 1 else 0)) H) := by
  intro F H vs ds z Q sub rep h q
  have h' : dInt ds = some z := h
  unfold dInt at h'
  split at h'
  · obtain ⟨x, rfl, h1⟩ := one_of rep
    cases h1.int_of; cases h'
    exact .inl ⟨_, rfl, q _ F H (.same (.int _))⟩
  · obtain ⟨x, rfl, h1⟩ := one_of rep
    cases h1.bl_of; cases h'
    exact .inr ⟨_, rfl, q _ F H (.same (.int _))⟩
  · cases h'
theorem ok_abs : OpOk K fa .abs (fun xs H Q => ∃ i, xs = [V.int i] ∧ Q (.int (if i < 0 then -i else i)) H) := by
  intro F H vs ds z Q sub rep h q
  have h' : dAbs ds = some z := h
  unfold dAbs at h'
  split at h'
  · obtain ⟨x, rfl, h1⟩ := one_of rep
    cases h1.int_of; cases h'
    exact ⟨_, rfl, q _ F H (.same (.int _))⟩
  · cases h'
theorem ok_max : OpOk K fa .max (fun xs H Q => ∃ i j, xs = [V.int i, V.int j] ∧ Q (.int (if j > i then j else i)) H) := by
  intro F H vs ds z Q sub rep h q
  have h' : dMax ds = some z := h
  unfold dMax at h'
  split at h'
  · obtain ⟨x, y, rfl, h1, h2⟩ := two_of rep
    cases h1.int_of; cases h2.int_of; cases h'
    exact ⟨_, _, rfl, q _ F H (.same (.int _))⟩
  · cases h'
theorem ok_min : OpOk K fa .min (fun xs H Q => ∃ i j, xs = [V.int i, V.int j] ∧ Q (.int (if j < i then j else i)) H) := by
  intro F H vs ds z Q sub rep h q
  have h' : dMin ds = some z := h
  unfold dMin at h'
  split at h'
  · obtain ⟨x, y, rfl, h1, h2⟩ := two_of rep
    cases h1.int_of; cases h2.int_of; cases h'
    exact ⟨_, _, rfl, q _ F H (.same (.int _))⟩
  · cases h'
/-- list(text) -/
def rListStr : List V → Hp → VK → Prop := fun xs H Q => ∃ x : Str, xs = [V.str x] ∧ x.length ≤ sizeLine ∧ ∀ l, H l = none → Q (.ref l) (upd H l (.lst (x.cps.toList.map fun c => V.str ⟨#[c]⟩)))
theorem cr_listStr {X : Cx} (hc : X.calm = true) : CallR X (.type "list") rListStr := by
  intro pins s σ H xs us Q I r h
  obtain ⟨x, rfl, hz, q⟩ := h
  obtain ⟨u, rfl, t, rfl⟩ := vals1 r
  refine call_list_str (I.ok.hd hc) x t (hn := hz) fun h' tk acc' c' hk hS' hacc => ?_
  have hl : (x.cps.toList.map fun c => V.str ⟨#[c]⟩).length = acc'.toList.length := by simp [hacc.1]
  have rv : Vals (x.cps.toList.map fun c => V.str ⟨#[c]⟩) acc'.toList := by
    refine vals_by hl fun j v u hv hu => ?_
    obtain ⟨c, t, hc, rfl⟩ := hacc.2 j u (by simpa using hu)
    rw [List.getElem?_map] at hv
    have hc' : x.cps.toList[j]? = some c := by simpa using hc
    rw [hc'] at hv
    cases hv
    exact ⟨_, rfl⟩
  refine ⟨.ref s.heap.objs.size, _, I.laid (o := .lst (x.cps.toList.map fun c => V.str ⟨#[c]⟩)) hk (Nat.le_refl _) ⟨?_, acc'.toList, c', rv, by simpa using hS'⟩, rfl, q _ (I.hok.fresh (Nat.le_refl _))⟩
  rw [List.length_map]
  simpa [Str.length] using hz
def rListA (K : PySem.W.Frag) : List V → Hp → VK → Prop := fun xs H Q => (∃ p ys, xs = [V.ref p] ∧ (SqL K H p ys ∨ SqT K H p ys) ∧ ∀ l, H l = none → Q (.ref l) (upd H l (.lst ys))) ∨ rListStr xs H Q
theorem cr_listA {X : Cx} (hc : X.calm = true) : CallR X (.type "list") (rListA X.K) := by
  intro pins s σ H xs us Q I r h
  rcases h with h | h
  · exact call_list_of pins s σ H xs us Q I r h
  · exact cr_listStr hc pins s σ H xs us Q I r h
theorem repL_signs : ∀ cs : List Nat, RepL K fa F (cs.map fun c => V.str ⟨#[c]⟩) (cs.map fun c => D.str [c])
  | [] => .nil
  | c :: cs => .cons (.str [c]) (repL_signs cs)
theorem ok_listof : OpOk K fa .listof (rListA K) := by
  intro F H vs ds z Q sub rep h q
  have h' : dListof ds = some z := h
  unfold dListof at h'
  split at h'
  · obtain ⟨x, rfl, h1⟩ := one_of rep
    obtain ⟨b, ys, rfl, e2, rl⟩ := h1.lst_of
    cases h'
    exact .inl ⟨b, ys, rfl, .inl (SqL.of (sub.at e2 rfl)), fun l hl => q _ _ _ (.new hl rl)⟩
  · obtain ⟨x, rfl, h1⟩ := one_of rep
    obtain ⟨b, ys, rfl, e2, rl⟩ := h1.tup_of
    cases h'
    exact .inl ⟨b, ys, rfl, .inr (sub.tup e2), fun l hl => q _ _ _ (.new hl rl)⟩
  · obtain ⟨x, rfl, h1⟩ := one_of rep
    cases h1.str_of
    split at h'
    · rename_i hz
      cases h'
      refine .inr ⟨_, rfl, by rw [sOf_len]; exact le_line hz, fun l hl => ?_⟩
      rw [sOf_list]
      exact q _ _ _ (.new hl (repL_signs _))
    · cases h'
  · cases h'

def rTupA (K : PySem.W.Frag) : List V → Hp → VK → Prop := fun xs H Q => ∃ p ys, xs = [V.ref p] ∧ ((SqL K H p ys ∧ ∀ l, H l = none → Q (.ref l) (upd H l (.tup ys))) ∨ (SqT K H p ys ∧ Q (.ref p) H))
theorem ok_tupof : OpOk K fa .tupof (rTupA K) := by
  intro F H vs ds z Q sub rep h q
  have h' : dTupof ds = some z := h
  unfold dTupof at h'
  split at h'
  · obtain ⟨x, rfl, h1⟩ := one_of rep
    obtain ⟨b, ys, rfl, e2, rl⟩ := h1.lst_of
    cases h'
    exact ⟨b, ys, rfl, .inl ⟨SqL.of (sub.at e2 rfl), fun l hl => q _ _ _ (.froz hl (fun _ z => by cases z) (.tup upd_same (rl.mono (same_upd (sub_none sub hl)))))⟩⟩
  · obtain ⟨x, rfl, h1⟩ := one_of rep
    obtain ⟨b, ys, rfl, e2, rl⟩ := h1.tup_at
    cases h'
    exact ⟨b, ys, rfl, .inr ⟨SqT.of (sub.at e2 rfl), q _ _ _ (.same (.tup e2 rl))⟩⟩
  · cases h'
theorem intsD_of : ∀ {vs : List V} {ds : List D} {bs : List Int}, RepL K fa F vs ds → intsD ds = some bs → vs = bs.map V.int
  | _, _, _, .nil, e => by cases e; rfl
  | _, _, _, .cons (d := d) r t, e => by
    cases d with
    | int b =>
      simp only [intsD] at e
      obtain ⟨l, e1, e2⟩ := Option.map_eq_some_iff.mp e
      subst e2
      rw [r.int_of, intsD_of t e1]
      rfl
    | _ => cases e
theorem ok_sum : OpOk K fa .sum (rSum K) := by
  intro F H vs ds z Q sub rep h q
  have h' : dSum ds = some z := h
  unfold dSum at h'
  split at h'
  · split at h'
    · rename_i ns e
      obtain ⟨x, rfl, h1⟩ := one_of rep
      obtain ⟨b, ys, rfl, e2, rl⟩ := h1.lst_of
      cases h'
      have := intsD_of rl e
      subst this
      exact ⟨b, ns, rfl, SqL.of (sub.at e2 rfl), q _ _ _ (.same (.int _))⟩
    · cases h'
  · cases h'
theorem ok_any : OpOk K fa .any (rAny K) := by
  intro F H vs ds z Q sub rep h q
  have h' : dAny ds = some z := h
  unfold dAny at h'
  split at h'
  · split at h'
    · rename_i ns e
      obtain ⟨x, rfl, h1⟩ := one_of rep
      obtain ⟨b, ys, rfl, e2, rl⟩ := h1.lst_of
      cases h'
      have := bools_of rl e
      subst this
      exact ⟨b, ns, rfl, SqL.of (sub.at e2 rfl), q _ _ _ (.same (.bl _))⟩
    · cases h'
  · cases h'
theorem ok_stri : OpOk K fa .stri (fun xs H Q => ∃ i : Int, xs = [V.int i] ∧ i.natAbs.log2 < 1920 ∧ Q (.str (toString i)) H) := by
  intro F H vs ds z Q sub rep h q
  have h' : dStri ds = some z := h
  unfold dStri at h'
  split at h'
  · obtain ⟨x, rfl, h1⟩ := one_of rep
    cases h1.int_of
    split at h'
    · rename_i hc
      cases h'
      exact ⟨_, rfl, hc, q _ _ _ (.same rep_sOf)⟩
    · cases h'
  · cases h'

/-! ### repr -/
mutual
theorem plain_noDict : ∀ d : D, plain d = true → (toPy d).hasDict = false
  | .non, _ => rfl
  | .bl _, _ => rfl
  | .int _, _ => rfl
  | .str _, _ => rfl
  | .tup xs, h => by
    show PyData.hasDict (.tuple (toPys xs)) = false
    simp only [PyData.hasDict]
    exact plains_noDict xs h
  | .lst xs, h => by
    show PyData.hasDict (.list (toPys xs)) = false
    simp only [PyData.hasDict]
    exact plains_noDict xs h
  | .scr _, h => by cases h
  | .dct _, h => by cases h
  | .fn _, h => by cases h
theorem plains_noDict : ∀ ds : List D, plains ds = true → PyData.hasDictAll (toPys ds) = false
  | [], _ => rfl
  | d :: ds, h => by
    have h' : (plain d && plains ds) = true := h
    rw [Bool.and_eq_true] at h'
    show PyData.hasDictAll (toPy d :: toPys ds) = false
    simp only [PyData.hasDictAll, plain_noDict d h'.1, plains_noDict ds h'.2, Bool.or_self]
end
structure Showy (d : D) : Prop where
  pl : plain d = true
  sh : (toPy d).showable = true
  sz : (toPy d).shown.length ≤ sizeLine
  dp : (toPy d).depth ≤ 60
theorem showy_of {d : D} (h : okShow d = true) : Showy d := by
  unfold okShow at h
  simp only [Bool.and_eq_true, decide_eq_true_eq] at h
  exact ⟨h.1.1.1, h.1.1.2, h.1.2, h.2⟩
def rReprA (K : PySem.W.Frag) (fa : Nat → Addr) : List V → Hp → VK → Prop := fun xs H Q => ∃ F x d, xs = [x] ∧ SL F H ∧ Rep K fa F x d ∧ okShow d = true ∧ Q (.str (toPy d).shown) H
theorem cr_repr {X : Cx} (hg : X.A.guards = some []) (hu : X.A.units + 64 < cLine) : CallR X (.builtin "repr") (rReprA X.K fa) := by
  intro pins s σ H xs us Q I r h
  obtain ⟨F, x, d, rfl, sub, rep, ok, q⟩ := h
  obtain ⟨pl, sh, sz, dp⟩ := showy_of ok
  obtain ⟨u, rfl, rx⟩ := vals1 r
  obtain ⟨as, rd⟩ := Rep.reads I sub d x u pl rep rx
  have nd := plain_noDict d pl
  have ref : ∀ a, u = .ref a → wpAny (model X.prog X.w) X.A (call (.builtin "repr") [u]) (EP X pins σ Q) X.xe s := fun a e => by
    subst e
    exact repr_of_reads' rd sh (noDict_hsm' nd) hg (by omega) (fun _ _ e => e) (fun h' t tk hk => ⟨.str _, H, I.kept hk, ⟨_, rfl⟩, q⟩) sz
  cases rep with
  | non =>
    cases rx
    exact PySem.P.repr_of_none ⟨.str _, H, I.tok _, ⟨_, rfl⟩, q⟩
  | bl b =>
    cases rx
    exact PySem.P.repr_of_bool ⟨.str _, H, I.tok _, ⟨_, rfl⟩, q⟩
  | int i =>
    obtain ⟨t, rfl⟩ := rx
    refine PySem.P.repr_of_int ?_ ⟨.str _, H, I.tok _, ⟨_, rfl⟩, q⟩
    have : (PyData.int i).showable = true := sh
    simpa [PyData.showable] using this
  | str cs =>
    obtain ⟨t, rfl⟩ := rx
    exact PySem.P.repr_of_str ⟨.str _, H, I.tok _, ⟨_, rfl⟩, q⟩ sz
  | tup _ _ => exact ref _ rx
  | lst _ _ => exact ref _ rx
  | scr _ _ => exact ref _ rx
  | dct _ _ => exact ref _ rx
  | dcp _ _ _ => exact ref _ rx
  | ctp _ _ => exact ref _ rx
  | fn _ => exact ref _ rx
  | cls _ => exact ref _ rx
  | obj _ _ => exact ref _ rx
where
  noDict_hsm' {d : PyData} {as : List Addr} (h : d.hasDict = false) : d.hasDict = true → sysModules ∉ as := fun h' => by rw [h] at h'; cases h'
theorem ok_repr : OpOk K fa .repr (rReprA K fa) := by
  intro F H vs ds z Q sub rep h q
  have h' : dRepr ds = some z := h
  unfold dRepr at h'
  split at h'
  · obtain ⟨x, rfl, h1⟩ := one_of rep
    split at h'
    · rename_i hz
      cases h'
      exact ⟨F, x, _, rfl, sub, h1, hz, q _ F H (.same rep_sOf)⟩
    · cases h'
  · cases h'

/-! ### isinstance -/
theorem ty_of {v : V} {d : D} {a : String} (sub : SL F H) (r : Rep K fa F v d) (h : tyD d = some a) : TyX K H v (.type a) := by
  cases r with
  | non => cases h; exact .base .non
  | bl b => cases h; exact .base (.bl b)
  | int i => cases h; exact .base (.int i)
  | str cs => cases h; exact .base (.str _)
  | tup e _ => cases h; exact .base (.tup (sub.at e rfl))
  | ctp e _ =>
    cases h
    rcases sub.tup e with (e | ⟨o, e⟩) | ⟨o, its, n, e, c, _⟩
    · exact .base (.tup e)
    · exact .fTuple e
    · exact .kTuple e c
  | lst e _ => cases h; exact .base (.lst (sub.at e rfl))
  | scr e _ => cases h
  | dct e _ =>
    cases h
    rcases sub.rd e with e | ⟨o, e⟩
    · exact .base (.dK e)
    · exact .fDict e
  | dcp e _ _ => cases h; exact .base (.dT (sub.at e rfl))
  | fn f => cases h
  | cls c => cases h
  | obj _ _ => cases h
def rIsiA (K : PySem.W.Frag) (t : String) : V → Hp → VK → Prop := fun x H Q => rIsi K [x, .ty t] H Q
theorem ok_isi {t : String} : OpOk K fa (.isi t) (r1 (rIsiA K t)) := by
  intro F H vs ds z Q sub rep h q
  have h' : dIsi t ds = some z := h
  unfold dIsi at h'
  split at h'
  · obtain ⟨x, rfl, h1⟩ := one_of rep
    split at h'
    · rename_i a ha
      split at h'
      · rename_i b hb
        cases h'
        exact ⟨_, rfl, x, .ty t, .type a, .type t, b, rfl, .ty t, ty_of sub h1 ha, kit_ty hb, q _ F H (.same (.bl _))⟩
      · cases h'
    · cases h'
  · cases h'

/-! ### texts -/
def rJoinA (K : PySem.W.Frag) : R2 := fun x y H Q => ∃ a p, ∃ ys : List Str, x = .str a ∧ y = .ref p ∧ (SqL K H p (ys.map V.str) ∨ SqT K H p (ys.map V.str)) ∧ (ys.map (·.length)).sum + ys.length * a.length ≤ 16777216 ∧ Q (.str (Txt.join a ys)) H
theorem texts_of : ∀ {vs : List V} {ds : List D} {bs : List (List Nat)}, RepL K fa F vs ds → texts ds = some bs → vs = (bs.map sOf).map V.str
  | _, _, _, .nil, h => by cases h; rfl
  | _, _, _, .cons (.str b) t, h => by
    obtain ⟨cs, e, rfl⟩ := Option.map_eq_some_iff.mp (show (texts _).map (b :: ·) = some _ from h)
    rw [List.map_cons, List.map_cons, texts_of t e]
  | _, _, _, .cons (.non) t, h => by cases h
  | _, _, _, .cons (.int _) t, h => by cases h
  | _, _, _, .cons (.bl _) t, h => by cases h
  | _, _, _, .cons (.tup _ _) t, h => by cases h
  | _, _, _, .cons (.lst _ _) t, h => by cases h
  | _, _, _, .cons (.scr _ _) t, h => by cases h
  | _, _, _, .cons (.dct _ _) t, h => by cases h
  | _, _, _, .cons (.fn _) t, h => by cases h
theorem ok_join : OpOk K fa .join (r2 (rJoinA K)) := by
  intro F H vs ds z Q sub rep h q
  have h' : dJoin ds = some z := h
  unfold dJoin at h'
  split at h'
  · obtain ⟨x, y, rfl, h1, h2⟩ := two_of rep
    cases h1.str_of
    obtain ⟨b, ys, rfl, e2, rl⟩ := h2.lst_of
    split at h'
    · rename_i ts ht
      split at h'
      · rename_i hz
        cases h'
        have e3 := texts_of rl ht
        refine ⟨_, _, rfl, _, b, ts.map sOf, rfl, rfl, .inl ?_, ?_, q _ F H (.same rep_sOf)⟩
        · rw [← e3]; exact SqL.of (sub.at e2 rfl)
        · have e4 : (ts.map sOf).map (fun s => Str.length s) = ts.map (·.length) := by
            rw [List.map_map]; exact List.map_congr_left fun c _ => sOf_len c
          show ((ts.map sOf).map (fun s => Str.length s)).sum + _ ≤ _
          rw [e4, List.length_map, sOf_len]
          exact Nat.le_trans hz (by decide)
      · cases h'
    · cases h'
  · cases h'
theorem ok_upper : OpOk K fa .upper (r1 fun x H Q => ∃ a, x = V.str a ∧ a.length ≤ 5592405 ∧ Q (.str (Txt.upper a)) H) := by
  intro F H vs ds z Q sub rep h q
  have h' : dUpper ds = some z := h
  unfold dUpper at h'
  split at h'
  · obtain ⟨x, rfl, h1⟩ := one_of rep
    cases h1.str_of
    split at h'
    · rename_i hz
      cases h'
      exact ⟨_, rfl, _, rfl, by rw [sOf_len]; exact Nat.le_trans hz (by decide), q _ F H (.same rep_sOf)⟩
    · cases h'
  · cases h'

/-! ### slices -/
def rCutA (K : PySem.W.Frag) : V → Option Int → Option Int → Hp → VK → Prop := fun x lo hi H Q => rSlL K x lo hi H Q ∨ (fun x lo hi H Q => rSlS x lo hi H Q ∨ rSlA K x lo hi H Q) x lo hi H Q
theorem slr_cut {X : Cx} : SlR X (rCutA X.K) := SlR.or sl_list (SlR.or sl_str sl_tupA)
theorem cutL_rep {vs : List V} {ds : List D} (r : RepL K fa F vs ds) (lo hi : Option Int) : RepL K fa F (cutV vs lo hi) (cutL ds lo hi) := by
  unfold cutV cutL
  rw [r.length]
  exact (r.drop _).take _
theorem cutS_L (cs : List Nat) (lo hi : Option Int) : cutS (sOf cs) lo hi = sOf (cutL cs lo hi) := by
  unfold cutS cutL
  rw [sOf_list, sOf_len]
  rfl
/-- the bounds that are there, as values -/
theorem cut_gen {x : V} {d : D} {i j : Option Int} {z : R} {Q : VK} (sub : SL F H) (r : Rep K fa F x d)
    (h : cutR i j d = some z)
    (q : ∀ v F' H', ARes K fa F H v z F' H' → Q v H') : rCutA K x i j H Q := by
  unfold cutR at h
  split at h
  · cases r.str_of
    split at h
    · rename_i hz
      cases h
      refine .inr (.inl ⟨_, rfl, by rw [sOf_len]; exact le_line hz, ?_⟩)
      rw [cutS_L]
      exact q _ F H (.same (.str _))
    · cases h
  · obtain ⟨b, ys, rfl, e2, rl⟩ := r.lst_of
    cases h
    exact .inl ⟨b, ys, rfl, SqL.of (sub.at e2 rfl), fun p hp => q _ _ _ (.new hp (cutL_rep rl i j))⟩
  · obtain ⟨b, ys, rfl, e2, rl⟩ := r.tup_at
    cases h
    refine .inr (.inr ⟨b, ys, rfl, SqT.of (sub.at e2 rfl), fun hw => ?_, fun _ p hp => ?_⟩)
    · have hl := rl.length
      rename_i ds
      have e3 : cutL ds i j = ds := by
        unfold cutL
        rw [← hl, hw.1, hw.2, hl]
        simp
      rw [e3] at q
      exact q _ _ _ (.same (.tup e2 rl))
    · exact q _ _ _ (.froz hp (fun _ z => by cases z) (.tup upd_same ((cutL_rep rl i j).mono (same_upd (sub_none sub hp)))))
  · cases h
end
end DI

namespace DI
open PySem L2

section
variable {K : PySem.W.Frag} {fa : Fa} {F H F' H' F1 H1 F2 H2 : Hp} {σ σ' σ1 σ2 : L2.St} {env env' e1 e2 : Ev}

theorem RRep.stay {v : V} {r : R} (h : RRep K fa F H σ env F1 H1 σ1 e1 v r) (b : Step K fa F1 H1 σ1 e1 F2 H2 σ2 e2) : RRep K fa F H σ env F2 H2 σ2 e2 v r := by
  cases r with
  | val d => exact Rep.mono b.sub h
  | new x =>
    obtain ⟨fp, h1, h2, h3⟩ := h
    refine ⟨fp, h1.keep b.sub (fun a m => ?_) (fun a m => ?_), h2, fun p m q => ?_⟩
    · obtain ⟨f, o, e, nt⟩ := h1.thereN a m
      rw [e]
      exact (b.keep a o e (h3 a m)).n nt fun z => z f
    · obtain ⟨f, o, e⟩ := h1.there a m
      exact b.stay a (by rw [e]; simp) f (h3 a m)
    · rcases b.own p q with z | z
      · exact h3 p m z
      · obtain ⟨_, o, e⟩ := h1.there p m
        rw [e] at z; cases z

/-! ### slots -/
theorem held_iff {i : Nat} {x : Ho} : held env i = some x ↔ env[i]? = some (.own x) ∨ env[i]? = some (.io x) := by
  unfold held
  cases e : env[i]? with
  | none => simp
  | some s => cases s <;> simp
theorem held_set_ne {i j : Nat} {s : Sl} (h : i ≠ j) : held (env.set i s) j = held env j := by
  unfold held
  rw [List.getElem?_set_ne h]
theorem held_lt {i : Nat} {x : Ho} (h : held env i = some x) : i < env.length := by
  rcases held_iff.mp h with e | e <;> exact (List.getElem?_eq_some_iff.mp e).1
theorem get_set_self {i : Nat} {s : Sl} (h : i < env.length) : (env.set i s)[i]? = some s := List.getElem?_set_self h
def bare : Sl → Bool
  | .un => true
  | .val _ => true
  | .exc _ => true
  | _ => false
theorem held_bare {i j : Nat} {s : Sl} (hs : bare s = true) {x : Ho} (h : held (env.set i s) j = some x) : j ≠ i ∧ held env j = some x := by
  by_cases e : i = j
  · subst e
    have hl := held_lt h
    rw [List.length_set] at hl
    rcases held_iff.mp h with q | q <;> (rw [List.getElem?_set_self hl] at q; cases q; cases hs)
  · rw [held_set_ne e] at h
    exact ⟨fun z => e z.symm, h⟩
theorem held_set_val {i j : Nat} {d : D} {x : Ho} (h : held (env.set i (.val d)) j = some x) : j ≠ i ∧ held env j = some x := held_bare (s := .val d) rfl h
theorem own_sub (h : ∀ j x, held env' j = some x → held env j = some x) {p : Addr} (o : Own K fa F H σ env' p) : Own K fa F H σ env p := by
  obtain ⟨i, x, v, fp, h1, h2⟩ := o
  exact ⟨i, x, v, fp, h i x h1, h2⟩
theorem exc_set {i : Nat} {s : Sl} (o : Ok K fa F H σ env) (hs : ∀ x, s ≠ .exc x) : ∀ (j : Nat) (x : Xc), (env.set i s)[j]? = some (Sl.exc x) → ∃ a, σ[j]? = some (some (.ref a)) ∧ fa.ex a x F := fun j x e => by
  by_cases e2 : i = j
  · subst e2
    have hl : i < env.length := by have := (List.getElem?_eq_some_iff.mp e).1; rwa [List.length_set] at this
    rw [get_set_self hl] at e
    exact absurd (Option.some.inj e) (hs x)
  · rw [List.getElem?_set_ne e2] at e
    exact o.exc j x e
/-- a name is dropped -/
theorem Ok.drop (o : Ok K fa F H σ env) (i : Nat) : Ok K fa F H σ (env.set i .un) := by
  refine ⟨exc_set o (fun x z => by cases z), by rw [List.length_set]; exact o.len, o.sub, fun j d e => ?_, fun j x e => o.own j x (held_bare (s := .un) rfl e).2, fun j k x y v w fp fq ne hx hy => o.dis j k x y v w fp fq ne (held_bare (s := .un) rfl hx).2 (held_bare (s := .un) rfl hy).2, o.tabs⟩
  by_cases e2 : i = j
  · subst e2
    have hl : i < env.length := by have := (List.getElem?_eq_some_iff.mp e).1; rwa [List.length_set] at this
    rw [get_set_self hl] at e; cases e
  · rw [List.getElem?_set_ne e2] at e
    exact o.val j d e
theorem own_drop {i : Nat} {p : Addr} (h : Own K fa F H σ (env.set i .un) p) : Own K fa F H σ env p := own_sub (fun j x e => (held_bare (s := .un) rfl e).2) h
theorem Ok.setVal {i : Nat} {v : V} {d : D} (o : Ok K fa F H σ env) (hi : i < env.length) (hv : σ[i]? = some (some v)) (r : Rep K fa F v d) : Ok K fa F H σ (env.set i (.val d)) := by
  refine ⟨exc_set o (fun x z => by cases z), by rw [List.length_set]; exact o.len, o.sub, fun j d' e => ?_, fun j x e => o.own j x (held_set_val e).2, fun j k x y v w fp fq ne hx hy => o.dis j k x y v w fp fq ne (held_set_val hx).2 (held_set_val hy).2, o.tabs⟩
  by_cases e2 : i = j
  · subst e2
    rw [get_set_self hi] at e
    cases e
    exact ⟨v, hv, r⟩
  · rw [List.getElem?_set_ne e2] at e
    exact o.val j d' e
/-- a name that holds nothing has another value below -/
theorem Ok.setSt {i : Nat} {w : Option V} (o : Ok K fa F H σ env) (h : env[i]? = some .un) : Ok K fa F H (σ.set i w) env := by
  have nh : ∀ j x, held env j = some x → i ≠ j := fun j x e z => by
    subst z
    rcases held_iff.mp e with q | q <;> (rw [h] at q; cases q)
  refine ⟨fun j x e => ?_, by rw [List.length_set]; exact o.len, o.sub, fun j d e => ?_, fun j x e => ?_, fun j k x y v w' fp fq ne hx hy hv hw => ?_, o.tabs⟩
  · have : i ≠ j := fun z => by subst z; rw [h] at e; cases e
    rw [List.getElem?_set_ne this]
    exact o.exc j x e
  · have : i ≠ j := fun z => by subst z; rw [h] at e; cases e
    rw [List.getElem?_set_ne this]
    exact o.val j d e
  · rw [List.getElem?_set_ne (nh j x e)]
    exact o.own j x e
  · rw [List.getElem?_set_ne (nh j x hx)] at hv
    rw [List.getElem?_set_ne (nh k y hy)] at hw
    exact o.dis j k x y v w' fp fq ne hx hy hv hw
theorem own_setSt {i : Nat} {w : Option V} {p : Addr} (h : env[i]? = some .un) (q : Own K fa F H (σ.set i w) env p) : Own K fa F H σ env p := by
  obtain ⟨j, x, v, fp, h1, h2, h3⟩ := q
  have : i ≠ j := fun z => by
    subst z
    rcases held_iff.mp h1 with q | q <;> (rw [h] at q; cases q)
  rw [List.getElem?_set_ne this] at h2
  exact ⟨j, x, v, fp, h1, h2, h3⟩
def isHold (s : Sl) (x : Ho) : Prop := s = .own x ∨ s = .io x
theorem held_self {i : Nat} {s : Sl} {x : Ho} (hi : i < env.length) (hs : isHold s x) : held (env.set i s) i = some x := by
  rcases hs with rfl | rfl
  · exact held_iff.mpr (.inl (get_set_self hi))
  · exact held_iff.mpr (.inr (get_set_self hi))
/-- a name gets a thing of its own -/
theorem Ok.setOwn {i : Nat} {v : V} {x : Ho} {fp : List Addr} {s : Sl} (o : Ok K fa F H σ env) (hs : isHold s x) (hi : env[i]? = some .un) (hv : σ[i]? = some (some v)) (r : RepO K fa F H v x fp) (n : ∀ p ∈ fp, ¬ Own K fa F H σ env p) : Ok K fa F H σ (env.set i s) := by
  have hl : i < env.length := (List.getElem?_eq_some_iff.mp hi).1
  have self : ∀ y, held (env.set i s) i = some y → y = x := fun y e => by rw [held_self hl hs] at e; cases e; rfl
  refine ⟨exc_set o (fun x z => by rcases hs with rfl | rfl <;> cases z), by rw [List.length_set]; exact o.len, o.sub, fun j d e => ?_, fun j y e => ?_, fun j k y z u w fq fr ne hy hz hu hw ry rz => ?_, o.tabs⟩
  · by_cases e2 : i = j
    · subst e2
      rw [get_set_self hl] at e
      rcases hs with rfl | rfl <;> cases e
    · rw [List.getElem?_set_ne e2] at e
      exact o.val j d e
  · by_cases e2 : i = j
    · subst e2
      rw [self y e]
      exact ⟨v, fp, hv, r⟩
    · rw [held_set_ne e2] at e
      exact o.own j y e
  · by_cases ej : i = j
    · subst ej
      rw [self y hy] at ry
      rw [hv] at hu
      cases hu
      rw [held_set_ne ne] at hz
      rw [ry.uniq r]
      exact fun a m m2 => n a m ⟨k, z, w, fr, hz, hw, rz, m2⟩
    · rw [held_set_ne ej] at hy
      by_cases ek : i = k
      · subst ek
        rw [self z hz] at rz
        rw [hv] at hw
        cases hw
        rw [rz.uniq r]
        exact fun a m m2 => n a m2 ⟨j, y, u, fq, hy, hu, ry, m⟩
      · rw [held_set_ne ek] at hz
        exact o.dis j k y z u w fq fr ne hy hz hu hw ry rz
theorem own_setOwn {i : Nat} {v : V} {x : Ho} {fp : List Addr} {s : Sl} {p : Addr} (hs : isHold s x) (hl : i < env.length) (hv : σ[i]? = some (some v)) (r : RepO K fa F H v x fp) (q : Own K fa F H σ (env.set i s) p) : p ∈ fp ∨ Own K fa F H σ env p := by
  obtain ⟨j, y, u, fq, h1, h2, h3, h4⟩ := q
  by_cases ej : i = j
  · subst ej
    rw [held_self hl hs] at h1
    cases h1
    rw [hv] at h2
    cases h2
    rw [h3.uniq r] at h4
    exact .inl h4
  · rw [held_set_ne ej] at h1
    exact .inr ⟨j, y, u, fq, h1, h2, h3, h4⟩
theorem Ok.apart {i j : Nat} {x y : Ho} {v w : V} {fp fq : List Addr} (o : Ok K fa F H σ env) (hx : held env i = some x) (hv : σ[i]? = some (some v)) (r : RepO K fa F H v x fp) {p : Addr} (q : Own K fa F H σ (env.set i .un) p) : p ∉ fp := by
  obtain ⟨k, z, u, fr, h1, h2, h3, h4⟩ := q
  obtain ⟨ne, h1'⟩ := held_bare (s := .un) rfl h1
  exact fun m => o.dis k i z x u v fr fp ne h1' hx h2 hv h3 r p h4 m
/-- a name's thing becomes a value -/
theorem Step.freezeSlot {i : Nat} {x : Ho} (o : Ok K fa F H σ env) (h : env[i]? = some (.own x)) :
    ∃ v G, σ[i]? = some (some v) ∧ Step K fa F H σ env G H σ (env.set i (.val (toD x))) ∧ Rep K fa G v (toD x) := by
  have hh : held env i = some x := held_iff.mpr (.inl h)
  obtain ⟨v, fp, h1, h2⟩ := o.own i x hh
  have hi : i < env.length := (List.getElem?_eq_some_iff.mp h).1
  have sF : Same F (iced F H fp) := same_iced fun p m => (h2.there p m).1
  have rp : Rep K fa (iced F H fp) v (toD x) := h2.ice sF fun q m => iced_in m
  have c : Calm K fa F H (iced F H fp) H σ (env.set i .un) := fun p hp => ⟨rfl, by
    rw [iced_out (o.apart (x := x) (y := x) (w := v) (fq := fp) (j := i) hh h1 h2 hp)]
    exact (DI.own_at hp).1⟩
  have o0 := o.drop i
  have o1 : Ok K fa (iced F H fp) H σ (env.set i .un) := o0.more sF (iced_same o.sub) c (tabs_ice o.tabs h2)
  have o2 := o1.setVal (i := i) (by rw [List.length_set]; exact hi) h1 rp
  rw [List.set_set] at o2
  have on : ∀ p ∈ fp, Own K fa F H σ env p := fun p m => ⟨i, x, v, fp, hh, h1, h2, m⟩
  refine ⟨v, _, h1, ⟨sF, fun _ _ e _ => .of e, fun a _ hf hn => ?_, o2, fun p hp => .inl ?_, fun j y e => ?_⟩, rp⟩
  · rw [iced_out fun m => hn (on a m)]; exact hf
  · have hp' : Own K fa (iced F H fp) H σ (env.set i .un) p := by
      obtain ⟨k, z, u, fr, q1, q2⟩ := hp
      obtain ⟨ne, q1'⟩ := held_set_val q1
      exact ⟨k, z, u, fr, by rw [held_set_ne (Ne.symm ne)]; exact q1', q2⟩
    exact own_drop (o0.ownsame sF c hp')
  · have : i ≠ j := fun z => by subst z; rw [h] at e; cases e
    exact ⟨rfl, y, by rw [List.getElem?_set_ne this]; exact e⟩
theorem free_not {s : Nat} (h : free env s = true) : s < env.length ∧ ∀ x, env[s]? ≠ some (.io x) := by
  unfold free at h
  cases e : env[s]? with
  | none => rw [e] at h; cases h
  | some z =>
    refine ⟨(List.getElem?_eq_some_iff.mp e).1, fun x q => ?_⟩
    cases q
    rw [e] at h; cases h
/-- name = result -/
theorem Step.assign {v : V} {r : R} {s : Nat} (a : Step K fa F H σ env F1 H1 σ1 e1) (rr : RRep K fa F H σ env F1 H1 σ1 e1 v r) (hf : free e1 s = true) :
    Step K fa F H σ env F1 H1 (σ1.set s (some v)) (e1.set s (asSl r)) := by
  obtain ⟨hs, nio⟩ := free_not hf
  have hs' : s < σ1.length := by rw [a.ok.len]; exact hs
  have hv : (σ1.set s (some v))[s]? = some (some v) := List.getElem?_set_self hs'
  have un : (e1.set s .un)[s]? = some .un := get_set_self hs
  have o1 : Ok K fa F1 H1 (σ1.set s (some v)) (e1.set s .un) := (a.ok.drop s).setSt un
  have io' : ∀ (w : Sl) (j : Nat) (x : Ho), env[j]? = some (Sl.io x) → (σ1.set s (some v))[j]? = σ[j]? ∧ ∃ y : Ho, (e1.set s w)[j]? = some (Sl.io y) := fun w j x e => by
    obtain ⟨q1, y, q2⟩ := a.io j x e
    have : s ≠ j := fun z => by subst z; exact nio _ q2
    exact ⟨by rw [List.getElem?_set_ne this]; exact q1, y, by rw [List.getElem?_set_ne this]; exact q2⟩
  cases r with
  | val d =>
    have o2 := o1.setVal (i := s) (by rw [List.length_set]; exact hs) hv rr
    rw [List.set_set] at o2
    refine ⟨a.sub, a.keep, a.stay, o2, fun p hp => a.own p ?_, io' _⟩
    obtain ⟨k, z, u, fr, q1, q2, q3⟩ := hp
    obtain ⟨ne, q1'⟩ := held_set_val q1
    rw [List.getElem?_set_ne (Ne.symm ne)] at q2
    exact ⟨k, z, u, fr, q1', q2, q3⟩
  | new x =>
    obtain ⟨fp, r1, r2, r3⟩ := rr
    have n : ∀ p ∈ fp, ¬ Own K fa F1 H1 (σ1.set s (some v)) (e1.set s .un) p := fun p m q => r3 p m (own_drop (own_setSt un q))
    have o2 := o1.setOwn (i := s) (s := .own x) (.inl rfl) un hv r1 n
    rw [List.set_set] at o2
    refine ⟨a.sub, a.keep, a.stay, o2, fun p hp => ?_, io' _⟩
    have hp' : Own K fa F1 H1 (σ1.set s (some v)) ((e1.set s .un).set s (.own x)) p := by rw [List.set_set]; exact hp
    rcases own_setOwn (.inl rfl) (by rw [List.length_set]; exact hs) hv r1 hp' with m | q
    · exact r2 p m
    · exact a.own p (own_drop (own_setSt un q))
theorem hold_eq {i : Nat} {x y : Ho} (h : held env i = some x) : ∃ s, hold env i y = env.set i s ∧ isHold s y ∧ ∀ z, env[i]? = some (.io z) → s = .io y := by
  unfold hold
  rcases held_iff.mp h with e | e
  · rw [e]
    exact ⟨_, rfl, .inl rfl, fun z q => by cases q⟩
  · rw [e]
    exact ⟨_, rfl, .inr rfl, fun z q => rfl⟩
/-- the thing at a name is another one now; else all is kept, what is new may be frozen -/
theorem Step.hold {i : Nat} {x y : Ho} {v : V} {fp fq : List Addr} (o : Ok K fa F H σ env) (h : held env i = some x) (hv : σ[i]? = some (some v)) (r : RepO K fa F H v x fp) (sF : Same F F') (sub : SL F' H')
    (keep : ∀ a u, H a = some u → a ∉ fp → Kept (F a ≠ none) H' a u) (stay : ∀ a, H a ≠ none → F a = none → a ∉ fp → F' a = none) (r' : RepO K fa F' H' v y fq) (fr : ∀ a ∈ fq, a ∈ fp ∨ H a = none) (tb : Tb fa.tb F' H') :
    Step K fa F H σ env F' H' σ (DI.hold env i y) := by
  obtain ⟨s, e0, hs, hio⟩ := hold_eq (y := y) h
  have hi := held_lt h
  have un : (env.set i .un)[i]? = some .un := get_set_self hi
  have c : Calm K fa F H F' H' σ (env.set i .un) := fun p hp => by
    have np : p ∉ fp := o.apart (x := x) (y := x) (w := v) (fq := fp) (j := i) h hv r hp
    obtain ⟨u, e, nt⟩ := own_nt hp
    exact ⟨by rw [e]; exact (keep p u e np).n nt fun z => z (DI.own_at hp).1, stay p (by rw [e]; simp) (DI.own_at hp).1 np⟩
  have o0 := o.drop i
  have o1 : Ok K fa F' H' σ (env.set i .un) := o0.more sF sub c tb
  have n : ∀ p ∈ fq, ¬ Own K fa F' H' σ (env.set i .un) p := fun p m q => by
    have q' := o0.ownsame sF c q
    rcases fr p m with z | z
    · exact o.apart (x := x) (y := x) (w := v) (fq := fp) (j := i) h hv r q' z
    · obtain ⟨_, u, e⟩ := DI.own_at q'
      rw [e] at z; cases z
  have o2 := o1.setOwn (i := i) hs un hv r' n
  rw [List.set_set] at o2
  rw [e0]
  have on : ∀ p ∈ fp, Own K fa F H σ env p := fun p m => ⟨i, x, v, fp, h, hv, r, m⟩
  refine ⟨sF, fun a u e n => keep a u e fun m => n (on a m), fun a h1 h2 n => stay a h1 h2 fun m => n (on a m), o2, fun p hp => ?_, fun j z e => ?_⟩
  · have hp' : Own K fa F' H' σ ((env.set i .un).set i s) p := by rw [List.set_set]; exact hp
    rcases own_setOwn hs (by rw [List.length_set]; exact hi) hv r' hp' with m | q
    · rcases fr p m with z | z
      · exact .inl (on p z)
      · exact .inr z
    · exact .inl (own_drop (o0.ownsame sF c q))
  · by_cases ej : i = j
    · subst ej
      exact ⟨rfl, y, by rw [get_set_self hi, hio z e]⟩
    · exact ⟨rfl, z, by rw [List.getElem?_set_ne ej]; exact e⟩

/-- what is owned then: the new thing, or what other names had -/
theorem hold_own {i : Nat} {x y : Ho} {v : V} {fp fq : List Addr} (o : Ok K fa F H σ env) (h : held env i = some x) (hv : σ[i]? = some (some v)) (r : RepO K fa F H v x fp) (sF : Same F F')
    (keep : ∀ a u, H a = some u → a ∉ fp → Kept (F a ≠ none) H' a u) (stay : ∀ a, H a ≠ none → F a = none → a ∉ fp → F' a = none) (r' : RepO K fa F' H' v y fq) {p : Addr} (q : Own K fa F' H' σ (DI.hold env i y) p) : p ∈ fq ∨ (p ∉ fp ∧ Own K fa F H σ env p) := by
  obtain ⟨s, e0, hs, _⟩ := hold_eq (y := y) h
  have hi := held_lt h
  have c : Calm K fa F H F' H' σ (env.set i .un) := fun p hp => by
    have np : p ∉ fp := o.apart (x := x) (y := x) (w := v) (fq := fp) (j := i) h hv r hp
    obtain ⟨u, e, nt⟩ := own_nt hp
    exact ⟨by rw [e]; exact (keep p u e np).n nt fun z => z (DI.own_at hp).1, stay p (by rw [e]; simp) (DI.own_at hp).1 np⟩
  have hp' : Own K fa F' H' σ ((env.set i .un).set i s) p := by rw [List.set_set, ← e0]; exact q
  rcases own_setOwn hs (by rw [List.length_set]; exact hi) hv r' hp' with m | z
  · exact .inl m
  · have z' := (o.drop i).ownsame sF c z
    exact .inr ⟨o.apart (x := x) (y := x) (w := v) (fq := fp) (j := i) h hv r z', own_drop z'⟩

/-! ### look1 -/
theorem look_rep {i : Nat} {d : D} (o : Ok K fa F H σ env) (h : look1 env i = some d) :
    ∃ v F', σ[i]? = some (some v) ∧ Same F F' ∧ SL F' H ∧ Rep K fa F' v d := by
  unfold look1 at h
  cases e : env[i]? with
  | none => rw [e] at h; cases h
  | some s =>
    rw [e] at h
    have ownc : ∀ x, held env i = some x → d = toD x → ∃ v F', σ[i]? = some (some v) ∧ Same F F' ∧ SL F' H ∧ Rep K fa F' v d := fun x hh hd => by
      subst hd
      obtain ⟨v, fp, h1, h2⟩ := o.own i x hh
      have sF : Same F (iced F H fp) := same_iced fun p m => (h2.there p m).1
      exact ⟨v, _, h1, sF, iced_same o.sub, h2.ice sF fun q m => iced_in m⟩
    cases s with
    | un => cases h
    | val d' =>
      cases h
      obtain ⟨v, h1, h2⟩ := o.val i _ e
      exact ⟨v, F, h1, Same.refl _, o.sub, h2⟩
    | own x => cases h; exact ownc x (held_iff.mpr (.inl e)) rfl
    | io x => cases h; exact ownc x (held_iff.mpr (.inr e)) rfl
    | exc x => cases h
end
end DI

namespace DI
open PySem L2

/-! ### the denotation's equations -/
section
variable {cf : CF} {a b c : I} {as : Is} {ta tb tc : T}
theorem eI_op (o : Op) (as : Is) : eI cf (.op o as) = opF o (eIs cf as) := rfl
theorem eIs_nil : eIs cf .nil = fun env => some (.ok [], env) := rfl
theorem eIs_cons (a : I) (as : Is) : eIs cf (.cons a as) = consD (asV (eI cf a)) (eIs cf as) := by
  funext env
  show bnd (eI cf a env) _ = bnd (bnd (eI cf a env) _) _
  cases eI cf a env with
  | none => rfl
  | some oe =>
    obtain ⟨o, e⟩ := oe
    cases o <;> rfl
theorem eIs_two (a b : I) : eIs cf (.cons a (.cons b .nil)) = two (asV (eI cf a)) (asV (eI cf b)) := by rw [eIs_cons, eIs_cons, eIs_nil]; rfl
theorem eIs_one (a : I) : eIs cf (.cons a .nil) = one (asV (eI cf a)) := by rw [eIs_cons, eIs_nil]; rfl
theorem eI_andb : eI cf (.andb a b) = fun env => bnd (eI cf a env) fun r e1 => match r with
    | .val (.bl k) => if k then eI cf b e1 else some (.ok (.val (.bl false)), e1)
    | _ => none := rfl
theorem eI_orb : eI cf (.orb a b) = fun env => bnd (eI cf a env) fun r e1 => match r with
    | .val (.bl k) => if k then some (.ok (.val (.bl true)), e1) else eI cf b e1
    | _ => none := rfl
theorem eI_notb : eI cf (.notb a) = fun env => bnd (eI cf a env) fun r e1 => match r with
    | .val (.bl b) => some (.ok (.val (.bl (!b))), e1)
    | _ => none := rfl
theorem eI_ife : eI cf (.ife tc a b) = fun env => bnd (eT cf tc env) fun k e1 => if k then eI cf a e1 else eI cf b e1 := rfl
theorem eI_chain {o p : Op} : eI cf (.chain o p a b c) = fun env => bnd (eI cf a env) fun x e1 => bnd (eI cf b e1) fun y e2 => match opD o [x.d, y.d] with
    | some (.val (.bl k)) => if k then bnd (eI cf c e2) fun z e3 => okR (opD p [y.d, z.d]) e3 else some (.ok (.val (.bl false)), e2)
    | _ => none := rfl
theorem eT_val : eT cf (.val a) = fun env => bnd (eI cf a env) fun r e1 => okR (truth r.d) e1 := rfl
theorem eT_not : eT cf (.not ta) = fun env => bnd (eT cf ta env) fun b e1 => some (.ok (!b), e1) := rfl
theorem eT_and : eT cf (.and ta tb) = fun env => bnd (eT cf ta env) fun k e1 => if k then eT cf tb e1 else some (.ok false, e1) := rfl
theorem eT_or : eT cf (.or ta tb) = fun env => bnd (eT cf ta env) fun k e1 => if k then some (.ok true, e1) else eT cf tb e1 := rfl
theorem eT_ife : eT cf (.ife tc ta tb) = fun env => bnd (eT cf tc env) fun k e1 => if k then eT cf ta e1 else eT cf tb e1 := rfl
end

section
variable {X : Cx} {fa : Fa} {cf : CF} {pos : Pos}
abbrev PI' (X : Cx) (fa : Fa) (cf : CF) (e : Expr) (i : I) : Prop := PE X e (tI X.K fa (eI cf i))
abbrev PIs' (X : Cx) (fa : Fa) (cf : CF) (es : List Expr) (i : Is) : Prop := PA X es (tVs X.K fa (eIs cf i))
abbrev PT' (X : Cx) (fa : Fa) (cf : CF) (e : Expr) (t : T) : Prop := PT X e (tB X.K fa (eT cf t))

/-! ### constants and names -/
theorem s_c {v : V} {d : D} {e : Expr} (h : PE X e (tC v)) (r : Rep X.K fa (fun _ => none) v d) : PI' X fa cf e (.con d) := pe_weak h fun σ H Q ⟨F, env, q⟩ =>
  q.ret (a := .val d) rfl (Step.refl q.ok) (Rep.mono (fun _ _ z => by cases z) r)
theorem s_int {i : Int} {j : Nat} : PI' X fa cf (.Constant (.int i) j pos) (.con (.int i)) := s_c pe_int (.int i)
theorem s_bl {i : Bool} {j : Nat} : PI' X fa cf (.Constant (.bool i) j pos) (.con (.bl i)) := s_c pe_bl (.bl i)
theorem s_non {j : Nat} : PI' X fa cf (.Constant .none j pos) (.con .non) := s_c pe_non .non
theorem s_str {x : Str} {j : Nat} : PI' X fa cf (.Constant (.str x) j pos) (.con (.str x.cps.toList)) := s_c pe_str rep_sOf
theorem var_D {i : Nat} {σ : L2.St} {H : Hp} {Q : VK} (q : tI X.K fa (eI cf (.var i)) σ H Q) : tVar i σ H Q := by
  obtain ⟨F, env, q⟩ := q
  have q' : At X.K fa (RRep X.K fa) (fun env => match rdV env i with
    | some (d, e) => some (.ok (.val d), e)
    | none => none) F H σ env Q := q
  cases e1 : env[i]? with
  | none => exact (q'.no (by simp only [rdV, e1])).elim
  | some s =>
    cases s with
    | un => exact (q'.no (by simp only [rdV, e1])).elim
    | io xs => exact (q'.no (by simp only [rdV, e1])).elim
    | exc xs => exact (q'.no (by simp only [rdV, e1])).elim
    | val d =>
      obtain ⟨v, h1, h2⟩ := q.ok.val i d e1
      exact ⟨v, h1, q'.ret (a := .val d) (by simp only [rdV, e1]) (Step.refl q.ok) h2⟩
    | own xs =>
      obtain ⟨p, vs, h1, st, rp⟩ := Step.freezeSlot q.ok e1
      exact ⟨_, h1, q'.ret (a := .val (toD xs)) (by simp only [rdV, e1]) st rp⟩
theorem s_var {i : Nat} {x : Str} (hN : X.N[i]? = some x) (hv : Vis X.env.scope x) (hd : (x == ("__debug__" : Str)) = false) (hcd : (x == ("__classdict__" : Str)) = false) : PI' X fa cf (.Name x pos) (.var i) :=
  pe_weak (pe_var hN hv hd hcd) fun σ H Q q => var_D q

/-! ### operators -/
variable {a b c : Expr} {ia ib ic : I}
theorem s_op2 {op : Operator} {o : Op} {r : R2} (hr : OpR X (binaryOp op) r) (ho : OpOk X.K fa o (r2 r)) (ha : PI' X fa cf a ia) (hb : PI' X fa cf b ib) : PI' X fa cf (.BinOp a op b pos) (.op o (.cons ia (.cons ib .nil))) := by
  show PE X _ (tI X.K fa (eI cf _))
  rw [eI_op, eIs_two]
  exact pe_opD hr ho (pe_asV ha) (pe_asV hb)
theorem s_un {op : UnaryOp} {o : Op} {r : V → Hp → VK → Prop} (hr : UnR X (unaryOp op) r) (ho : OpOk X.K fa o (r1 r)) (ha : PI' X fa cf a ia) : PI' X fa cf (.UnaryOp op a pos) (.op o (.cons ia .nil)) := by
  show PE X _ (tI X.K fa (eI cf _))
  rw [eI_op, eIs_one]
  exact pe_unD hr ho (pe_asV ha)
theorem s_cmp {op : CmpOp} {o : Op} {r : R2} (hr : OpR X (compareOp op) r) (ho : OpOk X.K fa o (r2 r)) (ha : PI' X fa cf a ia) (hb : PI' X fa cf b ib) (hm : behindInMarks op b = false) : PI' X fa cf (.Compare a [op] [b] pos) (.op o (.cons ia (.cons ib .nil))) := by
  show PE X _ (tI X.K fa (eI cf _))
  rw [eI_op, eIs_two]
  exact pe_cmpD hr ho (pe_asV ha) (pe_asV hb) hm
theorem s_item (hu : X.A.units + 64 < cLine) (ha : PI' X fa cf a ia) (hb : PI' X fa cf b ib) (hs : PlainIx b) : PI' X fa cf (.Subscript a b pos) (.op .item (.cons ia (.cons ib .nil))) := by
  show PE X _ (tI X.K fa (eI cf _))
  rw [eI_op, eIs_two]
  exact pe_weak (pe_ix (ixr_item hu) (pe_asV ha) (pe_asV hb) hs) fun _ _ _ q => tOp_D ok_item q

/-! ### argument lists, displays, calls of built-ins -/
variable {es : List Expr} {is : Is} {e : Expr}
theorem s_nil : PIs' X fa cf [] .nil := by
  show PA X _ (tVs X.K fa (eIs cf _))
  rw [eIs_nil]
  exact pa_nilD
theorem s_cons (ha : PI' X fa cf e ia) (hr : PIs' X fa cf es is) (hs : starEach (e :: es) X.env = (false, eval e X.env) :: starEach es X.env) : PIs' X fa cf (e :: es) (.cons ia is) := by
  show PA X _ (tVs X.K fa (eIs cf _))
  rw [eIs_cons]
  exact pa_consD (pe_asV ha) hr hs
theorem s_tup {k : Nat} (h : PIs' X fa cf es is) : PI' X fa cf (.Tuple es k pos) (.op .tup is) := by
  show PE X _ (tI X.K fa (eI cf _))
  rw [eI_op]
  exact pe_weak (pe_tup h) fun _ _ _ q => op_by ok_tup q
theorem s_lst (h : PIs' X fa cf es is) : PI' X fa cf (.List es pos) (.op .list is) := by
  show PE X _ (tI X.K fa (eI cf _))
  rw [eI_op]
  exact pe_weak (pe_lst h) fun _ _ _ q => op_by ok_list q
theorem s_callB {x : Str} {p : Pos} {id : String} {o : Op} {r : List V → Hp → VK → Prop} (hc : CallR X (.builtin id) r) (ho : OpOk X.K fa o r) (hg : Gl X x) (hm : X.mg x = none) (hv : bootBuiltins x = some (.builtin id)) (h : PIs' X fa cf (e :: es) is) (hn : x ≠ "__name__") (hdb : (x == ("__debug__" : Str)) = false)
    (he : starEach (e :: es) X.env = (false, eval e X.env) :: starEach es X.env) (hpl : (backTo pos (starEach es X.env)).any (·.1) = false) : PI' X fa cf (.Call (.Name x p) (e :: es) [] pos) (.op o is) := by
  show PE X _ (tI X.K fa (eI cf _))
  rw [eI_op]
  exact pe_weak (pe_callB hc hg hm hv h hn hdb he hpl) fun _ _ _ q => op_by ho q
theorem s_callTy {x : Str} {p : Pos} {id : String} {o : Op} {r : List V → Hp → VK → Prop} (hc : CallR X (.type id) r) (ho : OpOk X.K fa o r) (hg : Gl X x) (hm : X.mg x = none) (hv : bootBuiltins x = some (.type id)) (h : PIs' X fa cf (e :: es) is) (hn : x ≠ "__name__") (hdb : (x == ("__debug__" : Str)) = false)
    (he : starEach (e :: es) X.env = (false, eval e X.env) :: starEach es X.env) (hpl : (backTo pos (starEach es X.env)).any (·.1) = false) : PI' X fa cf (.Call (.Name x p) (e :: es) [] pos) (.op o is) := by
  show PE X _ (tI X.K fa (eI cf _))
  rw [eI_op]
  exact pe_weak (pe_callTy hc hg hm hv h hn hdb he hpl) fun _ _ _ q => op_by ho q
/-- isinstance(e, T), T a built-in class -/
theorem s_isi {t : Str} {T : String} {p p2 : Pos} (hg : Gl X "isinstance") (hm : X.mg "isinstance" = none) (hgt : Gl X t) (hmt : X.mg t = none) (hvt : bootBuiltins t = some (.type T)) (hnt : t ≠ "__name__") (hdt : (t == ("__debug__" : Str)) = false) (h : PI' X fa cf e ia)
    (he : starEach [e, .Name t p2] X.env = (false, eval e X.env) :: starEach [.Name t p2] X.env) (hpl : (backTo pos (starEach [.Name t p2] X.env)).any (·.1) = false) : PI' X fa cf (.Call (.Name "isinstance" p) [e, .Name t p2] [] pos) (.op (.isi T) (.cons ia .nil)) := by
  show PE X _ (tI X.K fa (eI cf _))
  rw [eI_op, eIs_one]
  have hA : PA X [e, .Name t p2] (tCons (tV X.K fa (asV (eI cf ia))) (tCons (tC (.ty T)) tNil)) := pa_cons (pe_asV h) (pa_cons (pe_bltn hgt hmt hvt (show RelV (.ty T) (.type T) from rfl) hnt hdt) pa_nil) he
  refine pe_weak (pe_callB call_isi hg hm (by decide +kernel) hA (by decide +kernel) (by decide +kernel) he hpl) fun σ H Q q => ?_
  exact tV_mono (one_D (op_by ok_isi q)) fun x H1 ⟨y, ey, z⟩ => by cases ey; exact z
theorem asV_bnd' {γ : Type} {d : D} {g : D → Ev → Res γ} {env : Ev} : bnd (asV (eI cf (.con d)) env) g = g d env := rfl
theorem two_con {o : Op} {d : D} {g : Ev → Res D} {env : Ev} : opF o (two (asV (eI cf (.con d))) g) env = bnd (g env) fun d' e => okR (opD o [d, d']) e := by
  unfold opF two consD
  rw [asV_bnd']
  show bnd (bnd (bnd (g env) _) _) _ = _
  cases g env with
  | none => rfl
  | some oe =>
    obtain ⟨o, e⟩ := oe
    cases o <;> rfl
/-- sep.join(e), sep written -/
theorem s_join {apos p0 : Pos} {j0 : Nat} {sep : Str} (hb : PI' X fa cf b ib) (hs : starEach [b] X.env = [(false, eval b X.env)]) (hbase : attributeBase (.Constant (.str sep) j0 p0) "join" X.env (eval (.Constant (.str sep) j0 p0) X.env) = eval (.Constant (.str sep) j0 p0) X.env) (hline : (apos.endLine == pos.line) = true) :
    PI' X fa cf (.Call (.Attribute (.Constant (.str sep) j0 p0) "join" apos) [b] [] pos) (.op .join (.cons (.con (.str sep.cps.toList)) (.cons ib .nil))) := by
  show PE X _ (tI X.K fa (eI cf _))
  rw [eI_op, eIs_two]
  refine pe_weak (pe_join pe_str (pe_asV hb) hs hbase hline) fun σ H Q q => ?_
  refine ⟨⟨_, rfl⟩, ?_⟩
  obtain ⟨F, env, h⟩ := q
  refine ⟨F, env, At.bnd (Rl := vRep X.K fa) (m := asV (eI cf ib)) (g := fun d e => okR (opD .join [.str sep.cps.toList, d]) e) (h.cast ?_) fun d e1 F1 H1 v s1 r1 h1 => ?_⟩
  · exact two_con.symm
  · have h2 : r2 (rJoinA X.K) [.str sep, v] H1 Q := op_at ok_join (.cons rep_sOf (.cons r1 .nil)) h1
    obtain ⟨x, y, exy, hr⟩ := h2
    cases exy
    obtain ⟨a, p, ys, h1, h2, h3, h4, h5⟩ := hr
    exact ⟨a, p, ys, h1, by rw [h2], h3, h4, h5⟩
theorem s_upper {apos : Pos} (ha : PI' X fa cf a ia) (hbase : attributeBase a "upper" X.env (eval a X.env) = eval a X.env) (hline : (apos.endLine == pos.line) = true) : PI' X fa cf (.Call (.Attribute a "upper" apos) [] [] pos) (.op .upper (.cons ia .nil)) := by
  show PE X _ (tI X.K fa (eI cf _))
  rw [eI_op, eIs_one]
  refine pe_weak (pe_upper (pe_asV ha) hbase hline) fun σ H Q q => ?_
  exact tV_mono (one_D (op_by ok_upper q)) fun x H1 ⟨y, ey, a, h1, h2, h3⟩ => by cases ey; exact ⟨⟨a, h1⟩, a, h1, rfl, h2, h3⟩
/-! ### slices -/
def oRep : RlT (Option Int) (Option Int) := fun _ _ _ _ _ _ _ _ b' b => b' = b
instance : Lif X.K fa oRep := ⟨fun _ h => h⟩
def tO (K : PySem.W.Frag) (fa : Fa) (f : Ev → Res (Option Int)) : TO := fun σ H Q => ∃ F env, At K fa oRep f F H σ env Q
theorem po_weak {e : Option Expr} {t t' : TO} (h : PO X e t) (w : ∀ σ H Q, t' σ H Q → t σ H Q) : PO X e t' := ⟨fun pins s σ H Q I q => h.run pins s σ H Q I (w σ H Q q)⟩
theorem s_o0 : PO X none (tO X.K fa (eO cf .none)) := po_weak po_none fun σ H Q ⟨F, env, h⟩ => h.ret (a := none) rfl (Step.refl h.ok) rfl
theorem s_o1 (ha : PI' X fa cf a ia) : PO X (some a) (tO X.K fa (eO cf (.some ia))) := po_weak (po_some ha) fun σ H Q ⟨F, env, h⟩ =>
  ⟨F, env, At.bnd (Rl := RRep X.K fa) (m := eI cf ia) (g := fun r e1 => match r with
    | .val (.int i) => some (.ok (some i), e1)
    | _ => none) h fun r e1 F1 H1 v s1 r1 h1 => by
      cases r with
      | new x => exact (h1.no rfl).elim
      | val d =>
        cases d with
        | int i => exact ⟨i, Rep.int_of r1, h1.ret (a := some i) rfl (Step.refl h1.ok) rfl⟩
        | _ => exact (h1.no rfl).elim⟩
/-- a[lo:hi] -/
theorem s_cut {lo hi : Option Expr} {il ih : Io} {p2 : Pos} (ha : PI' X fa cf a ia) (hl : PO X lo (tO X.K fa (eO cf il))) (hh : PO X hi (tO X.K fa (eO cf ih))) : PI' X fa cf (.Subscript a (.Slice lo hi none p2) pos) (.cut ia il ih) :=
  pe_weak (pe_slice slr_cut (pe_asV ha) hl hh) fun σ H Q ⟨F, env, h⟩ => by
    refine ⟨F, env, At.bnd (Rl := vRep X.K fa) (m := asV (eI cf ia)) (g := fun d e1 => bnd (eO cf il e1) fun i e2 => bnd (eO cf ih e2) fun j e3 => okR (cutR i j d) e3) (h.cast ?_) fun d e1 F1 H1 v s1 r1 h1 => ?_⟩
    · show bnd (bnd (eI cf ia env) _) _ = bnd (eI cf ia env) _
      cases eI cf ia env with
      | none => rfl
      | some oe =>
        obtain ⟨o, e⟩ := oe
        cases o <;> rfl
    refine ⟨F1, e1, At.bnd (Rl := oRep) h1 fun i e2 F2 H2 i' s2 r2 h2 => ?_⟩
    refine ⟨F2, e2, At.bnd (Rl := oRep) h2 fun j e3 F3 H3 j' s3 r3 h3 => ?_⟩
    cases r2
    cases r3
    cases hz : cutR i j d with
    | none => exact (h3.no (by rw [hz]; rfl)).elim
    | some z =>
      refine cut_gen h3.ok.sub (Rep.mono s3.sub (Rep.mono s2.sub r1)) hz fun v F' H' ar => ?_
      obtain ⟨s4, rr⟩ := ar.step h3.ok
      exact h3.ret (by rw [hz]; rfl) s4 rr

/-! ### and, or, not, a if t else b; tests -/
theorem s_and1 {op : BoolOp} (ha : PI' X fa cf a ia) : PI' X fa cf (.BoolOp op [a] pos) ia := pe_one ha
theorem s_and {rest : List Expr} (ha : PI' X fa cf a ia) (hb : PI' X fa cf (.BoolOp .And (b :: rest) pos) ib) : PI' X fa cf (.BoolOp .And (a :: b :: rest) pos) (.andb ia ib) := pe_weak (pe_and ha hb) fun σ H Q ⟨F, env, h⟩ => by
  rw [eI_andb] at h
  refine ⟨F, env, At.bnd (Rl := RRep X.K fa) h fun r e1 F1 H1 v s1 r1 h1 => ?_⟩
  cases r with
  | new x => exact (h1.no rfl).elim
  | val d =>
    cases d with
    | bl k =>
      refine ⟨k, Rep.bl_of r1, ?_⟩
      cases k with
      | true => exact iteT ⟨F1, e1, h1⟩
      | false => exact iteF (h1.ret (a := .val (.bl false)) rfl (Step.refl h1.ok) (Rep.bl false))
    | _ => exact (h1.no rfl).elim
theorem s_or {rest : List Expr} (ha : PI' X fa cf a ia) (hb : PI' X fa cf (.BoolOp .Or (b :: rest) pos) ib) : PI' X fa cf (.BoolOp .Or (a :: b :: rest) pos) (.orb ia ib) := pe_weak (pe_or ha hb) fun σ H Q ⟨F, env, h⟩ => by
  rw [eI_orb] at h
  refine ⟨F, env, At.bnd (Rl := RRep X.K fa) h fun r e1 F1 H1 v s1 r1 h1 => ?_⟩
  cases r with
  | new x => exact (h1.no rfl).elim
  | val d =>
    cases d with
    | bl k =>
      refine ⟨k, Rep.bl_of r1, ?_⟩
      cases k with
      | false => exact iteF ⟨F1, e1, h1⟩
      | true => exact iteT (h1.ret (a := .val (.bl true)) rfl (Step.refl h1.ok) (Rep.bl true))
    | _ => exact (h1.no rfl).elim
theorem s_not (ha : PI' X fa cf a ia) : PI' X fa cf (.UnaryOp .Not a pos) (.notb ia) := pe_weak (pe_not ha) fun σ H Q ⟨F, env, h⟩ => by
  rw [eI_notb] at h
  refine ⟨F, env, At.bnd (Rl := RRep X.K fa) h fun r e1 F1 H1 v s1 r1 h1 => ?_⟩
  cases r with
  | new x => exact (h1.no rfl).elim
  | val d =>
    cases d with
    | bl k => exact ⟨k, Rep.bl_of r1, h1.ret (a := .val (.bl (!k))) rfl (Step.refl h1.ok) (Rep.bl _)⟩
    | _ => exact (h1.no rfl).elim
variable {tc ta tb : T}
theorem s_ife (hc : PT' X fa cf c tc) (ha : PI' X fa cf a ia) (hb : PI' X fa cf b ib) : PI' X fa cf (.IfExp c a b pos) (.ife tc ia ib) := pe_weak (pe_ifExp hc ha hb) fun σ H Q ⟨F, env, h⟩ => by
  rw [eI_ife] at h
  refine ⟨F, env, At.bnd (Rl := bRep) h fun k e1 F1 H1 v s1 r1 h1 => ?_⟩
  cases r1
  cases k with
  | true => exact iteT ⟨F1, e1, h1⟩
  | false => exact iteF ⟨F1, e1, h1⟩
theorem truth_of {K : PySem.W.Frag} {fa : Nat → Addr} {F H : Hp} {v : V} {d : D} {k : Bool} (sub : SL F H) (r : Rep K fa F v d) (h : truth d = some k) : TruV K v H k := by
  cases r with
  | non => cases h; exact rfl
  | bl b => cases h; exact rfl
  | int i => cases h; exact rfl
  | str cs =>
    simp only [truth] at h
    split at h
    · rename_i hz
      cases h
      exact ⟨by rw [sOf_len]; exact le_line hz, by rw [sOf_len]⟩
    · cases h
  | tup e rl => cases h; exact .inr (.inl ⟨_, SqT.of (sub.at e rfl), by cases rl <;> rfl⟩)
  | ctp _ _ => cases h
  | dcp _ _ _ => cases h
  | lst e rl => cases h; exact .inl ⟨_, SqL.of (sub.at e rfl), by cases rl <;> rfl⟩
  | scr _ _ => cases h
  | dct _ _ => cases h
  | fn _ => cases h
  | cls _ => cases h
  | obj _ _ => cases h
theorem truth_at {F H : Hp} {σ : L2.St} {env : Ev} {v : V} {d : D} {Q : Bool → Hp → Prop} (r : Rep X.K fa F v d) (h : At X.K fa bRep (okR (truth d)) F H σ env Q) : ∃ k, TruV X.K v H k ∧ Q k H := by
  cases hz : truth d with
  | none => exact (h.no (by rw [hz]; rfl)).elim
  | some k => exact ⟨k, truth_of h.ok.sub r hz, h.ret (a := k) (by rw [hz]; rfl) (Step.refl h.ok) rfl⟩
theorem asV_bnd {γ : Type} {f : Ev → Res R} {g : D → Ev → Res γ} {env : Ev} : bnd (asV f env) g = bnd (f env) fun r e => g r.d e := by
  show bnd (bnd (f env) _) _ = _
  cases f env with
  | none => rfl
  | some oe =>
    obtain ⟨o, e⟩ := oe
    cases o <;> rfl
theorem t_val (ha : PI' X fa cf a ia) (he : ∀ whole, isTrue a X.env whole = (do let v ← whole; standAt a.pos; holding [v] (truthy v))) : PT' X fa cf a (.val ia) := pt_weak (pt_truth (pe_asV ha) he) fun σ H Q ⟨F, env, h⟩ => by
  rw [eT_val] at h
  exact ⟨F, env, At.bnd (Rl := vRep X.K fa) (m := asV (eI cf ia)) (g := fun d e => okR (truth d) e) (h.cast asV_bnd) fun d e1 F1 H1 v s1 r1 h1 => truth_at r1 h1⟩
theorem t_not (ha : PT' X fa cf a ta) : PT' X fa cf (.UnaryOp .Not a pos) (.not ta) := pt_weak (pt_not ha) fun σ H Q ⟨F, env, h⟩ => by
  rw [eT_not] at h
  exact ⟨F, env, At.bnd (Rl := bRep) h fun k e1 F1 H1 v s1 r1 h1 => by cases r1; exact h1.ret (a := !k) rfl (Step.refl h1.ok) rfl⟩
theorem tw_one {op : BoolOp} (ha : PT' X fa cf a ta) : PW X (.BoolOp op [a] pos) (tB X.K fa (eT cf ta)) := by
  cases op with
  | And => exact pw_and1 ha
  | Or => exact pw_or1 ha
theorem pw_weak {t t' : TT} (h : PW X e t) (w : ∀ σ H Q, t' σ H Q → t σ H Q) : PW X e t' := ⟨fun wh pins s σ H Q I q => h.run wh pins s σ H Q I (w σ H Q q)⟩
theorem tw_and {rest : List Expr} (ha : PT' X fa cf a ta) (hb : PW X (.BoolOp .And (b :: rest) pos) (tB X.K fa (eT cf tb))) : PW X (.BoolOp .And (a :: b :: rest) pos) (tB X.K fa (eT cf (.and ta tb))) := pw_weak (pw_and ha hb) fun σ H Q ⟨F, env, h⟩ => by
  rw [eT_and] at h
  refine ⟨F, env, At.bnd (Rl := bRep) h fun k e1 F1 H1 v s1 r1 h1 => ?_⟩
  cases r1
  cases k with
  | true => exact iteT ⟨F1, e1, h1⟩
  | false => exact iteF (h1.ret (a := false) rfl (Step.refl h1.ok) rfl)
theorem tw_or {rest : List Expr} (ha : PT' X fa cf a ta) (hb : PW X (.BoolOp .Or (b :: rest) pos) (tB X.K fa (eT cf tb))) : PW X (.BoolOp .Or (a :: b :: rest) pos) (tB X.K fa (eT cf (.or ta tb))) := pw_weak (pw_or ha hb) fun σ H Q ⟨F, env, h⟩ => by
  rw [eT_or] at h
  refine ⟨F, env, At.bnd (Rl := bRep) h fun k e1 F1 H1 v s1 r1 h1 => ?_⟩
  cases r1
  cases k with
  | false => exact iteF ⟨F1, e1, h1⟩
  | true => exact iteT (h1.ret (a := true) rfl (Step.refl h1.ok) rfl)
theorem t_yes : PTs X [] (tB X.K fa (eT cf .yes)) := ⟨fun pins s σ H Q I ⟨F, env, h⟩ => pts_nil.run pins s σ H Q I (h.ret (a := true) rfl (Step.refl h.ok) rfl)⟩
theorem t_ifs (ha : PT' X fa cf a ta) : PTs X [a] (tB X.K fa (eT cf ta)) := pts_one ha
/-- the answers of comparisons are truth values -/
def isCmp : Op → Bool
  | .eq | .ne | .lt | .le | .gt | .ge | .isin | .notin | .isn | .notn | .isb => true
  | _ => false
theorem cmp_bl {o : Op} {ds : List D} {z : R} (ho : isCmp o = true) (h : opD o ds = some z) : ∃ k, z = .val (.bl k) := by
  cases o <;> first | cases ho | skip
  all_goals
    simp only [opD] at h
    first | unfold dEq at h | unfold dNe at h | unfold dLt at h | unfold dLe at h | unfold dGt at h | unfold dGe at h | unfold dIn at h | unfold dIsn at h | unfold dIsb at h
    repeat' split at h
    all_goals first | (cases h; exact ⟨_, rfl⟩) | cases h
theorem t_cmp {op : CmpOp} {o : Op} {r : R2} (hr : OpR X (compareOp op) r) (ho : OpOk X.K fa o (r2 r)) (hk : isCmp o = true) (ha : PI' X fa cf a ia) (hb : PI' X fa cf b ib) (hm : behindInMarks op b = false) : PT' X fa cf (.Compare a [op] [b] pos) (.val (.op o (.cons ia (.cons ib .nil)))) :=
  pt_weak (pt_cmpR hr (pe_asV ha) (pe_asV hb) hm) fun σ H Q ⟨F, env, h⟩ => by
    rw [eT_val, eI_op, eIs_two] at h
    refine tOp_D (Q := fun x H' => ∃ k, x = .bl k ∧ Q k H') ho ⟨F, env, At.bndE (Rl := RRep X.K fa) h fun z e1 F1 H1 v hz s1 r1 h1 => ?_⟩
    obtain ⟨k', rfl⟩ : ∃ k, z = .val (.bl k) := by
      obtain ⟨ds, e2, _, h3⟩ := bnd_ok hz
      exact cmp_bl hk (okR_ok h3).1
    exact ⟨_, Rep.bl_of r1, h1.ret (a := k') rfl (Step.refl h1.ok) rfl⟩
/-- a < b < c -/
theorem chain_D {o p : Op} {r r' : R2} (ho : OpOk X.K fa o (r2 r)) (hp : OpOk X.K fa p (r2 r')) {σ : L2.St} {H : Hp} {Q : VK} (q : tI X.K fa (eI cf (.chain o p ia ib ic)) σ H Q) : tChain r r' (tV X.K fa (asV (eI cf ia))) (tV X.K fa (asV (eI cf ib))) (tV X.K fa (asV (eI cf ic))) σ H Q := by
  obtain ⟨F, env, h⟩ := q
  rw [eI_chain] at h
  refine ⟨F, env, At.bnd (Rl := vRep X.K fa) (m := asV (eI cf ia)) (g := fun x e1 => bnd (asV (eI cf ib) e1) fun y e2 => match opD o [x, y] with
    | some (.val (.bl k)) => if k then bnd (asV (eI cf ic) e2) fun z e3 => okR (opD p [y, z]) e3 else some (.ok (.val (.bl false)), e2)
    | _ => none) (h.cast ?_) fun x e1 F1 H1 v s1 r1 h1 => ⟨F1, e1, At.bnd (Rl := vRep X.K fa) h1 fun y e2 F2 H2 w s2 r2 h2 => ?_⟩⟩
  · simp only [asV_bnd]
  have fin : ∀ {kk : Bool} (hz : opD o [x, y] = some (.val (.bl kk))) (Q' : VK), (∀ F' H', Step X.K fa F2 H2 σ e2 F' H' σ e2 → Q' (.bl kk) H') → r v w H2 Q' := fun {kk} hz Q' hq => by
    obtain ⟨a', b', exy, hr⟩ := ho F2 H2 [v, w] [x, y] _ Q' h2.ok.sub (.cons (Rep.mono s2.sub r1) (.cons r2 .nil)) hz fun v' F3 H3 ar => by
      obtain ⟨s3, rr⟩ := ar.step h2.ok
      rw [Rep.bl_of rr]
      exact hq F3 H3 s3
    cases exy
    exact hr
  cases hz : opD o [x, y] with
  | none => exact (h2.no (by rw [hz])).elim
  | some z =>
    cases z with
    | new _ => exact (h2.no (by rw [hz])).elim
    | val d =>
      cases d with
      | bl k =>
        refine fin hz _ fun F3 H3 s3 => ⟨k, rfl, ?_⟩
        have h3 : At X.K fa (RRep X.K fa) (fun e2 => if k then bnd (asV (eI cf ic) e2) fun z e3 => okR (opD p [y, z]) e3 else some (.ok (.val (.bl false)), e2)) F3 H3 σ e2 Q := by
          obtain ⟨ok2, o2, env2, g1, g2⟩ := h2
          rw [hz] at g1
          exact ⟨s3.ok, o2, env2, g1, g2.lift s3⟩
        cases k with
        | false => exact iteF (h3.ret (a := .val (.bl false)) rfl (Step.refl h3.ok) (Rep.bl false))
        | true =>
          refine iteT ⟨F3, e2, At.bnd (Rl := vRep X.K fa) h3 fun z e3 F4 H4 t s4 r4 h4 => ?_⟩
          obtain ⟨a', b', exy, hr⟩ := op_at hp (.cons (Rep.mono s4.sub (Rep.mono s3.sub r2)) (.cons r4 .nil)) h4
          cases exy
          exact hr
      | _ => exact (h2.no (by rw [hz])).elim
theorem s_chain {op op' : CmpOp} {o p : Op} {r r' : R2} (hr : OpR X (compareOp op) r) (hr' : OpR X (compareOp op') r') (ho : OpOk X.K fa o (r2 r)) (hp : OpOk X.K fa p (r2 r')) (ha : PI' X fa cf a ia) (hb : PI' X fa cf b ib) (hc : PI' X fa cf c ic)
    (hm : lastMarks [op, op'] [b, c] = false) : PI' X fa cf (.Compare a [op, op'] [b, c] pos) (.chain o p ia ib ic) :=
  pe_weak (pe_chain hr hr' (pe_asV ha) (pe_asV hb) (pe_asV hc) hm) fun σ H Q q => chain_D ho hp q
theorem t_chain {op op' : CmpOp} {o p : Op} {r r' : R2} (hr : OpR X (compareOp op) r) (hr' : OpR X (compareOp op') r') (ho : OpOk X.K fa o (r2 r)) (hp : OpOk X.K fa p (r2 r')) (hk : isCmp p = true) (ha : PI' X fa cf a ia) (hb : PI' X fa cf b ib) (hc : PI' X fa cf c ic)
    (hm : lastMarks [op, op'] [b, c] = false) : PT' X fa cf (.Compare a [op, op'] [b, c] pos) (.val (.chain o p ia ib ic)) :=
  pt_weak (pt_chain hr hr' (pe_asV ha) (pe_asV hb) (pe_asV hc) hm) fun σ H Q ⟨F, env, h⟩ => by
    rw [eT_val] at h
    refine chain_D (Q := fun x H' => ∃ k, x = .bl k ∧ Q k H') ho hp ⟨F, env, At.bndE (Rl := RRep X.K fa) h fun z e1 F1 H1 v hz s1 r1 h1 => ?_⟩
    obtain ⟨k', rfl⟩ : ∃ k, z = .val (.bl k) := by
      rw [eI_chain] at hz
      obtain ⟨x, e2, _, hz⟩ := bnd_ok hz
      obtain ⟨y, e3, _, hz⟩ := bnd_ok hz
      split at hz
      · split at hz
        · obtain ⟨u, e4, _, hz⟩ := bnd_ok hz
          exact cmp_bl hk (okR_ok hz).1
        · cases hz; exact ⟨_, rfl⟩
      · cases hz
    exact ⟨_, Rep.bl_of r1, h1.ret (a := k') rfl (Step.refl h1.ok) rfl⟩
end
end DI

namespace DI
open PySem L2

section
variable {X : Cx} {fa : Fa} {cf : CF} {pos : Pos} {a b c e : Expr} {ia ib ic : I} {es : List Expr} {is : Is}
/-! ### a name's list: items, len, pop -/
theorem RepOs.get {K : PySem.W.Frag} {fa : Nat → Addr} {F H : Hp} : ∀ {vs : List V} {xs : List Ho} {fp : List Addr} {i : Nat} {d : D}, RepOs K fa F H vs xs fp → xs[i]? = some (.fz d) → ∃ v, vs[i]? = some v ∧ Rep K fa F v d
  | _, _, _, _, _, .nil, e => by simp at e
  | _, _, _, 0, _, .cons r _ _, e => by
    simp at e
    subst e
    cases r with
    | fz r => exact ⟨_, rfl, r⟩
  | _, _, _, i + 1, d, .cons _ t _, e => by
    obtain ⟨v, h1, h2⟩ := RepOs.get (i := i) (d := d) t (by simpa using e)
    exact ⟨v, by simpa using h1, h2⟩
theorem RepOs.length {K : PySem.W.Frag} {fa : Nat → Addr} {F H : Hp} : ∀ {vs : List V} {xs : List Ho} {fp : List Addr}, RepOs K fa F H vs xs fp → vs.length = xs.length
  | _, _, _, .nil => rfl
  | _, _, _, .cons _ t _ => by simp [RepOs.length t]
theorem RepOs.atI {K : PySem.W.Frag} {fa : Nat → Addr} {F H : Hp} {vs : List V} {xs : List Ho} {fp : List Addr} {i : Int} {d : D} (r : RepOs K fa F H vs xs fp) (h : L2.atI xs i = some (.fz d)) : ∃ v, L2.atI vs i = some v ∧ Rep K fa F v d := by
  unfold L2.atI at h ⊢
  rw [r.length]
  cases e : ixN xs.length i with
  | none => rw [e] at h; simp at h
  | some j =>
    rw [e] at h
    simp only [Option.bind_some] at h ⊢
    exact r.get h
/-- one part is taken out -/
theorem RepOs.erase {K : PySem.W.Frag} {fa : Nat → Addr} {F H : Hp} : ∀ {vs : List V} {xs : List Ho} {fp : List Addr} {i : Nat} {x : Ho}, RepOs K fa F H vs xs fp → xs[i]? = some x →
    ∃ v fc fr, vs[i]? = some v ∧ RepO K fa F H v x fc ∧ RepOs K fa F H (vs.eraseIdx i) (xs.eraseIdx i) fr ∧ (∀ a ∈ fc, a ∈ fp ∧ a ∉ fr) ∧ ∀ a ∈ fr, a ∈ fp
  | _, _, _, _, _, .nil, e => by simp at e
  | _, _, _, 0, _, .cons r t d, e => by
    simp at e
    subst e
    exact ⟨_, _, _, rfl, r, t, fun a m => ⟨mem_l m, d a m⟩, fun a m => mem_r m⟩
  | _, _, _, i + 1, x, .cons r t d, e => by
    obtain ⟨v, fc, fr, h1, h2, h3, h4, h5⟩ := RepOs.erase (i := i) (x := x) t (by simpa using e)
    refine ⟨v, fc, _, by simpa using h1, h2, .cons r h3 (fun a m m2 => d a m (h5 a m2)), fun a m => ⟨mem_r (h4 a m).1, fun m2 => ?_⟩, fun a m => ?_⟩
    · rcases List.mem_append.mp m2 with m2 | m2
      · exact d a m2 (h4 a m).1
      · exact (h4 a m).2 m2
    · rcases List.mem_append.mp m with m | m
      · exact mem_l m
      · exact mem_r (h5 a m)
theorem ls_of {o : Option Ho} {xs : List Ho} (h : o.bind lsOf = some xs) : o = some (.ls xs) := by
  cases o with
  | none => cases h
  | some x =>
    cases x with
    | ls ys => cases h; rfl
    | _ => cases h
theorem mth_nil {d : D} : mthOf [] d = none := by cases d <;> rfl
theorem eI_item1 {s : Nat} : eI cf (.item1 s [] ia) = fun env => if bound1 env s then bnd (eI cf ia env) fun r e1 => match (e1[s]? : Option Sl) with
      | some (.val d) => okR (opD .item [d, r.d]) e1
      | some (.own h) => match itemH h r.d with
        | some z => some (.ok (.val z), e1)
        | none => okR (opD .item [toD h, r.d]) (e1.set s (.val (toD h)))
      | some (.io h) => okR ((itemH h r.d).map .val) e1
      | _ => none
    else none := by
  funext env
  show (if bound1 env s then bnd (eI cf ia env) _ else none) = _
  split
  · congr 1
    funext r e1
    cases e1[s]? with
    | none => rfl
    | some z =>
      cases z with
      | val d => show (match mthOf [] d with | some f => _ | none => _) = _; rw [mth_nil]
      | _ => rfl
  · rfl
/-- an item of a thing that a name holds -/
theorem itemH_at {F H : Hp} {σ : L2.St} {e1 : Ev} {i : Nat} {x : Ho} {v y : V} {d : D} {Q : VK} (hx : held e1 i = some x) (hv : σ[i]? = some (some v)) (r1 : Rep X.K fa F y d) (h : At X.K fa (RRep X.K fa) (okR ((itemH x d).map .val)) F H σ e1 Q) : rItem X.K v y H Q := by
  cases hz : itemH x d with
  | none => exact (h.no (by rw [hz]; rfl)).elim
  | some d' =>
    obtain ⟨v', fp, g1, g2⟩ := h.ok.own i x hx
    rw [hv] at g1
    cases g1
    have hz' := hz
    unfold itemH at hz
    split at hz
    · rename_i xs j
      split at hz
      · rename_i d'' hd'
        cases hz
        cases g2 with
        | ls gh gf gr gn =>
          cases r1.int_of
          obtain ⟨w, hw, rw'⟩ := gr.atI hd'
          exact .inl ⟨_, _, _, w, rfl, rfl, SqL.of gh, hw, h.ret (a := .val d') (by rw [hz']; rfl) (Step.refl h.ok) rw'⟩
      · cases hz
    · cases hz
theorem s_item1 {i : Nat} {x : Str} {px : Pos} (hu : X.A.units + 64 < cLine) (hN : X.N[i]? = some x) (hv : Vis X.env.scope x) (hd : (x == ("__debug__" : Str)) = false) (hcd : (x == ("__classdict__" : Str)) = false) (hb : PI' X fa cf b ib) (hs : PlainIx b) :
    PI' X fa cf (.Subscript (.Name x px) b pos) (.item1 i [] ib) := pe_weak (pe_ix (ixr_item hu) (pe_var hN hv hd hcd) (pe_asV hb) hs) fun σ H Q ⟨F, env, h⟩ => by
  rw [eI_item1] at h
  cases hb1 : bound1 env i with
  | false => exact (h.no (by rw [hb1]; rfl)).elim
  | true =>
    obtain ⟨d0, hd0⟩ := Option.isSome_iff_exists.mp hb1
    obtain ⟨v, _, hv1, _⟩ := look_rep h.ok hd0
    refine ⟨v, hv1, F, env, At.bnd (Rl := vRep X.K fa) (m := asV (eI cf ib)) (g := fun d e1 => match (e1[i]? : Option Sl) with
      | some (.val d0) => okR (opD .item [d0, d]) e1
      | some (.own h) => match itemH h d with
        | some z => some (.ok (.val z), e1)
        | none => okR (opD .item [toD h, d]) (e1.set i (.val (toD h)))
      | some (.io h) => okR ((itemH h d).map .val) e1
      | _ => none) (h.cast (by rw [asV_bnd, hb1]; rfl)) fun d e1 F1 H1 y s1 r1 h1 => ?_⟩
    cases he : e1[i]? with
    | none => exact (h1.no (by rw [he])).elim
    | some z =>
      cases z with
      | un => exact (h1.no (by rw [he])).elim
      | exc z => exact (h1.no (by rw [he])).elim
      | val d1 =>
        obtain ⟨w, g1, g2⟩ := h1.ok.val i _ he
        rw [hv1] at g1; cases g1
        obtain ⟨a', b', exy, hr⟩ := op_at ok_item (.cons g2 (.cons r1 .nil)) (h1.cast (m' := okR (opD .item [d1, d])) (by rw [he]))
        cases exy
        exact hr
      | own x =>
        cases hx : itemH x d with
        | some z => exact itemH_at (held_iff.mpr (.inl he)) hv1 r1 (h1.cast (m' := okR ((itemH x d).map .val)) (by rw [he]; simp only [hx]; rfl))
        | none =>
          obtain ⟨v', G, g1, st, rp⟩ := Step.freezeSlot h1.ok he
          rw [hv1] at g1; cases g1
          obtain ⟨ok1, o1, e9, q1, q2⟩ := h1
          simp only [he, hx] at q1
          have h2 : At X.K fa (RRep X.K fa) (okR (opD .item [toD x, d])) G H1 σ (e1.set i (.val (toD x))) Q := ⟨st.ok, o1, e9, q1, q2.lift st⟩
          obtain ⟨a', b', exy, hr⟩ := op_at ok_item (.cons rp (.cons (Rep.mono st.sub r1) .nil)) h2
          cases exy
          exact hr
      | io x => exact itemH_at (held_iff.mpr (.inr he)) hv1 r1 (h1.cast (m' := okR ((itemH x d).map .val)) (by rw [he]))
theorem len_val {d : D} {z : R} (h : opD .len [d] = some z) : ∃ i, z = .val (.int i) := by
  have h' : dLen [d] = some z := h
  unfold dLen at h'
  repeat' split at h'
  all_goals first | (cases h'; done) | (cases h'; exact ⟨_, rfl⟩)
theorem s_len1 {i : Nat} {x : Str} {px p : Pos} (hN : X.N[i]? = some x) (hv : Vis X.env.scope x) (hd : (x == ("__debug__" : Str)) = false) (hcd : (x == ("__classdict__" : Str)) = false) (hg : Gl X "len") (hm : X.mg "len" = none)
    (he : starEach [.Name x px] X.env = (false, eval (.Name x px) X.env) :: starEach [] X.env) : PI' X fa cf (.Call (.Name "len" p) [.Name x px] [] pos) (.len1 i []) :=
  pe_weak (pe_callB cr_lenA hg hm PySem.boot_len (pa_cons (pe_var hN hv hd hcd) pa_nil he) (by decide +kernel) (by decide +kernel) he rfl) fun σ H Q ⟨F, env, h⟩ => by
    have h' : At X.K fa (RRep X.K fa) (fun env => match look1 env i with
      | some d => okR (opD .len [d]) env
      | none => none) F H σ env Q := h.cast (by
        show _ = (match look1 env i with | some d => (match env[i]?, mthOf [] d with | some (.val _), some f => _ | _, _ => _) | none => none)
        cases look1 env i with
        | none => rfl
        | some d =>
          simp only [mth_nil]
          split
          · rename_i z; cases z
          · rfl)
    cases hl : look1 env i with
    | none => exact (h'.no (by rw [hl])).elim
    | some d =>
      obtain ⟨v, F', hv1, sF, sub, rp⟩ := look_rep h.ok hl
      refine ⟨v, hv1, ?_⟩
      cases hz : opD .len [d] with
      | none => exact (h'.no (by rw [hl]; simp only; rw [hz]; rfl)).elim
      | some z =>
        obtain ⟨n, rfl⟩ := len_val hz
        refine ok_len F' H [v] [d] _ Q sub (.cons rp .nil) hz fun w F3 H3 ar => ?_
        cases ar with
        | same r => rw [Rep.int_of r]; exact h'.ret (a := .val (.int n)) (by rw [hl]; simp only; rw [hz]; rfl) (Step.refl h.ok) (Rep.int n)
        | froz _ _ r => cases r
theorem eI_pop1 {s : Nat} : eI cf (.pop1 s ia) = fun env => if ((held env s).bind lsOf).isSome then bnd (eI cf ia env) fun r e1 => match r with
      | .val (.int i) => match (held e1 s).bind lsOf with
        | some xs => if 0 ≤ i ∧ i < xs.length ∧ xs.length ≤ big then match xs[i.toNat]? with
            | some h => some (.ok (asR h), hold e1 s (.ls (xs.eraseIdx i.toNat)))
            | none => none
          else none
        | none => none
      | _ => none
    else none := rfl
theorem s_pop1 {i : Nat} {x : Str} {px apos : Pos} (hN : X.N[i]? = some x) (hv : Vis X.env.scope x) (hd : (x == ("__debug__" : Str)) = false) (hcd : (x == ("__classdict__" : Str)) = false) (hb : PI' X fa cf b ib)
    (hbase : attributeBase (.Name x px) "pop" X.env (eval (.Name x px) X.env) = eval (.Name x px) X.env)
    (hfew : ((backTo pos (starEach [b] X.env)).all (fun x => !x.1) && (backToKw pos (keywordEach [] X.env)).all (fun x => x.1.isSome) && decide ([b].length + ([] : List Keyword).length + (if ([] : List Keyword).isEmpty then 0 else 1) < 30)) = true)
    (hline : (apos.endLine == pos.line) = true) (hs : starEach [b] X.env = (false, eval b X.env) :: starEach [] X.env) :
    PI' X fa cf (.Call (.Attribute (.Name x px) "pop" apos) [b] [] pos) (.pop1 i ib) :=
  pe_weak (pe_bm PySem.F.plainAttrs_list PySem.F.slot_list_pop PySem.F.type_list_pop mt_popAt (pe_var hN hv hd hcd) (pa_cons hb pa_nil hs) hbase hfew hline hs rfl) fun σ H Q ⟨F, env, h⟩ => by
    rw [eI_pop1] at h
    cases hh : ((held env i).bind lsOf) with
    | none => exact (h.no (by rw [hh]; rfl)).elim
    | some ys =>
    have hy := ls_of hh
    obtain ⟨v0, fp0, g1, g2⟩ := h.ok.own i _ hy
    cases g2 with
    | @ls p vs0 _ fq0 g3 g4 g5 g6 =>
    refine ⟨.ref p, g1, .inl ⟨rfl, vs0, SqL.of g3⟩, F, env, At.bnd (Rl := RRep X.K fa) (m := eI cf ib) (h.cast (by rw [hh]; rfl)) fun r e1 F1 H1 v s1 r1 h1 => ?_⟩
    cases r with
    | new _ => exact (h1.no rfl).elim
    | val d =>
    cases d with
    | int j =>
      cases h2' : (held e1 i).bind lsOf with
      | none => exact (h1.no (by simp only [h2'])).elim
      | some xs =>
      have h2 := ls_of h2'
      by_cases hj : 0 ≤ j ∧ j < xs.length ∧ xs.length ≤ big
      · cases hx : xs[j.toNat]? with
        | none => exact (h1.no (by simp only [h2', hj, hx, and_self, if_true])).elim
        | some x' =>
        have he : (match (held e1 i).bind lsOf with
          | some xs => if 0 ≤ j ∧ j < xs.length ∧ xs.length ≤ big then match xs[j.toNat]? with
              | some h => some (Except.ok (asR h), hold e1 i (.ls (xs.eraseIdx j.toNat)))
              | none => none
            else none
          | none => none) = (some (Except.ok (asR x'), hold e1 i (.ls (xs.eraseIdx j.toNat))) : Res R) := by simp only [h2', hj, hx, and_self, if_true]
        cases Rep.int_of r1
        obtain ⟨v1, fp1, k1, k2⟩ := h1.ok.own i _ h2
        rw [g1] at k1; cases k1
        have k2' := k2
        cases k2 with
        | @ls _ vs _ fq k3 k4 k5 k6 =>
        obtain ⟨w, fc, fr, hw, rc, rr, d1, d2⟩ := k5.erase hx
        refine ⟨p, vs, j, j.toNat, w, rfl, rfl, k3, by omega, ?_, ?_, hw, ?_⟩
        · have : (big : Int) < 2 ^ 63 := by decide
          omega
        · exact PySem.seqIndex_of hj.1 (by rw [k5.length]; exact hj.2.1)
        · have npq : ∀ a ∈ fq, a ≠ p := fun a m z => k6 (z ▸ m)
          have keepq : ∀ a ∈ fq, (upd H1 p (.lst (vs.eraseIdx j.toNat))) a = H1 a := fun a m => upd_ne (npq a m)
          have r2 : RepO X.K fa F1 (upd H1 p (.lst (vs.eraseIdx j.toNat))) (.ref p) (.ls (xs.eraseIdx j.toNat)) (p :: fr) :=
            .ls upd_same k4 (rr.keep (Same.refl _) (fun a m => keepq a (d2 a m)) fun a m => (k5.there a (d2 a m)).1) fun m => k6 (d2 p m)
          have keep2 : ∀ a u, H1 a = some u → a ∉ p :: fq → (upd H1 p (.lst (vs.eraseIdx j.toNat))) a = some u := fun a u e n => by
            have : a ≠ p := fun z => by subst z; exact n List.mem_cons_self
            rw [upd_ne this]; exact e
          have st := Step.hold (y := .ls (xs.eraseIdx j.toNat)) h1.ok h2 g1 k2' (Same.refl F1) (fun a u e => by rw [upd_ne (ne_of_none e k4)]; exact h1.ok.sub a u e)
            (fun a u e n => .of (keep2 a u e n)) (fun a _ h2 _ => h2) r2 (fun a m => by
              rcases List.mem_cons.mp m with rfl | m
              · exact .inl List.mem_cons_self
              · exact .inl (List.mem_cons_of_mem _ (d2 a m))) (tabs_lst h1.ok.tabs k3)
          have rc' : RepO X.K fa F1 (upd H1 p (.lst (vs.eraseIdx j.toNat))) w x' fc := rc.keep (Same.refl _) (fun a m => keepq a (d1 a m).1) fun a m => (k5.there a (d1 a m).1).1
          refine h1.ret he st ?_
          have hnew : RRep X.K fa F1 H1 σ e1 F1 (upd H1 p (.lst (vs.eraseIdx j.toNat))) σ (DI.hold e1 i (.ls (xs.eraseIdx j.toNat))) w (.new x') := by
            refine ⟨fc, rc', fun a m => .inl ⟨i, _, _, _, h2, g1, k2', List.mem_cons_of_mem _ (d1 a m).1⟩, fun a m hO => ?_⟩
            rcases hold_own h1.ok h2 g1 k2' (Same.refl F1) (fun a u e n => .of (keep2 a u e n)) (fun a _ h2 _ => h2) r2 hO with z | z
            · rcases List.mem_cons.mp z with rfl | z
              · exact npq _ (d1 _ m).1 rfl
              · exact (d1 a m).2 z
            · exact z.1 (List.mem_cons_of_mem _ (d1 a m).1)
          cases x' with
          | fz d => cases rc with
            | fz r => exact r
          | ls _ => exact hnew
          | dc _ => exact hnew
          | dt _ => exact hnew
          | ob _ _ => exact hnew
      · exact (h1.no (by simp only [h2', if_neg hj])).elim
    | _ => exact (h1.no rfl).elim

/-! ### defs of the text -/
structure FI where
  name : Str
  qual : Str
  st : Stmt
  ps : List Str
  N : List Str
  fn : Fn
def fnsOf (fis : List (Nat × FI)) : List (Nat × Fn) := fis.map fun p => (p.1, p.2.fn)
theorem fi_of {fis : List (Nat × FI)} {f : Nat} : (fnsOf fis).lookup f = (fis.lookup f).map (·.fn) := by
  induction fis with
  | nil => rfl
  | cons p r ih =>
    obtain ⟨g, fi⟩ := p
    show List.lookup f ((g, fi.fn) :: fnsOf r) = _
    rw [List.lookup_cons, List.lookup_cons]
    cases f == g with
    | true => rfl
    | false => exact ih
/-- the callee's: nothing is handled, an error goes to E -/
def Fa.to (fa : Fa) (E : XK) : Fa := ⟨fa.f, fun _ _ _ => False, fun _ _ _ _ _ h => h, fun cls d _ H => E cls d H, fa.tb⟩

/-! ### calls -/
theorem start_get (N : List Str) (vs : List V) (i : Nat) (hi : i < vs.length) : (start N vs)[i]? = (vs[i]?).map some := by
  unfold L2.start
  rw [List.getElem?_append_left (by simpa using hi), List.getElem?_map]
theorem start0_len {fn : Fn} {io : Option Ho} {es : List D} (h : fn.np = es.length + ioN io.isSome) (h2 : fn.np ≤ fn.ns) : (start0 fn io es).length = fn.ns := by
  unfold start0
  cases io <;> simp [ioN] at h ⊢ <;> omega
theorem start_len {N : List Str} {vs : List V} (h : vs.length ≤ N.length) : (start N vs).length = N.length := by
  unfold L2.start
  simp
  omega
theorem start0_get {fn : Fn} {ds : List D} {i : Nat} {s : Sl} (h : (start0 fn none ds)[i]? = some s) : (∃ d, ds[i]? = some d ∧ s = .val d) ∨ s = .un := by
  unfold start0 at h
  simp only [List.nil_append] at h
  by_cases hi : i < ds.length
  · rw [List.getElem?_append_left (by simpa using hi), List.getElem?_map] at h
    cases e : ds[i]? with
    | none => rw [e] at h; cases h
    | some d => rw [e] at h; cases h; exact .inl ⟨d, rfl, rfl⟩
  · rw [List.getElem?_append_right (by simpa using hi), List.getElem?_replicate] at h
    split at h
    · cases h; exact .inr rfl
    · cases h
theorem start0_io {fn : Fn} {xs : Ho} {ds : List D} {i : Nat} {s : Sl} (h : (start0 fn (some xs) ds)[i]? = some s) : (i = 0 ∧ s = .io xs) ∨ (∃ j d, i = j + 1 ∧ ds[j]? = some d ∧ s = .val d) ∨ s = .un := by
  cases i with
  | zero =>
    unfold start0 at h
    simp at h
    exact .inl ⟨rfl, h.symm⟩
  | succ j =>
    have h' : (start0 fn none ds)[j]? = some s := by
      unfold start0 at h ⊢
      simpa using h
    rcases start0_get h' with ⟨d, h1, h2⟩ | h1
    · exact .inr (.inl ⟨j, d, rfl, h1, h2⟩)
    · exact .inr (.inr h1)
theorem ok_start {K : PySem.W.Frag} {fa : Fa} {F H : Hp} {N : List Str} {fn : Fn} {vs : List V} {ds : List D} (tbs : Tb fa.tb F H) (sub : SL F H) (r : RepL K fa F vs ds) (h1 : fn.np = ds.length) (h2 : fn.np ≤ fn.ns) (h3 : fn.ns = N.length) :
    Ok K fa F H (L2.start N vs) (start0 fn none ds) ∧ (∀ F H p, ¬ Own K fa F H (L2.start N vs) (start0 fn none ds) p) := by
  have noh : ∀ i x, held (start0 fn none ds) i = some x → False := fun i x h => by
    rcases held_iff.mp h with e | e <;> (rcases start0_get e with ⟨d, _, z⟩ | z <;> cases z)
  have noexc : ∀ (i : Nat) (x : Xc), (start0 fn none ds)[i]? = some (Sl.exc x) → ∃ a, (L2.start N vs)[i]? = some (some (.ref a)) ∧ fa.ex a x F := fun i x e => by
    rcases start0_get e with ⟨d, _, z⟩ | z <;> cases z
  have hl := r.length
  refine ⟨⟨noexc, ?_, sub, fun i d e => ?_, fun i x h => (noh i x h).elim, fun i j x y v w fp fq _ h => (noh i x h).elim, tbs⟩, fun F H p ⟨i, x, _, _, h, _⟩ => noh i x h⟩
  · rw [start0_len (by simpa [ioN] using h1) h2, start_len (by omega), h3]
  · rcases start0_get e with ⟨d', e1, z⟩ | z
    · cases z
      obtain ⟨v, e2, rv⟩ := r.get e1
      refine ⟨v, ?_, rv⟩
      rw [start_get N vs i (List.getElem?_eq_some_iff.mp e2).1, e2]; rfl
    · cases z
theorem ok_startIo {K : PySem.W.Frag} {fa : Fa} {F H : Hp} {N : List Str} {fn : Fn} {u : V} {vs : List V} {x : Ho} {fp : List Addr} {ds : List D} (tbs : Tb fa.tb F H) (sub : SL F H) (ru : RepO K fa F H u x fp) (r : RepL K fa F vs ds) (h1 : fn.np = ds.length + 1) (h2 : fn.np ≤ fn.ns) (h3 : fn.ns = N.length) :
    Ok K fa F H (L2.start N (u :: vs)) (start0 fn (some x) ds) ∧ (∀ q, Own K fa F H (L2.start N (u :: vs)) (start0 fn (some x) ds) q ↔ q ∈ fp) ∧ (start0 fn (some x) ds)[0]? = some (.io x) ∧ (L2.start N (u :: vs))[0]? = some (some u) := by
  have onlyh : ∀ i y, held (start0 fn (some x) ds) i = some y → i = 0 ∧ y = x := fun i y h => by
    rcases held_iff.mp h with e | e <;> (rcases start0_io e with ⟨z, q⟩ | ⟨j, d, _, _, q⟩ | q <;> cases q)
    exact ⟨z, rfl⟩
  have noexc : ∀ (i : Nat) (x' : Xc), (start0 fn (some x) ds)[i]? = some (Sl.exc x') → ∃ a, (L2.start N (u :: vs))[i]? = some (some (.ref a)) ∧ fa.ex a x' F := fun i x' e => by
    rcases start0_io e with ⟨_, z⟩ | ⟨j, d, _, _, z⟩ | z <;> cases z
  have hl := r.length
  have g0 : (L2.start N (u :: vs))[0]? = some (some u) := start_get N _ 0 (by simp)
  have s0 : (start0 fn (some x) ds)[0]? = some (.io x) := by unfold start0; simp
  refine ⟨⟨noexc, ?_, sub, fun i d e => ?_, fun i y h => ?_, fun i j y z v w fq fr hij h h' => ?_, tbs⟩, fun q => ⟨fun ⟨i, y, v, fq, h, g, ry, m⟩ => ?_, fun m => ?_⟩, s0, g0⟩
  · rw [start0_len (by simpa [ioN] using h1) h2, start_len (by simp; omega), h3]
  · rcases start0_io e with ⟨_, z⟩ | ⟨j, d', rfl, e1, z⟩ | z
    · cases z
    · cases z
      obtain ⟨v, e2, rv⟩ := r.get e1
      refine ⟨v, ?_, rv⟩
      rw [start_get N _ (j + 1) (by simpa using (List.getElem?_eq_some_iff.mp e2).1)]
      simp [e2]
    · cases z
  · obtain ⟨rfl, rfl⟩ := onlyh i y h
    exact ⟨u, fp, g0, ru⟩
  · obtain ⟨rfl, _⟩ := onlyh i y h
    obtain ⟨rfl, _⟩ := onlyh j z h'
    exact absurd rfl hij
  · obtain ⟨rfl, rfl⟩ := onlyh i y h
    rw [g0] at g; cases g
    rw [ru.uniq ry]; exact m
  · exact ⟨0, x, u, fp, held_iff.mpr (.inr s0), g0, ru, m⟩
end
end DI

namespace DI
open PySem L2

/-! ### a run told from an earlier entry -/
section
variable {K : PySem.W.Frag} {fa : Fa} {α β γ δ : Type} {F0 H0 F H F1 H1 F' H' : Hp} {σ : L2.St} {env0 env e1 e' : Ev} {Q : β → Hp → Prop} {Rl : RlT α β} {m : Ev → Res α}
def AtB {α β : Type} (K : PySem.W.Frag) (fa : Fa) (Rl : RlT α β) (m : Ev → Res α) (F0 H0 : Hp) (σ : L2.St) (env0 : Ev) (F H : Hp) (env : Ev) (Q : β → Hp → Prop) : Prop :=
  Step K fa F0 H0 σ env0 F H σ env ∧ ∃ o env', m env = some (o, env') ∧ EndG K fa Rl F0 H0 σ env0 env' Q o
theorem At.b (h : At K fa Rl m F H σ env Q) : AtB K fa Rl m F H σ env F H env Q := ⟨Step.refl h.1, h.2⟩
theorem AtB.no (h : AtB K fa Rl m F0 H0 σ env0 F H env Q) (e : m env = none) : False := by
  obtain ⟨_, o, env', e2, _⟩ := h
  rw [e] at e2; cases e2
theorem AtB.ret (h : AtB K fa Rl m F0 H0 σ env0 F H env Q) {a : α} (e : m env = some (.ok a, e')) {v : β} (s : Step K fa F0 H0 σ env0 F' H' σ e') (r : Rl F0 H0 σ env0 F' H' σ e' v a) : Q v H' := by
  obtain ⟨_, o, env', e2, q⟩ := h
  rw [e] at e2
  cases e2
  exact q F' H' v s r
theorem AtB.err (h : AtB K fa Rl m F0 H0 σ env0 F H env Q) {x : Xc} (e : m env = some (.error x, e')) {cls : Value} {d : Option Addr} (s : Step K fa F0 H0 σ env0 F' H' σ e') (r : XRep K fa F' cls d x) : fa.W cls d σ H' := by
  obtain ⟨_, o, env', e2, q⟩ := h
  rw [e] at e2
  cases e2
  exact q F' H' cls d s r
theorem AtB.cast {m' : Ev → Res α} (h : AtB K fa Rl m F0 H0 σ env0 F H env Q) (e : m' env = m env) : AtB K fa Rl m' F0 H0 σ env0 F H env Q := ⟨h.1, by rw [e]; exact h.2⟩
/-- one thing, then the rest, the first entry kept -/
theorem AtB.bnd {Rl2 : RlT γ δ} {g : α → Ev → Res γ} {Q : δ → Hp → Prop} {Q1 : β → Hp → Prop} (h : AtB K fa Rl2 (fun e => DI.bnd (m e) g) F0 H0 σ env0 F H env Q)
    (k : ∀ a e1 F1 H1 v, Step K fa F H σ env F1 H1 σ e1 → Rl F H σ env F1 H1 σ e1 v a → AtB K fa Rl2 (g a) F0 H0 σ env0 F1 H1 e1 Q → Q1 v H1) : At K fa Rl m F H σ env Q1 := by
  obtain ⟨st, o, env', e, q⟩ := h
  simp only at e
  cases hm : m env with
  | none => rw [hm] at e; cases e
  | some oe =>
    obtain ⟨o1, e1⟩ := oe
    rw [hm] at e
    cases o1 with
    | error x =>
      cases e
      exact ⟨st.ok, _, _, hm, fun F' H' cls d s2 r => q F' H' cls d (st.trans s2) r⟩
    | ok a => exact ⟨st.ok, _, _, hm, fun F1 H1 v s1 r1 => k a e1 F1 H1 v s1 r1 ⟨st.trans s1, o, env', e, q⟩⟩
end

/-! ### a call, as the caller and the callee see it -/
inductive Args (K : PySem.W.Frag) (fa : Nat → Addr) (F H : Hp) : Option Ho → List D → List V → List Addr → Prop
  | no {vs : List V} {ds : List D} : RepL K fa F vs ds → Args K fa F H none ds vs []
  | io {u : V} {h : Ho} {fp : List Addr} {vs : List V} {ds : List D} : RepO K fa F H u h fp → RepL K fa F vs ds → Args K fa F H (some h) ds (u :: vs) fp
structure CSt (K : PySem.W.Frag) (fa : Nat → Addr) (tb : List (Addr × Str)) (F H : Hp) (vs : List V) (fp : List Addr) (F' H' : Hp) (out : Option Ho) (fp' : List Addr) : Prop where
  sub : Same F F'
  sub' : SL F' H'
  keep : ∀ a o, H a = some o → a ∉ fp → Kept (F a ≠ none) H' a o
  stay : ∀ a, H a ≠ none → F a = none → a ∉ fp → F' a = none
  out : match out with
    | none => fp' = []
    | some h => ∃ u ws, vs = u :: ws ∧ RepO K fa F' H' u h fp'
  new : ∀ p ∈ fp', p ∈ fp ∨ H p = none
  tabs : Tb tb F H → Tb tb F' H'
def CRes (K : PySem.W.Frag) (fa : Nat → Addr) (H : Hp) (fp : List Addr) (F' H' : Hp) (fp' : List Addr) (v : V) : R → Prop
  | .val d => Rep K fa F' v d
  | .new x => ∃ fq, RepO K fa F' H' v x fq ∧ (∀ p ∈ fq, p ∈ fp ∨ H p = none) ∧ ∀ p ∈ fq, p ∉ fp'
/-- how a call ends -/
def CEnd (K : PySem.W.Frag) (fa : Nat → Addr) (H : Hp) (fp : List Addr) (F' H' : Hp) (fp' : List Addr) (Q : VK) (E : XK) : Except Xc R → Prop
  | .ok r => ∀ v, CRes K fa H fp F' H' fp' v r → Q v H'
  | .error x => ∀ cls d, XRep K fa F' cls d x → E cls d H'
def spC (K : PySem.W.Frag) (fa : Nat → Addr) (tb : List (Addr × Str)) (fns : List (Nat × Fn)) (k f : Nat) (vs : List V) (H : Hp) (Q : VK) (E : XK) : Prop := ∃ F io ds fp o out, Args K fa F H io ds vs fp ∧ (SL F H ∧ Tb tb F H) ∧ callF fns k f io ds = some (o, out) ∧
  ∀ F' H' fp', CSt K fa tb F H vs fp F' H' out fp' → CEnd K fa H fp F' H' fp' Q E o
/-- the defs keep what the denotation tells, k calls deep -/
def FnG (P : Program) (w : World) (K : PySem.W.Frag) (mg : Str → Option Value) (base : Heap) (fa : Nat → Addr) (tb : List (Addr × Str)) (fns : List (Nat × Fn)) (k : Nat) : Prop :=
  ∀ f, (fns.lookup f).isSome = true → ∀ (A : Around) (outer : List Env) (s : Shared) (H : Hp) (us : List Value) (vs : List V) (Q : VK) (E : XK), A.guards = some [] → Room (4 * k) A → Env0 P w K mg base A outer s H → Vals vs us →
    spC K fa tb fns k f vs H Q E → codeAny (model P w) A (.call (.ref (fa f)) ⟨us, []⟩) (CR (L2.CX P w) outer P w H s Q E) s
theorem callF_has {fns : List (Nat × Fn)} {k f : Nat} {io : Option Ho} {ds : List D} {z : Except Xc R × Option Ho} (h : callF fns k f io ds = some z) : (fns.lookup f).isSome = true := by
  cases k with
  | zero => cases h
  | succ k =>
    simp only [callF] at h
    cases e : fns.lookup f with
    | none => rw [e] at h; cases h
    | some fn => rfl
section
variable {X : Cx} {fa : Fa} {fns : List (Nat × Fn)} {k f : Nat} {pins : List (Addr × Obj)} {σ : L2.St} {H : Hp} {s : Shared}
theorem run_G {Q : VK} {us : List Value} {vs : List V} (G : FnG X.prog X.w X.K X.mg X.base fa fa.tb fns k) (tk : Takes X fa.W) (hg : X.A.guards = some []) (hr : Room (4 * k) X.A) (I : Inv X pins σ H s) (r : Vals vs us) (h : spC X.K fa fa.tb fns k f vs H Q (WE fa.W σ)) :
    wpAny (model X.prog X.w) X.A (call (.ref (fa.f f)) us) (EP X pins σ Q) X.xe s := by
  have hf : (fns.lookup f).isSome = true := by
    obtain ⟨F, io, ds, fp, o, out, _, _, h1, _⟩ := h
    exact callF_has h1
  refine wpAny_call (codeAny_mono (G f hf X.A X.stack s H us vs Q _ hg hr I.env0 r h) fun r s' hq => ?_)
  cases r with
  | error e => exact passAt tk σ pins H s e s' I hq
  | ok fl => cases fl <;> first | exact I.after hq | exact False.elim hq
end

section
variable {K : PySem.W.Frag} {fa : Fa} {F H F' H' : Hp} {σ : L2.St} {env : Ev} {vs : List V} {fp fp' : List Addr} {out : Option Ho}
/-- a call that changes nothing of the caller's -/
theorem cst_step (o : Ok K fa F H σ env) (c : CSt K fa fa.tb F H vs [] F' H' out fp') : Step K fa F H σ env F' H' σ env := by
  have cm : Calm K fa F H F' H' σ env := fun p hp => by
    obtain ⟨u, e, nt⟩ := own_nt hp
    exact ⟨by rw [e]; exact (c.keep p u e List.not_mem_nil).n nt fun z => z (o.own_at hp).1, c.stay p (by rw [e]; simp) (o.own_at hp).1 List.not_mem_nil⟩
  exact ⟨c.sub, fun a u e _ => c.keep a u e List.not_mem_nil, fun a h1 h2 _ => c.stay a h1 h2 List.not_mem_nil, o.more c.sub c.sub' cm (c.tabs o.tabs), fun _ h => .inl (o.ownsame c.sub cm h), fun _ xs h => ⟨rfl, xs, h⟩⟩
theorem cres_r {v : V} {r : R} (o : Ok K fa F H σ env) (c : CSt K fa fa.tb F H vs [] F' H' out fp') (h : CRes K fa H [] F' H' fp' v r) : RRep K fa F H σ env F' H' σ env v r := by
  cases r with
  | val d => exact h
  | new x =>
    obtain ⟨fq, h1, h2, h3⟩ := h
    have hn : ∀ p ∈ fq, H p = none := fun p m => (h2 p m).resolve_left List.not_mem_nil
    refine ⟨fq, h1, fun p m => .inr (hn p m), fun p m z => ?_⟩
    have cm : Calm K fa F H F' H' σ env := fun p hp => by
      obtain ⟨u, e, nt⟩ := own_nt hp
      exact ⟨by rw [e]; exact (c.keep p u e List.not_mem_nil).n nt fun z => z (o.own_at hp).1, c.stay p (by rw [e]; simp) (o.own_at hp).1 List.not_mem_nil⟩
    obtain ⟨_, u, e⟩ := o.own_at (o.ownsame c.sub cm z)
    rw [hn p m] at e; cases e
/-- a call that changes the thing at a name -/
theorem cst_stepIo {i : Nat} {x y : Ho} {u : V} {ws : List V} (o : Ok K fa F H σ env) (hx : held env i = some x) (hv : σ[i]? = some (some u)) (r : RepO K fa F H u x fp) (c : CSt K fa fa.tb F H (u :: ws) fp F' H' (some y) fp') : Step K fa F H σ env F' H' σ (hold env i y) := by
  obtain ⟨u', ws', e, r'⟩ := c.out
  cases e
  exact Step.hold o hx hv r c.sub c.sub' c.keep c.stay r' c.new (c.tabs o.tabs)
theorem cres_rIo {i : Nat} {x y : Ho} {u : V} {ws : List V} {v : V} {rr : R} (o : Ok K fa F H σ env) (hx : held env i = some x) (hv : σ[i]? = some (some u)) (r : RepO K fa F H u x fp) (c : CSt K fa fa.tb F H (u :: ws) fp F' H' (some y) fp') (h : CRes K fa H fp F' H' fp' v rr) :
    RRep K fa F H σ env F' H' σ (hold env i y) v rr := by
  cases rr with
  | val d => exact h
  | new z =>
    obtain ⟨fq, h1, h2, h3⟩ := h
    obtain ⟨u', ws', e, r'⟩ := c.out
    cases e
    refine ⟨fq, h1, fun p m => ?_, fun p m q => ?_⟩
    · rcases h2 p m with z | z
      · exact .inl ⟨i, x, u, fp, hx, hv, r, z⟩
      · exact .inr z
    · rcases hold_own o hx hv r c.sub c.keep c.stay r' q with z | ⟨z, z2⟩
      · exact h3 p m z
      · rcases h2 p m with y | y
        · exact z y
        · obtain ⟨_, w, e⟩ := o.own_at z2
          rw [y] at e; cases e
/-- a call that changes a thing that nobody else has -/
theorem cst_stepFr {F0 H0 : Hp} {env0 : Ev} (s : Step K fa F0 H0 σ env0 F H σ env) (h0 : ∀ p ∈ fp, Own K fa F0 H0 σ env0 p ∨ H0 p = none) (n : ∀ p ∈ fp, ¬ Own K fa F H σ env p) (c : CSt K fa fa.tb F H vs fp F' H' out fp') : Step K fa F0 H0 σ env0 F' H' σ env := by
  have cm : Calm K fa F H F' H' σ env := fun p hp => by
    obtain ⟨u, e, nt⟩ := own_nt hp
    have np : p ∉ fp := fun m => n p m hp
    exact ⟨by rw [e]; exact (c.keep p u e np).n nt fun z => z (s.ok.own_at hp).1, c.stay p (by rw [e]; simp) (s.ok.own_at hp).1 np⟩
  have ne : ∀ a, H0 a ≠ none → ¬ Own K fa F0 H0 σ env0 a → a ∉ fp := fun a h1 h2 m => by
    rcases h0 a m with z | z
    · exact h2 z
    · exact h1 z
  refine ⟨s.sub.trans c.sub, fun a u e hn => (s.keep a u e hn).trans fun u' e' => (c.keep a u' e' (ne a (by rw [e]; simp) hn)).mono fun hf z => hf (s.stay a (by rw [e]; simp) z hn), fun a h1 h2 hn => ?_, s.ok.more c.sub c.sub' cm (c.tabs s.ok.tabs), fun p q => s.own p (s.ok.ownsame c.sub cm q), s.io⟩
  cases e : H0 a with
  | none => exact absurd e h1
  | some u => exact c.stay a (s.keep a u e hn).ne (s.stay a h1 h2 hn) (ne a h1 hn)
theorem cres_rFr {F0 H0 : Hp} {env0 : Ev} {v : V} {rr : R} (s : Step K fa F0 H0 σ env0 F H σ env) (h0 : ∀ p ∈ fp, Own K fa F0 H0 σ env0 p ∨ H0 p = none) (n : ∀ p ∈ fp, ¬ Own K fa F H σ env p) (c : CSt K fa fa.tb F H vs fp F' H' out fp') (h : CRes K fa H fp F' H' fp' v rr) :
    RRep K fa F0 H0 σ env0 F' H' σ env v rr := by
  cases rr with
  | val d => exact h
  | new z =>
    obtain ⟨fq, h1, h2, h3⟩ := h
    refine ⟨fq, h1, fun p m => ?_, fun p m q => ?_⟩
    · rcases h2 p m with z | z
      · exact h0 p z
      · exact none_back s (.inr z)
    · have cm : Calm K fa F H F' H' σ env := fun p hp => by
        obtain ⟨u, e, nt⟩ := own_nt hp
        have np : p ∉ fp := fun m => n p m hp
        exact ⟨by rw [e]; exact (c.keep p u e np).n nt fun z => z (s.ok.own_at hp).1, c.stay p (by rw [e]; simp) (s.ok.own_at hp).1 np⟩
      have q' := s.ok.ownsame c.sub cm q
      rcases h2 p m with z | z
      · exact n p z q'
      · obtain ⟨_, w, e⟩ := s.ok.own_at q'
        rw [z] at e; cases e
variable {fns : List (Nat × Fn)} {k f : Nat} {Q : VK}
/-- what a plain call comes to, from its arguments -/
theorem call_at {ds : List D} (r : RepL K fa F vs ds) (h : At K fa (RRep K fa) (rsC (callF fns k f none ds)) F H σ env Q) : spC K fa fa.tb fns k f vs H Q (WE fa.W σ) := by
  cases hc : callF fns k f none ds with
  | none => exact (h.no (by rw [hc]; rfl)).elim
  | some z =>
    obtain ⟨o, out⟩ := z
    refine ⟨F, none, ds, [], o, out, .no r, ⟨h.ok.sub, h.ok.tabs⟩, hc, fun F' H' fp' c => ?_⟩
    cases o with
    | ok z => exact fun v cr => h.ret (by rw [hc]; rfl) (cst_step h.ok c) (cres_r h.ok c cr)
    | error x => exact fun cls d xr => h.err (by rw [hc]; rfl) (cst_step h.ok c) xr
end

/-! ### arguments, with stars or without -/
def PArgs (X : Cx) (args : List Expr) (pos : Pos) (t : TA) : Prop := ∀ {fv : Value} {first : List Value} (pins : List (Addr × Obj)) (s : Shared) (σ : L2.St) (H : Hp) (Q' : List V → Hp → Prop) {Q : Value → Shared → Prop}, PySem.W.keepIn X.K fv = true → Inv X pins σ H s → t σ H Q' →
  (∀ us s1 vs H1, Inv X pins σ H1 s1 → Vals vs us → Q' vs H1 → wpAny (model X.prog X.w) X.A (call fv (first ++ us)) Q X.xe s1) → wpAny (model X.prog X.w) X.A (callWith pos fv first (backTo pos (starEach args X.env)) []) Q X.xe s
section
variable {X : Cx} {fa : Fa} {cf : CF} {pos p : Pos} {a b c e : Expr} {ia ib ic : I} {es : List Expr} {is : Is} {t : TA} {te : TE}
theorem pargs_weak {args : List Expr} {t t' : TA} (h : PArgs X args pos t) (w : ∀ σ H Q, t' σ H Q → t σ H Q) : PArgs X args pos t' := fun pins s σ H Q' Q hk I q z => h pins s σ H Q' hk I (w σ H Q' q) z
theorem pargs_K (h : PA X (e :: es) t) (he : starEach (e :: es) X.env = (false, eval e X.env) :: starEach es X.env) (hpl : (backTo pos (starEach es X.env)).any (·.1) = false) : PArgs X (e :: es) pos t := fun pins s σ H Q' Q hk I q z =>
  PySem.W.callWith_K (h₀ := X.base) I.ok.mod.kin hk (thn (h.run pos pins s σ H Q' I q) fun us s1 ⟨vs, H1, I1, r, qq⟩ => ⟨I1.kIn, z us s1 vs H1 I1 r qq⟩) he hpl
theorem pargs_S2 (h : PA X (e :: es) t) (he : starEach (e :: es) X.env = (false, eval e X.env) :: starEach es X.env) (hpl : (backTo pos (starEach es X.env)).any (·.1) = true) : PArgs X (e :: es) pos t := fun pins s σ H Q' Q hk I q z =>
  PySem.W.callWith_S2 (h₀ := X.base) I.ok.mod.kin hk (thn (h.run pos pins s σ H Q' I q) fun us s1 ⟨vs, H1, I1, r, qq⟩ => ⟨I1.kIn, z us s1 vs H1 I1 r qq⟩) he hpl
theorem pargs_0 : PArgs X [] pos (tVs X.K fa (eIs cf .nil)) := fun pins s σ H Q' Q hk I q z => by
  obtain ⟨F, env, h⟩ := q
  exact PySem.W.callWith_K0 I.kIn hk (z [] s [] H I .nil (h.ret (a := []) rfl (Step.refl h.ok) RepL.nil))
theorem eIs_star : eIs cf (.star ia is) = fun env => bnd (asV (eI cf ia) env) fun d e1 => match d with
    | .tup xs => bnd (eIs cf is e1) fun ds e2 => some (.ok (xs ++ ds), e2)
    | .lst xs => bnd (eIs cf is e1) fun ds e2 => some (.ok (xs ++ ds), e2)
    | _ => none := by
  funext env
  rw [asV_bnd]
  rfl
theorem star_D {σ : L2.St} {H : Hp} {Q : List V → Hp → Prop} (q : tVs X.K fa (eIs cf (.star ia is)) σ H Q) : StX.tStar X.K (tV X.K fa (asV (eI cf ia))) (tVs X.K fa (eIs cf is)) σ H Q := by
  obtain ⟨F, env, h⟩ := q
  rw [eIs_star] at h
  refine ⟨F, env, At.bnd (Rl := vRep X.K fa) h fun d e1 F1 H1 v s1 r1 h1 => ?_⟩
  cases d with
  | tup xs =>
    obtain ⟨p, vs, rfl, g1, g2⟩ := Rep.tup_of r1
    exact ⟨p, vs, rfl, .inl (h1.ok.sub.tup g1), F1, e1, At.bnd (Rl := lRep X.K fa) h1 fun ds e2 F2 H2 ws s2 r2 h2 => h2.ret rfl (Step.refl h2.ok) ((g2.mono s2.sub).append r2)⟩
  | lst xs =>
    obtain ⟨p, vs, rfl, g1, g2⟩ := Rep.lst_of r1
    exact ⟨p, vs, rfl, .inr (SqL.of (h1.ok.sub.at g1 rfl)), F1, e1, At.bnd (Rl := lRep X.K fa) h1 fun ds e2 F2 H2 ws s2 r2 h2 => h2.ret rfl (Step.refl h2.ok) ((g2.mono s2.sub).append r2)⟩
  | _ => exact (h1.no rfl).elim
theorem s_star (ha : PI' X fa cf a ia) (hr : PIs' X fa cf es is) : PIs' X fa cf (.Starred a p :: es) (.star ia is) := pa_weak (StX.pa_star (pe_asV ha) hr) fun σ H Q q => star_D q
theorem pargs_S (ha : PI' X fa cf a ia) : PArgs X [.Starred a p] pos (tVs X.K fa (eIs cf (.star ia .nil))) := fun pins s σ H Q' Q hk I q z => by
  refine PySem.W.callWith_S (h₀ := X.base) I.ok.mod.kin hk (thn ((pe_asV ha).run pins s σ H _ I (star_D q)) fun v s1 ⟨y, H1, I1, ry, a, xs, ey, hxs, q⟩ => ?_) rfl
  subst ey
  obtain rfl : v = Value.ref a := ry
  refine StX.star_any I1 hxs fun us s2 I2 rv => ⟨I2.kIn, z us s2 xs H1 I2 rv ?_⟩
  have := tNil_D (K := X.K) (fa := fa) q
  rwa [List.append_nil] at this

/-! ### calls of defs -/
variable {fns : List (Nat × Fn)} {k f : Nat} {args : List Expr}
theorem s_call {x : Str} (G : FnG X.prog X.w X.K X.mg X.base fa fa.tb fns k) (tk : Takes X fa.W) (hg : X.A.guards = some []) (hr : Room (4 * k) X.A) (hgl : Gl X x) (hm : X.mg x = some (.ref (fa.f f))) (hk : PySem.W.keepIn X.K (.ref (fa.f f)) = true) (h : PArgs X args pos (tVs X.K fa (eIs (callF fns k) is)))
    (hdb : (x == ("__debug__" : Str)) = false) : PI' X fa (callF fns k) (.Call (.Name x p) args [] pos) (.call f is) := by
  refine ⟨fun pins s σ H Q I ⟨F, env, q⟩ => ?_⟩
  refine wpAny_Call_Name_kw (ld_glob I hgl hm ?_ hdb)
  refine h pins s σ H (fun vs H1 => spC X.K fa fa.tb fns k f vs H1 Q (WE fa.W σ)) hk I ⟨F, env, At.bnd (Rl := lRep X.K fa) q fun ds e1 F1 H1 vs s1 r1 h1 => call_at r1 h1⟩ fun us s1 vs H1 I1 r qq => ?_
  exact run_G G tk hg hr I1 r qq
/-- a call of what a name holds -/
theorem s_callv {i : Nat} {x : Str} (G : FnG X.prog X.w X.K X.mg X.base fa fa.tb fns k) (tk : Takes X fa.W) (hg : X.A.guards = some []) (hr : Room (4 * k) X.A) (hN : X.N[i]? = some x) (hv : Vis X.env.scope x) (hd : (x == ("__debug__" : Str)) = false) (hcd : (x == ("__classdict__" : Str)) = false)
    (hk : ∀ f, (fns.lookup f).isSome = true → PySem.W.keepIn X.K (.ref (fa.f f)) = true) (h : PArgs X args pos (tVs X.K fa (eIs (callF fns k) is))) :
    PI' X fa (callF fns k) (.Call (.Name x p) args [] pos) (.callv i is) := by
  refine ⟨fun pins s σ H Q I ⟨F, env, q⟩ => ?_⟩
  have q' : At X.K fa (RRep X.K fa) (fun env => match env[i]? with
    | some (.val (.fn f)) => match eIs (callF fns k) is env with
      | some (.ok ds, e1) => rsC (callF fns k f none ds) e1
      | _ => none
    | _ => none) F H σ env Q := q
  cases he : env[i]? with
  | none => exact (q'.no (by rw [he])).elim
  | some z =>
    cases z with
    | val d =>
      cases d with
      | fn f =>
        obtain ⟨v, hv1, hv2⟩ := q.ok.val i _ he
        cases hv2
        cases ha : eIs (callF fns k) is env with
        | none => exact (q'.no (by simp only [he, ha])).elim
        | some oe =>
        obtain ⟨o, e1⟩ := oe
        cases o with
        | error x => exact (q'.no (by simp only [he, ha])).elim
        | ok ds =>
        by_cases hf : (fns.lookup f).isSome = true
        · refine wpAny_Call_Name_kw (thn ((pe_var (pos := p) hN hv hd hcd).run pins s σ H (fun v H1 => v = .ref (fa.f f) ∧ H1 = H) I ⟨_, hv1, rfl, rfl⟩) fun u s1 ⟨v, H1, I1, r1, q1⟩ => ?_)
          obtain ⟨rfl, rfl⟩ := q1
          cases r1
          refine h pins s1 σ _ (fun vs H1 => spC X.K fa fa.tb fns k f vs H1 Q (WE fa.W σ)) (hk f hf) I1 ⟨F, env, At.bnd (Rl := lRep X.K fa) (q'.cast (m' := fun env => bnd (eIs (callF fns k) is env) fun ds e1 => rsC (callF fns k f none ds) e1) (by simp only [he, ha]; rfl)) fun ds e1 F1 H1 vs s1 r1 h1 => call_at r1 h1⟩ fun us s1 vs H1 I1 r qq => ?_
          exact run_G G tk hg hr I1 r qq
        · have hn : ∀ io ds, callF fns k f io ds = none := fun io ds => by
            cases hc : callF fns k f io ds with
            | none => rfl
            | some z => exact absurd (callF_has hc) hf
          exact (q'.no (by simp only [he, ha, hn]; rfl)).elim
      | _ => exact (q'.no (by rw [he])).elim
    | _ => exact (q'.no (by rw [he])).elim
theorem eI_callio {s : Nat} : eI cf (.callio f s is) = fun env => if (held env s).isSome then bnd (eIs cf is env) fun ds e1 => match held e1 s with
      | some h => match cf f (some h) ds with
        | some (r, some h2) => some (r, hold e1 s h2)
        | _ => none
      | none => none
    else none := rfl
/-- a call whose first argument is a name's thing, by reference -/
theorem s_callio {px : Pos} {i : Nat} {x y : Str} (G : FnG X.prog X.w X.K X.mg X.base fa fa.tb fns k) (tk : Takes X fa.W) (hg : X.A.guards = some []) (hr : Room (4 * k) X.A) (hgl : Gl X y) (hm : X.mg y = some (.ref (fa.f f))) (hk : PySem.W.keepIn X.K (.ref (fa.f f)) = true) (hdb : (y == ("__debug__" : Str)) = false)
    (hN : X.N[i]? = some x) (hv : Vis X.env.scope x) (hd : (x == ("__debug__" : Str)) = false) (hcd : (x == ("__classdict__" : Str)) = false) (h : PIs' X fa (callF fns k) es is) (hpl : (backTo pos (starEach es X.env)).any (·.1) = false) :
    PI' X fa (callF fns k) (.Call (.Name y p) (.Name x px :: es) [] pos) (.callio f i is) := by
  refine ⟨fun pins s σ H Q I ⟨F, env, q⟩ => ?_⟩
  rw [eI_callio] at q
  cases hh : held env i with
  | none => exact (q.no (by rw [hh]; rfl)).elim
  | some x0 =>
  obtain ⟨v0, fp0, g1, g2⟩ := q.ok.own i x0 hh
  refine wpAny_Call_Name_kw (ld_glob I hgl hm ?_ hdb)
  have hA : PArgs X (.Name x px :: es) pos (tCons (tVar i) (tVs X.K fa (eIs (callF fns k) is))) := pargs_K (pa_cons (pe_var hN hv hd hcd) h rfl) rfl hpl
  refine hA pins s σ H (fun vs H1 => spC X.K fa fa.tb fns k f vs H1 Q (WE fa.W σ)) hk I ⟨v0, g1, F, env, At.bnd (Rl := lRep X.K fa) (m := eIs (callF fns k) is) (q.cast (by rw [hh]; rfl)) fun ds e1 F1 H1 vs s1 r1 h1 => ?_⟩ fun us s1 vs H1 I1 r qq => run_G G tk hg hr I1 r qq
  cases h2 : held e1 i with
  | none => exact (h1.no (by rw [h2])).elim
  | some x1 =>
  obtain ⟨v1, fp, k1, k2⟩ := h1.ok.own i x1 h2
  rw [g1] at k1; cases k1
  cases hc : callF fns k f (some x1) ds with
  | none => exact (h1.no (by simp only [h2, hc])).elim
  | some z =>
  obtain ⟨o, out⟩ := z
  cases out with
  | none => exact (h1.no (by simp only [h2, hc])).elim
  | some y1 =>
  refine ⟨F1, some x1, ds, fp, o, some y1, .io k2 r1, ⟨h1.ok.sub, h1.ok.tabs⟩, hc, fun F' H' fp' c => ?_⟩
  cases o with
  | ok z => exact fun v cr => h1.ret (by simp only [h2, hc]) (cst_stepIo h1.ok h2 g1 k2 c) (cres_rIo h1.ok h2 g1 k2 c cr)
  | error x => exact fun cls d xr => h1.err (by simp only [h2, hc]) (cst_stepIo h1.ok h2 g1 k2 c) xr
theorem eI_callfr : eI cf (.callfr f ia is) = fun env => bnd (eI cf ia env) fun r e1 => match r with
    | .new h => bnd (eIs cf is e1) fun ds e2 => rsC (cf f (some h) ds) e2
    | _ => none := rfl
/-- .. is a new thing -/
theorem s_callfr {y : Str} (G : FnG X.prog X.w X.K X.mg X.base fa fa.tb fns k) (tk : Takes X fa.W) (hg : X.A.guards = some []) (hr : Room (4 * k) X.A) (hgl : Gl X y) (hm : X.mg y = some (.ref (fa.f f))) (hk : PySem.W.keepIn X.K (.ref (fa.f f)) = true) (hdb : (y == ("__debug__" : Str)) = false)
    (ha : PI' X fa (callF fns k) a ia) (h : PIs' X fa (callF fns k) es is) (he : starEach (a :: es) X.env = (false, eval a X.env) :: starEach es X.env) (hpl : (backTo pos (starEach es X.env)).any (·.1) = false) :
    PI' X fa (callF fns k) (.Call (.Name y p) (a :: es) [] pos) (.callfr f ia is) := by
  refine ⟨fun pins s σ H Q I ⟨F, env, q⟩ => ?_⟩
  rw [eI_callfr] at q
  refine wpAny_Call_Name_kw (ld_glob I hgl hm ?_ hdb)
  have hA : PArgs X (a :: es) pos (tCons (tI X.K fa (eI (callF fns k) ia)) (tVs X.K fa (eIs (callF fns k) is))) := pargs_K (pa_cons ha h he) he hpl
  refine hA pins s σ H (fun vs H1 => spC X.K fa fa.tb fns k f vs H1 Q (WE fa.W σ)) hk I ⟨F, env, AtB.bnd (Rl := RRep X.K fa) q.b fun r e1 F1 H1 v s1 rr1 h1 => ?_⟩ fun us s1 vs H1 I1 r qq => run_G G tk hg hr I1 r qq
  cases r with
  | val d => exact (h1.no rfl).elim
  | new x1 =>
  refine ⟨F1, e1, AtB.bnd (Rl := lRep X.K fa) h1 fun ds e2 F2 H2 vs s2 r2 h2 => ?_⟩
  obtain ⟨fp, k1, k2, k3⟩ := rr1.stay s2
  cases hc : callF fns k f (some x1) ds with
  | none => exact (h2.no (by simp only [hc]; rfl)).elim
  | some z =>
  obtain ⟨o, out⟩ := z
  refine ⟨F2, some x1, ds, fp, o, out, .io k1 r2, ⟨h2.1.ok.sub, h2.1.ok.tabs⟩, hc, fun F' H' fp' c => ?_⟩
  cases o with
  | ok z => exact fun v cr => h2.ret (by simp only [hc]; rfl) (cst_stepFr h2.1 k2 k3 c) (cres_rFr h2.1 k2 k3 c cr)
  | error x => exact fun cls d xr => h2.err (by simp only [hc]; rfl) (cst_stepFr h2.1 k2 k3 c) xr
end
end DI

namespace DI
open PySem L2

/-! ### what is locked stays locked -/
def Fz (H H' : Hp) : Prop := ∀ a od u, H a = some (.frz od u) → H' a = some (.frz od u)
theorem Fz.refl (H : Hp) : Fz H H := fun _ _ _ h => h
theorem Fz.trans {H H1 H2 : Hp} (a : Fz H H1) (b : Fz H1 H2) : Fz H H2 := fun x o u h => b x o u (a x o u h)
section
variable {K : PySem.W.Frag} {fa : Nat → Addr} {F H : Hp}
mutual
theorem RepO.nofrz : ∀ {v : V} {x : Ho} {fp : List Addr}, RepO K fa F H v x fp → ∀ a ∈ fp, ∀ od u, H a ≠ some (.frz od u)
  | _, _, _, .fz r, a, m => by cases m
  | _, _, _, .ls h f r n, a, m => by
    rcases List.mem_cons.mp m with rfl | m
    · intro od u z; rw [h] at z; cases z
    · exact RepOs.nofrz r a m
  | _, _, _, .dc h f _ r n, a, m => by
    rcases List.mem_cons.mp m with rfl | m
    · intro od u z; rw [h] at z; cases z
    · exact RepOk.nofrz r a m
  | _, _, _, .dt h f _ r n, a, m => by
    rcases List.mem_cons.mp m with rfl | m
    · intro od u z; rw [h] at z; cases z
    · exact RepOt.nofrz r a m
  | _, _, _, .ob h f r n, a, m => by
    rcases List.mem_cons.mp m with rfl | m
    · intro od u z; rw [h] at z; cases z
    · exact RepOf.nofrz r a m
theorem RepOs.nofrz : ∀ {v : List V} {x : List Ho} {fp : List Addr}, RepOs K fa F H v x fp → ∀ a ∈ fp, ∀ od u, H a ≠ some (.frz od u)
  | _, _, _, .nil, a, m => by cases m
  | _, _, _, .cons r t d, a, m => by
    rcases List.mem_append.mp m with m | m
    · exact RepO.nofrz r a m
    · exact RepOs.nofrz t a m
theorem RepOk.nofrz : ∀ {v : List (Key × V)} {x : List (Key × Ho)} {fp : List Addr}, RepOk K fa F H v x fp → ∀ a ∈ fp, ∀ od u, H a ≠ some (.frz od u)
  | _, _, _, .nil, a, m => by cases m
  | _, _, _, .cons r t d, a, m => by
    rcases List.mem_append.mp m with m | m
    · exact RepO.nofrz r a m
    · exact RepOk.nofrz t a m
theorem RepOt.nofrz : ∀ {v : List (List Key × V)} {x : List (List Key × Ho)} {fp : List Addr}, RepOt K fa F H v x fp → ∀ a ∈ fp, ∀ od u, H a ≠ some (.frz od u)
  | _, _, _, .nil, a, m => by cases m
  | _, _, _, .cons r t d, a, m => by
    rcases List.mem_append.mp m with m | m
    · exact RepO.nofrz r a m
    · exact RepOt.nofrz t a m
theorem RepOf.nofrz : ∀ {v : List (Str × V)} {x : List (Nat × Ho)} {fp : List Addr}, RepOf K fa F H v x fp → ∀ a ∈ fp, ∀ od u, H a ≠ some (.frz od u)
  | _, _, _, .nil, a, m => by cases m
  | _, _, _, .cons _ r t d, a, m => by
    rcases List.mem_append.mp m with m | m
    · exact RepO.nofrz r a m
    · exact RepOf.nofrz t a m
end
end
theorem Step.fz {K : PySem.W.Frag} {fa : Fa} {F H F' H' : Hp} {σ σ' : L2.St} {env env' : Ev} (s : Step K fa F H σ env F' H' σ' env') : Fz H H' := fun a od u e =>
  (s.keep a _ e fun ⟨i, x, v, fp, _, _, r, m⟩ => r.nofrz a m od u e).nd (fun _ z => by cases z) rfl
theorem CSt.fz {K : PySem.W.Frag} {fa : Nat → Addr} {tb : List (Addr × Str)} {F H F' H' : Hp} {vs : List V} {out : Option Ho} {fp' : List Addr} (c : CSt K fa tb F H vs [] F' H' out fp') : Fz H H' := fun a od u e =>
  (c.keep a _ e List.not_mem_nil).nd (fun _ z => by cases z) rfl
/-! ### what is walked -/
structure ItOk (K : PySem.W.Frag) (fa : Nat → Addr) (F H0 : Hp) (J : L2.It) (ds : List D) : Prop where
  go : ∀ (i : Nat) (d : D) (H : Hp), ds[i]? = some d → SL F H → Fz H0 H → J.go i H
  yld : ∀ (i : Nat) (d : D) (G H : Hp) (x : V) (H' : Hp), ds[i]? = some d → Same F G → SL G H → J.yld i H x H' → ∃ G', (∀ tb, CSt K fa tb G H [] [] G' H' none []) ∧ Rep K fa G' x d
  stop : ∀ (H : Hp), SL F H → Fz H0 H → J.stop ds.length H
def iRep (K : PySem.W.Frag) (fa : Fa) : RlT (List D) L2.It := fun _ _ _ _ F' H' _ _ J ds => ItOk K fa F' H' J ds
instance {K : PySem.W.Frag} {fa : Fa} : Lif K fa (iRep K fa) := ⟨fun _ h => h⟩
def tIt (K : PySem.W.Frag) (fa : Fa) (f : Ev → Res (List D)) : TI := fun σ H R => ∃ F env, At K fa (iRep K fa) f F H σ env R
section
variable {K : PySem.W.Frag} {fa : Nat → Addr} {F G H H0 : Hp}
theorem cst_refl {tb : List (Addr × Str)} (s : SL G H) : CSt K fa tb G H [] [] G H none [] := ⟨Same.refl _, s, fun _ _ e _ => .of e, fun _ _ h _ => h, rfl, (fun _ m => by cases m), id⟩
theorem cst_new {tb : List (Addr × Str)} {T : Addr} {o : HO} (s : SL G H) (h : H T = none) (nt : ntb o) : CSt K fa tb G H [] [] (upd G T o) (upd H T o) none [] :=
  ⟨same_upd (sub_none s h), same_upd2 s, fun a u e _ => .of (by rw [upd_ne (ne_of_none e h)]; exact e), fun a h1 h2 _ => by
    have : a ≠ T := fun z => by subst z; exact h1 h
    rw [upd_ne this]; exact h2, rfl, (fun _ m => by cases m), fun t => tabs_froz t h nt s⟩
theorem itok_list {a : Addr} {xs : List V} {ds : List D} (h : SqL K F a xs) (r : RepL K fa F xs ds) : ItOk K fa F H0 (Itl K a) ds := by
  refine ⟨fun i d H e s _ => ?_, fun i d G H x H' e sG sH y => ?_, fun H s _ => ⟨xs, s.seq h, by rw [r.length]; exact Nat.le_refl _⟩⟩
  · obtain ⟨v, hv, _⟩ := r.get e
    exact ⟨xs, v, s.seq h, hv⟩
  · obtain ⟨v, hv, rv⟩ := r.get e
    obtain ⟨rfl, h2⟩ := y
    have := h2 xs ((sH.pre sG).seq h)
    rw [hv] at this
    cases this
    exact ⟨G, fun _ => cst_refl sH, rv.mono sG⟩
theorem itok_tup {a : Addr} {xs : List V} {ds : List D} (h : SqT K F a xs) (r : RepL K fa F xs ds) : ItOk K fa F H0 (Itt K a) ds := by
  refine ⟨fun i d H e s _ => ?_, fun i d G H x H' e sG sH y => ?_, fun H s _ => ⟨xs, s.tup h, by rw [r.length]; exact Nat.le_refl _⟩⟩
  · obtain ⟨v, hv, _⟩ := r.get e
    exact ⟨xs, v, s.tup h, hv⟩
  · obtain ⟨v, hv, rv⟩ := r.get e
    obtain ⟨rfl, h2⟩ := y
    have := h2 xs ((sH.pre sG).tup h)
    rw [hv] at this
    cases this
    exact ⟨G, fun _ => cst_refl sH, rv.mono sG⟩
theorem itok_str (cs : List Nat) : ItOk K fa F H0 (Its (sOf cs)) (cs.map fun c => .str [c]) := by
  refine ⟨fun i d H e _ _ => ?_, fun i d G H x H' e sG sH y => ?_, fun H _ _ => ?_⟩
  · have := (List.getElem?_eq_some_iff.mp e).1
    show i < (sOf cs).cps.size
    simpa [sOf] using this
  · obtain ⟨rfl, c, hc, rfl⟩ := y
    refine ⟨G, fun _ => cst_refl sH, ?_⟩
    rw [List.getElem?_map] at e
    have hc' : cs[i]? = some c := by simpa [sOf] using hc
    rw [hc'] at e
    cases e
    exact .str [c]
  · show (sOf cs).cps.size ≤ _
    simp [sOf]
theorem itok_rng (lo hi : Int) : ItOk K fa F H0 (Itr lo (hi - lo).toNat) (rng lo hi) := by
  have hl : (rng lo hi).length = (hi - lo).toNat := by unfold rng; simp
  refine ⟨fun i d H e _ _ => ?_, fun i d G H x H' e sG sH y => ?_, fun H _ _ => ?_⟩
  · have := (List.getElem?_eq_some_iff.mp e).1
    rw [hl] at this
    exact this
  · obtain ⟨rfl, rfl⟩ := y
    refine ⟨G, fun _ => cst_refl sH, ?_⟩
    unfold rng at e
    rw [List.getElem?_map] at e
    cases e2 : (List.range (hi - lo).toNat)[i]? with
    | none => rw [e2] at e; cases e
    | some j =>
      rw [e2] at e
      have : j = i := by
        rw [List.getElem?_range (by have := (List.getElem?_eq_some_iff.mp e2).1; simpa using this)] at e2
        exact (Option.some.inj e2).symm
      subst this
      cases e
      exact .int _
  · show (hi - lo).toNat ≤ _
    rw [hl]
    exact Nat.le_refl _
end

/-! ### dicts walked: locked first -/
section
variable {K : PySem.W.Frag} {fa : Nat → Addr} {F H0 : Hp}
theorem RepK.get : ∀ {ks : List (Key × V)} {kvs : List (D × D)} {i : Nat} {k : Key} {v : V}, RepK K fa F ks kvs → ks[i]? = some (k, v) → ∃ d, kvs[i]? = some (keyD k, d) ∧ Rep K fa F v d
  | _, _, _, _, _, .nil, e => by simp at e
  | _, _, 0, _, _, .cons r _, e => by simp at e; obtain ⟨rfl, rfl⟩ := e; exact ⟨_, rfl, r⟩
  | _, _, i + 1, k, v, .cons _ t, e => by
    obtain ⟨d, h1, h2⟩ := RepK.get (i := i) (k := k) (v := v) t (by simpa using e)
    exact ⟨d, by simpa using h1, h2⟩
theorem rep_key (k : Key) : Rep K fa F (kV k) (keyD k) := by
  rcases k with i | x
  · exact .int i
  · exact rep_sOf
theorem itok_keys {d : Addr} {od : Obj} {ks : List (Key × V)} {kvs : List (D × D)} (h : H0 d = some (.frz od (.dK ks))) (r : RepK K fa F ks kvs) : ItOk K fa F H0 (Itk d od ks) (kvs.map (·.1)) := by
  refine ⟨fun i e H he s fz => ⟨fz _ _ _ h, ?_⟩, fun i e G H x H' he sG sH y => ?_, fun H s fz => ⟨fz _ _ _ h, by rw [List.length_map, r.length]; exact Nat.le_refl _⟩⟩
  · have := (List.getElem?_eq_some_iff.mp he).1
    rw [List.length_map] at this
    rw [r.length]; exact this
  · obtain ⟨rfl, k, v, h1, rfl⟩ := y
    obtain ⟨e', h2, _⟩ := r.get h1
    rw [List.getElem?_map, h2] at he
    cases he
    exact ⟨G, fun _ => cst_refl sH, rep_key k⟩
theorem itok_vals {d : Addr} {od : Obj} {ks : List (Key × V)} {kvs : List (D × D)} (h : H0 d = some (.frz od (.dK ks))) (r : RepK K fa F ks kvs) : ItOk K fa F H0 (Itd d od ks) (kvs.map (·.2)) := by
  refine ⟨fun i e H he s fz => ⟨fz _ _ _ h, ?_⟩, fun i e G H x H' he sG sH y => ?_, fun H s fz => ⟨fz _ _ _ h, by rw [List.length_map, r.length]; exact Nat.le_refl _⟩⟩
  · have := (List.getElem?_eq_some_iff.mp he).1
    rw [List.length_map] at this
    rw [r.length]; exact this
  · obtain ⟨rfl, k, h1⟩ := y
    obtain ⟨e', h2, h3⟩ := r.get h1
    rw [List.getElem?_map, h2] at he
    cases he
    exact ⟨G, fun _ => cst_refl sH, h3.mono sG⟩
theorem itok_items {d : Addr} {od : Obj} {ks : List (Key × V)} {kvs : List (D × D)} (h : H0 d = some (.frz od (.dK ks))) (r : RepK K fa F ks kvs) : ItOk K fa F H0 (Iti d od ks) (kvs.map fun p => .tup [p.1, p.2]) := by
  refine ⟨fun i e H he s fz => ⟨fz _ _ _ h, ?_⟩, fun i e G H x H' he sG sH y => ?_, fun H s fz => ⟨fz _ _ _ h, by rw [List.length_map, r.length]; exact Nat.le_refl _⟩⟩
  · have := (List.getElem?_eq_some_iff.mp he).1
    rw [List.length_map] at this
    rw [r.length]; exact this
  · obtain ⟨T, k, v, h1, rfl, hT, rfl⟩ := y
    obtain ⟨e', h2, h3⟩ := r.get h1
    rw [List.getElem?_map, h2] at he
    cases he
    have sU : Same G (upd G T (.tup [kV k, v])) := same_upd (sub_none sH hT)
    exact ⟨_, fun _ => cst_new sH hT (fun _ z => by cases z), .tup upd_same (.cons (rep_key k) (.cons ((h3.mono sG).mono sU) .nil))⟩
end
theorem Step.lock {K : PySem.W.Frag} {fa : Fa} {F H : Hp} {σ : L2.St} {env : Ev} {d : Addr} {ks : List (Key × V)} {od : Obj} (o : Ok K fa F H σ env) (hF : F d = some (.dK ks)) (hH : H d = some (.dK ks)) : Step K fa F H σ env F (upd H d (.frz od (.dK ks))) σ env := by
  have c : Calm K fa F H F (upd H d (.frz od (.dK ks))) σ env := fun p hp => by
    have e := (o.own_at hp).1
    exact ⟨upd_ne (fun z => by rw [z, hF] at e; cases e), e⟩
  refine ⟨Same.refl _, fun a u e n => ?_, fun _ _ h _ => h, o.more (Same.refl _) (fun a u e => ?_) c (tabs_dk o.tabs hH), fun _ h => .inl (o.ownsame (Same.refl _) c h), fun _ xs h => ⟨rfl, xs, h⟩⟩
  · by_cases z : a = d
    · subst z
      rw [hH] at e
      cases e
      exact ⟨_, upd_same, .inr (.inr ⟨by rw [hF]; simp, rfl, od, rfl⟩)⟩
    · exact .of (by rw [upd_ne z]; exact e)
  · by_cases z : a = d
    · subst z
      rw [hF] at e
      cases e
      exact .inr ⟨rfl, od, upd_same⟩
    · rw [upd_ne z]; exact o.sub a u e
/-- the dict that comes is locked -/
def tLk (td : TE) : TE := fun σ H Q => td σ H fun x H1 => ∃ d u, x = .ref d ∧ Mut (some u) ∧ ((H1 d = some u ∧ ∀ od, Q x (upd H1 d (.frz od u))) ∨ ∃ od, H1 d = some (.frz od u) ∧ Q x H1)
theorem pe_lk {X : Cx} {e : Expr} {td : TE} (he : PE X e td) : PE X e (tLk td) := ⟨fun pins s σ H Q I h => thn (he.run pins s σ H _ I h) fun u s1 ⟨x, H1, I1, rx, d, uu, ex, mu, q⟩ => by
  rcases q with ⟨hd, q⟩ | ⟨od, hd, q⟩
  · obtain ⟨od, I2⟩ := I1.lock hd mu
    exact ⟨x, _, I2, rx, q od⟩
  · exact ⟨x, H1, I1, rx, q⟩⟩
/-- .. its walk -/
theorem lk_D {K : PySem.W.Frag} {fa : Fa} {F1 H1 : Hp} {σ : L2.St} {e1 : Ev} {v : V} {kvs : List (DI.D × DI.D)} {ds : List DI.D} {R : L2.It → Hp → Prop} {W : V → Hp → Prop} (J : Addr → Obj → List (Key × V) → L2.It) (r1 : Rep K fa F1 v (.dct kvs)) (hk : (keysOf (kvs.map (·.1))).isSome = true)
    (h1 : At K fa (iRep K fa) (fun e => some (.ok ds, e)) F1 H1 σ e1 R) (hJ : ∀ d od ks H, H d = some (.frz od (.dK ks)) → RepK K fa F1 ks kvs → ItOk K fa F1 H (J d od ks) ds)
    (hW : ∀ d od ks H, H d = some (.frz od (.dK ks)) → R (J d od ks) H → W (.ref d) H) : ∃ d u, v = .ref d ∧ Mut (some u) ∧ ((H1 d = some u ∧ ∀ od, W v (upd H1 d (.frz od u))) ∨ ∃ od, H1 d = some (.frz od u) ∧ W v H1) := by
  cases r1 with
  | @dcp a ks _ _ gn g2 =>
    cases g2 with
    | nil => exact absurd rfl gn
    | cons _ _ => simp [keysOf, keyOf] at hk
  | @dct a ks _ g1 g2 =>
    refine ⟨a, .dK ks, rfl, trivial, ?_⟩
    rcases h1.ok.sub.rd g1 with e | ⟨od, e⟩
    · refine .inl ⟨e, fun od => hW a od ks _ upd_same ?_⟩
      exact h1.ret rfl (Step.lock h1.ok g1 e) (hJ a od ks _ upd_same g2)
    · exact .inr ⟨od, e, hW a od ks _ e (h1.ret rfl (Step.refl h1.ok) (hJ a od ks _ e g2))⟩
section
variable {X : Cx} {fa : Fa} {cf : CF} {pos : Pos} {a b c e tg : Expr} {ia ib ic : I} {es : List Expr} {is : Is}
theorem pi_weak {wi wi' : TI} (h : L2.PI X tg a wi) (w : ∀ σ H R, wi' σ H R → wi σ H R) : L2.PI X tg a wi' := ⟨fun pins s σ H R I q => h.run pins s σ H R I (w σ H R q)⟩
theorem pi_or {wi wi' : TI} (h : L2.PI X tg a wi) (h' : L2.PI X tg a wi') : L2.PI X tg a (fun σ H R => wi σ H R ∨ wi' σ H R) := ⟨fun pins s σ H R I q => by
  rcases q with q | q
  · exact h.run pins s σ H R I q
  · exact h'.run pins s σ H R I q⟩
abbrev PIt' (X : Cx) (fa : Fa) (cf : CF) (tg e : Expr) (it : It) : Prop := L2.PI X tg e (tIt X.K fa (eIt cf it))
theorem eIt_seq : eIt cf (.seq ia) = fun env => bnd (eI cf ia env) fun r e1 => okR (seqOf r.d) e1 := rfl
theorem i_seq (ha : PI' X fa cf a ia) : PIt' X fa cf tg a (.seq ia) := pi_weak (pi_or (pi_list (pe_asV ha)) (pi_or (pi_tup (pe_asV ha)) (pi_or (pi_str (pe_asV ha)) (pi_keys (pe_lk (pe_asV ha)))))) fun σ H R ⟨F, env, h⟩ => by
  rw [eIt_seq] at h
  have h' : At X.K fa (iRep X.K fa) (fun env => bnd (asV (eI cf ia) env) fun d e1 => okR (seqOf d) e1) F H σ env R := h.cast asV_bnd
  cases hm : asV (eI cf ia) env with
  | none => exact (h'.no (by rw [hm]; rfl)).elim
  | some oe =>
    obtain ⟨o, e1⟩ := oe
    cases o with
    | error x => exact .inl ⟨F, env, At.bndE (Rl := vRep X.K fa) h' fun d e2 F1 H1 v hz _ _ _ => by rw [hm] at hz; cases hz⟩
    | ok d =>
      have nok : (∀ xs, d ≠ .lst xs) → (∀ xs, d ≠ .tup xs) → (∀ xs, d ≠ .scr xs) → (∀ xs, d ≠ .str xs) → (∀ xs, d ≠ .dct xs) → False := fun n1 n2 n3 n4 n5 => h'.no (by
        rw [hm]
        show okR (seqOf d) e1 = none
        cases d <;> first | rfl | (exact absurd rfl (n1 _)) | (exact absurd rfl (n2 _)) | (exact absurd rfl (n3 _)) | (exact absurd rfl (n4 _)) | (exact absurd rfl (n5 _)))
      cases d with
      | lst xs =>
        refine .inl ⟨F, env, At.bndE (Rl := vRep X.K fa) h' fun d e2 F1 H1 v hz s1 r1 h1 => ?_⟩
        rw [hm] at hz; cases hz
        obtain ⟨p, vs, rfl, g1, g2⟩ := Rep.lst_of r1
        exact ⟨p, rfl, ⟨vs, SqL.of (h1.ok.sub.at g1 rfl)⟩, h1.ret (a := xs) rfl (Step.refl h1.ok) (itok_list (SqL.of g1) g2)⟩
      | tup xs =>
        refine .inr (.inl ⟨F, env, At.bndE (Rl := vRep X.K fa) h' fun d e2 F1 H1 v hz s1 r1 h1 => ?_⟩)
        rw [hm] at hz; cases hz
        obtain ⟨p, vs, rfl, g1, g2⟩ := Rep.tup_of r1
        exact ⟨p, rfl, ⟨vs, h1.ok.sub.tup g1⟩, h1.ret (a := xs) rfl (Step.refl h1.ok) (itok_tup g1 g2)⟩
      | scr xs =>
        refine .inl ⟨F, env, At.bndE (Rl := vRep X.K fa) h' fun d e2 F1 H1 v hz s1 r1 h1 => ?_⟩
        rw [hm] at hz; cases hz
        obtain ⟨p, vs, rfl, g1, g2⟩ := Rep.scr_of r1
        exact ⟨p, rfl, ⟨vs, h1.ok.sub.seq g1⟩, h1.ret (a := xs) rfl (Step.refl h1.ok) (itok_list g1 g2)⟩
      | str cs =>
        refine .inr (.inr (.inl ⟨F, env, At.bndE (Rl := vRep X.K fa) h' fun d e2 F1 H1 v hz s1 r1 h1 => ?_⟩))
        rw [hm] at hz; cases hz
        cases Rep.str_of r1
        exact ⟨_, rfl, h1.ret (a := cs.map fun c => .str [c]) rfl (Step.refl h1.ok) (itok_str cs)⟩
      | dct kvs =>
        refine .inr (.inr (.inr ⟨F, env, At.bndE (Rl := vRep X.K fa) h' fun d e2 F1 H1 v hz s1 r1 h1 => ?_⟩))
        rw [hm] at hz; cases hz
        cases hk : (keysOf (kvs.map (·.1))).isSome with
        | false => exact (h1.no (by simp only [seqOf, hk]; rfl)).elim
        | true => exact lk_D (W := fun x H1 => ∃ d o, x = V.ref d ∧ ((∃ kvs, H1 d = some (.frz o (.dK kvs)) ∧ R (Itk d o kvs) H1) ∨ ∃ kvs, H1 d = some (.frz o (.dT kvs)) ∧ R (Itkt d o kvs) H1)) Itk r1 hk (h1.cast (m' := fun e => some (.ok (kvs.map (·.1)), e)) (by simp only [seqOf, hk]; rfl)) (fun d od ks H e r => itok_keys e r) fun d od ks H e q => ⟨d, od, rfl, .inl ⟨ks, e, q⟩⟩
      | _ => exact (nok (fun _ z => by cases z) (fun _ z => by cases z) (fun _ z => by cases z) (fun _ z => by cases z) (fun _ z => by cases z)).elim
theorem eIt_items : eIt cf (.items ia) = fun env => bnd (asV (eI cf ia) env) fun d e1 => match d with
    | .dct kvs => if (keysOf (kvs.map (·.1))).isSome then some (.ok (kvs.map fun p => .tup [p.1, p.2]), e1) else none
    | _ => none := by
  funext env
  rw [asV_bnd]; rfl
theorem eIt_vals : eIt cf (.vals ia) = fun env => bnd (asV (eI cf ia) env) fun d e1 => match d with
    | .dct kvs => if (keysOf (kvs.map (·.1))).isSome then some (.ok (kvs.map (·.2)), e1) else none
    | _ => none := by
  funext env
  rw [asV_bnd]; rfl
theorem i_items {apos tpos : Pos} {elts : List Expr} {kk : Nat} (ha : PI' X fa cf a ia) (hbase : attributeBase a "items" X.env (eval a X.env) = eval a X.env) (hline : (apos.endLine == pos.line) = true) : PIt' X fa cf (.Tuple elts kk tpos) (.Call (.Attribute a "items" apos) [] [] pos) (.items ia) :=
  pi_weak (pi_items (pe_lk (pe_asV ha)) hbase hline) fun σ H R ⟨F, env, h⟩ => by
    rw [eIt_items] at h
    refine ⟨F, env, At.bnd (Rl := vRep X.K fa) h fun d e1 F1 H1 v s1 r1 h1 => ?_⟩
    cases d with
    | dct kvs =>
      cases hk : (keysOf (kvs.map (·.1))).isSome with
      | false => exact (h1.no (by simp only [hk]; rfl)).elim
      | true => exact lk_D (W := fun x H1 => ∃ d o kvs, x = V.ref d ∧ H1 d = some (.frz o (.dK kvs)) ∧ R (Iti d o kvs) H1) Iti r1 hk (h1.cast (m' := fun e => some (.ok (kvs.map fun p => .tup [p.1, p.2]), e)) (by simp only [hk]; rfl)) (fun d od ks H e r => itok_items e r) fun d od ks H e q => ⟨d, od, ks, rfl, e, q⟩
    | _ => exact (h1.no rfl).elim
theorem i_vals {apos : Pos} (ha : PI' X fa cf a ia) (hbase : attributeBase a "values" X.env (eval a X.env) = eval a X.env) (hline : (apos.endLine == pos.line) = true) : PIt' X fa cf tg (.Call (.Attribute a "values" apos) [] [] pos) (.vals ia) :=
  pi_weak (pi_values (pe_lk (pe_asV ha)) hbase hline) fun σ H R ⟨F, env, h⟩ => by
    rw [eIt_vals] at h
    refine ⟨F, env, At.bnd (Rl := vRep X.K fa) h fun d e1 F1 H1 v s1 r1 h1 => ?_⟩
    cases d with
    | dct kvs =>
      cases hk : (keysOf (kvs.map (·.1))).isSome with
      | false => exact (h1.no (by simp only [hk]; rfl)).elim
      | true => exact lk_D (W := fun x H1 => ∃ d o kvs, x = V.ref d ∧ H1 d = some (.frz o (.dK kvs)) ∧ R (Itd d o kvs) H1) Itd r1 hk (h1.cast (m' := fun e => some (.ok (kvs.map (·.2)), e)) (by simp only [hk]; rfl)) (fun d od ks H e r => itok_vals e r) fun d od ks H e q => ⟨d, od, ks, rfl, e, q⟩
    | _ => exact (h1.no rfl).elim
theorem inW_of {i : Int} (h : inW i = true) : -(2 ^ 62) ≤ i ∧ i < 2 ^ 62 := by
  unfold inW at h
  have := of_decide_eq_true h
  omega
theorem eIt_rng1 : eIt cf (.rng1 ia) = fun env => bnd (eI cf ia env) fun r e1 => match r with
    | .val (.int i) => if inW i then some (.ok (rng 0 i), e1) else none
    | _ => none := rfl
theorem i_rng1 {p : Pos} (hg : Gl X "range") (hm : X.mg "range" = none) (ha : PI' X fa cf a ia) (hs : starEach [a] X.env = [(false, eval a X.env)]) : PIt' X fa cf tg (.Call (.Name "range" p) [a] [] pos) (.rng1 ia) :=
  pi_weak (pi_range1 hg hm (pa_cons ha pa_nil hs) hs) fun σ H R ⟨F, env, h⟩ => by
    rw [eIt_rng1] at h
    refine ⟨F, env, At.bnd (Rl := RRep X.K fa) h fun r e1 F1 H1 v s1 r1 h1 => ?_⟩
    cases r with
    | new _ => exact (h1.no rfl).elim
    | val d =>
      cases d with
      | int i =>
        cases hw : inW i with
        | false => exact (h1.no (by simp only [hw]; rfl)).elim
        | true =>
          cases Rep.int_of r1
          obtain ⟨w1, w2⟩ := inW_of hw
          refine ⟨i, rfl, w1, w2, ?_⟩
          have := itok_rng (K := X.K) (fa := fa) (F := F1) (H0 := H1) 0 i
          rw [Int.sub_zero] at this
          exact h1.ret (a := rng 0 i) (by simp only [hw]; rfl) (Step.refl h1.ok) this
      | _ => exact (h1.no rfl).elim
theorem eIt_rng2 : eIt cf (.rng2 ia ib) = fun env => bnd (eI cf ia env) fun r e1 => match r with
    | .val (.int i) => bnd (eI cf ib e1) fun r2 e2 => match r2 with
      | .val (.int j) => if inW i && inW j then some (.ok (rng i j), e2) else none
      | _ => none
    | _ => none := rfl
theorem i_rng2 {p : Pos} (hg : Gl X "range") (hm : X.mg "range" = none) (ha : PI' X fa cf a ia) (hb : PI' X fa cf b ib) (hs : starEach [a, b] X.env = [(false, eval a X.env), (false, eval b X.env)]) (hs2 : starEach [b] X.env = [(false, eval b X.env)]) :
    PIt' X fa cf tg (.Call (.Name "range" p) [a, b] [] pos) (.rng2 ia ib) :=
  pi_weak (pi_range2 hg hm (pa_cons ha (pa_cons hb pa_nil hs2) (by rw [hs, hs2])) hs hs2) fun σ H R ⟨F, env, h⟩ => by
    rw [eIt_rng2] at h
    refine ⟨F, env, At.bnd (Rl := RRep X.K fa) h fun r e1 F1 H1 v s1 r1 h1 => ?_⟩
    cases r with
    | new _ => exact (h1.no rfl).elim
    | val d =>
      cases d with
      | int i =>
        refine ⟨F1, e1, At.bnd (Rl := RRep X.K fa) h1 fun r e2 F2 H2 w s2 r2 h2 => ?_⟩
        cases r with
        | new _ => exact (h2.no rfl).elim
        | val d =>
          cases d with
          | int j =>
            cases hw : (inW i && inW j) with
            | false => exact (h2.no (by simp only [hw]; rfl)).elim
            | true =>
              have hw' := hw
              rw [Bool.and_eq_true] at hw'
              cases Rep.int_of r1
              cases Rep.int_of r2
              obtain ⟨w1, w2⟩ := inW_of hw'.1
              obtain ⟨w3, w4⟩ := inW_of hw'.2
              exact ⟨i, j, rfl, ⟨w1, w2, w3, w4⟩, h2.ret (a := rng i j) (by simp only [hw]; rfl) (Step.refl h2.ok) (itok_rng i j)⟩
          | _ => exact (h2.no rfl).elim
      | _ => exact (h1.no rfl).elim
end

/-! ### statements -/
def FlOk (K : PySem.W.Frag) (fa : Fa) (F H : Hp) (σ : L2.St) (env : Ev) (F' H' : Hp) (σ' : L2.St) (env' : Ev) (D : Ends) : Fl → Prop
  | .nx => D.nx σ' H'
  | .rt r => ∀ v, RRep K fa F H σ env F' H' σ' env' v r → D.rt v H'
  | .bk => D.bk σ' H'
  | .ct => D.ct σ' H'
def EndS (K : PySem.W.Frag) (fa : Fa) (F H : Hp) (σ : L2.St) (env env' : Ev) (D : Ends) : Except Xc Fl → Prop
  | .ok fl => ∀ F' H' σ', Step K fa F H σ env F' H' σ' env' → FlOk K fa F H σ env F' H' σ' env' D fl
  | .error x => ∀ F' H' σ' cls d, Step K fa F H σ env F' H' σ' env' → XRep K fa F' cls d x → fa.W cls d σ' H'
def AtS (K : PySem.W.Frag) (fa : Fa) (m : Ev → Res Fl) (F H : Hp) (σ : L2.St) (env : Ev) (D : Ends) : Prop :=
  Ok K fa F H σ env ∧ ∃ o env', m env = some (o, env') ∧ EndS K fa F H σ env env' D o
/-- .. told from an earlier entry -/
def AtSB (K : PySem.W.Frag) (fa : Fa) (m : Ev → Res Fl) (F0 H0 : Hp) (σ0 : L2.St) (env0 : Ev) (F H : Hp) (σ : L2.St) (env : Ev) (D : Ends) : Prop :=
  Step K fa F0 H0 σ0 env0 F H σ env ∧ ∃ o env', m env = some (o, env') ∧ EndS K fa F0 H0 σ0 env0 env' D o
def tS (K : PySem.W.Frag) (fa : Fa) (f : Ev → Res Fl) : TS := fun D σ H => ∃ F env, AtS K fa f F H σ env D
section
variable {K : PySem.W.Frag} {fa : Fa} {α β : Type} {F0 H0 F H F1 H1 F2 H2 F' H' : Hp} {σ0 σ σ1 σ2 σ' : L2.St} {env0 env e1 e2 e' : Ev} {D : Ends} {m : Ev → Res Fl}
theorem FlOk.lift {fl : Fl} (s : Step K fa F H σ env F1 H1 σ1 e1) (h : FlOk K fa F H σ env F2 H2 σ2 e2 D fl) : FlOk K fa F1 H1 σ1 e1 F2 H2 σ2 e2 D fl := by
  cases fl with
  | nx => exact h
  | bk => exact h
  | ct => exact h
  | rt r => exact fun v rr => h v (rr.lift s)
theorem EndS.lift {o : Except Xc Fl} (s : Step K fa F H σ env F1 H1 σ1 e1) (q : EndS K fa F H σ env e' D o) : EndS K fa F1 H1 σ1 e1 e' D o := by
  cases o with
  | ok fl => exact fun F' H' σ' s2 => (q F' H' σ' (s.trans s2)).lift s
  | error x => exact fun F' H' σ' cls d s2 r => q F' H' σ' cls d (s.trans s2) r
theorem AtS.ok (h : AtS K fa m F H σ env D) : Ok K fa F H σ env := h.1
theorem AtS.b (h : AtS K fa m F H σ env D) : AtSB K fa m F H σ env F H σ env D := ⟨Step.refl h.1, h.2⟩
theorem AtSB.a (h : AtSB K fa m F0 H0 σ0 env0 F H σ env D) : AtS K fa m F H σ env D := by
  obtain ⟨st, o, env', e, q⟩ := h
  exact ⟨st.ok, o, env', e, q.lift st⟩
theorem AtSB.no (h : AtSB K fa m F0 H0 σ0 env0 F H σ env D) (e : m env = none) : False := by
  obtain ⟨_, o, env', e2, _⟩ := h
  rw [e] at e2; cases e2
theorem AtS.no (h : AtS K fa m F H σ env D) (e : m env = none) : False := h.b.no e
theorem AtSB.fl (h : AtSB K fa m F0 H0 σ0 env0 F H σ env D) {fl : Fl} (e : m env = some (.ok fl, e')) (s : Step K fa F0 H0 σ0 env0 F' H' σ' e') : FlOk K fa F0 H0 σ0 env0 F' H' σ' e' D fl := by
  obtain ⟨_, o, env', e2, q⟩ := h
  rw [e] at e2
  cases e2
  exact q F' H' σ' s
theorem AtS.fl (h : AtS K fa m F H σ env D) {fl : Fl} (e : m env = some (.ok fl, e')) (s : Step K fa F H σ env F' H' σ' e') : FlOk K fa F H σ env F' H' σ' e' D fl := h.b.fl e s
theorem AtSB.err (h : AtSB K fa m F0 H0 σ0 env0 F H σ env D) {x : Xc} (e : m env = some (.error x, e')) {cls : Value} {d : Option Addr} (s : Step K fa F0 H0 σ0 env0 F' H' σ' e') (r : XRep K fa F' cls d x) : fa.W cls d σ' H' := by
  obtain ⟨_, o, env', e2, q⟩ := h
  rw [e] at e2
  cases e2
  exact q F' H' σ' cls d s r
theorem AtS.err (h : AtS K fa m F H σ env D) {x : Xc} (e : m env = some (.error x, e')) {cls : Value} {d : Option Addr} (s : Step K fa F H σ env F' H' σ' e') (r : XRep K fa F' cls d x) : fa.W cls d σ' H' := h.b.err e s r
theorem AtSB.cast {m' : Ev → Res Fl} (h : AtSB K fa m F0 H0 σ0 env0 F H σ env D) (e : m' env = m env) : AtSB K fa m' F0 H0 σ0 env0 F H σ env D := ⟨h.1, by rw [e]; exact h.2⟩
theorem AtS.cast {m' : Ev → Res Fl} (h : AtS K fa m F H σ env D) (e : m' env = m env) : AtS K fa m' F H σ env D := ⟨h.1, by rw [e]; exact h.2⟩
/-- an expression, then the rest -/
theorem AtSB.bnd {Rl : RlT α β} {g : α → Ev → Res Fl} {f : Ev → Res α} {Q1 : β → Hp → Prop} (h : AtSB K fa (fun e => DI.bnd (f e) g) F0 H0 σ0 env0 F H σ env D)
    (k : ∀ a e1 F1 H1 v, Step K fa F H σ env F1 H1 σ e1 → Rl F H σ env F1 H1 σ e1 v a → AtSB K fa (g a) F0 H0 σ0 env0 F1 H1 σ e1 D → Q1 v H1) : At K fa Rl f F H σ env Q1 := by
  obtain ⟨st, o, env', e, q⟩ := h
  simp only at e
  cases hm : f env with
  | none => rw [hm] at e; cases e
  | some oe =>
    obtain ⟨o1, e1⟩ := oe
    rw [hm] at e
    cases o1 with
    | error x =>
      cases e
      exact ⟨st.ok, _, _, hm, fun F' H' cls d s2 r => q F' H' σ cls d (st.trans s2) r⟩
    | ok a => exact ⟨st.ok, _, _, hm, fun F1 H1 v s1 r1 => k a e1 F1 H1 v s1 r1 ⟨st.trans s1, o, env', e, q⟩⟩
theorem AtS.bnd {Rl : RlT α β} {g : α → Ev → Res Fl} {f : Ev → Res α} {Q1 : β → Hp → Prop} (h : AtS K fa (fun e => DI.bnd (f e) g) F H σ env D)
    (k : ∀ a e1 F1 H1 v, Step K fa F H σ env F1 H1 σ e1 → Rl F H σ env F1 H1 σ e1 v a → AtS K fa (g a) F1 H1 σ e1 D → Q1 v H1) : At K fa Rl f F H σ env Q1 :=
  AtSB.bnd h.b fun a e1 F1 H1 v s1 r1 h1 => k a e1 F1 H1 v s1 r1 h1.a
/-- a statement, then the rest -/
theorem AtS.seq {g : Ev → Res Fl} (h : AtS K fa (fun e => DI.bnd (m e) fun fl e1 => match fl with
    | .nx => g e1
    | f => some (.ok f, e1)) F H σ env D) : AtS K fa m F H σ env { D with nx := tS K fa g D } := by
  obtain ⟨ok, o, env', e, q⟩ := h
  simp only at e
  cases hm : m env with
  | none => rw [hm] at e; cases e
  | some oe =>
    obtain ⟨o1, e1⟩ := oe
    rw [hm] at e
    cases o1 with
    | error x => cases e; exact ⟨ok, _, _, hm, q⟩
    | ok fl =>
      refine ⟨ok, _, _, hm, fun F1 H1 σ1 s1 => ?_⟩
      cases fl with
      | nx => exact ⟨F1, e1, s1.ok, o, env', e, q.lift s1⟩
      | rt r => cases e; exact q F1 H1 σ1 s1
      | bk => cases e; exact q F1 H1 σ1 s1
      | ct => cases e; exact q F1 H1 σ1 s1
end
section
variable {X : Cx} {fa : Fa} {cf : CF} {pos : Pos} {a b c e tg : Expr} {ia ib ic : I} {es : List Expr} {is : Is}
theorem ps_weak {st : Stmt} {t t' : TS} (h : PS X st t) (w : ∀ D σ H, t' D σ H → t D σ H) : PS X st t' := ⟨fun pins s σ H D I q => h.run pins s σ H D I (w D σ H q)⟩
theorem pss_weak {st : List Stmt} {t t' : TS} (h : PSs X st t) (w : ∀ D σ H, t' D σ H → t D σ H) : PSs X st t' := ⟨fun pins s σ H D I q => h.run pins s σ H D I (w D σ H q)⟩
abbrev PS' (X : Cx) (fa : Fa) (cf : CF) (st : Stmt) (i : S) : Prop := PS X st (tS X.K fa (eS cf i))
abbrev PSs' (X : Cx) (fa : Fa) (cf : CF) (st : List Stmt) (i : Ss) : Prop := PSs X st (tS X.K fa (eSs cf i))
theorem b_nil : PSs' X fa cf [] .nil := pss_weak pss_nil fun D σ H ⟨F, env, h⟩ => h.fl (fl := .nx) rfl (Step.refl h.ok)
theorem b_cons {st : Stmt} {sts : List Stmt} {i : S} {is : Ss} (h1 : PS' X fa cf st i) (h2 : PSs' X fa cf sts is) : PSs' X fa cf (st :: sts) (.cons i is) := pss_weak (pss_cons h1 h2) fun D σ H ⟨F, env, h⟩ => ⟨F, env, AtS.seq (m := eS cf i) (g := eSs cf is) h⟩
theorem eS_ret : eS cf (.ret ia) = fun env => bnd (eI cf ia env) fun r e1 => some (.ok (.rt r), e1) := rfl
theorem b_ret (ha : PI' X fa cf a ia) : PS' X fa cf (.Return (some a) pos) (.ret ia) := ps_weak (ps_ret ha) fun D σ H ⟨F, env, h⟩ => by
  rw [eS_ret] at h
  exact ⟨F, env, AtSB.bnd (Rl := RRep X.K fa) h.b fun r e1 F1 H1 v s1 r1 h1 => h1.fl (fl := .rt r) rfl h1.1 v r1⟩
theorem b_pass : PS' X fa cf (.Pass pos) .pass := ps_weak ps_pass fun D σ H ⟨F, env, h⟩ => h.fl (fl := .nx) rfl (Step.refl h.ok)
theorem b_brk : PS' X fa cf (.Break pos) .brk := ps_weak ps_break fun D σ H ⟨F, env, h⟩ => h.fl (fl := .bk) rfl (Step.refl h.ok)
theorem b_cont : PS' X fa cf (.Continue pos) .cont := ps_weak ps_continue fun D σ H ⟨F, env, h⟩ => h.fl (fl := .ct) rfl (Step.refl h.ok)
theorem eS_expr : eS cf (.expr ia) = fun env => bnd (eI cf ia env) fun _ e1 => some (.ok .nx, e1) := rfl
theorem b_expr (ha : PI' X fa cf a ia) (hs : swapsWith a none pos.line X.env = pure false) : PS' X fa cf (.Expr a pos) (.expr ia) := ps_weak (ps_expr ha hs) fun D σ H ⟨F, env, h⟩ => by
  rw [eS_expr] at h
  exact ⟨F, env, AtS.bnd (Rl := RRep X.K fa) h fun r e1 F1 H1 v s1 r1 h1 => h1.fl (fl := .nx) rfl (Step.refl h1.ok)⟩
/-- name = value, once the value's reading is there -/
theorem eS_set {i : Nat} : eS cf (.set i ia) = fun env => bnd (eI cf ia env) fun r e1 => if free e1 i then some (.ok .nx, e1.set i (asSl r)) else none := rfl
theorem set_D {i : Nat} {D : Ends} {σ : L2.St} {H : Hp} (q : tS X.K fa (eS cf (.set i ia)) D σ H) : tAsg (tI X.K fa (eI cf ia)) (gName i) D σ H := by
  obtain ⟨F, env, h⟩ := q
  rw [eS_set] at h
  refine ⟨F, env, AtSB.bnd (Rl := RRep X.K fa) h.b fun r e1 F1 H1 v s1 r1 h1 => ?_⟩
  cases hf : free e1 i with
  | false => exact (h1.no (by simp only [hf]; rfl)).elim
  | true => exact h1.fl (fl := .nx) (by simp only [hf]; rfl) (s1.assign r1 hf)
theorem b_set {i : Nat} {x : Str} {px : Pos} (hN : X.N.Nodup) (hi : X.N[i]? = some x) (hx : Loc X.env.scope x) (ha : PI' X fa cf a ia) (hs : swapsWith a (some (.Name x px)) pos.line X.env = pure false) (hf : X.fn x = true ∨ X.env.scope.names.lookup x = some .local) :
    PS' X fa cf (.Assign [.Name x px] a pos) (.set i ia) := ps_weak (ps_set hN hi hx ha hs hf) fun D σ H q => set_D q
theorem eS_ifs {tc : T} {sa sb : Ss} : eS cf (.ifs tc sa sb) = fun env => bnd (eT cf tc env) fun k e1 => if k then eSs cf sa e1 else eSs cf sb e1 := rfl
theorem b_if {ca cb : List Stmt} {tc : T} {sa sb : Ss} (hc : PT' X fa cf c tc) (ha : PSs' X fa cf ca sa) (hb : PSs' X fa cf cb sb) : PS' X fa cf (.If c ca cb pos) (.ifs tc sa sb) := ps_weak (ps_if hc ha hb) fun D σ H ⟨F, env, h⟩ => by
  rw [eS_ifs] at h
  refine ⟨F, env, AtS.bnd (Rl := bRep) h fun k e1 F1 H1 v s1 r1 h1 => ?_⟩
  cases r1
  cases k with
  | true => exact iteT ⟨F1, e1, h1⟩
  | false => exact iteF ⟨F1, e1, h1⟩
end

/-! ### what a for binds -/
mutual
def gT (K : PySem.W.Frag) : Tg → TG
  | .nm s => gName s
  | .tp ts => gTup K ts.length (gTs K ts)
def gTs (K : PySem.W.Frag) : List Tg → TGs
  | [] => gNil
  | t :: ts => gCons (gT K t) (gTs K ts)
end
section
variable {K : PySem.W.Frag} {fa : Fa} {F0 H0 F H : Hp} {σ0 : L2.St} {env0 : Ev}
theorem bindTs_len : ∀ {ts : List Tg} {ds : List D} {env e0 : Ev}, bindTs ts ds env = some e0 → ds.length = ts.length
  | [], [], _, _, _ => rfl
  | [], _ :: _, _, _, h => by cases h
  | _ :: _, [], _, _, h => by cases h
  | t :: ts, d :: ds, env, e0, h => by
    simp only [bindTs] at h
    split at h
    · rw [List.length_cons, List.length_cons, bindTs_len h]
    · cases h
mutual
theorem bind_D : ∀ (tg : Tg) {d : D} {x : V} {env e0 : Ev} {σ : L2.St} {Q : L2.St → Hp → Prop}, bindT tg d env = some e0 → Step K fa F0 H0 σ0 env0 F H σ env → Rep K fa F x d → (∀ σ', Step K fa F0 H0 σ0 env0 F H σ' e0 → (∀ i, i ∉ tg.slots → σ'[i]? = σ[i]?) → σ'.length = σ.length → Q σ' H) → gT K tg x σ H Q
  | .nm s, d, x, env, e0, σ, Q, h, st, r, q => by
    simp only [bindT] at h
    split at h
    · rename_i hf
      cases h
      exact q _ (st.assign (r := .val d) r hf) (fun i hi => List.getElem?_set_ne fun z => hi (by simp [Tg.slots, z])) (by rw [List.length_set])
    · cases h
  | .tp ts, d, x, env, e0, σ, Q, h, st, r, q => by
    cases d with
    | tup ds =>
      simp only [bindT] at h
      obtain ⟨p, vs, rfl, g1, g2⟩ := Rep.tup_of r
      exact ⟨p, vs, rfl, st.ok.sub.tup g1, by rw [g2.length, bindTs_len h], bind_Ds ts h st g2 fun σ' s' h1 h2 => q σ' s' (fun i hi => h1 i (by simpa [Tg.slots] using hi)) h2⟩
    | _ => simp [bindT] at h
theorem bind_Ds : ∀ (ts : List Tg) {ds : List D} {xs : List V} {env e0 : Ev} {σ : L2.St} {Q : L2.St → Hp → Prop}, bindTs ts ds env = some e0 → Step K fa F0 H0 σ0 env0 F H σ env → RepL K fa F xs ds → (∀ σ', Step K fa F0 H0 σ0 env0 F H σ' e0 → (∀ i, i ∉ Tg.slotss ts → σ'[i]? = σ[i]?) → σ'.length = σ.length → Q σ' H) → gTs K ts xs σ H Q
  | [], [], xs, env, e0, σ, Q, h, st, r, q => by
    cases h
    cases r
    exact ⟨rfl, q σ st (fun _ _ => rfl) rfl⟩
  | [], _ :: _, _, _, _, _, _, h, _, _, _ => by cases h
  | _ :: _, [], _, _, _, _, _, h, _, _, _ => by cases h
  | t :: ts, d :: ds, xs, env, e0, σ, Q, h, st, r, q => by
    cases r with
    | cons r1 r2 =>
      simp only [bindTs] at h
      split at h
      · rename_i e1 h1
        exact ⟨_, _, rfl, bind_D t h1 st r1 fun σ' st' k1 k2 => bind_Ds ts h st' r2 fun σ2 st2 k3 k4 => q σ2 st2 (fun i hi => by
          rw [k3 i (fun z => hi (by simp [Tg.slotss, z])), k1 i (fun z => hi (by simp [Tg.slotss, z]))]) (by rw [k4, k2])⟩
      · cases h
end
end

/-! ### for -/
section
variable {X : Cx} {fa : Fa} {cf : CF} {pos : Pos} {a b c e tg : Expr} {ia ib ic : I} {es : List Expr} {is : Is}
theorem cst_stepS {K : PySem.W.Frag} {F0 H0 F H F' H' : Hp} {σ0 σ : L2.St} {env0 env : Ev} (s : Step K fa F0 H0 σ0 env0 F H σ env) (c : CSt K fa fa.tb F H [] [] F' H' none []) : Step K fa F0 H0 σ0 env0 F' H' σ env := s.trans (cst_step s.ok c)
theorem for_D {f : Ev → Res (List D)} {body : Ev → Res Fl} {tg : Tg} {D : Ends} {σ : L2.St} {H : Hp}
    (q : tS X.K fa (fun env => bnd (f env) fun ds e1 => forD body tg ds e1) D σ H) : tFor (tIt X.K fa f) (gT X.K tg) (tS X.K fa body) D σ H := by
  obtain ⟨F, env, h⟩ := q
  refine ⟨F, env, AtSB.bnd (Rl := iRep X.K fa) h.b fun ds e1 F1 H1 J s1 it h1 => ?_⟩
  refine ⟨fun i m σ' H' => ∃ F' en, AtSB X.K fa (forD body tg (ds.drop i)) F H σ env F' H' σ' en D ∧ (Same F1 F' ∧ Fz H1 H') ∧ i ≤ ds.length ∧ m = ds.length - i, ⟨ds.length, F1, e1, h1, ⟨Same.refl _, Fz.refl _⟩, Nat.zero_le _, rfl⟩, ?_⟩
  rintro i m σ' H' ⟨F', en, hb, ⟨sF, fz⟩, hi, hm⟩
  have sub : SL F1 H' := hb.1.ok.sub.pre sF
  by_cases hlt : i < ds.length
  · have hd : ds[i]? = some ds[i] := List.getElem?_eq_getElem hlt
    rw [List.drop_eq_getElem_cons hlt] at hb
    refine .inr ⟨it.go i _ H' hd sub fz, fun σ2 H2 => ∃ F2 en2, AtSB X.K fa (forD body tg (ds.drop (i + 1))) F H σ env F2 H2 σ2 en2 D ∧ (Same F1 F2 ∧ Fz H1 H2), fun σ2 H2 ⟨F2, en2, a1, a2⟩ => ⟨ds.length - (i + 1), by omega, F2, en2, a1, a2, hlt, rfl⟩, fun x H2 hy => ?_⟩
    obtain ⟨G', cst', rx⟩ := it.yld i _ F' H' x H2 hd sF hb.1.ok.sub hy
    have cst := cst' fa.tb
    have st2 := cst_stepS hb.1 cst
    have hb' : AtSB X.K fa (fun env => match bindT tg ds[i] env with
        | none => none
        | some e0 => bnd (body e0) fun fl e1 => match fl with
          | .nx => forD body tg (ds.drop (i + 1)) e1
          | .ct => forD body tg (ds.drop (i + 1)) e1
          | .bk => some (.ok .nx, e1)
          | .rt r => some (.ok (.rt r), e1)) F H σ env F' H' σ' en D := hb
    cases hbd : bindT tg ds[i] en with
    | none => exact (hb'.no (by rw [hbd])).elim
    | some e0 =>
      refine bind_D tg hbd st2 rx fun σ3 st3 _ _ => ?_
      obtain ⟨_, o, envF, e9, q9⟩ := hb'
      simp only [hbd] at e9
      cases hbo : body e0 with
      | none => rw [hbo] at e9; cases e9
      | some oe =>
        obtain ⟨o1, e4⟩ := oe
        rw [hbo] at e9
        cases o1 with
        | error x =>
          cases e9
          exact ⟨G', e0, st3.ok, _, _, hbo, fun F4 H4 σ4 cls d s4 r => q9 F4 H4 σ4 cls d (st3.trans s4) r⟩
        | ok fl =>
          refine ⟨G', e0, st3.ok, _, _, hbo, fun F4 H4 σ4 s4 => ?_⟩
          cases fl with
          | nx => exact ⟨F4, e4, ⟨st3.trans s4, o, envF, e9, q9⟩, (sF.trans cst.sub).trans s4.sub, (fz.trans cst.fz).trans s4.fz⟩
          | ct => exact ⟨F4, e4, ⟨st3.trans s4, o, envF, e9, q9⟩, (sF.trans cst.sub).trans s4.sub, (fz.trans cst.fz).trans s4.fz⟩
          | bk => cases e9; exact q9 F4 H4 σ4 (st3.trans s4)
          | rt r => cases e9; exact fun v rr => q9 F4 H4 σ4 (st3.trans s4) v (rr.lift st3)
  · have ei : i = ds.length := by omega
    subst ei
    rw [List.drop_length] at hb
    exact .inl ⟨it.stop H' sub fz, hb.fl (fl := .nx) rfl hb.1⟩
theorem eS_for {tg : Tg} {it : It} {ib : Ss} : eS cf (.for_ tg it ib) = fun env => bnd (eIt cf it env) fun ds e1 => forD (fun e => eSs cf ib e) tg ds e1 := rfl
theorem b_for {tgx : Expr} {tg : Tg} {it : It} {ib : Ss} {bd : List Stmt} (hxe : PassesOwn (model X.prog X.w) X.A X.env X.xe) (hc : X.calm = true) (hg : PG X tgx (gT X.K tg))
    (ha : PIt' X fa cf tgx a it) (hb : PSs' X fa cf bd ib) (hs : ∀ x, foldedSetIterable a X.env x = pure x) : PS' X fa cf (.For tgx a bd [] pos) (.for_ tg it ib) :=
  ps_weak (ps_for hxe hc ha hg hb hs) fun D σ H q => for_D (by rw [eS_for] at q; exact q)
end
section
open PySem.Spec PyProof.Rows
/-! ### enumerate(tuple) -/
theorem meets_en1 {v : Value} {o : Obj} {Hh : Heap → Prop} (B : Begins v o Hh) :
    Meets (Builtin.«enumerate.__new__» ⟨[.type "enumerate", v], []⟩) (fun _ R s => Hh s.heap ∧
      R (.ok (.ret (.ref (s.heap.push o).objs.size))) { s with heap := (s.heap.push o).push { cls := .type "enumerate", data := .fields #[.none, .bool false, .ref s.heap.objs.size, rawInt 0, .none, .none] } }) :=
  .of_wp fun prog w A R s h => by
    obtain ⟨hp, g, d, tk, os⟩ := s
    obtain ⟨h1, h⟩ := h
    have hsub := sub_enumerate
    have begin_ : ∀ {A' : Around} {E : Value → Shared → Prop} {Q : Value → Shared → Prop}, Q (.ref hp.objs.size) ⟨hp.push o, g, d, tk, os⟩ → wpAny (model prog w) A' (pyIter v) Q E ⟨hp, g, d, tk, os⟩ :=
      fun q => B.iter prog w _ _ ⟨hp, g, d, tk, os⟩ _ h1 q
    wp_walk using begin_
    refine wpAny_stack_any fun st => wpAny_pure ?_
    split
    · rename_i c _ _ _ _ _
      cases (c == Value.type "enumerate")
      · wp_walk using begin_
        exact ⟨_, rfl, h⟩
      · wp_walk using begin_
        exact ⟨_, rfl, h⟩
    · wp_walk using begin_
      exact ⟨_, rfl, h⟩
theorem call_en1 {prog : Program} {w : World} {A : Around} {E : Value → Shared → Prop} {s : Shared} {v : Value} {o : Obj} {Hh : Heap → Prop} {Q : Value → Shared → Prop} (B : Begins v o Hh) (h1 : Hh s.heap)
    (h : ∀ h', IsEnum h' (s.heap.objs.size + 1) s.heap.objs.size 0 .none → h'.get? s.heap.objs.size = some o → (∀ b u, s.heap.get? b = some u → h'.get? b = some u) → Q (.ref (s.heap.objs.size + 1)) { s with heap := h' }) :
    wpAny (model prog w) A (call (.type "enumerate") [v]) Q E s := by
  refine callType_new F.called_enumerate (by decide) (F.typeCall_enumerate_1 _) (F.newCall_enumerate_1 _) (fun obj => F.args_object_init_2 obj _) F.entry_enumerate_new (meets_en1 B) ⟨h1, ?_⟩
  have sz : (s.heap.push o).objs.size = s.heap.objs.size + 1 := Heap.size_push ..
  have en : IsEnum ((s.heap.push o).push { cls := .type "enumerate", data := .fields #[.none, .bool false, .ref s.heap.objs.size, rawInt 0, .none, .none] }) (s.heap.objs.size + 1) s.heap.objs.size 0 .none := by
    rw [← sz]
    exact Heap.get?_push_size _ rfl
  show _ ∧ _
  rw [sz]
  exact ⟨⟨_, en, rfl⟩, h _ en (Heap.get?_push_of_some _ (Heap.get?_push_size _ B.free)) fun b u x => Heap.get?_push_of_some _ (Heap.get?_push_of_some _ x)⟩
/-- the tuple at a, each item in a new pair -/
def Iet (K : PySem.W.Frag) (a : Addr) : L2.It :=
  ⟨fun i H => ∃ (xs : List V) (x : V), SqT K H a xs ∧ xs[i]? = some x, fun i H v H' => ∃ T x, v = .ref T ∧ H T = none ∧ H' = upd H T (.tup [.int (i : Nat), x]) ∧ ∀ xs, SqT K H a xs → xs[i]? = some x, fun i H => ∃ xs : List V, SqT K H a xs ∧ xs.length = i⟩
theorem turn_et {P : Program} {w : World} {K : PySem.W.Frag} {elts : List Expr} {kk : Nat} {tpos : Pos} (a e it : Addr) :
    Turn P w K (.Tuple elts kk tpos) (Iet K a) [e, it] e (fun i h => (∃ old, IsEnum h e it ((i : Nat) : Int) old) ∧ h.IsTupleIter it a i ∧ e ≠ it) where
  mem := by simp
  obj := fun i h st b hb => by
    obtain ⟨⟨old, he⟩, ⟨o, ho, hc, hd⟩, _⟩ := st
    rcases List.mem_cons.mp hb with rfl | hb
    · exact ⟨_, he, fun v q => nomatch q⟩
    · rw [List.mem_singleton.mp hb]
      exact ⟨o, ho, fun v q => by rw [hd] at q; cases q⟩
  keep := fun i h h' st k => by
    obtain ⟨⟨old, he⟩, hi, hne⟩ := st
    exact ⟨⟨old, k e (by simp) _ he⟩, hi.at fun o q => k it (by simp) o q, hne⟩
  item := by
    intro X hP hw hK hc i pins s σ H E I hf st hg
    subst hP hw hK
    obtain ⟨⟨old, he⟩, hit, hne⟩ := st
    obtain ⟨xs, x, hq, hx⟩ := hg
    obtain ⟨its, rv, p, hz⟩ := I.tuple hq
    have pt : s.heap.IsTuple a its.toArray := p
    obtain ⟨u, hu, ru⟩ := rv.get hx
    have hel : e < s.heap.objs.size := Heap.lt_size he
    have hil : it < s.heap.objs.size := by obtain ⟨_, q, _⟩ := id hit; exact Heap.lt_size q
    have hae : e ≠ a := fun z => by
      subst z
      obtain ⟨o, ho, hcl, _⟩ := pt
      rw [he] at ho
      have z : Value.type "enumerate" = Value.type "tuple" := (congrArg Obj.cls (Option.some.inj ho)).trans hcl
      exact absurd z (by decide)
    have hai : a ≠ it := fun z => by
      subst z
      obtain ⟨o, ho, hcl, _⟩ := pt
      obtain ⟨o', ho', hc', _⟩ := hit
      rw [ho] at ho'
      have z : Value.type "tuple" = Value.type "tuple_iterator" := hcl.symm.trans ((congrArg Obj.cls (Option.some.inj ho')).trans hc')
      exact absurd z (by decide)
    have hlt : i < its.toArray.size := by
      have := (List.getElem?_eq_some_iff.mp hu).1
      simpa using this
    refine wpAny_pyNext_enum_itemD (Draws.tuple (A := X.A.in1) (I.ok.hd hc) it a hai its.toArray) he ⟨hit, pt⟩ hlt hne (by simp [hne, hae]) fun y h' tk hy ho hst hT hsz hk => ?_
    have eu : y = u := by
      have : its[i]? = some y := by simpa using hy
      rw [hu] at this
      exact (Option.some.inj this).symm
    subst eu
    refine ⟨_, rfl, wpAny_letOwnedTupleGo_enum (s := { s with heap := h', toks := tk + 1 }) ho fun h'' he' sb => ?_⟩
    have hT2 := (sb.2 _ (Nat.ne_of_gt hel)).trans hT
    have new : ObjOk X.prog X.w (upd H s.heap.objs.size (.tup [.int (i : Nat), x])) h'' s.heap.objs.size (.tup [.int (i : Nat), x]) :=
      ⟨by show 2 ≤ sizeLine; decide, [.int i tk, y], .cons ⟨_, rfl⟩ (.cons ru .nil), ⟨_, hT2, rfl, _, rfl⟩⟩
    have ne2 : ∀ {b}, b ∉ [e, it] → b ≠ e ∧ b ≠ it := fun {b} hb => ⟨fun z => hb (by simp [z]), fun z => hb (by simp [z])⟩
    have I1 : Inv X pins σ (upd H s.heap.objs.size (.tup [.int (i : Nat), x])) { s with heap := h'', toks := tk + 1 } :=
      I.turnedNew (t' := tk + 1) (ch := [e, it]) (fun b ob hb q => (sb.2 b (ne2 hb).1).trans (hk b ob (ne2 hb).1 (ne2 hb).2 q)) hf (Nat.le_refl _) new
    refine ⟨.ref s.heap.objs.size, _, I1, rfl, ⟨_, x, rfl, I.hok.fresh (Nat.le_refl _), rfl, fun ys hy => ?_⟩, ⟨⟨y, ?_⟩, hst.1.at fun o q => (sb.2 it (Ne.symm hne)).trans q, hne⟩, fun b hb => ?_⟩
    · rw [I.tuple_inj hy hq]; exact hx
    · have e1 : ((i + 1 : Nat) : Int) = (i : Int) + 1 := by omega
      rw [e1]; exact he'
    · have hb' : b < s.heap.objs.size := by
        rcases List.mem_cons.mp hb with rfl | hb
        · exact hel
        · rw [List.mem_singleton.mp hb]; exact hil
      rw [upd_ne (Nat.ne_of_lt hb')]
      exact (hf b hb).1
  done := by
    intro X hP hw hK hc i pins s σ H E I hf st hg
    subst hP hw hK
    obtain ⟨⟨old, he⟩, hit, hne⟩ := st
    obtain ⟨xs, hq, hx⟩ := hg
    obtain ⟨its, rv, p, hz⟩ := I.tuple hq
    have pt : s.heap.IsTuple a its.toArray := p
    obtain ⟨f0, f1, f2, f3, f4, f5⟩ := hf it (by simp)
    have hai : a ≠ it := fun z => by
      subst z
      obtain ⟨o, ho, hcl, _⟩ := pt
      obtain ⟨o', ho', hc', _⟩ := hit
      rw [ho] at ho'
      have z : Value.type "tuple" = Value.type "tuple_iterator" := hcl.symm.trans ((congrArg Obj.cls (Option.some.inj ho')).trans hc')
      exact absurd z (by decide)
    have hn : i = its.toArray.size := by
      have := rv.length
      simp
      omega
    subst hn
    exact wpAny_pyNext_enum_endD (Draws.tuple (A := X.A.in1) (I.ok.hd hc) it a hai its.toArray) he ⟨hit, pt⟩ fun h' eb => ⟨rfl, I.turned (t' := s.toks) (fun b o hb q => eb b o hb q) f0 f1 f3 f4 f5⟩
  self := fun A i s Q E st h => let ⟨⟨_, he⟩, _⟩ := st; wpAny_pyIter_enum he h
/-- enumerate(e), e a tuple -/
def iEt (K : PySem.W.Frag) (ta : TA) : TI := fun σ H R => ta σ H fun vs H1 => ∃ a xs, vs = [.ref a] ∧ SqT K H1 a xs ∧ R (Iet K a) H1
theorem pi_et {X : Cx} {e : Expr} {ta : TA} {p pos tpos : Pos} {elts : List Expr} {kk : Nat} (hg : Gl X "enumerate") (hm : X.mg "enumerate" = none) (ha : PA X [e] ta) (hs : starEach [e] X.env = [(false, eval e X.env)]) :
    PI X (.Tuple elts kk tpos) (.Call (.Name "enumerate" p) [e] [] pos) (iEt X.K ta) := by
  refine ⟨fun pins s σ H R I h => ?_⟩
  refine Call_ (ld_blt I hg hm boot_enumerate (PyProof.Rows.callWith_type1 (thn (ha.run pos pins s σ H _ I h) fun us s1 ⟨vs, H1, I1, r1, q1⟩ => ?_) hs rfl))
  obtain ⟨a, xs, ex, hq, q⟩ := q1
  subst ex
  cases r1 with
  | cons r rr =>
    cases rr
    cases r
    obtain ⟨its, rv, p', hz⟩ := I1.tuple hq
    refine call_en1 (begins_tuple a its.toArray) p' fun h' he hit hk => wpAny_pyIter_enum he ?_
    have fresh : ∀ b ∈ [s1.heap.objs.size + 1, s1.heap.objs.size], s1.heap.objs.size ≤ b := fun b hb => by
      rcases List.mem_cons.mp hb with rfl | hb
      · exact Nat.le_add_right _ _
      · rw [List.mem_singleton.mp hb]; exact Nat.le_refl _
    exact ⟨s1.heap.objs.size + 1, [s1.heap.objs.size + 1, s1.heap.objs.size], _, _, H1, rfl, I1.kept (t' := s1.toks) hk, turn_et a (s1.heap.objs.size + 1) s1.heap.objs.size, ⟨⟨.none, he⟩, ⟨_, hit, rfl, rfl⟩, Nat.succ_ne_self _⟩, fun b hb => I1.fpOk (fresh b hb) (I1.hok.fresh (fresh b hb)), q⟩
section
variable {K : PySem.W.Frag} {fa : Nat → Addr} {F H0 : Hp}
theorem enD_get {ds : List D} {i : Nat} {d : D} (h : (enD ds)[i]? = some d) : ∃ y, ds[i]? = some y ∧ d = .tup [.int i, y] := by
  unfold enD at h
  rw [List.getElem?_mapIdx] at h
  cases e : ds[i]? with
  | none => rw [e] at h; cases h
  | some y => rw [e] at h; cases h; exact ⟨y, rfl, rfl⟩
theorem enD_len (ds : List D) : (enD ds).length = ds.length := by simp [enD]
theorem itok_et {a : Addr} {xs : List V} {ds : List D} (h : SqT K F a xs) (r : RepL K fa F xs ds) : ItOk K fa F H0 (Iet K a) (enD ds) := by
  refine ⟨fun i d H e s _ => ?_, fun i d G H x H' e sG sH y => ?_, fun H s _ => ⟨xs, s.tup h, by rw [enD_len, r.length]⟩⟩
  · obtain ⟨y, e1, _⟩ := enD_get e
    obtain ⟨v, hv, _⟩ := r.get e1
    exact ⟨xs, v, s.tup h, hv⟩
  · obtain ⟨y', e1, rfl⟩ := enD_get e
    obtain ⟨v, hv, rv⟩ := r.get e1
    obtain ⟨T, x', rfl, hT, rfl, h2⟩ := y
    have := h2 xs ((sH.pre sG).tup h)
    rw [hv] at this
    cases this
    have sU : Same G (upd G T (.tup [.int (i : Nat), v])) := same_upd (sub_none sH hT)
    exact ⟨_, fun _ => cst_new sH hT (fun _ z => by cases z), .tup upd_same (.cons (.int _) (.cons ((rv.mono sG).mono sU) .nil))⟩
theorem itok_el {a : Addr} {xs : List V} {ds : List D} (h : SqL K F a xs) (r : RepL K fa F xs ds) : ItOk K fa F H0 (Ite K a) (enD ds) := by
  refine ⟨fun i d H e s _ => ?_, fun i d G H x H' e sG sH y => ?_, fun H s _ => ⟨xs, s.seq h, by rw [enD_len, r.length]; exact Nat.le_refl _⟩⟩
  · obtain ⟨y, e1, _⟩ := enD_get e
    obtain ⟨v, hv, _⟩ := r.get e1
    exact ⟨xs, v, s.seq h, hv⟩
  · obtain ⟨y', e1, rfl⟩ := enD_get e
    obtain ⟨v, hv, rv⟩ := r.get e1
    obtain ⟨T, x', rfl, hT, rfl, h2⟩ := y
    have := h2 xs ((sH.pre sG).seq h)
    rw [hv] at this
    cases this
    have sU : Same G (upd G T (.tup [.int (i : Nat), v])) := same_upd (sub_none sH hT)
    exact ⟨_, fun _ => cst_new sH hT (fun _ z => by cases z), .tup upd_same (.cons (.int _) (.cons ((rv.mono sG).mono sU) .nil))⟩
end
section
variable {X : Cx} {fa : Fa} {cf : CF} {a : Expr} {ia : I} {p pos tpos : Pos} {elts : List Expr} {kk : Nat}
theorem eIt_enum : eIt cf (.enum ia) = fun env => bnd (eI cf ia env) fun r e1 => match enOf r.d with
    | some ds => some (.ok (enD ds), e1)
    | none => none := rfl
/-- for i, x in enumerate(e) -/
theorem i_enum (hg : Gl X "enumerate") (hm : X.mg "enumerate" = none) (hs : starEach [a] X.env = [(false, eval a X.env)]) (ha : PI' X fa cf a ia) : PIt' X fa cf (.Tuple elts kk tpos) (.Call (.Name "enumerate" p) [a] [] pos) (.enum ia) :=
  have hA : PA X [a] (tVs X.K fa (one (asV (eI cf ia)))) := pa_consD (pe_asV ha) pa_nilD (by rw [hs]; rfl)
  pi_weak (pi_or (pi_enum hg hm hA hs) (pi_et hg hm hA hs)) fun σ H R ⟨F, env, h⟩ => by
    rw [eIt_enum] at h
    have h' : At X.K fa (iRep X.K fa) (fun env => bnd (one (asV (eI cf ia)) env) fun ds e1 => match ds with
      | [d] => (match enOf d with
        | some ds => some (.ok (enD ds), e1)
        | none => none)
      | _ => none) F H σ env R := h.cast (by
        show bnd (bnd (bnd (eI cf ia env) _) _) _ = bnd (eI cf ia env) _
        cases eI cf ia env with
        | none => rfl
        | some oe =>
          obtain ⟨o, e⟩ := oe
          cases o <;> rfl)
    cases hm : one (asV (eI cf ia)) env with
    | none => exact (h'.no (by rw [hm]; rfl)).elim
    | some oe =>
      obtain ⟨o, e1⟩ := oe
      cases o with
      | error x => exact .inl ⟨F, env, At.bndE (Rl := lRep X.K fa) h' fun d e2 F1 H1 v hz _ _ _ => by rw [hm] at hz; cases hz⟩
      | ok l =>
        match l with
        | [] => exact (h'.no (by rw [hm]; rfl)).elim
        | _ :: _ :: _ => exact (h'.no (by rw [hm]; rfl)).elim
        | [d] =>
          cases d with
          | lst xs =>
            refine .inl ⟨F, env, At.bndE (Rl := lRep X.K fa) h' fun d e2 F1 H1 v hz s1 r1 h1 => ?_⟩
            rw [hm] at hz; cases hz
            cases r1 with
            | cons r1 rn =>
              cases rn
              obtain ⟨p, vs, rfl, g1, g2⟩ := Rep.lst_of r1
              exact ⟨p, vs, rfl, SqL.of (h1.ok.sub.at g1 rfl), h1.ret (a := enD xs) rfl (Step.refl h1.ok) (itok_el (SqL.of g1) g2)⟩
          | tup xs =>
            refine .inr ⟨F, env, At.bndE (Rl := lRep X.K fa) h' fun d e2 F1 H1 v hz s1 r1 h1 => ?_⟩
            rw [hm] at hz; cases hz
            cases r1 with
            | cons r1 rn =>
              cases rn
              obtain ⟨p, vs, rfl, g1, g2⟩ := Rep.tup_of r1
              exact ⟨p, vs, rfl, h1.ok.sub.tup g1, h1.ret (a := enD xs) rfl (Step.refl h1.ok) (itok_et g1 g2)⟩
          | _ => exact (h'.no (by rw [hm]; rfl)).elim
end
end
end DI

namespace DI
open PySem L2

section
variable {K : PySem.W.Frag} {fa : Nat → Addr} {F H : Hp}
theorem RepOs.append : ∀ {vs ws : List V} {xs ys : List Ho} {fp fq : List Addr}, RepOs K fa F H vs xs fp → RepOs K fa F H ws ys fq → (∀ a ∈ fp, a ∉ fq) → RepOs K fa F H (vs ++ ws) (xs ++ ys) (fp ++ fq)
  | _, _, _, _, _, _, .nil, s, _ => s
  | _, _, _, _, _, fr, .cons (fp := fp) (fq := fq) r t d, s, dis => by
    have := RepOs.append t s fun a m => dis a (mem_r m)
    rw [List.append_assoc]
    exact .cons r this fun a m m2 => by
      rcases List.mem_append.mp m2 with z | z
      · exact d a m z
      · exact dis a (mem_l m) z
theorem RepOs.one {v : V} {x : Ho} {fp : List Addr} (r : RepO K fa F H v x fp) : RepOs K fa F H [v] [x] (fp ++ []) := .cons r .nil fun _ _ z => by cases z
theorem RepOs.set {v : V} {x : Ho} {fq : List Addr} (rv : RepO K fa F H v x fq) : ∀ {vs : List V} {xs : List Ho} {fp : List Addr} (j : Nat), RepOs K fa F H vs xs fp → (∀ a ∈ fq, a ∉ fp) → ∃ fr, RepOs K fa F H (vs.set j v) (xs.set j x) fr ∧ ∀ a ∈ fr, a ∈ fp ∨ a ∈ fq
  | _, _, _, _, .nil, _ => ⟨[], .nil, fun _ m => by cases m⟩
  | _, _, _, 0, .cons r t d, dis => ⟨_, .cons rv t fun a m m2 => dis a m (mem_r m2), fun a m => by
      rcases List.mem_append.mp m with z | z
      · exact .inr z
      · exact .inl (mem_r z)⟩
  | _, _, _, j + 1, .cons r t d, dis => by
    obtain ⟨fr, h1, h2⟩ := RepOs.set rv j t fun a m m2 => dis a m (mem_r m2)
    refine ⟨_, .cons r h1 fun a m m2 => ?_, fun a m => ?_⟩
    · rcases h2 a m2 with z | z
      · exact d a m z
      · exact dis a z (mem_l m)
    · rcases List.mem_append.mp m with z | z
      · exact .inl (mem_l z)
      · rcases h2 a z with y | y
        · exact .inl (mem_r y)
        · exact .inr y
end
section
variable {K : PySem.W.Frag} {fa : Fa} {F0 H0 F H F' H' F1 H1 : Hp} {σ0 σ σ1 : L2.St} {env0 env e1 : Ev}
/-- what stands for a result, as a thing -/
theorem RRep.ho {v : V} {r : R} (h : RRep K fa F0 H0 σ0 env0 F H σ env v r) : ∃ fq, RepO K fa F H v r.h fq ∧ (∀ p ∈ fq, Own K fa F0 H0 σ0 env0 p ∨ H0 p = none) ∧ ∀ p ∈ fq, ¬ Own K fa F H σ env p := by
  cases r with
  | val d => exact ⟨[], .fz h, fun _ m => (by cases m), fun _ m => (by cases m)⟩
  | new x => exact h
/-- the thing at a name is another one now, made of itself and of what nobody had -/
theorem Step.holdB {i : Nat} {x y : Ho} {v : V} {fp fq tmp : List Addr} (s : Step K fa F0 H0 σ0 env0 F H σ env) (h : held env i = some x) (hv : σ[i]? = some (some v)) (r : RepO K fa F H v x fp) (sF : Same F F') (sub : SL F' H')
    (keep : ∀ a u, H a = some u → a ∉ fp → a ∉ tmp → H' a = some u) (stay : ∀ a, H a ≠ none → F a = none → a ∉ fp → a ∉ tmp → F' a = none) (t1 : ∀ p ∈ tmp, Own K fa F0 H0 σ0 env0 p ∨ H0 p = none) (t2 : ∀ p ∈ tmp, ¬ Own K fa F H σ env p)
    (r' : RepO K fa F' H' v y fq) (fr : ∀ a ∈ fq, a ∈ fp ∨ a ∈ tmp ∨ H a = none) (tb : Tb fa.tb F' H') : Step K fa F0 H0 σ0 env0 F' H' σ (DI.hold env i y) := by
  have o := s.ok
  obtain ⟨sl, e0, hs, hio⟩ := hold_eq (y := y) h
  have hi := held_lt h
  have un : (env.set i .un)[i]? = some .un := get_set_self hi
  have on : ∀ p ∈ fp, Own K fa F H σ env p := fun p m => ⟨i, x, v, fp, h, hv, r, m⟩
  have c : Calm K fa F H F' H' σ (env.set i .un) := fun p hp => by
    have np : p ∉ fp := o.apart (x := x) (y := x) (w := v) (fq := fp) (j := i) h hv r hp
    have nt : p ∉ tmp := fun m => t2 p m (own_drop hp)
    obtain ⟨f, u, e⟩ := DI.own_at hp
    exact ⟨by rw [e]; exact keep p u e np nt, stay p (by rw [e]; simp) f np nt⟩
  have o0 := o.drop i
  have o1 : Ok K fa F' H' σ (env.set i .un) := o0.more sF sub c tb
  have n : ∀ p ∈ fq, ¬ Own K fa F' H' σ (env.set i .un) p := fun p m q => by
    have q' := o0.ownsame sF c q
    rcases fr p m with z | z | z
    · exact o.apart (x := x) (y := x) (w := v) (fq := fp) (j := i) h hv r q' z
    · exact t2 p z (own_drop q')
    · obtain ⟨_, u, e⟩ := DI.own_at q'
      rw [e] at z; cases z
  have o2 := o1.setOwn (i := i) hs un hv r' n
  rw [List.set_set] at o2
  rw [e0]
  have nfp : ∀ a, H0 a ≠ none → ¬ Own K fa F0 H0 σ0 env0 a → a ∉ fp := fun a h1 h2 m => by
    rcases s.own a (on a m) with z | z
    · exact h2 z
    · exact h1 z
  have ntm : ∀ a, H0 a ≠ none → ¬ Own K fa F0 H0 σ0 env0 a → a ∉ tmp := fun a h1 h2 m => by
    rcases t1 a m with z | z
    · exact h2 z
    · exact h1 z
  refine ⟨s.sub.trans sF, fun a u e n => (s.keep a u e n).trans fun u' e' => .of (keep a u' e' (nfp a (by rw [e]; simp) n) (ntm a (by rw [e]; simp) n)), fun a h1 h2 n => ?_, o2, fun p hp => ?_, fun j z e => ?_⟩
  · cases e : H0 a with
    | none => exact absurd e h1
    | some u => exact stay a (s.keep a u e n).ne (s.stay a h1 h2 n) (nfp a h1 n) (ntm a h1 n)
  · have hp' : Own K fa F' H' σ ((env.set i .un).set i sl) p := by rw [List.set_set]; exact hp
    rcases own_setOwn hs (by rw [List.length_set]; exact hi) hv r' hp' with m | q
    · rcases fr p m with z | z | z
      · exact s.own p (on p z)
      · exact t1 p z
      · exact none_back s (.inr z)
    · exact s.own p (own_drop (o0.ownsame sF c q))
  · obtain ⟨h1, z1, h2⟩ := s.io j z e
    by_cases ej : i = j
    · subst ej
      exact ⟨h1, y, by rw [get_set_self hi, hio z1 h2]⟩
    · exact ⟨h1, z1, by rw [List.getElem?_set_ne ej]; exact h2⟩
/-- a list at a name is written anew: its items are old ones and one that nobody had -/
theorem Step.putL {i : Nat} {xs ys : List Ho} {p : Addr} {vs ws : List V} {fp fr tmp : List Addr} (s : Step K fa F0 H0 σ0 env0 F H σ env) (h : held env i = some (.ls xs)) (hv : σ[i]? = some (some (.ref p))) (hp : H p = some (.lst vs)) (hF : F p = none) (hx : RepOs K fa F H vs xs fp) (np : p ∉ fp)
    (hy : RepOs K fa F H ws ys fr) (t1 : ∀ q ∈ tmp, Own K fa F0 H0 σ0 env0 q ∨ H0 q = none) (t2 : ∀ q ∈ tmp, ¬ Own K fa F H σ env q) (hfr : ∀ q ∈ fr, q ∈ fp ∨ q ∈ tmp) : Step K fa F0 H0 σ0 env0 F (upd H p (.lst ws)) σ (DI.hold env i (.ls ys)) := by
  have r : RepO K fa F H (.ref p) (.ls xs) (p :: fp) := .ls hp hF hx np
  have npt : p ∉ tmp := fun m => t2 p m ⟨i, _, _, _, h, hv, r, List.mem_cons_self⟩
  have npr : p ∉ fr := fun m => by
    rcases hfr p m with z | z
    · exact np z
    · exact npt z
  refine Step.holdB (tmp := tmp) (fq := p :: fr) s h hv r (Same.refl F) (s.ok.sub.upd hF) (fun a u e n _ => ?_) (fun a _ h2 _ _ => h2) t1 t2 (.ls upd_same hF (hy.keep (Same.refl _) (fun a m => upd_ne fun z => npr (z ▸ m)) fun a m => (hy.there a m).1) npr) (fun a m => ?_) (tabs_lst s.ok.tabs hp)
  · have : a ≠ p := fun z => by subst z; exact n List.mem_cons_self
    rw [upd_ne this]; exact e
  · rcases List.mem_cons.mp m with rfl | m
    · exact .inl List.mem_cons_self
    · rcases hfr a m with z | z
      · exact .inl (List.mem_cons_of_mem _ z)
      · exact .inr (.inl z)
end

section
variable {X : Cx} {fa : Fa} {cf : CF} {pos : Pos} {a b c e tg : Expr} {ia ib ic : I} {es : List Expr} {is : Is}
theorem eS_app1 {i : Nat} : eS cf (.app1 i ia) = fun env => if ((held env i).bind lsOf).isSome then bnd (eI cf ia env) fun r e1 => match (held e1 i).bind lsOf with
      | some xs => if xs.length < big then some (.ok .nx, hold e1 i (.ls (xs ++ [r.h]))) else none
      | none => none
    else none := rfl
theorem b_app1 {i : Nat} {x : Str} {px p2 apos : Pos} (hN : X.N[i]? = some x) (hv : Vis X.env.scope x) (hd : (x == ("__debug__" : Str)) = false) (hcd : (x == ("__classdict__" : Str)) = false) (ha : PI' X fa cf a ia)
    (hbase : attributeBase (.Name x px) "append" X.env (eval (.Name x px) X.env) = eval (.Name x px) X.env)
    (hfew : ((backTo p2 (starEach [a] X.env)).all (fun x => !x.1) && (backToKw p2 (keywordEach [] X.env)).all (fun x => x.1.isSome) && decide ([a].length + ([] : List Keyword).length + (if ([] : List Keyword).isEmpty then 0 else 1) < 30)) = true)
    (hline : (apos.endLine == p2.line) = true) (hst : starEach [a] X.env = (false, eval a X.env) :: starEach [] X.env) (hs : swapsWith (.Call (.Attribute (.Name x px) "append" apos) [a] [] p2) none pos.line X.env = pure false) :
    PS' X fa cf (.Expr (.Call (.Attribute (.Name x px) "append" apos) [a] [] p2) pos) (.app1 i ia) :=
  ps_weak (ps_expr (pe_bm PySem.F.plainAttrs_list PySem.F.slot_list_append PySem.F.type_list_append mt_append (pe_var hN hv hd hcd) (pa_cons ha pa_nil hst) hbase hfew hline hst rfl) hs) fun D σ H ⟨F, env, h⟩ => by
    rw [eS_app1] at h
    cases hh : ((held env i).bind lsOf) with
    | none => exact (h.no (by rw [hh]; rfl)).elim
    | some ys =>
    have hy := ls_of hh
    obtain ⟨v0, fp0, g1, g2⟩ := h.ok.own i _ hy
    cases g2 with
    | @ls p vs0 _ fq0 g3 g4 g5 g6 =>
    refine ⟨.ref p, g1, .inl ⟨rfl, vs0, SqL.of g3⟩, F, env, AtSB.bnd (Rl := RRep X.K fa) (f := eI cf ia) (h.b.cast (by rw [hh]; rfl)) fun r e1 F1 H1 v s1 r1 h1 => ?_⟩
    cases h2' : (held e1 i).bind lsOf with
    | none => exact (h1.no (by rw [h2'])).elim
    | some xs =>
    have h2 := ls_of h2'
    by_cases hz : xs.length < big
    · obtain ⟨v1, fp1, k1, k2⟩ := h1.1.ok.own i _ h2
      rw [g1] at k1; cases k1
      have k2' := k2
      cases k2 with
      | @ls _ vs _ fq k3 k4 k5 k6 =>
      obtain ⟨ft, rt, t1, t2⟩ := r1.ho
      have dis : ∀ a ∈ fq, a ∉ ft := fun a m m2 => t2 a m2 ⟨i, _, _, _, h2, g1, k2', List.mem_cons_of_mem _ m⟩
      refine ⟨p, vs, v, rfl, rfl, k3, by rw [k5.length]; exact Nat.lt_of_lt_of_le hz big_le, ?_⟩
      exact h1.fl (fl := .nx) (by simp only [h2', if_pos hz]) (Step.putL (tmp := ft) h1.1 h2 g1 k3 k4 k5 k6 (k5.append (.one rt) (fun a m m2 => dis a m (by simpa using m2))) t1 t2 fun q m => by
        rcases List.mem_append.mp m with z | z
        · exact .inl z
        · exact .inr (by simpa using z))
    · exact (h1.no (by simp only [h2', if_neg hz])).elim
theorem eS_ext1 {i : Nat} : eS cf (.ext1 i ia) = fun env => if ((held env i).bind lsOf).isSome then bnd (asV (eI cf ia) env) fun d e1 => match (held e1 i).bind lsOf, d with
      | some xs, .lst ys => if xs.length + ys.length ≤ big then some (.ok .nx, hold e1 i (.ls (xs ++ ys.map .fz))) else none
      | _, _ => none
    else none := by
  funext env
  rw [asV_bnd]
  rfl
theorem b_ext1 {i : Nat} {x : Str} {px p2 apos : Pos} (hN : X.N[i]? = some x) (hv : Vis X.env.scope x) (hd : (x == ("__debug__" : Str)) = false) (hcd : (x == ("__classdict__" : Str)) = false) (ha : PI' X fa cf a ia)
    (hbase : attributeBase (.Name x px) "extend" X.env (eval (.Name x px) X.env) = eval (.Name x px) X.env)
    (hfew : ((backTo p2 (starEach [a] X.env)).all (fun x => !x.1) && (backToKw p2 (keywordEach [] X.env)).all (fun x => x.1.isSome) && decide ([a].length + ([] : List Keyword).length + (if ([] : List Keyword).isEmpty then 0 else 1) < 30)) = true)
    (hline : (apos.endLine == p2.line) = true) (hst : starEach [a] X.env = (false, eval a X.env) :: starEach [] X.env) (hs : swapsWith (.Call (.Attribute (.Name x px) "extend" apos) [a] [] p2) none pos.line X.env = pure false) :
    PS' X fa cf (.Expr (.Call (.Attribute (.Name x px) "extend" apos) [a] [] p2) pos) (.ext1 i ia) :=
  ps_weak (ps_expr (pe_bm PySem.F.plainAttrs_list PySem.F.slot_list_extend PySem.F.type_list_extend mt_extend (pe_var hN hv hd hcd) (pa_cons (pe_asV ha) pa_nil hst) hbase hfew hline hst rfl) hs) fun D σ H ⟨F, env, h⟩ => by
    rw [eS_ext1] at h
    cases hh : ((held env i).bind lsOf) with
    | none => exact (h.no (by rw [hh]; rfl)).elim
    | some ys =>
    have hy := ls_of hh
    obtain ⟨v0, fp0, g1, g2⟩ := h.ok.own i _ hy
    cases g2 with
    | @ls p vs0 _ fq0 g3 g4 g5 g6 =>
    refine ⟨.ref p, g1, .inl ⟨rfl, vs0, SqL.of g3⟩, F, env, AtS.bnd (Rl := vRep X.K fa) (f := asV (eI cf ia)) (h.cast (by rw [hh]; rfl)) fun d e1 F1 H1 v s1 r1 h1 => ?_⟩
    cases h2' : (held e1 i).bind lsOf with
    | none => exact (h1.no (by rw [h2'])).elim
    | some xs =>
    have h2 := ls_of h2'
    cases d with
    | lst zs =>
      by_cases hz : xs.length + zs.length ≤ big
      · obtain ⟨v1, fp1, k1, k2⟩ := h1.1.own i _ h2
        rw [g1] at k1; cases k1
        have k2' := k2
        cases k2 with
        | @ls _ vs _ fq k3 k4 k5 k6 =>
        obtain ⟨q, us, rfl, e2, rl⟩ := Rep.lst_of r1
        refine ⟨p, q, vs, us, rfl, rfl, k3, h1.ok.sub.at e2 rfl, by rw [k5.length, rl.length]; exact Nat.le_trans hz big_le, ?_⟩
        exact h1.fl (fl := .nx) (by simp only [h2', if_pos hz]) (Step.putL (tmp := []) (Step.refl h1.ok) h2 g1 k3 k4 k5 k6 (k5.append (repOs_fz rl) (fun a m m2 => by cases m2)) (fun _ m => by cases m) (fun _ m => by cases m) fun q m => by
          rcases List.mem_append.mp m with z | z
          · exact .inl z
          · cases z)
      · exact (h1.no (by simp only [h2', if_neg hz])).elim
    | _ => exact (h1.no (by simp only [h2'])).elim

/-- the thing of a name, at p, is written anew: its parts are old ones and what nobody had -/
theorem Step.putX {i : Nat} {x y : Ho} {p : Addr} {o : HO} {fp fr tmp : List Addr} (s : Step K fa F0 H0 σ0 env0 F H σ env) (h : held env i = some x) (hv : σ[i]? = some (some (.ref p))) (r : RepO K fa F H (.ref p) x (p :: fp)) (np : p ∉ fp) (hF : F p = none)
    (mk : (∀ a, a ≠ p → upd H p o a = H a) → p ∉ fr → RepO K fa F (upd H p o) (.ref p) y (p :: fr)) (tb : Tb fa.tb F (upd H p o)) (t1 : ∀ q ∈ tmp, Own K fa F0 H0 σ0 env0 q ∨ H0 q = none) (t2 : ∀ q ∈ tmp, ¬ Own K fa F H σ env q) (hfr : ∀ q ∈ fr, q ∈ fp ∨ q ∈ tmp) : Step K fa F0 H0 σ0 env0 F (upd H p o) σ (DI.hold env i y) := by
  have npt : p ∉ tmp := fun m => t2 p m ⟨i, _, _, _, h, hv, r, List.mem_cons_self⟩
  have npr : p ∉ fr := fun m => by
    rcases hfr p m with z | z
    · exact np z
    · exact npt z
  refine Step.holdB (tmp := tmp) (fq := p :: fr) s h hv r (Same.refl F) (s.ok.sub.upd hF) (fun a u e n _ => ?_) (fun a _ h2 _ _ => h2) t1 t2 (mk (fun a n => upd_ne n) npr) (fun a m => ?_) tb
  · have : a ≠ p := fun z => by subst z; exact n List.mem_cons_self
    rw [upd_ne this]; exact e
  · rcases List.mem_cons.mp m with rfl | m
    · exact .inl List.mem_cons_self
    · rcases hfr a m with z | z
      · exact .inl (List.mem_cons_of_mem _ z)
      · exact .inr (.inl z)
theorem putK_eq {κ : Type} [DecidableEq κ] {k : κ} {v : V} : ∀ {vs : List (κ × V)}, (vs.map (·.1)).Nodup → putK vs k v = putR vs k v
  | [], _ => rfl
  | (g, y) :: r, h => by
    rw [List.map_cons, List.nodup_cons] at h
    by_cases e : g = k
    · subst e
      have hn : r.map (fun kv => if kv.1 = g then (kv.1, v) else kv) = r := by
        conv => rhs; rw [← List.map_id r]
        exact List.map_congr_left fun a ha => if_neg fun z => h.1 (List.mem_map.mpr ⟨a, ha, z⟩)
      simp [putK, putR, hn]
    · have ih := putK_eq (k := k) (v := v) h.2
      unfold putK at ih ⊢
      simp only [putR, if_neg e]
      rw [← ih]
      by_cases hk : (r.any fun kv => decide (kv.1 = k)) = true
      · simp [e, hk]
      · simp [e, hk]
theorem putR_keys {κ α : Type} [DecidableEq κ] {k : κ} {x : α} : ∀ {ks : List (κ × α)} {q : κ}, q ∈ (putR ks k x).map (·.1) → q = k ∨ q ∈ ks.map (·.1)
  | [], q, h => by simp [putR] at h; exact .inl h
  | (g, y) :: r, q, h => by
    by_cases e : g = k
    · simp only [putR, if_pos e] at h
      exact .inr (by simpa using h)
    · simp only [putR, if_neg e, List.map_cons, List.mem_cons] at h
      rcases h with h | h
      · exact .inr (by simp [h])
      · rcases putR_keys h with h | h
        · exact .inl h
        · exact .inr (by simp only [List.map_cons, List.mem_cons]; exact .inr h)
theorem putR_nodup {κ α : Type} [DecidableEq κ] {k : κ} {x : α} : ∀ {ks : List (κ × α)}, (ks.map (·.1)).Nodup → ((putR ks k x).map (·.1)).Nodup
  | [], _ => by simp [putR]
  | (g, y) :: r, h => by
    rw [List.map_cons, List.nodup_cons] at h
    by_cases e : g = k
    · simp only [putR, if_pos e, List.map_cons, List.nodup_cons]; exact h
    · simp only [putR, if_neg e, List.map_cons, List.nodup_cons]
      refine ⟨fun z => ?_, putR_nodup h.2⟩
      rcases putR_keys z with z | z
      · exact e z
      · exact h.1 z
theorem putR_ne {κ α : Type} [DecidableEq κ] {k : κ} {x : α} : ∀ {ks : List (κ × α)}, putR ks k x ≠ []
  | [] => by simp [putR]
  | (g, y) :: r => by unfold putR; split <;> simp
theorem RepOk.put {k : Key} {v : V} {x : Ho} {fq : List Addr} (rv : RepO K fa F H v x fq) : ∀ {vs : List (Key × V)} {xs : List (Key × Ho)} {fp : List Addr}, RepOk K fa F H vs xs fp → (∀ a ∈ fq, a ∉ fp) → ∃ fr, RepOk K fa F H (putR vs k v) (putR xs k x) fr ∧ ∀ a ∈ fr, a ∈ fp ∨ a ∈ fq
  | _, _, _, .nil, _ => ⟨_, .cons rv .nil (fun _ _ z => by cases z), fun a m => by simp at m; exact .inr m⟩
  | _, _, _, .cons (k := g) (fp := fa1) (fq := fb1) r t d, n => by
    by_cases e : g = k
    · simp only [putR, if_pos e]
      exact ⟨_, .cons rv t fun a m z => n a m (mem_r z), fun a m => by
        rcases List.mem_append.mp m with m | m
        · exact .inr m
        · exact .inl (mem_r m)⟩
    · simp only [putR, if_neg e]
      obtain ⟨fr, h1, h2⟩ := RepOk.put rv t fun a m z => n a m (mem_r z)
      refine ⟨_, .cons r h1 fun a m z => ?_, fun a m => ?_⟩
      · rcases h2 a z with y | y
        · exact d a m y
        · exact n a y (mem_l m)
      · rcases List.mem_append.mp m with m | m
        · exact .inl (mem_l m)
        · rcases h2 a m with y | y
          · exact .inl (mem_r y)
          · exact .inr y
theorem RepOt.put {k : List Key} {v : V} {x : Ho} {fq : List Addr} (rv : RepO K fa F H v x fq) : ∀ {vs : List (List Key × V)} {xs : List (List Key × Ho)} {fp : List Addr}, RepOt K fa F H vs xs fp → (∀ a ∈ fq, a ∉ fp) → ∃ fr, RepOt K fa F H (putR vs k v) (putR xs k x) fr ∧ ∀ a ∈ fr, a ∈ fp ∨ a ∈ fq
  | _, _, _, .nil, _ => ⟨_, .cons rv .nil (fun _ _ z => by cases z), fun a m => by simp at m; exact .inr m⟩
  | _, _, _, .cons (k := g) (fp := fa1) (fq := fb1) r t d, n => by
    by_cases e : g = k
    · simp only [putR, if_pos e]
      exact ⟨_, .cons rv t fun a m z => n a m (mem_r z), fun a m => by
        rcases List.mem_append.mp m with m | m
        · exact .inr m
        · exact .inl (mem_r m)⟩
    · simp only [putR, if_neg e]
      obtain ⟨fr, h1, h2⟩ := RepOt.put rv t fun a m z => n a m (mem_r z)
      refine ⟨_, .cons r h1 fun a m z => ?_, fun a m => ?_⟩
      · rcases h2 a z with y | y
        · exact d a m y
        · exact n a y (mem_l m)
      · rcases List.mem_append.mp m with m | m
        · exact .inl (mem_l m)
        · rcases h2 a m with y | y
          · exact .inl (mem_r y)
          · exact .inr y
theorem RepOk.length {vs : List (Key × V)} {xs : List (Key × Ho)} {fp : List Addr} (r : RepOk K fa F H vs xs fp) : vs.length = xs.length := by
  have : ∀ {vs : List (Key × V)} {xs : List (Key × Ho)} {fp : List Addr}, RepOk K fa F H vs xs fp → vs.length = xs.length := by
    intro vs xs fp r
    induction xs generalizing vs fp with
    | nil => cases r; rfl
    | cons x xs ih =>
      cases r with
      | cons _ t _ => simp [ih t]
  exact this r
theorem RepOt.length {vs : List (List Key × V)} {xs : List (List Key × Ho)} {fp : List Addr} (r : RepOt K fa F H vs xs fp) : vs.length = xs.length := by
  induction xs generalizing vs fp with
  | nil => cases r; rfl
  | cons x xs ih =>
    cases r with
    | cons _ t _ => simp [ih t]
/-! ### x[i] = e -/
/-- a dict's entry is stored; an empty one can have either sort of keys -/
def rSetD : V → V → V → Hp → (Hp → Prop) → Prop := fun o y v H Q => ∃ a H', o = .ref a ∧ (DPut H a y v H' ∨ (H a = some (.dK []) ∧ DPut (upd H a (.dT [])) a y v H')) ∧ Q H'
theorem set_dict {X : Cx} (hu : X.A.units + 64 < cLine) : PSet X rSetD := by
  intro pins s σ H o i v ov iv vv Q I ro ri rv h
  obtain ⟨a, H', eo, g, q⟩ := h
  subst eo
  obtain rfl : ov = Value.ref a := ro
  rcases g with g | ⟨e, g⟩
  · exact d_setItem (by omega) I g ri rv fun s' I' => ⟨H', I', q⟩
  · have I2 : Inv X pins σ (upd H a (.dT [])) s := by
      obtain ⟨hd, dd⟩ := nil_dt I.hok (Rd.of e)
      obtain ⟨ob, es, ep, h1, h2, h3, h4, h5, h6⟩ := dd
      exact d_write (h' := s.heap) (t' := s.toks) I (by rw [e]; exact True.intro) (Heap.SameBut.refl _ _) ⟨ob, h1⟩ ⟨by simp, hd, [], .nil, ob, es, ep, h1, h2, h3, h4, h6⟩
    exact d_setItem (by omega) I2 g ri rv fun s' I' => ⟨H', I', q⟩
def rSetA : V → V → V → Hp → (Hp → Prop) → Prop := fun o y v H Q => rSetL o y v H Q ∨ rSetD o y v H Q
theorem set_any {X : Cx} (hu : X.A.units + 64 < cLine) : PSet X rSetA := by
  intro pins s σ H o i v ov iv vv Q I ro ri rv h
  rcases h with h | h
  · exact set_list pins s σ H o i v ov iv vv Q I ro ri rv h
  · exact set_dict hu pins s σ H o i v ov iv vv Q I ro ri rv h
theorem setP_sub {i : Nat} {r : R} : setP cf (.sub i ib) r = fun env => if (held env i).isSome then bnd (eI cf ib env) fun z e2 => match z with
      | .val y => match (held e2 i).bind fun h => putAtH h y r.h with
        | some h2 => some (.ok (), hold e2 i h2)
        | none => none
      | _ => none
    else none := rfl
/-- what is stored into a place: a reading of the rest -/
theorem sub_D {i : Nat} {r : R} {g : Ev → Res Fl} {F0 H0 F H : Hp} {σ0 σ : L2.St} {env0 env : Ev} {D : Ends} {v : V} {Q : L2.St → Hp → Prop} (rr : RRep X.K fa F0 H0 σ0 env0 F H σ env v r)
    (h : AtSB X.K fa (fun e => bnd (setP cf (.sub i ib) r e) fun _ e2 => g e2) F0 H0 σ0 env0 F H σ env D) (k : ∀ e2 F2 H2, AtSB X.K fa g F0 H0 σ0 env0 F2 H2 σ e2 D → Same F F2 → Q σ H2) :
    gSub (tVar i) (tI X.K fa (eI cf ib)) rSetA v σ H Q := by
  cases hh : held env i with
  | none => exact (h.no (by rw [setP_sub]; simp only [hh]; rfl)).elim
  | some y0 =>
  obtain ⟨v0, fp0, g1, g2⟩ := h.1.ok.own i _ hh
  refine ⟨v0, g1, F, env, AtSB.bnd (Rl := RRep X.K fa) (f := eI cf ib) (g := fun z e2 => bnd (match z with
      | .val y => match (held e2 i).bind fun h => putAtH h y r.h with
        | some h2 => some (.ok (), hold e2 i h2)
        | none => none
      | _ => none) fun _ e2 => g e2) (h.cast ?_) fun z e1 F1 H1 w s1 r1 h1 => ?_⟩
  · rw [setP_sub]
    simp only [hh, Option.isSome_some, if_true]
    cases eI cf ib env with
    | none => rfl
    | some oe =>
      obtain ⟨o, e⟩ := oe
      cases o <;> rfl
  · cases z with
    | new _ => exact (h1.no rfl).elim
    | val d =>
    cases h2 : held e1 i with
    | none => exact (h1.no (by simp only [h2]; rfl)).elim
    | some y1 =>
    cases h3 : putAtH y1 d r.h with
    | none => exact (h1.no (by simp only [h2, Option.bind_some, h3]; rfl)).elim
    | some h4 =>
    obtain ⟨v1, fp1, k1, k2⟩ := h1.1.ok.own i _ h2
    rw [g1] at k1; cases k1
    have k2' := k2
    obtain ⟨ft, rt, t1, t2⟩ := (rr.stay s1).ho
    have go : ∀ H2, Step X.K fa F0 H0 σ0 env0 F1 H2 σ (hold e1 i h4) → Q σ H2 := fun H2 st => by
      refine k (hold e1 i h4) F1 H2 ?_ s1.sub
      obtain ⟨_, o, env', e9, q9⟩ := h1
      simp only [h2, Option.bind_some, h3] at e9
      exact ⟨st, o, env', e9, q9⟩
    cases k2 with
    | fz _ => cases h3
    | ob _ _ _ _ => cases h3
    | @ls p vs xs fq k3 k4 k5 k6 =>
      cases d with
      | int j =>
        cases hn : ixN xs.length j with
        | none => simp only [putAtH, hn] at h3; cases h3
        | some n =>
        simp only [putAtH, hn] at h3
        cases h3
        cases Rep.int_of r1
        have dis : ∀ a ∈ ft, a ∉ fq := fun a m2 m => t2 a m2 ⟨i, _, _, _, h2, g1, k2', List.mem_cons_of_mem _ m⟩
        obtain ⟨fr, y1, y2⟩ := k5.set rt n dis
        refine .inl ⟨p, vs, j, n, rfl, rfl, k3, by rw [k5.length]; exact hn, ?_⟩
        exact go _ (Step.putL (tmp := ft) h1.1 h2 g1 k3 k4 k5 k6 y1 t1 t2 y2)
      | _ => cases h3
    | @dc p vs xs fq k3 k4 knd k5 k6 =>
      have dis : ∀ a ∈ ft, a ∉ fq := fun a m2 m => t2 a m2 ⟨i, _, _, _, h2, g1, k2', List.mem_cons_of_mem _ m⟩
      cases hk : kkOf d with
      | none => simp only [putAtH, hk] at h3; cases h3
      | some kk =>
      simp only [putAtH, hk] at h3
      have hd := kkOf_eq hk
      subst hd
      cases kk with
      | inl q =>
        simp only at h3
        split at h3
        case isFalse => cases h3
        rename_i hz
        cases h3
        have ew := Rep.key_of r1
        subst ew
        obtain ⟨fr, y1, y2⟩ := k5.put rt dis
        refine .inr ⟨p, _, rfl, .inl (.inl ⟨vs, q, k3, rfl, by rw [k5.length]; exact Nat.lt_of_lt_of_le hz big_le, rfl⟩), ?_⟩
        rw [putK_eq knd]
        exact go _ (Step.putX (tmp := ft) h1.1 h2 g1 k2' k6 k4 (fun hn npr => .dc upd_same k4 (putR_nodup knd) (y1.keep (Same.refl _) (fun a m => hn a fun z => npr (z ▸ m)) fun a m => (y1.there a m).1) npr) (tabs_dk h1.1.ok.tabs k3) t1 t2 y2)
      | inr q =>
        simp only at h3
        split at h3
        case isFalse => cases h3
        rename_i hz
        cases h3
        have ex : xs = [] := List.isEmpty_iff.mp hz
        subst ex
        cases k5
        obtain ⟨b, ys, rfl, e2, rl⟩ := Rep.tup_at r1
        rw [rl.keys_of] at e2
        have eb := h1.1.ok.sub.at e2 rfl
        have nb : b ≠ p := fun z => by rw [z, k3] at eb; cases eb
        refine .inr ⟨p, _, rfl, .inr ⟨k3, .inr ⟨[], q, b, upd_same, rfl, by rw [upd_ne nb]; exact eb, by decide, rfl⟩⟩, ?_⟩
        rw [upd_upd]
        exact go _ (Step.putX (tmp := ft) (fr := ft ++ []) h1.1 h2 g1 k2' k6 k4 (fun hn npr => .dt upd_same k4 ⟨by simp [putK], by simp [putK]⟩ (.cons (rt.keep (Same.refl _) (fun a m => hn a fun z => npr (by rw [← z]; exact mem_l m)) fun a m => (rt.there a m).1) .nil fun _ _ z => by cases z) npr) (tabs_dk h1.1.ok.tabs k3) t1 t2 fun a m => by simp at m; exact .inr m)
    | @dt p vs xs fq k3 k4 knd k5 k6 =>
      have dis : ∀ a ∈ ft, a ∉ fq := fun a m2 m => t2 a m2 ⟨i, _, _, _, h2, g1, k2', List.mem_cons_of_mem _ m⟩
      cases hk : kkOf d with
      | none => simp only [putAtH, hk] at h3; cases h3
      | some kk =>
      simp only [putAtH, hk] at h3
      have hd := kkOf_eq hk
      subst hd
      cases kk with
      | inl q => cases h3
      | inr q =>
        simp only at h3
        split at h3
        case isFalse => cases h3
        rename_i hz
        cases h3
        obtain ⟨b, ys, rfl, e2, rl⟩ := Rep.tup_at r1
        rw [rl.keys_of] at e2
        have eb := h1.1.ok.sub.at e2 rfl
        obtain ⟨fr, y1, y2⟩ := k5.put rt dis
        refine .inr ⟨p, _, rfl, .inl (.inr ⟨vs, q, b, k3, rfl, eb, by rw [k5.length]; exact Nat.lt_of_lt_of_le hz big_le, rfl⟩), ?_⟩
        rw [putK_eq knd.2]
        exact go _ (Step.putX (tmp := ft) h1.1 h2 g1 k2' k6 k4 (fun hn npr => .dt upd_same k4 ⟨putR_ne, putR_nodup knd.2⟩ (y1.keep (Same.refl _) (fun a m => hn a fun z => npr (z ▸ m)) fun a m => (y1.there a m).1) npr) (tabs_dt h1.1.ok.tabs k3) t1 t2 y2)
end
end DI

namespace DI
open PySem L2

/-! ### several results at once -/
def sRep (K : PySem.W.Frag) (fa : Fa) : RlT (List R) (List V) := fun F H σ env F' H' σ' env' vs rs => ∃ fp, RepOs K fa F' H' vs (rs.map R.h) fp ∧ (∀ p ∈ fp, Own K fa F H σ env p ∨ H p = none) ∧ ∀ p ∈ fp, ¬ Own K fa F' H' σ' env' p
instance {K : PySem.W.Frag} {fa : Fa} : Lif K fa (sRep K fa) := ⟨fun s ⟨fp, h1, h2, h3⟩ => ⟨fp, h1, fun p m => none_back s (h2 p m), h3⟩⟩
def tRs (K : PySem.W.Frag) (fa : Fa) (f : Ev → Res (List R)) : TA := fun σ H Q => ∃ F env, At K fa (sRep K fa) f F H σ env Q
section
variable {X : Cx} {fa : Fa} {cf : CF} {pos : Pos} {a b c e tg : Expr} {ia ib ic : I} {es : List Expr} {is : Is}
theorem eRs_cons : eRs cf (.cons ia is) = fun env => bnd (eI cf ia env) fun r e1 => bnd (eRs cf is e1) fun ds e2 => some (.ok (r :: ds), e2) := rfl
abbrev PRs' (X : Cx) (fa : Fa) (cf : CF) (es : List Expr) (i : Is) : Prop := PA X es (tRs X.K fa (eRs cf i))
theorem r_nil : PRs' X fa cf [] .nil := pa_weak pa_nil fun σ H Q ⟨F, env, h⟩ => h.ret (a := []) rfl (Step.refl h.ok) ⟨[], .nil, fun _ m => (by cases m), fun _ m => (by cases m)⟩
theorem r_cons (ha : PI' X fa cf e ia) (hr : PRs' X fa cf es is) (hs : starEach (e :: es) X.env = (false, eval e X.env) :: starEach es X.env) : PRs' X fa cf (e :: es) (.cons ia is) := pa_weak (pa_cons ha hr hs) fun σ H Q ⟨F, env, h⟩ => by
  rw [eRs_cons] at h
  refine ⟨F, env, AtB.bnd (Rl := RRep X.K fa) h.b fun r e1 F1 H1 v s1 r1 h1 => ⟨F1, e1, AtB.bnd (Rl := sRep X.K fa) h1 fun rs e2 F2 H2 vs s2 r2 h2 => ?_⟩⟩
  obtain ⟨fp, g1, g2, g3⟩ := r1.ho
  obtain ⟨fp', k1, k2, k3⟩ := (r1.stay s2).ho
  obtain ⟨fq, l1, l2, l3⟩ := r2
  have e9 : fp = fp' := by
    have := g1.keep (H' := H2) s2.sub (fun a m => by
      obtain ⟨f, o, e, nt⟩ := g1.thereN a m
      rw [e]; exact (s2.keep a o e (g3 a m)).n nt fun z => z f) (fun a m => by
      obtain ⟨f, o, e⟩ := g1.there a m
      exact s2.stay a (by rw [e]; simp) f (g3 a m))
    exact this.uniq k1
  have dis : ∀ a ∈ fp', a ∉ fq := fun a m m2 => by
    rw [← e9] at m
    rcases l2 a m2 with z | z
    · exact g3 a m z
    · obtain ⟨_, o, e⟩ := g1.there a m
      rw [e] at z; cases z
  refine h2.ret (a := r :: rs) rfl h2.1 ⟨fp' ++ fq, .cons k1 l1 dis, fun p m => ?_, fun p m => ?_⟩
  · rcases List.mem_append.mp m with z | z
    · exact k2 p z
    · exact none_back s1 (l2 p z)
  · rcases List.mem_append.mp m with z | z
    · exact k3 p z
    · exact l3 p z
theorem eI_lst : eI cf (.lst is) = fun env => bnd (eRs cf is env) fun rs e1 => if rs.length ≤ big then some (.ok (.new (.ls (rs.map R.h))), e1) else none := rfl
/-- a list that was just made of things that nobody has -/
theorem new_list {K : PySem.W.Frag} {F0 H0 F H : Hp} {σ : L2.St} {env0 env : Ev} {p : Addr} {vs : List V} {xs : List Ho} {fp : List Addr} (s : Step K fa F0 H0 σ env0 F H σ env) (hp : H p = none) (h1 : RepOs K fa F H vs xs fp) (h2 : ∀ q ∈ fp, Own K fa F0 H0 σ env0 q ∨ H0 q = none) (h3 : ∀ q ∈ fp, ¬ Own K fa F H σ env q) :
    Step K fa F0 H0 σ env0 F (upd H p (.lst vs)) σ env ∧ RRep K fa F0 H0 σ env0 F (upd H p (.lst vs)) σ env (.ref p) (.new (.ls xs)) := by
  obtain ⟨s2, _⟩ := (ARes.new (K := K) (fa := fa) (F := F) (vs := []) (xs := []) hp .nil).step s.ok
  have hF := sub_none s.ok.sub hp
  have np : p ∉ fp := fun m => by
    obtain ⟨_, o, e⟩ := h1.there p m
    rw [hp] at e; cases e
  have nown : ¬ Own K fa F H σ env p := fun z => by
    obtain ⟨_, u, y⟩ := s.ok.own_at z
    rw [hp] at y; cases y
  have cm : Calm K fa F H F (upd H p (.lst vs)) σ env := fun q hq => ⟨upd_ne fun z => nown (z ▸ hq), (s.ok.own_at hq).1⟩
  have s3 : Step K fa F H σ env F (upd H p (.lst vs)) σ env := ⟨Same.refl _, fun x u e _ => .of (by rw [upd_ne (ne_of_none e hp)]; exact e), fun x _ h _ => h, s.ok.more (Same.refl _) (s.ok.sub.upd hF) cm (tabs_new s.ok.tabs hp), fun _ h => .inl (s.ok.ownsame (Same.refl _) cm h), fun _ xs h => ⟨rfl, xs, h⟩⟩
  refine ⟨s.trans s3, p :: fp, .ls upd_same hF (h1.keep (Same.refl _) (fun a m => upd_ne fun z => np (z ▸ m)) fun a m => (h1.there a m).1) np, fun q m => ?_, fun q m z => ?_⟩
  · rcases List.mem_cons.mp m with rfl | m
    · exact none_back s (.inr hp)
    · exact h2 q m
  · have z' := s.ok.ownsame (Same.refl _) cm z
    rcases List.mem_cons.mp m with rfl | m
    · exact nown z'
    · exact h3 q m z'
theorem s_list (h : PRs' X fa cf es is) : PI' X fa cf (.List es pos) (.lst is) := pe_weak (pe_lst h) fun σ H Q ⟨F, env, q⟩ => by
  rw [eI_lst] at q
  refine ⟨F, env, AtB.bnd (Rl := sRep X.K fa) q.b fun rs e1 F1 H1 vs s1 ⟨fp, r1, r2, r3⟩ h1 => ?_⟩
  by_cases hz : rs.length ≤ big
  · refine ⟨by rw [r1.length, List.length_map]; exact le_line hz, fun p hp => ?_⟩
    obtain ⟨a1, a2⟩ := new_list s1 hp r1 r2 r3
    exact h1.ret (a := .new (.ls (rs.map R.h))) (by simp only [if_pos hz]) a1 a2
  · exact (h1.no (by simp only [if_neg hz])).elim

/-! ### a, b = x, y -/
theorem rrep_of {K : PySem.W.Frag} {F0 H0 F H : Hp} {σ0 σ : L2.St} {env0 env : Ev} {v : V} {r : R} {fp : List Addr} (h1 : RepO K fa F H v r.h fp) (h2 : ∀ p ∈ fp, Own K fa F0 H0 σ0 env0 p ∨ H0 p = none) (h3 : ∀ p ∈ fp, ¬ Own K fa F H σ env p) : RRep K fa F0 H0 σ0 env0 F H σ env v r := by
  cases r with
  | val d => cases h1 with
    | fz r => exact r
  | new x => exact ⟨fp, h1, h2, h3⟩
/-- results are stored, one behind the other -/
def setSt (σ : L2.St) : List Nat → List V → L2.St
  | s :: ss, v :: vs => setSt (σ.set s (some v)) ss vs
  | _, _ => σ
theorem setRs_step {K : PySem.W.Frag} {F0 H0 F H : Hp} {σ0 : L2.St} {env0 : Ev} : ∀ (ss : List Nat) (rs : List R) {vs : List V} {σ : L2.St} {env e2 : Ev} {fp : List Addr}, setRs ss rs env = some e2 → Step K fa F0 H0 σ0 env0 F H σ env → RepOs K fa F H vs (rs.map R.h) fp →
    (∀ p ∈ fp, Own K fa F0 H0 σ0 env0 p ∨ H0 p = none) → (∀ p ∈ fp, ¬ Own K fa F H σ env p) → Step K fa F0 H0 σ0 env0 F H (setSt σ ss vs) e2 ∧ vs.length = ss.length
  | [], [], vs, σ, env, e2, fp, h, s, r, _, _ => by
    cases h
    cases r
    exact ⟨s, rfl⟩
  | [], _ :: _, _, _, _, _, _, h, _, _, _, _ => by cases h
  | _ :: _, [], _, _, _, _, _, h, _, _, _, _ => by cases h
  | s0 :: ss, r0 :: rs, vs, σ, env, e2, fp, h, s, r, t1, t2 => by
    simp only [setRs] at h
    split at h
    · rename_i hf
      cases r with
      | @cons v _ vs' _ f1 f2 ra rb dis =>
      have st := s.assign (rrep_of ra (fun p m => t1 p (mem_l m)) fun p m => t2 p (mem_l m)) hf
      obtain ⟨q1, q2⟩ := setRs_step ss rs h st rb (fun p m => t1 p (mem_r m)) fun p m z => by
        obtain ⟨hs, _⟩ := free_not hf
        have hs' : s0 < σ.length := by rw [s.ok.len]; exact hs
        obtain ⟨j, x, u, fr, g1, g2, g3, g4⟩ := z
        by_cases ej : s0 = j
        · subst ej
          rw [List.getElem?_set_self hs'] at g2
          cases g2
          cases r0 with
          | val d => rcases held_iff.mp g1 with q | q <;> (rw [List.getElem?_set_self hs] at q; cases q)
          | new x0 =>
            rcases held_iff.mp g1 with q | q <;> (rw [List.getElem?_set_self hs] at q; cases q)
            rw [g3.uniq ra] at g4
            exact dis p g4 m
        · rw [held_set_ne ej] at g1
          rw [List.getElem?_set_ne ej] at g2
          exact t2 p (mem_r m) ⟨j, x, u, fr, g1, g2, g3, g4⟩
      exact ⟨q1, by simp [q2]⟩
    · cases h
theorem eS_par {ss : List Nat} : eS cf (.par ss is) = fun env => bnd (eRs cf is env) fun rs e1 => if ss.Nodup then okR ((setRs ss rs e1).map fun _ => Fl.nx) ((setRs ss rs e1).getD e1) else none := rfl
theorem par_D {ss : List Nat} {D : Ends} {σ : L2.St} {H : Hp} (q : tS X.K fa (eS cf (.par ss is)) D σ H) : tRs X.K fa (eRs cf is) σ H fun vs H1 => vs.length = ss.length ∧ D.nx (setSt σ ss vs) H1 := by
  obtain ⟨F, env, h⟩ := q
  rw [eS_par] at h
  refine ⟨F, env, AtSB.bnd (Rl := sRep X.K fa) h.b fun rs e1 F1 H1 vs s1 ⟨fp, r1, r2, r3⟩ h1 => ?_⟩
  by_cases hz : ss.Nodup
  · cases hs : setRs ss rs e1 with
    | none => exact (h1.no (by simp only [if_pos hz, hs]; rfl)).elim
    | some e2 =>
      obtain ⟨q1, q2⟩ := setRs_step ss rs hs h1.1 r1 r2 r3
      exact ⟨q2, h1.fl (fl := .nx) (by simp only [if_pos hz, hs]; rfl) q1⟩
  · exact (h1.no (by simp only [if_neg hz])).elim
theorem b_par2 {i j : Nat} {x y : Str} {px py pt pt2 : Pos} {kt k2 : Nat} (hc : X.calm = true) (hN : X.N.Nodup) (hi : X.N[i]? = some x) (hj : X.N[j]? = some y) (hij : i ≠ j) (hx : X.env.scope.names.lookup x = some .local) (hy : X.env.scope.names.lookup y = some .local)
    (h : PRs' X fa cf [a, b] is) (hw : swappedStores [.Tuple [.Name x px, .Name y py] kt pt] (.Tuple [a, b] k2 pt2) X.env = pure (some [x, y])) :
    PS' X fa cf (.Assign [.Tuple [.Name x px, .Name y py] kt pt] (.Tuple [a, b] k2 pt2) pos) (.par [i, j] is) := ps_weak (ps_par hc hN hi hj hij hx hy h hw rfl) fun D σ H q => by
  obtain ⟨F, env, h⟩ := par_D q
  exact ⟨F, env, h.mono fun vs H1 ⟨hl, hn⟩ => by
    match vs, hl with
    | [v, w], _ => exact ⟨v, w, rfl, hn⟩⟩
theorem b_par3 {i j l : Nat} {x y z : Str} {px py pz pt pt2 : Pos} {kt k2 : Nat} (hc : X.calm = true) (hN : X.N.Nodup) (hi : X.N[i]? = some x) (hj : X.N[j]? = some y) (hl : X.N[l]? = some z) (hij : i ≠ j) (hil : i ≠ l) (hjl : j ≠ l) (hx : X.env.scope.names.lookup x = some .local) (hy : X.env.scope.names.lookup y = some .local) (hz : X.env.scope.names.lookup z = some .local)
    (h : PRs' X fa cf [a, b, c] is) (hw : swappedStores [.Tuple [.Name x px, .Name y py, .Name z pz] kt pt] (.Tuple [a, b, c] k2 pt2) X.env = pure (some [x, y, z])) :
    PS' X fa cf (.Assign [.Tuple [.Name x px, .Name y py, .Name z pz] kt pt] (.Tuple [a, b, c] k2 pt2) pos) (.par [i, j, l] is) := ps_weak (ps_par3 hc hN hi hj hl hij hil hjl hx hy hz h hw rfl) fun D σ H q => by
  obtain ⟨F, env, h⟩ := par_D q
  exact ⟨F, env, h.mono fun vs H1 ⟨hl, hn⟩ => by
    match vs, hl with
    | [u, v, w], _ => exact ⟨u, v, w, rfl, hn⟩⟩

/-! ### x[i] = e; a, x[i] = e -/
theorem eS_put1 {i : Nat} : eS cf (.put1 i ib ia) = fun env => bnd (eI cf ia env) fun r e1 => bnd (setP cf (.sub i ib) r e1) fun _ e2 => some (.ok .nx, e2) := rfl
theorem b_put1 {i : Nat} {x : Str} {px p2 : Pos} (hu : X.A.units + 64 < cLine) (hN : X.N[i]? = some x) (hv : Vis X.env.scope x) (hd : (x == ("__debug__" : Str)) = false) (hcd : (x == ("__classdict__" : Str)) = false) (hb : PI' X fa cf b ib) (ha : PI' X fa cf a ia)
    (hsub : ∀ v, assign (.Subscript (.Name x px) b p2) X.env v = (do
      let ov ← holding [v] (eval (.Name x px) X.env)
      let iv ← holding [v, ov] (eval b X.env)
      standAt p2
      holding [v, ov, iv] (setItem ov iv v)
      release [v, ov, iv] []))
    (hs : swapsWithSole [.Subscript (.Name x px) b p2] a pos.line X.env = pure false) (hw : swappedStores [.Subscript (.Name x px) b p2] a X.env = pure none) (h1 : (assignEach [.Subscript (.Name x px) b p2] X.env).map (·.2) = [assign (.Subscript (.Name x px) b p2) X.env]) :
    PS' X fa cf (.Assign [.Subscript (.Name x px) b p2] a pos) (.put1 i ib ia) := ps_weak (ps_asg ha (pg_sub (pe_var hN hv hd hcd) hb (set_any hu) hsub) hs hw h1) fun D σ H ⟨F, env, h⟩ => by
  rw [eS_put1] at h
  refine ⟨F, env, AtSB.bnd (Rl := RRep X.K fa) h.b fun r e1 F1 H1 v s1 r1 h1 => ?_⟩
  exact sub_D r1 h1 fun e2 F2 H2 h2 _ => h2.fl (fl := .nx) rfl h2.1
def gP (K : PySem.W.Frag) (fa : Fa) (cf : CF) : Pl → TG
  | .nm s => gName s
  | .sub s ix => gSub (tVar s) (tI K fa (eI cf ix)) rSetA
  | .fl _ _ _ => fun _ _ _ _ => False
def gPs (K : PySem.W.Frag) (fa : Fa) (cf : CF) : List Pl → TGs
  | [] => gNil
  | p :: ps => gCons (gP K fa cf p) (gPs K fa cf ps)
def noFl : Pl → Bool
  | .fl _ _ _ => false
  | _ => true
theorem setPs_cons {p : Pl} {ps : List Pl} {d : DI.D} {ds : List DI.D} : setPs cf (p :: ps) (d :: ds) = fun env => bnd (setP cf p (.val d) env) fun _ e1 => setPs cf ps ds e1 := rfl
theorem setPs_D {F0 H0 : Hp} {σ0 : L2.St} {env0 : Ev} {D : Ends} {g : Ev → Res Fl} {Q : L2.St → Hp → Prop} (k : ∀ σ' e2 F2 H2, AtSB X.K fa g F0 H0 σ0 env0 F2 H2 σ' e2 D → Q σ' H2) : ∀ (ps : List Pl) (ds : List DI.D) {vs : List V} {F H : Hp} {σ : L2.St} {env : Ev}, ps.all noFl = true → RepL X.K fa F vs ds →
    AtSB X.K fa (fun e => bnd (setPs cf ps ds e) fun _ e2 => g e2) F0 H0 σ0 env0 F H σ env D → gPs X.K fa cf ps vs σ H Q
  | [], [], vs, F, H, σ, env, _, r, h => by
    cases r
    exact ⟨rfl, k σ env F H h⟩
  | [], _ :: _, _, _, _, _, _, _, _, h => (h.no rfl).elim
  | _ :: _, [], _, _, _, _, _, _, _, h => (h.no rfl).elim
  | p :: ps, d :: ds, vs, F, H, σ, env, hnf, r, h => by
    rw [List.all_cons, Bool.and_eq_true] at hnf
    cases r with
    | @cons v _ vs' _ r1 r2 =>
    have h' : AtSB X.K fa (fun e => bnd (setP cf p (.val d) e) fun _ e1 => bnd (setPs cf ps ds e1) fun _ e2 => g e2) F0 H0 σ0 env0 F H σ env D := h.cast (by
      rw [setPs_cons]
      simp only
      cases setP cf p (.val d) env with
      | none => rfl
      | some oe =>
        obtain ⟨o, e⟩ := oe
        cases o <;> rfl)
    refine ⟨v, vs', rfl, ?_⟩
    cases p with
    | nm s =>
      cases hf : free env s with
      | false => exact (h'.no (by show bnd (if free env s then _ else _) _ = _; rw [hf]; rfl)).elim
      | true =>
        have st := h'.1.assign (r := .val d) (v := v) r1 hf
        refine setPs_D k ps ds hnf.2 r2 (env := env.set s (.val d)) ?_
        obtain ⟨_, o, env', e9, q9⟩ := h'
        simp only [setP, hf, if_true] at e9
        exact ⟨st, o, env', e9, q9⟩
    | sub s ix =>
      exact sub_D (Q := fun σ' H' => gPs X.K fa cf ps vs' σ' H' Q) (r := .val d) (v := v) (show RRep X.K fa F0 H0 σ0 env0 F H σ env v (.val d) from r1) h' fun e2 F2 H2 h2 sF => setPs_D k ps ds hnf.2 (r2.mono sF) h2
    | fl s f cs => cases hnf.1
theorem eS_upk {ps : List Pl} : eS cf (.upk ps ia) = fun env => bnd (asV (eI cf ia) env) fun d e1 => match unpOf d with
    | some ds => if ds.length = ps.length then bnd (setPs cf ps ds e1) fun _ e2 => some (.ok .nx, e2) else none
    | none => none := by
  funext env
  rw [asV_bnd]
  rfl
theorem pg_or {tg : Expr} {g g' : TG} (h : PG X tg g) (h' : PG X tg g') : PG X tg (fun v σ H Q => g v σ H Q ∨ g' v σ H Q) := ⟨fun pins s σ H v u Q I r q => by
  rcases q with q | q
  · exact h.run pins s σ H v u Q I r q
  · exact h'.run pins s σ H v u Q I r q⟩
theorem b_upk {ps : List Pl} {kt : Nat} {pt : Pos} (hc : X.calm = true) (hnf : ps.all noFl = true) (ha : PI' X fa cf a ia) (hg : PGs X es (gPs X.K fa cf ps)) (hn : (assignEach es X.env).length = ps.length) (hst : (assignEach es X.env).findIdx? (·.1) = none)
    (hs : swapsWithSole [.Tuple es kt pt] a pos.line X.env = pure false) (hw : swappedStores [.Tuple es kt pt] a X.env = pure none) (h1 : (assignEach [.Tuple es kt pt] X.env).map (·.2) = [assign (.Tuple es kt pt) X.env]) :
    PS' X fa cf (.Assign [.Tuple es kt pt] a pos) (.upk ps ia) := ps_weak (ps_asg (pe_asV ha) (pg_or (pg_tup hc hg hn hst) (pg_lst hc hg hn hst)) hs hw h1) fun D σ H ⟨F, env, h⟩ => by
  rw [eS_upk] at h
  refine ⟨F, env, AtSB.bnd (Rl := vRep X.K fa) h.b fun d e1 F1 H1 v s1 r1 h1 => ?_⟩
  cases hu : unpOf d with
  | none => exact (h1.no (by simp only [hu])).elim
  | some ds =>
    by_cases hl : ds.length = ps.length
    · have h2 : AtSB X.K fa (fun e => bnd (setPs cf ps ds e) fun _ e2 => some (.ok .nx, e2)) F H σ env F1 H1 σ e1 D := h1.cast (by simp only [hu, if_pos hl])
      have fin : ∀ vs, RepL X.K fa F1 vs ds → gPs X.K fa cf ps vs σ H1 D.nx := fun vs rl => by
        refine setPs_D (g := fun e2 => some (.ok .nx, e2)) (fun σ1 e2 F2 H2 h3 => ?_) ps ds hnf rl h2
        have st := h3.1
        exact h3.fl (fl := .nx) (e' := e2) rfl st
      cases d with
      | lst xs =>
        cases hu
        obtain ⟨p, vs, rfl, g1, g2⟩ := Rep.lst_of r1
        exact .inr ⟨p, vs, rfl, SqL.of (h1.1.ok.sub.at g1 rfl), by rw [g2.length, hl], fin vs g2⟩
      | tup xs =>
        cases hu
        obtain ⟨p, vs, rfl, g1, g2⟩ := Rep.tup_of r1
        exact .inl ⟨p, vs, rfl, h1.1.ok.sub.tup g1, by rw [g2.length, hl], fin vs g2⟩
      | _ => cases hu
    · exact (h1.no (by simp only [hu, if_neg hl])).elim
end
end DI

namespace DI
open PySem L2

/-- nothing that is raised leaves -/
def Fa.nox (fa : Fa) : Fa := ⟨fa.f, fa.ex, fa.exm, fun _ _ _ _ => False, fa.tb⟩
section
variable {K : PySem.W.Frag} {fa fb : Fa} {F H F' H' F1 H1 F3 H3 : Hp} {σ σ' σA σB σC : L2.St} {env env' eA eB eC : Ev}
theorem Ok.chg (hf : fb.f = fa.f) (hx : fb.ex = fa.ex) (o : Ok K fa F H σ env) (ht : fb.tb = fa.tb := by rfl) : Ok K fb F H σ env := by
  obtain ⟨f, ex, exm, W, tb⟩ := fb
  cases hf
  cases hx
  cases ht
  exact ⟨o.exc, o.len, o.sub, o.val, o.own, o.dis, o.tabs⟩
theorem Step.chg (hf : fb.f = fa.f) (hx : fb.ex = fa.ex) (s : Step K fa F H σ env F' H' σ' env') (ht : fb.tb = fa.tb := by rfl) : Step K fb F H σ env F' H' σ' env' := by
  have ok := s.ok.chg hf hx ht
  obtain ⟨f, ex, exm, W, tb⟩ := fb
  cases hf
  cases hx
  cases ht
  exact ⟨s.sub, s.keep, s.stay, ok, s.own, s.io⟩

/-! ### names that are put aside -/
theorem putBack_get (e old : Ev) : ∀ (vs : List Nat) (i : Nat), (putBack e old vs)[i]? = if i ∈ vs ∧ i < e.length then some (old.getD i .un) else e[i]?
  | [], i => by simp [putBack]
  | v :: vs, i => by
    have hl : (putBack e old vs).length = e.length := by
      induction vs with
      | nil => rfl
      | cons w ws ih => simp [putBack, ih]
    unfold putBack
    by_cases h : v = i
    · subst h
      by_cases hi : v < e.length
      · rw [List.getElem?_set_self (by rw [hl]; exact hi), if_pos ⟨List.mem_cons_self, hi⟩]
      · rw [List.getElem?_eq_none (by rw [List.length_set, hl]; omega), if_neg (fun z => hi z.2), List.getElem?_eq_none (by omega)]
    · rw [List.getElem?_set_ne h, putBack_get e old vs i]
      have : (i ∈ v :: vs) ↔ i ∈ vs := by simp [Ne.symm h]
      simp only [this]
theorem putBack_len (e old : Ev) : ∀ (vs : List Nat), (putBack e old vs).length = e.length
  | [] => rfl
  | v :: vs => by unfold putBack; rw [List.length_set, putBack_len e old vs]
theorem clr_get (e : Ev) : ∀ (vs : List Nat) (i : Nat), (clr e vs)[i]? = if i ∈ vs ∧ i < e.length then some .un else e[i]?
  | [], i => by simp [clr]
  | v :: vs, i => by
    have hl : (clr e vs).length = e.length := by
      induction vs with
      | nil => rfl
      | cons w ws ih => simp [clr, ih]
    unfold clr
    by_cases h : v = i
    · subst h
      by_cases hi : v < e.length
      · rw [List.getElem?_set_self (by rw [hl]; exact hi), if_pos ⟨List.mem_cons_self, hi⟩]
      · rw [List.getElem?_eq_none (by rw [List.length_set, hl]; omega), if_neg (fun z => hi z.2), List.getElem?_eq_none (by omega)]
    · rw [List.getElem?_set_ne h, clr_get e vs i]
      have : (i ∈ v :: vs) ↔ i ∈ vs := by simp [Ne.symm h]
      simp only [this]
theorem clr_len (e : Ev) : ∀ (vs : List Nat), (clr e vs).length = e.length
  | [] => rfl
  | v :: vs => by unfold clr; rw [List.length_set, clr_len e vs]
theorem wipe_get (s : L2.St) : ∀ (vs : List Nat) (i : Nat), i ∉ vs → (wipe s vs)[i]? = s[i]?
  | [], _, _ => rfl
  | v :: vs, i, h => by
    unfold wipe
    rw [List.getElem?_set_ne (fun z => h (by simp [z])), wipe_get s vs i (fun z => h (by simp [z]))]
/-- at these names there is no thing -/
def LooseOn (env : Ev) (vs : List Nat) : Prop := ∀ i ∈ vs, ∀ x, held env i ≠ some x
theorem loose_held {vs : List Nat} {i : Nat} {x : Ho} (l : LooseOn env vs) (h : held env i = some x) : i ∉ vs := fun m => l i m x h
theorem held_congr {i : Nat} (h : eA[i]? = eB[i]?) : held eA i = held eB i := by unfold held; rw [h]
/-- two frames that differ at names without things alone -/
theorem own_swap {vs : List Nat} (lB : LooseOn eB vs) (hs : ∀ i, i ∉ vs → σA[i]? = σB[i]?) (he : ∀ i, i ∉ vs → eA[i]? = eB[i]?) {p : Addr} (q : Own K fa F H σB eB p) : Own K fa F H σA eA p := by
  obtain ⟨i, x, v, fp, h1, h2, h3⟩ := q
  have hi := loose_held lB h1
  exact ⟨i, x, v, fp, by rw [held_congr (he i hi)]; exact h1, by rw [hs i hi]; exact h2, h3⟩
theorem ok_clr {vs : List Nat} (o : Ok K fa F H σ env) (l : LooseOn env vs) : Ok K fa F H (wipe σ vs) (clr env vs) := by
  have hne : ∀ i x, held (clr env vs) i = some x → i ∉ vs ∧ held env i = some x := fun i x h => by
    have hl := held_lt h
    rw [clr_len] at hl
    by_cases m : i ∈ vs
    · rcases held_iff.mp h with q | q <;> (rw [clr_get, if_pos ⟨m, hl⟩] at q; cases q)
    · exact ⟨m, by rw [← held_congr (show (clr env vs)[i]? = env[i]? by rw [clr_get, if_neg fun z => m z.1])]; exact h⟩
  refine ⟨fun i x e => ?_, by rw [wipe_length, clr_len]; exact o.len, o.sub, fun i d e => ?_, fun i x e => ?_, fun i j x y v w fp fq ij hx hy hv hw => ?_, o.tabs⟩
  · rw [clr_get] at e
    split at e
    · cases e
    · rename_i hn
      have hi : i ∉ vs := fun m => hn ⟨m, (List.getElem?_eq_some_iff.mp e).1⟩
      rw [wipe_get σ vs i hi]
      exact o.exc i x e
  · rw [clr_get] at e
    split at e
    · cases e
    · rename_i hn
      have hi : i ∉ vs := fun m => hn ⟨m, (List.getElem?_eq_some_iff.mp e).1⟩
      rw [wipe_get σ vs i hi]
      exact o.val i d e
  · obtain ⟨h1, h2⟩ := hne i x e
    rw [wipe_get σ vs i h1]
    exact o.own i x h2
  · obtain ⟨h1, h2⟩ := hne i x hx
    obtain ⟨h3, h4⟩ := hne j y hy
    rw [wipe_get σ vs i h1] at hv
    rw [wipe_get σ vs j h3] at hw
    exact o.dis i j x y v w fp fq ij h2 h4 hv hw
/-- a turn of a comprehension, seen from outside -/
theorem turn_out {vs : List Nat} (oA : Ok K fa F H σA eA) (lA : LooseOn eA vs) (lB : LooseOn eB vs) (hs : ∀ i, i ∉ vs → σA[i]? = σB[i]?) (he : ∀ i, i ∉ vs → eA[i]? = eB[i]?) (hs' : ∀ i, i ∉ vs → σA[i]? = σC[i]?) (st : Step K fa F H σB eB F3 H3 σC eC) (hl : eC.length = eA.length) :
    Step K fa F H σA eA F3 H3 σA (putBack eC eA vs) := by
  have ob : ∀ {p}, Own K fa F H σB eB p → Own K fa F H σA eA p := fun q => own_swap lB hs he q
  have hne : ∀ i x, held (putBack eC eA vs) i = some x → i ∉ vs ∧ held eC i = some x := fun i x h => by
    have hli := held_lt h
    rw [putBack_len] at hli
    by_cases m : i ∈ vs
    · exfalso
      have hA : eA[i]? = some (eA.getD i .un) := by
        rw [List.getD_eq_getElem?_getD]
        cases e : eA[i]? with
        | none => rw [List.getElem?_eq_none_iff] at e; omega
        | some z => rfl
      exact lA i m x (by rw [← held_congr (show (putBack eC eA vs)[i]? = eA[i]? by rw [putBack_get, if_pos ⟨m, hli⟩, hA])]; exact h)
    · exact ⟨m, by rw [← held_congr (show (putBack eC eA vs)[i]? = eC[i]? by rw [putBack_get, if_neg fun z => m z.1])]; exact h⟩
  have oC : ∀ {p}, Own K fa F3 H3 σA (putBack eC eA vs) p → Own K fa F3 H3 σC eC p := fun {p} ⟨i, x, v, fp, h1, h2, h3⟩ => by
    obtain ⟨g1, g2⟩ := hne i x h1
    exact ⟨i, x, v, fp, g2, by rw [← hs' i g1]; exact h2, h3⟩
  have getA : ∀ i, i ∈ vs → i < eC.length → (putBack eC eA vs)[i]? = eA[i]? := fun i m hi => by
    rw [putBack_get, if_pos ⟨m, hi⟩, List.getD_eq_getElem?_getD]
    cases e : eA[i]? with
    | none => rw [List.getElem?_eq_none_iff] at e; omega
    | some z => rfl
  refine ⟨st.sub, fun a u e n => st.keep a u e fun q => n (ob q), fun a h1 h2 n => st.stay a h1 h2 fun q => n (ob q), ⟨fun i x e => ?_, ?_, st.ok.sub, fun i d e => ?_, fun i x e => ?_, fun i j x y v w fp fq ij hx hy hv hw => ?_, st.ok.tabs⟩, fun p q => ?_, fun j x e => ?_⟩
  · have hli := (List.getElem?_eq_some_iff.mp e).1
    rw [putBack_len] at hli
    by_cases m : i ∈ vs
    · rw [getA i m hli] at e
      obtain ⟨a, h1, h2⟩ := oA.exc i x e
      exact ⟨a, h1, fa.exm a x _ _ st.sub h2⟩
    · rw [putBack_get, if_neg fun z => m z.1] at e
      rw [hs' i m]
      exact st.ok.exc i x e
  · rw [putBack_len, hl]; exact oA.len
  · have hli := (List.getElem?_eq_some_iff.mp e).1
    rw [putBack_len] at hli
    by_cases m : i ∈ vs
    · rw [getA i m hli] at e
      obtain ⟨a, h1, h2⟩ := oA.val i d e
      exact ⟨a, h1, h2.mono st.sub⟩
    · rw [putBack_get, if_neg fun z => m z.1] at e
      rw [hs' i m]
      exact st.ok.val i d e
  · obtain ⟨g1, g2⟩ := hne i x e
    rw [hs' i g1]
    exact st.ok.own i x g2
  · obtain ⟨g1, g2⟩ := hne i x hx
    obtain ⟨g3, g4⟩ := hne j y hy
    rw [hs' i g1] at hv
    rw [hs' j g3] at hw
    exact st.ok.dis i j x y v w fp fq ij g2 g4 hv hw
  · rcases st.own p (oC q) with z | z
    · exact .inl (ob z)
    · exact .inr z
  · have m : j ∉ vs := fun m => lA j m x (held_iff.mpr (.inr e))
    obtain ⟨h1, y, h2⟩ := st.io j x (by rw [← he j m]; exact e)
    exact ⟨rfl, y, by rw [putBack_get, if_neg fun z => m z.1]; exact h2⟩
theorem own_out {vs : List Nat} (lA : LooseOn eA vs) (hs' : ∀ i, i ∉ vs → σA[i]? = σC[i]?) (hl : eC.length = eA.length) {p : Addr} (q : Own K fa F3 H3 σA (putBack eC eA vs) p) : Own K fa F3 H3 σC eC p := by
  obtain ⟨i, x, v, fp, h, h2, h3⟩ := q
  have hli := held_lt h
  rw [putBack_len] at hli
  by_cases m : i ∈ vs
  · exfalso
    have hA : eA[i]? = some (eA.getD i .un) := by
      rw [List.getD_eq_getElem?_getD]
      cases e : eA[i]? with
      | none => rw [List.getElem?_eq_none_iff] at e; omega
      | some z => rfl
    exact lA i m x (by rw [← held_congr (show (putBack eC eA vs)[i]? = eA[i]? by rw [putBack_get, if_pos ⟨m, hli⟩, hA])]; exact h)
  · exact ⟨i, x, v, fp, by rw [← held_congr (show (putBack eC eA vs)[i]? = eC[i]? by rw [putBack_get, if_neg fun z => m z.1])]; exact h, by rw [← hs' i m]; exact h2, h3⟩
theorem putBack_self (e : Ev) (vs : List Nat) : putBack e e vs = e := by
  apply List.ext_getElem?
  intro i
  rw [putBack_get]
  split
  · rename_i h
    rw [List.getD_eq_getElem?_getD]
    cases q : e[i]? with
    | none => rw [List.getElem?_eq_none_iff] at q; omega
    | some z => rfl
  · rfl
theorem putBack_pb {eC eB eA : Ev} {vs : List Nat} (h : eC.length = eB.length) : putBack eC (putBack eB eA vs) vs = putBack eC eA vs := by
  apply List.ext_getElem?
  intro i
  rw [putBack_get, putBack_get]
  split
  · rename_i hi
    rw [List.getD_eq_getElem?_getD, putBack_get, if_pos ⟨hi.1, by omega⟩]
    rfl
  · rfl
theorem clr_pb {eB eA : Ev} {vs : List Nat} : clr (putBack eB eA vs) vs = clr eB vs := by
  apply List.ext_getElem?
  intro i
  rw [clr_get, clr_get, putBack_len]
  split
  · rfl
  · rename_i h
    rw [putBack_get, if_neg h]
theorem wipe_in (s : L2.St) : ∀ (vs : List Nat) (i : Nat), i ∈ vs → i < s.length → (wipe s vs)[i]? = some none
  | v :: vs, i, h, hl => by
    unfold wipe
    by_cases e : v = i
    · subst e
      rw [List.getElem?_set_self (by rw [wipe_length]; exact hl)]
    · rw [List.getElem?_set_ne e]
      exact wipe_in s vs i ((List.mem_cons.mp h).resolve_left (Ne.symm e)) hl
theorem wipe_eq {s s2 : L2.St} {vs : List Nat} (h1 : ∀ i, i ∉ vs → s2[i]? = (wipe s vs)[i]?) (h2 : s2.length = (wipe s vs).length) : wipe s2 vs = wipe s vs := by
  rw [wipe_length] at h2
  apply List.ext_getElem?
  intro i
  by_cases m : i ∈ vs
  · by_cases hl : i < s.length
    · rw [wipe_in s vs i m hl, wipe_in s2 vs i m (by omega)]
    · rw [List.getElem?_eq_none (by rw [wipe_length]; omega), List.getElem?_eq_none (by rw [wipe_length]; omega)]
  · rw [wipe_get s2 vs i m, h1 i m]
theorem loose_pb {vs : List Nat} (hA : LooseOn eA vs) (hl : eC.length = eA.length) : LooseOn (putBack eC eA vs) vs := fun i m x e => by
  have hli := held_lt e
  rw [putBack_len] at hli
  have : (putBack eC eA vs)[i]? = eA[i]? := by
    rw [putBack_get, if_pos ⟨m, hli⟩, List.getD_eq_getElem?_getD]
    cases e : eA[i]? with
    | none => rw [List.getElem?_eq_none_iff] at e; omega
    | some z => rfl
  exact hA i m x (by rw [← held_congr this]; exact e)
/-- a thing that no name holds is written -/
theorem Step.temp {p : Addr} {o : HO} (a : Step K fa F H σ env F1 H1 σ' env') (h0 : Own K fa F H σ env p ∨ H p = none) (hF : F1 p = none) (n : ¬ Own K fa F1 H1 σ' env' p) (tb : Tb fa.tb F1 (upd H1 p o)) : Step K fa F H σ env F1 (upd H1 p o) σ' env' ∧ ∀ q, Own K fa F1 (upd H1 p o) σ' env' q → Own K fa F1 H1 σ' env' q := by
  have cm : Calm K fa F1 H1 F1 (upd H1 p o) σ' env' := fun q hq => ⟨upd_ne fun z => n (z ▸ hq), (a.ok.own_at hq).1⟩
  refine ⟨⟨a.sub, fun x u e hn => ?_, a.stay, a.ok.more (Same.refl _) (fun x u e => ?_) cm tb, fun q hq => a.own q (a.ok.ownsame (Same.refl _) cm hq), a.io⟩, fun q hq => a.ok.ownsame (Same.refl _) cm hq⟩
  · have : x ≠ p := fun z => by
      subst z
      rcases h0 with y | y
      · exact hn y
      · rw [e] at y; cases y
    obtain ⟨o', e', kp⟩ := a.keep x u e hn
    exact ⟨o', by rw [upd_ne this]; exact e', kp⟩
  · exact a.ok.sub.upd hF x u e
theorem loose_of {vs : List Nat} (h : vs.all (loose1 env) = true) : LooseOn env vs := fun i m x e => by
  have := List.all_eq_true.mp h i m
  unfold loose1 at this
  rcases held_iff.mp e with q | q <;> (rw [q] at this; cases this)
theorem loose_lt {vs : List Nat} (h : vs.all (loose1 env) = true) : ∀ i ∈ vs, i < env.length := fun i m => by
  have := List.all_eq_true.mp h i m
  unfold loose1 at this
  cases e : env[i]? with
  | none => rw [e] at this; cases this
  | some z => exact (List.getElem?_eq_some_iff.mp e).1
theorem loose_clr {vs : List Nat} : LooseOn (clr env vs) vs := fun i m x e => by
  have hl := held_lt e
  rw [clr_len] at hl
  rcases held_iff.mp e with q | q <;> (rw [clr_get, if_pos ⟨m, hl⟩] at q; cases q)
end

section
variable {X : Cx} {fa : Fa} {cf : CF}
def lcT (cf : CF) (tg : Tg) (c : T) (e : I) : D → Ev → Res (Option Ho) := fun d en => match bindT tg d (clr en tg.slots) with
  | none => none
  | some en1 => bnd (eT cf c en1) fun k e2 => if k then bnd (eI cf e e2) fun r e3 => some (.ok (some r.h), e3) else some (.ok none, e2)
theorem eI_lc {tg : Tg} {it : It} {c : T} {e : I} : eI cf (.lc tg it c e) = fun env => bnd (eIt cf it env) fun ds e1 => if tg.slots.all (loose1 e1) then
      match lcD (lcT cf tg c e) ds [] e1 with
        | some (.ok xs, e2) => some (.ok (.new (.ls xs)), putBack e2 e1 tg.slots)
        | _ => none
    else none := rfl
theorem lc_D {tg : Tg} {it : It} {c : T} {e : I} {σ : L2.St} {H : Hp} {Q : VK} (q : tI X.K fa (eI cf (.lc tg it c e)) σ H Q) :
    tLc (tIt X.K fa (eIt cf it)) (gT X.K tg) (tB X.K fa.nox (eT cf c)) (tI X.K fa.nox (eI cf e)) tg.slots σ H Q := by
  obtain ⟨F, env, h⟩ := q
  rw [eI_lc] at h
  refine ⟨F, env, AtB.bnd (Rl := iRep X.K fa) h.b fun ds e1 F1 H1 J s1 it h1 L hL => ?_⟩
  cases hlo : tg.slots.all (loose1 e1) with
  | false => exact (h1.no (by simp only [hlo]; rfl)).elim
  | true =>
  have lA := loose_of hlo
  cases hlc : lcD (lcT cf tg c e) ds [] e1 with
  | none => exact (h1.no (by simp only [hlo, hlc]; rfl)).elim
  | some oe =>
  obtain ⟨o, eE⟩ := oe
  cases o with
  | error x => exact (h1.no (by simp only [hlo, hlc]; rfl)).elim
  | ok xs =>
  have hret : (if tg.slots.all (loose1 e1) then
      match lcD (lcT cf tg c e) ds [] e1 with
        | some (.ok xs, e2) => some (Except.ok (R.new (.ls xs)), putBack e2 e1 tg.slots)
        | _ => none
    else none) = (some (Except.ok (R.new (.ls xs)), putBack eE e1 tg.slots) : Res R) := by simp only [hlo, hlc]; rfl
  have hLF : F1 L = none := sub_none s1.ok.sub hL
  have hLn : ¬ Own X.K fa F1 H1 σ e1 L := fun z => by
    obtain ⟨_, vs, y⟩ := s1.ok.own_at z
    rw [hL] at y; cases y
  have h0 : Own X.K fa F H σ env L ∨ H L = none := none_back s1 (.inr hL)
  obtain ⟨s2, on2⟩ := s1.temp (o := .lst []) h0 hLF hLn (tabs_new s1.ok.tabs hL)
  refine ⟨fun i m H' => ∃ F' en acc va fpa, Step X.K fa F H σ env F' H' σ (putBack en e1 tg.slots) ∧ (Same F1 F' ∧ Fz H1 H') ∧ H' L = some (.lst va) ∧ F' L = none ∧ RepOs X.K fa F' H' va acc fpa ∧ L ∉ fpa ∧ (∀ p ∈ fpa, Own X.K fa F H σ env p ∨ H p = none) ∧ (∀ p ∈ fpa, ¬ Own X.K fa F' H' σ (putBack en e1 tg.slots) p) ∧ ¬ Own X.K fa F' H' σ (putBack en e1 tg.slots) L ∧
      lcD (lcT cf tg c e) (ds.drop i) acc en = some (.ok xs, eE) ∧ i ≤ ds.length ∧ m = ds.length - i ∧ en.length = e1.length,
    ⟨ds.length, F1, e1, [], [], [], by rw [putBack_self]; exact s2, ⟨Same.refl _, fun a od u e => by rw [upd_ne (ne_of_none e hL)]; exact e⟩, upd_same, hLF, .nil, List.not_mem_nil, fun _ m => (by cases m), fun _ m => (by cases m), by rw [putBack_self]; exact fun z => hLn (on2 L z), hlc, Nat.zero_le _, rfl, rfl⟩, ?_⟩
  rintro i m H' ⟨F', en, acc, va, fpa, st, ⟨sF, fz⟩, hLl, hLF', ra, hLa, t1, t2, hno, hl, hi, hm, hen⟩
  have sub : SL F1 H' := st.ok.sub.pre sF
  by_cases hlt : i < ds.length
  · have hd : ds[i]? = some ds[i] := List.getElem?_eq_getElem hlt
    rw [List.drop_eq_getElem_cons hlt] at hl
    simp only [lcD] at hl
    refine .inr ⟨it.go i _ H' hd sub fz, fun H2 => ∃ F2 en2 acc2 va2 fpa2, Step X.K fa F H σ env F2 H2 σ (putBack en2 e1 tg.slots) ∧ (Same F1 F2 ∧ Fz H1 H2) ∧ H2 L = some (.lst va2) ∧ F2 L = none ∧ RepOs X.K fa F2 H2 va2 acc2 fpa2 ∧ L ∉ fpa2 ∧ (∀ p ∈ fpa2, Own X.K fa F H σ env p ∨ H p = none) ∧ (∀ p ∈ fpa2, ¬ Own X.K fa F2 H2 σ (putBack en2 e1 tg.slots) p) ∧ ¬ Own X.K fa F2 H2 σ (putBack en2 e1 tg.slots) L ∧
      lcD (lcT cf tg c e) (ds.drop (i + 1)) acc2 en2 = some (.ok xs, eE) ∧ en2.length = e1.length,
      fun H2 ⟨F2, en2, acc2, va2, fpa2, a1, a2, a3, a4, a5, a6, a7, a8, a9, a10, a11⟩ => ⟨ds.length - (i + 1), by omega, F2, en2, acc2, va2, fpa2, a1, a2, a3, a4, a5, a6, a7, a8, a9, a10, hlt, rfl, a11⟩, fun x H2 hy => ?_⟩
    obtain ⟨G', cst', rx⟩ := it.yld i _ F' H' x H2 hd sF st.ok.sub hy
    have cst := cst' fa.tb
    have st2 := cst_stepS st cst
    have own2 : ∀ {p}, Own X.K fa G' H2 σ (putBack en e1 tg.slots) p → Own X.K fa F' H' σ (putBack en e1 tg.slots) p := fun {p} q => by
      rcases (cst_step st.ok cst).own p q with z | z
      · exact z
      · exfalso
        have cm : Calm X.K fa F' H' G' H2 σ (putBack en e1 tg.slots) := fun p hp => by
          obtain ⟨u, e, nt⟩ := own_nt hp
          exact ⟨by rw [e]; exact (cst.keep p u e List.not_mem_nil).n nt fun z => z (st.ok.own_at hp).1, cst.stay p (by rw [e]; simp) (st.ok.own_at hp).1 List.not_mem_nil⟩
        obtain ⟨_, u, e⟩ := st.ok.own_at (st.ok.ownsame cst.sub cm q)
        rw [z] at e; cases e
    -- what stands behind the turn
    have lP : LooseOn (putBack en e1 tg.slots) tg.slots := loose_pb lA hen
    have okI : Ok X.K fa.nox G' H2 (wipe σ tg.slots) (clr en tg.slots) := by
      have := ok_clr st2.ok lP
      rw [clr_pb] at this
      exact Ok.chg (fa := fa) (fb := fa.nox) rfl rfl this
    have hsB : ∀ j, j ∉ tg.slots → σ[j]? = (wipe σ tg.slots)[j]? := fun j hj => (wipe_get σ _ j hj).symm
    have heB : ∀ j, j ∉ tg.slots → (putBack en e1 tg.slots)[j]? = (clr en tg.slots)[j]? := fun j hj => by rw [putBack_get, clr_get, if_neg fun z => hj z.1, if_neg fun z => hj z.1]
    cases hbd : bindT tg ds[i] (clr en tg.slots) with
    | none => simp only [lcT, hbd] at hl; cases hl
    | some en1 =>
    refine bind_D tg hbd (Step.refl okI) rx fun σ2 st3 hσ hσl => ?_
    refine ⟨wipe_eq hσ hσl, ?_⟩
    have hsC : ∀ j, j ∉ tg.slots → σ[j]? = σ2[j]? := fun j hj => by rw [hσ j hj]; exact hsB j hj
    have lenI : ∀ {F3 H3 : Hp} {e3 : Ev}, Step X.K fa.nox G' H2 (wipe σ tg.slots) (clr en tg.slots) F3 H3 σ2 e3 → e3.length = (putBack en e1 tg.slots).length := fun {F3 H3 e3} s => by
      rw [putBack_len, ← s.ok.len, hσl, wipe_length, st.ok.len, putBack_len]
    have back : ∀ {F3 H3 : Hp} {e3 : Ev}, Step X.K fa.nox G' H2 (wipe σ tg.slots) (clr en tg.slots) F3 H3 σ2 e3 →
        Step X.K fa F H σ env F3 H3 σ (putBack e3 e1 tg.slots) ∧ H3 L = some (.lst va) ∧ F3 L = none ∧ RepOs X.K fa F3 H3 va acc fpa ∧ (∀ p ∈ fpa, ¬ Own X.K fa F3 H3 σ (putBack e3 e1 tg.slots) p) ∧ ¬ Own X.K fa F3 H3 σ (putBack e3 e1 tg.slots) L ∧ e3.length = e1.length ∧ (∀ p, Own X.K fa F3 H3 σ (putBack e3 e1 tg.slots) p → Own X.K fa F3 H3 σ2 e3 p) := fun {F3 H3 e3} s3 => by
      have hle := lenI s3
      have so : Step X.K fa G' H2 σ (putBack en e1 tg.slots) F3 H3 σ (putBack e3 (putBack en e1 tg.slots) tg.slots) := turn_out st2.ok lP loose_clr hsB heB hsC (Step.chg (fa := fa.nox) (fb := fa) rfl rfl s3) hle
      rw [putBack_pb (by rw [putBack_len] at hle; exact hle)] at so
      have n1 : ∀ p, H' p ≠ none → ¬ Own X.K fa F' H' σ (putBack en e1 tg.slots) p → ¬ Own X.K fa F3 H3 σ (putBack e3 e1 tg.slots) p := fun p hp hn z => by
        rcases so.own p z with y | y
        · exact hn (own2 y)
        · cases e : H' p with
          | none => exact hp e
          | some u => exact (cst.keep p u e List.not_mem_nil).no y
      have k1 : ∀ p u, H' p = some u → ¬ Own X.K fa F' H' σ (putBack en e1 tg.slots) p → Kept (F' p ≠ none) H3 p u := fun p u e hn => (cst.keep p u e List.not_mem_nil).trans fun u' e' => (so.keep p u' e' fun z => hn (own2 z)).mono fun hf z => hf (cst.stay p (by rw [e]; simp) z List.not_mem_nil)
      have f1 : ∀ p u, H' p = some u → F' p = none → ¬ Own X.K fa F' H' σ (putBack en e1 tg.slots) p → F3 p = none := fun p u e f hn => so.stay p (cst.keep p u e List.not_mem_nil).ne (cst.stay p (by rw [e]; simp) f List.not_mem_nil) fun z => hn (own2 z)
      refine ⟨st2.trans so, (k1 L _ hLl hno).nd (fun _ z => by cases z) rfl, f1 L _ hLl hLF' hno, ra.keep (cst.sub.trans so.sub) (fun a ma => ?_) (fun a ma => ?_), fun p mp => ?_, n1 L (by rw [hLl]; simp) hno, by rw [hle, putBack_len, hen], fun p z => ?_⟩
      · obtain ⟨f, o, e, nt⟩ := ra.thereN a ma
        rw [e]; exact (k1 a o e (t2 a ma)).n nt fun z => z f
      · obtain ⟨f, o, e⟩ := ra.there a ma
        exact f1 a o e f (t2 a ma)
      · obtain ⟨_, o, e⟩ := ra.there p mp
        exact n1 p (by rw [e]; simp) (t2 p mp)
      · exact own_out lA hsC (by rw [hle, putBack_len, hen]) z
    simp only [lcT, hbd] at hl
    cases hc : eT cf c en1 with
    | none => rw [hc] at hl; cases hl
    | some be =>
    obtain ⟨ob, e2⟩ := be
    cases ob with
    | error x => rw [hc] at hl; cases hl
    | ok k =>
    refine ⟨G', en1, st3.ok, _, _, hc, fun F3 H3 kk s3 hkk => ?_⟩
    cases hkk
    have s03 := st3.trans s3
    cases k with
    | false =>
      simp only [hc, bnd] at hl
      obtain ⟨b1, b2, b3, b4, b5, b6, b7, _⟩ := back s03
      exact iteF ⟨F3, e2, acc, va, fpa, b1, ⟨(sF.trans cst.sub).trans s03.sub, (fz.trans cst.fz).trans s03.fz⟩, b2, b3, b4, hLa, t1, b5, b6, hl, b7⟩
    | true =>
      simp only [hc, bnd] at hl
      cases he : eI cf e e2 with
      | none => rw [he] at hl; cases hl
      | some re =>
      obtain ⟨ob, e3⟩ := re
      cases ob with
      | error x => rw [he] at hl; cases hl
      | ok r =>
      simp only [he, if_true] at hl
      refine iteT ⟨F3, e2, s3.ok, _, _, he, fun F4 H4 y s4 ry => ?_⟩
      have s04 := s03.trans s4
      obtain ⟨b1, b2, b3, b4, b5, b6, b7, b8⟩ := back s04
      obtain ⟨fq, r1, r2, r3⟩ := ry.ho
      split at hl
      · rename_i hzz
        obtain ⟨b9, b10⟩ := b1.temp (o := .lst (va ++ [y])) h0 b3 b6 (tabs_lst b1.ok.tabs b2)
        obtain ⟨c1, c2, c3, c4, c5, c6, c7, c8⟩ := back s03
        have dis : ∀ a ∈ fpa, a ∉ fq := fun a ma mq => by
          obtain ⟨_, o, eo⟩ := c4.there a ma
          rcases r2 a mq with z | z
          · have z' : Own X.K fa G' H2 σ (putBack en e1 tg.slots) a ∨ H2 a = none := by
              rcases s03.own a z with w | w
              · exact .inl (own_swap (fa := fa) loose_clr hsB heB w)
              · exact .inr w
            obtain ⟨_, o', eo'⟩ := ra.there a ma
            rcases z' with w | w
            · exact t2 a ma (own2 w)
            · exact (cst.keep a o' eo' List.not_mem_nil).no w
          · rw [eo] at z; cases z
        have Lq : L ∉ fq := fun mq => by
          rcases r2 L mq with z | z
          · rcases s03.own L z with w | w
            · exact hno (own2 (own_swap (fa := fa) loose_clr hsB heB w))
            · exact (cst.keep L _ hLl List.not_mem_nil).no w
          · rw [c2] at z; cases z
        have ro : RepOs X.K fa F4 H4 (va ++ [y]) (acc ++ [r.h]) (fpa ++ (fq ++ [])) := b4.append (.one r1) fun a ma m2 => dis a ma (by simpa using m2)
        have Lall : L ∉ fpa ++ (fq ++ []) := fun m2 => by
          rcases List.mem_append.mp m2 with z | z
          · exact hLa z
          · exact Lq (by simpa using z)
        refine ⟨va, b2, by rw [b4.length]; exact Nat.lt_of_lt_of_le hzz big_le, F4, e3, acc ++ [r.h], va ++ [y], fpa ++ (fq ++ []), b9, ⟨(sF.trans cst.sub).trans s04.sub, ((fz.trans cst.fz).trans s04.fz).trans fun a od u e => by rw [upd_ne (fun z => by rw [z, b2] at e; cases e)]; exact e⟩, upd_same, b3, ro.keep (Same.refl _) (fun a ma => upd_ne fun z => Lall (z ▸ ma)) (fun a ma => (ro.there a ma).1), Lall, fun p mp => ?_, fun p mp z => ?_, fun z => b6 (b10 L z), hl, b7⟩
        · rcases List.mem_append.mp mp with z | z
          · exact t1 p z
          · have z' : p ∈ fq := by simpa using z
            rcases r2 p z' with w | w
            · rcases s03.own p w with w | w
              · exact st2.own p (own_swap (fa := fa) loose_clr hsB heB w)
              · exact none_back st2 (.inr w)
            · exact none_back c1 (.inr w)
        · have z1 := b10 p z
          rcases List.mem_append.mp mp with w | w
          · exact b5 p w z1
          · exact r3 p (by simpa using w) (b8 p z1)
      · cases hl
  · have ei : i = ds.length := by omega
    subst ei
    rw [List.drop_length] at hl
    cases hl
    exact .inl ⟨it.stop H' sub fz, h1.ret hret st ⟨L :: fpa, .ls hLl hLF' ra hLa, fun p mp => by
      rcases List.mem_cons.mp mp with rfl | mp
      · exact h0
      · exact t1 p mp, fun p mp => by
      rcases List.mem_cons.mp mp with rfl | mp
      · exact hno
      · exact t2 p mp⟩⟩
end
end DI

namespace DI
open PySem L2

/-! ### names of attributes -/
theorem nm_ne_empty : nmT.all (fun x => decide (Str.ofString x ≠ Str.empty)) = true := by decide +kernel
theorem nm_nodup : (nmT.map Str.ofString).Nodup := by decide +kernel
theorem nm_inj {f g : Nat} (hf : f < nmT.length) (h : nm g = nm f) : g = f := by
  have e1 : (nmT.map Str.ofString)[f]? = some (nm f) := by
    rw [List.getElem?_map, List.getElem?_eq_getElem hf]
    simp only [Option.map_some, nm, List.getD_eq_getElem?_getD, List.getElem?_eq_getElem hf, Option.getD_some]
  by_cases hg : g < nmT.length
  · have e2 : (nmT.map Str.ofString)[g]? = some (nm g) := by
      rw [List.getElem?_map, List.getElem?_eq_getElem hg]
      simp only [Option.map_some, nm, List.getD_eq_getElem?_getD, List.getElem?_eq_getElem hg, Option.getD_some]
    rw [h, ← e1] at e2
    exact (List.getElem?_inj (by rw [List.length_map]; exact hg) nm_nodup).mp e2
  · exfalso
    have z : nm g = Str.empty := by
      unfold nm
      rw [List.getD_eq_getElem?_getD, List.getElem?_eq_none (by omega)]
      rfl
    have := List.all_eq_true.mp nm_ne_empty (nmT[f]) (List.getElem_mem hf)
    refine of_decide_eq_true this ?_
    rw [← z, h]
    simp only [nm, List.getD_eq_getElem?_getD, List.getElem?_eq_getElem hf, Option.getD_some]
/-- no attribute has this name -/
def notNm (m : Str) : Bool := (nmT.all fun x => decide (Str.ofString x ≠ m)) && decide (m ≠ Str.empty)
theorem notNm_of {m : Str} (h : notNm m = true) (k : Nat) : nm k ≠ m := by
  unfold notNm at h
  rw [Bool.and_eq_true] at h
  unfold nm
  rw [List.getD_eq_getElem?_getD]
  by_cases hk : k < nmT.length
  · rw [List.getElem?_eq_getElem hk, Option.getD_some]
    exact of_decide_eq_true (List.all_eq_true.mp h.1 _ (List.getElem_mem hk))
  · rw [List.getElem?_eq_none (by omega)]
    exact fun z => of_decide_eq_true h.2 z.symm
section
variable {K : PySem.W.Frag} {fa : Nat → Addr} {F H : Hp}
theorem RepF.get {f : Nat} (hf : f < nmT.length) : ∀ {kvs : List (Str × V)} {fs : List (Nat × D)} {d : D}, RepF K fa F kvs fs → fs.lookup f = some d → ∃ v, kvs.lookup (nm f) = some v ∧ Rep K fa F v d
  | _, _, _, .nil, e => by cases e
  | _, _, d, @RepF.cons _ _ _ n k v d0 vs ds hn r t, e => by
    subst hn
    rw [List.lookup_cons] at e
    rw [List.lookup_cons]
    by_cases h : f = k
    · subst h
      rw [beq_self_eq_true] at e
      rw [beq_self_eq_true]
      cases e
      exact ⟨v, rfl, r⟩
    · rw [beq_eq_false_iff_ne.mpr h] at e
      rw [beq_eq_false_iff_ne.mpr fun z => h (nm_inj hf z.symm).symm]
      exact RepF.get hf t e
theorem RepF.no {m : Str} (h : notNm m = true) : ∀ {kvs : List (Str × V)} {fs : List (Nat × D)}, RepF K fa F kvs fs → kvs.lookup m = none
  | _, _, .nil => rfl
  | _, _, .cons hn _ t => by
    subst hn
    rw [List.lookup_cons, beq_eq_false_iff_ne.mpr fun z => notNm_of h _ z.symm]
    exact RepF.no h t
theorem RepOf.get {f : Nat} (hf : f < nmT.length) : ∀ {kvs : List (Str × V)} {fs : List (Nat × Ho)} {fp : List Addr} {d : D}, RepOf K fa F H kvs fs fp → fs.lookup f = some (.fz d) → ∃ v, kvs.lookup (nm f) = some v ∧ Rep K fa F v d
  | _, _, _, _, .nil, e => by cases e
  | _, _, _, d, @RepOf.cons _ _ _ _ n k v x vs xs fp fq hn r t dis, e => by
    subst hn
    rw [List.lookup_cons] at e
    rw [List.lookup_cons]
    by_cases h : f = k
    · subst h
      rw [beq_self_eq_true] at e
      rw [beq_self_eq_true]
      cases e
      cases r with
      | fz r => exact ⟨v, rfl, r⟩
    · rw [beq_eq_false_iff_ne.mpr h] at e
      rw [beq_eq_false_iff_ne.mpr fun z => h (nm_inj hf z.symm).symm]
      exact RepOf.get hf t e
theorem RepOf.length : ∀ {kvs : List (Str × V)} {fs : List (Nat × Ho)} {fp : List Addr}, RepOf K fa F H kvs fs fp → kvs.length = fs.length
  | _, _, _, .nil => rfl
  | _, _, _, .cons _ _ t _ => by simp [RepOf.length t]
theorem RepOf.put {f : Nat} (hf : f < nmT.length) {v : V} {x : Ho} {fq : List Addr} (rv : RepO K fa F H v x fq) : ∀ {kvs : List (Str × V)} {fs : List (Nat × Ho)} {fp : List Addr}, RepOf K fa F H kvs fs fp → (∀ a ∈ fq, a ∉ fp) → ∃ fr, RepOf K fa F H (putF (nm f) v kvs) (putN fs f x) fr ∧ ∀ a ∈ fr, a ∈ fp ∨ a ∈ fq
  | _, _, _, .nil, _ => ⟨fq ++ [], .cons rfl rv .nil (fun _ _ z => by cases z), fun a m => .inr (by simpa using m)⟩
  | _, _, _, @RepOf.cons _ _ _ _ n k w y vs xs fp fr hn r t d, dis => by
    subst hn
    unfold putF putN
    by_cases h : k = f
    · subst h
      rw [if_pos rfl, if_pos rfl]
      exact ⟨_, .cons rfl rv t fun a m m2 => dis a m (mem_r m2), fun a m => by
        rcases List.mem_append.mp m with z | z
        · exact .inr z
        · exact .inl (mem_r z)⟩
    · rw [if_neg fun z => h (nm_inj hf z), if_neg h]
      obtain ⟨fr2, h1, h2⟩ := RepOf.put hf rv t fun a m m2 => dis a m (mem_r m2)
      refine ⟨_, .cons rfl r h1 fun a m m2 => ?_, fun a m => ?_⟩
      · rcases h2 a m2 with z | z
        · exact d a m z
        · exact dis a z (mem_l m)
      · rcases List.mem_append.mp m with z | z
        · exact .inl (mem_l z)
        · rcases h2 a z with y | y
          · exact .inl (mem_r y)
          · exact .inr y
theorem Rep.obj_of {v : V} {c : Nat} {fs : List (Nat × D)} (r : Rep K fa F v (.obj c fs)) : ∃ a dx kvs, v = .ref a ∧ F a = some (.ins (fa (1000 + c)) dx kvs) ∧ RepF K fa F kvs fs := by
  cases r with
  | obj h r => exact ⟨_, _, _, rfl, h, r⟩
end

section
variable {X : Cx} {fa : Fa} {cf : CF} {pos p : Pos} {a b c e : Expr} {ia ib ic : I} {es : List Expr} {is : Is}
abbrev Fa.C (fa : Fa) (c : Nat) : Addr := fa.f (1000 + c)
/-! ### e.f -/
theorem fld_val {f : Nat} {cs : List Nat} {F H : Hp} {σ : L2.St} {env : Ev} {v : V} {d : DI.D} {Q : VK} (hf : f < nmT.length) (hcs : ∀ c ∈ cs, Cls X.K (fa.C c) ∧ NoAttr X.K (fa.C c) (nm f)) (r : Rep X.K fa F v d) (h : At X.K fa (RRep X.K fa) (okR ((fldOf f cs d).map .val)) F H σ env Q) :
    ∃ a C dx fs w, v = .ref a ∧ H a = some (.ins C dx fs) ∧ Cls X.K C ∧ NoAttr X.K C (nm f) ∧ fs.lookup (nm f) = some w ∧ Q w H := by
  cases hz : fldOf f cs d with
  | none => exact (h.no (by rw [hz]; rfl)).elim
  | some z =>
    cases d with
    | obj c fs =>
      have hz' := hz
      simp only [fldOf] at hz
      split at hz
      · rename_i hc
        obtain ⟨a, dx, kvs, rfl, g1, g2⟩ := Rep.obj_of r
        obtain ⟨w, k1, k2⟩ := g2.get hf hz
        obtain ⟨c1, c2⟩ := hcs c (by simpa using hc)
        exact ⟨a, _, dx, kvs, w, rfl, h.ok.sub.at g1 rfl, c1, c2, k1, h.ret (a := .val z) (by rw [hz']; rfl) (Step.refl h.ok) k2⟩
      · cases hz
    | _ => cases hz
theorem eI_fld {f : Nat} {cs : List Nat} : eI cf (.fld ia f cs) = fun env => bnd (asV (eI cf ia) env) fun d e1 => okR ((fldOf f cs d).map .val) e1 := by
  funext env
  rw [asV_bnd]
  rfl
theorem s_fld {f : Nat} {cs : List Nat} (hf : f < nmT.length) (hcs : ∀ c ∈ cs, Cls X.K (fa.C c) ∧ NoAttr X.K (fa.C c) (nm f)) (ha : PI' X fa cf a ia) (hb : attributeBase a (nm f) X.env (eval a X.env) = eval a X.env) : PI' X fa cf (.Attribute a (nm f) pos) (.fld ia f cs) :=
  pe_weak (pe_fld (pe_asV ha) hb) fun σ H Q ⟨F, env, h⟩ => by
    rw [eI_fld] at h
    exact ⟨F, env, At.bnd (Rl := vRep X.K fa) h fun d e1 F1 H1 v s1 r1 h1 => fld_val hf hcs r1 h1⟩
theorem fld_ho {f : Nat} {cs : List Nat} {F H : Hp} {σ : L2.St} {env : Ev} {i : Nat} {x : Ho} {v : V} {Q : VK} (hf : f < nmT.length) (hcs : ∀ c ∈ cs, Cls X.K (fa.C c) ∧ NoAttr X.K (fa.C c) (nm f)) (hx : held env i = some x) (hv : σ[i]? = some (some v)) (h : At X.K fa (RRep X.K fa) (okR ((fldH f cs x).map .val)) F H σ env Q) :
    ∃ a C dx fs w, v = .ref a ∧ H a = some (.ins C dx fs) ∧ Cls X.K C ∧ NoAttr X.K C (nm f) ∧ fs.lookup (nm f) = some w ∧ Q w H := by
  cases hz : fldH f cs x with
  | none => exact (h.no (by rw [hz]; rfl)).elim
  | some z =>
    obtain ⟨v', fp, g1, g2⟩ := h.ok.own i x hx
    rw [hv] at g1; cases g1
    cases x with
    | ob c fs =>
      have hz' := hz
      simp only [fldH] at hz
      split at hz
      · rename_i hc
        split at hz
        · rename_i d hd
          cases hz
          cases g2 with
          | ob k1 k2 k3 k4 =>
          obtain ⟨w, l1, l2⟩ := k3.get hf hd
          obtain ⟨c1, c2⟩ := hcs c (by simpa using hc)
          exact ⟨_, _, _, _, w, rfl, k1, c1, c2, l1, h.ret (a := .val z) (by rw [hz']; rfl) (Step.refl h.ok) l2⟩
        · cases hz
      · cases hz
    | _ => cases hz
theorem eI_fld1 {i f : Nat} {cs : List Nat} : eI cf (.fld1 i f cs) = fun env => match (env[i]? : Option Sl) with
    | some (.val d) => okR ((fldOf f cs d).map .val) env
    | some (.own h) => okR ((fldH f cs h).map .val) env
    | some (.io h) => okR ((fldH f cs h).map .val) env
    | _ => none := rfl
theorem s_fld1 {i f : Nat} {x : Str} {px : Pos} {cs : List Nat} (hf : f < nmT.length) (hcs : ∀ c ∈ cs, Cls X.K (fa.C c) ∧ NoAttr X.K (fa.C c) (nm f)) (hN : X.N[i]? = some x) (hv : Vis X.env.scope x) (hd : (x == ("__debug__" : Str)) = false) (hcd : (x == ("__classdict__" : Str)) = false) :
    PI' X fa cf (.Attribute (.Name x px) (nm f) pos) (.fld1 i f cs) := pe_weak (pe_fld (pe_var hN hv hd hcd) rfl) fun σ H Q ⟨F, env, h⟩ => by
  rw [eI_fld1] at h
  cases he : env[i]? with
  | none => exact (h.no (by rw [he])).elim
  | some z =>
    cases z with
    | un => exact (h.no (by rw [he])).elim
    | exc _ => exact (h.no (by rw [he])).elim
    | val d =>
      obtain ⟨v, g1, g2⟩ := h.ok.val i d he
      exact ⟨v, g1, fld_val hf hcs g2 (h.cast (m' := okR ((fldOf f cs d).map .val)) (by rw [he]))⟩
    | own x =>
      obtain ⟨v, fp, g1, g2⟩ := h.ok.own i x (held_iff.mpr (.inl he))
      exact ⟨v, g1, fld_ho hf hcs (held_iff.mpr (.inl he)) g1 (h.cast (m' := okR ((fldH f cs x).map .val)) (by rw [he]))⟩
    | io x =>
      obtain ⟨v, fp, g1, g2⟩ := h.ok.own i x (held_iff.mpr (.inr he))
      exact ⟨v, g1, fld_ho hf hcs (held_iff.mpr (.inr he)) g1 (h.cast (m' := okR ((fldH f cs x).map .val)) (by rw [he]))⟩
/-! ### self.f = e -/
theorem Step.putO {K : PySem.W.Frag} {F0 H0 F H : Hp} {σ0 σ : L2.St} {env0 env : Ev} {i c : Nat} {xs ys : List (Nat × Ho)} {p dx : Addr} {vs ws : List (Str × V)} {fp fr tmp : List Addr} (s : Step K fa F0 H0 σ0 env0 F H σ env) (h : held env i = some (.ob c xs)) (hv : σ[i]? = some (some (.ref p))) (hp : H p = some (.ins (fa.C c) dx vs)) (hF : F p = none) (hx : RepOf K fa F H vs xs fp) (np : p ∉ fp)
    (hy : RepOf K fa F H ws ys fr) (t1 : ∀ q ∈ tmp, Own K fa F0 H0 σ0 env0 q ∨ H0 q = none) (t2 : ∀ q ∈ tmp, ¬ Own K fa F H σ env q) (hfr : ∀ q ∈ fr, q ∈ fp ∨ q ∈ tmp) : Step K fa F0 H0 σ0 env0 F (upd H p (.ins (fa.C c) dx ws)) σ (DI.hold env i (.ob c ys)) := by
  have r : RepO K fa F H (.ref p) (.ob c xs) (p :: fp) := .ob hp hF hx np
  have npt : p ∉ tmp := fun m => t2 p m ⟨i, _, _, _, h, hv, r, List.mem_cons_self⟩
  have npr : p ∉ fr := fun m => by
    rcases hfr p m with z | z
    · exact np z
    · exact npt z
  refine Step.holdB (tmp := tmp) (fq := p :: fr) s h hv r (Same.refl F) (s.ok.sub.upd hF) (fun a u e n _ => ?_) (fun a _ h2 _ _ => h2) t1 t2 (.ob upd_same hF (hy.keep (Same.refl _) (fun a m => upd_ne fun z => npr (z ▸ m)) fun a m => (hy.there a m).1) npr) (fun a m => ?_) (tabs_ins s.ok.tabs hp)
  · have : a ≠ p := fun z => by subst z; exact n List.mem_cons_self
    rw [upd_ne this]; exact e
  · rcases List.mem_cons.mp m with rfl | m
    · exact .inl List.mem_cons_self
    · rcases hfr a m with z | z
      · exact .inl (List.mem_cons_of_mem _ z)
      · exact .inr (.inl z)
theorem eS_setf {i f : Nat} {cs : List Nat} : eS cf (.setf i f cs ia) = fun env => bnd (eI cf ia env) fun r e1 => bnd (match (held e1 i).bind obOf with
    | some (c, fs) => if cs.contains c && decide (fs.length < 100) then some (.ok (), hold e1 i (.ob c (putN fs f r.h))) else none
    | none => none) fun _ e2 => some (.ok .nx, e2) := rfl
theorem ob_of {o : Option Ho} {c : Nat} {xs : List (Nat × Ho)} (h : o.bind obOf = some (c, xs)) : o = some (.ob c xs) := by
  cases o with
  | none => cases h
  | some x =>
    cases x with
    | ob c ys => cases h; rfl
    | _ => cases h
theorem b_setf {i f : Nat} {cs : List Nat} {x : Str} {px p2 : Pos} (hf : f < nmT.length) (hcs : ∀ c ∈ cs, Cls X.K (fa.C c) ∧ NoAttr X.K (fa.C c) (nm f)) (hN : X.N[i]? = some x) (hv : Vis X.env.scope x) (hd : (x == ("__debug__" : Str)) = false) (hcd : (x == ("__classdict__" : Str)) = false) (ha : PI' X fa cf a ia) (hs : swapsWith a (some (.Attribute (.Name x px) (nm f) p2)) pos.line X.env = pure false) :
    PS' X fa cf (.Assign [.Attribute (.Name x px) (nm f) p2] a pos) (.setf i f cs ia) := ps_weak (ps_fld (pe_var hN hv hd hcd) ha hs) fun D σ H ⟨F, env, h⟩ => by
  rw [eS_setf] at h
  refine ⟨F, env, AtSB.bnd (Rl := RRep X.K fa) h.b fun r e1 F1 H1 v s1 r1 h1 => ?_⟩
  cases h2' : (held e1 i).bind obOf with
  | none => exact (h1.no (by rw [h2']; rfl)).elim
  | some cx =>
  obtain ⟨c, xs⟩ := cx
  have h2 := ob_of h2'
  cases hc : (cs.contains c && decide (xs.length < 100)) with
  | false => exact (h1.no (by simp only [h2', hc]; rfl)).elim
  | true =>
  have hc' := hc
  rw [Bool.and_eq_true] at hc
  obtain ⟨v1, fp1, k1, k2⟩ := h1.1.ok.own i _ h2
  have k2' := k2
  cases k2 with
  | @ob q dx _ vs _ fq k3 k4 k5 k6 =>
  obtain ⟨ft, rt, t1, t2⟩ := r1.ho
  have dis : ∀ a ∈ ft, a ∉ fq := fun a m2 m => t2 a m2 ⟨i, _, _, _, h2, k1, k2', List.mem_cons_of_mem _ m⟩
  obtain ⟨fr, y1, y2⟩ := k5.put hf rt dis
  obtain ⟨c1, c2⟩ := hcs c (by simpa using hc.1)
  have hlt := of_decide_eq_true hc.2
  refine ⟨.ref q, k1, q, _, dx, vs, rfl, k3, c1, c2, by rw [k5.length]; omega, ?_⟩
  exact h1.fl (fl := .nx) (by simp only [h2', hc']; rfl) (Step.putO (tmp := ft) h1.1 h2 k1 k3 k4 k5 k6 y1 t1 t2 y2)

/-! ### o.m(..) -/
variable {fns : List (Nat × Fn)} {k f : Nat} {args : List Expr}
theorem mth_of {tb : List (Nat × Nat)} {d : DI.D} {f : Nat} (h : mthOf tb d = some f) : ∃ c fs, d = .obj c fs ∧ tb.lookup c = some f := by
  cases d with
  | obj c fs => exact ⟨c, fs, rfl, h⟩
  | _ => cases h
theorem eI_meth {tb : List (Nat × Nat)} : eI cf (.meth ia tb is) = fun env => bnd (asV (eI cf ia) env) fun d e1 => match mthOf tb d with
    | some f => bnd (eIs cf is e1) fun ds e2 => rsC (cf f none (d :: ds)) e2
    | none => none := by
  funext env
  rw [asV_bnd]
  rfl
theorem s_meth {m : Str} {tb : List (Nat × Nat)} {apos : Pos} {pl : Sem Bool} (G : FnG X.prog X.w X.K X.mg X.base fa fa.tb fns k) (tk : Takes X fa.W) (hg : X.A.guards = some []) (hr : Room (4 * k) X.A) (hm : notNm m = true) (htb : ∀ c f, tb.lookup c = some f → Cls X.K (fa.C c) ∧ Meth X.K (fa.C c) m (fa.f f))
    (ha : PI' X fa (callF fns k) a ia) (h : PArgs X args pos (tVs X.K fa (eIs (callF fns k) is)))
    (ht : eval (.Call (.Attribute a m apos) args [] pos) X.env = (do
      let ov ← eval a X.env
      standAt apos.atName
      let (f, first) ← holding [ov] (getMethod ov m pl)
      callWith pos f first (backTo pos (starEach args X.env)) (backToKw pos (keywordEach [] X.env)))) :
    PI' X fa (callF fns k) (.Call (.Attribute a m apos) args [] pos) (.meth ia tb is) := by
  refine ⟨fun pins s σ H Q I ⟨F, env, q⟩ => ?_⟩
  rw [eI_meth] at q
  refine PySem.W.methodCall_KW (pl := pl) (thn ((pe_asV ha).run pins s σ H (fun x H1 => ∃ a dx kvs c f, x = V.ref a ∧ H1 a = some (.ins (fa.C c) dx kvs) ∧ tb.lookup c = some f ∧ kvs.lookup m = none ∧ tVs X.K fa (eIs (callF fns k) is) σ H1 fun vs H2 => spC X.K fa fa.tb fns k f (x :: vs) H2 Q (WE fa.W σ)) I
    ⟨F, env, At.bnd (Rl := vRep X.K fa) q fun d e1 F1 H1 v s1 r1 h1 => ?_⟩) fun u s1 ⟨x, H1, I1, rx, a, dx, kvs, c, f, ex, ea, hc, l, q⟩ => ?_) ht
  · cases hd : mthOf tb d with
    | none => exact (h1.no (by rw [hd])).elim
    | some f =>
      obtain ⟨c, fs, rfl, hc⟩ := mth_of hd
      obtain ⟨a, dx, kvs, rfl, g1, g2⟩ := Rep.obj_of r1
      refine ⟨a, dx, kvs, c, f, rfl, h1.ok.sub.at g1 rfl, hc, g2.no hm, F1, e1, At.bnd (Rl := lRep X.K fa) (h1.cast (m' := fun e1 => bnd (eIs (callF fns k) is e1) fun ds e2 => rsC (callF fns k f none (.obj c fs :: ds)) e2) (by rw [hd])) fun ds e2 F2 H2 vs s2 r2 h2 => call_at (.cons (Rep.mono s2.sub r1) r2) h2⟩
  · subst ex
    obtain rfl : u = Value.ref a := rx
    obtain ⟨c1, c2⟩ := htb c f hc
    refine getmeth_ok I1 ea c1 c2 l ?_
    refine h pins s1 σ H1 _ c2.kp I1 q fun us s2 vs H2 I2 r qq => ?_
    exact run_G (us := .ref a :: us) (vs := .ref a :: vs) G tk hg hr I2 (.cons rfl r) qq
/-! ### o.p, a property -/
theorem eI_prop {tb : List (Nat × Nat)} : eI cf (.prop ia tb) = fun env => bnd (asV (eI cf ia) env) fun d e1 => match mthOf tb d with
    | some f => match cf f none [d] with
      | some (.ok z, _) => some (.ok z, e1)
      | _ => none
    | none => none := by
  funext env
  rw [asV_bnd]
  rfl
theorem in1_guards {A : Around} (h : A.guards = some []) : A.in1.guards = some [] := h
theorem s_prop {m : Str} {tb : List (Nat × Nat)} (G : FnG X.prog X.w X.K X.mg X.base fa fa.tb fns k) (hg : X.A.guards = some []) (hr : Room (4 * k + 1) X.A) (htb : ∀ c f, tb.lookup c = some f → Cls X.K (fa.C c) ∧ ∃ p, PropOf X.K (fa.C c) m p (fa.f f))
    (ha : PI' X fa (callF fns k) a ia) (hab : attributeBase a m X.env (eval a X.env) = eval a X.env) : PI' X fa (callF fns k) (.Attribute a m pos) (.prop ia tb) := by
  refine ⟨fun pins s σ H Q I ⟨F, env, q⟩ => ?_⟩
  rw [eI_prop] at q
  refine attr_of hab (thn ((pe_asV ha).run pins s σ H (fun x H1 => ∃ a dx kvs c f, x = V.ref a ∧ H1 a = some (.ins (fa.C c) dx kvs) ∧ tb.lookup c = some f ∧ (fns.lookup f).isSome = true ∧ spC X.K fa fa.tb fns k f [x] H1 Q (fun _ _ _ => False)) I ⟨F, env, At.bnd (Rl := vRep X.K fa) q fun d e1 F1 H1 v s1 r1 h1 => ?_⟩) fun u s1 ⟨x, H1, I1, rx, a, dx, kvs, c, f, ex, ea, hc, hf, q⟩ => ?_)
  · cases hd : mthOf tb d with
    | none => exact (h1.no (by rw [hd])).elim
    | some f =>
      obtain ⟨c, fs, rfl, hc⟩ := mth_of hd
      obtain ⟨a, dx, kvs, rfl, g1, g2⟩ := Rep.obj_of r1
      cases hcf : callF fns k f none [.obj c fs] with
      | none => exact (h1.no (by simp only [hd, hcf])).elim
      | some z =>
      obtain ⟨o, out⟩ := z
      cases o with
      | error x => exact (h1.no (by simp only [hd, hcf])).elim
      | ok z =>
      refine ⟨a, dx, kvs, c, f, rfl, h1.ok.sub.at g1 rfl, hc, callF_has hcf, F1, none, _, [], _, _, .no (.cons r1 .nil), ⟨h1.ok.sub, h1.ok.tabs⟩, hcf, fun F' H' fp' cs v cr => ?_⟩
      exact h1.ret (a := z) (by simp only [hd, hcf]) (cst_step h1.ok cs) (cres_r h1.ok cs cr)
  · subst ex
    obtain rfl : u = Value.ref a := rx
    obtain ⟨c1, p, hp⟩ := htb c f hc
    obtain ⟨mA, O, _, _, _, _⟩ := ins_get I1.hok ea
    obtain ⟨od, J, _⟩ := O.look
    obtain ⟨rest, hrec⟩ := hp.rec_
    have I2 := I1.tok (s1.toks + 1)
    have hcc : (PySem.W.clsIn X.K (fa.C c)).isSome = true := by
      obtain ⟨cd, hc, _⟩ := PySem.W.any_some c1.hd
      rw [hc]
      rfl
    refine PySem.W.get_bind I1.kIn J (PySem.W.plainGet_of (c1.get m)).1 (PySem.W.findObj_data hcc hp.at_ hp.get hp.tak) (PySem.W.plainGet_of (c1.get m)).2 (wpAny_call (PySem.W.prop_get (s := { s1 with toks := s1.toks + 1 }) I1.kIn hrec ?_))
    refine codeAny_mono (G f hf X.A.in1 X.stack { s1 with toks := s1.toks + 1 } H1 [.ref a] [.ref a] Q _ (in1_guards hg) hr.in1 I2.env0.in1 (.cons rfl .nil) q) fun r s' hq => ?_
    cases r with
    | error er =>
      obtain ⟨_, _, _, _, _, _, _, _, _, _, _, _, z⟩ := hq
      exact z.elim
    | ok fl =>
      cases fl with
      | ret u =>
        obtain ⟨v, H', I3, rv, q3⟩ := I2.after hq
        show wpAny _ _ (handedOut u) _ _ _
        rw [PySem.W.handedOut_of (handed_of rv)]
        exact wpAny_pure ⟨v, H', I3, rv, q3⟩
      | next => exact False.elim hq
      | brk => exact False.elim hq
      | cont => exact False.elim hq
end
end DI

namespace DI
open PySem L2

section
variable {X : Cx} {fa : Fa} {cf : CF} {pos p : Pos} {a b e : Expr} {ia ib ic : I} {es : List Expr} {is : Is} {fns : List (Nat × Fn)} {k f c : Nat} {args : List Expr} {pins : List (Addr × Obj)} {σ : L2.St} {H : Hp} {s : Shared}
/-! ### C(..) -/
theorem make_guards {A : Around} {C : Addr} {us : List Value} (h : A.guards = some []) : (A.under (.builtin "type.__call__" ⟨.ref C :: us, []⟩)).guards = some [] := by
  simp [Around.under, Code.guards, Code.isGuard, guardIds, pushGuards, h]
theorem run_mk {Q : VK} {us : List Value} {vs : List V} (M : Mk X.K (fa.C c) (fa.f f)) (G : FnG X.prog X.w X.K X.mg X.base fa fa.tb fns k) (tk : Takes X fa.W) (hg : X.A.guards = some []) (hr : Room (4 * k + 1) X.A) (I : Inv X pins σ H s) (r : Vals vs us) (hf : (fns.lookup f).isSome = true)
    (h : ∀ x dx, H x = none → H dx = none → dx ≠ x → spC X.K fa fa.tb fns k f (V.ref x :: vs) (upd (upd H dx (.own x)) x (.ins (fa.C c) dx [])) (fun v H2 => v = .non ∧ Q (.ref x) H2) (WE fa.W σ)) :
    wpAny (model X.prog X.w) X.A (call (.ref (fa.C c)) us) (EP X pins σ Q) X.xe s := by
  have hq := h (s.heap.objs.size + 1) s.heap.objs.size (I.hok.fresh (Nat.le_succ _)) (I.hok.fresh (Nat.le_refl _)) (Nat.ne_of_lt (Nat.lt_succ_self _))
  have I2 := Inv.made (C := fa.C c) I
  have r2 : Vals (V.ref (s.heap.objs.size + 1) :: vs) (Value.ref (s.heap.objs.size + 1) :: us) := .cons rfl r
  refine wpAny_call (make_map (f := fa.f f) I.kIn M.makes M.init (beq_iff_eq.mp M.fn) (codeAny_mono (G f hf _ X.stack _ _ (Value.ref (s.heap.objs.size + 1) :: us) _ _ _ (make_guards hg) (hr.make (fa.C c) us []) (I2.env0.make (fa.C c) us []) r2 hq) fun r s' hq' => ?_))
  cases r with
  | error e => exact passAt tk σ pins _ _ e s' I2 hq'
  | ok fl =>
    cases fl with
    | ret u =>
      obtain ⟨v, H', I3, rv, ev, q3⟩ := I2.after hq'
      subst ev
      exact ⟨rv, ⟨V.ref (s.heap.objs.size + 1), H', I3, rfl, q3⟩⟩
    | next => exact False.elim hq'
    | brk => exact False.elim hq'
    | cont => exact False.elim hq'
/-- a new object, behind its __init__, from the arguments -/
theorem mk_at {K : PySem.W.Frag} {F H : Hp} {σ : L2.St} {env : Ev} {vs : List V} {ds : List DI.D} {Q : VK} (rl : RepL K fa F vs ds) (h : At K fa (RRep K fa) (mkC (callF fns k f (some (.ob c [])) ds)) F H σ env Q) :
    (fns.lookup f).isSome = true ∧ ∀ x dx, H x = none → H dx = none → dx ≠ x → spC K fa fa.tb fns k f (V.ref x :: vs) (upd (upd H dx (.own x)) x (.ins (fa.C c) dx [])) (fun v H2 => v = .non ∧ Q (.ref x) H2) (WE fa.W σ) := by
  cases hc : callF fns k f (some (.ob c [])) ds with
  | none => exact (h.no (by rw [hc]; rfl)).elim
  | some z =>
  refine ⟨callF_has hc, fun x dx hx hdx ne => ?_⟩
  obtain ⟨o, out⟩ := z
  have hFx : F x = none := sub_none h.ok.sub hx
  have hFd : F dx = none := sub_none h.ok.sub hdx
  have old : ∀ a u, H a = some u → (upd (upd H dx (.own x)) x (.ins (fa.C c) dx [])) a = some u := fun a u e => by
    rw [upd_ne (ne_of_none e hx), upd_ne (ne_of_none e hdx)]; exact e
  have sub' : SL F (upd (upd H dx (.own x)) x (.ins (fa.C c) dx [])) := (h.ok.sub.upd hFd).upd hFx
  have ro : RepO K fa F (upd (upd H dx (.own x)) x (.ins (fa.C c) dx [])) (.ref x) (.ob c []) [x] := .ob upd_same hFx .nil List.not_mem_nil
  refine ⟨F, some (.ob c []), ds, [x], o, out, .io ro rl, ⟨sub', tabs_new (tabs_new h.ok.tabs hdx) (by rw [upd_ne ne.symm]; exact hx)⟩, hc, fun F' H' fp' cs => ?_⟩
  have st : Step K fa F H σ env F' H' σ env := by
    have nx : ∀ a u, H a = some u → a ∉ [x] := fun a u e m => by
      rw [List.mem_singleton.mp m, hx] at e; cases e
    have cm : Calm K fa F H F' H' σ env := fun q hq => by
      obtain ⟨u, e, nt⟩ := own_nt hq
      exact ⟨by rw [e]; exact (cs.keep q u (old q u e) (nx q u e)).n nt fun z => z (h.ok.own_at hq).1, cs.stay q (by rw [old q u e]; simp) (h.ok.own_at hq).1 (nx q u e)⟩
    refine ⟨cs.sub, fun a u e _ => cs.keep a u (old a u e) (nx a u e), fun a h1 h2 _ => ?_, h.ok.more cs.sub cs.sub' cm (cs.tabs (tabs_new (tabs_new h.ok.tabs hdx) (by rw [upd_ne ne.symm]; exact hx))), fun _ q => .inl (h.ok.ownsame cs.sub cm q), fun _ xs q => ⟨rfl, xs, q⟩⟩
    cases e : H a with
    | none => exact absurd e h1
    | some u => exact cs.stay a (by rw [old a u e]; simp) h2 (nx a u e)
  cases o with
  | error xx =>
    intro cls d xr
    cases out with
    | none =>
      have := cs.out
      exact (h.no (by rw [hc]; rfl)).elim
    | some y => exact h.err (by rw [hc]; rfl) st xr
  | ok z =>
    intro v cr
    cases z with
    | new _ => exact (h.no (by rw [hc]; rfl)).elim
    | val d =>
    cases d with
    | non =>
      cases out with
      | none => exact (h.no (by rw [hc]; rfl)).elim
      | some y =>
      refine ⟨Rep.non_of cr, ?_⟩
      obtain ⟨u, ws, eu, ry⟩ := cs.out
      cases eu
      have hn : ∀ q ∈ fp', H q = none := fun q m => by
        rcases cs.new q m with z | z
        · rw [List.mem_singleton.mp z]; exact hx
        · have n1 : q ≠ x := fun e => by rw [e, upd_same] at z; cases z
          rw [upd_ne n1] at z
          have n2 : q ≠ dx := fun e => by rw [e, upd_same] at z; cases z
          rwa [upd_ne n2] at z
      exact h.ret (a := .new y) (by rw [hc]; rfl) st ⟨fp', ry, fun q m => .inr (hn q m), fun q m z => by
        have nx : ∀ a u, H a = some u → a ∉ [x] := fun a u e m => by
          rw [List.mem_singleton.mp m, hx] at e; cases e
        have cm : Calm K fa F H F' H' σ env := fun q hq => by
          obtain ⟨u, e, nt⟩ := own_nt hq
          exact ⟨by rw [e]; exact (cs.keep q u (old q u e) (nx q u e)).n nt fun z => z (h.ok.own_at hq).1, cs.stay q (by rw [old q u e]; simp) (h.ok.own_at hq).1 (nx q u e)⟩
        obtain ⟨_, u, e⟩ := h.ok.own_at (h.ok.ownsame cs.sub cm z)
        rw [hn q m] at e; cases e⟩
    | _ => exact (h.no (by rw [hc]; rfl)).elim
theorem eI_mk : eI cf (.mk c f is) = fun env => bnd (eIs cf is env) fun ds e1 => mkC (cf f (some (.ob c [])) ds) e1 := rfl
theorem s_mk {x : Str} (M : Mk X.K (fa.C c) (fa.f f)) (G : FnG X.prog X.w X.K X.mg X.base fa fa.tb fns k) (tk : Takes X fa.W) (hg : X.A.guards = some []) (hr : Room (4 * k + 1) X.A) (hgl : Gl X x) (hm : X.mg x = some (.ref (fa.C c))) (h : PArgs X args pos (tVs X.K fa (eIs (callF fns k) is)))
    (hdb : (x == ("__debug__" : Str)) = false) : PI' X fa (callF fns k) (.Call (.Name x p) args [] pos) (.mk c f is) := by
  refine ⟨fun pins s σ H Q I ⟨F, env, q⟩ => ?_⟩
  rw [eI_mk] at q
  refine wpAny_Call_Name_kw (ld_glob I hgl hm ?_ hdb)
  refine h pins s σ H (fun vs H1 => (fns.lookup f).isSome = true ∧ ∀ x dx, H1 x = none → H1 dx = none → dx ≠ x → spC X.K fa fa.tb fns k f (V.ref x :: vs) (upd (upd H1 dx (.own x)) x (.ins (fa.C c) dx [])) (fun v H2 => v = .non ∧ Q (.ref x) H2) (WE fa.W σ)) M.kp I ⟨F, env, At.bnd (Rl := lRep X.K fa) q fun ds e1 F1 H1 vs s1 r1 h1 => mk_at r1 h1⟩ fun us s1 vs H1 I1 r qq => ?_
  exact run_mk M G tk hg hr I1 r qq.1 qq.2
theorem eI_mkv {i : Nat} {tb : List (Nat × Nat)} : eI cf (.mkv i tb is) = fun env => match (env[i]? : Option Sl) with
    | some (.val (.cls c)) => match tb.lookup c with
      | some f => bnd (eIs cf is env) fun ds e1 => mkC (cf f (some (.ob c [])) ds) e1
      | none => none
    | _ => none := rfl
/-- cls(..), a name that holds a class -/
theorem s_mkv {i : Nat} {x : Str} {tb : List (Nat × Nat)} (htb : ∀ c f, tb.lookup c = some f → Mk X.K (fa.C c) (fa.f f)) (G : FnG X.prog X.w X.K X.mg X.base fa fa.tb fns k) (tk : Takes X fa.W) (hg : X.A.guards = some []) (hr : Room (4 * k + 1) X.A) (hN : X.N[i]? = some x) (hv : Vis X.env.scope x) (hd : (x == ("__debug__" : Str)) = false) (hcd : (x == ("__classdict__" : Str)) = false)
    (h : PArgs X args pos (tVs X.K fa (eIs (callF fns k) is))) : PI' X fa (callF fns k) (.Call (.Name x p) args [] pos) (.mkv i tb is) := by
  refine ⟨fun pins s σ H Q I ⟨F, env, q⟩ => ?_⟩
  rw [eI_mkv] at q
  cases he : env[i]? with
  | none => exact (q.no (by rw [he])).elim
  | some z =>
  cases z with
  | val d =>
    cases d with
    | cls c =>
      cases hc : tb.lookup c with
      | none => exact (q.no (by simp only [he, hc])).elim
      | some f =>
      obtain ⟨v, hv1, hv2⟩ := q.ok.val i _ he
      cases hv2
      have M := htb c f hc
      refine wpAny_Call_Name_kw (thn ((pe_var (pos := p) hN hv hd hcd).run pins s σ H (fun v H1 => v = .ref (fa.C c) ∧ H1 = H) I ⟨_, hv1, rfl, rfl⟩) fun u s1 ⟨v, H1, I1, r1, q1⟩ => ?_)
      obtain ⟨rfl, rfl⟩ := q1
      cases r1
      refine h pins s1 σ _ (fun vs H1 => (fns.lookup f).isSome = true ∧ ∀ x dx, H1 x = none → H1 dx = none → dx ≠ x → spC X.K fa fa.tb fns k f (V.ref x :: vs) (upd (upd H1 dx (.own x)) x (.ins (fa.C c) dx [])) (fun v H2 => v = .non ∧ Q (.ref x) H2) (WE fa.W σ)) M.kp I1
        ⟨F, env, At.bnd (Rl := lRep X.K fa) (q.cast (m' := fun env => bnd (eIs (callF fns k) is env) fun ds e1 => mkC (callF fns k f (some (.ob c [])) ds) e1) (by simp only [he, hc])) fun ds e1 F1 H1 vs s1 r1 h1 => mk_at r1 h1⟩ fun us s1 vs H1 I1 r qq => ?_
      exact run_mk M G tk hg hr I1 r qq.1 qq.2
    | _ => exact (q.no (by rw [he])).elim
  | _ => exact (q.no (by rw [he])).elim

/-! ### C.m(..), m a classmethod -/
def PArgsM (X : Cx) (args : List Expr) (pos : Pos) (t : TA) : Prop := ∀ {q g C : Addr} (pins : List (Addr × Obj)) (s : Shared) (σ : L2.St) (H : Hp) (Q' : List V → Hp → Prop) {Q : Value → Shared → Prop}, Inv X ((q, PySem.W.methodObj (.ref g) (.ref C)) :: pins) σ H s → X.base.get? q = none → PySem.W.fnIn X.K g = true → t σ H Q' →
  (∀ us s1 vs H1, Inv X ((q, PySem.W.methodObj (.ref g) (.ref C)) :: pins) σ H1 s1 → Vals vs us → Q' vs H1 → wpAny (model X.prog X.w) X.A (call (.ref q) us) Q X.xe s1) → wpAny (model X.prog X.w) X.A (callWith pos (.ref q) [] (backTo pos (starEach args X.env)) []) Q X.xe s
theorem pargsM_K {t : TA} (h : PA X (e :: es) t) (he : starEach (e :: es) X.env = (false, eval e X.env) :: starEach es X.env) (hpl : (backTo pos (starEach es X.env)).any (·.1) = false) : PArgsM X (e :: es) pos t := fun pins s σ H Q' Q I hb hf q z =>
  ClX.callwith_cm I hb hf (thn (h.run pos _ s σ H Q' I q) fun us s1 ⟨vs, H1, I1, r, qq⟩ => ⟨⟨ClX.pin_at I1, I1.kIn⟩, z us s1 vs H1 I1 r qq⟩) he hpl
theorem eI_cmeth : eI cf (.cmeth c f is) = fun env => bnd (eIs cf is env) fun ds e1 => rsC (cf f none (.cls c :: ds)) e1 := rfl
theorem s_cmeth {x m : Str} {apos : Pos} {pl : Sem Bool} {mc : Value} {pp : Addr} (hR : ClX.CRead X.K (fa.C c) mc) (hM : ClX.CMet X.K (fa.C c) mc m pp (fa.f f)) (G : FnG X.prog X.w X.K X.mg X.base fa fa.tb fns k) (tk : Takes X fa.W) (hg : X.A.guards = some []) (hr : Room (4 * k) X.A) (hgl : Gl X x) (hm : X.mg x = some (.ref (fa.C c))) (h : PArgsM X args pos (tVs X.K fa (eIs (callF fns k) is)))
    (hdb : (x == ("__debug__" : Str)) = false)
    (ht : eval (.Call (.Attribute (.Name x p) m apos) args [] pos) X.env = (do
      let ov ← eval (.Name x p) X.env
      standAt apos.atName
      let (f, first) ← holding [ov] (getMethod ov m pl)
      callWith pos f first (backTo pos (starEach args X.env)) (backToKw pos (keywordEach [] X.env)))) :
    PI' X fa (callF fns k) (.Call (.Attribute (.Name x p) m apos) args [] pos) (.cmeth c f is) := by
  refine ⟨fun pins s σ H Q I ⟨F, env, q⟩ => ?_⟩
  rw [eI_cmeth] at q
  refine PySem.W.methodCall_KW (pl := pl) (thn ((pe_glob (pos := p) hgl hm (show RelV (.ref (fa.C c)) (.ref (fa.C c)) from rfl) hdb).run pins s σ H (fun v H1 => v = .ref (fa.C c) ∧ H1 = H) I ⟨rfl, rfl⟩) fun u s1 ⟨v, H1, I1, r1, q1⟩ => ?_) ht
  obtain ⟨rfl, rfl⟩ := q1
  cases r1
  refine ClX.getmethcm_ok I1 hR hM fun s2 I2 => ?_
  refine h pins s2 σ _ (fun vs H1 => spC X.K fa fa.tb fns k f (V.ref (fa.C c) :: vs) H1 Q (WE fa.W σ)) I2 (ClX.base_none I1 (Nat.le_refl _)) hM.fi ⟨F, env, At.bnd (Rl := lRep X.K fa) q fun ds e1 F1 H1 vs s1 r1 h1 => call_at (.cons (.cls c) r1) h1⟩ fun us s3 vs H2 I3 rv q2 => ?_
  have z : wpAny (model X.prog X.w) X.A (call (.ref s1.heap.objs.size) us) (EP X ((s1.heap.objs.size, PySem.W.methodObj (.ref (fa.f f)) (.ref (fa.C c))) :: pins) σ Q) X.xe s3 := by
    refine wpAny_call (PySem.W.method_call (ClX.pin_at I3) ?_)
    have hf : (fns.lookup f).isSome = true := by
      obtain ⟨F, io, ds, fp, o, out, _, _, h1, _⟩ := q2
      exact callF_has h1
    refine codeAny_mono (G f hf X.A X.stack s3 H2 (.ref (fa.C c) :: us) (.ref (fa.C c) :: vs) Q _ hg hr I3.env0 (.cons rfl rv) q2) fun r s' hq => ?_
    cases r with
    | error e => exact passAt tk σ _ H2 s3 e s' I3 hq
    | ok fl => cases fl <;> first | exact I3.after hq | exact False.elim hq
  exact thn z fun _ _ y => ClX.unpinE y
end
end DI

namespace DI
open PySem L2 PySem.Spec PyProof.Rows

/-! ### try, its clauses with names or without -/
abbrev HR := Addr → Value → Option Addr → Ends → L2.St → Hp → Prop
/-- what the clauses wish of an error of the body -/
def wCl (K : PySem.W.Frag) (Wo : WX) (D : Ends) : List (Value × HR) → WX
  | [] => Wo
  | (c, r) :: l => fun cls d σ H => ∃ b, PySem.W.exmOne K cls c = some b ∧ (b = true → ∀ a, H a = none → r a cls d D σ H) ∧ (b = false → wCl K Wo D l cls d σ H)
/-- the ends of a suite whose name goes -/
def endGo (i : Nat) (D : Ends) : Ends := ⟨fun σ H => D.nx (σ.set i none) H, D.rt, fun σ H => D.bk (σ.set i none) H, fun σ H => D.ct (σ.set i none) H⟩
inductive Cls' (X : Cx) : List ExceptHandler → List (Value × HR) → Prop
  | nil : Cls' X [] []
  | bare {x : Str} {c : Value} {ts : Addr → Value → Option Addr → TS} {st : Stmt} {sts : List Stmt} {p1 p2 : Pos} {hds : List ExceptHandler} {l : List (Value × HR)} (hc : Names X x c)
      (hsu : ∀ (a : Addr) (oe : Obj) (cls : Value) (d : Option Addr) (pn : List (Addr × Obj)), Zc cls d oe → (∃ vs, oe.data = .fields vs) → PSs (X.suite a ((a, oe) :: pn)) (st :: sts) (ts a cls d)) (r : Cls' X hds l) :
      Cls' X (.ExceptHandler (some (.Name x p1)) none (st :: sts) p2 :: hds) ((c, fun a cls d D σ H => ts a cls d D σ H) :: l)
  | named {x n : Str} {i : Nat} {c : Value} {ts : Addr → Value → Option Addr → TS} {st : Stmt} {sts : List Stmt} {p1 p2 : Pos} {hds : List ExceptHandler} {l : List (Value × HR)} (hc : Names X x c) (hN : X.N.Nodup) (hi : X.N[i]? = some n) (hl : X.env.kindOf n = some .local)
      (hsu : ∀ (a : Addr) (oe : Obj) (cls : Value) (d : Option Addr) (pn : List (Addr × Obj)), Zc cls d oe → (∃ vs, oe.data = .fields vs) → PSs (X.suite a ((a, oe) :: pn)) (st :: sts) (ts a cls d)) (r : Cls' X hds l) :
      Cls' X (.ExceptHandler (some (.Name x p1)) (some n) (st :: sts) p2 :: hds) ((c, fun a cls d D σ H => ts a cls d (endGo i D) (σ.set i (some (.ref a))) H) :: l)
section
variable {X : Cx} {body : List Stmt} {h0 : ExceptHandler} {hds : List ExceptHandler} {l : List (Value × HR)} {pos : Pos} {tb : WX → TS} {Wo : WX}
theorem ps_tryC (hs : X.stack = X.env :: X.outer) (hf : X.env.frame = some X.env.locals) (tk : Takes X Wo)
    (hb : ∀ (W : WX) (pn : List (Addr × Obj)) (xe : Value → Shared → Prop), Takes (X.tr pn xe) W → PassesOwn (model X.prog X.w) X.A X.env xe → PSs (X.tr pn xe) body (tb W)) (hh : Cls' X (h0 :: hds) l) :
    PS X (.Try body (h0 :: hds) [] [] pos) (fun D σ H => tb (wCl X.K Wo D l) D σ H) := by
  refine ⟨fun pins s σ H D I h => ?_⟩
  have ok := I.ok
  have hfr : X.A.frames = some (X.env :: X.outer) := by rw [ok.frames, hs]
  refine wpAny_Try_except ?_
  have back : ∀ (f : Flow) (s1 : Shared) (pn' : List (Addr × Obj)) (xe : Value → Shared → Prop), SP (X.tr (X.pn ++ pins) xe) pn' D f s1 → SP X pins D f s1 := fun f s1 pn' xe hsp => by
    cases f with
    | ret u => exact let ⟨v, σ', H', J, r, q⟩ := hsp; ⟨v, σ', H', J.ofTry ok, r, q⟩
    | next => exact let ⟨σ', H', J, q⟩ := hsp; ⟨σ', H', J.ofTry ok, q⟩
    | brk => exact let ⟨σ', H', J, q⟩ := hsp; ⟨σ', H', J.ofTry ok, q⟩
    | cont => exact let ⟨σ', H', J, q⟩ := hsp; ⟨σ', H', J.ofTry ok, q⟩
  refine wpAny_mono ((hb (wCl X.K Wo D l) (X.pn ++ pins) (fun e s1 => wpAny (model X.prog X.w) X.A (noteFrame e X.env) (fun _ s2 => wpAny (model X.prog X.w) X.A (setFlight e none) (fun _ s3 =>
    wpAny (model X.prog X.w) X.A (handleBy e X.env (h0 :: hds)) (SP X pins D) X.xe s3) X.xe s2) X.xe s1) (fun u s' xx => ?_) PassesOwn.looking).run [] s σ H D (I.toTry _) h) (fun f s1 hsp => ?_) (fun e s1 he => he)
  · obtain ⟨a, B, sI, pins', σ', H', cls, d, rfl, J', nb, up, sky, na, os, ag, w⟩ := xx
    have J : Inv X pins σ' H' sI := J'.ofTry ok
    refine Sky.land Zc.steady hfr hf (by rw [← hs]; exact sky) fun h3 fl3 up3 => ?_
    have J3 : Inv X pins σ' H' { s' with heap := h3 } := J.landed nb fl3.1 (up.trans up3) os ag
    obtain ⟨oe3, vs3, he3, hz3, hd3⟩ := fl3.there
    have nfr : a ∉ frs (X.env :: X.outer) := fun hm => by
      obtain ⟨_, o', e', hnf⟩ := fl3.2.2.1.mem hm
      rw [he3] at e'
      exact hnf _ (Option.some.inj e' ▸ hd3)
    have nL : a ≠ X.env.locals := fun z => nfr (List.mem_filterMap.mpr ⟨X.env, List.mem_cons_self, by rw [hf, z]⟩)
    have nF : a ∉ X.fs := fun hm => by
      obtain ⟨e, he, q⟩ := List.mem_filterMap.mp hm
      exact nfr (List.mem_filterMap.mpr ⟨e, List.mem_cons_of_mem _ he, q⟩)
    have S3 := J3.suite he3 hd3 na nL nF
    -- a clause's class is looked at
    have test : ∀ {x : Str} {np : Pos} {c : Value}, Names X x c → ∀ {Q : Value → Shared → Prop} {E : Value → Shared → Prop}, Q c { s' with heap := h3 } → wpAny (model X.prog X.w) (X.A.mark (some (.ref a))) (eval (.Name x np) X.env) Q E { s' with heap := h3 } := fun {x np c} hc {Q E} q => by
      obtain ⟨hg, hdbg, hm | ⟨hm, hv, hnn⟩⟩ := hc
      · exact ld_glob (X := X.suite a ((a, oe3) :: (X.pn ++ pins))) S3 hg hm q hdbg
      · exact ld_blt (X := X.suite a ((a, oe3) :: (X.pn ++ pins))) S3 hg hm hv q hnn hdbg
    have LT : PySem.W.Looks (model X.prog X.w) h3 (typeOf (.ref a)) cls := fun A Q E s k q => wpAny_typeOf_ref (k _ _ he3) (by rw [hz3.1]; exact q)
    have go : ∀ {hds' : List ExceptHandler} {l' : List (Value × HR)}, Cls' X hds' l' → wCl X.K Wo D l' cls d σ' H' → wpAny (model X.prog X.w) X.A (handleBy (.ref a) X.env hds') (SP X pins D) X.xe { s' with heap := h3 } := by
      intro hds' l' hk
      induction hk with
      | nil =>
        intro w
        refine wpAny_handleBy_nil ?_
        obtain ⟨k1, k2, k3, oe, vs, T, oT, ts', he, hz, hd, h1, hr⟩ := id fl3
        unfold PySem.passOn
        refine wpAny_bind (wpAny_field he hd h1 ?_)
        rw [if_neg (show ¬ ((Value.ref T == Value.none) = true) from by simp)]
        have fin : wpAny (model X.prog X.w) X.A (setFlight (.ref a) X.env.frame) (fun _ s4 => wpAny (model X.prog X.w) X.A (throw (.ref a) : Sem Flow) (SP X pins D) X.xe s4) X.xe { s' with heap := h3 } := by
          rw [hf]
          exact HandSPX.setFlight_upZ fl3 fun h4 hh4 up4 => wpAny_throw (tk _ _ ⟨a, B, sI, pins, σ', H', cls, d, rfl, J, nb, (up.trans up3).trans up4, .inr (.inr (by rw [hs]; exact hh4)), na, os, ag, w⟩)
        first
          | exact wpAny_bind (wpAny_pure (wpAny_bind fin))
          | exact wpAny_bind fin
      | bare hc hsu r ih =>
        intro w
        obtain ⟨b, hb1, hyes, hno⟩ := w
        refine wpAny_handleBy_cons (codeAny_handlers_test ?_) (by intro q; cases q)
        refine test hc ((PySem.W.exm_one (M := model X.prog X.w) (J3.kIn) LT hb1).here ?_)
        cases b with
        | false => exact ih (hno rfl)
        | true =>
          refine codeAny_handlers_suite (HandSPX.lands_againZ fl3 fun h4 fl4 up4 => ?_)
          have J4 : Inv X pins σ' H' { s' with heap := h4 } := J.landed nb fl4.1 ((up.trans up3).trans up4) os ag
          obtain ⟨oe4, vs4, he4, hz4, hd4⟩ := fl4.there
          refine wpAny_mono ((hsu a oe4 cls d (X.pn ++ pins) hz4 ⟨_, hd4⟩).run [] _ _ H' _ (J4.suite he4 hd4 na nL nF) (hyes rfl a na)) (fun f s6 hsp => ?_) (fun _ _ z => False.elim z)
          cases f with
          | ret u => exact let ⟨v, σ6, H6, S6, r6, q6⟩ := hsp; ⟨v, σ6, H6, S6.unsuite ok, r6, q6⟩
          | next => exact let ⟨σ6, H6, S6, q6⟩ := hsp; ⟨σ6, H6, S6.unsuite ok, q6⟩
          | brk => exact let ⟨σ6, H6, S6, q6⟩ := hsp; ⟨σ6, H6, S6.unsuite ok, q6⟩
          | cont => exact let ⟨σ6, H6, S6, q6⟩ := hsp; ⟨σ6, H6, S6.unsuite ok, q6⟩
      | @named x n i c ts st sts p1 p2 hds2 l2 hc hN hi hl hsu r ih =>
        intro w
        obtain ⟨b, hb1, hyes, hno⟩ := w
        refine wpAny_handleBy_cons (codeAny_handlers_test ?_) (by intro q; cases q)
        refine test hc ((PySem.W.exm_one (M := model X.prog X.w) (J3.kIn) LT hb1).here ?_)
        cases b with
        | false => exact ih (hno rfl)
        | true =>
          refine codeAny_handlers_suite_as (HandSPX.lands_againZ fl3 fun h4 fl4 up4 => ?_)
          have J4 : Inv X pins σ' H' { s' with heap := h4 } := J.landed nb fl4.1 ((up.trans up3).trans up4) os ag
          obtain ⟨oe4, vs4, he4, hz4, hd4⟩ := fl4.there
          refine store_ok (X := X.suite a ((a, oe4) :: (X.pn ++ pins))) (v := .ref a) (J4.suite he4 hd4 na nL nF) hN hi (.inl hl) rfl (fun s5 S5 => ?_) (.inr hl)
          refine wpAny_mono ((hsu a oe4 cls d (X.pn ++ pins) hz4 ⟨_, hd4⟩).run [] s5 _ H' _ S5 (hyes rfl a na)) (fun f s6 hsp => ?_) (fun _ _ z => False.elim z)
          have gone : ∀ {σ6 : L2.St} {H6 : Hp} {Q : Shared → Prop}, Inv (X.suite a ((a, oe4) :: (X.pn ++ pins))) [] σ6 H6 s6 → (∀ s7, Inv X pins (σ6.set i none) H6 s7 → Q s7) →
              wpAny (model X.prog X.w) X.A (do bindName X.env n .none; unbindBehindTheSuite X.env n p2) (fun _ s7 => Q s7) X.xe s6 := fun {σ6 H6 Q} S6 hq => gone_ok (S6.unsuite ok) hN hi hl hq
          cases f with
          | ret u => exact let ⟨v, σ6, H6, S6, r6, q6⟩ := hsp; gone S6 fun s7 J7 => ⟨v, _, H6, J7, r6, q6⟩
          | next => exact let ⟨σ6, H6, S6, q6⟩ := hsp; gone S6 fun s7 J7 => ⟨_, H6, J7, q6⟩
          | brk => exact let ⟨σ6, H6, S6, q6⟩ := hsp; gone S6 fun s7 J7 => ⟨_, H6, J7, q6⟩
          | cont => exact let ⟨σ6, H6, S6, q6⟩ := hsp; gone S6 fun s7 J7 => ⟨_, H6, J7, q6⟩
    exact go hh w
  · have q := back f s1 _ _ hsp
    cases f with
    | next => exact wpAny_execs_nil q
    | brk => exact q
    | cont => exact q
    | ret u => exact q
end
end DI

namespace DI
open PySem L2

/-- within the suite of an except clause: a the error, cls its class, d its dict -/
def Fa.su (fa : Fa) (K : PySem.W.Frag) (a : Addr) (cls : Value) (d : Option Addr) : Fa := ⟨fa.f, fun a' x F => (x.c < 1000000 ∧ a' = a ∧ XRep K fa.f F cls d x) ∨ (1000000 ≤ x.c ∧ fa.ex a' x F), fun a' x F G s h => by
  rcases h with ⟨h0, h1, h2⟩ | ⟨h0, h1⟩
  · exact .inl ⟨h0, h1, h2.mono s⟩
  · exact .inr ⟨h0, fa.exm a' x F G s h1⟩, fun _ _ _ _ => False, fa.tb⟩
def Fa.w (fa : Fa) (W : WX) : Fa := ⟨fa.f, fa.ex, fa.exm, W, fa.tb⟩
section
variable {K : PySem.W.Frag} {fa fb : Fa} {F H F' H' : Hp} {σ σ' : L2.St} {env env' : Ev}
theorem noExc_at (h : noExc env = true) {i : Nat} {x : Xc} (e : env[i]? = some (.exc x)) : 1000000 ≤ x.c := by
  have := List.all_eq_true.mp h _ (List.mem_of_getElem? e)
  exact of_decide_eq_true this
/-- lambdas stay where errors change -/
def LamTo (fa fb : Fa) : Prop := ∀ a (x : Xc) F, 1000000 ≤ x.c → fa.ex a x F → fb.ex a x F
theorem Ok.noex (hf : fb.f = fa.f) (hl : LamTo fa fb) (o : Ok K fa F H σ env) (h : noExc env = true) (ht : fb.tb = fa.tb := by rfl) : Ok K fb F H σ env := by
  obtain ⟨f, ex, exm, W, tb⟩ := fb
  cases hf
  cases ht
  exact ⟨fun i x e => let ⟨a, h1, h2⟩ := o.exc i x e; ⟨a, h1, hl a x F (noExc_at h e) h2⟩, o.len, o.sub, o.val, o.own, o.dis, o.tabs⟩
theorem Step.noex (hf : fb.f = fa.f) (hl : LamTo fa fb) (s : Step K fa F H σ env F' H' σ' env') (h : noExc env' = true) (ht : fb.tb = fa.tb := by rfl) : Step K fb F H σ env F' H' σ' env' := by
  have ok := s.ok.noex hf hl h ht
  obtain ⟨f, ex, exm, W, tb⟩ := fb
  cases hf
  cases ht
  exact ⟨s.sub, s.keep, s.stay, ok, s.own, s.io⟩
theorem lamTo_su {a : Addr} {cls : Value} {d : Option Addr} : LamTo fa (fa.su K a cls d) := fun _ _ _ h1 h2 => .inr ⟨h1, h2⟩
theorem lamOf_su {a : Addr} {cls : Value} {d : Option Addr} : LamTo (fa.su K a cls d) fa := fun _ _ _ h1 h2 => by
  rcases h2 with ⟨h3, _⟩ | ⟨_, h3⟩
  · omega
  · exact h3
/-- a name is forgotten -/
theorem Step.forget {i : Nat} {w : Option V} (s : Step K fa F H σ env F' H' σ' env') (h : ∀ x, env[i]? ≠ some (.io x)) (hi : i < env'.length) : Step K fa F H σ env F' H' (σ'.set i w) (env'.set i .un) := by
  have un : (env'.set i .un)[i]? = some .un := get_set_self hi
  refine ⟨s.sub, s.keep, s.stay, (s.ok.drop i).setSt un, fun p q => s.own p (own_drop (own_setSt un q)), fun j x e => ?_⟩
  have hj : i ≠ j := fun z => by subst z; exact h x e
  obtain ⟨h1, y, h2⟩ := s.io j x e
  exact ⟨by rw [List.getElem?_set_ne hj]; exact h1, y, by rw [List.getElem?_set_ne hj]; exact h2⟩
end
section
variable {X : Cx} {fa : Fa} {cf : CF} {pos : Pos} {a b c e : Expr} {ia ib ic : I}
/-! ### raise -/
theorem eS_rs {c : Nat} {f : Option Nat} : eS cf (.rs c f ia) = fun env => bnd (eI cf ia env) fun r e1 => some (.error ⟨c, match f with | some i => [(i, r.d)] | none => []⟩, e1) := rfl
/-- raise C('..'), C without a def of its own for it -/
theorem b_rs0 {c : Nat} {x m : Str} {j : Nat} {p1 p2 p3 : Pos} {bmB : List Value} {B newId initId : String} (hc : X.calm = true) (tk : Takes X fa.W) (Fb : ExcBaseFacts B newId initId bmB) (q : PySem.W.excIn X.K (fa.C c) bmB newId = true) (gC : X.mg x = some (.ref (fa.C c))) (kC : PySem.W.keepIn X.K (.ref (fa.C c)) = true) (r : Raises X (.ref (fa.C c))) (hg : Gl X x) (hdb : (x == ("__debug__" : Str)) = false) :
    PS' X fa cf (.Raise (some (.Call (.Name x p1) [.Constant (.str m) j p2] [] p3)) none pos) (.rs c none (.con (.str m.cps.toList))) := ps_weak (ps_raise hc tk (pmk_own Fb q gC kC r hg hdb)) fun D σ H ⟨F, env, h⟩ =>
  h.err (x := ⟨c, []⟩) rfl (Step.refl h.ok) ⟨rfl, .inl ⟨rfl, rfl⟩⟩

/-! ### try -/
theorem eS_try {ib : Ss} {hs : Hs} : eS cf (.try_ ib hs) = fun env => match eSs cf ib env with
    | some (.error x, e1) => eHs cf x hs e1
    | r => r := rfl
/-- the clauses of the text, of the denotation, their readings -/
inductive Hds (X : Cx) (fa : Fa) (cf : CF) : List ExceptHandler → Hs → List (Value × HR) → Prop
  | nil : Hds X fa cf [] .nil []
  | bare {x : Str} {c : Value} {ks cs : List Nat} {ib : Ss} {st : Stmt} {sts : List Stmt} {p1 p2 : Pos} {hds : List ExceptHandler} {hs : Hs} {l : List (Value × HR)} (hc : Names X x c) (hk : ∀ k ∈ ks, PySem.W.exmOne X.K (.ref (fa.C k)) c = some (cs.contains k))
      (hsu : ∀ (a : Addr) (oe : Obj) (cls : Value) (d : Option Addr) (pn : List (Addr × Obj)), Zc cls d oe → (∃ vs, oe.data = .fields vs) → PSs (X.suite a ((a, oe) :: pn)) (st :: sts) (tS X.K (fa.su X.K a cls d) (eSs cf ib))) (r : Hds X fa cf hds hs l) :
      Hds X fa cf (.ExceptHandler (some (.Name x p1)) none (st :: sts) p2 :: hds) (.cons ks cs none ib hs) ((c, fun a cls d D σ H => tS X.K (fa.su X.K a cls d) (eSs cf ib) D σ H) :: l)
  | named {x n : Str} {i : Nat} {c : Value} {ks cs : List Nat} {ib : Ss} {st : Stmt} {sts : List Stmt} {p1 p2 : Pos} {hds : List ExceptHandler} {hs : Hs} {l : List (Value × HR)} (hc : Names X x c) (hk : ∀ k ∈ ks, PySem.W.exmOne X.K (.ref (fa.C k)) c = some (cs.contains k)) (hi : X.N[i]? = some n) (hl : X.env.kindOf n = some .local) (hsm : ∀ k ∈ ks, k < 1000000)
      (hsu : ∀ (a : Addr) (oe : Obj) (cls : Value) (d : Option Addr) (pn : List (Addr × Obj)), Zc cls d oe → (∃ vs, oe.data = .fields vs) → PSs (X.suite a ((a, oe) :: pn)) (st :: sts) (tS X.K (fa.su X.K a cls d) (eSs cf ib))) (r : Hds X fa cf hds hs l) :
      Hds X fa cf (.ExceptHandler (some (.Name x p1)) (some n) (st :: sts) p2 :: hds) (.cons ks cs (some i) ib hs) ((c, fun a cls d D σ H => tS X.K (fa.su X.K a cls d) (eSs cf ib) (endGo i D) (σ.set i (some (.ref a))) H) :: l)
theorem Hds.cls {hds : List ExceptHandler} {hs : Hs} {l : List (Value × HR)} (hN : X.N.Nodup) (h : Hds X fa cf hds hs l) : Cls' X hds l := by
  induction h with
  | nil => exact .nil
  | bare hc hk hsu r ih => exact .bare (ts := fun a cls d => tS X.K (fa.su X.K a cls d) (eSs cf _)) hc hsu ih
  | named hc hk hi hl hsm hsu r ih => exact .named (ts := fun a cls d => tS X.K (fa.su X.K a cls d) (eSs cf _)) hc hN hi hl hsu ih
/-- an error, the clauses: what they wish is met -/
theorem hds_D {hds : List ExceptHandler} {hs : Hs} {l : List (Value × HR)} (h : Hds X fa cf hds hs l) {F0 H0 F H : Hp} {σ0 σ : L2.St} {env0 env : Ev} {D : Ends} {x : Xc} {cls : Value} {d : Option Addr} (xr : XRep X.K fa F cls d x)
    (q : AtSB X.K fa (eHs cf x hs) F0 H0 σ0 env0 F H σ env D) : wCl X.K fa.W D l cls d σ H := by
  induction h with
  | nil => exact q.err (x := x) rfl q.1 xr
  | @bare _ c ks cs ib _ _ _ _ _ hs _ hc hk hsu r ih =>
    have q' : AtSB X.K fa (fun env => if ks.contains x.c then
      if cs.contains x.c then (if noExc env then endX (eSs cf ib env) else none) else eHs cf x hs env
      else none) F0 H0 σ0 env0 F H σ env D := q
    cases h1 : ks.contains x.c with
    | false => exact (q'.no (by simp only [h1]; rfl)).elim
    | true =>
    refine ⟨cs.contains x.c, by rw [xr.1]; exact hk x.c (by simpa using h1), fun h2 a na => ?_, fun h2 => ih (q'.cast (by simp only [h1, h2]; rfl))⟩
    cases h3 : noExc env with
    | false => exact (q'.no (by simp only [h1, h2, h3]; rfl)).elim
    | true =>
    have q2 : AtSB X.K fa (fun env => endX (eSs cf ib env)) F0 H0 σ0 env0 F H σ env D := q'.cast (by simp only [h1, h2, h3]; rfl)
    cases hb : eSs cf ib env with
    | none => exact (q2.no (by simp only [hb]; rfl)).elim
    | some oe =>
    obtain ⟨o, e2⟩ := oe
    cases o with
    | error y => exact (q2.no (by simp only [hb]; rfl)).elim
    | ok fl =>
    cases h4 : noExc e2 with
    | false => exact (q2.no (by simp only [hb, endX, h4]; rfl)).elim
    | true =>
    refine ⟨F, env, Ok.noex (fa := fa) (fb := fa.su X.K a cls d) rfl lamTo_su q.1.ok h3, .ok fl, e2, hb, fun F' H' σ' st => ?_⟩
    have st' : Step X.K fa F H σ env F' H' σ' e2 := Step.noex (fa := fa.su X.K a cls d) (fb := fa) rfl lamOf_su st h4
    have fin := FlOk.lift (fa := fa) q.1 (q2.fl (fl := fl) (by simp only [hb, endX, h4]; rfl) (q.1.trans st'))
    cases fl <;> exact fin
  | @named _ n i c ks cs ib _ _ _ _ _ hs _ hc hk hi hl hsm hsu r ih =>
    have q' : AtSB X.K fa (fun env => if ks.contains x.c then
      if cs.contains x.c then (if noExc env then (if free env i then endXi i (eSs cf ib (env.set i (.exc x))) else none) else none) else eHs cf x hs env
      else none) F0 H0 σ0 env0 F H σ env D := q
    cases h1 : ks.contains x.c with
    | false => exact (q'.no (by simp only [h1]; rfl)).elim
    | true =>
    refine ⟨cs.contains x.c, by rw [xr.1]; exact hk x.c (by simpa using h1), fun h2 a na => ?_, fun h2 => ih (q'.cast (by simp only [h1, h2]; rfl))⟩
    cases h3 : noExc env with
    | false => exact (q'.no (by simp only [h1, h2, h3]; rfl)).elim
    | true =>
    cases h5 : free env i with
    | false => exact (q'.no (by simp only [h1, h2, h3, h5]; rfl)).elim
    | true =>
    have q2 : AtSB X.K fa (fun env => endXi i (eSs cf ib (env.set i (.exc x)))) F0 H0 σ0 env0 F H σ env D := q'.cast (by simp only [h1, h2, h3, h5]; rfl)
    cases hb : eSs cf ib (env.set i (.exc x)) with
    | none => exact (q2.no (by simp only [hb]; rfl)).elim
    | some oe =>
    obtain ⟨o, e2⟩ := oe
    cases o with
    | error y => exact (q2.no (by simp only [hb]; rfl)).elim
    | ok fl =>
    cases h4' : (noExc (e2.set i .un) && decide (i < e2.length)) with
    | false => exact (q2.no (by simp only [hb, endXi, h4']; rfl)).elim
    | true =>
    have h4 := (Bool.and_eq_true_iff.mp h4').1
    have hl2 : i < e2.length := of_decide_eq_true (Bool.and_eq_true_iff.mp h4').2
    obtain ⟨hil, nio⟩ := free_not h5
    -- the name gets the error
    have o1 : Ok X.K (fa.su X.K a cls d) F H (σ.set i (some (.ref a))) (env.set i (.exc x)) := by
      have un : (env.set i .un)[i]? = some .un := get_set_self hil
      have o0 : Ok X.K (fa.su X.K a cls d) F H (σ.set i (some (.ref a))) (env.set i .un) := ((Ok.noex (fa := fa) (fb := fa.su X.K a cls d) rfl lamTo_su q.1.ok h3).drop i).setSt un
      have hne : ∀ j y, held (env.set i (.exc x)) j = some y → held (env.set i .un) j = some y := fun j y e => by
        obtain ⟨n1, e1⟩ := held_bare (s := .exc x) rfl e
        rw [held_set_ne (Ne.symm n1)]; exact e1
      refine ⟨fun j y e => ?_, by have := o0.len; rw [List.length_set, List.length_set] at this; rw [List.length_set, List.length_set]; exact this, o0.sub, fun j dd e => ?_, fun j y e => o0.own j y (hne j y e), fun j k y z v w fp fq ij hy hz => o0.dis j k y z v w fp fq ij (hne j y hy) (hne k z hz), o0.tabs⟩
      · by_cases ej : i = j
        · subst ej
          rw [get_set_self hil] at e
          cases e
          exact ⟨a, List.getElem?_set_self (by rw [q.1.ok.len]; exact hil), .inl ⟨hsm _ (by simpa using h1), rfl, xr⟩⟩
        · rw [List.getElem?_set_ne ej] at e
          obtain ⟨b, g1, g2⟩ := q.1.ok.exc j y e
          exact ⟨b, by rw [List.getElem?_set_ne ej]; exact g1, .inr ⟨noExc_at h3 e, g2⟩⟩
      · by_cases ej : i = j
        · subst ej
          rw [get_set_self hil] at e
          cases e
        · rw [List.getElem?_set_ne ej] at e
          exact o0.val j dd (by rw [List.getElem?_set_ne ej]; exact e)
    have own1 : ∀ p, Own X.K fa F H (σ.set i (some (.ref a))) (env.set i (.exc x)) p → Own X.K fa F H σ env p := fun p ⟨j, y, v, fp, g1, g2, g3⟩ => by
      obtain ⟨n1, e1⟩ := held_bare (s := .exc x) rfl g1
      rw [List.getElem?_set_ne (Ne.symm n1)] at g2
      exact ⟨j, y, v, fp, e1, g2, g3⟩
    refine ⟨F, _, o1, .ok fl, e2, hb, fun F' H' σ' st => ?_⟩
    have s1 : Step X.K (fa.su X.K a cls d) F H (σ.set i (some (.ref a))) (env.set i (.exc x)) F' H' (σ'.set i none) (e2.set i .un) := st.forget (fun y z => by
      rw [get_set_self hil] at z; cases z) hl2
    have s2 : Step X.K fa F H (σ.set i (some (.ref a))) (env.set i (.exc x)) F' H' (σ'.set i none) (e2.set i .un) := Step.noex (fa := fa.su X.K a cls d) (fb := fa) rfl lamOf_su s1 h4
    have s3 : Step X.K fa F H σ env F' H' (σ'.set i none) (e2.set i .un) := ⟨s2.sub, fun y u e n => s2.keep y u e fun z => n (own1 y z), fun y e1 e2 n => s2.stay y e1 e2 fun z => n (own1 y z), s2.ok, fun p z => by
      rcases s2.own p z with w | w
      · exact .inl (own1 p w)
      · exact .inr w, fun j y e => by
      have hj : i ≠ j := fun z => by subst z; exact nio y e
      obtain ⟨g1, z, g2⟩ := s2.io j y (by rw [List.getElem?_set_ne hj]; exact e)
      exact ⟨by rw [g1, List.getElem?_set_ne hj], z, g2⟩⟩
    have fin := FlOk.lift (fa := fa) q.1 (q2.fl (fl := fl) (by simp only [hb, endXi, h4']; rfl) (q.1.trans s3))
    cases fl with
    | nx => exact fin
    | bk => exact fin
    | ct => exact fin
    | rt r =>
      intro v rr
      refine fin v ?_
      cases r with
      | val dd => exact rr
      | new y =>
        obtain ⟨fp, g1, g2, g3⟩ := rr
        refine ⟨fp, g1, fun p m => ?_, fun p m z => g3 p m (own_drop (own_setSt (get_set_self hl2) z))⟩
        rcases g2 p m with w | w
        · exact .inl (own1 p w)
        · exact .inr w
theorem b_try {body : List Stmt} {ib : Ss} {h0 : ExceptHandler} {hds : List ExceptHandler} {hs : Hs} {l : List (Value × HR)} (hst : X.stack = X.env :: X.outer) (hf : X.env.frame = some X.env.locals) (hN : X.N.Nodup) (tk : Takes X fa.W)
    (hb : ∀ (W : WX) (pn : List (Addr × Obj)) (xe : Value → Shared → Prop), Takes (X.tr pn xe) W → PassesOwn (model X.prog X.w) X.A X.env xe → PSs (X.tr pn xe) body (tS X.K (fa.w W) (eSs cf ib))) (hh : Hds X fa cf (h0 :: hds) hs l) :
    PS' X fa cf (.Try body (h0 :: hds) [] [] pos) (.try_ ib hs) := ps_weak (ps_tryC hst hf tk hb (hh.cls hN)) fun D σ H ⟨F, env, h⟩ => by
  rw [eS_try] at h
  cases hm : eSs cf ib env with
  | none => exact (h.no (by rw [hm])).elim
  | some oe =>
    obtain ⟨o, e1⟩ := oe
    refine ⟨F, env, Ok.chg (fa := fa) (fb := fa.w (wCl X.K fa.W D l)) rfl rfl h.ok, o, e1, hm, ?_⟩
    cases o with
    | ok fl =>
      intro F' H' σ' st
      have st' : Step X.K fa F H σ env F' H' σ' e1 := Step.chg (fa := fa.w (wCl X.K fa.W D l)) (fb := fa) rfl rfl st
      have fin := h.fl (fl := fl) (by rw [hm]) st'
      cases fl <;> exact fin
    | error x =>
      intro F' H' σ' cls d st xr
      have st' : Step X.K fa F H σ env F' H' σ' e1 := Step.chg (fa := fa.w (wCl X.K fa.W D l)) (fb := fa) rfl rfl st
      obtain ⟨_, o9, e9, q1, q2⟩ := h
      simp only [hm] at q1
      exact hds_D hh xr ⟨st', o9, e9, q1, q2⟩

/-! ### the error that is handled -/
theorem s_xfld {a : Addr} {oe : Obj} {cls : Value} {d : Option Addr} {pn : List (Addr × Obj)} {i f c : Nat} {x : Str} {px : Pos} (hf : f < nmT.length) (T : XfC X.K (fa.C c)) (hno : PySem.W.findIn X.K (.ref (fa.C c)) (nm f) = some none) (hz : Zc cls d oe) (hd : ∃ vs, oe.data = .fields vs)
    (hN : X.N[i]? = some x) (hv : Vis X.env.scope x) (hdb : (x == ("__debug__" : Str)) = false) (hcd : (x == ("__classdict__" : Str)) = false) :
    True := trivial
end
end DI

namespace DI
open PySem L2

/-- how a def binds its arguments -/
-- t looks x up in the dict at D, finds w, goes on as r
def KwV {α : Type} (D : Addr) (x : Str) (w : Value) (t r : Sem α) : Prop := ∃ (β γ : Type) (k1 : Option Value → Sem β) (k2 : β → Sem γ) (k3 : γ → Sem α) (a : β), t = ((nsGet D x >>= k1) >>= k2) >>= k3 ∧ k1 (some w) = pure a ∧ (k2 a >>= k3) = r
/-- .. with a keyword-only parameter: its default is found, it is given -/
def BindK (fi : FI) : Prop := ∃ ps0 pk pv, fi.ps = ps0 ++ [pk, pv] ∧ match fi.fn.kd with
  | .no => False
  | .df _ => ∀ (D : Addr) (doc pm : Value) (an : Option Addr) (cdv ct w : Value) (us rest : List Value), us.length = ps0.length →
    KwV D pk w (bindArgs (PySem.W.fnOf fi.name fi.qual (defArgs fi.st) (defBody fi.st) (defScope fi.st) .none (.ref D) doc pm an cdv ct) ⟨us ++ rest, []⟩) (newTuple rest >>= fun t => pure (ps0.zip us ++ [(pk, w), (pv, t)]))
  | .gv x => x = pk ∧ ∀ (kV doc pm : Value) (an : Option Addr) (cdv ct w : Value) (us rest : List Value), us.length = ps0.length →
    bindArgs (PySem.W.fnOf fi.name fi.qual (defArgs fi.st) (defBody fi.st) (defScope fi.st) .none kV doc pm an cdv ct) ⟨us ++ rest, [(pk, w)]⟩ = (newTuple rest >>= fun t => pure (ps0.zip us ++ [(pk, w), (pv, t)]))
def isNo : Kd → Bool
  | .no => true
  | _ => false
def BindP (fi : FI) : Prop :=
  if fi.fn.va then ∃ ps0 pv, fi.ps = ps0 ++ [pv] ∧ ∀ (kV doc pm : Value) (an : Option Addr) (cdv ct : Value) (us rest : List Value), us.length = ps0.length →
    bindArgs (PySem.W.fnOf fi.name fi.qual (defArgs fi.st) (defBody fi.st) (defScope fi.st) .none kV doc pm an cdv ct) ⟨us ++ rest, []⟩ = (newTuple rest >>= fun t => pure (ps0.zip us ++ [(pv, t)]))
  else ∀ (kV doc pm : Value) (an : Option Addr) (cdv ct : Value) (us : List Value), us.length = fi.ps.length →
    bindArgs (PySem.W.fnOf fi.name fi.qual (defArgs fi.st) (defBody fi.st) (defScope fi.st) .none kV doc pm an cdv ct) ⟨us, []⟩ = pure (fi.ps.zip us)
/-- a def as it is written: its names, its parameters -/
structure FW (fi : FI) : Prop where
  sc : FnScope fi.N fi.ps (defScope fi.st)
  bd : if isNo fi.fn.kd then BindP fi else BindK fi
  np : fi.fn.np = fi.ps.length
  ns : fi.fn.ns = fi.N.length
/-- the dict of the keyword-only defaults -/
def KwD (K : PySem.W.Frag) (kV : Value) (fi : FI) : Prop := match fi.fn.kd with
  | .df i => ∃ (D : Addr) (t : Tok), kV = .ref D ∧ ∀ ps0 pk pv, fi.ps = ps0 ++ [pk, pv] → PySem.W.nsIn K D pk = some (some (.int i t))
  | _ => True
/-- a def as it stands behind the top -/
structure FK (K : PySem.W.Frag) (f : Addr) (fi : FI) : Prop where
  ex : ∃ (oc : Value) (od : Option Addr) (kV doc pm : Value) (an : Option Addr) (cdv ct : Value) (osl : Array (Option Value)),
    K.lookup f = some ⟨oc, od, .func (PySem.W.fnOf fi.name fi.qual (defArgs fi.st) (defBody fi.st) (defScope fi.st) .none kV doc pm an cdv ct), osl⟩ ∧ PySem.W.codeIn K cdv fi.qual = true ∧ KwD K kV fi
  kp : PySem.W.keepIn K (.ref f) = true
section
variable {P : Program} {w : World} {K : PySem.W.Frag} {mg : Str → Option Value} {base : Heap} {fa : Fa} {fns : List (Nat × Fn)} {k f : Nat}
theorem callF_some {io : Option Ho} {ds : List D} {z : Except Xc R × Option Ho} (h : callF fns k f io ds = some z) :
    ∃ fn j es, fns.lookup f = some fn ∧ k = j + 1 ∧ fn.io = io.isSome ∧ fn.np ≤ fn.ns ∧ bindC fn ds = some es ∧ bodyF (callF fns j) fn io es = some z := by
  cases k with
  | zero => cases h
  | succ j =>
    simp only [callF] at h
    cases e : fns.lookup f with
    | none => rw [e] at h; cases h
    | some fn =>
      rw [e] at h
      simp only at h
      split at h
      · rename_i hc
        cases hb : bindC fn ds with
        | none => rw [hb] at h; cases h
        | some es =>
          rw [hb] at h
          exact ⟨fn, j, es, rfl, rfl, hc.1, hc.2, hb, h⟩
      · cases h
theorem outOf_io {env : Ev} {out : Option Ho} (h : outOf true env = some out) : ∃ x, out = some x ∧ env[0]? = some (.io x) := by
  unfold outOf at h
  simp only [if_true] at h
  split at h
  · rename_i x hx
    cases h
    exact ⟨x, rfl, hx⟩
  · cases h
/-- from the callee's last state to what the caller sees -/
theorem cst_of {F H F2 H2 F' H' : Hp} {σ0 σ' : L2.St} {env0 env' : Ev} {vs : List V} {fp : List Addr} {io out : Option Ho} {iob : Bool} (hio : iob = io.isSome) (al : CSt K fa fa.tb F H [] [] F2 H2 none []) (hfp : ∀ q ∈ fp, H q ≠ none) (st : Step K fa F2 H2 σ0 env0 F' H' σ' env') (n : ∀ q, Own K fa F2 H2 σ0 env0 q ↔ q ∈ fp)
    (hs : ∀ x, io = some x → env0[0]? = some (.io x) ∧ ∃ u ws, vs = u :: ws ∧ σ0[0]? = some (some u)) (ho : outOf iob env' = some out) : ∃ fp', CSt K fa fa.tb F H vs fp F' H' out fp' ∧ ∀ q ∈ fp', Own K fa F' H' σ' env' q := by
  have keep : ∀ a o, H a = some o → a ∉ fp → Kept (F a ≠ none) H' a o := fun a o e m => (al.keep a o e List.not_mem_nil).trans fun o' e' => (st.keep a o' e' fun q => m ((n a).mp q)).mono fun hf z => hf (al.stay a (by rw [e]; simp) z List.not_mem_nil)
  have stay : ∀ a, H a ≠ none → F a = none → a ∉ fp → F' a = none := fun a h1 h2 m => by
    cases e : H a with
    | none => exact absurd e h1
    | some u => exact st.stay a (al.keep a u e List.not_mem_nil).ne (al.stay a h1 h2 List.not_mem_nil) fun q => m ((n a).mp q)
  have back : ∀ q, Own K fa F' H' σ' env' q → q ∈ fp ∨ H q = none := fun q z => by
    rcases st.own q z with w | w
    · exact .inl ((n q).mp w)
    · cases e : H q with
      | none => exact .inr rfl
      | some u => exact ((al.keep q u e List.not_mem_nil).no w).elim
  cases io with
  | none =>
    subst hio
    cases ho
    exact ⟨[], ⟨al.sub.trans st.sub, st.ok.sub, keep, stay, rfl, (fun _ m => by cases m), fun _ => st.ok.tabs⟩, fun _ m => by cases m⟩
  | some x =>
    subst hio
    obtain ⟨y, rfl, hy⟩ := outOf_io ho
    obtain ⟨h0, u, ws, rfl, hu⟩ := hs x rfl
    obtain ⟨h1, _⟩ := st.io 0 x h0
    obtain ⟨v, fp', k1, k2⟩ := st.ok.own 0 y (held_iff.mpr (.inr hy))
    rw [h1, hu] at k1
    cases k1
    have on : ∀ q ∈ fp', Own K fa F' H' σ' env' q := fun q m => ⟨0, y, u, fp', held_iff.mpr (.inr hy), by rw [h1]; exact hu, k2, m⟩
    exact ⟨fp', ⟨al.sub.trans st.sub, st.ok.sub, keep, stay, ⟨u, ws, rfl, k2⟩, (fun q m => back q (on q m)), fun _ => st.ok.tabs⟩, on⟩
theorem cres_of {H F2 H2 F F' H' : Hp} {σ0 σ' : L2.St} {env0 env' : Ev} {fp fp' : List Addr} {v : V} {r : R} (al : CSt K fa fa.tb F H [] [] F2 H2 none []) (n : ∀ q, Own K fa F2 H2 σ0 env0 q ↔ q ∈ fp) (on : ∀ q ∈ fp', Own K fa F' H' σ' env' q) (rr : RRep K fa F2 H2 σ0 env0 F' H' σ' env' v r) : CRes K fa H fp F' H' fp' v r := by
  cases r with
  | val d => exact rr
  | new x =>
    obtain ⟨fq, h1, h2, h3⟩ := rr
    refine ⟨fq, h1, fun p m => ?_, fun p m z => h3 p m (on p z)⟩
    rcases h2 p m with w | w
    · exact .inl ((n p).mp w)
    · cases e : H p with
      | none => exact .inr rfl
      | some u => exact ((al.keep p u e List.not_mem_nil).no w).elim
/-- the body's reading, from the values of the parameters -/
theorem body_D {F H F2 H2 : Hp} {N : List Str} {fn : Fn} {vs ws : List V} {io : Option Ho} {es : List D} {fp : List Addr} {o : Except Xc R} {out : Option Ho} {Q : VK} {E : XK} {cf : CF} (al : CSt K fa fa.tb F H [] [] F2 H2 none []) (hfp : ∀ q ∈ fp, H q ≠ none) (hio : fn.io = io.isSome) (ok : Ok K (fa.to E) F2 H2 (L2.start N vs) (start0 fn io es))
    (n : ∀ q, Own K fa F2 H2 (L2.start N vs) (start0 fn io es) q ↔ q ∈ fp) (hs : ∀ x, io = some x → (start0 fn io es)[0]? = some (.io x) ∧ ∃ u us, ws = u :: us ∧ (L2.start N vs)[0]? = some (some u)) (hb : bodyF cf fn io es = some (o, out))
    (q : ∀ F' H' fp', CSt K fa fa.tb F H ws fp F' H' out fp' → CEnd K fa H fp F' H' fp' Q E o) : tS K (fa.to E) (eSs cf fn.body) { nx := fun _ H' => Q .non H', rt := Q } (L2.start N vs) H2 := by
  unfold bodyF at hb
  cases he : eSs cf fn.body (start0 fn io es) with
  | none => rw [he] at hb; cases hb
  | some oe =>
    obtain ⟨o1, env'⟩ := oe
    rw [he] at hb
    have step : ∀ {F' H' : Hp} {σ' : L2.St}, outOf fn.io env' = some out → Step K (fa.to E) F2 H2 (L2.start N vs) (start0 fn io es) F' H' σ' env' → ∃ fp', CSt K fa fa.tb F H ws fp F' H' out fp' ∧ (∀ q ∈ fp', Own K fa F' H' σ' env' q) := fun {F' H' σ'} ho st => by
      exact cst_of (fa := fa.to E) hio al hfp st n hs ho
    refine ⟨F2, _, ok, o1, env', he, ?_⟩
    cases o1 with
    | error x =>
      intro F' H' σ' cls d st xr
      simp only at hb
      obtain ⟨out', ho, e1⟩ := Option.map_eq_some_iff.mp hb
      cases e1
      obtain ⟨fp', c1, c2⟩ := step ho st
      exact q F' H' fp' c1 cls d xr
    | ok fl =>
      intro F' H' σ' st
      cases fl with
      | bk => cases hb
      | ct => cases hb
      | nx =>
        simp only at hb
        obtain ⟨out', ho, e1⟩ := Option.map_eq_some_iff.mp hb
        cases e1
        obtain ⟨fp', c1, c2⟩ := step ho st
        exact q F' H' fp' c1 .non .non
      | rt r =>
        simp only at hb
        obtain ⟨out', ho, e1⟩ := Option.map_eq_some_iff.mp hb
        cases e1
        obtain ⟨fp', c1, c2⟩ := step ho st
        exact fun v rr => q F' H' fp' c1 v (cres_of (fa := fa.to E) al n c2 rr)
theorem args_fp {F : Hp} {H : Hp} {io : Option Ho} {ds : List D} {vs : List V} {fp : List Addr} (h : Args K fa F H io ds vs fp) : ∀ q ∈ fp, H q ≠ none := by
  cases h with
  | no _ => exact fun _ m => by cases m
  | io r _ =>
    intro q m z
    obtain ⟨_, o, e⟩ := r.there q m
    rw [e] at z
    cases z
theorem bodyF_out {cf : CF} {fn : Fn} {io : Option Ho} {es : List D} {o : Except Xc R} {out : Option Ho} (h : fn.io = false) (e : bodyF cf fn io es = some (o, out)) : out = none := by
  unfold bodyF at e
  have ho : ∀ env, outOf fn.io env = some none := fun env => by rw [h]; rfl
  split at e
  · rw [ho] at e; cases e; rfl
  · rw [ho] at e; cases e; rfl
  · rw [ho] at e; cases e; rfl
  · cases e
/-- a def with a star parameter, however its arguments are bound -/
theorem fn_vaN {fi : FI} {A : Around} {outer : List Env} {s : Shared} {F H : Hp} {args : PySem.Args} {ps1 : List Str} {pv : Str} {ws rest : List V} {u1 u2 : List Value} {dw dr : List D} {Q : VK} {E : XK} {j : Nat} {o : Except Xc R} {out : Option Ho} (W : FW fi)
    {oc : Value} {od : Option Addr} {kV doc pm : Value} {an : Option Addr} {cdv ct : Value} {osl : Array (Option Value)} (lk : K.lookup (fa.f f) = some ⟨oc, od, .func (PySem.W.fnOf fi.name fi.qual (defArgs fi.st) (defBody fi.st) (defScope fi.st) .none kV doc pm an cdv ct), osl⟩) (hcd : PySem.W.codeIn K cdv fi.qual = true)
    (hps : fi.ps = ps1 ++ [pv]) (hio : fi.fn.io = false) (hns : fi.fn.np ≤ fi.fn.ns) (hr : Room (4 * (j + 1)) A) (e0 : Env0 P w K mg base A outer s H) (tbs : Tb fa.tb F H) (sub : SL F H) (r1 : RepL K fa F ws dw) (r2 : RepL K fa F rest dr) (v1 : Vals ws u1) (v2 : Vals rest u2) (hl : ws.length = ps1.length) (hsz : rest.length ≤ sizeLine)
    (hB : ∀ (A' : Around) (Ex : Value → Shared → Prop) (Q' : List (Str × Value) → Shared → Prop), wpAny (model P w) A' (newTuple u2 >>= fun t => pure (ps1.zip u1 ++ [(pv, t)])) Q' Ex s → wpAny (model P w) A' (bindArgs (PySem.W.fnOf fi.name fi.qual (defArgs fi.st) (defBody fi.st) (defScope fi.st) .none kV doc pm an cdv ct) args) Q' Ex s)
    (hb : bodyF (callF fns j) fi.fn none (dw ++ [.tup dr]) = some (o, out)) (q : ∀ F' H' fp', CSt K fa fa.tb F H (ws ++ rest) [] F' H' out fp' → CEnd K fa H [] F' H' fp' Q E o)
    (B : ∀ (s2 : Shared) (H2 : Hp), Room (4 * j + 3) (A.deeper (PyProof.Rows.envOfC fi.qual (defScope fi.st) s2.heap.objs.size (fa.f f) cdv)) → PSs (cxOf (L2.CX P w) P w K mg base fi.N fi.qual (defScope fi.st) (fa.f f) cdv A outer s2 H2 E) (defBody fi.st) (tS K (fa.to E) (eSs (callF fns j) fi.fn.body))) :
    codeAny (model P w) A (.call (.ref (fa.f f)) args) (CR (L2.CX P w) outer P w H s Q E) s := by
  have hpl : fi.fn.np = ps1.length + 1 := by rw [W.np, hps]; simp
  have hu1 : u1.length = ps1.length := by rw [← v1.length]; exact hl
  have hn : H s.heap.objs.size = none := e0.hok.fresh (Nat.le_refl _)
  refine StX.run_bnd (N := fi.N) (ps := fi.ps) (k := 4 * j + 3) (G := fun xs H2 => ∃ p, H p = none ∧ xs = ws ++ [V.ref p] ∧ H2 = upd H p (.tup rest)) lk hcd W.sc hr e0 (fun A' Ex Q' hq => ?_) fun s2 H2 xs ⟨p, hp, ex, eH⟩ hr' => ?_
  · refine hB A' Ex Q' ?_
    refine wpAny_bind (wpAny_newTuple (wpAny_pure ?_) (by rw [← v2.length]; exact hsz))
    have new : ObjOk P w (upd H s.heap.objs.size (.tup rest)) (s.heap.push ({ cls := .type "tuple", data := .seq u2.toArray } : Obj)) s.heap.objs.size (.tup rest) := ⟨hsz, u2, v2, ⟨_, Heap.get?_push_size _ rfl, rfl, _, rfl⟩⟩
    have un := StX.un_laid (fs := frs outer) (s := s) (o := ({ cls := .type "tuple", data := .seq u2.toArray } : Obj)) (u := .tup rest) hn
    have z := hq _ _ (ws ++ [V.ref s.heap.objs.size]) (u1 ++ [Value.ref s.heap.objs.size]) (StX.env0_laid e0 new) un rfl (fun e s' => StX.cxUp outer s H _ _ E e s' un (fun b o q => Heap.get?_push_of_some _ q) rfl) (v1.append (.cons rfl .nil)) (by rw [hps, List.length_append, List.length_append, hl]; rfl) ⟨_, hn, rfl, rfl⟩
    rw [hps, List.zip_append hu1.symm] at z
    exact z
  · subst ex eH
    refine ⟨_, B s2 _ hr', ?_⟩
    have al : CSt K fa fa.tb F H [] [] (upd F p (.tup rest)) (upd H p (.tup rest)) none [] := cst_new sub hp (fun _ z => by cases z)
    have sF := al.sub
    have rp : Rep K fa (upd F p (.tup rest)) (.ref p) (.tup dr) := .tup upd_same (r2.mono sF)
    have hdl : dw.length = ps1.length := by rw [← r1.length]; exact hl
    obtain ⟨o1, o2⟩ := ok_start (fa := fa.to E) (N := fi.N) (fn := fi.fn) (al.tabs tbs) al.sub' ((r1.mono sF).append (.cons rp .nil)) (by rw [List.length_append, hdl, hpl]; rfl) hns W.ns
    exact body_D (ws := ws ++ rest) (fp := []) (io := none) al (fun _ m => by cases m) (by rw [hio]; rfl) o1 (fun q => ⟨fun z => (o2 _ _ q z).elim, fun m => by cases m⟩) (fun x z => by cases z) hb q
/-- a def's body keeps what the denotation tells, if the bodies of what it calls do -/
theorem fn_body {fi : FI} {A : Around} {outer : List Env} {s : Shared} {H : Hp} {us : List Value} {vs : List V} {Q : VK} {E : XK} {j : Nat} (W : FW fi) (L : FK K (fa.f f) fi) (hfn : fns.lookup f = some fi.fn) (hg : A.guards = some []) (hr : Room (4 * (j + 1)) A) (e0 : Env0 P w K mg base A outer s H) (rv : Vals vs us) (h : spC K fa fa.tb fns (j + 1) f vs H Q E)
    (B : ∀ (oc : Value) (od : Option Addr) (kV doc pm : Value) (an : Option Addr) (cdv ct : Value) (osl : Array (Option Value)), K.lookup (fa.f f) = some ⟨oc, od, .func (PySem.W.fnOf fi.name fi.qual (defArgs fi.st) (defBody fi.st) (defScope fi.st) .none kV doc pm an cdv ct), osl⟩ → ∀ (s2 : Shared) (H2 : Hp), Room (4 * j + 3) (A.deeper (PyProof.Rows.envOfC fi.qual (defScope fi.st) s2.heap.objs.size (fa.f f) cdv)) → PSs (cxOf (L2.CX P w) P w K mg base fi.N fi.qual (defScope fi.st) (fa.f f) cdv A outer s2 H2 E) (defBody fi.st) (tS K (fa.to E) (eSs (callF fns j) fi.fn.body))) :
    codeAny (model P w) A (.call (.ref (fa.f f)) ⟨us, []⟩) (CR (L2.CX P w) outer P w H s Q E) s := by
  obtain ⟨F, io, ds, fp, o, out, ar, ⟨sub, tbs⟩, hc, q⟩ := h
  obtain ⟨fn, j', es, h1, h2, h3, h4, h5, h6⟩ := callF_some hc
  rw [hfn] at h1
  cases h1
  cases h2
  obtain ⟨oc, od, kV, doc, pm, an, cdv, ct, osl, lk, hcd, hkd⟩ := L.ex
  have hfp := args_fp ar
  cases hkn : isNo fi.fn.kd with
  | false =>
    have hB := W.bd
    rw [hkn] at hB
    simp only [Bool.false_eq_true, if_false] at hB
    unfold bindC at h5
    obtain ⟨ps0, pk, pv, hps, hB⟩ := hB
    cases hk : fi.fn.kd with
    | no => rw [hk] at hkn; cases hkn
    | gv x => rw [hk] at h5; cases h5
    | df i =>
      rw [hk] at h5 hB
      simp only at h5 hB
      split at h5
      · rename_i hc
        obtain ⟨c1, c2, c3, c4, c5⟩ := hc
        cases h5
        have hnp : fi.fn.np = ps0.length + 2 := by rw [W.np, hps]; simp
        unfold KwD at hkd
        rw [hk] at hkd
        obtain ⟨D, t, rfl, hD⟩ := hkd
        have hD := hD ps0 pk pv hps
        cases ar with
        | io r1 r2 =>
          rw [c1] at h3
          cases h3
        | no r =>
          have hvl : vs.length = ds.length := r.length
          have h2 : fi.fn.np - 2 = ps0.length := by omega
          rw [h2] at h6
          have rw1 := r.take ps0.length
          have rw2 := r.drop ps0.length
          have lw : (vs.take ps0.length).length = ps0.length := by rw [List.length_take]; omega
          have vsp : vs = vs.take ps0.length ++ vs.drop ps0.length := (List.take_append_drop _ _).symm
          rw [vsp] at rv
          obtain ⟨u1, u2, rfl, rv1, rv2⟩ := StX.vals_split rv
          have lu : u1.length = ps0.length := by rw [← rv1.length]; exact lw
          have KX : K.In s.heap := e0.mod.kin.keeps fun b o e => (e0.bs b o e).1
          refine fn_vaN (ws := vs.take ps0.length ++ [.int i]) (rest := vs.drop ps0.length) (u1 := u1 ++ [.int i t]) (u2 := u2) (dw := ds.take ps0.length ++ [.int i]) (dr := ds.drop ps0.length) (ps1 := ps0 ++ [pk]) (pv := pv) W lk hcd (by rw [hps]; simp) c1 h4 hr e0 tbs sub (rw1.append (.cons (.int i) .nil)) rw2 (rv1.append (.cons (show RelV (.int i) (.int i t) from ⟨t, rfl⟩) .nil)) rv2 (by simp [lw]) ?_ ?_ h6 ?_ (fun s2 H2 hr' => B _ _ _ _ _ _ cdv _ _ lk s2 H2 hr')
          · rw [List.length_drop, hvl]
            exact Nat.le_trans (Nat.sub_le _ _) (le_line c5)
          · intro A' Ex Q' hw
            obtain ⟨β, γ, k1, k2, k3, a, e1, e2, e3⟩ := hB D doc pm an cdv ct (.int i t) u1 u2 lu
            rw [e1, bind_assoc]
            refine wpAny_bind (wpAny_bind ((PySem.W.looks_nsIn KX hD).here ?_))
            rw [e2]
            refine wpAny_pure ?_
            rw [e3]
            have zz : (ps0 ++ [pk]).zip (u1 ++ [Value.int i t]) = ps0.zip u1 ++ [(pk, .int i t)] := by rw [List.zip_append lu.symm]; rfl
            simp only [zz, List.append_assoc, List.singleton_append] at hw ⊢
            exact hw
          · intro F' H' fp' cs
            have ho := bodyF_out c1 h6
            subst ho
            exact q F' H' fp' ⟨cs.sub, cs.sub', cs.keep, cs.stay, cs.out, cs.new, cs.tabs⟩
      · cases h5
  | true =>
  have hB := W.bd
  rw [hkn] at hB
  simp only [if_true] at hB
  have h5 : bindD fi.fn ds = some es := by
    unfold bindC at h5
    cases hk : fi.fn.kd with
    | no => rw [hk] at h5; exact h5
    | df i => rw [hk] at hkn; cases hkn
    | gv x => rw [hk] at hkn; cases hkn
  unfold BindP at hB
  cases hva : fi.fn.va with
  | false =>
    rw [hva] at hB
    simp only [Bool.false_eq_true, if_false] at hB
    unfold bindD at h5
    rw [hva] at h5
    simp only [Bool.false_eq_true, if_false] at h5
    split at h5
    · rename_i hnp
      cases h5
      have hvl : vs.length = fi.ps.length := by
        rw [← W.np, hnp, h3]
        cases ar with
        | no r => rw [r.length]; rfl
        | io r1 r2 => rw [List.length_cons, r2.length]; rfl
      refine StX.run_bnd (N := fi.N) (ps := fi.ps) (k := 4 * j + 3) (G := fun xs H2 => xs = vs ∧ H2 = H) lk hcd W.sc hr e0 (fun A' Ex Q' hq => ?_) fun s2 H2 xs ⟨ex, eH⟩ hr' => ?_
      · rw [hB kV doc pm an cdv ct us (by rw [← rv.length]; exact hvl)]
        exact wpAny_pure (hq s H vs us e0 (Un.refl) rfl (fun e s' z => z) rv hvl ⟨rfl, rfl⟩)
      · subst ex eH
        refine ⟨_, B _ _ _ _ _ _ cdv _ _ lk s2 _ hr', ?_⟩
        cases ar with
        | no r =>
          have h3' : fi.fn.io = false := h3
          rw [h3'] at hnp
          obtain ⟨o1, o2⟩ := ok_start (fa := fa.to E) (N := fi.N) (fn := fi.fn) tbs sub r (by simpa [ioN] using hnp) h4 W.ns
          exact body_D (ws := xs) (cst_refl sub) hfp h3 o1 (fun q => ⟨fun z => (o2 _ _ q z).elim, fun m => by cases m⟩) (fun x z => by cases z) h6 q
        | @io u x _ ws _ r1 r2 =>
          have h3' : fi.fn.io = true := h3
          rw [h3'] at hnp
          obtain ⟨o1, o2, o3, o4⟩ := ok_startIo (fa := fa.to E) (N := fi.N) (fn := fi.fn) tbs sub r1 r2 (by simpa [ioN] using hnp) h4 W.ns
          exact body_D (ws := u :: ws) (cst_refl sub) hfp h3 o1 o2 (fun y z => by cases z; exact ⟨o3, u, ws, rfl, o4⟩) h6 q
    · cases h5
  | true =>
    rw [hva] at hB
    simp only [if_true] at hB
    obtain ⟨ps0, pv, hps, hB⟩ := hB
    unfold bindD at h5
    rw [hva] at h5
    simp only [if_true] at h5
    split at h5
    · rename_i hnp
      cases h5
      have hpl : fi.fn.np = ps0.length + 1 := by rw [W.np, hps]; simp
      have hm : fi.fn.np - ioN fi.fn.io - 1 + ioN fi.fn.io = ps0.length := by omega
      -- the values: those of the parameters, the rest
      have hvs : ∃ ws rest, vs = ws ++ rest ∧ ws.length = ps0.length ∧ RepL K fa F rest (ds.drop (fi.fn.np - ioN fi.fn.io - 1)) ∧ ∃ ar' : Args K fa F H io (ds.take (fi.fn.np - ioN fi.fn.io - 1)) ws fp, True := by
        cases ar with
        | no r =>
          have h3' : fi.fn.io = false := h3
          refine ⟨vs.take (fi.fn.np - ioN fi.fn.io - 1), vs.drop (fi.fn.np - ioN fi.fn.io - 1), (List.take_append_drop _ _).symm, ?_, r.drop _, .no (r.take _), trivial⟩
          rw [List.length_take, r.length]
          rw [h3'] at hm hnp ⊢
          simp only [ioN] at hm hnp ⊢
          omega
        | @io u x _ ws _ r1 r2 =>
          have h3' : fi.fn.io = true := h3
          refine ⟨u :: ws.take (fi.fn.np - ioN fi.fn.io - 1), ws.drop (fi.fn.np - ioN fi.fn.io - 1), by rw [List.cons_append, List.take_append_drop], ?_, r2.drop _, .io r1 (r2.take _), trivial⟩
          rw [List.length_cons, List.length_take, r2.length]
          rw [h3'] at hm hnp ⊢
          simp only [ioN] at hm hnp ⊢
          omega
      obtain ⟨ws, rest, rfl, hwl, rr, ar', _⟩ := hvs
      obtain ⟨u1, u2, rfl, rv1, rv2⟩ := StX.vals_split rv
      have hrl : rest.length ≤ sizeLine := by
        rw [rr.length, List.length_drop]
        exact Nat.le_trans (Nat.sub_le _ _) (le_line hnp.2.2)
      have hu1 : u1.length = ps0.length := by rw [← rv1.length]; exact hwl
      have hn : H s.heap.objs.size = none := e0.hok.fresh (Nat.le_refl _)
      refine StX.run_bnd (N := fi.N) (ps := fi.ps) (k := 4 * j + 3) (G := fun xs H2 => ∃ p, H p = none ∧ xs = ws ++ [V.ref p] ∧ H2 = upd H p (.tup rest)) lk hcd W.sc hr e0 (fun A' Ex Q' hq => ?_) fun s2 H2 xs ⟨p, hp, ex, eH⟩ hr' => ?_
      · rw [hB kV doc pm an cdv ct u1 u2 hu1]
        refine wpAny_bind (wpAny_newTuple (wpAny_pure ?_) (by rw [← rv2.length]; exact hrl))
        have new : ObjOk P w (upd H s.heap.objs.size (.tup rest)) (s.heap.push ({ cls := .type "tuple", data := .seq u2.toArray } : Obj)) s.heap.objs.size (.tup rest) := ⟨hrl, u2, rv2, ⟨_, Heap.get?_push_size _ rfl, rfl, _, rfl⟩⟩
        have un := StX.un_laid (fs := frs outer) (s := s) (o := ({ cls := .type "tuple", data := .seq u2.toArray } : Obj)) (u := .tup rest) hn
        have z := hq _ _ (ws ++ [V.ref s.heap.objs.size]) (u1 ++ [Value.ref s.heap.objs.size]) (StX.env0_laid e0 new) un rfl (fun e s' => StX.cxUp outer s H _ _ E e s' un (fun b o q => Heap.get?_push_of_some _ q) rfl) (rv1.append (.cons rfl .nil)) (by rw [hps, List.length_append, List.length_append, hwl]; rfl) ⟨_, hn, rfl, rfl⟩
        rw [hps, List.zip_append hu1.symm] at z
        exact z
      · subst ex eH
        refine ⟨_, B _ _ _ _ _ _ cdv _ _ lk s2 _ hr', ?_⟩
        have al : CSt K fa fa.tb F H [] [] (upd F p (.tup rest)) (upd H p (.tup rest)) none [] := cst_new sub hp (fun _ z => by cases z)
        have sF := al.sub
        have rp : Rep K fa (upd F p (.tup rest)) (.ref p) (.tup (ds.drop (fi.fn.np - ioN fi.fn.io - 1))) := .tup upd_same (rr.mono sF)
        have hq' : ∀ F' H' fp', CSt K fa fa.tb F H (ws ++ rest) fp F' H' out fp' → CEnd K fa H fp F' H' fp' Q E o := q
        cases ar' with
        | no r =>
          have h3' : fi.fn.io = false := h3
          obtain ⟨o1, o2⟩ := ok_start (fa := fa.to E) (N := fi.N) (fn := fi.fn) (al.tabs tbs) al.sub' ((r.mono sF).append (.cons rp .nil)) (by rw [List.length_append, List.length_take]; rw [h3'] at hnp ⊢; simp only [ioN] at hnp ⊢; simp; omega) h4 W.ns
          exact body_D (ws := ws ++ rest) al hfp h3 o1 (fun q => ⟨fun z => (o2 _ _ q z).elim, fun m => by cases m⟩) (fun x z => by cases z) h6 hq'
        | @io u x _ wt _ r1 r2 =>
          have h3' : fi.fn.io = true := h3
          have r1' : RepO K fa (upd F p (.tup rest)) (upd H p (.tup rest)) u x fp := r1.keep sF (fun a m => by
            obtain ⟨_, o, e⟩ := r1.there a m
            rw [upd_ne (ne_of_none e hp)]) fun a m => by
            obtain ⟨f0, o, e⟩ := r1.there a m
            rw [upd_ne (ne_of_none e hp)]; exact f0
          obtain ⟨o1, o2, o3, o4⟩ := ok_startIo (fa := fa.to E) (N := fi.N) (fn := fi.fn) (al.tabs tbs) al.sub' r1' ((r2.mono sF).append (.cons rp .nil)) (by rw [List.length_append, List.length_take]; rw [h3'] at hnp ⊢; simp only [ioN] at hnp ⊢; simp; omega) h4 W.ns
          exact body_D (ws := (u :: wt) ++ rest) al hfp h3 o1 o2 (fun y z => by cases z; exact ⟨o3, u, wt ++ rest, rfl, o4⟩) h6 hq'
    · cases h5
/-- .. with its keyword-only parameter given -/
theorem fn_bodyK {fi : FI} {A : Around} {outer : List Env} {s : Shared} {F H : Hp} {us : List Value} {wp : Value} {vs : List V} {vp : V} {ds : List D} {dp : D} {n : Nat} {x : Str} {Q : VK} {E : XK} {j : Nat} {z : Except Xc R} (W : FW fi) (L : FK K (fa.f f) fi) (hfn : fns.lookup f = some fi.fn) (hr : Room (4 * (j + 1)) A) (e0 : Env0 P w K mg base A outer s H)
    (hx : fi.fn.kd = .gv x) (hnp : fi.fn.np = n + 2) (tbs : Tb fa.tb F H) (sub : SL F H) (r : RepL K fa F vs ds) (rp : Rep K fa F vp dp) (rv : Vals vs us) (rw' : RelV vp wp) (hle : n ≤ ds.length) (hc : (callF fns (j + 1)).k f (ds.take n ++ dp :: ds.drop n) = some z) (q : ∀ F' H' , CSt K fa fa.tb F H [] [] F' H' none [] → CEnd K fa H [] F' H' [] Q E z)
    (B : ∀ (oc : Value) (od : Option Addr) (kV doc pm : Value) (an : Option Addr) (cdv ct : Value) (osl : Array (Option Value)), K.lookup (fa.f f) = some ⟨oc, od, .func (PySem.W.fnOf fi.name fi.qual (defArgs fi.st) (defBody fi.st) (defScope fi.st) .none kV doc pm an cdv ct), osl⟩ → ∀ (s2 : Shared) (H2 : Hp), Room (4 * j + 3) (A.deeper (PyProof.Rows.envOfC fi.qual (defScope fi.st) s2.heap.objs.size (fa.f f) cdv)) → PSs (cxOf (L2.CX P w) P w K mg base fi.N fi.qual (defScope fi.st) (fa.f f) cdv A outer s2 H2 E) (defBody fi.st) (tS K (fa.to E) (eSs (callF fns j) fi.fn.body))) :
    codeAny (model P w) A (.call (.ref (fa.f f)) ⟨us, [(x, wp)]⟩) (CR (L2.CX P w) outer P w H s Q E) s := by
  obtain ⟨oc, od, kV, doc, pm, an, cdv, ct, osl, lk, hcd, hkd⟩ := L.ex
  have hB := W.bd
  rw [hx] at hB
  obtain ⟨ps0, pk, pv, hps, hB⟩ := (show BindK fi from hB)
  rw [hx] at hB
  obtain ⟨rfl, hB⟩ := hB
  have hn : n = ps0.length := by have := W.np; rw [hps, hnp] at this; simpa using this
  subst hn
  simp only [callF, hfn, hx] at hc
  split at hc
  · rename_i hcc
    obtain ⟨c1, c2, c3, c4, c5, c6⟩ := hcc
    obtain ⟨⟨o, out⟩, h6, rfl⟩ := Option.map_eq_some_iff.mp hc
    have h1 : fi.fn.np - 1 = ps0.length + 1 := by omega
    have lt : (ds.take ps0.length).length = ps0.length := by rw [List.length_take]; omega
    have t1 : (ds.take ps0.length ++ dp :: ds.drop ps0.length).take (ps0.length + 1) = ds.take ps0.length ++ [dp] := by
      rw [← List.singleton_append, ← List.append_assoc, List.take_left' (by rw [List.length_append, lt]; rfl)]
    have t2 : (ds.take ps0.length ++ dp :: ds.drop ps0.length).drop (ps0.length + 1) = ds.drop ps0.length := by
      rw [← List.singleton_append, ← List.append_assoc, List.drop_left' (by rw [List.length_append, lt]; rfl)]
    rw [h1, t1, t2] at h6
    have hvl : vs.length = ds.length := r.length
    have lw : (vs.take ps0.length).length = ps0.length := by rw [List.length_take]; omega
    have vsp : vs = vs.take ps0.length ++ vs.drop ps0.length := (List.take_append_drop _ _).symm
    rw [vsp] at rv
    obtain ⟨u1, u2, rfl, rv1, rv2⟩ := StX.vals_split rv
    have lu : u1.length = ps0.length := by rw [← rv1.length]; exact lw
    refine fn_vaN (ws := vs.take ps0.length ++ [vp]) (rest := vs.drop ps0.length) (u1 := u1 ++ [wp]) (u2 := u2) (dw := ds.take ps0.length ++ [dp]) (dr := ds.drop ps0.length) (ps1 := ps0 ++ [x]) (pv := pv) W lk hcd (by rw [hps]; simp) c1 c6 hr e0 tbs sub ((r.take _).append (.cons rp .nil)) (r.drop _) (rv1.append (.cons rw' .nil)) rv2 (by simp [lw]) ?_ ?_ h6 ?_ (fun s2 H2 hr' => B _ _ _ _ _ _ cdv _ _ lk s2 H2 hr')
    · rw [List.length_drop, hvl]
      refine Nat.le_trans (Nat.sub_le _ _) (le_line (Nat.le_trans ?_ c5))
      rw [List.length_append, List.length_cons, List.length_drop, lt]; omega
    · intro A' Ex Q' hw
      rw [hB kV doc pm an cdv ct wp u1 u2 lu]
      have zz : (ps0 ++ [x]).zip (u1 ++ [wp]) = ps0.zip u1 ++ [(x, wp)] := by rw [List.zip_append lu.symm]; rfl
      simp only [zz, List.append_assoc, List.singleton_append] at hw ⊢
      exact hw
    · intro F' H' fp' cs
      have ho := bodyF_out c1 h6
      subst ho
      have hf : fp' = [] := cs.out
      subst hf
      exact q F' H' ⟨cs.sub, cs.sub', cs.keep, cs.stay, rfl, cs.new, cs.tabs⟩
  · cases hc
end
end DI

namespace DI
open PySem L2

/-! ### what the syntax itself tells -/
def isStar : Expr → Bool
  | .Starred .. => true
  | _ => false
def isSlice : Expr → Bool
  | .Slice .. => true
  | _ => false
def isComp : Expr → Bool
  | .ListComp .. => true
  | .SetComp .. => true
  | .DictComp .. => true
  | _ => false
def plainTest : Expr → Bool
  | .UnaryOp .Not _ _ => false
  | .BoolOp .. => false
  | .IfExp .. => false
  | .Compare .. => false
  | _ => true
def isSet : Expr → Bool
  | .Set .. => true
  | _ => false
def plainBase : Expr → Bool
  | .Call (.Name x _) [] [] _ => x != ("super" : Str)
  | .Call _ [] [] _ => false
  | _ => true
theorem star_of {e : Expr} {es : List Expr} {env : Env} (h : isStar e = false) : starEach (e :: es) env = (false, eval e env) :: starEach es env := by
  cases e <;> first | rfl | cases h
theorem noStars {pos : Pos} {env : Env} : ∀ {es : List Expr}, es.all (fun e => !isStar e) = true → (backTo pos (starEach es env)).any (·.1) = false
  | [], _ => rfl
  | e :: es, h => by
    rw [List.all_cons, Bool.and_eq_true] at h
    rw [star_of (by simpa using h.1)]
    have := noStars (pos := pos) (env := env) h.2
    show (false || (backTo pos (starEach es env)).any (·.1)) = false
    rw [this]; rfl
theorem noStarsAll {pos : Pos} {env : Env} : ∀ {es : List Expr}, es.all (fun e => !isStar e) = true → (backTo pos (starEach es env)).all (fun x => !x.1) = true
  | [], _ => rfl
  | e :: es, h => by
    rw [List.all_cons, Bool.and_eq_true] at h
    rw [star_of (by simpa using h.1)]
    have := noStarsAll (pos := pos) (env := env) h.2
    show (!false && (backTo pos (starEach es env)).all (fun x => !x.1)) = true
    rw [this]; rfl
theorem plainIx_of {b : Expr} (h : isSlice b = false) : PlainIx b := by
  intro o i
  cases b <;> first | rfl | cases h
theorem test_of {a : Expr} {env : Env} (h : plainTest a = true) : ∀ whole, isTrue a env whole = (do let v ← whole; standAt a.pos; holding [v] (truthy v)) := by
  intro whole
  cases a with
  | UnaryOp op _ _ => cases op <;> first | rfl | cases h
  | BoolOp _ _ _ => cases h
  | IfExp _ _ _ _ => cases h
  | Compare _ _ _ _ => cases h
  | _ => rfl
theorem set_of {e : Expr} {env : Env} (h : isSet e = false) : ∀ x, foldedSetIterable e env x = pure x := by
  intro x
  cases e <;> first | rfl | cases h
theorem swap_of {a : Expr} {t : Option Expr} {l : Nat} {env : Env} (h : isComp a = false) : swapsWith a t l env = pure false := by
  cases a <;> first | rfl | cases h
theorem base_of {o : Expr} {attr : Str} {env : Env} {w : Sem Value} (h : plainBase o = true) : attributeBase o attr env w = w := by
  unfold plainBase at h
  split at h
  · exact abase_call h
  · cases h
  · rename_i n1 n2
    cases o with
    | Call f as ks p =>
      cases as with
      | nil =>
        cases ks with
        | nil => cases f <;> first | exact (n1 _ _ _ rfl).elim | exact (n2 _ _ rfl).elim
        | cons k ks => cases f <;> rfl
      | cons a as => cases f <;> rfl
    | _ => rfl
theorem few_of {pos : Pos} {env : Env} {b : Expr} (h : isStar b = false) : ((backTo pos (starEach [b] env)).all (fun x => !x.1) && (backToKw pos (keywordEach [] env)).all (fun x => x.1.isSome) && decide ([b].length + ([] : List Keyword).length + (if ([] : List Keyword).isEmpty then 0 else 1) < 30)) = true := by
  rw [star_of h]; rfl

/-! ### a, b = x, y -/
def parOk (vs : List Expr) : Bool := vs.all (fun e => !isStar e) && !vs.all (foldedForSure 8) && !vs.all (constantsAlone 8)
theorem any_star {vs : List Expr} (h : vs.all (fun e => !isStar e) = true) (g : Expr → Bool) (hg : ∀ e, isStar e = false → g e = false) : vs.any g = false := by
  induction vs with
  | nil => rfl
  | cons v vs ih =>
    rw [List.all_cons, Bool.and_eq_true] at h
    rw [List.any_cons, ih h.2, hg v (by simpa using h.1)]
    rfl
theorem sw2 {env : Env} {x y : Str} {px py pt : Pos} {kt k2 : Nat} {pt2 : Pos} {a b : Expr} (hk : env.scope.kind = .function) (hx : env.scope.names.lookup x = some .local) (hy : env.scope.names.lookup y = some .local) (hl : (py.line == px.line) = true) (hxy : (x == y) = false) (hp : parOk [a, b] = true) :
    swappedStores [.Tuple [.Name x px, .Name y py] kt pt] (.Tuple [a, b] k2 pt2) env = pure (some [x, y]) := by
  unfold parOk at hp
  simp only [Bool.and_eq_true, Bool.not_eq_true'] at hp
  obtain ⟨⟨h1, h2⟩, h3⟩ := hp
  have kx : env.kindOf x = some .local := hx
  have ky : env.kindOf y = some .local := hy
  have hb : env.blockKind = .function := by unfold Env.blockKind; rw [hk]; rfl
  have hyx : (y == x) = false := by
    rw [beq_eq_false_iff_ne] at hxy ⊢
    exact fun e => hxy e.symm
  unfold swappedStores
  simp only [hb, kx, ky, hl, Expr.pos, List.filterMap_cons, List.filterMap_nil, List.head?_cons, Option.map_some, Option.getD_some, beq_self_eq_true, Bool.and_self, if_true, List.length_cons, List.length_nil, h2, h3, List.eraseDups_cons, List.filter_cons, hyx, hxy, Bool.not_false, List.filter_nil, List.eraseDups_nil]
  rw [if_neg (by decide), any_star h1 _ (by intro e he; cases e <;> first | rfl | cases he)]
  rfl
theorem sw3 {env : Env} {x y z : Str} {px py pz pt : Pos} {kt k2 : Nat} {pt2 : Pos} {a b c : Expr} (hk : env.scope.kind = .function) (hx : env.scope.names.lookup x = some .local) (hy : env.scope.names.lookup y = some .local) (hz : env.scope.names.lookup z = some .local) (hl : (py.line == px.line) = true) (hl2 : (pz.line == px.line) = true)
    (hxy : (x == y) = false) (hxz : (x == z) = false) (hyz : (y == z) = false) (hp : parOk [a, b, c] = true) :
    swappedStores [.Tuple [.Name x px, .Name y py, .Name z pz] kt pt] (.Tuple [a, b, c] k2 pt2) env = pure (some [x, y, z]) := by
  unfold parOk at hp
  simp only [Bool.and_eq_true, Bool.not_eq_true'] at hp
  obtain ⟨⟨h1, h2⟩, h3⟩ := hp
  have kx : env.kindOf x = some .local := hx
  have ky : env.kindOf y = some .local := hy
  have kz : env.kindOf z = some .local := hz
  have hb : env.blockKind = .function := by unfold Env.blockKind; rw [hk]; rfl
  have flip : ∀ {u v : Str}, (u == v) = false → (v == u) = false := fun {u v} h => by
    rw [beq_eq_false_iff_ne] at h ⊢
    exact fun e => h e.symm
  have hyx := flip hxy
  have hzx := flip hxz
  have hzy := flip hyz
  unfold swappedStores
  simp only [hb, kx, ky, kz, hl, hl2, Expr.pos, List.filterMap_cons, List.filterMap_nil, List.head?_cons, Option.map_some, Option.getD_some, beq_self_eq_true, Bool.and_self, if_true, List.length_cons, List.length_nil, h2, h3, List.eraseDups_cons, List.filter_cons, hyx, hxy, hzx, hxz, hzy, hyz, Bool.not_false, List.filter_nil, List.eraseDups_nil]
  rw [if_neg (by decide), any_star h1 _ (by intro e he; cases e <;> first | rfl | cases he)]
  rfl

/-! ### calls of methods -/
theorem ht_of {a : Expr} {m : Str} {apos pos : Pos} {args : List Expr} {env : Env} (hb : plainBase a = true) (hs : args.all (fun e => !isStar e) = true) (hn : args.length < 30) (hl : (apos.endLine == pos.line) = true) :
    eval (.Call (.Attribute a m apos) args [] pos) env = (do
      let ov ← eval a env
      standAt apos.atName
      let (f, first) ← holding [ov] (getMethod ov m (do return (← importBound a env).getD true))
      callWith pos f first (backTo pos (starEach args env)) (backToKw pos (keywordEach [] env))) := by
  show (do
    let ov ← attributeBase a m env (eval a env)
    standAt apos.atName
    methodCall a m apos pos env ov (args.length + 0) (backTo pos (starEach args env)) (backToKw pos (keywordEach [] env))) = _
  rw [base_of hb]
  have hf : methodCallForm (args.length + 0) (backTo pos (starEach args env)) (backToKw pos (keywordEach [] env)) = true := by
    unfold methodCallForm
    rw [noStarsAll hs]
    show (true && true && decide (args.length + 0 + 0 < 30)) = true
    simpa using hn
  unfold methodCall
  rw [hf]
  unfold calleeOf methodCallPos
  rw [hl]
  rfl

/-! ### comprehensions -/
section
variable {X : Cx} {fa : Fa} {cf : CF} {pos : Pos}
theorem s_lc {elt tgx iter : Expr} {ifs : List Expr} {scope : Scope} {own : List (Str × Nat)} {tg : Tg} {it : It} {c : T} {e : I} (hc : X.calm = true) (hN : X.N.Nodup) (hi : PIt' X fa cf tgx iter it) (ok : BlkOk X.N X.env.scope scope own) (ho : own.map (·.2) = tg.slots)
    (hg : ∀ (s' : Shared) (H : Hp) (C : Addr) (cl : List (Str × Addr)) (fp : List Addr), PG (X.blk s' H scope (compEnvC scope cl C X.env) fp) tgx (gT X.K tg)) (ht : ∀ (s : Shared) (H : Hp) (C : Addr) (cl : List (Str × Addr)) (fp : List Addr), PTs (X.blk s H scope (compEnvC scope cl C X.env) fp) ifs (tB X.K fa.nox (eT cf c)))
    (he : ∀ (s : Shared) (H : Hp) (C : Addr) (cl : List (Str × Addr)) (fp : List Addr), PE (X.blk s H scope (compEnvC scope cl C X.env) fp) elt (tI X.K fa.nox (eI cf e))) (hs : ∀ x, foldedSetIterable iter X.env x = pure x) :
    PI' X fa cf (.ListComp elt [⟨tgx, iter, ifs, 0⟩] scope pos) (.lc tg it c e) :=
  pe_weak (pe_lc (own := own) hc hN hi ok hg ht he hs) fun σ H Q q => by
    rw [ho]
    exact lc_D q
theorem b_setLc {elt tgx iter : Expr} {y : Str} {py spos : Pos} {ifs : List Expr} {scope : Scope} {own : List (Str × Nat)} {tg : Tg} {j : Nat} {it : It} {c : T} {e : I} (hc : X.calm = true) (hN : X.N.Nodup) (hy : X.N[j]? = some y) (hyl : X.env.scope.names.lookup y = some .local)
    (hsw : swapsWith (.ListComp elt [⟨tgx, iter, ifs, 0⟩] scope pos) (some (.Name y py)) spos.line X.env = pure true) (hi : PIt' X fa cf tgx iter it) (ok : BlkOk X.N X.env.scope scope own) (ho : own.map (·.2) = tg.slots)
    (hg : ∀ (s' : Shared) (H : Hp) (C : Addr) (cl : List (Str × Addr)) (fp : List Addr), PG (X.blk s' H scope (compEnvC scope cl C X.env) fp) tgx (gT X.K tg)) (ht : ∀ (s : Shared) (H : Hp) (C : Addr) (cl : List (Str × Addr)) (fp : List Addr), PTs (X.blk s H scope (compEnvC scope cl C X.env) fp) ifs (tB X.K fa.nox (eT cf c)))
    (he : ∀ (s : Shared) (H : Hp) (C : Addr) (cl : List (Str × Addr)) (fp : List Addr), PE (X.blk s H scope (compEnvC scope cl C X.env) fp) elt (tI X.K fa.nox (eI cf e))) (hs : ∀ x, foldedSetIterable iter X.env x = pure x) :
    PS' X fa cf (.Assign [.Name y py] (.ListComp elt [⟨tgx, iter, ifs, 0⟩] scope pos) spos) (.set j (.lc tg it c e)) :=
  ps_weak (ps_setLc (own := own) hc hN hy hyl hsw hi ok hg ht he hs) fun D σ H q => by
    have q' := set_D q
    rw [ho]
    exact lc_D q'
end

/-! ### dict displays -/
def flat2 : List (V × V) → List V
  | [] => []
  | (a, b) :: r => a :: b :: flat2 r
section
variable {X : Cx} {fa : Fa} {cf : CF} {pos : Pos}
def PPs' (X : Cx) (fa : Fa) (cf : CF) (pos : Pos) (ks : List (Option Expr)) (vs : List Expr) (is : Is) : Prop :=
  ∃ trs, PPs X pos ks vs trs ∧ ∀ σ H Q, tVs X.K fa (eIs cf is) σ H (fun ws H' => ∃ ps, ws = flat2 ps ∧ Q ps H') → tPairs trs σ H Q
theorem d_nil : PPs' X fa cf pos [] [] .nil := ⟨[], pps_nil, fun σ H Q h => by
  rw [eIs_nil] at h
  obtain ⟨ps, e, q⟩ := tNil_D h
  cases ps with
  | nil => exact q
  | cons p r => cases e⟩
theorem d_cons {k v : Expr} {ks : List (Option Expr)} {vs : List Expr} {ik iv : I} {is : Is} (hk : PI' X fa cf k ik) (hv : PI' X fa cf v iv) (hr : PPs' X fa cf pos ks vs is) :
    PPs' X fa cf pos (some k :: ks) (v :: vs) (.cons ik (.cons iv is)) := by
  obtain ⟨trs, h1, h2⟩ := hr
  refine ⟨_, pps_cons (pe_asV hk) (pe_asV hv) h1, fun σ H Q h => ?_⟩
  rw [eIs_cons, eIs_cons] at h
  refine tV_mono (tCons_D h) fun x H1 q => tV_mono (tCons_D q) fun y H2 q2 => h2 _ _ _ (tVs_mono q2 fun ws H3 ⟨ps, e, z⟩ => ?_)
  cases ps with
  | nil => cases e
  | cons p r =>
    obtain ⟨a, b⟩ := p
    simp only [flat2, List.cons.injEq] at e
    obtain ⟨rfl, rfl, e⟩ := e
    exact ⟨r, e, z⟩
theorem pair_rep {K : PySem.W.Frag} {F : Hp} : ∀ (n : Nat) {ds : List D} {vs : List V} {kvs : List (Key × D)}, ds.length ≤ n → pairUp ds = some kvs → RepL K fa F vs ds →
    ∃ kws : List (Key × V), vs = flat2 (kws.map fun kv => (kV kv.1, kv.2)) ∧ kws.map (·.1) = kvs.map (·.1) ∧ RepK K fa F kws (kvs.map fun p => (keyD p.1, p.2))
  | n, [], _, _, _, e, .nil => by cases e; exact ⟨[], rfl, rfl, .nil⟩
  | n, [d], _, _, _, e, _ => by cases d <;> cases e
  | 0, _ :: _ :: _, _, _, h, _, _ => by simp at h
  | n + 1, d :: v :: r, _, kvs, h, e, .cons r1 (.cons r2 rr) => by
    cases d with
    | int i =>
      simp only [pairUp] at e
      obtain ⟨l, e1, e2⟩ := Option.map_eq_some_iff.mp e
      subst e2
      obtain ⟨kws, h1, h2, h3⟩ := pair_rep n (by simp at h; omega) e1 rr
      subst h1
      cases r1
      exact ⟨(.inl i, _) :: kws, rfl, by simp [h2], .cons r2 h3⟩
    | str cs =>
      simp only [pairUp] at e
      obtain ⟨l, e1, e2⟩ := Option.map_eq_some_iff.mp e
      subst e2
      obtain ⟨kws, h1, h2, h3⟩ := pair_rep n (by simp at h; omega) e1 rr
      subst h1
      cases r1
      exact ⟨(.inr (sOf cs), _) :: kws, rfl, by simp [h2], .cons r2 h3⟩
    | _ => cases e
theorem valV_none {k : Key} : ∀ {kvs : List (Key × V)}, k ∉ kvs.map (·.1) → valV kvs k = none
  | [], _ => rfl
  | p :: r, h => by
    simp only [List.map_cons, List.mem_cons, not_or] at h
    rw [valV_neg (Ne.symm h.1)]
    exact valV_none h.2
theorem mergeK_nodup : ∀ (more kvs : List (Key × V)), ((kvs ++ more).map (·.1)).Nodup → mergeK kvs more = kvs ++ more
  | [], kvs, _ => by simp [mergeK]
  | p :: r, kvs, h => by
    have h1 : p.1 ∉ kvs.map (·.1) := fun q => by
      rw [List.map_append, List.nodup_append] at h
      exact h.2.2 _ q _ (by simp) rfl
    show mergeK (putK kvs p.1 p.2) r = _
    rw [putK_new p.2 (valV_none h1), mergeK_nodup r _ (by simpa using h)]
    simp
theorem repK_cons {K : PySem.W.Frag} {fa : Nat → Addr} {F : Hp} {k : Key} {v : V} {vs : List (Key × V)} {e : DI.D × DI.D} {es : List (DI.D × DI.D)} (r : RepK K fa F ((k, v) :: vs) (e :: es)) : Rep K fa F v e.2 ∧ RepK K fa F vs es := by
  generalize h1 : e :: es = l at r
  cases r with
  | cons a b =>
    cases h1
    exact ⟨a, b⟩
theorem repK_ok {K : PySem.W.Frag} {fa : Nat → Addr} {F H : Hp} : ∀ {kws : List (Key × V)} {ds : List (DI.D × DI.D)}, RepK K fa F kws ds → ∀ kvs : List (Key × DI.D), kws.map (·.1) = kvs.map (·.1) → ds = kvs.map (fun p => (keyD p.1, p.2)) → RepOk K fa F H kws (kvs.map fun p => (p.1, .fz p.2)) []
  | [], _, _, [], _, _ => .nil
  | [], _, _, _ :: _, e, _ => by cases e
  | _ :: _, _, _, [], e, _ => by cases e
  | (k, v) :: l, ds, r, (k', d) :: m, e, ed => by
    simp only [List.map_cons, List.cons.injEq] at e
    obtain ⟨rfl, e⟩ := e
    subst ed
    rw [List.map_cons] at r
    obtain ⟨r1, r2⟩ := repK_cons r
    exact .cons (fp := []) (fq := []) (.fz r1) (repK_ok r2 m e rfl) fun _ m => by cases m
/-- one thing, then the rest, with what it came from -/
theorem AtB.bndE {α β γ δ : Type} {K : PySem.W.Frag} {fa : Fa} {F0 H0 F H : Hp} {σ : L2.St} {env0 env : Ev} {Rl : RlT α β} {m : Ev → Res α} {Rl2 : RlT γ δ} {g : α → Ev → Res γ} {Q : δ → Hp → Prop} {Q1 : β → Hp → Prop} (h : AtB K fa Rl2 (fun e => DI.bnd (m e) g) F0 H0 σ env0 F H env Q)
    (k : ∀ a e1 F1 H1 v, m env = some (.ok a, e1) → Step K fa F H σ env F1 H1 σ e1 → Rl F H σ env F1 H1 σ e1 v a → AtB K fa Rl2 (g a) F0 H0 σ env0 F1 H1 e1 Q → Q1 v H1) : At K fa Rl m F H σ env Q1 := by
  obtain ⟨st, o, env', e, q⟩ := h
  simp only at e
  cases hm : m env with
  | none => rw [hm] at e; cases e
  | some oe =>
    obtain ⟨o1, e1⟩ := oe
    rw [hm] at e
    cases o1 with
    | error x =>
      cases e
      exact ⟨st.ok, _, _, hm, fun F' H' cls d s2 r => q F' H' cls d (st.trans s2) r⟩
    | ok a => exact ⟨st.ok, _, _, hm, fun F1 H1 v s1 r1 => k a e1 F1 H1 v hm s1 r1 ⟨st.trans s1, o, env', e, q⟩⟩
/-! .. whose keys are tuples -/
theorem storedAll_nodup {κ : Type} [DecidableEq κ] : ∀ (ps acc : List (κ × Addr × Value)), ((acc ++ ps).map (·.1)).Nodup → storedAllH acc ps = acc ++ ps
  | [], acc, _ => by simp [storedAllH]
  | p :: r, acc, h => by
    have h1 : p.1 ∉ acc.map (·.1) := fun q => by
      rw [List.map_append, List.nodup_append] at h
      exact h.2.2 _ q _ (by simp) rfl
    have h2 : atKey acc p.1 = none := by
      unfold atKey
      rw [Option.map_eq_none_iff, List.find?_eq_none]
      intro x hx hz
      exact h1 (List.mem_map.mpr ⟨x, hx, by simpa using hz⟩)
    show storedAllH (storedH acc p.1 p.2.1 p.2.2) r = _
    rw [storedH_new h2, storedAll_nodup r _ (by simpa using h)]
    simp
def tDispT (trs : List (TE × TE)) : TE := fun σ H Q => ∀ p, H p = none → tPairs trs σ (upd H p (.dK [])) fun ps H2 => H2 p = some (.dK []) ∧ ∃ kbs : List (List Key × Addr × V), ps = kbs.map (fun e => (V.ref e.2.1, e.2.2)) ∧ (∀ e ∈ kbs, H2 e.2.1 = some (.tup (e.1.map kV))) ∧ (kbs.map (·.1)).Nodup ∧ kbs.length ≤ 15 ∧ Q (.ref p) (upd H2 p (.dT (kbs.map fun e => (e.1, e.2.2))))
theorem carriesT {P : Program} {w : World} {H : Hp} {h : Heap} (ok : HOk P w H h) : ∀ {kbs : List (List Key × Addr × V)} {ws : List (Value × Value)}, (∀ e ∈ kbs, H e.2.1 = some (.tup (e.1.map kV))) → VV (kbs.map fun e => (V.ref e.2.1, e.2.2)) ws →
    ∃ ps : List (List Key × Addr × Value), CarriesH (tupleKind (mixKind P w)) h ws ps ∧ Paired (fun (p : List Key × Addr × V) (q : List Key × Addr × Value) => p.1 = q.1 ∧ p.2.1 = q.2.1 ∧ RelV p.2.2 q.2.2) kbs ps
  | [], _, _, r => by rw [List.map_nil] at r; cases r; exact ⟨[], True.intro, .nil⟩
  | e :: kbs, _, hk, r => by
    rw [List.map_cons] at r
    cases r with
    | @cons a b as bs h1 t =>
      obtain ⟨ps, c, q⟩ := carriesT ok (fun x hx => hk x (List.mem_cons_of_mem _ hx)) t
      obtain ⟨b1, b2⟩ := b
      have eb : b1 = Value.ref e.2.1 := h1.1
      exact ⟨(e.1, e.2.1, b2) :: ps, ⟨eb, rfl, L2.key_of ok (hk e List.mem_cons_self), c⟩, .cons ⟨rfl, rfl, h1.2⟩ q⟩
theorem pe_dispT {X : Cx} {pos : Pos} {keys : List (Option Expr)} {values : List Expr} {trs : List (TE × TE)} (hu : X.A.units + 64 < cLine) (h : PPs X pos keys values trs) (hall : keys.all (·.isSome) = true) (hl : keys.length = values.length) (h0 : keys ≠ [])
    (h15 : keys.length ≤ 15) : PE X (.Dict keys values pos) (tDispT trs) := by
  refine ⟨fun pins s σ H Q I q => ?_⟩
  have hn := I.hok.fresh (Nat.le_refl s.heap.objs.size)
  have I1 := I.laid (a := s.heap.objs.size) (o := .dK []) (h' := s.heap.push { cls := .type "dict", data := .dict #[] }) (t' := s.toks) (fun _ _ q => Heap.get?_push_of_some _ q) (Nat.le_refl _) (dk_empty s.heap I.big)
  have hlen := pairTrees_length keys values X.env pos hall hl
  have hne : pairTrees keys values X.env pos ≠ [] := fun he => by
    rw [he] at hlen
    exact h0 (List.length_eq_zero_iff.mp hlen.symm)
  rw [arm_eval_Dict, zip_pairTrees keys values X.env pos hall hl, dictDisplay_pairs _ hne (by rw [hlen]; omega)]
  refine wpAny_bind (wpAny_standAt (wpAny_bind (wpAny_subDictH (knd := tupleKind (mixKind X.prog X.w)) (Q := fun d s' => wpAny (model X.prog X.w) X.A (pure (Value.ref d)) (EP X pins σ Q) X.xe s') (show X.A.units < cLine by omega) (by rw [hlen]; exact h15)
    (thn (h.run pins _ σ _ _ I1 (q _ hn)) fun ws s2 ⟨ps, H2, I2, rel, e, kbs, ep, hk, nd, lk, q2⟩ => ?_))))
  subst ep
  obtain ⟨rs, c, rk⟩ := carriesT I2.hok hk rel
  obtain ⟨hd, dd⟩ := nil_dt I2.hok (Rd.of e)
  refine ⟨rs, c, dd, fun h' tk dd' hs => wpAny_pure ⟨.ref s.heap.objs.size, _, ?_, rfl, q2⟩⟩
  have hkeys : ∀ {kbs : List (List Key × Addr × V)} {rs : List (List Key × Addr × Value)}, Paired (fun (p : List Key × Addr × V) (q : List Key × Addr × Value) => p.1 = q.1 ∧ p.2.1 = q.2.1 ∧ RelV p.2.2 q.2.2) kbs rs → kbs.map (·.1) = rs.map (·.1) := by
    intro kbs rs r
    induction r with
    | nil => rfl
    | cons h t ih => rw [List.map_cons, List.map_cons, ih, h.1]
  rw [storedAll_nodup rs [] (by rw [List.nil_append, ← hkeys rk]; exact nd), List.nil_append] at dd'
  obtain ⟨o, es, ep, d1, d2, d3, d4, d5, d6⟩ := dd'
  refine d_write I2 (by rw [e]; exact True.intro) hs ⟨o, d1⟩ ?_
  refine ⟨by rw [List.length_map, sizeLine_eq]; omega, hd, rs, ?_, o, es, ep, d1, d2, d3, d4, d6⟩
  have go : ∀ {kbs : List (List Key × Addr × V)} {rs : List (List Key × Addr × Value)} {vs : List (List Key × V)}, (∀ e ∈ kbs, H2 e.2.1 = some (.tup (e.1.map kV))) → Paired (fun (p : List Key × Addr × V) (q : List Key × Addr × Value) => p.1 = q.1 ∧ p.2.1 = q.2.1 ∧ RelV p.2.2 q.2.2) kbs rs →
      Paired (fun (p : List Key × V) (q : List Key × Addr × Value) => p.1 = q.1 ∧ upd H2 s.heap.objs.size (.dT vs) q.2.1 = some (.tup (p.1.map kV)) ∧ RelV p.2 q.2.2) (kbs.map fun e => (e.1, e.2.2)) rs := by
    intro kbs rs vs hk r
    induction r with
    | nil => exact .nil
    | @cons p q ps qs h t ih =>
      refine .cons ⟨h.1, ?_, h.2.2⟩ (ih fun x hx => hk x (List.mem_cons_of_mem _ hx))
      have e2 := hk p List.mem_cons_self
      rw [← h.2.1, upd_ne (fun z => by rw [z, e] at e2; cases e2)]
      exact e2
  exact go hk rk
theorem pe_or {X : Cx} {e : Expr} {t t' : TE} (h : PE X e t) (h' : PE X e t') : PE X e (fun σ H Q => t σ H Q ∨ t' σ H Q) := ⟨fun pins s σ H Q I q => by
  rcases q with q | q
  · exact h.run pins s σ H Q I q
  · exact h'.run pins s σ H Q I q⟩
theorem pairT_rep {K : PySem.W.Frag} {fa : Nat → Addr} {F : Hp} : ∀ (n : Nat) {ds : List D} {vs : List V} {kvs : List (List Key × D)}, ds.length ≤ n → pairUpT ds = some kvs → RepL K fa F vs ds →
    ∃ kbs : List (List Key × Addr × V), vs = flat2 (kbs.map fun e => (V.ref e.2.1, e.2.2)) ∧ kbs.map (·.1) = kvs.map (·.1) ∧ (∀ e ∈ kbs, F e.2.1 = some (.tup (e.1.map kV))) ∧ RepOt K fa F F (kbs.map fun e => (e.1, e.2.2)) (kvs.map fun p => (p.1, .fz p.2)) []
  | n, [], _, _, _, e, .nil => by cases e; exact ⟨[], rfl, rfl, (fun _ m => by cases m), .nil⟩
  | n, [d], _, _, _, e, _ => by cases d <;> cases e
  | 0, _ :: _ :: _, _, _, h, _, _ => by simp at h
  | n + 1, d :: v :: r, _, kvs, h, e, .cons r1 (.cons r2 rr) => by
    cases d with
    | tup xs =>
      simp only [pairUpT] at e
      cases hx : keysOf xs with
      | none => rw [hx] at e; cases e
      | some ks =>
      rw [hx] at e
      obtain ⟨l, e1, e2⟩ := Option.map_eq_some_iff.mp e
      subst e2
      obtain ⟨kbs, h1, h2, h3, h4⟩ := pairT_rep n (by simp at h; omega) e1 rr
      subst h1
      obtain ⟨b, ys, rfl, g1, g2⟩ := Rep.tup_at r1
      rw [keysOf_eq hx] at g2
      rw [g2.keys_of] at g1
      refine ⟨(ks, b, _) :: kbs, rfl, by simp [h2], fun e m => ?_, .cons (fp := []) (fq := []) (.fz r2) h4 fun _ m => by cases m⟩
      rcases List.mem_cons.mp m with rfl | m
      · exact g1
      · exact h3 e m
    | _ => cases e
theorem RepOt.fzH {K : PySem.W.Frag} {fa : Nat → Addr} {F H G : Hp} {vs : List (List Key × V)} {xs : List (List Key × Ho)} (r : RepOt K fa F H vs xs []) : RepOt K fa F G vs xs [] := r.keep (Same.refl _) (fun _ m => by cases m) fun _ m => by cases m
theorem pairUpT_ne {ds : List D} {kvs : List (List Key × D)} (h1 : pairUp ds = none) (h2 : pairUpT ds = some kvs) : kvs ≠ [] := fun e => by
  subst e
  match ds with
  | [] => cases h1
  | [d] => cases d <;> cases h2
  | d :: v :: r =>
    cases d with
    | tup xs =>
      simp only [pairUpT] at h2
      split at h2
      · obtain ⟨l, _, e2⟩ := Option.map_eq_some_iff.mp h2
        cases e2
      · cases h2
    | _ => cases h2
theorem s_dict {ks : List (Option Expr)} {vs : List Expr} {is : Is} (hu : X.A.units + 64 < cLine) (hp : PPs' X fa cf pos ks vs is) (hall : ks.all (·.isSome) = true) (hl : ks.length = vs.length) (h0 : ks ≠ []) (h15 : ks.length ≤ 15) :
    PI' X fa cf (.Dict ks vs pos) (.op .dict is) := by
  obtain ⟨trs, h1, h2⟩ := hp
  refine pe_weak (pe_or (pe_disp h1 hall hl h0 h15) (pe_dispT hu h1 hall hl h0 h15)) fun σ H Q ⟨F, env, h⟩ => ?_
  rw [eI_op] at h
  have key : ∀ p, H p = none → F p = none ∧ ¬ Own X.K fa F H σ env p ∧ ∃ hb : AtB X.K fa (RRep X.K fa) (opF .dict (eIs cf is)) F H σ env F (upd H p (.dK [])) env Q, ∀ q, Own X.K fa F (upd H p (.dK [])) σ env q → Own X.K fa F H σ env q := fun p hp => by
    have hF := sub_none h.ok.sub hp
    have nown : ¬ Own X.K fa F H σ env p := fun hq => by
      obtain ⟨_, o, z⟩ := h.ok.own_at hq
      rw [hp] at z; cases z
    obtain ⟨s0, b0⟩ := (Step.refl h.ok).temp (o := .dK []) (.inr hp) hF nown (tabs_new h.ok.tabs hp)
    exact ⟨hF, nown, ⟨s0, h.2⟩, b0⟩
  have fin : ∀ p F1 H1 e1, H p = none → F p = none → ¬ Own X.K fa F H σ env p → (∀ q, Own X.K fa F (upd H p (.dK [])) σ env q → Own X.K fa F H σ env q) → Step X.K fa F (upd H p (.dK [])) σ env F1 H1 σ e1 →
      H1 p = some (.dK []) ∧ F1 p = none ∧ ¬ Own X.K fa F1 H1 σ e1 p := fun p F1 H1 e1 hp hF nown b0 s1 => by
    have n1 : ¬ Own X.K fa F (upd H p (.dK [])) σ env p := fun q => nown (b0 p q)
    refine ⟨(s1.keep p _ upd_same n1).n (fun _ z => by cases z) fun z => z hF, s1.stay p (by rw [upd_same]; simp) hF n1, fun q => ?_⟩
    rcases s1.own p q with z | z
    · exact n1 z
    · rw [upd_same] at z; cases z
  cases hm : eIs cf is env with
  | none => exact (h.no (by show opF .dict (eIs cf is) env = none; unfold opF; rw [hm]; rfl)).elim
  | some oe =>
  obtain ⟨o, em⟩ := oe
  cases o with
  | error x =>
    refine .inl fun p hp => ?_
    obtain ⟨hF, nown, hb, b0⟩ := key p hp
    exact h2 _ _ _ ⟨F, env, AtB.bndE (Rl := lRep X.K fa) hb fun ds e1 F1 H1 ws hz s1 r1 h1 => by rw [hm] at hz; cases hz⟩
  | ok ds =>
  cases e3 : pairUp ds with
  | some kvs =>
    refine .inl fun p hp => ?_
    obtain ⟨hF, nown, hb, b0⟩ := key p hp
    refine h2 _ _ _ ⟨F, env, AtB.bndE (Rl := lRep X.K fa) hb fun ds' e1 F1 H1 ws hz s1 r1 h1 => ?_⟩
    rw [hm] at hz
    cases hz
    by_cases hh : kvs.length ≤ 15 ∧ (kvs.map (·.1)).Nodup
    case neg => exact (h1.no (by show okR (dDict ds) em = none; simp only [dDict, e3, if_neg hh]; rfl)).elim
    have hz : okR (opD .dict ds) em = some (.ok (.new (.dc (kvs.map fun p => (p.1, .fz p.2)))), em) := by
      show okR (dDict ds) em = _
      simp only [dDict, e3, if_pos hh]; rfl
    obtain ⟨hH1, hF1, n2⟩ := fin p F1 H1 em hp hF nown b0 s1
    obtain ⟨kws, g1, g2, g3⟩ := pair_rep ds.length (Nat.le_refl _) e3 r1
    have lk : kws.length ≤ 15 := by have := congrArg List.length g2; simp at this; omega
    refine ⟨_, g1, hH1, kws, rfl, lk, ?_⟩
    rw [mergeK_nodup kws [] (by simpa [g2] using hh.2)]
    obtain ⟨s3, b3⟩ := h1.1.temp (p := p) (o := .dK kws) (.inr hp) hF1 n2 (tabs_dk h1.1.ok.tabs hH1)
    have r9 : RepO X.K fa F1 (upd H1 p (.dK kws)) (.ref p) (.dc (kvs.map fun p => (p.1, .fz p.2))) [p] := .dc upd_same hF1 (by rw [g2]; exact hh.2) (repK_ok g3 kvs g2 rfl) List.not_mem_nil
    exact h1.ret (a := .new _) hz s3 ⟨[p], r9, fun q m => .inr (by rw [List.mem_singleton] at m; rw [m]; exact hp), fun q m => by rw [List.mem_singleton] at m; rw [m]; exact fun z => n2 (b3 p z)⟩
  | none =>
    refine .inr fun p hp => ?_
    obtain ⟨hF, nown, hb, b0⟩ := key p hp
    refine h2 _ _ _ ⟨F, env, AtB.bndE (Rl := lRep X.K fa) hb fun ds' e1 F1 H1 ws hz s1 r1 h1 => ?_⟩
    rw [hm] at hz
    cases hz
    cases e4 : pairUpT ds with
    | none => exact (h1.no (by show okR (dDict ds) em = none; simp only [dDict, e3, e4]; rfl)).elim
    | some kvs =>
    by_cases hh : kvs.length ≤ 15 ∧ (kvs.map (·.1)).Nodup
    case neg => exact (h1.no (by show okR (dDict ds) em = none; simp only [dDict, e3, e4, if_neg hh]; rfl)).elim
    have hz : okR (opD .dict ds) em = some (.ok (.new (.dt (kvs.map fun p => (p.1, .fz p.2)))), em) := by
      show okR (dDict ds) em = _
      simp only [dDict, e3, e4, if_pos hh]; rfl
    obtain ⟨hH1, hF1, n2⟩ := fin p F1 H1 em hp hF nown b0 s1
    obtain ⟨kbs, g1, g2, g3, g4⟩ := pairT_rep ds.length (Nat.le_refl _) e4 r1
    have lk : kbs.length ≤ 15 := by have := congrArg List.length g2; simp at this; omega
    have ne := pairUpT_ne e3 e4
    refine ⟨_, g1, hH1, kbs, rfl, fun e m => h1.1.ok.sub.at (g3 e m) rfl, by rw [g2]; exact hh.2, lk, ?_⟩
    obtain ⟨s3, b3⟩ := h1.1.temp (p := p) (o := .dT (kbs.map fun e => (e.1, e.2.2))) (.inr hp) hF1 n2 (tabs_dk h1.1.ok.tabs hH1)
    have r9 : RepO X.K fa F1 (upd H1 p (.dT (kbs.map fun e => (e.1, e.2.2)))) (.ref p) (.dt (kvs.map fun p => (p.1, .fz p.2))) [p] := .dt upd_same hF1 ⟨fun z => by
      have := congrArg List.length g2
      rw [List.length_map, List.length_map] at this
      rw [List.map_eq_nil_iff] at z
      subst z
      exact ne (List.length_eq_zero_iff.mp this.symm), by rw [List.map_map]; show (kbs.map (·.1)).Nodup; rw [g2]; exact hh.2⟩ g4.fzH List.not_mem_nil
    exact h1.ret (a := .new _) hz s3 ⟨[p], r9, fun q m => .inr (by rw [List.mem_singleton] at m; rw [m]; exact hp), fun q m => by rw [List.mem_singleton] at m; rw [m]; exact fun z => n2 (b3 p z)⟩
theorem s_dict0 : PI' X fa cf (.Dict [] [] pos) (.op .dict .nil) := pe_weak pe_dnewK fun σ H Q ⟨F, env, h⟩ => by
  intro p hp
  have hF := sub_none h.ok.sub hp
  have nown : ¬ Own X.K fa F H σ env p := fun hq => by
    obtain ⟨_, o, z⟩ := h.ok.own_at hq
    rw [hp] at z; cases z
  obtain ⟨s0, b0⟩ := (Step.refl h.ok).temp (o := .dK []) (.inr hp) hF nown (tabs_new h.ok.tabs hp)
  exact h.ret (a := .new (.dc [])) rfl s0 ⟨[p], .dc upd_same hF List.nodup_nil .nil List.not_mem_nil, fun q m => .inr (by rw [List.mem_singleton] at m; rw [m]; exact hp), fun q m => by rw [List.mem_singleton] at m; rw [m]; exact fun z => nown (b0 p z)⟩
end

/-! ### a[::-1] -/
open PySem.Spec PyProof.Rows
section
variable {X : Cx} {fa : Fa} {cf : CF} {pos : Pos} {e : Expr} {k : Nat} {p1 p2 p3 : Pos}
theorem rev_cps (cs : List Nat) : (⟨((Builtin.Str.strSliceIndices none none (-1) (sOf cs).length).filterMap ((sOf cs).cps[·]?)).toArray⟩ : Str) = sOf cs.reverse := by
  have h : Builtin.Str.strSliceIndices none none (-1) (sOf cs).length = sliceRange (((sOf cs).length : Int) - 1) (-1) (-1) := rfl
  rw [h, PySem.W.krv_sliceRange, PySem.W.krv_range, List.filterMap_reverse]
  show (⟨((List.range (sOf cs).cps.size).filterMap ((sOf cs).cps[·]?)).reverse.toArray⟩ : Str) = _
  rw [PySem.W.krv_all, sOf_list]
  rfl
def tRevS (te : TE) : TE := fun σ H Q => te σ H fun x H1 => ∃ cs, x = .str (sOf cs) ∧ cs.length ≤ sizeLine ∧ Q (.str (sOf cs.reverse)) H1
theorem pe_revS {te : TE} (he : PE X e te) : PE X (.Subscript e (.Slice none none (some (.UnaryOp .USub (.Constant (.int 1) k p1) p2)) p3) pos) (tRevS te) := by
  refine ⟨fun pins s τ G Q J h => Subscript_ (thn (he.run pins s τ G _ J h) ?_)⟩
  rintro v s1 ⟨x, G1, J1, r1, cs, rfl, hz, q⟩
  obtain ⟨t, rfl⟩ := r1
  have hneg : PO X (some (.UnaryOp .USub (.Constant (.int 1) k p1) p2)) (tPart (tUn (rU fun i => .int (-i)) (tC (.int 1)))) := po_some (pe_un un_neg pe_int)
  refine wpAny_Slice (thn (po_none.run pins s1 τ G1 (fun o G2 => o = none ∧ G2 = G1) J1 ⟨rfl, rfl⟩) ?_)
  rintro vl s2 ⟨l, G2, J2, pl, rfl, rfl⟩
  refine thn (po_none.run pins s2 τ G2 (fun o G3 => o = none ∧ G3 = G2) J2 ⟨rfl, rfl⟩) ?_
  rintro vu s3 ⟨u, G3, J3, pu, rfl, rfl⟩
  refine thn (hneg.run pins s3 τ G3 (fun o G4 => o = some (-1) ∧ G4 = G3) J3 ⟨1, rfl, -1, rfl, rfl, rfl⟩) ?_
  rintro vs s4 ⟨o, G4, J4, ps, rfl, rfl⟩
  cases pl
  cases pu
  cases ps with
  | int i tk =>
    have J5 : Inv X pins τ G4 { s4 with heap := s4.heap.push { cls := .type "slice", data := .fields #[.none, .none, .int (-1) tk] } } := J4.kept (t' := s4.toks) fun b ob q => Heap.get?_push_of_some _ q
    refine tail_any (ops := [.str (sOf cs) t, .ref s4.heap.objs.size]) (typeIs_str _ _ t) F.slot_str_getitem.lookup ?_ (by with_unfolding_all rfl)
    refine wpAny_getItem_str_slice (l := none) (u := none) (st := some (-1, tk)) ⟨_, Heap.get?_push_size _ rfl, rfl, rfl⟩ rfl ?_
    have em : sliceMade (sOf cs) t none none (some (-1, tk)) = .str (sOf cs.reverse) := by
      unfold sliceMade slicePicked
      rw [if_neg (by simp)]
      exact congrArg Made.str (rev_cps cs)
    rw [em]
    refine ⟨by rw [sOf_len, List.length_reverse]; exact hz, .str (sOf cs.reverse), _, J5.tok _, ⟨_, rfl⟩, q⟩
theorem RepL.reverse {K : PySem.W.Frag} {fa : Nat → Addr} {F : Hp} : ∀ {vs : List V} {ds : List D}, RepL K fa F vs ds → RepL K fa F vs.reverse ds.reverse
  | _, _, .nil => .nil
  | _, _, .cons r t => by
    rw [List.reverse_cons, List.reverse_cons]
    exact (RepL.reverse t).append (.cons r .nil)

theorem eI_rev {ia : I} : eI cf (.op .rev (.cons ia .nil)) = fun env => bnd (asV (eI cf ia) env) fun d e1 => okR (dRev [d]) e1 := by
  funext env
  rw [asV_bnd]
  show bnd (bnd (eI cf ia env) _) _ = _
  cases eI cf ia env with
  | none => rfl
  | some oe =>
    obtain ⟨o, e⟩ := oe
    cases o <;> rfl
theorem s_rev {ia : I} (ha : PI' X fa cf e ia) : PI' X fa cf (.Subscript e (.Slice none none (some (.UnaryOp .USub (.Constant (.int 1) k p1) p2)) p3) pos) (.op .rev (.cons ia .nil)) := by
  have hor : PE X (.Subscript e (.Slice none none (some (.UnaryOp .USub (.Constant (.int 1) k p1) p2)) p3) pos) (fun σ H Q => tRevS (tV X.K fa (asV (eI cf ia))) σ H Q ∨ tRevL X.K (tV X.K fa (asV (eI cf ia))) σ H Q) := ⟨fun pins s σ H Q I q => by
    rcases q with q | q
    · exact (pe_revS (pe_asV ha)).run pins s σ H Q I q
    · exact (pe_revL (pe_asV ha)).run pins s σ H Q I q⟩
  refine pe_weak hor fun σ H Q ⟨F, env, h⟩ => ?_
  rw [eI_rev] at h
  cases hm : asV (eI cf ia) env with
  | none => exact (h.no (by rw [hm]; rfl)).elim
  | some oe =>
  obtain ⟨o, e9⟩ := oe
  cases o with
  | error x => exact .inl ⟨F, env, At.bndE (Rl := vRep X.K fa) h fun d e1 F1 H1 v hm' s1 r1 h1 => by rw [hm] at hm'; cases hm'⟩
  | ok d0 =>
  cases d0 with
  | str cs =>
    refine .inl ⟨F, env, At.bndE (Rl := vRep X.K fa) h fun d e1 F1 H1 v hm' s1 r1 h1 => ?_⟩
    rw [hm] at hm'
    cases hm'
    cases Rep.str_of r1
    by_cases hl : cs.length ≤ big
    · exact ⟨cs, rfl, le_line hl, h1.ret (a := .val (.str cs.reverse)) (by simp only [dRev, if_pos hl]; rfl) (Step.refl h1.ok) (.str _)⟩
    · exact (h1.no (by simp only [dRev, if_neg hl]; rfl)).elim
  | lst xs =>
    refine .inr ⟨F, env, At.bndE (Rl := vRep X.K fa) h fun d e1 F1 H1 v hm' s1 r1 h1 => ?_⟩
    rw [hm] at hm'
    cases hm'
    obtain ⟨b, ys, rfl, e2, rl⟩ := Rep.lst_of r1
    refine ⟨_, _, rfl, SqL.of (h1.ok.sub.at e2 rfl), fun p hp => ?_⟩
    obtain ⟨s3, rr⟩ := (ARes.new (K := X.K) (fa := fa) hp rl.reverse).step h1.ok
    exact h1.ret (a := .new (fzs xs.reverse)) rfl s3 rr
  | _ => exact .inl ⟨F, env, At.bndE (Rl := vRep X.K fa) h fun d e1 F1 H1 v hm' s1 r1 h1 => by
      rw [hm] at hm'; cases hm'; exact (h1.no rfl).elim⟩
end
section
open PySem.Spec PyProof.Rows
/-! ### lambdas without parameters -/
section
variable {K : PySem.W.Frag} {fa : Fa} {F H G F' H' : Hp} {σ σ' : L2.St} {env env' : Ev} {fb : Nat → Addr}
/-- names with values alone -/
structure VOk (K : PySem.W.Frag) (fb : Nat → Addr) (F : Hp) (σ : L2.St) (env : Ev) : Prop where
  len : σ.length = env.length
  at_ : ∀ (i : Nat) (s : Sl), env[i]? = some s → s = .un ∨ ∃ d v, s = .val d ∧ σ[i]? = some (some v) ∧ Rep K fb F v d
theorem VOk.mono (s : Same F G) (h : VOk K fb F σ env) : VOk K fb G σ env := ⟨h.len, fun i z e => by
  rcases h.at_ i z e with h1 | ⟨d, v, h1, h2, h3⟩
  · exact .inl h1
  · exact .inr ⟨d, v, h1, h2, h3.mono s⟩⟩
theorem VOk.held (h : VOk K fb F σ env) {i : Nat} {x : Ho} (e : held env i = some x) : False := by
  rcases held_iff.mp e with e | e <;> (rcases h.at_ i _ e with z | ⟨d, v, z, _⟩ <;> cases z)
theorem VOk.ok (h : VOk K fa.f F σ env) (sub : SL F H) (tb : Tb fa.tb F H) : Ok K fa F H σ env :=
  ⟨fun i x e => (by rcases h.at_ i _ e with z | ⟨d, v, z, _⟩ <;> cases z), h.len, sub, fun i d e => by
      rcases h.at_ i _ e with z | ⟨d', v, z, h2, h3⟩
      · cases z
      · cases z
        exact ⟨v, h2, h3⟩,
    fun i x e => (h.held e).elim, fun i j x y v w fp fq _ hx => (h.held hx).elim, tb⟩
theorem VOk.noown (h : VOk K fb F σ env) {p : Addr} : ¬ Own K fa F' H' σ' env p := fun ⟨i, x, _, _, e, _⟩ => h.held e
theorem Ok.onlyV (o : Ok K fa F H σ env) : VOk K fa.f F σ (onlyV env) := ⟨by rw [DI.onlyV, List.length_map]; exact o.len, fun i s e => by
  rw [DI.onlyV, List.getElem?_map] at e
  cases h : env[i]? with
  | none => rw [h] at e; cases e
  | some z =>
    rw [h] at e
    cases z with
    | val d =>
      cases e
      obtain ⟨v, h1, h2⟩ := o.val i d h
      exact .inr ⟨d, v, rfl, h1, h2⟩
    | _ => cases e; exact .inl rfl⟩
theorem frz_step : ∀ (vs : List Nat) {F : Hp} {env e1 : Ev}, Ok K fa F H σ env → frzS vs env = some e1 → ∃ F1, Step K fa F H σ env F1 H σ e1
  | [], F, env, e1, o, e => by cases e; exact ⟨F, Step.refl o⟩
  | i :: is, F, env, e1, o, e => by
    simp only [frzS] at e
    cases h : env[i]? with
    | none => simp only [rdV, h] at e; cases e
    | some z =>
      cases z with
      | un => simp only [rdV, h] at e; cases e
      | io _ => simp only [rdV, h] at e; cases e
      | exc _ => simp only [rdV, h] at e; cases e
      | val d =>
        simp only [rdV, h] at e
        exact frz_step is o e
      | own x =>
        simp only [rdV, h] at e
        obtain ⟨v, G, _, st, _⟩ := Step.freezeSlot o h
        obtain ⟨F1, s2⟩ := frz_step is st.ok e
        exact ⟨F1, st.trans s2⟩
theorem step_cst (st : Step K fa F H σ env F' H' σ' env') (n : ∀ p, ¬ Own K fa F H σ env p) : CSt K fa fa.tb F H [] [] F' H' none [] :=
  ⟨st.sub, st.ok.sub, fun a o e _ => st.keep a o e (n a), fun a h1 h2 _ => st.stay a h1 h2 (n a), rfl, (fun _ m => by cases m), fun _ => st.ok.tabs⟩
theorem cres_cl {v : V} {r : R} (n : ∀ p, ¬ Own K fa F H σ env p) (rr : RRep K fa F H σ env F' H' σ' env' v r) : CRes K fa H [] F' H' [] v r := by
  cases r with
  | val d => exact rr
  | new x =>
    obtain ⟨fq, h1, h2, h3⟩ := rr
    exact ⟨fq, h1, fun p m => .inr ((h2 p m).resolve_left (n p)), fun p _ => List.not_mem_nil⟩
/-- what is handed back, as a value -/
theorem step_val {v : V} {r : R} (st : Step K fa F H σ env F' H' σ' env') (rr : RRep K fa F H σ env F' H' σ' env' v r) : ∃ F2, Step K fa F H σ env F2 H' σ' env' ∧ Rep K fa F2 v r.d := by
  cases r with
  | val d => exact ⟨F', st, rr⟩
  | new x =>
    obtain ⟨fp, h1, h2, h3⟩ := rr
    obtain ⟨a, b⟩ := st.freeze h2 h1 h3
    exact ⟨_, a, b⟩
theorem decX_ok {r : R} : decX (encX (.ok r)) = some (.ok (.val r.d)) := by simp [decX, encX]
theorem decX_err {y : Xc} {z : Except Xc R} (h : decX (encX (.error y)) = some z) : z = .error y := by
  obtain ⟨c, fs⟩ := y
  by_cases hy : c < 1000000
  · have n1 : ¬ 1000000 + c < 1000000 := by omega
    have n2 : ¬ 1000000 + c = 2000000 := by omega
    have n3 : 1000000 + c < 2000000 := by omega
    simp [decX, encX, hy, n1, n2, n3] at h
    exact h.symm
  · simp [decX, encX, hy] at h
end
/-- the lambda is called by its name -/
def LamPE (X : Cx) (fa : Fa) : Prop := ∀ (cf : CF) (i : Nat) (x : Str) (p1 p2 : Pos), X.N[i]? = some x → Vis X.env.scope x → (x == ("__debug__" : Str)) = false → (x == ("__classdict__" : Str)) = false → PE X (.Call (.Name x p1) [] [] p2) (tI X.K fa (eI cf (.lam0 i)))
theorem eI_lam0 {cf : CF} {i : Nat} : eI cf (.lam0 i) = fun env => match env[i]? with
    | some (.exc x) => match decX x with
      | some z => some (z, env)
      | none => none
    | _ => none := rfl
/-- where no name holds a lambda -/
theorem lamPE_no {X : Cx} {fa : Fa} (h : ∀ a x F, ¬ fa.ex a x F) : LamPE X fa := fun cf i x p1 p2 _ _ _ _ => by
  refine ⟨fun pins s σ H Q I ⟨F, env, q⟩ => ?_⟩
  rw [eI_lam0] at q
  cases he : env[i]? with
  | none => exact (q.no (by simp only [he])).elim
  | some z =>
    cases z with
    | exc y =>
      obtain ⟨a, _, h2⟩ := q.ok.exc i y he
      exact (h _ _ _ h2).elim
    | _ => exact (q.no (by simp only [he])).elim
/-- the lambda at a, its code object at c, made where the names were σ: x tells what it hands back -/
def Clo (K : PySem.W.Frag) (fb : Nat → Addr) (cf : CF) (e : I) (σ : L2.St) (a c : Addr) (q : Str) : Addr → Xc → Hp → Prop := fun b x F =>
  b = a ∧ F c = some (LamX.CodeO c q) ∧ ∃ env o e2, VOk K fb F σ env ∧ eI cf e env = some (o, e2) ∧ x = encX o
theorem clo_mono {K : PySem.W.Frag} {fb : Nat → Addr} {cf : CF} {e : I} {σ : L2.St} {a c : Addr} {q : Str} (b : Addr) (x : Xc) (F G : Hp) (s : Same F G) (h : Clo K fb cf e σ a c q b x F) : Clo K fb cf e σ a c q b x G := by
  obtain ⟨h1, h2, env, o, e2, h3, h4, h5⟩ := h
  exact ⟨h1, s _ _ h2, env, o, e2, h3.mono s, h4, h5⟩
def Fa.lam (fa : Fa) (lm : Addr → Xc → Hp → Prop) (lmm : ∀ (a : Addr) (x : Xc) (F G : Hp), Same F G → lm a x F → lm a x G) (W : WX) : Fa := ⟨fa.f, lm, lmm, W, fa.tb⟩
section
variable {X : Cx} {fa : Fa} {cf : CF} {ie : I} {pins : List (Addr × Obj)} {σ : L2.St} {H : Hp} {s : Shared}
/-- the call of the lambda, in the def that got it; its maker's context is X -/
theorem lam_act {k : Nat} {Ng : List Str} {qg : Str} {sg : Scope} {g f c : Addr} {cdg pm ctv : Value} {params : Arguments} {body : Expr} {scope : Scope} {Eg : XK} {pn : List (Addr × Obj)} {xe : Value → Shared → Prop} {W : WX}
    (I0 : Inv X pins σ H s) (L : LamX.LamS X.env.scope scope) (ho : s.heap.get? f = some (PySem.W.kla_obj "<lambda>" (X.env.qual ++ "<lambda>") params body scope (cloFrom X.env.cells scope.names []) pm c ctv)) (hn : H f = none) (hs : f ∉ frs X.stack)
    (hbi : ∀ (q : Str) (cl : List (Str × Addr)) (pm cv ctv : Value), bindArgs (PySem.W.kla_fn "<lambda>" q params body scope cl pm cv ctv) ⟨[], []⟩ = pure [])
    (tk : Takes ((cxOf (L2.CX X.prog X.w) X.prog X.w X.K X.mg X.base Ng qg sg g cdg X.A X.stack s H Eg).tr pn xe) W) (hr : Room (k + 1) (X.A.deeper (envOfC qg sg s.heap.objs.size g cdg)))
    (hB : ∀ (A : Around) (outer : List Env) (s2 : Shared) (H2 : Hp) (E : XK), A.guards = X.A.guards → Room k (A.deeper (LamX.lamEnv X scope s2.heap.objs.size f c)) → PE (LamX.lamCx X A outer s2 H2 E scope f c) body (tI X.K (fa.to E) (eI cf ie))) :
    LamPE ((cxOf (L2.CX X.prog X.w) X.prog X.w X.K X.mg X.base Ng qg sg g cdg X.A X.stack s H Eg).tr pn xe) (fa.lam (Clo X.K fa.f cf ie σ f c (X.env.qual ++ "<lambda>")) clo_mono W) := by
  intro cf2 i nm p1 p2 hN hv hd hcd
  refine ⟨fun pz sz σz Hz Q Iz ⟨F, env, q⟩ => ?_⟩
  rw [eI_lam0] at q
  cases he : env[i]? with
  | none => exact (q.no (by simp only [he])).elim
  | some sl =>
  cases sl with
  | exc x =>
    cases hz : decX x with
    | none => exact (q.no (by simp only [he, hz])).elim
    | some z =>
    obtain ⟨b, b1, b2, b3, envL, o, e2, v1, v2, v3⟩ := q.ok.exc i x he
    subst b2
    have here : ∀ {α : Type} (y : α), True := fun _ => trivial
    refine wpAny_Call_Name_kw (thn ((pe_var (pos := p1) hN hv hd hcd).run pz sz σz Hz (fun v H1 => v = .ref b ∧ H1 = Hz) Iz ⟨_, b1, rfl, rfl⟩) fun u s1 ⟨v, H1, I1, r1, q1⟩ => ?_)
    obtain ⟨rfl, rfl⟩ := q1
    cases r1
    have ob := I1.base.keep b _ ho hn hs (fun m => by cases (show b ∈ ([] : List Addr) from m))
    refine PySem.W.callWith_F0 ⟨_, _, _, _, ob⟩ ?_
    obtain ⟨⟨oc, vs, t, g1, g2, g3⟩, _, _⟩ := I1.hok c _ (q.ok.sub.at b3 rfl)
    have un : Un (frs X.stack) [] H H1 s.heap s1.heap := I1.base
    have rc : codeAny (model X.prog X.w) (X.A.deeper (envOfC qg sg s.heap.objs.size g cdg)) (.call (.ref b) ⟨[], []⟩)
        (CR (L2.CX X.prog X.w) (envOfC qg sg s.heap.objs.size g cdg :: X.stack) X.prog X.w H1 s1 Q (WE W σz)) s1 := by
      refine PySem.W.kla_callFunE hr.depth ob rfl L.co L.gen rfl ⟨c, oc, vs, t, rfl, g1, g2, g3⟩ ?_
      rw [hbi]
      refine wpAny_pure (wpAny_newFunctionEnv (fun y m => (L.own y m).2) (fun y m => by cases m) (fun h2 n1 n2 => ⟨I1.nolimit.fresh _ n2, ?_⟩) L.kind)
      show codeAny _ _ (.expr body (LamX.lamEnv X scope s1.heap.objs.size b c)) _ _
      have up : ∀ y o, s1.heap.get? y = some o → h2.get? y = some o := fun y o e => n2.extBut y o (Nat.ne_of_lt (Heap.lt_size e)) (Heap.get?_push_of_some _ e)
      have J := LamX.lam_start2 (f := b) (c' := c) (E := WE W σz) (tk := s1.toks + ([] : List (Str × Value)).length) I0 L I1.env0 hr.hd un n1 up
      refine PySem.W.kla_codeExpr (wpAny_mono ((hB (X.A.deeper (envOfC qg sg s.heap.objs.size g cdg)) _ s1 H1 (WE W σz) rfl (hr.deeper _)).run [] _ _ H1 Q J ⟨F, envL, v1.ok (fa := fa.to (WE W σz)) q.ok.sub q.ok.tabs, o, e2, v2, ?_⟩) (fun v s2 h => ?_) fun e s2 h => h)
      · subst v3
        cases o with
        | ok r =>
          intro F' H' v st rr
          rw [decX_ok] at hz
          cases hz
          obtain ⟨F2, st2, r2⟩ := step_val st rr
          have cs := step_cst st2 fun p => v1.noown
          exact q.ret (a := .val r.d) (by simp only [he, decX_ok]) (cst_step q.ok cs) r2
        | error y =>
          intro F' H' cls d st xr
          have hz2 := decX_err hz
          have cs := step_cst st fun p => v1.noown
          exact q.err (x := y) (by simp only [he, hz, hz2]) (cst_step q.ok cs) xr
      · obtain ⟨w, H', J2, rv, qq⟩ := h
        exact ⟨w, H', J2.os, J2.bare, J2.base, J2.hok, rv, qq⟩
    refine wpAny_call (codeAny_mono rc fun r s' hq => ?_)
    cases r with
    | error e => exact passAt tk σz pz H1 s1 e s' I1 hq
    | ok fl => cases fl <;> first | exact I1.after hq | exact False.elim hq
  | _ => exact (q.no (by simp only [he])).elim
end
/-- the defs that take a lambda keep what the denotation tells, k calls deep -/
def FnLG (P : Program) (w : World) (K : PySem.W.Frag) (mg : Str → Option Value) (base : Heap) (fb : Nat → Addr) (tb : List (Addr × Str)) (fns : List (Nat × Fn)) (k : Nat) : Prop :=
  ∀ (g : Nat) (x : Xc) (z : Except Xc R), (callF fns k).l g x = some z → ∀ (A : Around) (outer : List Env) (s : Shared) (H F : Hp) (f : Addr) (lm : Addr → Xc → Hp → Prop) (lmm : ∀ (a : Addr) (x : Xc) (F G : Hp), Same F G → lm a x F → lm a x G) (Q : VK) (E : XK),
    A.guards = some [] → Room (4 * k + 3) A → Env0 P w K mg base A outer s H → SL F H → Tb tb F H → lm f x F →
    (∀ (N : List Str) (qual : Str) (scope : Scope) (cdv : Value) (pn : List (Addr × Obj)) (xe : Value → Shared → Prop) (W : WX), Room (4 * k + 2) (A.deeper (envOfC qual scope s.heap.objs.size (fb g) cdv)) →
      Takes ((cxOf (L2.CX P w) P w K mg base N qual scope (fb g) cdv A outer s H E).tr pn xe) W → LamPE ((cxOf (L2.CX P w) P w K mg base N qual scope (fb g) cdv A outer s H E).tr pn xe) ⟨fb, lm, lmm, W, tb⟩) →
    (∀ F' H', CSt K fb tb F H [] [] F' H' none [] → CEnd K fb H [] F' H' [] Q E z) → codeAny (model P w) A (.call (.ref (fb g)) ⟨[.ref f], []⟩) (CR (L2.CX P w) outer P w H s Q E) s
theorem eI_lamc {cf : CF} {g : Nat} {vs : List Nat} {ie : I} : eI cf (.lamc g vs ie) = fun env => match frzS vs env with
    | some e1 => match eI cf ie (onlyV e1) with
      | some (o, _) => match cf.l g (encX o) with
        | some z => some (z, e1)
        | none => none
      | none => none
    | none => none := rfl
/-- a table that has one triple more -/
theorem tabF_more {T : List (Addr × Str)} {F H : Hp} {P c : Addr} {q : Str} {ps : Array Value} {pos : Pos} (sub : SL F H) (h : TabF T F H) (hP : H P = some (.tbl ps)) (hc : H c = none) (hu : ∀ p ∈ T, p.1 = P → p.2 = q) :
    TabF T (upd F c (LamX.CodeO c q)) (upd (upd H P (.tbl (ps ++ #[rawInt pos.line, rawInt pos.col, .ref c]))) c (LamX.CodeO c q)) := fun p hp => by
  have up : ∀ a u, F a = some u → upd F c (LamX.CodeO c q) a = some u := fun a u e => by rw [upd_ne (fun z => by rw [z] at e; exact sub.there e hc)]; exact e
  obtain ⟨qs, g1, g2, g3⟩ := h p hp
  have n1 := ne_of_none g1 hc
  by_cases hb : p.1 = P
  · rw [hb, hP] at g1
    cases g1
    have el : (ps ++ #[rawInt pos.line, rawInt pos.col, .ref c]).toList = ps.toList ++ [rawInt pos.line, rawInt pos.col, .ref c] := by simp
    refine ⟨_, by rw [upd_ne n1, hb, upd_same], by rw [el]; exact PySem.TriplesOk_snoc _ _ _ _ g2, fun p2 cv e => ?_⟩
    rw [el] at e
    rcases LamX.among_app _ g2 e with z | z
    · obtain ⟨d, e1, e2⟩ := g3 p2 cv z
      exact ⟨d, e1, up _ _ e2⟩
    · exact ⟨c, z, by rw [hu p hp hb, upd_same]⟩
  · refine ⟨qs, by rw [upd_ne n1, upd_ne hb]; exact g1, g2, fun p2 cv e => ?_⟩
    obtain ⟨d, e1, e2⟩ := g3 p2 cv e
    exact ⟨d, e1, up _ _ e2⟩
section
variable {X : Cx} {pins : List (Addr × Obj)} {σ : L2.St} {H F : Hp} {s : Shared}
/-- what the making of a lambda leaves: its function at f, its code object at c -/
structure Made (X : Cx) (pins : List (Addr × Obj)) (σ : L2.St) (H1 : Hp) (params : Arguments) (body : Expr) (scope : Scope) (f c : Addr) (s' : Shared) : Prop where
  inv : Inv X pins σ H1 s'
  ob : ∃ pm ctv, s'.heap.get? f = some (PySem.W.kla_obj "<lambda>" (X.env.qual ++ "<lambda>") params body scope (cloFrom X.env.cells scope.names []) pm c ctv)
  new : H1 f = none
  fr : f ∉ frs X.stack
theorem lam_mk {T : List (Addr × Str)} {c P : Addr} {params : Arguments} {body : Expr} {scope : Scope} {pos : Pos} {E Q : Value → Shared → Prop} (I0 : Inv X pins σ H s) (sub : SL F H) (TB : LamX.TabB X.base X.mg c P) (hcode : X.env.code = .ref c)
    (hm : (P, X.env.qual ++ "<lambda>") ∈ T) (hu : ∀ p ∈ T, p.1 = P → p.2 = X.env.qual ++ "<lambda>") (hT : TabF T F H) (hdf : defaultsOf params X.env = ([], [])) (hfree : ∀ y ∈ scope.names, y.2 = .free → ∃ c, X.env.cells.lookup y.1 = some c)
    (hit : ∀ f d s', Made X pins σ H params body scope f d s' → F d = some (LamX.CodeO d (X.env.qual ++ "<lambda>")) → Q (.ref f) s')
    (miss : ∀ f d ps s', H d = none → (∃ qs, H P = some (.tbl qs)) → Made X pins σ (upd (upd H P (.tbl ps)) d (LamX.CodeO d (X.env.qual ++ "<lambda>"))) params body scope f d s' →
      TabF T (upd F d (LamX.CodeO d (X.env.qual ++ "<lambda>"))) (upd (upd H P (.tbl ps)) d (LamX.CodeO d (X.env.qual ++ "<lambda>"))) → Q (.ref f) s') :
    wpAny (model X.prog X.w) X.A (eval (.Lambda params body scope pos) X.env) Q E s := by
  obtain ⟨ps, k1, k2, k3⟩ := hT _ hm
  have k1 : H P = some (.tbl ps) := k1
  refine PySem.W.kla_eval hdf ?_
  have oP : s.heap.get? P = some { cls := .none, data := .fields ps } := I0.hok P _ k1
  have bs := TB.bm.keeps I0.bk
  have gl := I0.mod.glob.keeps I0.bk
  have cd := TB.code.keeps I0.bk
  have away : ∀ f, s.heap.objs.size ≤ f → f ∉ frs X.stack := fun f hf m => by
    rcases List.mem_cons.mp (I0.stkSub _ m) with e | e
    · have lt := I0.lt
      rw [← e] at lt
      exact absurd hf (Nat.not_le.mpr lt)
    · exact I0.nofs hf e
  cases hc : codeAmong pos ps.toList with
  | some cv =>
    obtain ⟨d, rfl, fd⟩ := k3 pos cv hc
    refine PySem.W.kla_makeFunctionHit (mg := X.mg) (c := c) (P := P) (ps := ps) (closure_ok hfree) I0.ok.glob gl hcode cd oP k2 hc bs fun ctv h' t x1 x2 => ?_
    exact hit _ d _ ⟨I0.kept fun b o e => Heap.get?_push_of_some _ (x1 b o e), ⟨_, ctv, Heap.get?_push_size _ rfl⟩, I0.hok.fresh x2, away _ x2⟩ fd
  | none =>
    refine PySem.W.kla_makeFunction (mg := X.mg) (c := c) (P := P) (ps := ps) (closure_ok hfree) I0.ok.glob gl hcode cd oP k2 hc TB.gP bs fun d ctv h' t x1 x2 x3 x4 x5 => ?_
    obtain ⟨d', oc, vs, tk, ed, y1, y2, y3⟩ := x4
    cases ed
    have big : s.heap.objs.size ≤ h'.objs.size := by omega
    have nd : H d = none := I0.hok.fresh x2
    refine miss h'.objs.size d (ps ++ #[rawInt pos.line, rawInt pos.col, .ref d]) _ nd ⟨ps, k1⟩ ⟨LamX.inv_table (t' := t) I0 k1 (fun b o n e => Heap.get?_push_of_some _ (x1 b o n e)) (Heap.get?_push_of_some _ x5) x2 ⟨oc, vs, tk, Heap.get?_push_of_some _ y1, y2, y3⟩, ⟨_, ctv, Heap.get?_push_size _ rfl⟩, ?_, away _ big⟩ (tabF_more sub hT k1 nd hu)
    have n1 : h'.objs.size ≠ d := Nat.ne_of_gt x3
    have n2 : h'.objs.size ≠ P := Nat.ne_of_gt (Nat.lt_of_lt_of_le (Heap.lt_size oP) big)
    rw [upd_ne n1, upd_ne n2]
    exact I0.hok.fresh big
end
section
variable {X : Cx} {fa : Fa} {fns : List (Nat × Fn)} {k g : Nat} {ie : I}
/-- f(lambda: ..) -/
theorem s_lamc {x : Str} {c P : Addr} {params : Arguments} {body : Expr} {scope : Scope} {vs : List Nat} {p lpos pos : Pos} (GL : FnLG X.prog X.w X.K X.mg X.base fa.f fa.tb fns k) (tk : Takes X fa.W) (hg : X.A.guards = some []) (hr : Room (4 * k + 3) X.A)
    (hgl : Gl X x) (hm : X.mg x = some (.ref (fa.f g))) (hk : PySem.W.keepIn X.K (.ref (fa.f g)) = true) (hdb : (x == ("__debug__" : Str)) = false)
    (TB : LamX.TabB X.base X.mg c P) (hcode : X.env.code = .ref c) (hT : (P, X.env.qual ++ "<lambda>") ∈ fa.tb) (hu : ∀ p ∈ fa.tb, p.1 = P → p.2 = X.env.qual ++ "<lambda>") (L : LamX.LamS X.env.scope scope) (hdf : defaultsOf params X.env = ([], []))
    (hbi : ∀ (q : Str) (cl : List (Str × Addr)) (pm cv ctv : Value), bindArgs (PySem.W.kla_fn "<lambda>" q params body scope cl pm cv ctv) ⟨[], []⟩ = pure [])
    (hB : ∀ (A : Around) (outer : List Env) (s2 : Shared) (H2 : Hp) (E : XK) (f c : Addr), A.guards = X.A.guards → Room (4 * k + 1) (A.deeper (LamX.lamEnv X scope s2.heap.objs.size f c)) → PE (LamX.lamCx X A outer s2 H2 E scope f c) body (tI X.K (fa.to E) (eI (callF fns k) ie))) :
    PI' X fa (callF fns k) (.Call (.Name x p) [.Lambda params body scope lpos] [] pos) (.lamc g vs ie) := by
  refine ⟨fun pins s σ H Q I0 ⟨F, env, q⟩ => ?_⟩
  rw [eI_lamc] at q
  cases h1 : frzS vs env with
  | none => exact (q.no (by simp only [h1])).elim
  | some e1 =>
  cases h2 : eI (callF fns k) ie (onlyV e1) with
  | none => exact (q.no (by simp only [h1, h2])).elim
  | some oe =>
  obtain ⟨o, e2⟩ := oe
  cases h3 : (callF fns k).l g (encX o) with
  | none => exact (q.no (by simp only [h1, h2, h3])).elim
  | some z =>
  obtain ⟨F1, s1⟩ := frz_step vs q.ok h1
  refine wpAny_Call_Name_kw (ld_glob I0 hgl hm ?_ hdb)
  refine PySem.W.callWith_K (h₀ := X.base) I0.ok.mod.kin hk ?_ (by rfl) (by rfl)
  show wpAny _ _ (spliced ((false, eval (.Lambda params body scope lpos) X.env) :: backTo pos (starEach [] X.env))) _ _ s
  -- what is called, from what is frozen then
  have fin : ∀ (F2 H1 : Hp) (f d : Addr) (sL : Shared), Made X pins σ H1 params body scope f d sL → F2 d = some (LamX.CodeO d (X.env.qual ++ "<lambda>")) → Step X.K fa F1 H σ e1 F2 H1 σ e1 →
      wpAny (model X.prog X.w) X.A (call (.ref (fa.f g)) [.ref f]) (EP X pins σ Q) X.xe sL := fun F2 H1 f d sL M fd s2 => by
    obtain ⟨pm, ctv, ho⟩ := M.ob
    have rc : codeAny (model X.prog X.w) X.A (.call (.ref (fa.f g)) ⟨[.ref f], []⟩) (CR (L2.CX X.prog X.w) X.stack X.prog X.w H1 sL Q (WE fa.W σ)) sL := by
      refine GL g (encX o) z h3 X.A X.stack sL H1 F2 f (Clo X.K fa.f (callF fns k) ie σ f d (X.env.qual ++ "<lambda>")) clo_mono Q (WE fa.W σ) hg hr M.inv.env0 s2.ok.sub s2.ok.tabs ⟨rfl, fd, onlyV e1, o, e2, s2.ok.onlyV, h2, rfl⟩ (fun N qual scope' cdv pn xe W hr2 tk2 => ?_) fun F' H' cs => ?_
      · exact lam_act (fa := fa) (k := 4 * k + 1) M.inv L ho M.new M.fr hbi tk2 hr2 (fun A outer s3 H3 E ga ra => hB A outer s3 H3 E f d ga ra)
      · have st := (s1.trans s2).trans (cst_step s2.ok cs)
        cases z with
        | ok r => exact fun v cr => q.ret (by simp only [h1, h2, h3]) st ((cres_r s2.ok cs cr).lift (s1.trans s2))
        | error y => exact fun cls dd xr => q.err (by simp only [h1, h2, h3]) st xr
    refine wpAny_call (codeAny_mono rc fun r s' hq => ?_)
    cases r with
    | error e => exact passAt tk σ pins H1 sL e s' M.inv hq
    | ok fl => cases fl <;> first | exact M.inv.after hq | exact False.elim hq
  refine Calls.spliced_cons (lam_mk (F := F1) I0 s1.ok.sub TB hcode hT hu s1.ok.tabs.tabs hdf (L.has I0.ok) (fun f d sL M fd => ?_) (fun f d ps sL nd tp M tf => ?_))
  · exact Calls.spliced_nil ⟨M.inv.kIn, fin F1 H f d sL M fd (Step.refl s1.ok)⟩
  · refine Calls.spliced_nil ⟨M.inv.kIn, fin (upd F1 d (LamX.CodeO d (X.env.qual ++ "<lambda>"))) _ f d sL M upd_same ?_⟩
    obtain ⟨qs, tp⟩ := tp
    have nF : F1 d = none := sub_none s1.ok.sub nd
    have nPd : P ≠ d := ne_of_none tp nd
    have oth : ∀ a u, H a = some u → ntb u → (upd (upd H P (.tbl ps)) d (LamX.CodeO d (X.env.qual ++ "<lambda>"))) a = some u := fun a u e n => by
      have : a ≠ P := fun z => by rw [z, tp] at e; cases e; exact n _ rfl
      rw [upd_ne (ne_of_none e nd), upd_ne this]; exact e
    have sF : Same F1 (upd F1 d (LamX.CodeO d (X.env.qual ++ "<lambda>"))) := same_upd nF
    have sH : SL (upd F1 d (LamX.CodeO d (X.env.qual ++ "<lambda>"))) (upd (upd H P (.tbl ps)) d (LamX.CodeO d (X.env.qual ++ "<lambda>"))) := fun a u e => by
      by_cases z : a = d
      · subst z
        rw [upd_same] at e ⊢
        exact .inl e
      · rw [upd_ne z] at e
        rcases s1.ok.sub a u e with y | ⟨y, od, y2⟩
        · exact .inl (oth a u y fun qs z => s1.ok.tabs.nof a qs (by rw [e, z]))
        · exact .inr ⟨y, od, oth a _ y2 fun qs z => by cases z⟩
    have cm : Calm X.K fa F1 H (upd F1 d (LamX.CodeO d (X.env.qual ++ "<lambda>"))) (upd (upd H P (.tbl ps)) d (LamX.CodeO d (X.env.qual ++ "<lambda>"))) σ e1 := fun a ha => by
      obtain ⟨u, e, n⟩ := own_nt ha
      exact ⟨by rw [e]; exact oth a u e n, by rw [upd_ne (ne_of_none e nd)]; exact (s1.ok.own_at ha).1⟩
    have tb2 : Tb fa.tb (upd F1 d (LamX.CodeO d (X.env.qual ++ "<lambda>"))) (upd (upd H P (.tbl ps)) d (LamX.CodeO d (X.env.qual ++ "<lambda>"))) := ⟨tf, fun a qs e => by
      by_cases z : a = d
      · subst z
        rw [upd_same] at e
        exact LamX.codeO_ne qs (Option.some.inj e)
      · rw [upd_ne z] at e
        exact s1.ok.tabs.nof a qs e⟩
    refine ⟨sF, fun a u e _ => ?_, fun a g1 g2 _ => ?_, s1.ok.more sF sH cm tb2, fun p hp => .inl (s1.ok.ownsame sF cm hp), fun j y e => ⟨rfl, y, e⟩⟩
    · by_cases hn : ntb u
      · exact .of (oth a u e hn)
      · have hx : ∃ us, u = .tbl us := Classical.byContradiction fun z => hn fun us e => z ⟨us, e⟩
        obtain ⟨us, rfl⟩ := hx
        by_cases hp : a = P
        · subst hp
          exact ⟨.tbl ps, by rw [upd_ne nPd, upd_same], .inr (.inl ⟨⟨us, rfl⟩, ps, rfl⟩)⟩
        · exact .of (by rw [upd_ne (ne_of_none e nd), upd_ne hp]; exact e)
    · have : a ≠ d := fun z => g1 (by rw [z]; exact nd)
      rw [upd_ne this]; exact g2
end
/-! ### isinstance of the error that is handled -/
theorem eI_xisi {cf : CF} {i : Nat} {ks cs : List Nat} : eI cf (.xisi i ks cs) = fun env => match env[i]? with
    | some (.exc x) => if ks.contains x.c && x.fs.isEmpty then some (.ok (.val (.bl (cs.contains x.c))), env) else none
    | _ => none := rfl
/-- isinstance(name, e2), the name's error is handled here -/
def XiOk (X : Cx) (fa : Fa) : Prop := ∀ (cf : CF) (i : Nat) (ks cs : List Nat) (c : V) (cv : Value) (e2 : Expr) (x : Str) (p p1 pos : Pos), Gl X "isinstance" → X.mg "isinstance" = none → X.N[i]? = some x → Vis X.env.scope x → (x == ("__debug__" : Str)) = false → (x == ("__classdict__" : Str)) = false → PE X e2 (tC c) → (∀ u, RelV c u → u = cv) →
  (∀ k ∈ ks, k < 1000000 ∧ ExcC X.K (fa.C k) ∧ PySem.W.kitOne X.K (.ref (fa.C k)) cv = some (cs.contains k)) → starEach [.Name x p1, e2] X.env = (false, eval (.Name x p1) X.env) :: starEach [e2] X.env → starEach [e2] X.env = [(false, eval e2 X.env)] → (backTo pos (starEach [e2] X.env)).any (·.1) = false →
  PE X (.Call (.Name "isinstance" p) [.Name x p1, e2] [] pos) (tI X.K fa (eI cf (.xisi i ks cs)))
theorem xi_suite {X : Cx} {fa : Fa} {a : Addr} {oe : Obj} {cls : Value} {d : Option Addr} {pn : List (Addr × Obj)} (hz : Zc cls d oe) (hf : ∃ vs, oe.data = .fields vs) : XiOk (X.suite a ((a, oe) :: pn)) (fa.su X.K a cls d) := by
  intro cf i ks cs c cv e2 x p p1 pos hg hm hN hv hd hcd h2 hc hk s1 s2 s3
  refine ⟨fun pins s σ H Q I0 ⟨F, env, q⟩ => ?_⟩
  rw [eI_xisi] at q
  cases he : env[i]? with
  | none => exact (q.no (by simp only [he])).elim
  | some sl =>
  cases sl with
  | exc y =>
    cases hb : (ks.contains y.c && y.fs.isEmpty) with
    | false => exact (q.no (by simp only [he, hb]; rfl)).elim
    | true =>
    obtain ⟨b1, b2⟩ := Bool.and_eq_true_iff.mp hb
    obtain ⟨g1, g2, g3⟩ := hk y.c (by simpa using b1)
    obtain ⟨b, v1, v2⟩ := q.ok.exc i y he
    rcases v2 with ⟨_, rfl, x1, x2⟩ | ⟨v2, _⟩
    · rcases x2 with ⟨_, rfl⟩ | ⟨dd, kvs, x3, _, _⟩
      · subst x1
        refine (pe_callB (call_isE (X := X) (a := b) (pn := pn) g2 hz hf) hg hm (by decide +kernel) (pa_cons (pe_var (pos := p1) hN hv hd hcd) (pa_cons h2 pa_nil (by rw [s2]; rfl)) s1) (by decide +kernel) (by decide +kernel) s1 s3).run pins s σ H Q I0 ?_
        exact ⟨_, v1, c, cv, _, rfl, hc, g3, q.ret (a := .val (.bl (cs.contains y.c))) (by simp only [he, hb]; rfl) (Step.refl q.ok) (Rep.bl _)⟩
      · exact (x3 (by simpa using b2)).elim
    · omega
  | _ => exact (q.no (by simp only [he])).elim
/-! ### a name's list against an empty one: the name keeps it -/
theorem eI_nil1 {cf : CF} {i : Nat} {o : Op} : eI cf (.nil1 i o) = fun env => match look1 env i with
    | some d => okR (opD o [d, .lst []]) env
    | none => none := rfl
section
variable {X : Cx} {fa : Fa} {cf : CF} {pos px pl : Pos} {i : Nat} {x : Str} {op : CmpOp} {o : Op} {r : R2}
theorem nil1_D (ho : OpOk X.K fa o (r2 r)) (hk : isCmp o = true) {σ : L2.St} {H : Hp} {Q : VK} (q : tI X.K fa (eI cf (.nil1 i o)) σ H Q) : tOp r (tVar i) (tLst tNil) σ H Q := by
  obtain ⟨F, env, h⟩ := q
  rw [eI_nil1] at h
  cases hl : look1 env i with
  | none => exact (h.no (by simp only [hl])).elim
  | some d =>
  cases hz : opD o [d, .lst []] with
  | none => exact (h.no (by simp only [hl, hz]; rfl)).elim
  | some z =>
  obtain ⟨b, rfl⟩ := cmp_bl hk hz
  obtain ⟨v, F', hv1, sF, sub, rp⟩ := look_rep h.ok hl
  refine ⟨v, hv1, by show (0 : Nat) ≤ sizeLine; exact Nat.zero_le _, fun p hp => ?_⟩
  have hF' := sub_none sub hp
  have st := ((ARes.new (K := X.K) (fa := fa) (F := F) (vs := []) (xs := []) hp .nil).step h.ok).1
  obtain ⟨x', y', e, hr⟩ := ho (upd F' p (.lst [])) (upd H p (.lst [])) [v, .ref p] [d, .lst []] _ Q (same_upd2 sub) (.cons (rp.mono (same_upd hF')) (.cons (.lst upd_same .nil) .nil)) hz fun w F3 H3 ar => by
    cases ar with
    | same rr => rw [Rep.bl_of rr]; exact h.ret (a := .val (.bl b)) (by simp only [hl, hz]; rfl) st (Rep.bl b)
    | froz _ _ rr => cases rr
  cases e
  exact hr
theorem s_nil1 (hr : OpR X (compareOp op) r) (ho : OpOk X.K fa o (r2 r)) (hk : isCmp o = true) (hN : X.N[i]? = some x) (hv : Vis X.env.scope x) (hd : (x == ("__debug__" : Str)) = false) (hcd : (x == ("__classdict__" : Str)) = false) (hm : behindInMarks op (.List [] pl) = false) :
    PI' X fa cf (.Compare (.Name x px) [op] [.List [] pl] pos) (.nil1 i o) := pe_weak (pe_cmpR hr (pe_var hN hv hd hcd) (pe_lst pa_nil) hm) fun σ H Q q => nil1_D ho hk q
theorem t_nil1 (hr : OpR X (compareOp op) r) (ho : OpOk X.K fa o (r2 r)) (hk : isCmp o = true) (hN : X.N[i]? = some x) (hv : Vis X.env.scope x) (hd : (x == ("__debug__" : Str)) = false) (hcd : (x == ("__classdict__" : Str)) = false) (hm : behindInMarks op (.List [] pl) = false) :
    PT' X fa cf (.Compare (.Name x px) [op] [.List [] pl] pos) (.val (.nil1 i o)) := pt_weak (pt_cmpR hr (pe_var hN hv hd hcd) (pe_lst pa_nil) hm) fun σ H Q ⟨F, env, h⟩ => by
  rw [eT_val] at h
  refine nil1_D (Q := fun x H' => ∃ k, x = .bl k ∧ Q k H') ho hk ⟨F, env, At.bndE (Rl := RRep X.K fa) h fun z e1 F1 H1 v hz s1 r1 h1 => ?_⟩
  obtain ⟨k', rfl⟩ : ∃ k, z = .val (.bl k) := by
    rw [eI_nil1] at hz
    simp only at hz
    split at hz
    · exact cmp_bl hk (okR_ok hz).1
    · cases hz
  exact ⟨_, Rep.bl_of r1, h1.ret (a := k') rfl (Step.refl h1.ok) rfl⟩
end
end
/-! ### d.get(k), d.get(k, x) -/
section
variable {X : Cx} {fa : Fa} {cf : CF} {a b c : Expr} {ia ib ic : I} {apos pos : Pos}
def tDGet1E (td ty : TE) : TE := fun σ H Q => td σ H fun x H1 => ∃ a, x = .ref a ∧ IsD H1 a ∧ ty σ H1 fun y H2 => ∃ o, DGetE H2 a y o ∧ Q (o.getD .non) H2
def tDGet2E (td ty tx : TE) : TE := fun σ H Q => td σ H fun x H1 => ∃ a, x = .ref a ∧ IsD H1 a ∧ ty σ H1 fun y H2 => tx σ H2 fun z H3 => ∃ o, DGetE H3 a y o ∧ Q (o.getD z) H3
theorem pe_dget1E {o e : Expr} {cpos : Pos} {td ty : TE} (hu : X.A.units + 1 < cLine) (ho : PE X o td) (he : PE X e ty) (m : M1 X o "get" apos e cpos) : PE X (.Call (.Attribute o "get" apos) [e] [] cpos) (tDGet1E td ty) := by
  refine ⟨fun pins s σ H Q I h => ?_⟩
  refine wpAny_Call_method m.base m.few m.line PySem.F.plainAttrs_dict PySem.F.slot_dict_get PySem.F.type_dict_get (thn (ho.run pins s σ H _ I h) fun u s1 ⟨x, H1, I1, rx, a, ex, d, q1⟩ => ?_)
  subst ex
  obtain rfl : u = Value.ref a := rx
  obtain ⟨t1, t2, _⟩ := isD_at I1 d
  refine ⟨t1, t2, ?_⟩
  rw [m.trees]
  refine Calls.callWith_builtin rfl (Calls.evalArgs_plain (Calls.spliced_cons (thn (he.run pins s1 σ H1 _ I1 q1) fun iv s2 ⟨y, H2, I2, ry, ov, g, q2⟩ => Calls.spliced_nil ?_)))
  exact dE_get1 hu I2 g ry fun w' s3 I3 rw' => ⟨_, H2, I3, rw', q2⟩
theorem pe_dget2E {o e f : Expr} {cpos : Pos} {td ty tx : TE} (hu : X.A.units + 1 < cLine) (ho : PE X o td) (he : PE X e ty) (hf : PE X f tx) (m : M2 X o "get" apos e f cpos) : PE X (.Call (.Attribute o "get" apos) [e, f] [] cpos) (tDGet2E td ty tx) := by
  refine ⟨fun pins s σ H Q I h => ?_⟩
  refine wpAny_Call_method m.base m.few m.line PySem.F.plainAttrs_dict PySem.F.slot_dict_get PySem.F.type_dict_get (thn (ho.run pins s σ H _ I h) fun u s1 ⟨x, H1, I1, rx, a, ex, d, q1⟩ => ?_)
  subst ex
  obtain rfl : u = Value.ref a := rx
  obtain ⟨t1, t2, _⟩ := isD_at I1 d
  refine ⟨t1, t2, ?_⟩
  rw [m.trees]
  refine Calls.callWith_builtin rfl (Calls.evalArgs_plain (Calls.spliced_cons (thn (he.run pins s1 σ H1 _ I1 q1) fun iv s2 ⟨y, H2, I2, ry, q2⟩ =>
    Calls.spliced_cons (thn (hf.run pins s2 σ H2 _ I2 q2) fun fv s3 ⟨z, H3, I3, rz, ov, g, q3⟩ => Calls.spliced_nil ?_))))
  exact dE_get2 hu I3 g ry rz fun w' s4 I4 rw' => ⟨_, H3, I4, rw', q3⟩
theorem isD_rep {K : PySem.W.Frag} {fa : Nat → Addr} {F H : Hp} {v : V} {kvs : List (D × D)} (sub : SL F H) (r : Rep K fa F v (.dct kvs)) : ∃ a, v = .ref a ∧ IsD H a := by
  cases r with
  | @dct a ks _ g1 g2 => exact ⟨a, rfl, .inl ⟨ks, sub.rd g1⟩⟩
  | @dcp a ks _ g1 _ g2 => exact ⟨a, rfl, .inr ⟨ks, sub.rd g1⟩⟩
theorem eI_dg1 : eI cf (.dg1 ia ib) = fun env => bnd (asV (eI cf ia) env) fun d e1 => match d with
    | .dct kvs => bnd (asV (eI cf ib) e1) fun y e2 => okR ((getD1 kvs y).map fun o => .val (o.getD .non)) e2
    | _ => none := by
  funext env
  rw [asV_bnd]
  show bnd (eI cf ia env) _ = _
  congr 1
  funext r e
  cases r.d with
  | dct kvs => simp only [asV_bnd]
  | _ => rfl
theorem eI_dg2 : eI cf (.dg2 ia ib ic) = fun env => bnd (asV (eI cf ia) env) fun d e1 => match d with
    | .dct kvs => bnd (asV (eI cf ib) e1) fun y e2 => bnd (asV (eI cf ic) e2) fun x e3 => okR ((getD1 kvs y).map fun o => .val (o.getD x)) e3
    | _ => none := by
  funext env
  rw [asV_bnd]
  show bnd (eI cf ia env) _ = _
  congr 1
  funext r e
  cases r.d with
  | dct kvs => simp only [asV_bnd]
  | _ => rfl
theorem s_dg1 (hu : X.A.units + 64 < cLine) (ha : PI' X fa cf a ia) (hb : PI' X fa cf b ib) (m : M1 X a "get" apos b pos) : PI' X fa cf (.Call (.Attribute a "get" apos) [b] [] pos) (.dg1 ia ib) :=
  pe_weak (pe_dget1E (by omega) (pe_asV ha) (pe_asV hb) m) fun σ H Q ⟨F, env, q⟩ => by
    rw [eI_dg1] at q
    refine ⟨F, env, At.bnd (Rl := vRep X.K fa) q fun d e1 F1 H1 v s1 r1 h1 => ?_⟩
    cases d with
    | dct kvs =>
      obtain ⟨a, rfl, hd⟩ := isD_rep h1.ok.sub r1
      refine ⟨a, rfl, hd, F1, e1, At.bnd (Rl := vRep X.K fa) h1 fun y e2 F2 H2 w s2 r2 h2 => ?_⟩
      cases hk : getD1 kvs y with
      | none => exact (h2.no (by rw [hk]; rfl)).elim
      | some o =>
        obtain ⟨a', o', ea, g, z⟩ := dct_get h2.ok.sub (r1.mono s2.sub) r2 hk
        cases ea
        refine ⟨o', g, ?_⟩
        rcases z with ⟨rfl, rfl⟩ | ⟨x, d, rfl, rfl, rx⟩
        · exact h2.ret (a := .val .non) (by simp only [hk]; rfl) (Step.refl h2.ok) Rep.non
        · exact h2.ret (a := .val d) (by simp only [hk]; rfl) (Step.refl h2.ok) rx
    | _ => exact (h1.no rfl).elim
theorem s_dg2 (hu : X.A.units + 64 < cLine) (ha : PI' X fa cf a ia) (hb : PI' X fa cf b ib) (hc : PI' X fa cf c ic) (m : M2 X a "get" apos b c pos) : PI' X fa cf (.Call (.Attribute a "get" apos) [b, c] [] pos) (.dg2 ia ib ic) :=
  pe_weak (pe_dget2E (by omega) (pe_asV ha) (pe_asV hb) (pe_asV hc) m) fun σ H Q ⟨F, env, q⟩ => by
    rw [eI_dg2] at q
    refine ⟨F, env, At.bnd (Rl := vRep X.K fa) q fun d e1 F1 H1 v s1 r1 h1 => ?_⟩
    cases d with
    | dct kvs =>
      obtain ⟨a, rfl, hd⟩ := isD_rep h1.ok.sub r1
      refine ⟨a, rfl, hd, F1, e1, At.bnd (Rl := vRep X.K fa) h1 fun y e2 F2 H2 w s2 r2 h2 => ⟨F2, e2, At.bnd (Rl := vRep X.K fa) h2 fun x e3 F3 H3 u s3 r3 h3 => ?_⟩⟩
      cases hk : getD1 kvs y with
      | none => exact (h3.no (by rw [hk]; rfl)).elim
      | some o =>
        obtain ⟨a', o', ea, g, z⟩ := dct_get h3.ok.sub (r1.mono (s2.sub.trans s3.sub)) (r2.mono s3.sub) hk
        cases ea
        refine ⟨o', g, ?_⟩
        rcases z with ⟨rfl, rfl⟩ | ⟨x', d, rfl, rfl, rx⟩
        · exact h3.ret (a := .val x) (by simp only [hk]; rfl) (Step.refl h3.ok) r3
        · exact h3.ret (a := .val d) (by simp only [hk]; rfl) (Step.refl h3.ok) rx
    | _ => exact (h1.no rfl).elim
end
end DI

namespace DI
open PySem L2

/-! ### errors with an __init__ of their own: super().__init__('..'), self.x = x -/
abbrev xiBody (m : Str) (j : Nat) (x : Str) (p0 p1 p2 p3 p4 p5 p6 p7 p8 p9 : Pos) : List Stmt :=
  [.Expr (.Call (.Attribute (.Call (.Name "super" p0) [] [] p1) "__init__" p2) [.Constant (.str m) j p3] [] p4) p5, .Assign [.Attribute (.Name "self" p6) x p7] (.Name x p8) p9]
abbrev xiArgs (x : Str) (q1 q2 : Pos) : Arguments := ⟨[], [⟨"self", none, q1⟩, ⟨x, none, q2⟩], none, [], [], none, []⟩
abbrev xiScope (x : Str) : Scope := { kind := .function, names := [("self", .local), (x, .local), ("__class__", .free), ("super", .globalImplicit)], isGenerator := false, isCoroutine := false, more := [] }
abbrev xiFn (qual : Str) (m : Str) (j : Nat) (x : Str) (p0 p1 p2 p3 p4 p5 p6 p7 p8 p9 q1 q2 : Pos) (cc : Addr) (kV doc pm : Value) (an : Option Addr) (cdv ct : Value) : FuncData :=
  PySem.W.fnX "__init__" qual (xiArgs x q1 q2) (xiBody m j x p0 p1 p2 p3 p4 p5 p6 p7 p8 p9) (xiScope x) [("__class__", cc)] .none kV doc pm an cdv ct
/-- the text that runs: its file, no name super at its top -/
structure PfOk (P : Program) (pf : Str) : Prop where
  file : P.main.file = pf
  top : (P.main.scope.names.lookup ("super" : Str)).isSome = false
/-- such an __init__ as it is written -/
structure XN where
  qual : Str
  m : Str
  j : Nat
  p0 : Pos
  p1 : Pos
  p2 : Pos
  p3 : Pos
  p4 : Pos
  p5 : Pos
  p6 : Pos
  p7 : Pos
  p8 : Pos
  p9 : Pos
  q1 : Pos
  q2 : Pos
def XN.none : XN := let p : Pos := ⟨0, 0, 0, 0⟩; ⟨Str.empty, Str.empty, 0, p, p, p, p, p, p, p, p, p, p, p, p⟩
def xnArgs (n : XN) : List Arg → XN
  | [a, b] => { n with q1 := a.pos, q2 := b.pos }
  | _ => n
def xnSup (n : XN) : Expr → XN
  | .Call (.Attribute (.Call (.Name _ p0) _ _ p1) _ p2) [.Constant (.str m) j p3] _ p4 => { n with m := m, j := j, p0 := p0, p1 := p1, p2 := p2, p3 := p3, p4 := p4 }
  | _ => n
def xnSet (n : XN) : Stmt → XN
  | .Assign [.Attribute (.Name _ p6) _ p7] (.Name _ p8) p9 => { n with p6 := p6, p7 := p7, p8 := p8, p9 := p9 }
  | _ => n
def xnBody (n : XN) : List Stmt → XN
  | [.Expr e p5, st] => xnSet { xnSup n e with p5 := p5 } st
  | _ => n
def xnOf (qual : Str) (st : Stmt) : XN := xnBody (xnArgs { XN.none with qual := qual } (defArgs st).args) (defBody st)
/-- the names that such an __init__ may keep its value by -/
def xiNames : List Str := ["value", "name", "many"]
structure XName (x : Str) : Prop where
  bd : ∀ (qual m : Str) (j : Nat) (p0 p1 p2 p3 p4 p5 p6 p7 p8 p9 q1 q2 : Pos) (cc : Addr) (kV doc pm : Value) (an : Option Addr) (cdv ct u v : Value),
    bindArgs (xiFn qual m j x p0 p1 p2 p3 p4 p5 p6 p7 p8 p9 q1 q2 cc kV doc pm an cdv ct) ⟨[u, v], []⟩ = pure [(("self" : Str), u), (x, v)]
  k1 : (xiScope x).names.lookup ("self" : Str) = some .local
  k2 : (xiScope x).names.lookup x = some .local
  k3 : (xiScope x).names.lookup ("__class__" : Str) = some .free
  k4 : (xiScope x).names.lookup ("super" : Str) = some .globalImplicit
  k5 : (x == ("__debug__" : Str)) = false
  k6 : x ≠ "self"
theorem xname_of {x : Str} (h : x ∈ xiNames) : XName x := by
  simp only [xiNames, List.mem_cons, List.not_mem_nil, or_false] at h
  rcases h with rfl | rfl | rfl <;> exact ⟨fun _ _ _ _ _ _ _ _ _ _ _ _ _ _ _ _ _ _ _ _ _ _ _ _ => by rfl, by rfl, by rfl, by rfl, by rfl, by rfl, by decide⟩
structure XInit (pf : Str) (K : PySem.W.Frag) (C : Addr) (x : Str) : Prop where
  bs : ∃ (B newId initId : String) (bmB : List Value), ExcBaseFacts B newId initId bmB ∧ PySem.W.KxsFacts B initId ∧ StoreFacts B bmB "object.__setattr__" "object" ∧ PySem.W.excInitIn K C bmB newId = true ∧ PySem.W.excOver K C bmB = true ∧
    PySem.W.ks_superIn K C C "__init__" = some (some (.builtin initId)) ∧ PySem.W.subIn K (.ref C) (.type B) = some true
  fn : ∃ (fI : Addr) (oc : Value) (od : Option Addr) (osl : Array (Option Value)) (qual m : Str) (j : Nat) (p0 p1 p2 p3 p4 p5 p6 p7 p8 p9 q1 q2 : Pos) (cc : Addr) (kV doc pm : Value) (an : Option Addr) (cda : Addr) (ct : Value) (ccl : Value) (cdd : Option Addr) (vs : Array Value) (ccs : Array (Option Value)) (file : Str) (tf : Tok) (cl : Value) (cld : Option Addr) (csl : Array (Option Value)),
    PySem.W.findIn K (.ref C) "__init__" = some (some (.ref fI)) ∧ K.lookup fI = some ⟨oc, od, .func (xiFn qual m j x p0 p1 p2 p3 p4 p5 p6 p7 p8 p9 q1 q2 cc kV doc pm an (.ref cda) ct), osl⟩ ∧ PySem.W.codeIn K (.ref cda) qual = true ∧
    K.lookup cda = some ⟨ccl, cdd, .fields vs, ccs⟩ ∧ vs[2]? = some (.str file tf) ∧ (pf == file) = true ∧ K.lookup cc = some ⟨cl, cld, .cell (some (.ref C)), csl⟩ ∧ (p2.endLine == p4.line) = true ∧ PySem.W.typeIn K (.ref fI) = some (.type "function")
  nm : XName x
  op : PySem.W.nsIn K cStatics "thirdparty.any" = some none
  su : PySem.W.nsIn K mainGlobals "super" = some none
  me : PySem.W.mroIn K C (.ref C) = some true
  sa : PySem.W.findIn K (.ref C) "__setattr__" = some (some (.builtin "object.__setattr__"))
  tk : PySem.W.takerIn K C x = some none
  hd : PySem.W.hasDictIn K C = true
  exC : PySem.W.subIn K (.ref C) (.type "BaseException") = some true
  tyC : PySem.W.typeIn K (.ref C) = some (.type "type")
  kC : PySem.W.keepIn K (.ref C) = true
/-- o.__init__('..') with its end in the line where the call begins -/
theorem xi_call {o : Expr} {p2 p3 p4 : Pos} {m : Str} {j : Nat} {env : Env} (hp : (p2.endLine == p4.line) = true) : eval (.Call (.Attribute o "__init__" p2) [.Constant (.str m) j p3] [] p4) env = (do
      let ov ← attributeBase o "__init__" env (eval o env)
      standAt p2.atName
      let (f, first) ← holding [ov] (getMethod ov "__init__" (do return (← importBound o env).getD true))
      callWith p4 f first (backTo p4 (starEach [.Constant (.str m) j p3] env)) []) := by
  have e : methodCallPos true o env p2 p4 = pure p4 := by
    unfold methodCallPos
    rw [hp]
    rfl
  have z : eval (.Call (.Attribute o "__init__" p2) [.Constant (.str m) j p3] [] p4) env = (do
      let ov ← attributeBase o "__init__" env (eval o env)
      standAt p2.atName
      let (f, first) ← holding [ov] (getMethod ov "__init__" (do return (← importBound o env).getD true))
      let p ← methodCallPos true o env p2 p4
      callWith p f first (backTo p (starEach [.Constant (.str m) j p3] env)) []) := by rfl
  rw [z, e]
  rfl
section
open Builtin Builtin.ObjectAttr
variable {P : Program} {w : World} {A : Around} {E : Value → Shared → Prop} {K : PySem.W.Frag} {C : Addr} {x : Str} {mg : Str → Option Value} {base h : Heap} {g : Array GenState} {d : Drawn} {t : Nat} {os : OsState}
/-- B.__init__ bound to an object, called -/
theorem xi_bound {B newId initId : String} {bmB : List Value} (FB : ExcBaseFacts B newId initId bmB) (X : K.In h) (q : PySem.W.excInitIn K C bmB newId = true) {u e t0 : Addr} {rest : List Value} {Q : Value → Shared → Prop}
    (hu : h.get? u = some (PySem.W.kxs_mw initId e)) (he : h.get? e = some (HandSPX.excO C t0)) (hz : rest.length ≤ sizeLine)
    (hq : ∀ h' t1, (∀ b o, b ≠ e → h.get? b = some o → h'.get? b = some o) → h'.get? e = some (HandSPX.excO C t1) → Q .none ⟨h', g, d, t, os⟩) : wpAny (model P w) A (call (.ref u) rest) Q E ⟨h, g, d, t, os⟩ := by
  obtain ⟨nm, N', qn, bs, bm, hdct, sn, sub, ab, col, dd, k0, k1, k2, k3, k5, hC, hT⟩ := PySem.W.excInit_of X q
  refine wpAny_call (codeAny_of_tree ?_)
  show wpAny _ A.in1 (callAny (.ref u) ⟨rest, []⟩) _ _ _
  simp only [callAny]
  refine wpAny_bind (wpAny_load hu ?_)
  simp only [PySem.W.kxs_mw, show (Value.type "method-wrapper" == Value.type "method" || Value.type "method-wrapper" == Value.type "builtin_function_or_method" || Value.type "method-wrapper" == Value.type "method-wrapper") = true by decide, if_true]
  refine PySem.W.KFB.if_so (by decide) ?_
  refine wpAny_bind (PySem.W.check_bound_init FB.toExcCallFacts hC he rfl ?_)
  refine wpAny_bind (wpAny_pure (wpAny_pure ?_))
  refine ⟨plainId_quiet FB.init.plain _, codeAny_builtin FB.initEntry ?_⟩
  exact PySem.W.exc_init_tree (cls := .ref C) (t0 := t0) (dv := none) (c2 := .none) (c3 := .none) (b4 := .bool false) he hz fun h' k e' _ => hq h' _ k e'
/-- the first field of an error -/
theorem xi_store {B : String} {bmB : List Value} (SF : StoreFacts B bmB "object.__setattr__" "object") (X : K.In h) (hp : PySem.W.excOver K C bmB = true) (ht : PySem.W.takerIn K C x = some none) (hh : PySem.W.hasDictIn K C = true) (hs : PySem.W.findIn K (.ref C) "__setattr__" = some (some (.builtin "object.__setattr__")))
    {e t0 : Addr} {v : Value} {Q : Unit → Shared → Prop} (he : h.get? e = some (HandSPX.excO C t0))
    (hq : ∀ h' t' dx, (∀ b o, b ≠ e → h.get? b = some o → h'.get? b = some o) → h.objs.size ≤ dx → dx ≠ e → h'.get? e = some { cls := .ref C, dict := some dx, data := .fields #[.ref t0, .none, .none, .none, .bool false, .none] } →
      h'.Ns1 dx (fun y => if y = x then some v else none) → Q () ⟨h', g, d, t', os⟩) : wpAny (model P w) A (setAttr (.ref e) x v) Q E ⟨h, g, d, t, os⟩ := by
  have hes : e ≠ h.objs.size := Nat.ne_of_lt (Heap.lt_size he)
  refine PySem.W.set_plain X (ox := HandSPX.excO C t0) (od := none) ⟨he, rfl, rfl, trivial⟩ hs ?_
  refine PySem.W.osa_openX (od := none) SF X ⟨he, rfl, rfl, trivial⟩ hp ht fun b => ?_
  obtain ⟨cd, hc, hd'⟩ := PySem.W.any_some hh
  have hcls : PySem.W.Looks (model P w) h (classData C) cd := PySem.W.looks_clsIn X hc
  obtain ⟨nm, bs, mro, ns, qn, hd, sn, sb, ab, col, del⟩ := cd
  dsimp only at hd'
  subst hd'
  show wpAny _ _ (storeInOwnDict (.ref e) (.ref C) (.str x _) x v b) _ _ _
  unfold storeInOwnDict ownDictForStores
  repeat (first | with_reducible refine HandSPX.store_in_new ?_ ?_ | with_reducible refine wpAny_loadPart_at he ?_ | with_reducible refine hcls.at ?_ | wp_step)
  · exact ⟨_, #[], _, (Heap.get?_update_ne _ _ _ _ hes.symm).trans (Heap.get?_push_at rfl rfl), rfl, fun e he => absurd he (by simp), fun _ => rfl⟩
  · intro h' tk' hn' hs
    have hx₁ : (h.push { cls := .type "dict", data := .dict #[] }).get? e = some (HandSPX.excO C t0) := Heap.get?_push_of_some _ he
    refine hq h' tk' h.objs.size (fun b o hb ho => ?_) (Nat.le_refl _) hes.symm ?_ hn'
    · exact (hs.2 b (Nat.ne_of_lt (Heap.lt_size ho))).trans ((Heap.get?_update_ne _ _ _ _ hb).trans (Heap.get?_push_of_some _ ho))
    · exact (hs.2 e hes).trans (Heap.get?_update_self _ hx₁ rfl)
/-- such an __init__ -/
theorem xi_run {pf : Str} (hP : PfOk P pf) (T : XInit pf K C x) (M : Mod K mg base) (bk : ∀ b o, base.get? b = some o → h.get? b = some o) (hroom : A.depth < recursionLimit) {fI e t0 : Addr} {v : Value} {R : Result → Shared → Prop}
    (hfi : PySem.W.findIn K (.ref C) "__init__" = some (some (.ref fI))) (he : h.get? e = some (HandSPX.excO C t0)) (hbe : base.get? e = none)
    (hq : ∀ h' t' dx t1, (∀ b o, b ≠ e → h.get? b = some o → h'.get? b = some o) → h.objs.size ≤ dx → dx ≠ e → h'.get? e = some { cls := .ref C, dict := some dx, data := .fields #[.ref t1, .none, .none, .none, .bool false, .none] } →
      h'.Ns1 dx (fun y => if y = x then some v else none) → R (.ok (.ret .none)) ⟨h', g, d, t', os⟩) : codeAny (model P w) A (.call (.ref fI) ⟨[.ref e, v], []⟩) R ⟨h, g, d, t, os⟩ := by
  obtain ⟨B, newId, initId, bmB, FB, KF, SF, q1, q2, q3, q4⟩ := T.bs
  obtain ⟨fI', oc, od, osl, qual, m, j, p0, p1, p2, p3, p4, p5, p6, p7, p8, p9, r1, r2, cc, kV, doc, pm, an, cda, ct, ccl, cdd, vs, ccs, file, tf, cl, cld, csl, f1, f2, f3, f4, f5, f6, f7, hpos, f8⟩ := T.fn
  rw [hfi] at f1
  cases f1
  have X : K.In h := M.kin.keeps bk
  have N := T.nm
  obtain ⟨mb, b1, b2⟩ := M.blt
  have mgS : mg "super" = none := PySem.W.mg_none_of M.kin M.glob T.su
  obtain ⟨cdC, hcC⟩ : ∃ cd, PySem.W.clsIn K C = some cd := by
    have z := T.me
    unfold PySem.W.mroIn at z
    cases q : PySem.W.clsIn K C with
    | none => rw [q] at z; cases z
    | some cd => exact ⟨cd, rfl⟩
  obtain ⟨oD, hD1, hD2⟩ : ∃ oD, K.lookup C = some oD ∧ oD.data = .cls cdC := by
    have z := hcC
    unfold PySem.W.clsIn at z
    split at z
    · rename_i c d cd' sl ho
      cases z
      exact ⟨_, ho, rfl⟩
    · cases z
  have eC : e ≠ C := fun z => by
    have y := X _ _ hD1
    rw [← z, he] at y
    cases y
    cases hD2
  refine ks_codeAny_call_defAt (body := xiBody m j x p0 p1 p2 p3 p4 p5 p6 p7 p8 p9) (binds := [("self", .ref e), (x, v)]) hroom (X _ _ f2) rfl (M.nolimit.keeps bk) (PySem.W.codeRec_of X f3) rfl (BindsTo.of_eq (N.bd _ _ _ _ _ _ _ _ _ _ _ _ _ _ _ _ _ _ _ _ _ _ _ _)) ?_ ?_ (fun h1 hns k1 => ?_) rfl rfl rfl
  · intro z hz
    simp only [List.mem_cons, List.not_mem_nil, or_false] at hz
    rcases hz with rfl | rfl | rfl | rfl <;> exact (by intro q; cases q)
  · intro z hz
    simp only [List.mem_cons, List.not_mem_nil, or_false] at hz
    rcases hz with rfl | rfl
    · exact N.k1
    · exact N.k2
  have X1 : K.In h1 := X.keeps k1
  have up1 : ∀ b o, base.get? b = some o → h1.get? b = some o := fun b o z => k1 b o (bk b o z)
  have he1 := k1 _ _ he
  obtain ⟨oL, esL, epL, hL, rL⟩ := hns
  have bl1 : (List.reverse [(("self" : Str), Value.ref e), (x, v)]).lookup ("self" : Str) = some (.ref e) := by
    have z : (("self" : Str) == x) = false := by simpa using Ne.symm N.k6
    simp [List.lookup, z]
  have bl2 : (List.reverse [(("self" : Str), Value.ref e), (x, v)]).lookup x = some v := by
    simp [List.lookup]
  have hz : L2.St → True := fun _ => trivial
  refine ks_wpAt_execs_cons (ks_wpAt_Expr_any (ks_wpAt_MethodCall (ks_wpAt_super_base (f := fI) (cc := cda) N.k4 N.k3 rfl rfl (X1 _ _ f2) rfl rfl rfl (X1 _ _ f4) rfl f5 (by rw [hP.file]; exact f6) hP.top ?_) (he := xi_call hpos)))
  refine PySem.W.ks_loadName_global rfl N.k4 (PySem.Calls.loadGlobal_builtin (M.glob.keeps up1) mgS (b1.keeps up1) ((b2 _ (by decide)).trans (by rfl)) ⟨rfl, ?_⟩)
  refine wpAny_loadName_free rfl N.k3 rfl ⟨_, X1 _ _ f7, rfl⟩ ?_
  refine wpAny_loadName_local rfl N.k1 ⟨oL, esL, epL, hL, rL⟩ bl1 ?_
  refine ks_wpAny_isType_cls (X1 _ _ hD1) hD2 ⟨rfl, ?_⟩
  refine ks_wpAny_call_super (X1 _ _ hD1) hD2 he1 rfl (fun c z => by cases z) (PySem.W.looks_mroIn X1 T.me) fun h2 e2 k2 => ?_
  have X2 := X1.keeps k2
  have he2 := k2 _ _ he1
  have I2 : PySem.W.InstAt h2 e (HandSPX.excO C t0) C none := ⟨he2, rfl, rfl, trivial⟩
  have hm : PySem.W.alongIn K "__init__" ((cdC.mro.dropWhile (· != .ref C)).drop 1) = some (some (.builtin initId)) := by
    have z := q3
    unfold PySem.W.ks_superIn at z
    rw [hcC] at z
    exact z
  refine PySem.W.kxs_getMethod KF e2 (PySem.W.looks_opaque X2 T.op) (l₀ := cdC.mro) (fun A Q E s k q => wpAny_bind ((PySem.W.looks_clsIn X2 hcC) A _ E s k (wpAny_pure q))) rfl X2 hm (I2.type.andThen (PySem.W.looks_subIn X2 q4)) eC rfl ?_
  have k3 : ∀ b o, h2.get? b = some o → (h2.push (PySem.W.kxs_mw initId e)).get? b = some o := fun b o z => Heap.get?_push_of_some _ z
  have eu : (h2.push (PySem.W.kxs_mw initId e)).get? h2.objs.size = some (PySem.W.kxs_mw initId e) := Heap.get?_push_at rfl rfl
  refine PySem.W.kxs_callWith (i := initId) (x := e) (by rfl) (PySem.Calls.evalArgs_plain (PySem.Calls.spliced_cons (PySem.Calls.Constant_str (k := j) (pos := p3) (PySem.Calls.spliced_nil ⟨eu, ?_⟩))))
  have ne2 : h2.objs.size ≠ e := fun z => Nat.lt_irrefl _ (by rw [← z] at he2; exact Heap.lt_size he2)
  refine xi_bound FB (X2.keeps k3) q1 eu (k3 _ _ he2) (by simp [sizeLine_eq]) fun h4 t1 k4 he4 => ?_
  have gg : ∀ b o, b ≠ e → h.get? b = some o → h4.get? b = some o := fun b o hb z => k4 b o hb (k3 _ _ (k2 _ _ (k1 _ _ z)))
  have Le : h.objs.size ≠ e := fun z => Nat.lt_irrefl _ (by have y := Heap.lt_size he; rw [← z] at y; exact y)
  have hL4 := k4 _ _ Le (k3 _ _ (k2 _ _ hL))
  have X4 : K.In h4 := M.kin.keeps fun b o z => gg b o (fun y => by rw [y, hbe] at z; cases z) (bk b o z)
  refine ks_wpAt_execs_cons (ks_wpAt_Assign_Attr ?_)
  refine wpAt_of_wpAny (wpAny_Name (wpAny_loadName_local rfl N.k2 ⟨oL, esL, epL, hL4, rL⟩ bl2 ?_) N.k5)
  refine wpAny_Name (wpAny_loadName_local rfl N.k1 ⟨oL, esL, epL, hL4, rL⟩ bl1 ?_) rfl
  refine xi_store SF X4 q2 T.tk T.hd T.sa he4 fun h5 t5 dx k5 hdx hne he5 hn5 => ?_
  exact wpAt_of_wpAny (wpAny_execs_nil (hq h5 t5 dx t1 (fun b o hb z => k5 b o hb (gg b o hb z)) (Nat.le_trans (Nat.le_of_lt (Heap.lt_size hL4)) hdx) hne he5 hn5))
end
section
variable {X : Cx} {C : Addr} {x n : Str} {e : Expr} {te : TE} {p pos : Pos}
/-- C(e) -/
theorem pmk_xi {pf : Str} (hP : PfOk X.prog pf) (T : XInit pf X.K C x) (hr : Room 1 X.A) (hg : Gl X n) (hm : X.mg n = some (.ref C)) (he : PE X e te) (hdb : (n == ("__debug__" : Str)) = false)
    (hs : starEach [e] X.env = (false, eval e X.env) :: starEach [] X.env) :
    PMk X (.Call (.Name n p) [e] [] pos) (fun σ H Q => te σ H fun y H1 => ∀ d, H1 d = none → Q (.ref C) (some d) (upd H1 d (.xd [(x, y)]))) := by
  intro pins s σ H Q I h
  have ha : PA X [e] (tCons te tNil) := pa_cons he pa_nil hs
  refine wpAny_Call_Name_kw (ld_glob I hg hm ?_ hdb)
  refine PySem.W.callWith_K (h₀ := X.base) I.ok.mod.kin T.kC (thn (ha.run pos pins s σ H (fun vs H1 => match vs with | [y] => ∀ d, H1 d = none → Q (.ref C) (some d) (upd H1 d (.xd [(x, y)])) | _ => False) I h) fun us s1 ⟨vs, H1, I1, r1, q0⟩ => ⟨I1.kIn, ?_⟩) hs rfl
  obtain ⟨y, rfl⟩ : ∃ y, vs = [y] := by
    match vs, q0 with
    | [y], _ => exact ⟨y, rfl⟩
  have q1 : ∀ d, H1 d = none → Q (.ref C) (some d) (upd H1 d (.xd [(x, y)])) := q0
  obtain ⟨u, rfl, ru⟩ : ∃ u, us = [u] ∧ RelV y u := by
    cases r1 with
    | cons ra rn =>
      cases rn
      exact ⟨_, rfl, ra⟩
  obtain ⟨B, newId, initId, bmB, FB, KF, SF, g1, g2, g3, g4⟩ := T.bs
  obtain ⟨fI, f1, f8⟩ : ∃ fI, PySem.W.findIn X.K (.ref C) "__init__" = some (some (.ref fI)) ∧ PySem.W.typeIn X.K (.ref fI) = some (.type "function") := by
    obtain ⟨fI', oc, od, osl, qual, m, j, p0, p1, p2, p3, p4, p5, p6, p7, p8, p9, r1, r2, cc, kV, doc, pm, an, cda, ct, ccl, cdd, vs, ccs, file, tf, cl, cld, csl, f1, f2, f3, f4, f5, f6, f7, hpos, f8⟩ := T.fn
    exact ⟨fI', f1, f8⟩
  obtain ⟨nm, N', qn, bs, bm, hdct, sn, sub, ab, col, dd, k0, k1, k2, k3, k5, hC, hT⟩ := PySem.W.excInit_of I1.kIn g1
  show wpAny _ _ (call (.ref C) [u]) _ _ _
  obtain ⟨hp, g, dr, tk, os⟩ := s1
  have hsz : hp.objs.size ≤ hp.objs.size + 1 := Nat.le_succ _
  have hn : H1 (hp.objs.size + 1) = none := I1.hok.fresh hsz
  have kk : ∀ b o, hp.get? b = some o → ((hp.push (PySem.W.kdv_tup [u])).push (PySem.HandSPX.excO C hp.objs.size)).get? b = some o := fun b o e => Heap.get?_push_of_some _ (Heap.get?_push_of_some _ e)
  have hget : ((hp.push (PySem.W.kdv_tup [u])).push (PySem.HandSPX.excO C hp.objs.size)).get? (hp.objs.size + 1) = some (PySem.HandSPX.excO C hp.objs.size) := by heap_get
  have I2 : Inv X pins σ (upd H1 (hp.objs.size + 1) (exo (hp.objs.size + 1) C none)) ⟨(hp.push (PySem.W.kdv_tup [u])).push (PySem.HandSPX.excO C hp.objs.size), g, dr, tk, os⟩ :=
    I1.laid (t' := tk) (a := hp.objs.size + 1) (o := exo (hp.objs.size + 1) C none) (h' := (hp.push (PySem.W.kdv_tup [u])).push (PySem.HandSPX.excO C hp.objs.size)) kk hsz (exo_ok hget)
  have hbe : X.base.get? (hp.objs.size + 1) = none := by
    cases z : X.base.get? (hp.objs.size + 1) with
    | none => rfl
    | some o => exact absurd (Heap.lt_size (I1.bk _ _ z)) (Nat.not_lt.mpr hsz)
  refine wpAny_call (PySem.HandSPX.call_own FB hT hC (PySem.W.looks_findIn I1.kIn f1) (fun self => PySem.W.bind_fn I1.kIn self f8) (by simp [sizeLine_eq]) ?_)
  refine xi_run (mg := X.mg) (base := X.base) hP T I1.ok.mod (fun b o z => kk b o (I1.bk b o z)) (hr.make C [u] []).depth f1 hget hbe fun h' t' dx t1 k hdx hne he' hn' => ?_
  have e2 : upd H1 (hp.objs.size + 1) (exo (hp.objs.size + 1) C none) (hp.objs.size + 1) = some (exo (hp.objs.size + 1) C none) := upd_same
  have hnd : upd H1 (hp.objs.size + 1) (exo (hp.objs.size + 1) C none) dx = none := I2.hok.fresh hdx
  have hd1 : H1 dx = none := by rw [upd_ne hne] at hnd; exact hnd
  have nd : ∀ {b : Addr} {o : Obj}, ((hp.push (PySem.W.kdv_tup [u])).push (PySem.HandSPX.excO C hp.objs.size)).get? b = some o → b ≠ dx := fun {b o} q => Nat.ne_of_lt (Nat.lt_of_lt_of_le (Heap.lt_size q) hdx)
  have na : ∀ {b : Addr}, upd H1 (hp.objs.size + 1) (exo (hp.objs.size + 1) C none) b = none → b ≠ hp.objs.size + 1 := fun {b} n z => by
    rw [z, e2] at n
    cases n
  have Un1 : Un (frs X.stack) [] (upd H1 (hp.objs.size + 1) (exo (hp.objs.size + 1) C none)) (upd (upd (upd H1 (hp.objs.size + 1) (exo (hp.objs.size + 1) C none)) dx (exd dx [(x, y)])) (hp.objs.size + 1) (exo (hp.objs.size + 1) C (some dx))) ((hp.push (PySem.W.kdv_tup [u])).push (PySem.HandSPX.excO C hp.objs.size)) h' := {
    keep := fun b o q n _ _ => k b o (na n) q
    slot := fun b o q n _ _ => ⟨o.slots, k b o (na n) q⟩
    free := fun b o q n _ => by rw [upd_ne (na n), upd_ne (nd q)]; exact n
    there := fun b o q _ => by
      by_cases hb : b = hp.objs.size + 1
      · exact ⟨_, by rw [hb]; exact he'⟩
      · exact ⟨o, k b o hb q⟩
    tups := fun b xs q => by rw [upd_ne (at_ne e2 q exo_tup), upd_ne (ne_of_none q hnd)]; exact q
    frzs := fun b o v q => by rw [upd_ne (at_ne e2 q exo_frz), upd_ne (ne_of_none q hnd)]; exact q
    tbls := fun b ps q => ⟨#[], by rw [upd_ne (at_ne e2 q exo_tbl), upd_ne (ne_of_none q hnd), q]; simp⟩ }
  have hok2 : HOk X.prog X.w (upd (upd (upd H1 (hp.objs.size + 1) (exo (hp.objs.size + 1) C none)) dx (exd dx [(x, y)])) (hp.objs.size + 1) (exo (hp.objs.size + 1) C (some dx))) h' := fun b o q => by
    by_cases hb : b = hp.objs.size + 1
    · subst hb
      rw [upd_same] at q
      cases q
      exact exo_ok he'
    · rw [upd_ne hb] at q
      by_cases hd : b = dx
      · subst hd
        rw [upd_same] at q
        cases q
        exact exd_ok hn' (relO_put (fs := []) ru fun g => True.intro)
      · rw [upd_ne hd] at q
        exact (I2.hok b o q).stay (fun c v hc z => k c v (by
            rcases hc with hc | hc
            · rw [hc]
              exact hb
            · exact at_ne e2 hc exo_own) z)
          (fun c hc => by rw [upd_ne (at_ne e2 hc exo_own), upd_ne (ne_of_none hc hnd)]; exact hc) (fun c xs hc => by rw [upd_ne (at_ne e2 hc exo_tup), upd_ne (ne_of_none hc hnd)]; exact hc)
  refine ⟨rfl, mk_end (fs := [(x, y)]) (raises_own T.exC T.tyC) I1 hsz kk Un1 hok2 rfl I1.bare upd_same ?_ hd1 ?_⟩
  · rw [upd_ne hne, upd_same]
  · have ez : upd (del (upd (upd (upd H1 (hp.objs.size + 1) (exo (hp.objs.size + 1) C none)) dx (exd dx [(x, y)])) (hp.objs.size + 1) (exo (hp.objs.size + 1) C (some dx))) (hp.objs.size + 1)) dx (.xd [(x, y)]) = upd H1 dx (.xd [(x, y)]) := by
      funext b
      by_cases hb : b = dx
      · rw [hb, upd_same, upd_same]
      · rw [upd_ne hb, upd_ne hb]
        by_cases hc : b = hp.objs.size + 1
        · rw [hc, del_same, hn]
        · rw [del_ne hc, upd_ne hc, upd_ne hb, upd_ne hc]
    rw [ez]
    exact q1 dx hd1
end
section
variable {X : Cx} {fa : Fa} {cf : CF} {pos : Pos} {a : Expr} {ia : I}
theorem step_froz {K : PySem.W.Frag} {fa : Fa} {F H : Hp} {σ : L2.St} {env : Ev} (o : Ok K fa F H σ env) {p : Addr} {ho : HO} (hp : H p = none) (hnt : ntb ho) : Step K fa F H σ env (upd F p ho) (upd H p ho) σ env := by
  have hF := sub_none o.sub hp
  have np : ∀ q, Own K fa F H σ env q → q ≠ p := fun q hq e => by
    subst e
    obtain ⟨_, u, z⟩ := o.own_at hq
    rw [hp] at z; cases z
  have c : Calm K fa F H (upd F p ho) (upd H p ho) σ env := fun q hq => ⟨upd_ne (np q hq), by rw [upd_ne (np q hq)]; exact (o.own_at hq).1⟩
  refine ⟨same_upd hF, fun x u e _ => ?_, fun x h1 h2 _ => ?_, o.more (same_upd hF) (same_upd2 o.sub) c (tabs_froz o.tabs hp hnt o.sub), fun _ h => .inl (o.ownsame (same_upd hF) c h), fun _ xs h => ⟨rfl, xs, h⟩⟩
  · exact .of (by rw [upd_ne (ne_of_none e hp)]; exact e)
  · have : x ≠ p := fun e => by subst e; exact h1 hp
    rw [upd_ne this]; exact h2
/-- raise C(a), C with such an __init__ -/
theorem b_rs1 {pf : Str} {c f : Nat} {x : Str} {p1 p3 : Pos} (hc : X.calm = true) (tk : Takes X fa.W) (hP : PfOk X.prog pf) (T : XInit pf X.K (fa.C c) (nm f)) (hr : Room 1 X.A) (gC : X.mg x = some (.ref (fa.C c))) (hg : Gl X x) (hdb : (x == ("__debug__" : Str)) = false)
    (ha : PI' X fa cf a ia) (hs : starEach [a] X.env = (false, eval a X.env) :: starEach [] X.env) :
    PS' X fa cf (.Raise (some (.Call (.Name x p1) [a] [] p3)) none pos) (.rs c (some f) ia) := ps_weak (ps_raise hc tk (pmk_xi hP T hr hg gC (pe_asV ha) hdb hs)) fun D σ H ⟨F, env, h⟩ => by
  rw [eS_rs] at h
  have h2 : AtS X.K fa (fun env => bnd (asV (eI cf ia) env) fun y e1 => some (.error ⟨c, [(f, y)]⟩, e1)) F H σ env D := h.cast (by
    simp only [asV]
    cases eI cf ia env with
    | none => rfl
    | some oe => obtain ⟨o, e1⟩ := oe; cases o <;> rfl)
  refine ⟨F, env, AtSB.bnd (Rl := vRep X.K fa) h2.b fun y e1 F1 H1 v s1 r1 h1 dd hdd => ?_⟩
  have st := step_froz (ho := .xd [(nm f, v)]) h1.1.ok hdd (fun ps z => by cases z)
  refine h1.err (x := ⟨c, [(f, y)]⟩) rfl (h1.1.trans st) ⟨rfl, .inr ⟨dd, [(nm f, v)], by simp, rfl, upd_same, .cons rfl ?_ .nil⟩⟩
  exact Rep.mono st.sub r1
/-- the field of the error that is handled -/
theorem eI_xfld {i c f : Nat} : eI cf (.xfld i c f) = fun env => match env[i]? with
    | some (.exc x) => if x.c < 1000000 ∧ x.c = c then match x.fs.lookup f with
      | some d => some (.ok (.val d), env)
      | none => none
      else none
    | _ => none := rfl
def XfOk (X : Cx) (fa : Fa) : Prop := ∀ (cf : CF) (i c f : Nat) (x : Str) (p1 pos : Pos), f < nmT.length → XfC X.K (fa.C c) → PySem.W.findIn X.K (.ref (fa.C c)) (nm f) = some none → X.N[i]? = some x → Vis X.env.scope x → (x == ("__debug__" : Str)) = false → (x == ("__classdict__" : Str)) = false →
  PE X (.Attribute (.Name x p1) (nm f) pos) (tI X.K fa (eI cf (.xfld i c f)))
theorem xf_suite {X : Cx} {fa : Fa} {a : Addr} {oe : Obj} {cls : Value} {d : Option Addr} {pn : List (Addr × Obj)} (hz : Zc cls d oe) (hf : ∃ vs, oe.data = .fields vs) : XfOk (X.suite a ((a, oe) :: pn)) (fa.su X.K a cls d) := by
  intro cf i c f x p1 pos hfl T hno hN hv hd hcd
  refine ⟨fun pins s σ H Q I0 ⟨F, env, q⟩ => ?_⟩
  rw [eI_xfld] at q
  cases he : env[i]? with
  | none => exact (q.no (by simp only [he])).elim
  | some sl =>
  cases sl with
  | exc y =>
    by_cases hc : y.c < 1000000 ∧ y.c = c
    · cases hl : y.fs.lookup f with
      | none => exact (q.no (by simp only [he, if_pos hc, hl])).elim
      | some z =>
      obtain ⟨b, v1, v2⟩ := q.ok.exc i y he
      rcases v2 with ⟨_, rfl, x1, x2⟩ | ⟨v2, _⟩
      · rcases x2 with ⟨e0, rfl⟩ | ⟨dd, kvs, x3, x4, x5, x6⟩
        · rw [e0] at hl; cases hl
        · obtain ⟨v, g1, g2⟩ := x6.get hfl hl
          have T' : XfC X.K (fa.C y.c) := by rw [hc.2]; exact T
          have hno' : PySem.W.findIn X.K (.ref (fa.C y.c)) (nm f) = some none := by rw [hc.2]; exact hno
          refine (pe_xf (X := X) (a := b) (pn := pn) T' hno' hz hf (pe_var (pos := p1) hN hv hd hcd)).run pins s σ H Q I0 ?_
          exact ⟨_, v1, rfl, x1, dd, kvs, v, x4, q.ok.sub.at x5 rfl, g1, q.ret (a := .val z) (by simp only [he, if_pos hc, hl]) (Step.refl q.ok) g2⟩
      · omega
    · exact (q.no (by simp only [he, if_neg hc])).elim
  | _ => exact (q.no (by simp only [he])).elim
end
end DI

namespace DI
open PySem L2

/-! ### a[b] by an own __getitem__ -/
/-- what is asked of such a class -/
structure GetC (K : PySem.W.Frag) (C f : Addr) : Prop where
  at_ : PySem.W.findIn K (.ref C) "__getitem__" = some (some (.ref f))
  fn : PySem.W.isFn K (.ref f) = true
  fi : PySem.W.fnIn K f = true
section
variable {X : Cx} {fa : Fa} {fns : List (Nat × Fn)} {k : Nat} {a b : Expr} {ia ib : I} {pos : Pos} {tb : List (Nat × Nat)}
def rOwnG (X : Cx) (fa : Fa) (fns : List (Nat × Fn)) (k : Nat) (tb : List (Nat × Nat)) (σ : L2.St) : V → V → Hp → VK → Prop := fun x y H Q =>
  ∃ p c dx kvs f, x = .ref p ∧ H p = some (.ins (fa.C c) dx kvs) ∧ tb.lookup c = some f ∧ spC X.K fa fa.tb fns k f [x, y] H Q (WE fa.W σ)
theorem pe_subG {ta tb' : TE} (G : FnG X.prog X.w X.K X.mg X.base fa fa.tb fns k) (tk : Takes X fa.W) (hg : X.A.guards = some []) (hu : X.A.units + 64 < cLine) (hr : tb ≠ [] → Room (4 * k + 1) X.A) (htb : ∀ c f, tb.lookup c = some f → GetC X.K (fa.C c) (fa.f f))
    (ha : PE X a ta) (hb : PE X b tb') (hs : PlainIx b) (hs2 : ∀ o i, subscripted b true o i = runValue (.builtin "lifetime.subscript" ⟨[o, i], []⟩)) :
    PE X (.Subscript a b pos) (fun σ H Q => ta σ H fun x H1 => tb' σ H1 fun y H2 => rItem X.K x y H2 Q ∨ rOwnG X fa fns k tb σ x y H2 Q) := by
  refine ⟨fun pins s σ H Q I h => ?_⟩
  refine PyProof.Rows.Subscript_ (binT ha hb I h fun v u s2 x y H2 I2 rx ry q => ?_)
  rcases q with q | ⟨p, c, dx, kvs, f, ex, ep, hc, q⟩
  · exact ixr_item hu a b pins s2 σ H2 x y v u Q I2 rx ry q (hs _ _)
  · subst ex
    obtain rfl : v = Value.ref p := rx
    have T := htb c f hc
    have hr1 := hr (fun z => by rw [z] at hc; cases hc)
    obtain ⟨mA, O, _, _, _, _⟩ := ins_get I2.hok ep
    obtain ⟨od, J, _⟩ := O.look
    have hfi := T.fi
    have hf : (fns.lookup f).isSome = true := by
      obtain ⟨F, io, ds, fp, o, out, _, _, h1, _⟩ := q
      exact callF_has h1
    unfold PySem.W.fnIn at hfi
    split at hfi
    · rename_i e
      unfold PyProof.Rows.subscriptTail getitemInPython
      refine wpAny_bind (wpAny_bind (wpAny_bind (J.type.here ((PySem.W.looks_findIn I2.kIn T.at_).here ?_))))
      dsimp only
      refine wpAny_bind (wpAny_load (I2.kIn _ _ e) (wpAny_pure ?_))
      dsimp only
      rw [hs2]
      refine wpAny_bind (wpAny_runValue (codeAny_builtin PySem.W.entry_sub ?_))
      unfold Builtin.«lifetime.subscript»
      refine wpAny_bind (PySem.W.special_fn I2.kIn J T.at_ (beq_iff_eq.mp T.fn) ?_)
      refine wpAny_call (codeAny_mono (G f hf X.A.in1 X.stack s2 H2 [.ref p, u] [.ref p, y] Q _ (in1_guards hg) hr1.in1 I2.env0.in1 (.cons rfl (.cons ry .nil)) q) fun r s' hq => ?_)
      cases r with
      | error er => exact passAt tk σ pins H2 s2 er s' I2 hq
      | ok fl =>
        cases fl with
        | ret w =>
          refine wpAny_pure ?_
          show wpAny _ _ (letTemporaryGo a (.ref p) w >>= fun _ => pure w) _ _ _
          exact wpAny_bind (wpAny_letTemporaryGo (wpAny_pure (I2.after hq)))
        | next => exact False.elim hq
        | brk => exact False.elim hq
        | cont => exact False.elim hq
    · cases hfi
theorem eI_item1t {cf : CF} {s : Nat} : eI cf (.item1 s tb ia) = fun env => if bound1 env s then bnd (eI cf ia env) fun r e1 => match (e1[s]? : Option Sl) with
      | some (.val d) => match mthOf tb d with
        | some f => rsC (cf f none [d, r.d]) e1
        | none => okR (opD .item [d, r.d]) e1
      | some (.own h) => match itemH h r.d with
        | some z => some (.ok (.val z), e1)
        | none => okR (opD .item [toD h, r.d]) (e1.set s (.val (toD h)))
      | some (.io h) => okR ((itemH h r.d).map .val) e1
      | _ => none
    else none := rfl
theorem s_item1t {i : Nat} {x : Str} {px : Pos} (G : FnG X.prog X.w X.K X.mg X.base fa fa.tb fns k) (tk : Takes X fa.W) (hg : X.A.guards = some []) (hu : X.A.units + 64 < cLine) (hr : tb ≠ [] → Room (4 * k + 1) X.A) (htb : ∀ c f, tb.lookup c = some f → GetC X.K (fa.C c) (fa.f f))
    (hN : X.N[i]? = some x) (hv : Vis X.env.scope x) (hd : (x == ("__debug__" : Str)) = false) (hcd : (x == ("__classdict__" : Str)) = false) (hb : PI' X fa (callF fns k) b ib) (hs : PlainIx b) (hs2 : ∀ o i, subscripted b true o i = runValue (.builtin "lifetime.subscript" ⟨[o, i], []⟩)) :
    PI' X fa (callF fns k) (.Subscript (.Name x px) b pos) (.item1 i tb ib) := pe_weak (pe_subG (tb := tb) G tk hg hu hr htb (pe_var hN hv hd hcd) (pe_asV hb) hs hs2) fun σ H Q ⟨F, env, h⟩ => by
  rw [eI_item1t] at h
  cases hb1 : bound1 env i with
  | false => exact (h.no (by rw [hb1]; rfl)).elim
  | true =>
    obtain ⟨d0, hd0⟩ := Option.isSome_iff_exists.mp hb1
    obtain ⟨v, _, hv1, _⟩ := look_rep h.ok hd0
    refine ⟨v, hv1, F, env, At.bnd (Rl := vRep X.K fa) (m := asV (eI (callF fns k) ib)) (g := fun d e1 => match (e1[i]? : Option Sl) with
      | some (.val d0) => match mthOf tb d0 with
        | some f => rsC (callF fns k f none [d0, d]) e1
        | none => okR (opD .item [d0, d]) e1
      | some (.own h) => match itemH h d with
        | some z => some (.ok (.val z), e1)
        | none => okR (opD .item [toD h, d]) (e1.set i (.val (toD h)))
      | some (.io h) => okR ((itemH h d).map .val) e1
      | _ => none) (h.cast (by rw [asV_bnd, hb1]; rfl)) fun d e1 F1 H1 y s1 r1 h1 => ?_⟩
    cases he : e1[i]? with
    | none => exact (h1.no (by rw [he])).elim
    | some z =>
      cases z with
      | un => exact (h1.no (by rw [he])).elim
      | exc z => exact (h1.no (by rw [he])).elim
      | val d1 =>
        obtain ⟨w, g1, g2⟩ := h1.ok.val i _ he
        rw [hv1] at g1; cases g1
        cases hm : mthOf tb d1 with
        | none =>
          obtain ⟨a', b', exy, hr⟩ := op_at ok_item (.cons g2 (.cons r1 .nil)) (h1.cast (m' := okR (opD .item [d1, d])) (by simp only [he, hm]))
          cases exy
          exact .inl hr
        | some f =>
          obtain ⟨c, fs, rfl, hc⟩ := mth_of hm
          obtain ⟨a, dx, kvs, rfl, e1', e2'⟩ := Rep.obj_of g2
          exact .inr ⟨a, c, dx, kvs, f, rfl, h1.ok.sub.at e1' rfl, hc, call_at (.cons g2 (.cons r1 .nil)) (h1.cast (m' := rsC (callF fns k f none [.obj c fs, d])) (by simp only [he, hm]))⟩
      | own x =>
        refine .inl ?_
        cases hx : itemH x d with
        | some z => exact itemH_at (held_iff.mpr (.inl he)) hv1 r1 (h1.cast (m' := okR ((itemH x d).map .val)) (by rw [he]; simp only [hx]; rfl))
        | none =>
          obtain ⟨v', G, g1, st, rp⟩ := Step.freezeSlot h1.ok he
          rw [hv1] at g1; cases g1
          obtain ⟨ok1, o1, e9, q1, q2⟩ := h1
          simp only [he, hx] at q1
          have h2 : At X.K fa (RRep X.K fa) (okR (opD .item [toD x, d])) G H1 σ (e1.set i (.val (toD x))) Q := ⟨st.ok, o1, e9, q1, q2.lift st⟩
          obtain ⟨a', b', exy, hr⟩ := op_at ok_item (.cons rp (.cons (Rep.mono st.sub r1) .nil)) h2
          cases exy
          exact hr
      | io x => exact .inl (itemH_at (held_iff.mpr (.inr he)) hv1 r1 (h1.cast (m' := okR ((itemH x d).map .val)) (by rw [he])))
end
/-! ### o.m(*y) -/
theorem starcall1_of {M : Model} {A : Around} {E : Value → Shared → Prop} {s : Shared} {env : Env} {o e2 : Expr} {m : Str} {p apos pos : Pos} {Q : Value → Shared → Prop} (hbase : attributeBase o m env (eval o env) = eval o env)
    (h : wpAny M A (eval o env) (fun ov s₁ => wpAny M A (getAttr ov m true) (fun f s₂ => wpAny M A (callWith pos f [] (backTo pos [(true, eval e2 env)]) []) Q E s₂) E s₁) E s) :
    wpAny M A (eval (.Call (.Attribute o m apos) [.Starred e2 p] [] pos) env) Q E s := by
  have hst : starEach [.Starred e2 p] env = [(true, eval e2 env)] := rfl
  have hke : backToKw pos (keywordEach [] env) = [] := rfl
  have hform : methodCallForm ([Expr.Starred e2 p].length + ([] : List Keyword).length) (backTo pos [(true, eval e2 env)]) [] = false := rfl
  have hpos : methodCallPos false o env apos pos = pure pos := rfl
  have hcal : ∀ ov, calleeOf false o env ov m = (getAttr ov m true >>= fun v => pure (v, [])) := fun _ => rfl
  rw [arm_eval_Call, hbase, hst, hke]
  refine wpAny_bind (wpAny_mono h (fun ov s₁ h₁ => ?_) fun _ _ x => x)
  refine wpAny_bind (wpAny_standAt ?_)
  unfold methodCall
  rw [hform, hpos, hcal]
  refine wpAny_bind (wpAny_holding (wpAny_bind (wpAny_mono h₁ (fun f s₂ h₂ => wpAny_pure ?_) fun _ _ x => x)))
  exact wpAny_bind (wpAny_pure h₂)
theorem run_Gc {X : Cx} {fa : Fa} {fns : List (Nat × Fn)} {k f : Nat} {pins : List (Addr × Obj)} {σ : L2.St} {H : Hp} {s : Shared} {Q : VK} {us : List Value} {vs : List V} (G : FnG X.prog X.w X.K X.mg X.base fa fa.tb fns k) (tk : Takes X fa.W) (hg : X.A.guards = some []) (hr : Room (4 * k) X.A) (I : Inv X pins σ H s) (r : Vals vs us) (h : spC X.K fa fa.tb fns k f vs H Q (WE fa.W σ)) :
    codeAny (model X.prog X.w) X.A (.call (.ref (fa.f f)) ⟨us, []⟩) (fun r s' => match r with
      | .ok (.ret v) => EP X pins σ Q v s'
      | .ok _ => False
      | .error e => X.xe e s') s := by
  have hf : (fns.lookup f).isSome = true := by
    obtain ⟨F, io, ds, fp, o, out, _, _, h1, _⟩ := h
    exact callF_has h1
  refine codeAny_mono (G f hf X.A X.stack s H us vs Q _ hg hr I.env0 r h) fun r s' hq => ?_
  cases r with
  | error e => exact passAt tk σ pins H s e s' I hq
  | ok fl => cases fl <;> first | exact I.after hq | exact False.elim hq
/-- something is laid that nobody holds -/
theorem step_laid {K : PySem.W.Frag} {fa : Fa} {F H : Hp} {σ : L2.St} {env : Ev} (o : Ok K fa F H σ env) {p : Addr} {u : HO} (hp : H p = none) : Step K fa F H σ env F (upd H p u) σ env := by
  have hF := sub_none o.sub hp
  have np : ∀ q, Own K fa F H σ env q → q ≠ p := fun q hq e => by
    subst e
    obtain ⟨_, u, z⟩ := o.own_at hq
    rw [hp] at z; cases z
  have c : Calm K fa F H F (upd H p u) σ env := fun q hq => ⟨upd_ne (np q hq), (o.own_at hq).1⟩
  have sub' : SL F (upd H p u) := o.sub.upd hF
  exact ⟨Same.refl _, fun x u e _ => .of (by rw [upd_ne (ne_of_none e hp)]; exact e), fun x _ h2 _ => h2, o.more (Same.refl _) sub' c (tabs_new o.tabs hp), fun _ h => .inl (o.ownsame (Same.refl _) c h), fun _ xs h => ⟨rfl, xs, h⟩⟩
theorem own_laid {K : PySem.W.Frag} {fa : Fa} {F H : Hp} {σ : L2.St} {env : Ev} (o : Ok K fa F H σ env) {p : Addr} {u : HO} (hp : H p = none) : ¬ Own K fa F (upd H p u) σ env p := fun z => by
  have np : ∀ q, Own K fa F H σ env q → q ≠ p := fun q hq e => by
    subst e
    obtain ⟨_, u, z⟩ := o.own_at hq
    rw [hp] at z; cases z
  have c : Calm K fa F H F (upd H p u) σ env := fun q hq => ⟨upd_ne (np q hq), (o.own_at hq).1⟩
  exact np p (o.ownsame (Same.refl _) c z) rfl
section
variable {X : Cx} {fa : Fa} {fns : List (Nat × Fn)} {k : Nat} {a e2 : Expr} {ia iy : I} {p apos pos : Pos} {tb : List (Nat × Nat)} {m : Str}
theorem s_methS (G : FnG X.prog X.w X.K X.mg X.base fa fa.tb fns k) (tk : Takes X fa.W) (hg : X.A.guards = some []) (hr : Room (4 * k) X.A) (hm : notNm m = true) (htb : ∀ c f, tb.lookup c = some f → Cls X.K (fa.C c) ∧ BMeth X.K (fa.C c) m (fa.f f))
    (ha : PI' X fa (callF fns k) a ia) (hy : PI' X fa (callF fns k) e2 iy) (hbase : attributeBase a m X.env (eval a X.env) = eval a X.env) :
    PI' X fa (callF fns k) (.Call (.Attribute a m apos) [.Starred e2 p] [] pos) (.meth ia tb (.star iy .nil)) := by
  refine ⟨fun pins s σ H Q I ⟨F, env, q⟩ => ?_⟩
  rw [eI_meth] at q
  refine starcall1_of hbase (thn ((pe_asV ha).run pins s σ H (fun x H1 => ∃ a dx kvs c f, x = V.ref a ∧ H1 a = some (.ins (fa.C c) dx kvs) ∧ tb.lookup c = some f ∧ kvs.lookup m = none ∧
    ∀ q, H1 q = none → StX.tStar X.K (tV X.K fa (asV (eI (callF fns k) iy))) (tVs X.K fa (eIs (callF fns k) .nil)) σ (upd H1 q (.met (fa.f f) a)) fun vs H2 => H2 q = some (.met (fa.f f) a) ∧ spC X.K fa fa.tb fns k f (x :: vs) H2 Q (WE fa.W σ)) I
    ⟨F, env, At.bnd (Rl := vRep X.K fa) q fun d e1 F1 H1 v s1 r1 h1 => ?_⟩) fun u s1 ⟨x, H1, I1, rx, a, dx, kvs, c, f, ex, ea, hc, l, q⟩ => ?_)
  · cases hd : mthOf tb d with
    | none => exact (h1.no (by rw [hd])).elim
    | some f =>
      obtain ⟨c, fs, rfl, hc⟩ := mth_of hd
      obtain ⟨a, dx, kvs, rfl, g1, g2⟩ := Rep.obj_of r1
      refine ⟨a, dx, kvs, c, f, rfl, h1.ok.sub.at g1 rfl, hc, g2.no hm, fun q hq => star_D ?_⟩
      have st := step_laid (u := .met (fa.f f) a) h1.ok hq
      have h1' := h1.cast (m' := fun e1 => bnd (eIs (callF fns k) (.star iy .nil) e1) fun ds e2 => rsC (callF fns k f none (.obj c fs :: ds)) e2) (by rw [hd])
      have h2 : At X.K fa (RRep X.K fa) (fun e1 => bnd (eIs (callF fns k) (.star iy .nil) e1) fun ds e2 => rsC (callF fns k f none (.obj c fs :: ds)) e2) F1 (upd H1 q (.met (fa.f f) a)) σ e1 Q := by
        obtain ⟨_, o1, e9, q1, q2⟩ := h1'
        exact ⟨st.ok, o1, e9, q1, q2.lift st⟩
      refine ⟨F1, e1, At.bnd (Rl := lRep X.K fa) h2 fun ds e2 F2 H2 vs s2 r2 h2 => ⟨?_, call_at (.cons (Rep.mono s2.sub r1) r2) h2⟩⟩
      have kp := s2.keep q _ upd_same fun z => own_laid h1.ok hq z
      exact kp.n (fun ps z => by cases z) fun z => z (sub_none h1.ok.sub hq)
  · subst ex
    obtain rfl : u = Value.ref a := rx
    obtain ⟨c1, c2⟩ := htb c f hc
    refine getbound_ok I1 ea c1 c2 l fun q1 s2 hq1 I2 => ?_
    refine PySem.W.ks_call (P := PySem.W.MethP X.K q1 (fa.f f) (.ref a)) rfl (PySem.W.keeps_M c2.fi) (PySem.W.ks_lone (thn ((pe_asV hy).run pins s2 σ _ _ I2 (q q1 hq1)) fun v1 s3 ⟨y, H2, I3, ry, b, xs, ey, hxs, q2⟩ => ?_))
    subst ey
    obtain rfl : v1 = Value.ref b := ry
    refine StX.star_any I3 hxs fun us s4 I4 rv => ?_
    have q3 := tNil_D (K := X.K) (fa := fa) q2
    rw [List.append_nil] at q3
    exact ⟨met_P I4 q3.1, wpAny_call (PySem.W.method_call (met_P I4 q3.1).1 (run_Gc (us := Value.ref a :: us) (vs := V.ref a :: xs) G tk hg hr I4 (.cons rfl rv) q3.2))⟩
end
/-! ### C.m(.., x = e), x keyword-only -/
theorem htk_of {a ve : Expr} {m kw : Str} {apos pos kpos : Pos} {args : List Expr} {env : Env} (hb : plainBase a = true) (hs : args.all (fun e => !isStar e) = true) (hn : args.length < 28) (hl : (apos.endLine == pos.line) = true) :
    eval (.Call (.Attribute a m apos) args [⟨some kw, ve, kpos⟩] pos) env = (do
      let ov ← eval a env
      standAt apos.atName
      let (f, first) ← holding [ov] (getMethod ov m (do return (← importBound a env).getD true))
      callWith pos f first (backTo pos (starEach args env)) (backToKw pos (keywordEach [⟨some kw, ve, kpos⟩] env))) := by
  show (do
    let ov ← attributeBase a m env (eval a env)
    standAt apos.atName
    methodCall a m apos pos env ov (args.length + 1) (backTo pos (starEach args env)) (backToKw pos (keywordEach [⟨some kw, ve, kpos⟩] env))) = _
  rw [base_of hb]
  have hf : methodCallForm (args.length + 1) (backTo pos (starEach args env)) (backToKw pos (keywordEach [⟨some kw, ve, kpos⟩] env)) = true := by
    unfold methodCallForm
    rw [noStarsAll hs]
    show (true && true && decide (args.length + 1 + 1 < 30)) = true
    have : args.length + 1 + 1 < 30 := by omega
    simpa using this
  unfold methodCall
  rw [hf]
  unfold calleeOf methodCallPos
  rw [hl]
  rfl

/-- the defs with a keyword-only parameter that is given keep what the denotation tells -/
def FnKG (P : Program) (w : World) (K : PySem.W.Frag) (mg : Str → Option Value) (base : Heap) (fb : Nat → Addr) (tb : List (Addr × Str)) (fns : List (Nat × Fn)) (k : Nat) : Prop :=
  ∀ (f n : Nat) (fn : Fn) (x : Str), fns.lookup f = some fn → fn.kd = .gv x → fn.np = n + 2 → ∀ (A : Around) (outer : List Env) (s : Shared) (H F : Hp) (us : List Value) (wp : Value) (vs : List V) (vp : V) (ds : List D) (dp : D) (z : Except Xc R) (Q : VK) (E : XK),
    A.guards = some [] → Room (4 * k) A → Env0 P w K mg base A outer s H → Tb tb F H → SL F H → RepL K fb F vs ds → Rep K fb F vp dp → Vals vs us → RelV vp wp → n ≤ ds.length → (callF fns k).k f (ds.take n ++ dp :: ds.drop n) = some z →
    (∀ F' H', CSt K fb tb F H [] [] F' H' none [] → CEnd K fb H [] F' H' [] Q E z) → codeAny (model P w) A (.call (.ref (fb f)) ⟨us, [(x, wp)]⟩) (CR (L2.CX P w) outer P w H s Q E) s
section
variable {X : Cx} {fa : Fa} {fns : List (Nat × Fn)} {k f : Nat} {e ve : Expr} {es : List Expr} {ip : I} {is : Is} {p apos pos kpos : Pos}
theorem eI_cmkw {cf : CF} {c : Nat} : eI cf (.cmkw c f is ip) = fun env => bnd (eIs cf is env) fun ds e1 => bnd (asV (eI cf ip) e1) fun d e2 => match cf.k f (.cls c :: d :: ds) with
    | some z => some (z, e2)
    | none => none := by
  funext env
  show bnd (eIs cf is env) _ = _
  congr 1
  funext ds e1
  rw [asV_bnd] <;> rfl
theorem s_cmkw {c : Nat} {fn : Fn} {x m kw : Str} {pl : Sem Bool} {mc : Value} {pp : Addr} (hR : ClX.CRead X.K (fa.C c) mc) (hM : ClX.CMet X.K (fa.C c) mc m pp (fa.f f)) (GK : FnKG X.prog X.w X.K X.mg X.base fa.f fa.tb fns k) (tk : Takes X fa.W) (hg : X.A.guards = some []) (hr : Room (4 * k) X.A)
    (hfn : fns.lookup f = some fn) (hkd : fn.kd = .gv kw) (hnp : fn.np = 3) (hgl : Gl X x) (hm : X.mg x = some (.ref (fa.C c))) (ha : PIs' X fa (callF fns k) (e :: es) is) (hp : PI' X fa (callF fns k) ve ip)
    (he : starEach (e :: es) X.env = (false, eval e X.env) :: starEach es X.env) (hpl : ((backTo pos (starEach (e :: es) X.env)).any (·.1) || (backToKw pos (keywordEach [⟨some kw, ve, kpos⟩] X.env)).any (·.1.isNone)) = false)
    (hdb : (x == ("__debug__" : Str)) = false)
    (ht : eval (.Call (.Attribute (.Name x p) m apos) (e :: es) [⟨some kw, ve, kpos⟩] pos) X.env = (do
      let ov ← eval (.Name x p) X.env
      standAt apos.atName
      let (f, first) ← holding [ov] (getMethod ov m pl)
      callWith pos f first (backTo pos (starEach (e :: es) X.env)) (backToKw pos (keywordEach [⟨some kw, ve, kpos⟩] X.env)))) :
    PI' X fa (callF fns k) (.Call (.Attribute (.Name x p) m apos) (e :: es) [⟨some kw, ve, kpos⟩] pos) (.cmkw c f is ip) := by
  refine ⟨fun pins s σ H Q I ⟨F, env, q⟩ => ?_⟩
  rw [eI_cmkw] at q
  refine PySem.W.methodCall_KW (pl := pl) (thn ((pe_glob (pos := p) hgl hm (show RelV (.ref (fa.C c)) (.ref (fa.C c)) from rfl) hdb).run pins s σ H (fun v H1 => v = .ref (fa.C c) ∧ H1 = H) I ⟨rfl, rfl⟩) fun u s1 ⟨v, H1, I1, r1, q1⟩ => ?_) ht
  obtain ⟨rfl, rfl⟩ := q1
  cases r1
  refine ClX.getmethcm_ok I1 hR hM fun s2 I2 => ?_
  have hk : PK X [⟨some kw, ve, kpos⟩] (tCons (tV X.K fa (asV (eI (callF fns k) ip))) tNil) := pk_cons (pe_asV hp) pk_nil
  refine PySem.W.callWith_of (P := PySem.W.MethP X.K s1.heap.objs.size (fa.f f) (.ref (fa.C c))) hpl (PySem.W.keeps_M hM.fi) (PyProof.Rows.evalArgs_kw2 rfl (thn (ha.run pos _ s2 σ _
    (fun vs H2 => tCons (tV X.K fa (asV (eI (callF fns k) ip))) tNil σ H2 fun zs H3 => ∃ (vp : V) (F3 : Hp) (e3 : Ev) (ds : List D) (dp : D), zs = [vp] ∧ Tb fa.tb F3 H3 ∧ SL F3 H3 ∧ RepL X.K fa F3 vs ds ∧ Rep X.K fa F3 vp dp ∧ ∃ z, (callF fns k).k f (.cls c :: dp :: ds) = some z ∧
      ∀ F' H', CSt X.K fa.f fa.tb F3 H3 [] [] F' H' none [] → CEnd X.K fa.f H3 [] F' H' [] Q (WE fa.W σ) z) I2
    ⟨F, env, At.bnd (Rl := lRep X.K fa) q fun ds e1 F1 H1 vs s1 r1 h1 => ⟨F1, e1, At.bnd (Rl := vRep X.K fa) h1 fun dp e2 F2 H2 vp s2 r2 h2 => ?_⟩⟩) fun us s3 ⟨vs, H2, I3, rv, q2⟩ => ?_) he)
  · cases hz : (callF fns k).k f (.cls c :: dp :: ds) with
    | none => exact (h2.no (by simp only [hz])).elim
    | some z =>
      refine ⟨vp, F2, e2, ds, dp, rfl, h2.ok.tabs, h2.ok.sub, r1.mono s2.sub, r2, z, hz, fun F' H' cs => ?_⟩
      cases z with
      | error y => exact fun cls d xr => h2.err (x := y) (by simp only [hz]) (cst_step h2.ok cs) xr
      | ok z => exact fun v cr => h2.ret (a := z) (by simp only [hz]) (cst_step h2.ok cs) (cres_r h2.ok cs cr)
  · refine thn (hk.run pos _ s3 σ H2 _ I3 q2) fun ws s4 ⟨zs, H3, I4, rz, vp, F3, e3, ds, dp, ez, tbs, sub, rl, rp, z, hz, qz⟩ => ?_
    subst ez
    obtain ⟨wp, rfl, ra⟩ : ∃ wp, ws = [wp] ∧ RelV vp wp := by
      cases rz with
      | cons ra rn =>
        cases rn
        exact ⟨_, rfl, ra⟩
    · refine ⟨⟨ClX.pin_at I4, I4.kIn⟩, ?_⟩
      show wpAny _ _ (call (.ref s1.heap.objs.size) us [(kw, wp)]) _ _ _
      have zz : wpAny (model X.prog X.w) X.A (call (.ref s1.heap.objs.size) us [(kw, wp)]) (EP X ((s1.heap.objs.size, PySem.W.methodObj (.ref (fa.f f)) (.ref (fa.C c))) :: pins) σ Q) X.xe s4 := by
        refine wpAny_call (PySem.W.method_call (ClX.pin_at I4) ?_)
        refine codeAny_mono (GK f 1 fn kw hfn hkd hnp X.A X.stack s4 H3 F3 (.ref (fa.C c) :: us) wp (.ref (fa.C c) :: vs) vp (.cls c :: ds) dp z Q (WE fa.W σ) hg hr I4.env0 tbs sub (.cons (.cls c) rl) rp (.cons rfl rv) ra (by simp) (by simpa using hz) qz) fun r s' hq => ?_
        cases r with
        | error e => exact passAt tk σ _ H3 s4 e s' I4 hq
        | ok fl => cases fl <;> first | exact I4.after hq | exact False.elim hq
      exact thn zz fun _ _ y => ClX.unpinE y
end
end DI

namespace DI
open PySem L2

/-! ### what a text is compiled with -/
/-- a class: its name, its __init__, its methods, properties, class methods; the fields that it has no attribute for -/
structure CI where
  name : Str
  init : Option Nat
  ms : List (Str × Nat)
  ps : List (Str × Nat)
  cm : List (Str × Nat)
  na : List Nat
  /-- class methods with their keyword-only parameter given -/
  ck : List (Str × Nat) := []
/-- an error class without a def of its own: its name; the classes whose errors it catches, does not -/
structure XI where
  name : Str
  raises : Bool
  ks : List Nat
  cs : List Nat
  /-- it is asked for by isinstance -/
  isi : Bool := false
  /-- its own __init__ keeps this field -/
  fld : Option Nat := none
structure Tab where
  fns : List (Nat × Fn)
  fis : List (Str × Nat)
  gc : List (Str × D)
  gb : List Str
  cls : List (Nat × CI)
  xs : List (Nat × XI)
  /-- the defs that make lambdas; the built-in errors that isinstance is asked for -/
  mks : List Nat := []
  xb : List (Str × List Nat × List Nat) := []
  /-- the text's file; the errors with an __init__ of their own; the fields of errors that are read -/
  file : Str := Str.empty
  xn : List (Nat × Nat × XN) := []
  xf : List (Nat × Nat) := []
  /-- the names whose things may have an own __getitem__ -/
  gi : List Str := []
/-- an error class as it stands behind the top -/
structure XOk (K : PySem.W.Frag) (C : Addr) : Prop where
  ex : ∃ (bmB : List Value) (B newId initId : String), ExcBaseFacts B newId initId bmB ∧ PySem.W.excIn K C bmB newId = true
  keep : PySem.W.keepIn K (.ref C) = true
  sub : PySem.W.subIn K (.ref C) (.type "BaseException") = some true
  ty : PySem.W.typeIn K (.ref C) = some (.type "type")
/-- a class as it stands behind the top -/
structure COk (K : PySem.W.Frag) (mg : Str → Option Value) (fa : Nat → Addr) (c : Nat) (ci : CI) : Prop where
  mg : mg ci.name = some (.ref (fa (1000 + c)))
  keep : PySem.W.keepIn K (.ref (fa (1000 + c))) = true
  cls : Cls K (fa (1000 + c))
  init : ∀ f, ci.init = some f → Mk K (fa (1000 + c)) (fa f)
  ms : ∀ m f, ci.ms.lookup m = some f → Meth K (fa (1000 + c)) m (fa f)
  bm : ∀ m f, ci.ms.lookup m = some f → BMeth K (fa (1000 + c)) m (fa f)
  ck : ∀ m f, ci.ck.lookup m = some f → ∃ mc pp, ClX.CRead K (fa (1000 + c)) mc ∧ ClX.CMet K (fa (1000 + c)) mc m pp (fa f)
  ps : ∀ m f, ci.ps.lookup m = some f → ∃ p, PropOf K (fa (1000 + c)) m p (fa f)
  cm : ∀ m f, ci.cm.lookup m = some f → ∃ mc pp, ClX.CRead K (fa (1000 + c)) mc ∧ ClX.CMet K (fa (1000 + c)) mc m pp (fa f)
  na : ∀ f, ci.na.contains f = true → NoAttr K (fa (1000 + c)) (nm f)
/-- the tables as they stand behind the top -/
structure TOk (T : Tab) (K : PySem.W.Frag) (mg : Str → Option Value) (fa : Nat → Addr) : Prop where
  F : ∀ x f, T.fis.lookup x = some f → mg x = some (.ref (fa f))
  kp : ∀ f, (T.fns.lookup f).isSome = true → PySem.W.keepIn K (.ref (fa f)) = true
  C : ∀ x d, T.gc.lookup x = some d → ∃ u v, mg x = some u ∧ RelV v u ∧ Rep K fa (fun _ => none) v d
  B : ∀ x, T.gb.contains x = true → mg x = none
  cls : ∀ c ci, (c, ci) ∈ T.cls → COk K mg fa c ci
  xn : ∀ p ∈ T.xn, XInit T.file K (fa (1000 + p.1)) (nm p.2.1)
  xf : ∀ p ∈ T.xf, XfC K (fa (1000 + p.1)) ∧ PySem.W.findIn K (.ref (fa (1000 + p.1))) (nm p.2) = some none ∧ p.2 < nmT.length
  xr : ∀ c xi, (c, xi) ∈ T.xs → xi.raises = true → mg xi.name = some (.ref (fa (1000 + c))) ∧ XOk K (fa (1000 + c))
  xh : ∀ c xi, (c, xi) ∈ T.xs → mg xi.name = some (.ref (fa (1000 + c))) ∧ ∀ k ∈ xi.ks, PySem.W.exmOne K (.ref (fa (1000 + k))) (.ref (fa (1000 + c))) = some (xi.cs.contains k)
  xk : ∀ c xi, (c, xi) ∈ T.xs → xi.isi = true → ∀ k ∈ xi.ks, k < 1000000 ∧ ExcC K (fa (1000 + k)) ∧ PySem.W.kitOne K (.ref (fa (1000 + k))) (.ref (fa (1000 + c))) = some (xi.cs.contains k)
  xb : ∀ x ks cs, (x, ks, cs) ∈ T.xb → ∃ t, bootBuiltins x = some (.type t) ∧ mg x = none ∧ ∀ k ∈ ks, k < 1000000 ∧ ExcC K (fa (1000 + k)) ∧ PySem.W.kitOne K (.ref (fa (1000 + k))) (.type t) = some (cs.contains k)
structure Ct where
  N : List Str
  sc : Scope
  /-- a lambda may be called here by its name; may be made -/
  la : Bool := false
  ml : Bool := false
def Ct.no (C : Ct) : Ct := { N := C.N, sc := C.sc }
/-- hot: within the suite of an except clause -/
structure Good (T : Tab) (hot : Bool) (C : Ct) (X : Cx) (fa : Fa) (k : Nat) : Prop where
  N : X.N = C.N
  sc : X.env.scope = C.sc
  tk : Takes X fa.W
  calm : hot = false → X.calm = true
  guards : X.A.guards = some []
  room : hot = false → Room (4 * k + 1) X.A
  units : X.A.units + 64 < cLine
  nd : X.N.Nodup
  kind : X.env.scope.kind = .function
  xe : PassesOwn (model X.prog X.w) X.A X.env X.xe
  xf : hot = true → XfOk X fa
  pf : PfOk X.prog T.file
  G : FnG X.prog X.w X.K X.mg X.base fa.f fa.tb T.fns k
  GL : FnLG X.prog X.w X.K X.mg X.base fa.f fa.tb T.fns k
  GK : FnKG X.prog X.w X.K X.mg X.base fa.f fa.tb T.fns k
  T : TOk T X.K X.mg fa.f
  xi : hot = true → XiOk X fa
  lam : C.la = true → ∀ (pn : List (Addr × Obj)) (xe : Value → Shared → Prop) (W : WX), Takes (X.tr pn xe) W → LamPE (X.tr pn xe) (fa.w W)
  ml : C.ml = true → hot = false → Room (4 * k + 3) X.A ∧ ∃ c P, LamX.TabB X.base X.mg c P ∧ X.env.code = .ref c ∧ (P, X.env.qual ++ "<lambda>") ∈ fa.tb ∧ ∀ p ∈ fa.tb, p.1 = P → p.2 = X.env.qual ++ "<lambda>"
/-- .. a statement's: the frame is its own -/
structure GoodS (T : Tab) (hot : Bool) (C : Ct) (X : Cx) (fa : Fa) (k : Nat) : Prop extends Good T hot C X fa k where
  fn : ∀ x, X.fn x = true
  st : hot = false → X.stack = X.env :: X.outer ∧ X.env.frame = some X.env.locals
section
variable (T : Tab) (hot : Bool) (C : Ct)
abbrev SndE (e : Expr) (i : I) : Prop := ∀ (X : Cx) (fa : Fa) (k : Nat), Good T hot C X fa k → PI' X fa (callF T.fns k) e i
abbrev SndEs (e : List Expr) (i : Is) : Prop := ∀ (X : Cx) (fa : Fa) (k : Nat), Good T hot C X fa k → PIs' X fa (callF T.fns k) e i
abbrev SndRs (e : List Expr) (i : Is) : Prop := ∀ (X : Cx) (fa : Fa) (k : Nat), Good T hot C X fa k → PRs' X fa (callF T.fns k) e i
abbrev SndT (e : Expr) (i : DI.T) : Prop := ∀ (X : Cx) (fa : Fa) (k : Nat), Good T hot C X fa k → PT' X fa (callF T.fns k) e i
abbrev SndTs (e : List Expr) (i : DI.T) : Prop := ∀ (X : Cx) (fa : Fa) (k : Nat), Good T hot C X fa k → PTs X e (tB X.K fa (eT (callF T.fns k) i))
abbrev SndW (e : Expr) (i : DI.T) : Prop := ∀ (X : Cx) (fa : Fa) (k : Nat), Good T hot C X fa k → PW X e (tB X.K fa (eT (callF T.fns k) i))
abbrev SndO (e : Option Expr) (i : Io) : Prop := ∀ (X : Cx) (fa : Fa) (k : Nat), Good T hot C X fa k → PO X e (tO X.K fa (eO (callF T.fns k) i))
abbrev SndIt (tg e : Expr) (i : It) : Prop := ∀ (X : Cx) (fa : Fa) (k : Nat), Good T hot C X fa k → PIt' X fa (callF T.fns k) tg e i
abbrev SndA (args : List Expr) (pos : Pos) (i : Is) : Prop := ∀ (X : Cx) (fa : Fa) (k : Nat), Good T hot C X fa k → PArgs X args pos (tVs X.K fa (eIs (callF T.fns k) i))
abbrev SndS (e : Stmt) (i : S) : Prop := ∀ (X : Cx) (fa : Fa) (k : Nat), GoodS T hot C X fa k → PS' X fa (callF T.fns k) e i
abbrev SndSs (e : List Stmt) (i : Ss) : Prop := ∀ (X : Cx) (fa : Fa) (k : Nat), GoodS T hot C X fa k → PSs' X fa (callF T.fns k) e i
abbrev RE (e : Expr) := Option { i : I // SndE T hot C e i }
abbrev REs (e : List Expr) := Option { i : Is // SndEs T hot C e i }
abbrev RRs (e : List Expr) := Option { i : Is // SndRs T hot C e i }
abbrev RT (e : Expr) := Option { i : DI.T // SndT T hot C e i }
abbrev RTs (e : List Expr) := Option { i : DI.T // SndTs T hot C e i }
abbrev RW (e : Expr) := Option { i : DI.T // SndW T hot C e i }
abbrev RO (e : Option Expr) := Option { i : Io // SndO T hot C e i }
abbrev RIt (tg e : Expr) := Option { i : It // SndIt T hot C tg e i }
abbrev RA (args : List Expr) (pos : Pos) := Option { i : Is // SndA T hot C args pos i }
abbrev RS (e : Stmt) := Option { i : S // SndS T hot C e i }
abbrev RSs (e : List Stmt) := Option { i : Ss // SndSs T hot C e i }
end

/-! ### names -/
def ixIn (N : List Str) (x : Str) : Option { i : Nat // N[i]? = some x } :=
  match N.findIdx? (· == x) with
  | some i => if h : N[i]? = some x then some ⟨i, h⟩ else none
  | none => none
def visIn (sc : Scope) (x : Str) : Option (PLift (Vis sc x)) :=
  match h : sc.names.lookup x with
  | some .local => some ⟨.inl h⟩
  | some .cell => some ⟨.inr (.inl h)⟩
  | some .free => some ⟨.inr (.inr h)⟩
  | _ => none
def locIn (sc : Scope) (x : Str) : Option (PLift (Loc sc x)) :=
  match h : sc.names.lookup x with
  | some .local => some ⟨.inl h⟩
  | some .cell => some ⟨.inr h⟩
  | _ => none
def okName (x : Str) : Bool := !(x == ("__debug__" : Str)) && !(x == ("__classdict__" : Str)) && !(x == ("__name__" : Str))
theorem okName_of {x : Str} (h : okName x = true) : (x == ("__debug__" : Str)) = false ∧ (x == ("__classdict__" : Str)) = false ∧ x ≠ "__name__" := by
  unfold okName at h
  simp only [Bool.and_eq_true, Bool.not_eq_true'] at h
  exact ⟨h.1.1, h.1.2, beq_eq_false_iff_ne.mp h.2⟩
/-- a name of the frame -/
structure Nm (C : Ct) (x : Str) (i : Nat) : Prop where
  ix : C.N[i]? = some x
  vis : Vis C.sc x
  ok : okName x = true
def nmIn (C : Ct) (x : Str) : Option { i : Nat // Nm C x i } :=
  if ho : okName x = true then
    match ixIn C.N x, visIn C.sc x with
    | some ⟨i, h⟩, some ⟨v⟩ => some ⟨i, ⟨h, v, ho⟩⟩
    | _, _ => none
  else none
structure Gn (C : Ct) (x : Str) : Prop where
  gl : C.sc.names.lookup x = some .globalImplicit
  ok : okName x = true
def gnIn (C : Ct) (x : Str) : Option (PLift (Gn C x)) :=
  if ho : okName x = true then
    match h : C.sc.names.lookup x with
    | some .globalImplicit => some ⟨⟨h, ho⟩⟩
    | _ => none
  else none
def isFunK : ScopeKind → Bool
  | .function => true
  | _ => false
theorem isFunK_of {k : ScopeKind} (h : isFunK k = true) : k = .function := by cases k <;> first | rfl | cases h
def kindIs (o : Option NameKind) (k : NameKind) : Bool := match o with
  | some j => j == k
  | none => false
theorem kindIs_of {o : Option NameKind} {k : NameKind} (h : kindIs o k = true) : o = some k := by
  unfold kindIs at h
  split at h
  · rw [eq_of_beq h]
  · cases h
/-- a field's number -/
def nmIx (x : Str) : Option { f : Nat // f < nmT.length ∧ nm f = x } :=
  match nmT.findIdx? (fun y => Str.ofString y == x) with
  | some f => if h : f < nmT.length ∧ nm f = x then some ⟨f, h⟩ else none
  | none => none
/-- the classes with a method, a property, an __init__, a field -/
def msOf (T : Tab) (m : Str) : List (Nat × Nat) := T.cls.filterMap fun p => (p.2.ms.lookup m).map fun f => (p.1, f)
def psOf (T : Tab) (m : Str) : List (Nat × Nat) := T.cls.filterMap fun p => (p.2.ps.lookup m).map fun f => (p.1, f)
def inOf (T : Tab) : List (Nat × Nat) := T.cls.filterMap fun p => p.2.init.map fun f => (p.1, f)
def naOf (T : Tab) (f : Nat) : List Nat := T.cls.filterMap fun p => if p.2.na.contains f then some p.1 else none
theorem lookup_mem {α : Type} {l : List (Nat × α)} {c : Nat} {f : α} (h : l.lookup c = some f) : (c, f) ∈ l := by
  induction l with
  | nil => cases h
  | cons p r ih =>
    obtain ⟨a, b⟩ := p
    rw [List.lookup_cons] at h
    cases e : c == a with
    | true => rw [e] at h; cases h; rw [eq_of_beq e]; exact List.mem_cons_self
    | false => rw [e] at h; exact List.mem_cons_of_mem _ (ih h)
/-- a class by its name -/
def clsIn (T : Tab) (x : Str) : Option { p : Nat × CI // p ∈ T.cls ∧ p.2.name = x } :=
  match h : T.cls.find? (fun p => p.2.name == x) with
  | some p => some ⟨p, List.mem_of_find?_eq_some h, by have := List.find?_some h; exact eq_of_beq this⟩
  | none => none
def xnIn (T : Tab) (c : Nat) : Option { p : Nat × XN // (c, p.1, p.2) ∈ T.xn } :=
  match h : T.xn.find? (fun p => p.1 == c) with
  | some p => some ⟨p.2, by
      have e : p.1 = c := by have := List.find?_some h; exact eq_of_beq this
      rw [← e]; exact List.mem_of_find?_eq_some h⟩
  | none => none
def xfHot (T : Tab) (hot : Bool) (m : Str) : Option { p : Nat × Nat // hot = true ∧ p ∈ T.xf ∧ nm p.2 = m } :=
  if hh : hot = true then match h : T.xf.find? (fun p => nm p.2 == m) with
  | some p => some ⟨p, hh, List.mem_of_find?_eq_some h, by have := List.find?_some h; exact eq_of_beq this⟩
  | none => none
  else none
def xIn (T : Tab) (x : Str) : Option { p : Nat × XI // p ∈ T.xs ∧ p.2.name = x } :=
  match h : T.xs.find? (fun p => p.2.name == x) with
  | some p => some ⟨p, List.mem_of_find?_eq_some h, by have := List.find?_some h; exact eq_of_beq this⟩
  | none => none
section
variable {T : Tab} {hot : Bool} {C : Ct} {X : Cx} {fa : Fa} {k : Nat}
theorem Nm.N {x : Str} {i : Nat} (h : Nm C x i) (g : Good T hot C X fa k) : X.N[i]? = some x := by rw [g.N]; exact h.ix
theorem Nm.V {x : Str} {i : Nat} (h : Nm C x i) (g : Good T hot C X fa k) : Vis X.env.scope x := by rw [g.sc]; exact h.vis
theorem Nm.d {x : Str} {i : Nat} (h : Nm C x i) : (x == ("__debug__" : Str)) = false := (okName_of h.ok).1
theorem Nm.cd {x : Str} {i : Nat} (h : Nm C x i) : (x == ("__classdict__" : Str)) = false := (okName_of h.ok).2.1
theorem Gn.G {x : Str} (h : Gn C x) (g : Good T hot C X fa k) : Gl X x := by
  show X.env.scope.names.lookup x = _
  rw [g.sc]; exact h.gl
theorem Gn.d {x : Str} (h : Gn C x) : (x == ("__debug__" : Str)) = false := (okName_of h.ok).1
theorem gl_of {x : Str} (h : C.sc.names.lookup x = some .globalImplicit) (g : Good T hot C X fa k) : Gl X x := by
  show X.env.scope.names.lookup x = _
  rw [g.sc]; exact h
theorem Good.blk {s : Shared} {H : Hp} {scope : Scope} {cl : List (Str × Addr)} {Ca : Addr} {fp : List Addr} (g : Good T hot C X fa k) (hh : hot = false) (hk : scope.kind = .function) : Good T hot { N := C.N, sc := relS scope C.sc } (X.blk s H scope (compEnvC scope cl Ca X.env) fp) fa.nox k :=
  ⟨g.N, by rw [← g.sc]; rfl, fun u s' ⟨_, _, _, _, _, _, _, _, _, _, _, _, _, _, _, _, w⟩ => w.elim, g.calm, g.guards, g.room, g.units, g.nd, hk, PassesOwn.never, (fun h => by rw [hh] at h; cases h), g.pf, g.G, g.GL, g.GK, g.T, (fun h => by rw [hh] at h; cases h), (fun h => by cases h), fun h => by cases h⟩
theorem Good.room2 (g : Good T hot C X fa k) (h : hot = false) : Room (4 * k) X.A := (g.room h).mono (by omega)
theorem ms_of {m : Str} (g : Good T hot C X fa k) (c f : Nat) (h : (msOf T m).lookup c = some f) : Cls X.K (fa.C c) ∧ Meth X.K (fa.C c) m (fa.f f) := by
  obtain ⟨p, h1, h2⟩ := List.mem_filterMap.mp (lookup_mem h)
  obtain ⟨f', h3, h4⟩ := Option.map_eq_some_iff.mp h2
  cases h4
  have := g.T.cls _ _ h1
  exact ⟨this.cls, this.ms m _ h3⟩
theorem bm_of {m : Str} (g : Good T hot C X fa k) (c f : Nat) (h : (msOf T m).lookup c = some f) : Cls X.K (fa.C c) ∧ BMeth X.K (fa.C c) m (fa.f f) := by
  obtain ⟨p, h1, h2⟩ := List.mem_filterMap.mp (lookup_mem h)
  obtain ⟨f', h3, h4⟩ := Option.map_eq_some_iff.mp h2
  cases h4
  have := g.T.cls _ _ h1
  exact ⟨this.cls, this.bm m _ h3⟩
/-- the own __getitem__s for a name -/
def giOf (T : Tab) (hot : Bool) (x : Str) : List (Nat × Nat) := if hot = false ∧ T.gi.contains x = true then msOf T "__getitem__" else []
theorem gi_of {x : Str} (g : Good T hot C X fa k) (c f : Nat) (h : (giOf T hot x).lookup c = some f) : GetC X.K (fa.C c) (fa.f f) := by
  unfold giOf at h
  split at h
  · obtain ⟨_, b⟩ := bm_of g c f h
    exact ⟨b.mt.at_, b.mt.fn, b.fi⟩
  · cases h
theorem gi_room {x : Str} (g : Good T hot C X fa k) (h : giOf T hot x ≠ []) : Room (4 * k + 1) X.A := by
  unfold giOf at h
  split at h
  · rename_i hh
    exact g.room hh.1
  · exact (h rfl).elim
theorem ps_of {m : Str} (g : Good T hot C X fa k) (c f : Nat) (h : (psOf T m).lookup c = some f) : Cls X.K (fa.C c) ∧ ∃ p, PropOf X.K (fa.C c) m p (fa.f f) := by
  obtain ⟨p, h1, h2⟩ := List.mem_filterMap.mp (lookup_mem h)
  obtain ⟨f', h3, h4⟩ := Option.map_eq_some_iff.mp h2
  cases h4
  have := g.T.cls _ _ h1
  exact ⟨this.cls, this.ps m _ h3⟩
theorem in_of (g : Good T hot C X fa k) (c f : Nat) (h : (inOf T).lookup c = some f) : Mk X.K (fa.C c) (fa.f f) := by
  obtain ⟨p, h1, h2⟩ := List.mem_filterMap.mp (lookup_mem h)
  obtain ⟨f', h3, h4⟩ := Option.map_eq_some_iff.mp h2
  cases h4
  exact (g.T.cls _ _ h1).init _ h3
theorem na_of {f : Nat} (g : Good T hot C X fa k) : ∀ c ∈ naOf T f, Cls X.K (fa.C c) ∧ NoAttr X.K (fa.C c) (nm f) := fun c h => by
  obtain ⟨p, h1, h2⟩ := List.mem_filterMap.mp h
  split at h2
  · rename_i h3
    cases h2
    have := g.T.cls _ _ h1
    exact ⟨this.cls, this.na f h3⟩
  · cases h2
end
/-- the built-ins' operations by name -/
def binOf : Operator → Option Op
  | .Add => some .add
  | .Sub => some .sub
  | .Mult => some .mul
  | .FloorDiv => some .fdiv
  | .Mod => some .mod
  | .Pow => some .pow
  | _ => none
section
variable {T : Tab} {hot : Bool} {C : Ct}
theorem snd_bin {op : Operator} {o : Op} {a b : Expr} {ia ib : I} {pos : Pos} (h : binOf op = some o) (ha : SndE T hot C a ia) (hb : SndE T hot C b ib) : SndE T hot C (.BinOp a op b pos) (.op o (.cons ia (.cons ib .nil))) := fun X fa k g => by
  cases op <;> first | cases h | skip
  · exact s_op2 opr_add ok_add (ha X fa k g) (hb X fa k g)
  · exact s_op2 op_sub ok_sub (ha X fa k g) (hb X fa k g)
  · exact s_op2 opr_mul ok_mul (ha X fa k g) (hb X fa k g)
  · exact s_op2 op_mod ok_mod (ha X fa k g) (hb X fa k g)
  · exact s_op2 opr_pow ok_pow (ha X fa k g) (hb X fa k g)
  · exact s_op2 op_fdiv ok_fdiv (ha X fa k g) (hb X fa k g)
def cmpOf : CmpOp → Expr → Option Op
  | .Eq, _ => some .eq
  | .NotEq, _ => some .ne
  | .Lt, _ => some .lt
  | .LtE, _ => some .le
  | .Gt, _ => some .gt
  | .GtE, _ => some .ge
  | .In, _ => some .isin
  | .NotIn, _ => some .notin
  | .Is, .Constant .none _ _ => some .isn
  | .Is, .Constant (.bool _) _ _ => some .isb
  | .IsNot, .Constant .none _ _ => some .notn
  | _, _ => none
/-- a comparison's rule -/
theorem cmp_rule {op : CmpOp} {b : Expr} {o : Op} {X : Cx} {fa : Fa} {k : Nat} (h : cmpOf op b = some o) (g : Good T hot C X fa k) : ∃ r, OpR X (compareOp op) r ∧ OpOk X.K fa o (r2 r) ∧ isCmp o = true := by
  unfold cmpOf at h
  split at h <;> first | cases h | skip
  · exact ⟨_, OpR.or opr_eqS (opr_eqX (fa := fa.f) g.units), ok_eq, rfl⟩
  · exact ⟨_, OpR.or opr_neS (opr_neX (fa := fa.f) g.units), ok_ne, rfl⟩
  · exact ⟨_, opr_lt, ok_lt, rfl⟩
  · exact ⟨_, opr_le, ok_le, rfl⟩
  · exact ⟨_, op_gt, ok_gt, rfl⟩
  · exact ⟨_, op_ge, ok_ge, rfl⟩
  · exact ⟨_, opr_in g.units, ok_in, rfl⟩
  · exact ⟨_, opr_notin g.units, ok_notin, rfl⟩
  · exact ⟨_, opr_is, ok_isn, rfl⟩
  · exact ⟨_, opr_is, ok_isb, rfl⟩
  · exact ⟨_, op_notN, ok_notn, rfl⟩
theorem snd_cmp {op : CmpOp} {o : Op} {a b : Expr} {ia ib : I} {pos : Pos} (h : cmpOf op b = some o) (hm : behindInMarks op b = false) (ha : SndE T hot C a ia) (hb : SndE T hot C b ib) : SndE T hot C (.Compare a [op] [b] pos) (.op o (.cons ia (.cons ib .nil))) := fun X fa k g => by
  obtain ⟨r, h1, h2, _⟩ := cmp_rule h g
  exact s_cmp h1 h2 (ha X fa k g) (hb X fa k g) hm
theorem sndT_cmp {op : CmpOp} {o : Op} {a b : Expr} {ia ib : I} {pos : Pos} (h : cmpOf op b = some o) (hm : behindInMarks op b = false) (ha : SndE T hot C a ia) (hb : SndE T hot C b ib) : SndT T hot C (.Compare a [op] [b] pos) (.val (.op o (.cons ia (.cons ib .nil)))) := fun X fa k g => by
  obtain ⟨r, h1, h2, h3⟩ := cmp_rule h g
  exact t_cmp h1 h2 h3 (ha X fa k g) (hb X fa k g) hm
theorem snd_nil1 {op : CmpOp} {o : Op} {x : Str} {i : Nat} {px pl pos : Pos} (h : cmpOf op (.List [] pl) = some o) (hm : behindInMarks op (.List [] pl) = false) (hn : Nm C x i) : SndE T hot C (.Compare (.Name x px) [op] [.List [] pl] pos) (.nil1 i o) := fun X fa k g => by
  obtain ⟨r, h1, h2, h3⟩ := cmp_rule h g
  exact s_nil1 h1 h2 h3 (hn.N g) (hn.V g) hn.d hn.cd hm
theorem sndT_nil1 {op : CmpOp} {o : Op} {x : Str} {i : Nat} {px pl pos : Pos} (h : cmpOf op (.List [] pl) = some o) (hm : behindInMarks op (.List [] pl) = false) (hn : Nm C x i) : SndT T hot C (.Compare (.Name x px) [op] [.List [] pl] pos) (.val (.nil1 i o)) := fun X fa k g => by
  obtain ⟨r, h1, h2, h3⟩ := cmp_rule h g
  exact t_nil1 h1 h2 h3 (hn.N g) (hn.V g) hn.d hn.cd hm
theorem snd_chain {op op' : CmpOp} {o o' : Op} {a b c : Expr} {ia ib ic : I} {pos : Pos} (h : cmpOf op b = some o) (h' : cmpOf op' c = some o') (hm : lastMarks [op, op'] [b, c] = false) (ha : SndE T hot C a ia) (hb : SndE T hot C b ib) (hc : SndE T hot C c ic) :
    SndE T hot C (.Compare a [op, op'] [b, c] pos) (.chain o o' ia ib ic) := fun X fa k g => by
  obtain ⟨r, h1, h2, _⟩ := cmp_rule h g
  obtain ⟨r', h1', h2', _⟩ := cmp_rule h' g
  exact s_chain h1 h1' h2 h2' (ha X fa k g) (hb X fa k g) (hc X fa k g) hm
theorem sndT_chain {op op' : CmpOp} {o o' : Op} {a b c : Expr} {ia ib ic : I} {pos : Pos} (h : cmpOf op b = some o) (h' : cmpOf op' c = some o') (hm : lastMarks [op, op'] [b, c] = false) (ha : SndE T hot C a ia) (hb : SndE T hot C b ib) (hc : SndE T hot C c ic) :
    SndT T hot C (.Compare a [op, op'] [b, c] pos) (.val (.chain o o' ia ib ic)) := fun X fa k g => by
  obtain ⟨r, h1, h2, _⟩ := cmp_rule h g
  obtain ⟨r', h1', h2', h3'⟩ := cmp_rule h' g
  exact t_chain h1 h1' h2 h2' h3' (ha X fa k g) (hb X fa k g) (hc X fa k g) hm
/-- calls of built-in functions and classes -/
def bltOf (x : Str) : Option Op :=
  if x = "len" then some .len else if x = "all" then some .all else if x = "abs" then some .abs else if x = "max" then some .max else if x = "min" then some .min else if x = "repr" then some .repr else if x = "int" then some .int else if x = "list" then some .listof
  else if x = "tuple" then some .tupof else if x = "sum" then some .sum else if x = "any" then some .any else if x = "str" then some .stri else none
theorem snd_blt {x : Str} {o : Op} {e : Expr} {es : List Expr} {is : Is} {p pos : Pos} (hh : hot = false ∨ x = "repr") (h : bltOf x = some o) (hg : C.sc.names.lookup x = some .globalImplicit) (hb : T.gb.contains x = true) (hs : (e :: es).all (fun e => !isStar e) = true) (ha : SndEs T hot C (e :: es) is) : SndE T hot C (.Call (.Name x p) (e :: es) [] pos) (.op o is) := fun X fa k g => by
  have hm := g.T.B x hb
  have hgl : Gl X x := gl_of hg g
  have calm : x ≠ "repr" → X.calm = true := fun hx => g.calm (hh.resolve_right hx)
  rw [List.all_cons, Bool.and_eq_true] at hs
  have h1 := star_of (es := es) (env := X.env) (by simpa using hs.1 : isStar e = false)
  have h2 := noStars (pos := pos) (env := X.env) hs.2
  have hA := ha X fa k g
  unfold bltOf at h
  repeat' split at h
  all_goals first | (cases h; done) | (cases h; rename_i hx; subst hx)
  · exact s_callB cr_lenA ok_len hgl hm PySem.boot_len hA (by decide +kernel) (by decide +kernel) h1 h2
  · exact s_callB (cr_all (calm (by decide))) ok_all hgl hm (by decide +kernel) hA (by decide +kernel) (by decide +kernel) h1 h2
  · exact s_callB call_abs ok_abs hgl hm (by decide +kernel) hA (by decide +kernel) (by decide +kernel) h1 h2
  · exact s_callB (call_max2 (calm (by decide))) ok_max hgl hm (by decide +kernel) hA (by decide +kernel) (by decide +kernel) h1 h2
  · exact s_callB (call_min2 (calm (by decide))) ok_min hgl hm (by decide +kernel) hA (by decide +kernel) (by decide +kernel) h1 h2
  · exact s_callB (cr_repr (fa := fa.f) g.guards g.units) ok_repr hgl hm (by decide +kernel) hA (by decide +kernel) (by decide +kernel) h1 h2
  · exact s_callTy call_int1 ok_int hgl hm (by decide +kernel) hA (by decide +kernel) (by decide +kernel) h1 h2
  · exact s_callTy (cr_listA (calm (by decide))) ok_listof hgl hm (by decide +kernel) hA (by decide +kernel) (by decide +kernel) h1 h2
  · exact s_callTy call_tuple_of ok_tupof hgl hm (by decide +kernel) hA (by decide +kernel) (by decide +kernel) h1 h2
  · exact s_callB (cr_sum (calm (by decide))) ok_sum hgl hm (by decide +kernel) hA (by decide +kernel) (by decide +kernel) h1 h2
  · exact s_callB (cr_any (calm (by decide))) ok_any hgl hm (by decide +kernel) hA (by decide +kernel) (by decide +kernel) h1 h2
  · exact s_callTy call_str_int ok_stri hgl hm (by decide +kernel) hA (by decide +kernel) (by decide +kernel) h1 h2
def tyOf (x : Str) : Option String :=
  if x = "int" then some "int" else if x = "str" then some "str" else if x = "bool" then some "bool" else if x = "tuple" then some "tuple" else if x = "list" then some "list" else if x = "dict" then some "dict" else none
theorem tyOf_boot {x : Str} {t : String} (h : tyOf x = some t) : bootBuiltins x = some (.type t) ∧ x ≠ "__name__" ∧ (x == ("__debug__" : Str)) = false := by
  unfold tyOf at h
  repeat' split at h
  all_goals first | (cases h; done) | (cases h; rename_i hx; subst hx; exact ⟨by decide +kernel, by decide +kernel, by decide +kernel⟩)
theorem snd_isi {x : Str} {t : String} {e : Expr} {i : I} {p p2 pos : Pos} (h : tyOf x = some t) (hg0 : C.sc.names.lookup ("isinstance" : Str) = some .globalImplicit) (hb0 : T.gb.contains ("isinstance" : Str) = true) (hg : C.sc.names.lookup x = some .globalImplicit) (hb : T.gb.contains x = true) (hs : isStar e = false) (ha : SndE T hot C e i) :
    SndE T hot C (.Call (.Name "isinstance" p) [e, .Name x p2] [] pos) (.op (.isi t) (.cons i .nil)) := fun X fa k g => by
  obtain ⟨h1, h2, h3⟩ := tyOf_boot h
  exact s_isi (gl_of hg0 g) (g.T.B _ hb0) (gl_of hg g) (g.T.B x hb) h1 h2 h3 (ha X fa k g) (star_of hs) rfl
end
end DI

namespace DI
open PySem L2

/-! ### targets -/
abbrev SndG (fnb : Str → Bool) (C : Ct) (e : Expr) (tg : Tg) : Prop := ∀ X : Cx, X.N = C.N → X.N.Nodup → X.env.scope = C.sc → X.calm = true → (∀ x, fnb x = true → X.fn x = true) → PG X e (gT X.K tg)
abbrev SndGs (fnb : Str → Bool) (C : Ct) (es : List Expr) (ts : List Tg) : Prop := ∀ X : Cx, X.N = C.N → X.N.Nodup → X.env.scope = C.sc → X.calm = true → (∀ x, fnb x = true → X.fn x = true) → PGs X es (gTs X.K ts)
def isName : Expr → Bool
  | .Name _ _ => true
  | _ => false
theorem assignEach_cons {e : Expr} {es : List Expr} {env : Env} (h : isStar e = false) : assignEach (e :: es) env = (false, assign e env) :: assignEach es env := by
  cases e <;> first | rfl | cases h
theorem assignEach_len {env : Env} : ∀ {es : List Expr}, es.all (fun e => !isStar e) = true → (assignEach es env).length = es.length ∧ (assignEach es env).findIdx? (·.1) = none
  | [], _ => ⟨rfl, rfl⟩
  | e :: es, h => by
    rw [List.all_cons, Bool.and_eq_true] at h
    obtain ⟨h1, h2⟩ := assignEach_len (env := env) h.2
    rw [assignEach_cons (by simpa using h.1)]
    refine ⟨by simp [h1], ?_⟩
    rw [List.findIdx?_cons]
    simp [h2]
theorem sndG_name {fnb : Str → Bool} {C : Ct} {x : Str} {px : Pos} {i : Nat} (hi : C.N[i]? = some x) (hl : Loc C.sc x) (hf : (fnb x || kindIs (C.sc.names.lookup x) .local) = true) : SndG fnb C (.Name x px) (.nm i) := fun X hN nd hS _ hfn => by
  refine pg_name nd (by rw [hN]; exact hi) (by rw [hS]; exact hl) ?_
  rcases Bool.or_eq_true_iff.mp hf with h | h
  · exact .inl (hfn x h)
  · exact .inr (by rw [hS]; exact kindIs_of h)
theorem sndG_tup {fnb : Str → Bool} {C : Ct} {es : List Expr} {ts : List Tg} {k : Nat} {pos : Pos} (h : SndGs fnb C es ts) (hs : es.all (fun e => !isStar e) = true) (hl : es.length = ts.length) : SndG fnb C (.Tuple es k pos) (.tp ts) := fun X hN nd hS hc hfn => by
  obtain ⟨h1, h2⟩ := assignEach_len (env := X.env) hs
  have := pg_tup (k := k) (pos := pos) hc (h X hN nd hS hc hfn) (n := ts.length) (by rw [h1, hl]) h2
  simpa [gT] using this
theorem sndGs_nil {fnb : Str → Bool} {C : Ct} : SndGs fnb C [] [] := fun X hN nd hS hc hfn => by
  have := pgs_nil (X := X)
  simpa [gTs] using this
theorem sndGs_cons {fnb : Str → Bool} {C : Ct} {e : Expr} {es : List Expr} {t : Tg} {ts : List Tg} (h1 : SndG fnb C e t) (h2 : SndGs fnb C es ts) (hs : isStar e = false) : SndGs fnb C (e :: es) (t :: ts) := fun X hN nd hS hc hfn => by
  have := pgs_cons (h1 X hN nd hS hc hfn) (h2 X hN nd hS hc hfn) (by rw [assignEach_cons hs]; rfl)
  simpa [gTs] using this
mutual
def cG (fnb : Str → Bool) : Nat → (C : Ct) → (e : Expr) → Option { t : Tg // SndG fnb C e t }
  | 0, _, _ => none
  | n + 1, C, e => match e with
    | .Name x _ => match ixIn C.N x, locIn C.sc x with
      | some ⟨i, hi⟩, some ⟨hl⟩ => if hf : (fnb x || kindIs (C.sc.names.lookup x) .local) = true then some ⟨.nm i, sndG_name hi hl hf⟩ else none
      | _, _ => none
    | .Tuple es _ _ => if hs : es.all (fun e => !isStar e) = true then match cGs fnb n C es with
        | some ⟨ts, h⟩ => if hl : es.length = ts.length then some ⟨.tp ts, sndG_tup h hs hl⟩ else none
        | none => none
      else none
    | _ => none
def cGs (fnb : Str → Bool) : Nat → (C : Ct) → (es : List Expr) → Option { ts : List Tg // SndGs fnb C es ts }
  | 0, _, _ => none
  | n + 1, C, es => match es with
    | [] => some ⟨[], sndGs_nil⟩
    | e :: r => if hs : isStar e = false then match cG fnb n C e, cGs fnb n C r with
        | some ⟨t, h1⟩, some ⟨ts, h2⟩ => some ⟨t :: ts, sndGs_cons h1 h2 hs⟩
        | _, _ => none
      else none
end
mutual
def tgNames : Nat → Expr → List Str
  | 0, _ => []
  | n + 1, e => match e with
    | .Name x _ => [x]
    | .Tuple es _ _ => tgNamess n es
    | _ => []
def tgNamess : Nat → List Expr → List Str
  | 0, _ => []
  | n + 1, es => match es with
    | [] => []
    | e :: r => tgNames n e ++ tgNamess n r
end
/-! ### comprehensions -/
structure LcOk (C : Ct) (scope : Scope) (tgx : Expr) (tg : Tg) (own : List (Str × Nat)) : Prop where
  eq : own.map (·.2) = tg.slots
  blk : blkC C.N C.sc scope own = true
  kind : scope.kind = .function
  g : SndG (fun x => scope.names.lookup x == some .cell) { N := C.N, sc := relS scope C.sc } tgx tg
def lcIn (C : Ct) (scope : Scope) (tgx : Expr) : Option { p : Tg × List (Str × Nat) // LcOk C scope tgx p.1 p.2 } :=
  match cG (fun x => scope.names.lookup x == some .cell) 9 { N := C.N, sc := relS scope C.sc } tgx with
  | some ⟨tg, hg⟩ =>
    if h1 : ((tgNames 9 tgx).zip tg.slots).map (·.2) = tg.slots then
      if h2 : blkC C.N C.sc scope ((tgNames 9 tgx).zip tg.slots) = true then
        if h3 : isFunK scope.kind = true then some ⟨(tg, (tgNames 9 tgx).zip tg.slots), ⟨h1, h2, isFunK_of h3, hg⟩⟩ else none
      else none
    else none
  | none => none
section
variable {T : Tab} {hot : Bool} {C : Ct}
theorem lc_pg {scope : Scope} {tgx : Expr} {tg : Tg} {own : List (Str × Nat)} {X : Cx} {fa : Fa} {k : Nat} (h : LcOk C scope tgx tg own) (hh : hot = false) (g : Good T hot C X fa k) (s' : Shared) (H : Hp) (Ca : Addr) (cl : List (Str × Addr)) (fp : List Addr) :
    PG (X.blk s' H scope (compEnvC scope cl Ca X.env) fp) tgx (gT X.K tg) :=
  h.g (X.blk s' H scope (compEnvC scope cl Ca X.env) fp) g.N g.nd (by rw [← g.sc]; rfl) (g.calm hh) fun x hx => hx
theorem snd_lc {elt iter tgx : Expr} {pos : Pos} {ifs : List Expr} {scope : Scope} {tg : Tg} {own : List (Str × Nat)} {it : It} {c : DI.T} {e : I} (hh : hot = false) (h : LcOk C scope tgx tg own) (hset : isSet iter = false) (hi : SndIt T hot C tgx iter it)
    (ht : SndTs T hot { N := C.N, sc := relS scope C.sc } ifs c) (he : SndE T hot { N := C.N, sc := relS scope C.sc } elt e) :
    SndE T hot C (.ListComp elt [⟨tgx, iter, ifs, 0⟩] scope pos) (.lc tg it c e) := fun X fa k g => by
  have hb : BlkOk X.N X.env.scope scope own := by rw [g.N, g.sc]; exact blkOk_by h.blk
  exact s_lc (g.calm hh) g.nd (hi X fa k g) hb h.eq (lc_pg h hh g) (fun s H Ca cl fp => ht _ _ k (g.blk hh h.kind)) (fun s H Ca cl fp => he _ _ k (g.blk hh h.kind)) (set_of hset)
theorem snd_setLc {elt iter tgx : Expr} {y : Str} {py pos spos : Pos} {ifs : List Expr} {scope : Scope} {tg : Tg} {own : List (Str × Nat)} {j : Nat} {it : It} {c : DI.T} {e : I} (hh : hot = false) (h : LcOk C scope tgx tg own) (hset : isSet iter = false) (hj : C.N[j]? = some y) (hyl : C.sc.names.lookup y = some .local) (hline : (py.line == pos.line) = true)
    (hno : (scope.names.any fun (n, k) => n == y && (k == .local || k == .cell)) = false) (hi : SndIt T hot C tgx iter it) (ht : SndTs T hot { N := C.N, sc := relS scope C.sc } ifs c) (he : SndE T hot { N := C.N, sc := relS scope C.sc } elt e) :
    SndS T hot C (.Assign [.Name y py] (.ListComp elt [⟨tgx, iter, ifs, 0⟩] scope pos) spos) (.set j (.lc tg it c e)) := fun X fa k gs => by
  have g := gs.toGood
  have hb : BlkOk X.N X.env.scope scope own := by rw [g.N, g.sc]; exact blkOk_by h.blk
  have hyl' : X.env.scope.names.lookup y = some .local := by rw [g.sc]; exact hyl
  exact b_setLc (g.calm hh) g.nd (by rw [g.N]; exact hj) hyl' (sw_true g.kind hyl' hline hno) (hi X fa k g) hb h.eq (lc_pg h hh g) (fun s H Ca cl fp => ht _ _ k (g.blk hh h.kind)) (fun s H Ca cl fp => he _ _ k (g.blk hh h.kind)) (set_of hset)
/-! ### calls -/
theorem snd_call {x : Str} {f : Nat} {p pos : Pos} {args : List Expr} {is : Is} (hh : hot = false) (gn : Gn C x) (hf : T.fis.lookup x = some f) (hk : (T.fns.lookup f).isSome = true) (ha : SndA T hot C args pos is) : SndE T hot C (.Call (.Name x p) args [] pos) (.call f is) := fun X fa k g =>
  s_call g.G g.tk g.guards (g.room2 hh) (gn.G g) (g.T.F x f hf) (g.T.kp f hk) (ha X fa k g) gn.d
theorem snd_callio {x y : Str} {f i : Nat} {p px pos : Pos} {es : List Expr} {is : Is} (hh : hot = false) (gn : Gn C x) (hf : T.fis.lookup x = some f) (hk : (T.fns.lookup f).isSome = true) (h : Nm C y i) (hst : es.all (fun e => !isStar e) = true) (ha : SndEs T hot C es is) : SndE T hot C (.Call (.Name x p) (.Name y px :: es) [] pos) (.callio f i is) := fun X fa k g =>
  s_callio g.G g.tk g.guards (g.room2 hh) (gn.G g) (g.T.F x f hf) (g.T.kp f hk) gn.d (h.N g) (h.V g) h.d h.cd (ha X fa k g) (noStars hst)
theorem snd_callfr {x : Str} {f : Nat} {p pos : Pos} {e : Expr} {es : List Expr} {ie : I} {is : Is} (hh : hot = false) (gn : Gn C x) (hf : T.fis.lookup x = some f) (hk : (T.fns.lookup f).isSome = true) (hst : (e :: es).all (fun e => !isStar e) = true) (he : SndE T hot C e ie) (ha : SndEs T hot C es is) : SndE T hot C (.Call (.Name x p) (e :: es) [] pos) (.callfr f ie is) := fun X fa k g => by
  rw [List.all_cons, Bool.and_eq_true] at hst
  exact s_callfr g.G g.tk g.guards (g.room2 hh) (gn.G g) (g.T.F x f hf) (g.T.kp f hk) gn.d (he X fa k g) (ha X fa k g) (star_of (by simpa using hst.1)) (noStars hst.2)
/-! ### lambdas, isinstance of an error -/
def xbIn (T : Tab) (y : Str) : Option { p : List Nat × List Nat // (y, p.1, p.2) ∈ T.xb } :=
  match h : T.xb.find? (fun p => p.1 == y) with
  | some p => some ⟨p.2, by
      have e : p.1 = y := by have := List.find?_some h; exact eq_of_beq this
      rw [← e]; exact List.mem_of_find?_eq_some h⟩
  | none => none
def lamVs (N : List Str) (scope : Scope) : List Nat := (List.range N.length).filter fun i => match N[i]? with
  | some x => kindIs (scope.names.lookup x) .free
  | none => false
theorem snd_lamc {x : Str} {f : Nat} {vs : List Nat} {body : Expr} {scope : Scope} {ie : I} {p lpos pos : Pos} (hh : hot = false) (hc : C.ml = true) (gn : Gn C x) (hf : T.fis.lookup x = some f) (hk : (T.fns.lookup f).isSome = true) (hl : LamX.lamSB C.sc scope = true)
    (hb : SndE T hot { N := C.N, sc := scope } body ie) : SndE T hot C (.Call (.Name x p) [.Lambda ⟨[], [], none, [], [], none, []⟩ body scope lpos] [] pos) (.lamc f vs ie) := fun X fa k g => by
  obtain ⟨r3, c, P, h1, h2, h3, h4⟩ := g.ml hc hh
  have L : LamX.LamS X.env.scope scope := by rw [g.sc]; exact LamX.lamS_by hl
  subst hh
  refine s_lamc g.GL g.tk g.guards r3 (gn.G g) (g.T.F x f hf) (g.T.kp f hk) gn.d h1 h2 h3 h4 L rfl (fun _ _ _ _ _ => rfl) fun A outer s2 H2 E a c ga ra => ?_
  refine hb (LamX.lamCx X A outer s2 H2 E scope a c) (fa.to E) k ?_
  exact { N := g.N, sc := rfl, tk := takes_of rfl rfl rfl rfl, calm := fun _ => rfl, guards := ga.trans g.guards, room := fun _ => ra, units := ra.units, nd := g.nd, kind := L.kind, xe := passes_of rfl, G := g.G, GL := g.GL, GK := g.GK, T := g.T, xi := (fun h => by cases h), xf := (fun h => by cases h), pf := g.pf, lam := (fun h => by cases h), ml := fun h => by cases h }
theorem snd_lam0 {x : Str} {i : Nat} {p pos : Pos} (hc : C.la = true) (h : Nm C x i) : SndE T hot C (.Call (.Name x p) [] [] pos) (.lam0 i) := fun X fa k g =>
  g.lam hc X.pn X.xe fa.W g.tk (callF T.fns k) i x p pos (h.N g) (h.V g) h.d h.cd
theorem snd_xisi {x y : Str} {i c : Nat} {xi : XI} {p p1 p2 pos : Pos} (hh : hot = true) (g0 : C.sc.names.lookup ("isinstance" : Str) = some .globalImplicit) (hb : T.gb.contains ("isinstance" : Str) = true) (h : Nm C x i) (gy : Gn C y) (hm : (c, xi) ∈ T.xs) (hn : xi.name = y) (hi : xi.isi = true) :
    SndE T hot C (.Call (.Name "isinstance" p) [.Name x p1, .Name y p2] [] pos) (.xisi i xi.ks xi.cs) := fun X fa k g => by
  refine g.xi hh (callF T.fns k) i xi.ks xi.cs (.ref (fa.C c)) (.ref (fa.C c)) _ x p p1 pos (gl_of g0 g) (g.T.B _ hb) (h.N g) (h.V g) h.d h.cd (pe_glob (gy.G g) (by rw [← hn]; exact (g.T.xh c xi hm).1) (show RelV (.ref (fa.C c)) (.ref (fa.C c)) from rfl) gy.d) (fun u r => r) (g.T.xk c xi hm hi) rfl rfl rfl
theorem snd_xisb {x y : Str} {i : Nat} {ks cs : List Nat} {p p1 p2 pos : Pos} (hh : hot = true) (g0 : C.sc.names.lookup ("isinstance" : Str) = some .globalImplicit) (hb : T.gb.contains ("isinstance" : Str) = true) (h : Nm C x i) (gy : Gn C y) (hm : (y, ks, cs) ∈ T.xb) :
    SndE T hot C (.Call (.Name "isinstance" p) [.Name x p1, .Name y p2] [] pos) (.xisi i ks cs) := fun X fa k g => by
  obtain ⟨t, h1, h2, h3⟩ := g.T.xb y ks cs hm
  refine g.xi hh (callF T.fns k) i ks cs (.ty t) (.type t) _ x p p1 pos (gl_of g0 g) (g.T.B _ hb) (h.N g) (h.V g) h.d h.cd (pe_bltn (gy.G g) h2 h1 (show RelV (.ty t) (.type t) from rfl) (okName_of gy.ok).2.2 gy.d) (fun u r => r) h3 rfl rfl rfl
theorem snd_xfld {x m : Str} {i c f : Nat} {p p1 : Pos} (hh : hot = true) (h : Nm C x i) (hm : (c, f) ∈ T.xf) (hn : nm f = m) : SndE T hot C (.Attribute (.Name x p1) m p) (.xfld i c f) := fun X fa k g => by
  obtain ⟨h1, h2, h3⟩ := g.T.xf _ hm
  subst hn
  exact g.xf hh (callF T.fns k) i c f x p1 p h3 h1 h2 (h.N g) (h.V g) h.d h.cd
theorem snd_callv {x : Str} {i : Nat} {p pos : Pos} {args : List Expr} {is : Is} (hh : hot = false) (h : Nm C x i) (ha : SndA T hot C args pos is) : SndE T hot C (.Call (.Name x p) args [] pos) (.callv i is) := fun X fa k g =>
  s_callv g.G g.tk g.guards (g.room2 hh) (h.N g) (h.V g) h.d h.cd (fun f hf => g.T.kp f hf) (ha X fa k g)
theorem snd_mkv {x : Str} {i : Nat} {p pos : Pos} {args : List Expr} {is : Is} (hh : hot = false) (h : Nm C x i) (ha : SndA T hot C args pos is) : SndE T hot C (.Call (.Name x p) args [] pos) (.mkv i (inOf T) is) := fun X fa k g =>
  s_mkv (in_of g) g.G g.tk g.guards (g.room hh) (h.N g) (h.V g) h.d h.cd (ha X fa k g)
theorem snd_mk {x : Str} {c f : Nat} {ci : CI} {p pos : Pos} {args : List Expr} {is : Is} (hh : hot = false) (gn : Gn C x) (hc : (c, ci) ∈ T.cls) (hn : ci.name = x) (hi : ci.init = some f) (ha : SndA T hot C args pos is) : SndE T hot C (.Call (.Name x p) args [] pos) (.mk c f is) := fun X fa k g => by
  have o := g.T.cls c ci hc
  exact s_mk (o.init f hi) g.G g.tk g.guards (g.room hh) (gn.G g) (by rw [← hn]; exact o.mg) (ha X fa k g) gn.d
theorem snd_cmeth {x m : Str} {c f : Nat} {ci : CI} {p pos apos : Pos} {e : Expr} {es : List Expr} {is : Is} (hh : hot = false) (gn : Gn C x) (hc : (c, ci) ∈ T.cls) (hn : ci.name = x) (hi : ci.cm.lookup m = some f) (hst : (e :: es).all (fun e => !isStar e) = true) (hl : (e :: es).length < 30) (hln : (apos.endLine == pos.line) = true) (ha : SndEs T hot C (e :: es) is) :
    SndE T hot C (.Call (.Attribute (.Name x p) m apos) (e :: es) [] pos) (.cmeth c f is) := fun X fa k g => by
  have o := g.T.cls c ci hc
  obtain ⟨mc, pp, h1, h2⟩ := o.cm m f hi
  have hst' := hst
  rw [List.all_cons, Bool.and_eq_true] at hst
  exact s_cmeth h1 h2 g.G g.tk g.guards (g.room2 hh) (gn.G g) (by rw [← hn]; exact o.mg) (pargsM_K (ha X fa k g) (star_of (by simpa using hst.1)) (noStars hst.2)) gn.d (ht_of rfl hst' hl hln)
theorem snd_cmkw {x m kw : Str} {c f : Nat} {fn : Fn} {ci : CI} {p pos apos kpos : Pos} {e ve : Expr} {es : List Expr} {is : Is} {ip : I} (hh : hot = false) (gn : Gn C x) (hc : (c, ci) ∈ T.cls) (hn : ci.name = x) (hi : ci.ck.lookup m = some f) (hf : T.fns.lookup f = some fn) (hkd : fn.kd = .gv kw) (hnp : fn.np = 3)
    (hst : (e :: es).all (fun e => !isStar e) = true) (hl : (e :: es).length < 28) (hln : (apos.endLine == pos.line) = true) (ha : SndEs T hot C (e :: es) is) (hp : SndE T hot C ve ip) :
    SndE T hot C (.Call (.Attribute (.Name x p) m apos) (e :: es) [⟨some kw, ve, kpos⟩] pos) (.cmkw c f is ip) := fun X fa k g => by
  have o := g.T.cls c ci hc
  obtain ⟨mc, pp, h1, h2⟩ := o.ck m f hi
  have hst' := hst
  rw [List.all_cons, Bool.and_eq_true] at hst
  have he := star_of (es := es) (env := X.env) (by simpa using hst.1 : isStar e = false)
  refine s_cmkw h1 h2 g.GK g.tk g.guards (g.room2 hh) hf hkd hnp (gn.G g) (by rw [← hn]; exact o.mg) (ha X fa k g) (hp X fa k g) he ?_ gn.d (htk_of rfl hst' hl hln)
  rw [he]
  show ((false || (backTo pos (starEach es X.env)).any (·.1)) || false) = false
  rw [noStars hst.2]
  rfl
theorem snd_methS {a y : Expr} {m : Str} {p pos apos : Pos} {ia iy : I} (hh : hot = false) (hm : notNm m = true) (hb : plainBase a = true) (h1 : SndE T hot C a ia) (h2 : SndE T hot C y iy) :
    SndE T hot C (.Call (.Attribute a m apos) [.Starred y p] [] pos) (.meth ia (msOf T m) (.star iy .nil)) := fun X fa k g =>
  s_methS g.G g.tk g.guards (g.room2 hh) hm (bm_of g) (h1 X fa k g) (h2 X fa k g) (base_of hb)
theorem snd_item1 {x : Str} {i : Nat} {px pos : Pos} {b : Expr} {ib : I} (h : Nm C x i) (hs : isSlice b = false) (hb : SndE T hot C b ib) : SndE T hot C (.Subscript (.Name x px) b pos) (.item1 i (giOf T hot x) ib) := fun X fa k g =>
  s_item1t g.G g.tk g.guards g.units (gi_room g) (gi_of g) (h.N g) (h.V g) h.d h.cd (hb X fa k g) (plainIx_of hs) (fun o i => by cases b <;> first | rfl | cases hs)
theorem snd_meth {a : Expr} {m : Str} {pos apos : Pos} {args : List Expr} {ia : I} {is : Is} (hh : hot = false) (hm : notNm m = true) (hb : plainBase a = true) (hst : args.all (fun e => !isStar e) = true) (hl : args.length < 30) (hln : (apos.endLine == pos.line) = true) (h1 : SndE T hot C a ia) (ha : SndA T hot C args pos is) :
    SndE T hot C (.Call (.Attribute a m apos) args [] pos) (.meth ia (msOf T m) is) := fun X fa k g =>
  s_meth g.G g.tk g.guards (g.room2 hh) hm (ms_of g) (h1 X fa k g) (ha X fa k g) (ht_of hb hst hl hln)
theorem snd_prop {a : Expr} {m : Str} {pos : Pos} {ia : I} (hh : hot = false) (hb : plainBase a = true) (h1 : SndE T hot C a ia) : SndE T hot C (.Attribute a m pos) (.prop ia (psOf T m)) := fun X fa k g =>
  s_prop g.G g.guards (g.room hh) (ps_of g) (h1 X fa k g) (base_of hb)
theorem snd_fld {a : Expr} {m : Str} {f : Nat} {pos : Pos} {ia : I} (hf : f < nmT.length ∧ nm f = m) (hb : plainBase a = true) (h1 : SndE T hot C a ia) : SndE T hot C (.Attribute a m pos) (.fld ia f (naOf T f)) := fun X fa k g => by
  obtain ⟨h2, rfl⟩ := hf
  exact s_fld h2 (na_of g) (h1 X fa k g) (base_of hb)
theorem snd_fld1 {x m : Str} {i f : Nat} {px pos : Pos} (hf : f < nmT.length ∧ nm f = m) (h : Nm C x i) : SndE T hot C (.Attribute (.Name x px) m pos) (.fld1 i f (naOf T f)) := fun X fa k g => by
  obtain ⟨h2, rfl⟩ := hf
  exact s_fld1 h2 (na_of g) (h.N g) (h.V g) h.d h.cd
theorem sndA_0 {pos : Pos} : SndA T hot C [] pos .nil := fun X fa k g => pargs_0
theorem sndA_S {a : Expr} {ia : I} {p pos : Pos} (h : SndE T hot C a ia) : SndA T hot C [.Starred a p] pos (.star ia .nil) := fun X fa k g => pargs_S (h X fa k g)
theorem anyStars {pos : Pos} {env : Env} : ∀ {es : List Expr}, es.any isStar = true → (backTo pos (starEach es env)).any (·.1) = true
  | [], h => by cases h
  | e :: es, h => by
    cases hs : isStar e with
    | false =>
      rw [List.any_cons, hs, Bool.false_or] at h
      rw [star_of hs]
      have := anyStars (pos := pos) (env := env) h
      show (false || (backTo pos (starEach es env)).any (·.1)) = true
      rw [this]; rfl
    | true =>
      cases e <;> first | rfl | cases hs
theorem sndA_K {e : Expr} {es : List Expr} {is : Is} {pos : Pos} (he : isStar e = false) (h : SndEs T hot C (e :: es) is) : SndA T hot C (e :: es) pos is := fun X fa k g => by
  cases hp : es.any isStar with
  | true => exact pargs_S2 (h X fa k g) (star_of he) (anyStars hp)
  | false =>
    have hs : es.all (fun e => !isStar e) = true := by
      rw [List.all_eq_true]
      intro e m
      rw [List.any_eq_false] at hp
      simpa using hp e m
    exact fun {fv first} => pargs_K (pos := pos) (h X fa k g) (star_of he) (noStars hs) (fv := fv) (first := first)
theorem snd_glob {x : Str} {d : D} {pos : Pos} (gn : Gn C x) (hc : T.gc.lookup x = some d) : SndE T hot C (.Name x pos) (.con d) := fun X fa k g => by
  obtain ⟨u, v, h1, h2, h3⟩ := g.T.C x d hc
  exact s_c (pe_glob (gn.G g) h1 h2 gn.d) h3
theorem snd_fn {x : Str} {f : Nat} {pos : Pos} (gn : Gn C x) (hc : T.fis.lookup x = some f) : SndE T hot C (.Name x pos) (.con (.fn f)) := fun X fa k g =>
  s_c (pe_glob (gn.G g) (g.T.F x f hc) (show RelV (.ref (fa.f f)) (.ref (fa.f f)) from rfl) gn.d) (.fn f)
theorem snd_cls {x : Str} {c : Nat} {ci : CI} {pos : Pos} (gn : Gn C x) (hc : (c, ci) ∈ T.cls) (hn : ci.name = x) : SndE T hot C (.Name x pos) (.con (.cls c)) := fun X fa k g =>
  s_c (pe_glob (gn.G g) (by rw [← hn]; exact (g.T.cls c ci hc).mg) (show RelV (.ref (fa.C c)) (.ref (fa.C c)) from rfl) gn.d) (.cls c)
end
end DI

namespace DI
open PySem L2
section
variable {X : Cx} {fa : Fa} {cf : CF} {pos : Pos} {a b c : Expr} {tc ta tb : DI.T}
theorem t_ife (hc : PT' X fa cf c tc) (ha : PT' X fa cf a ta) (hb : PT' X fa cf b tb) : PT' X fa cf (.IfExp c a b pos) (.ife tc ta tb) := ⟨fun pins s σ H Q I ⟨F, env, h⟩ => by
  rw [eT_ife] at h
  show wpAny _ _ (isTrue c X.env (eval c X.env) >>= fun t => if t then isTrue a X.env (eval a X.env) else isTrue b X.env (eval b X.env)) _ _ _
  refine wpAny_bind (thn (hc.run pins s σ H (fun k H1 => if k = true then tB X.K fa (eT cf ta) σ H1 Q else tB X.K fa (eT cf tb) σ H1 Q) I ⟨F, env, At.bnd (Rl := bRep) h fun k e1 F1 H1 v s1 r1 h1 => ?_⟩) fun k s1 ⟨H1, I1, q1⟩ => ?_)
  · cases r1
    cases k with
    | true => exact iteT ⟨F1, e1, h1⟩
    | false => exact iteF ⟨F1, e1, h1⟩
  · cases k with
    | true => exact ha.run pins s1 σ H1 Q I1 q1
    | false => exact hb.run pins s1 σ H1 Q I1 (by simpa using q1)⟩
end
section
variable {T : Tab} {hot : Bool} {C : Ct}
theorem snd_join {sep : Str} {j0 : Nat} {p0 apos pos : Pos} {b : Expr} {ib : I} (hl : (apos.endLine == pos.line) = true) (hs : isStar b = false) (hb : SndE T hot C b ib) :
    SndE T hot C (.Call (.Attribute (.Constant (.str sep) j0 p0) "join" apos) [b] [] pos) (.op .join (.cons (.con (.str sep.cps.toList)) (.cons ib .nil))) := fun X fa k g => s_join (hb X fa k g) (star_of hs) (base_of rfl) hl
theorem snd_pop {x : Str} {i : Nat} {px apos pos : Pos} {b : Expr} {ib : I} (h : Nm C x i) (hl : (apos.endLine == pos.line) = true) (hs : isStar b = false) (hb : SndE T hot C b ib) :
    SndE T hot C (.Call (.Attribute (.Name x px) "pop" apos) [b] [] pos) (.pop1 i ib) := fun X fa k g => s_pop1 (h.N g) (h.V g) h.d h.cd (hb X fa k g) rfl (few_of hs) hl (star_of hs)
theorem few2_of {pos : Pos} {env : Env} {b c : Expr} (h : isStar b = false) (h2 : isStar c = false) : ((backTo pos (starEach [b, c] env)).all (fun x => !x.1) && (backToKw pos (keywordEach [] env)).all (fun x => x.1.isSome) && decide ([b, c].length + ([] : List Keyword).length + (if ([] : List Keyword).isEmpty then 0 else 1) < 30)) = true := by
  rw [star_of h, star_of h2]; rfl
theorem snd_get1 {a b : Expr} {ia ib : I} {apos pos : Pos} (hb : plainBase a = true) (hl : (apos.endLine == pos.line) = true) (hs : isStar b = false) (h1 : SndE T hot C a ia) (h2 : SndE T hot C b ib) :
    SndE T hot C (.Call (.Attribute a "get" apos) [b] [] pos) (.dg1 ia ib) := fun X fa k g => s_dg1 g.units (h1 X fa k g) (h2 X fa k g) ⟨base_of hb, few_of hs, hl, by rw [star_of hs]; rfl⟩
theorem snd_get2 {a b c : Expr} {ia ib ic : I} {apos pos : Pos} (hb : plainBase a = true) (hl : (apos.endLine == pos.line) = true) (hs : isStar b = false) (hs2 : isStar c = false) (h1 : SndE T hot C a ia) (h2 : SndE T hot C b ib) (h3 : SndE T hot C c ic) :
    SndE T hot C (.Call (.Attribute a "get" apos) [b, c] [] pos) (.dg2 ia ib ic) := fun X fa k g => s_dg2 g.units (h1 X fa k g) (h2 X fa k g) (h3 X fa k g) ⟨base_of hb, few2_of hs hs2, hl, by rw [star_of hs, star_of hs2]; rfl⟩
theorem snd_items {a : Expr} {ia : I} {apos pos tpos : Pos} {elts : List Expr} {kk : Nat} (hb : plainBase a = true) (hl : (apos.endLine == pos.line) = true) (h1 : SndE T hot C a ia) : SndIt T hot C (.Tuple elts kk tpos) (.Call (.Attribute a "items" apos) [] [] pos) (.items ia) := fun X fa k g =>
  i_items (h1 X fa k g) (base_of hb) hl
theorem snd_vals {tg a : Expr} {ia : I} {apos pos : Pos} (hb : plainBase a = true) (hl : (apos.endLine == pos.line) = true) (h1 : SndE T hot C a ia) : SndIt T hot C tg (.Call (.Attribute a "values" apos) [] [] pos) (.vals ia) := fun X fa k g =>
  i_vals (h1 X fa k g) (base_of hb) hl
theorem snd_enum {a : Expr} {ia : I} {p pos tpos : Pos} {elts : List Expr} {kk : Nat} (gn : Gn C "enumerate") (hb : T.gb.contains ("enumerate" : Str) = true) (hs : isStar a = false) (ha : SndE T hot C a ia) : SndIt T hot C (.Tuple elts kk tpos) (.Call (.Name "enumerate" p) [a] [] pos) (.enum ia) := fun X fa k g =>
  i_enum (gn.G g) (g.T.B _ hb) (star_of hs) (ha X fa k g)
theorem snd_rng1 {tg a : Expr} {ia : I} {p pos : Pos} (gn : Gn C "range") (hb : T.gb.contains "range" = true) (hs : isStar a = false) (ha : SndE T hot C a ia) : SndIt T hot C tg (.Call (.Name "range" p) [a] [] pos) (.rng1 ia) := fun X fa k g =>
  i_rng1 (gn.G g) (g.T.B _ hb) (ha X fa k g) (star_of hs)
theorem snd_rng2 {tg a b : Expr} {ia ib : I} {p pos : Pos} (gn : Gn C "range") (hb : T.gb.contains "range" = true) (hs : isStar a = false) (hs2 : isStar b = false) (ha : SndE T hot C a ia) (hb' : SndE T hot C b ib) : SndIt T hot C tg (.Call (.Name "range" p) [a, b] [] pos) (.rng2 ia ib) := fun X fa k g =>
  i_rng2 (gn.G g) (g.T.B _ hb) (ha X fa k g) (hb' X fa k g) (by rw [star_of hs, star_of hs2]; rfl) (star_of hs2)
theorem snd_len1 {y : Str} {i : Nat} {p py pos : Pos} (gn : Gn C "len") (hb : T.gb.contains "len" = true) (h : Nm C y i) : SndE T hot C (.Call (.Name "len" p) [.Name y py] [] pos) (.len1 i []) := fun X fa k g =>
  s_len1 (h.N g) (h.V g) h.d h.cd (gn.G g) (g.T.B _ hb) (star_of rfl)
end
section
variable (T : Tab) (hot : Bool)
mutual
def cE : Nat → (C : Ct) → (e : Expr) → RE T hot C e
  | 0, _, _ => none
  | n + 1, C, e => match e with
    | .Constant (.int i) _ _ => some ⟨.con (.int i), fun _ _ _ _ => s_int⟩
    | .Constant (.bool i) _ _ => some ⟨.con (.bl i), fun _ _ _ _ => s_bl⟩
    | .Constant .none _ _ => some ⟨.con .non, fun _ _ _ _ => s_non⟩
    | .Constant (.str x) _ _ => some ⟨.con (.str x.cps.toList), fun _ _ _ _ => s_str⟩
    | .Name x _ => match nmIn C x with
      | some ⟨i, h⟩ => some ⟨.var i, fun _ _ _ g => s_var (h.N g) (h.V g) h.d h.cd⟩
      | none => match gnIn C x with
        | some ⟨gn⟩ => match hc : T.gc.lookup x with
          | some d => some ⟨.con d, snd_glob gn hc⟩
          | none => match hf : T.fis.lookup x with
            | some f => some ⟨.con (.fn f), snd_fn gn hf⟩
            | none => match clsIn T x with
              | some ⟨(c, ci), h1, h2⟩ => some ⟨.con (.cls c), snd_cls gn h1 h2⟩
              | none => none
        | none => none
    | .BinOp a op b _ => match ho : binOf op with
      | some o => match cE n C a, cE n C b with
        | some ⟨ia, ha⟩, some ⟨ib, hb⟩ => some ⟨.op o (.cons ia (.cons ib .nil)), snd_bin ho ha hb⟩
        | _, _ => none
      | none => none
    | .UnaryOp .USub a _ => match cE n C a with
      | some ⟨ia, ha⟩ => some ⟨.op .neg (.cons ia .nil), fun X fa k g => s_un un_neg ok_neg (ha X fa k g)⟩
      | none => none
    | .UnaryOp .Not a _ => match cE n C a with
      | some ⟨ia, ha⟩ => some ⟨.notb ia, fun X fa k g => s_not (ha X fa k g)⟩
      | none => none
    | .BoolOp .And vs pos => cAnd n C vs pos
    | .BoolOp .Or vs pos => cOr n C vs pos
    | .Compare (.Name x _) [op] [.List [] pl] _ => match nmIn C x, ho : cmpOf op (.List [] pl) with
      | some ⟨i, h⟩, some o => if hm : behindInMarks op (.List [] pl) = false then some ⟨.nil1 i o, snd_nil1 ho hm h⟩ else none
      | _, _ => none
    | .Compare a [op] [b] _ => match ho : cmpOf op b with
      | some o => if hm : behindInMarks op b = false then match cE n C a, cE n C b with
          | some ⟨ia, ha⟩, some ⟨ib, hb⟩ => some ⟨.op o (.cons ia (.cons ib .nil)), snd_cmp ho hm ha hb⟩
          | _, _ => none
        else none
      | none => none
    | .Compare a [op, op'] [b, c] _ => match ho : cmpOf op b, ho' : cmpOf op' c with
      | some o, some o' => if hm : lastMarks [op, op'] [b, c] = false then match cE n C a, cE n C b, cE n C c with
          | some ⟨ia, ha⟩, some ⟨ib, hb⟩, some ⟨ic, hc⟩ => some ⟨.chain o o' ia ib ic, snd_chain ho ho' hm ha hb hc⟩
          | _, _, _ => none
        else none
      | _, _ => none
    | .IfExp t a b _ => match cT n C t, cE n C a, cE n C b with
      | some ⟨tc, hc⟩, some ⟨ia, ha⟩, some ⟨ib, hb⟩ => some ⟨.ife tc ia ib, fun X fa k g => s_ife (hc X fa k g) (ha X fa k g) (hb X fa k g)⟩
      | _, _, _ => none
    | .Tuple es _ _ => match cEs n C es with
      | some ⟨is, h⟩ => some ⟨.op .tup is, fun X fa k g => s_tup (h X fa k g)⟩
      | none => none
    | .Dict [] [] _ => some ⟨.op .dict .nil, fun _ _ _ _ => s_dict0⟩
    | .Dict ks vs pos => if hh : ks.all (·.isSome) && (ks.length == vs.length) && !ks.isEmpty && decide (ks.length ≤ 15) then match cPs n C pos ks vs with
        | some ⟨is, h⟩ => some ⟨.op .dict is, fun X fa k g => by
            simp only [Bool.and_eq_true, Bool.not_eq_true', beq_iff_eq, decide_eq_true_eq] at hh
            exact s_dict g.units (h X fa k g) hh.1.1.1 hh.1.1.2 (fun e => by rw [e] at hh; simp at hh) hh.2⟩
        | none => none
      else none
    | .List es _ => match cRs n C es with
      | some ⟨is, h⟩ => some ⟨.lst is, fun X fa k g => s_list (h X fa k g)⟩
      | none => none
    | .Subscript a (.Slice none none (some (.UnaryOp .USub (.Constant (.int 1) _ _) _)) _) _ => match cE n C a with
      | some ⟨ia, ha⟩ => some ⟨.op .rev (.cons ia .nil), fun X fa k g => s_rev (ha X fa k g)⟩
      | none => none
    | .Subscript a (.Slice lo hi none _) _ => match cE n C a, cO n C lo, cO n C hi with
      | some ⟨ia, ha⟩, some ⟨il, hl⟩, some ⟨ih, hh⟩ => some ⟨.cut ia il ih, fun X fa k g => s_cut (ha X fa k g) (hl X fa k g) (hh X fa k g)⟩
      | _, _, _ => none
    | .Subscript a b _ => if hb : isSlice b = false then match a with
        | .Name x px => match nmIn C x, cE n C b with
          | some ⟨i, h⟩, some ⟨ib, hb'⟩ => some ⟨.item1 i (giOf T hot x) ib, snd_item1 h hb hb'⟩
          | none, some ⟨ib, hb'⟩ => match cE n C (.Name x px) with
            | some ⟨ia, ha⟩ => some ⟨.op .item (.cons ia (.cons ib .nil)), fun X fa k g => s_item g.units (ha X fa k g) (hb' X fa k g) (plainIx_of hb)⟩
            | none => none
          | _, none => none
        | a' => match cE n C a', cE n C b with
          | some ⟨ia, ha⟩, some ⟨ib, hb'⟩ => some ⟨.op .item (.cons ia (.cons ib .nil)), fun X fa k g => s_item g.units (ha X fa k g) (hb' X fa k g) (plainIx_of hb)⟩
          | _, _ => none
      else none
    | .ListComp elt [⟨tgx, iter, ifs, 0⟩] scope pos => if hh : hot = false then match lcIn C scope tgx with
        | some ⟨(tg, own), h⟩ => if hset : isSet iter = false then match cIt n C tgx iter, cIf n { N := C.N, sc := relS scope C.sc } ifs, cE n { N := C.N, sc := relS scope C.sc } elt with
            | some ⟨it, hi⟩, some ⟨c, hc⟩, some ⟨e, he⟩ => some ⟨.lc tg it c e, snd_lc hh h hset hi hc he⟩
            | _, _, _ => none
          else none
        | none => none
      else none
    | .Attribute a m pos => match xfHot T hot m with
      | some ⟨(c, f), hh, hm, hn⟩ => match a with
        | .Name x px => match nmIn C x with
          | some ⟨i, h⟩ => some ⟨.xfld i c f, snd_xfld hh h hm hn⟩
          | none => none
        | _ => none
      | none => match psOf T m with
      | _ :: _ => if hh : hot = false ∧ plainBase a = true then match cE n C a with
          | some ⟨ia, ha⟩ => some ⟨.prop ia (psOf T m), snd_prop hh.1 hh.2 ha⟩
          | none => none
        else none
      | [] => match nmIx m with
        | some ⟨f, hf⟩ => match a with
          | .Name x px => match nmIn C x with
            | some ⟨i, h⟩ => some ⟨.fld1 i f (naOf T f), snd_fld1 hf h⟩
            | none => none
          | a' => if hb : plainBase a' = true then match cE n C a' with
              | some ⟨ia, ha⟩ => some ⟨.fld ia f (naOf T f), snd_fld hf hb ha⟩
              | none => none
            else none
        | none => none
    | .Call (.Attribute a m apos) args [] pos => cMeth n C a m apos args pos
    | .Call (.Name x p) args [] pos => cCall n C x p args pos
    | .Call (.Attribute (.Name x p) m apos) (e :: es) [⟨some kw, ve, kpos⟩] pos => if hh : hot = false ∧ (e :: es).all (fun e => !isStar e) = true ∧ (e :: es).length < 28 ∧ (apos.endLine == pos.line) = true then match gnIn C x, clsIn T x with
        | some ⟨gn⟩, some ⟨(c, ci), h1, h2⟩ => match hf : ci.ck.lookup m with
          | some f => match hfn : T.fns.lookup f with
            | some fn => match hk : fn.kd with
              | .gv kw' => if hq : kw' = kw ∧ fn.np = 3 then match cEs n C (e :: es), cE n C ve with
                  | some ⟨is, hs⟩, some ⟨ip, hp⟩ => some ⟨.cmkw c f is ip, snd_cmkw hh.1 gn h1 h2 hf hfn (by rw [← hq.1]; exact hk) hq.2 hh.2.1 hh.2.2.1 hh.2.2.2 hs hp⟩
                  | _, _ => none
                else none
              | _ => none
            | none => none
          | none => none
        | _, _ => none
      else none
    | _ => none
def cMeth : Nat → (C : Ct) → (a : Expr) → (m : Str) → (apos : Pos) → (args : List Expr) → (pos : Pos) → RE T hot C (.Call (.Attribute a m apos) args [] pos)
  | 0, _, _, _, _, _, _ => none
  | n + 1, C, a, m, apos, args, pos => if hl : (apos.endLine == pos.line) = true then
      if hm : m = "join" then
        match a, args with
        | .Constant (.str sep) _ _, [b] => if hs : isStar b = false then match cE n C b with
            | some ⟨ib, hb⟩ => some ⟨.op .join (.cons (.con (.str sep.cps.toList)) (.cons ib .nil)), by subst hm; exact snd_join hl hs hb⟩
            | none => none
          else none
        | _, _ => none
      else if hm : m = "upper" then
        match args with
        | [] => if hb : plainBase a = true then match cE n C a with
            | some ⟨ia, ha⟩ => some ⟨.op .upper (.cons ia .nil), fun X fa k g => by subst hm; exact s_upper (ha X fa k g) (base_of hb) hl⟩
            | none => none
          else none
        | _ => none
      else if hm : m = "get" then
        match args with
        | [b] => if hb : plainBase a = true ∧ isStar b = false then match cE n C a, cE n C b with
            | some ⟨ia, ha⟩, some ⟨ib, hb'⟩ => some ⟨.dg1 ia ib, by subst hm; exact snd_get1 hb.1 hl hb.2 ha hb'⟩
            | _, _ => none
          else none
        | [b, c] => if hb : plainBase a = true ∧ isStar b = false ∧ isStar c = false then match cE n C a, cE n C b, cE n C c with
            | some ⟨ia, ha⟩, some ⟨ib, hb'⟩, some ⟨ic, hc⟩ => some ⟨.dg2 ia ib ic, by subst hm; exact snd_get2 hb.1 hl hb.2.1 hb.2.2 ha hb' hc⟩
            | _, _, _ => none
          else none
        | _ => none
      else if hm : m = "pop" then
        match a, args with
        | .Name x px, [b] => if hs : isStar b = false then match nmIn C x, cE n C b with
            | some ⟨i, h⟩, some ⟨ib, hb⟩ => some ⟨.pop1 i ib, by subst hm; exact snd_pop h hl hs hb⟩
            | _, _ => none
          else none
        | _, _ => none
      else if hh : hot = false ∧ args.all (fun e => !isStar e) = true ∧ args.length < 30 then
        match (match a with
          | .Name x px => match gnIn C x, clsIn T x with
            | some _, some _ => true
            | _, _ => false
          | _ => false) with
        | true => match a, args with
          | .Name x px, e :: es => match gnIn C x, clsIn T x with
            | some ⟨gn⟩, some ⟨(c, ci), h1, h2⟩ => match hf : ci.cm.lookup m with
              | some f => match cEs n C (e :: es) with
                | some ⟨is, hs⟩ => some ⟨.cmeth c f is, snd_cmeth hh.1 gn h1 h2 hf hh.2.1 hh.2.2 hl hs⟩
                | none => none
              | none => none
            | _, _ => none
          | _, _ => none
        | false => if hm : notNm m = true ∧ plainBase a = true ∧ (msOf T m).isEmpty = false then match cE n C a, cA n C args pos with
            | some ⟨ia, ha⟩, some ⟨is, hs⟩ => some ⟨.meth ia (msOf T m) is, snd_meth hh.1 hm.1 hm.2.1 hh.2.1 hh.2.2 hl ha hs⟩
            | _, _ => none
          else none
      else match args with
        | [.Starred y p] => if hh : hot = false ∧ notNm m = true ∧ plainBase a = true ∧ (msOf T m).isEmpty = false then match cE n C a, cE n C y with
            | some ⟨ia, ha⟩, some ⟨iy, hy⟩ => some ⟨.meth ia (msOf T m) (.star iy .nil), snd_methS hh.1 hh.2.1 hh.2.2.1 ha hy⟩
            | _, _ => none
          else none
        | _ => none
    else none
def cCall : Nat → (C : Ct) → (x : Str) → (p : Pos) → (args : List Expr) → (pos : Pos) → RE T hot C (.Call (.Name x p) args [] pos)
  | 0, _, _, _, _, _ => none
  | n + 1, C, x, p, args, pos => match nmIn C x with
      | some ⟨i, h⟩ => if hl : args = [] ∧ C.la = true ∧ ¬ x = "cls" then some ⟨.lam0 i, by obtain ⟨rfl, hc, _⟩ := hl; exact snd_lam0 hc h⟩ else
        if hh : hot = false then match cA n C args pos with
          | some ⟨is, hs⟩ => if x = "cls" then some ⟨.mkv i (inOf T) is, snd_mkv hh h hs⟩ else some ⟨.callv i is, snd_callv hh h hs⟩
          | none => none
        else none
      | none => match gnIn C x with
        | none => none
        | some ⟨gn⟩ => match hf : T.fis.lookup x with
          | some f => if hh : hot = false then match hk : T.fns.lookup f with
              | none => none
              | some fn => if fn.io then
                  match args with
                  | [] => none
                  | e :: es => if hst : (e :: es).all (fun e => !isStar e) = true then
                      match e with
                      | .Name y py => match nmIn C y, cEs n C es with
                        | some ⟨i, h⟩, some ⟨is, hs⟩ => some ⟨.callio f i is, snd_callio hh gn hf (by rw [hk]; rfl) h (by rw [List.all_cons, Bool.and_eq_true] at hst; exact hst.2) hs⟩
                        | _, _ => none
                      | e' => match cE n C e', cEs n C es with
                        | some ⟨ie, he⟩, some ⟨is, hs⟩ => some ⟨.callfr f ie is, snd_callfr hh gn hf (by rw [hk]; rfl) hst he hs⟩
                        | _, _ => none
                    else none
                else match args with
                  | [.Lambda ⟨[], [], none, [], [], none, []⟩ body scope lpos] => if hc : C.ml = true ∧ LamX.lamSB C.sc scope = true then match cE n { N := C.N, sc := scope } body with
                      | some ⟨ie, he⟩ => some ⟨.lamc f (lamVs C.N scope) ie, snd_lamc hh hc.1 gn hf (by rw [hk]; rfl) hc.2 he⟩
                      | none => none
                    else none
                  | as => match cA n C as pos with
                    | some ⟨is, hs⟩ => some ⟨.call f is, snd_call hh gn hf (by rw [hk]; rfl) hs⟩
                    | none => none
            else none
          | none => match clsIn T x with
            | some ⟨(c, ci), h1, h2⟩ => if hh : hot = false then match hi : ci.init with
                | some f => match cA n C args pos with
                  | some ⟨is, hs⟩ => some ⟨.mk c f is, snd_mk hh gn h1 h2 hi hs⟩
                  | none => none
                | none => none
              else none
            | none => match args with
              | [] => none
              | e :: es => if hst : (e :: es).all (fun e => !isStar e) = true then
                  if hb : T.gb.contains x = true then
                    if hi : x = "isinstance" then
                      match es with
                      | [.Name t p2] => match ht : tyOf t with
                        | some ty => if hh : kindIs (C.sc.names.lookup t) .globalImplicit && T.gb.contains t then match cE n C e with
                            | some ⟨ie, he⟩ => some ⟨.op (.isi ty) (.cons ie .nil), by
                                subst hi
                                rw [Bool.and_eq_true] at hh
                                rw [List.all_cons, Bool.and_eq_true] at hst
                                exact snd_isi ht gn.gl hb (kindIs_of hh.1) hh.2 (by simpa using hst.1) he⟩
                            | none => none
                          else none
                        | none => if hh : hot = true then match e with
                            | .Name y p1 => match nmIn C y, gnIn C t with
                              | some ⟨i, h⟩, some ⟨gt⟩ => match xIn T t with
                                | some ⟨(c, xi), h1, h2⟩ => if hs : xi.isi = true then some ⟨.xisi i xi.ks xi.cs, by subst hi; exact snd_xisi hh gn.gl hb h gt h1 h2 hs⟩ else none
                                | none => match xbIn T t with
                                  | some ⟨(ks, cs), h1⟩ => some ⟨.xisi i ks cs, by subst hi; exact snd_xisb hh gn.gl hb h gt h1⟩
                                  | none => none
                              | _, _ => none
                            | _ => none
                          else none
                      | _ => none
                    else match (if x = "len" then match e, es with
                      | .Name y _, [] => (nmIn C y).isSome
                      | _, _ => false else false) with
                    | true => if hl : x = "len" then match e, es with
                        | .Name y py, [] => match nmIn C y with
                          | some ⟨i, h⟩ => some ⟨.len1 i [], by subst hl; exact snd_len1 gn hb h⟩
                          | none => none
                        | _, _ => none
                      else none
                    | false => if hh : hot = false ∨ x = "repr" then match ho : bltOf x with
                        | some o => match cEs n C (e :: es) with
                          | some ⟨is, hs⟩ => some ⟨.op o is, snd_blt hh ho gn.gl hb hst hs⟩
                          | none => none
                        | none => none
                      else none
                  else none
                else none
def cAnd : Nat → (C : Ct) → (vs : List Expr) → (pos : Pos) → RE T hot C (.BoolOp .And vs pos)
  | 0, _, _, _ => none
  | n + 1, C, vs, pos => match vs with
    | [a] => match cE n C a with
      | some ⟨ia, ha⟩ => some ⟨ia, fun X fa k g => s_and1 (ha X fa k g)⟩
      | none => none
    | a :: b :: r => match cE n C a, cAnd n C (b :: r) pos with
      | some ⟨ia, ha⟩, some ⟨ib, hb⟩ => some ⟨.andb ia ib, fun X fa k g => s_and (ha X fa k g) (hb X fa k g)⟩
      | _, _ => none
    | _ => none
def cOr : Nat → (C : Ct) → (vs : List Expr) → (pos : Pos) → RE T hot C (.BoolOp .Or vs pos)
  | 0, _, _, _ => none
  | n + 1, C, vs, pos => match vs with
    | [a] => match cE n C a with
      | some ⟨ia, ha⟩ => some ⟨ia, fun X fa k g => s_and1 (ha X fa k g)⟩
      | none => none
    | a :: b :: r => match cE n C a, cOr n C (b :: r) pos with
      | some ⟨ia, ha⟩, some ⟨ib, hb⟩ => some ⟨.orb ia ib, fun X fa k g => s_or (ha X fa k g) (hb X fa k g)⟩
      | _, _ => none
    | _ => none
def cEs : Nat → (C : Ct) → (es : List Expr) → REs T hot C es
  | 0, _, _ => none
  | n + 1, C, es => match es with
    | [] => some ⟨.nil, fun _ _ _ _ => s_nil⟩
    | .Starred a _ :: r => match cE n C a, cEs n C r with
      | some ⟨ie, he⟩, some ⟨ir, hr⟩ => some ⟨.star ie ir, fun X fa k g => s_star (he X fa k g) (hr X fa k g)⟩
      | _, _ => none
    | e :: r => if hs : isStar e = false then match cE n C e, cEs n C r with
        | some ⟨ie, he⟩, some ⟨ir, hr⟩ => some ⟨.cons ie ir, fun X fa k g => s_cons (he X fa k g) (hr X fa k g) (star_of hs)⟩
        | _, _ => none
      else none
def cRs : Nat → (C : Ct) → (es : List Expr) → RRs T hot C es
  | 0, _, _ => none
  | n + 1, C, es => match es with
    | [] => some ⟨.nil, fun _ _ _ _ => r_nil⟩
    | e :: r => if hs : isStar e = false then match cE n C e, cRs n C r with
        | some ⟨ie, he⟩, some ⟨ir, hr⟩ => some ⟨.cons ie ir, fun X fa k g => r_cons (he X fa k g) (hr X fa k g) (star_of hs)⟩
        | _, _ => none
      else none
def cA : Nat → (C : Ct) → (args : List Expr) → (pos : Pos) → RA T hot C args pos
  | 0, _, _, _ => none
  | n + 1, C, args, pos => match args with
    | [] => some ⟨.nil, sndA_0⟩
    | [.Starred a _] => match cE n C a with
      | some ⟨ia, ha⟩ => some ⟨.star ia .nil, sndA_S ha⟩
      | none => none
    | e :: es => if hs : isStar e = false then match cEs n C (e :: es) with
        | some ⟨is, h⟩ => some ⟨is, sndA_K hs h⟩
        | none => none
      else none
def cO : Nat → (C : Ct) → (e : Option Expr) → RO T hot C e
  | 0, _, _ => none
  | n + 1, C, e => match e with
    | none => some ⟨.none, fun _ _ _ _ => s_o0⟩
    | some a => match cE n C a with
      | some ⟨ia, ha⟩ => some ⟨.some ia, fun X fa k g => s_o1 (ha X fa k g)⟩
      | none => none
def cPs : Nat → (C : Ct) → (pos : Pos) → (ks : List (Option Expr)) → (vs : List Expr) → Option { i : Is // ∀ (X : Cx) (fa : Fa) (k : Nat), Good T hot C X fa k → PPs' X fa (callF T.fns k) pos ks vs i }
  | 0, _, _, _, _ => none
  | n + 1, C, pos, ks, vs => match ks, vs with
    | [], [] => some ⟨.nil, fun _ _ _ _ => d_nil⟩
    | some a :: ks, b :: vs => match cE n C a, cE n C b, cPs n C pos ks vs with
      | some ⟨ia, ha⟩, some ⟨ib, hb⟩, some ⟨ir, hr⟩ => some ⟨.cons ia (.cons ib ir), fun X fa k g => d_cons (ha X fa k g) (hb X fa k g) (hr X fa k g)⟩
      | _, _, _ => none
    | _, _ => none
def cT : Nat → (C : Ct) → (e : Expr) → RT T hot C e
  | 0, _, _ => none
  | n + 1, C, e => match e with
    | .UnaryOp .Not a _ => match cT n C a with
      | some ⟨ia, ha⟩ => some ⟨.not ia, fun X fa k g => t_not (ha X fa k g)⟩
      | none => none
    | .BoolOp .And vs pos => match cWA n C vs pos with
      | some ⟨i, h⟩ => some ⟨i, fun X fa k g => (h X fa k g).pt⟩
      | none => none
    | .BoolOp .Or vs pos => match cWO n C vs pos with
      | some ⟨i, h⟩ => some ⟨i, fun X fa k g => (h X fa k g).pt⟩
      | none => none
    | .IfExp t a b _ => match cT n C t, cT n C a, cT n C b with
      | some ⟨tc, hc⟩, some ⟨ia, ha⟩, some ⟨ib, hb⟩ => some ⟨.ife tc ia ib, fun X fa k g => t_ife (hc X fa k g) (ha X fa k g) (hb X fa k g)⟩
      | _, _, _ => none
    | .Compare (.Name x _) [op] [.List [] pl] _ => match nmIn C x, ho : cmpOf op (.List [] pl) with
      | some ⟨i, h⟩, some o => if hm : behindInMarks op (.List [] pl) = false then some ⟨.val (.nil1 i o), sndT_nil1 ho hm h⟩ else none
      | _, _ => none
    | .Compare a [op] [b] _ => match ho : cmpOf op b with
      | some o => if hm : behindInMarks op b = false then match cE n C a, cE n C b with
          | some ⟨ia, ha⟩, some ⟨ib, hb⟩ => some ⟨.val (.op o (.cons ia (.cons ib .nil))), sndT_cmp ho hm ha hb⟩
          | _, _ => none
        else none
      | none => none
    | .Compare a [op, op'] [b, c] _ => match ho : cmpOf op b, ho' : cmpOf op' c with
      | some o, some o' => if hm : lastMarks [op, op'] [b, c] = false then match cE n C a, cE n C b, cE n C c with
          | some ⟨ia, ha⟩, some ⟨ib, hb⟩, some ⟨ic, hc⟩ => some ⟨.val (.chain o o' ia ib ic), sndT_chain ho ho' hm ha hb hc⟩
          | _, _, _ => none
        else none
      | _, _ => none
    | e' => if hp : plainTest e' = true then match cE n C e' with
        | some ⟨ia, ha⟩ => some ⟨.val ia, fun X fa k g => t_val (ha X fa k g) (test_of hp)⟩
        | none => none
      else none
def cWA : Nat → (C : Ct) → (vs : List Expr) → (pos : Pos) → RW T hot C (.BoolOp .And vs pos)
  | 0, _, _, _ => none
  | n + 1, C, vs, pos => match vs with
    | [a] => match cT n C a with
      | some ⟨ia, ha⟩ => some ⟨ia, fun X fa k g => tw_one (ha X fa k g)⟩
      | none => none
    | a :: b :: r => match cT n C a, cWA n C (b :: r) pos with
      | some ⟨ia, ha⟩, some ⟨ib, hb⟩ => some ⟨.and ia ib, fun X fa k g => tw_and (ha X fa k g) (hb X fa k g)⟩
      | _, _ => none
    | _ => none
def cWO : Nat → (C : Ct) → (vs : List Expr) → (pos : Pos) → RW T hot C (.BoolOp .Or vs pos)
  | 0, _, _, _ => none
  | n + 1, C, vs, pos => match vs with
    | [a] => match cT n C a with
      | some ⟨ia, ha⟩ => some ⟨ia, fun X fa k g => tw_one (ha X fa k g)⟩
      | none => none
    | a :: b :: r => match cT n C a, cWO n C (b :: r) pos with
      | some ⟨ia, ha⟩, some ⟨ib, hb⟩ => some ⟨.or ia ib, fun X fa k g => tw_or (ha X fa k g) (hb X fa k g)⟩
      | _, _ => none
    | _ => none
def cIf : Nat → (C : Ct) → (ifs : List Expr) → RTs T hot C ifs
  | 0, _, _ => none
  | n + 1, C, ifs => match ifs with
    | [] => some ⟨.yes, fun _ _ _ _ => t_yes⟩
    | [a] => match cT n C a with
      | some ⟨ia, ha⟩ => some ⟨ia, fun X fa k g => t_ifs (ha X fa k g)⟩
      | none => none
    | _ => none
def cIt : Nat → (C : Ct) → (tg e : Expr) → RIt T hot C tg e
  | 0, _, _, _ => none
  | n + 1, C, tg, e => match e with
    | .Call (.Name x p) [a] [] pos => if hr : x = "range" then
          match gnIn C x with
          | some ⟨gn⟩ => if hh : T.gb.contains x = true ∧ isStar a = false then match cE n C a with
              | some ⟨ia, ha⟩ => some ⟨.rng1 ia, by subst hr; exact snd_rng1 gn hh.1 hh.2 ha⟩
              | none => none
            else none
          | none => none
        else if he : x = "enumerate" then
          match tg with
          | .Tuple elts kk tpos => match gnIn C x with
            | some ⟨gn⟩ => if hh : T.gb.contains x = true ∧ isStar a = false then match cE n C a with
                | some ⟨ia, ha⟩ => some ⟨.enum ia, by subst he; exact snd_enum gn hh.1 hh.2 ha⟩
                | none => none
              else none
            | none => none
          | _ => none
        else match cE n C (.Call (.Name x p) [a] [] pos) with
          | some ⟨ia, ha⟩ => some ⟨.seq ia, fun X fa k g => i_seq (ha X fa k g)⟩
          | none => none
    | .Call (.Name x p) [a, b] [] pos => if hr : x = "range" then
          match gnIn C x with
          | some ⟨gn⟩ => if hh : T.gb.contains x = true ∧ isStar a = false ∧ isStar b = false then match cE n C a, cE n C b with
              | some ⟨ia, ha⟩, some ⟨ib, hb⟩ => some ⟨.rng2 ia ib, by subst hr; exact snd_rng2 gn hh.1 hh.2.1 hh.2.2 ha hb⟩
              | _, _ => none
            else none
          | none => none
        else match cE n C (.Call (.Name x p) [a, b] [] pos) with
          | some ⟨ia, ha⟩ => some ⟨.seq ia, fun X fa k g => i_seq (ha X fa k g)⟩
          | none => none
    | .Call (.Attribute a m apos) [] [] pos => if hm : m = "items" then
          match tg with
          | .Tuple elts kk tpos => if hh : plainBase a = true ∧ (apos.endLine == pos.line) = true then match cE n C a with
              | some ⟨ia, ha⟩ => some ⟨.items ia, by subst hm; exact snd_items hh.1 hh.2 ha⟩
              | none => none
            else none
          | _ => none
        else if hm : m = "values" then
          if hh : plainBase a = true ∧ (apos.endLine == pos.line) = true then match cE n C a with
            | some ⟨ia, ha⟩ => some ⟨.vals ia, by subst hm; exact snd_vals hh.1 hh.2 ha⟩
            | none => none
          else none
        else match cE n C (.Call (.Attribute a m apos) [] [] pos) with
          | some ⟨ia, ha⟩ => some ⟨.seq ia, fun X fa k g => i_seq (ha X fa k g)⟩
          | none => none
    | e' => match cE n C e' with
      | some ⟨ia, ha⟩ => some ⟨.seq ia, fun X fa k g => i_seq (ha X fa k g)⟩
      | none => none
end
end
end DI

namespace DI
open PySem L2
section
variable {T : Tab} {hot : Bool} {C : Ct} {X : Cx} {fa : Fa} {k : Nat}
theorem GoodS.tr {W : WX} {pn : List (Addr × Obj)} {xe : Value → Shared → Prop} (g : GoodS T false C X fa k) (tk : Takes (X.tr pn xe) W) (hx : PassesOwn (model X.prog X.w) X.A X.env xe) : GoodS T false C (X.tr pn xe) (fa.w W) k :=
  { N := g.N, sc := g.sc, tk := tk, calm := g.calm, guards := g.guards, room := g.room, units := g.units, nd := g.nd, kind := g.kind, xe := hx, G := g.G, GL := g.GL, GK := g.GK, T := g.T, xi := (fun h => by cases h), xf := (fun h => by cases h), pf := g.pf, lam := g.lam, ml := g.ml, fn := g.fn, st := g.st }
theorem GoodS.suite {a : Addr} {oe : Obj} {pn : List (Addr × Obj)} {cls : Value} {d : Option Addr} (g : GoodS T false C X fa k) (hz : Zc cls d oe) (hf : ∃ vs, oe.data = .fields vs) : GoodS T true C.no (X.suite a ((a, oe) :: pn)) (fa.su X.K a cls d) k :=
  { N := g.N, sc := g.sc, tk := fun u s' ⟨_, _, _, _, _, _, _, _, _, _, _, _, _, _, _, _, w⟩ => w.elim, calm := fun h => (by cases h), guards := g.guards, room := fun h => (by cases h), units := g.units, nd := g.nd, kind := g.kind, xe := PassesOwn.never, G := g.G, GL := g.GL, GK := g.GK, T := g.T, xi := fun _ => xi_suite hz hf, xf := fun _ => xf_suite hz hf, pf := g.pf, lam := (fun h => by cases h), ml := (fun h => by cases h), fn := g.fn, st := fun h => (by cases h) }
/-- a statement that the layer does not cover: nothing is told of it -/
theorem snd_no {st : Stmt} : SndS T hot C st .no := fun X fa k gs => ⟨fun pins s σ H D I ⟨F, env, h⟩ => (h.no rfl).elim⟩
theorem snd_put1 {x : Str} {i : Nat} {b a : Expr} {ib ia : I} {px p2 pos : Pos} (h : Nm C x i) (hsl : isSlice b = false) (hco : isComp a = false) (hb : SndE T hot C b ib) (ha : SndE T hot C a ia) :
    SndS T hot C (.Assign [.Subscript (.Name x px) b p2] a pos) (.put1 i ib ia) := fun X fa k gs => by
  have g := gs.toGood
  refine b_put1 g.units (h.N g) (h.V g) h.d h.cd (hb X fa k g) (ha X fa k g) (fun v => ?_) ?_ ?_ rfl
  · cases b <;> first | rfl | cases hsl
  · cases a <;> first | rfl | cases hco
  · cases a <;> rfl
theorem snd_setf {x m : Str} {i f : Nat} {a : Expr} {ia : I} {px p2 pos : Pos} (hf : f < nmT.length ∧ nm f = m) (h : Nm C x i) (hco : isComp a = false) (ha : SndE T hot C a ia) :
    SndS T hot C (.Assign [.Attribute (.Name x px) m p2] a pos) (.setf i f (naOf T f) ia) := fun X fa k gs => by
  have g := gs.toGood
  obtain ⟨h2, rfl⟩ := hf
  exact b_setf h2 (na_of g) (h.N g) (h.V g) h.d h.cd (ha X fa k g) (swap_of hco)
/-- a, b = x, y -/
structure Par2 (C : Ct) (x y : Str) (px py : Pos) (i j : Nat) (vs : List Expr) : Prop where
  ix : C.N[i]? = some x
  jy : C.N[j]? = some y
  ne : (i == j) = false
  lx : kindIs (C.sc.names.lookup x) .local = true
  ly : kindIs (C.sc.names.lookup y) .local = true
  ln : (py.line == px.line) = true
  xy : (x == y) = false
  ok : parOk vs = true
structure Par3 (C : Ct) (x y z : Str) (px py pz : Pos) (i j l : Nat) (vs : List Expr) : Prop where
  ix : C.N[i]? = some x
  jy : C.N[j]? = some y
  lz : C.N[l]? = some z
  nij : (i == j) = false
  nil : (i == l) = false
  njl : (j == l) = false
  lx : kindIs (C.sc.names.lookup x) .local = true
  ly : kindIs (C.sc.names.lookup y) .local = true
  lzz : kindIs (C.sc.names.lookup z) .local = true
  ln : (py.line == px.line) = true
  ln2 : (pz.line == px.line) = true
  xy : (x == y) = false
  xz : (x == z) = false
  yz : (y == z) = false
  ok : parOk vs = true
def par2In (C : Ct) (x y : Str) (px py : Pos) (vs : List Expr) : Option { p : Nat × Nat // Par2 C x y px py p.1 p.2 vs } :=
  match ixIn C.N x, ixIn C.N y with
  | some ⟨i, hi⟩, some ⟨j, hj⟩ =>
    if h : ((i == j) = false ∧ kindIs (C.sc.names.lookup x) .local = true ∧ kindIs (C.sc.names.lookup y) .local = true ∧ (py.line == px.line) = true ∧ (x == y) = false ∧ parOk vs = true) then
      some ⟨(i, j), ⟨hi, hj, h.1, h.2.1, h.2.2.1, h.2.2.2.1, h.2.2.2.2.1, h.2.2.2.2.2⟩⟩ else none
  | _, _ => none
def par3In (C : Ct) (x y z : Str) (px py pz : Pos) (vs : List Expr) : Option { p : Nat × Nat × Nat // Par3 C x y z px py pz p.1 p.2.1 p.2.2 vs } :=
  match ixIn C.N x, ixIn C.N y, ixIn C.N z with
  | some ⟨i, hi⟩, some ⟨j, hj⟩, some ⟨l, hl⟩ =>
    if h : (((i == j) = false ∧ (i == l) = false ∧ (j == l) = false) ∧ (kindIs (C.sc.names.lookup x) .local = true ∧ kindIs (C.sc.names.lookup y) .local = true ∧ kindIs (C.sc.names.lookup z) .local = true) ∧ ((py.line == px.line) = true ∧ (pz.line == px.line) = true) ∧ ((x == y) = false ∧ (x == z) = false ∧ (y == z) = false) ∧ parOk vs = true) then
      some ⟨(i, j, l), ⟨hi, hj, hl, h.1.1, h.1.2.1, h.1.2.2, h.2.1.1, h.2.1.2.1, h.2.1.2.2, h.2.2.1.1, h.2.2.1.2, h.2.2.2.1.1, h.2.2.2.1.2.1, h.2.2.2.1.2.2, h.2.2.2.2⟩⟩ else none
  | _, _, _ => none
theorem nebeq {i j : Nat} (h : (i == j) = false) : i ≠ j := fun e => by rw [e] at h; simp at h
theorem snd_par2 {x y : Str} {px py pt pt2 pos : Pos} {kt k2 i j : Nat} {a b : Expr} {is : Is} (hh : hot = false) (h : Par2 C x y px py i j [a, b]) (ha : SndRs T hot C [a, b] is) :
    SndS T hot C (.Assign [.Tuple [.Name x px, .Name y py] kt pt] (.Tuple [a, b] k2 pt2) pos) (.par [i, j] is) := fun X fa k gs => by
  have g := gs.toGood
  have hx : X.env.scope.names.lookup x = some .local := by rw [g.sc]; exact kindIs_of h.lx
  have hy : X.env.scope.names.lookup y = some .local := by rw [g.sc]; exact kindIs_of h.ly
  exact b_par2 (g.calm hh) g.nd (by rw [g.N]; exact h.ix) (by rw [g.N]; exact h.jy) (nebeq h.ne) hx hy (ha X fa k g) (sw2 g.kind hx hy h.ln h.xy h.ok)
theorem snd_par3 {x y z : Str} {px py pz pt pt2 pos : Pos} {kt k2 i j l : Nat} {a b c : Expr} {is : Is} (hh : hot = false) (h : Par3 C x y z px py pz i j l [a, b, c]) (ha : SndRs T hot C [a, b, c] is) :
    SndS T hot C (.Assign [.Tuple [.Name x px, .Name y py, .Name z pz] kt pt] (.Tuple [a, b, c] k2 pt2) pos) (.par [i, j, l] is) := fun X fa k gs => by
  have g := gs.toGood
  have hx : X.env.scope.names.lookup x = some .local := by rw [g.sc]; exact kindIs_of h.lx
  have hy : X.env.scope.names.lookup y = some .local := by rw [g.sc]; exact kindIs_of h.ly
  have hz : X.env.scope.names.lookup z = some .local := by rw [g.sc]; exact kindIs_of h.lzz
  exact b_par3 (g.calm hh) g.nd (by rw [g.N]; exact h.ix) (by rw [g.N]; exact h.jy) (by rw [g.N]; exact h.lz) (nebeq h.nij) (nebeq h.nil) (nebeq h.njl) hx hy hz (ha X fa k g) (sw3 g.kind hx hy hz h.ln h.ln2 h.xy h.xz h.yz h.ok)
/-! ### a, x[i] = e -/
def swNone (ts : List Expr) : Expr → Bool
  | .Tuple vs _ _ => (!(ts.length == 2 || ts.length == 3)) || (vs.length != ts.length) || !ts.all isName || (vs.all (foldedForSure 8))
  | _ => true
theorem names_lt {env : Env} {line : Nat} : ∀ {ts : List Expr}, (ts.filterMap fun
    | .Name id pos => if env.kindOf id == some .local && pos.line == line then some id else none
    | _ => none).length ≤ ts.length ∧ (ts.all isName = false → (ts.filterMap fun
    | .Name id pos => if env.kindOf id == some .local && pos.line == line then some id else none
    | _ => none).length < ts.length)
  | [] => ⟨Nat.le_refl _, fun h => by cases h⟩
  | t :: ts => by
    obtain ⟨h1, h2⟩ := names_lt (env := env) (line := line) (ts := ts)
    have hle := List.length_filterMap_le (fun
      | Expr.Name id pos => if env.kindOf id == some .local && pos.line == line then some id else none
      | _ => none) (t :: ts)
    refine ⟨hle, fun h => ?_⟩
    rw [List.all_cons] at h
    cases ht : isName t with
    | true =>
      rw [ht, Bool.true_and] at h
      have := h2 h
      rw [List.filterMap_cons]
      split
      · exact Nat.lt_succ_of_lt this
      · exact Nat.succ_lt_succ this
    | false =>
      rw [List.filterMap_cons]
      split
      · exact Nat.lt_succ_of_le h1
      · rename_i e
        cases t <;> first | (cases ht; done) | (cases e; done)
theorem sw_none {ts : List Expr} {kt : Nat} {pt : Pos} {a : Expr} {env : Env} (h : swNone ts a = true) : swappedStores [.Tuple ts kt pt] a env = pure none := by
  cases a with
  | Tuple vs k2 p2 =>
    unfold swNone at h
    simp only [Bool.or_eq_true, Bool.not_eq_true', bne_iff_ne] at h
    unfold swappedStores
    simp only
    split
    · rfl
    · rename_i h1
      split
      · rfl
      · split
        · rfl
        · rename_i h2
          split
          · rfl
          · rename_i h3
            exfalso
            rcases h with ((h | h) | h) | h
            · simp [h] at h1
            · exact h1 (by simp [h])
            · have := (names_lt (env := env) (line := (ts.head?.map (·.pos.line)).getD 0) (ts := ts)).2 h
              apply h2
              rw [Bool.or_eq_true]
              left
              rw [bne_iff_ne]
              exact Nat.ne_of_lt this
            · exact h3 h
  | _ => rfl
abbrev SndP (T : Tab) (hot : Bool) (C : Ct) (es : List Expr) (ps : List Pl) : Prop := (ps.all noFl = true ∧ es.length = ps.length ∧ es.all (fun e => !isStar e) = true) ∧ ∀ (X : Cx) (fa : Fa) (k : Nat), GoodS T hot C X fa k → PGs X es (gPs X.K fa (callF T.fns k) ps)
theorem sndP_nil : SndP T hot C [] [] := ⟨⟨rfl, rfl, rfl⟩, fun X fa k g => pgs_nil⟩
theorem sndP_nm {x : Str} {px : Pos} {i : Nat} {es : List Expr} {ps : List Pl} (hi : C.N[i]? = some x) (hl : Loc C.sc x) (hr : SndP T hot C es ps) : SndP T hot C (.Name x px :: es) (.nm i :: ps) :=
  ⟨⟨hr.1.1, congrArg (· + 1) hr.1.2.1, hr.1.2.2⟩, fun X fa k g => pgs_cons (pg_name g.nd (by rw [g.N]; exact hi) (by rw [g.sc]; exact hl) (.inl (g.fn x))) (hr.2 X fa k g) rfl⟩
theorem sndP_sub {x : Str} {px p2 : Pos} {i : Nat} {b : Expr} {ib : I} {es : List Expr} {ps : List Pl} (h : Nm C x i) (hsl : isSlice b = false) (hb : SndE T hot C b ib) (hr : SndP T hot C es ps) : SndP T hot C (.Subscript (.Name x px) b p2 :: es) (.sub i ib :: ps) :=
  ⟨⟨hr.1.1, congrArg (· + 1) hr.1.2.1, hr.1.2.2⟩, fun X fa k gs => by
    have g := gs.toGood
    refine pgs_cons (pg_sub (pe_var (h.N g) (h.V g) h.d h.cd) (hb X fa k g) (set_any g.units) (fun v => ?_)) (hr.2 X fa k gs) rfl
    cases b <;> first | rfl | cases hsl⟩
/-- a target that is no local name: the values are laid in a tuple -/
def hasCell (sc : Scope) : List Expr → Bool
  | [] => false
  | .Name x _ :: r => kindIs (sc.names.lookup x) .cell || hasCell sc r
  | _ :: r => hasCell sc r
theorem cells_lt {env : Env} {line : Nat} : ∀ {ts : List Expr}, hasCell env.scope ts = true → (ts.filterMap fun
    | .Name id pos => if env.kindOf id == some .local && pos.line == line then some id else none
    | _ => none).length < ts.length
  | [], h => by cases h
  | t :: ts, h => by
    have hle := List.length_filterMap_le (fun
      | Expr.Name id pos => if env.kindOf id == some .local && pos.line == line then some id else none
      | _ => none) ts
    have ih := @cells_lt env line ts
    rw [List.filterMap_cons]
    cases t with
    | Name x px =>
      have h' : (kindIs (env.scope.names.lookup x) .cell || hasCell env.scope ts) = true := h
      cases hc : kindIs (env.scope.names.lookup x) .cell with
      | true =>
        have hk : (env.kindOf x == some NameKind.local) = false := by
          show (env.scope.names.lookup x == some NameKind.local) = false
          rw [kindIs_of hc]; rfl
        simp only [hk, Bool.false_and, Bool.false_eq_true, if_false]
        exact Nat.lt_succ_of_le hle
      | false =>
        rw [hc, Bool.false_or] at h'
        have := ih h'
        split
        · exact Nat.lt_succ_of_lt this
        · exact Nat.succ_lt_succ this
    | _ => exact Nat.lt_succ_of_lt (ih h)
theorem sw_cell {ts : List Expr} {kt : Nat} {pt : Pos} {a : Expr} {env : Env} (h : hasCell env.scope ts = true) : swappedStores [.Tuple ts kt pt] a env = pure none := by
  cases a with
  | Tuple vs k2 p2 =>
    unfold swappedStores
    simp only
    split
    · rfl
    · split
      · rfl
      · split
        · rfl
        · rename_i h2
          exfalso
          have := cells_lt (line := (ts.head?.map (·.pos.line)).getD 0) h
          apply h2
          rw [Bool.or_eq_true]
          left
          rw [bne_iff_ne]
          exact Nat.ne_of_lt this
  | _ => rfl
theorem snd_upkC {ts : List Expr} {kt : Nat} {pt pos : Pos} {a : Expr} {ia : I} {ps : List Pl} (hh : hot = false) (hw : hasCell C.sc ts = true) (hco : isComp a = false) (hp : SndP T hot C ts ps) (ha : SndE T hot C a ia) : SndS T hot C (.Assign [.Tuple ts kt pt] a pos) (.upk ps ia) := fun X fa k gs => by
  have g := gs.toGood
  obtain ⟨h1, h2⟩ := assignEach_len (env := X.env) hp.1.2.2
  exact b_upk (g.calm hh) hp.1.1 (ha X fa k g) (hp.2 X fa k gs) (by rw [h1, hp.1.2.1]) h2 (show swapsWith a (some (.Tuple ts kt pt)) pos.line X.env = pure false from swap_of hco) (sw_cell (by rw [g.sc]; exact hw)) rfl
/-- a cell gets a comprehension -/
theorem swap_cell {a : Expr} {y : Str} {py : Pos} {l : Nat} {env : Env} (h : kindIs (env.scope.names.lookup y) .cell = true) : swapsWith a (some (.Name y py)) l env = pure false := by
  have hk : (env.kindOf y == some NameKind.local) = false := by
    show (env.scope.names.lookup y == some NameKind.local) = false
    rw [kindIs_of h]; rfl
  cases a <;> first | rfl | simp only [swapsWith, hk, Bool.and_false, Bool.false_and]
theorem snd_upk {ts : List Expr} {kt : Nat} {pt pos : Pos} {a : Expr} {ia : I} {ps : List Pl} (hh : hot = false) (hw : swNone ts a = true) (hco : isComp a = false) (hp : SndP T hot C ts ps) (ha : SndE T hot C a ia) : SndS T hot C (.Assign [.Tuple ts kt pt] a pos) (.upk ps ia) := fun X fa k gs => by
  have g := gs.toGood
  obtain ⟨h1, h2⟩ := assignEach_len (env := X.env) hp.1.2.2
  exact b_upk (g.calm hh) hp.1.1 (ha X fa k g) (hp.2 X fa k gs) (by rw [h1, hp.1.2.1]) h2 (show swapsWith a (some (.Tuple ts kt pt)) pos.line X.env = pure false from swap_of hco) (sw_none hw) rfl
/-! ### raise, try -/
theorem snd_rs0 {x m : Str} {c : Nat} {xi : XI} {j : Nat} {p1 p2 p3 pos : Pos} (hh : hot = false) (gn : Gn C x) (hc : (c, xi) ∈ T.xs) (hn : xi.name = x) (hr : xi.raises = true) : SndS T hot C (.Raise (some (.Call (.Name x p1) [.Constant (.str m) j p2] [] p3)) none pos) (.rs c none (.con (.str m.cps.toList))) := fun X fa k gs => by
  have g := gs.toGood
  obtain ⟨h1, ⟨bmB, B, newId, initId, h2, h3⟩, h4, h5, h6⟩ := g.T.xr c xi hc hr
  exact b_rs0 (g.calm hh) g.tk h2 h3 (by rw [← hn]; exact h1) h4 (raises_own h5 h6) (gn.G g) gn.d
theorem snd_rs1 {x : Str} {c f : Nat} {xi : XI} {n : XN} {a : Expr} {ia : I} {p1 p3 pos : Pos} (hh : hot = false) (gn : Gn C x) (hc : (c, xi) ∈ T.xs) (hn : xi.name = x) (hx : (c, f, n) ∈ T.xn) (hs : isStar a = false) (ha : SndE T hot C a ia) : SndS T hot C (.Raise (some (.Call (.Name x p1) [a] [] p3)) none pos) (.rs c (some f) ia) := fun X fa k gs => by
  have g := gs.toGood
  exact b_rs1 (g.calm hh) g.tk g.pf (g.T.xn _ hx) ((g.room hh).mono (by omega)) (by rw [← hn]; exact (g.T.xh c xi hc).1) (gn.G g) gn.d (ha X fa k g) (star_of hs)
abbrev SndH (T : Tab) (C : Ct) (hds : List ExceptHandler) (hs : Hs) : Prop := ∀ (X : Cx) (fa : Fa) (k : Nat), GoodS T false C X fa k → ∃ l, Hds X fa (callF T.fns k) hds hs l
theorem sndH_nil : SndH T C [] .nil := fun X fa k g => ⟨_, .nil⟩
theorem sndH_bare {x : Str} {c : Nat} {xi : XI} {st : Stmt} {sts : List Stmt} {ib : Ss} {p1 p2 : Pos} {hds : List ExceptHandler} {hs : Hs} (gn : Gn C x) (hc : (c, xi) ∈ T.xs) (hn : xi.name = x) (hb : SndSs T true C.no (st :: sts) ib) (hr : SndH T C hds hs) : SndH T C (.ExceptHandler (some (.Name x p1)) none (st :: sts) p2 :: hds) (.cons xi.ks xi.cs none ib hs) := fun X fa k gs => by
  have g := gs.toGood
  obtain ⟨l, h⟩ := hr X fa k gs
  obtain ⟨h1, h2⟩ := g.T.xh c xi hc
  exact ⟨_, .bare ⟨gn.G g, gn.d, .inl (by rw [← hn]; exact h1)⟩ h2 (fun a oe cls d pn hz hf => hb _ _ k (gs.suite hz hf)) h⟩
theorem sndH_named {x y : Str} {i c : Nat} {xi : XI} {st : Stmt} {sts : List Stmt} {ib : Ss} {p1 p2 : Pos} {hds : List ExceptHandler} {hs : Hs} (gn : Gn C x) (hc : (c, xi) ∈ T.xs) (hn : xi.name = x) (hi : C.N[i]? = some y) (hl : kindIs (C.sc.names.lookup y) .local = true) (hsm : (xi.ks.all fun k => decide (k < 1000000)) = true) (hb : SndSs T true C.no (st :: sts) ib) (hr : SndH T C hds hs) : SndH T C (.ExceptHandler (some (.Name x p1)) (some y) (st :: sts) p2 :: hds) (.cons xi.ks xi.cs (some i) ib hs) := fun X fa k gs => by
  have g := gs.toGood
  obtain ⟨l, h⟩ := hr X fa k gs
  obtain ⟨h1, h2⟩ := g.T.xh c xi hc
  exact ⟨_, .named ⟨gn.G g, gn.d, .inl (by rw [← hn]; exact h1)⟩ h2 (by rw [g.N]; exact hi) (show X.env.scope.names.lookup y = some .local by rw [g.sc]; exact kindIs_of hl) (fun k m => of_decide_eq_true (List.all_eq_true.mp hsm k m)) (fun a oe cls d pn hz hf => hb _ _ k (gs.suite hz hf)) h⟩
theorem snd_try {body : List Stmt} {ib : Ss} {h0 : ExceptHandler} {hds : List ExceptHandler} {hs : Hs} {pos : Pos} (hb : SndSs T false C body ib) (hh : SndH T C (h0 :: hds) hs) : SndS T false C (.Try body (h0 :: hds) [] [] pos) (.try_ ib hs) := fun X fa k gs => by
  have g := gs.toGood
  obtain ⟨l, h⟩ := hh X fa k gs
  exact b_try (gs.st rfl).1 (gs.st rfl).2 g.nd g.tk (fun W pn xe tk hx => hb _ _ k (gs.tr tk hx)) h
theorem snd_for {tgx a : Expr} {bd : List Stmt} {tg : Tg} {it : It} {ib : Ss} {pos : Pos} (hh : hot = false) (hset : isSet a = false) (hg : SndG (fun _ => true) C tgx tg) (ht : SndIt T hot C tgx a it) (hb : SndSs T hot C bd ib) : SndS T hot C (.For tgx a bd [] pos) (.for_ tg it ib) := fun X fa k gs => by
  have g := gs.toGood
  exact b_for g.xe (g.calm hh) (hg X g.N g.nd g.sc (g.calm hh) fun x _ => gs.fn x) (ht X fa k g) (hb X fa k gs) (set_of hset)
theorem snd_app {x : Str} {i : Nat} {px apos p2 pos : Pos} {a : Expr} {ia : I} (h : Nm C x i) (hl : (apos.endLine == p2.line) = true) (hs : isStar a = false) (ha : SndE T hot C a ia) : SndS T hot C (.Expr (.Call (.Attribute (.Name x px) "append" apos) [a] [] p2) pos) (.app1 i ia) := fun X fa k gs => by
  have g := gs.toGood
  exact b_app1 (h.N g) (h.V g) h.d h.cd (ha X fa k g) rfl (few_of hs) hl (star_of hs) rfl
theorem snd_ext {x : Str} {i : Nat} {px apos p2 pos : Pos} {a : Expr} {ia : I} (h : Nm C x i) (hl : (apos.endLine == p2.line) = true) (hs : isStar a = false) (ha : SndE T hot C a ia) : SndS T hot C (.Expr (.Call (.Attribute (.Name x px) "extend" apos) [a] [] p2) pos) (.ext1 i ia) := fun X fa k gs => by
  have g := gs.toGood
  exact b_ext1 (h.N g) (h.V g) h.d h.cd (ha X fa k g) rfl (few_of hs) hl (star_of hs) rfl
end
section
variable (T : Tab)
mutual
def cS : Nat → (hot : Bool) → (C : Ct) → (st : Stmt) → RS T hot C st
  | 0, _, _, _ => none
  | n + 1, hot, C, st => match st with
    | .Return (some a) _ => match cE T hot n C a with
      | some ⟨ia, ha⟩ => some ⟨.ret ia, fun X fa k gs => b_ret (ha X fa k gs.toGood)⟩
      | none => none
    | .Pass _ => some ⟨.pass, fun _ _ _ _ => b_pass⟩
    | .Break _ => some ⟨.brk, fun _ _ _ _ => b_brk⟩
    | .Continue _ => some ⟨.cont, fun _ _ _ _ => b_cont⟩
    | .If c a b _ => match cT T hot n C c, cSs n hot C a, cSs n hot C b with
      | some ⟨ic, hc⟩, some ⟨ia, ha⟩, some ⟨ib, hb⟩ => some ⟨.ifs ic ia ib, fun X fa k gs => b_if (hc X fa k gs.toGood) (ha X fa k gs) (hb X fa k gs)⟩
      | _, _, _ => none
    | .For tgx a bd [] pos => if hh : hot = false ∧ isSet a = false then match cG (fun _ => true) 9 C tgx, cIt T hot n C tgx a, cSs n hot C bd with
        | some ⟨tg, hg⟩, some ⟨it, ht⟩, some ⟨ib, hb⟩ => some ⟨.for_ tg it ib, snd_for hh.1 hh.2 hg ht hb⟩
        | _, _, _ => none
      else none
    | .Expr a pos => match (match a with
        | .Call (.Attribute (.Name x _) m _) [_] [] _ => (m == "append" || m == "extend") && (nmIn C x).isSome
        | _ => false) with
      | true => match a with
        | .Call (.Attribute (.Name x px) m apos) [b] [] p2 => if hh : (apos.endLine == p2.line) = true ∧ isStar b = false then match nmIn C x, cE T hot n C b with
            | some ⟨i, h⟩, some ⟨ib, hb⟩ => if hm : m = "append" then some ⟨.app1 i ib, by subst hm; exact snd_app h hh.1 hh.2 hb⟩ else if hm : m = "extend" then some ⟨.ext1 i ib, by subst hm; exact snd_ext h hh.1 hh.2 hb⟩ else none
            | _, _ => none
          else none
        | _ => none
      | false => if hc : isComp a = false then match cE T hot n C a with
          | some ⟨ia, ha⟩ => some ⟨.expr ia, fun X fa k gs => b_expr (ha X fa k gs.toGood) (swap_of hc)⟩
          | none => none
        else none
    | .Assign [.Name y py] (.ListComp elt [⟨tgx, iter, ifs, 0⟩] scope pos) spos => if hcl : kindIs (C.sc.names.lookup y) .cell = true then match ixIn C.N y, locIn C.sc y, cE T hot n C (.ListComp elt [⟨tgx, iter, ifs, 0⟩] scope pos) with
        | some ⟨i, hi⟩, some ⟨hl⟩, some ⟨ia, ha⟩ => some ⟨.set i ia, fun X fa k gs => b_set gs.nd (by rw [gs.N]; exact hi) (by rw [gs.sc]; exact hl) (ha X fa k gs.toGood) (swap_cell (by rw [gs.sc]; exact hcl)) (.inl (gs.fn y))⟩
        | _, _, _ => none
      else if h0 : hot = false then match lcIn C scope tgx, ixIn C.N y with
        | some ⟨(tg, own), h⟩, some ⟨j, hj⟩ => if hh : isSet iter = false ∧ kindIs (C.sc.names.lookup y) .local = true ∧ (py.line == pos.line) = true ∧ (scope.names.any fun (n, k) => n == y && (k == .local || k == .cell)) = false then
            match cIt T hot n C tgx iter, cIf T hot n { N := C.N, sc := relS scope C.sc } ifs, cE T hot n { N := C.N, sc := relS scope C.sc } elt with
            | some ⟨it, hi⟩, some ⟨c, hc⟩, some ⟨e, he⟩ => some ⟨.set j (.lc tg it c e), snd_setLc h0 h hh.1 hj (kindIs_of hh.2.1) hh.2.2.1 hh.2.2.2 hi hc he⟩
            | _, _, _ => none
          else none
        | _, _ => none
      else none
    | .Assign [.Name y py] a spos => if hc : isComp a = false then match ixIn C.N y, locIn C.sc y, cE T hot n C a with
        | some ⟨i, hi⟩, some ⟨hl⟩, some ⟨ia, ha⟩ => some ⟨.set i ia, fun X fa k gs => b_set gs.nd (by rw [gs.N]; exact hi) (by rw [gs.sc]; exact hl) (ha X fa k gs.toGood) (swap_of hc) (.inl (gs.fn y))⟩
        | _, _, _ => none
      else none
    | .Assign [.Subscript (.Name x px) b p2] a pos => if hh : isSlice b = false ∧ isComp a = false then match nmIn C x, cE T hot n C b, cE T hot n C a with
        | some ⟨i, h⟩, some ⟨ib, hb⟩, some ⟨ia, ha⟩ => some ⟨.put1 i ib ia, snd_put1 h hh.1 hh.2 hb ha⟩
        | _, _, _ => none
      else none
    | .Assign [.Attribute (.Name x px) m p2] a pos => if hc : isComp a = false then match nmIx m, nmIn C x, cE T hot n C a with
        | some ⟨f, hf⟩, some ⟨i, h⟩, some ⟨ia, ha⟩ => some ⟨.setf i f (naOf T f) ia, snd_setf hf h hc ha⟩
        | _, _, _ => none
      else none
    | .Assign [.Tuple ts kt pt] a pos => if hcl : hot = false ∧ hasCell C.sc ts = true ∧ isComp a = false then match cPl n hot C ts, cE T hot n C a with
        | some ⟨ps, hp⟩, some ⟨ia, ha⟩ => some ⟨.upk ps ia, snd_upkC hcl.1 hcl.2.1 hcl.2.2 hp ha⟩
        | _, _ => none
      else match swNone ts a with
      | true => if hh : hot = false ∧ swNone ts a = true ∧ isComp a = false then match cPl n hot C ts, cE T hot n C a with
          | some ⟨ps, hp⟩, some ⟨ia, ha⟩ => some ⟨.upk ps ia, snd_upk hh.1 hh.2.1 hh.2.2 hp ha⟩
          | _, _ => none
        else none
      | false => match ts, a with
        | [.Name x px, .Name y py], .Tuple [a, b] _ _ => if hh : hot = false then match par2In C x y px py [a, b], cRs T hot n C [a, b] with
            | some ⟨(i, j), h⟩, some ⟨is, ha⟩ => some ⟨.par [i, j] is, snd_par2 hh h ha⟩
            | _, _ => none
          else none
        | [.Name x px, .Name y py, .Name z pz], .Tuple [a, b, c] _ _ => if hh : hot = false then match par3In C x y z px py pz [a, b, c], cRs T hot n C [a, b, c] with
            | some ⟨(i, j, l), h⟩, some ⟨is, ha⟩ => some ⟨.par [i, j, l] is, snd_par3 hh h ha⟩
            | _, _ => none
          else none
        | _, _ => none
    | .Raise (some (.Call (.Name x _) [.Constant (.str m) _ _] [] _)) none pos => if hh : hot = false then match gnIn C x, xIn T x with
        | some ⟨gn⟩, some ⟨(c, xi), h1, h2⟩ => if hr : xi.raises = true then some ⟨.rs c none (.con (.str m.cps.toList)), snd_rs0 hh gn h1 h2 hr⟩ else none
        | _, _ => none
      else none
    | .Raise (some (.Call (.Name x _) [a] [] _)) none pos => if hh : hot = false ∧ isStar a = false then match gnIn C x, xIn T x with
        | some ⟨gn⟩, some ⟨(c, xi), h1, h2⟩ => match xnIn T c, cE T hot n C a with
          | some ⟨(f, z), h3⟩, some ⟨ia, ha⟩ => some ⟨.rs c (some f) ia, snd_rs1 hh.1 gn h1 h2 h3 hh.2 ha⟩
          | _, _ => none
        | _, _ => none
      else none
    | .Try body (h0 :: hds) [] [] pos => match hot with
      | false => match cSs n false C body, cHs n C (h0 :: hds) with
        | some ⟨ib, hb⟩, some ⟨hs, hh⟩ => some ⟨.try_ ib hs, snd_try hb hh⟩
        | _, _ => none
      | true => none
    | _ => none
def cSs : Nat → (hot : Bool) → (C : Ct) → (sts : List Stmt) → RSs T hot C sts
  | 0, _, _, _ => none
  | n + 1, hot, C, sts => match sts with
    | [] => some ⟨.nil, fun _ _ _ _ => b_nil⟩
    | st :: r => match cSs n hot C r with
      | some ⟨ir, hr⟩ => match cS n hot C st with
        | some ⟨i, h⟩ => some ⟨.cons i ir, fun X fa k gs => b_cons (h X fa k gs) (hr X fa k gs)⟩
        | none => some ⟨.cons .no ir, fun X fa k gs => b_cons (snd_no X fa k gs) (hr X fa k gs)⟩
      | none => none
def cPl : Nat → (hot : Bool) → (C : Ct) → (es : List Expr) → Option { ps : List Pl // SndP T hot C es ps }
  | 0, _, _, _ => none
  | n + 1, hot, C, es => match es with
    | [] => some ⟨[], sndP_nil⟩
    | .Name x _ :: r => match ixIn C.N x, locIn C.sc x, cPl n hot C r with
      | some ⟨i, hi⟩, some ⟨hl⟩, some ⟨ps, hr⟩ => some ⟨.nm i :: ps, sndP_nm hi hl hr⟩
      | _, _, _ => none
    | .Subscript (.Name x _) b _ :: r => if hsl : isSlice b = false then match nmIn C x, cE T hot n C b, cPl n hot C r with
        | some ⟨i, h⟩, some ⟨ib, hb⟩, some ⟨ps, hr⟩ => some ⟨.sub i ib :: ps, sndP_sub h hsl hb hr⟩
        | _, _, _ => none
      else none
    | _ => none
def cHs : Nat → (C : Ct) → (hds : List ExceptHandler) → Option { hs : Hs // SndH T C hds hs }
  | 0, _, _ => none
  | n + 1, C, hds => match hds with
    | [] => some ⟨.nil, sndH_nil⟩
    | .ExceptHandler (some (.Name x p1)) none (st :: sts) p2 :: r => match gnIn C x, xIn T x, cSs n true C.no (st :: sts), cHs n C r with
      | some ⟨gn⟩, some ⟨(c, xi), h1, h2⟩, some ⟨ib, hb⟩, some ⟨hs, hr⟩ => some ⟨.cons xi.ks xi.cs none ib hs, sndH_bare gn h1 h2 hb hr⟩
      | _, _, _, _ => none
    | .ExceptHandler (some (.Name x p1)) (some y) (st :: sts) p2 :: r => match gnIn C x, xIn T x, ixIn C.N y, cSs n true C.no (st :: sts), cHs n C r with
      | some ⟨gn⟩, some ⟨(c, xi), h1, h2⟩, some ⟨i, hi⟩, some ⟨ib, hb⟩, some ⟨hs, hr⟩ => if hl : kindIs (C.sc.names.lookup y) .local = true ∧ (xi.ks.all fun k => decide (k < 1000000)) = true then some ⟨.cons xi.ks xi.cs (some i) ib hs, sndH_named gn h1 h2 hi hl.1 hl.2 hb hr⟩ else none
      | _, _, _, _, _ => none
    | _ => none
end
end

/-! ### the defs keep their denotation -/
theorem snd_of {T : Tab} {n : Nat} {C : Ct} {sts : List Stmt} {i : Ss} (h : (cSs T n false C sts).map (·.1) = some i) : SndSs T false C sts i := by
  obtain ⟨⟨j, hj⟩, _, e⟩ := Option.map_eq_some_iff.mp h
  have e' : j = i := e
  subst e'
  exact hj
def ctOf (T : Tab) (f : Nat) (fi : FI) : Ct := { N := fi.N, sc := defScope fi.st, la := true, ml := T.mks.contains f }
/-- a def that makes lambdas: its code object, its table -/
def Mkr (K : PySem.W.Frag) (mg : Str → Option Value) (base : Heap) (tb : List (Addr × Str)) (f : Addr) (fi : FI) : Prop := ∀ (oc : Value) (od : Option Addr) (kV doc pm : Value) (an : Option Addr) (cdv ct : Value) (osl : Array (Option Value)),
  K.lookup f = some ⟨oc, od, .func (PySem.W.fnOf fi.name fi.qual (defArgs fi.st) (defBody fi.st) (defScope fi.st) .none kV doc pm an cdv ct), osl⟩ → ∃ c P, LamX.TabB base mg c P ∧ cdv = .ref c ∧ (P, fi.qual ++ ".<locals>." ++ "<lambda>") ∈ tb ∧ ∀ p ∈ tb, p.1 = P → p.2 = fi.qual ++ ".<locals>." ++ "<lambda>"
/-- what the text says of its defs -/
structure Bodied (T : Tab) (fis : List (Nat × FI)) : Prop where
  fns : T.fns = fnsOf fis
  w : ∀ p ∈ fis, FW p.2
  snd : ∀ p ∈ fis, SndSs T false (ctOf T p.1 p.2) (defBody p.2.st) p.2.fn.body
section
variable {P : Program} {w : World} {K : PySem.W.Frag} {mg : Str → Option Value} {base : Heap} {fa : Nat → Addr} {T : Tab} {fis : List (Nat × FI)}
variable {tb : List (Addr × Str)}
theorem fnG_zero : FnG P w K mg base fa tb T.fns 0 := fun f hf A outer s H us vs Q E _ _ _ _ sp => by
  obtain ⟨F, io, ds, fp, o, out, _, _, hc, _⟩ := sp
  cases hc
theorem fnL_zero : FnLG P w K mg base fa tb T.fns 0 := fun g x z hc => by cases hc
theorem fnG_succ {k : Nat} (hP : PfOk P T.file) (hk : ∀ p ∈ fis, FK K (fa p.1) p.2) (hT : TOk T K mg fa) (B : Bodied T fis) (hm : ∀ p ∈ fis, T.mks.contains p.1 = true → Mkr K mg base tb (fa p.1) p.2) (G : FnG P w K mg base fa tb T.fns k) (GL : FnLG P w K mg base fa tb T.fns k) (GK : FnKG P w K mg base fa tb T.fns k) : FnG P w K mg base fa tb T.fns (k + 1) := by
  intro f hf A outer s H us vs Q E hg hr e0 rv sp
  have hf' := hf
  rw [B.fns, fi_of] at hf
  obtain ⟨fn, h1⟩ := Option.isSome_iff_exists.mp hf
  obtain ⟨fi, h2, h3⟩ := Option.map_eq_some_iff.mp h1
  have hmem := lookup_mem h2
  have W := B.w _ hmem
  refine fn_body (fa := ⟨fa, fun _ _ _ => False, fun _ _ _ _ _ h => h, fun _ _ _ _ => False, tb⟩) W (hk _ hmem) (by rw [B.fns, fi_of, h2]; rfl) hg hr e0 rv sp fun oc od kV doc pm an cdv ct osl lk s2 H2 hr' => ?_
  refine B.snd _ hmem _ _ k ?_
  exact { N := rfl, sc := rfl, tk := takes_of rfl rfl rfl rfl, calm := fun _ => rfl, guards := hg, room := fun _ => hr'.mono (by omega), units := hr'.units, nd := W.sc.nd, kind := W.sc.kind, xe := passes_of rfl, G := G, GL := GL, GK := GK, T := hT, xi := (fun h => by cases h), xf := (fun h => by cases h), pf := hP, lam := fun _ pn xe W tk => lamPE_no fun _ _ _ h => h, ml := fun h _ => ⟨hr', let ⟨c, P, h1, h2, h3, h4⟩ := hm _ hmem h oc od kV doc pm an cdv ct osl lk; ⟨c, P, h1, h2, h3, h4⟩⟩, fn := fun _ => rfl, st := fun _ => ⟨rfl, rfl⟩ }
theorem fnL_succ {k : Nat} (hP : PfOk P T.file) (hk : ∀ p ∈ fis, FK K (fa p.1) p.2) (hT : TOk T K mg fa) (B : Bodied T fis) (hm : ∀ p ∈ fis, T.mks.contains p.1 = true → Mkr K mg base tb (fa p.1) p.2) (G : FnG P w K mg base fa tb T.fns k) (GL : FnLG P w K mg base fa tb T.fns k) (GK : FnKG P w K mg base fa tb T.fns k) : FnLG P w K mg base fa tb T.fns (k + 1) := by
  intro g x z hc A outer s H F f lm lmm Q E hg hr e0 sub tb2 hl act fin
  simp only [callF] at hc
  cases e : T.fns.lookup g with
  | none => rw [e] at hc; cases hc
  | some fn =>
  rw [e] at hc
  simp only at hc
  split at hc
  case isFalse => cases hc
  rename_i hcond
  obtain ⟨c1, c2, c3, c4⟩ := hcond
  rw [B.fns, fi_of] at e
  obtain ⟨fi, h2, h3⟩ := Option.map_eq_some_iff.mp e
  subst h3
  have hmem := lookup_mem h2
  have W := B.w _ hmem
  obtain ⟨oc, od, kV, doc, pm, an, cdv, ct, osl, lk, hcd, _⟩ := (hk _ hmem).ex
  have hB0 := W.bd
  have hB : BindP fi := by
    cases hkn : isNo fi.fn.kd with
    | true => rw [hkn] at hB0; exact hB0
    | false =>
      rw [hkn] at hB0
      obtain ⟨ps0, pk, pv, hps, _⟩ := (show BindK fi from hB0)
      have h1 : fi.ps.length = 1 := by rw [← W.np]; exact c3
      rw [hps] at h1
      simp at h1
  unfold BindP at hB
  rw [c2] at hB
  simp only [Bool.false_eq_true, if_false] at hB
  have hps : fi.ps.length = 1 := by rw [← W.np]; exact c3
  refine LamX.run_ofS (N := fi.N) (ps := fi.ps) (us := [.ref f]) (vs := [.ref f]) (k := 4 * k + 6) lk hcd W.sc hr e0 (.of_eq (hB kV doc pm an cdv ct [.ref f] (by rw [hps]; rfl))) (.cons rfl .nil) (by rw [hps]; rfl) fun hr' => ?_
  refine ⟨_, B.snd _ hmem _ ⟨fa, lm, lmm, fun cls d _ H => E cls d H, tb⟩ k ?_, ?_⟩
  · exact { N := rfl, sc := rfl, tk := takes_of rfl rfl rfl rfl, calm := fun _ => rfl, guards := hg, room := fun _ => hr'.mono (by omega), units := hr'.units, nd := W.sc.nd, kind := W.sc.kind, xe := passes_of rfl, G := G, GL := GL, GK := GK, T := hT, xi := (fun h => by cases h), xf := (fun h => by cases h), pf := hP, lam := fun _ pn xe W tk => act fi.N fi.qual (defScope fi.st) cdv pn xe W hr' tk, ml := fun h _ => ⟨hr'.mono (by omega), let ⟨c, P, h1, h2, h3, h4⟩ := hm _ hmem h oc od kV doc pm an cdv ct osl lk; ⟨c, P, h1, h2, h3, h4⟩⟩, fn := fun _ => rfl, st := fun _ => ⟨rfl, rfl⟩ }
  · have hnl : fi.N.length = fi.fn.ns := W.ns.symm
    have gs : ∀ (i : Nat) (s : Sl), (Sl.exc x :: List.replicate (fi.fn.ns - 1) Sl.un)[i]? = some s → (i = 0 ∧ s = .exc x) ∨ s = .un := fun i s e => by
      cases i with
      | zero => exact .inl ⟨rfl, by simpa using e.symm⟩
      | succ j =>
        rw [List.getElem?_cons_succ, List.getElem?_replicate] at e
        split at e
        · cases e; exact .inr rfl
        · cases e
    have nh : ∀ i y, held (Sl.exc x :: List.replicate (fi.fn.ns - 1) Sl.un) i = some y → False := fun i y h => by
      rcases held_iff.mp h with h | h <;> (rcases gs i _ h with ⟨_, z⟩ | z <;> cases z)
    have n : ∀ F' H' σ' p, ¬ Own K ⟨fa, lm, lmm, fun cls d _ H => E cls d H, tb⟩ F' H' σ' (Sl.exc x :: List.replicate (fi.fn.ns - 1) Sl.un) p := fun _ _ _ p ⟨i, y, _, _, h, _⟩ => nh i y h
    have ok : Ok K ⟨fa, lm, lmm, fun cls d _ H => E cls d H, tb⟩ F H (L2.start fi.N [.ref f]) (Sl.exc x :: List.replicate (fi.fn.ns - 1) Sl.un) := by
      refine ⟨fun i y h => ?_, ?_, sub, fun i d h => ?_, fun i y h => (nh i y h).elim, fun i j y y' v v' fp fq _ h => (nh i y h).elim, tb2⟩
      · rcases gs i _ h with ⟨rfl, z⟩ | z
        · cases z
          exact ⟨f, by rw [start_get _ _ _ (by simp)]; rfl, hl⟩
        · cases z
      · rw [start_len (by simp; omega), List.length_cons, List.length_replicate]
        omega
      · rcases gs i _ h with ⟨_, z⟩ | z <;> cases z
    unfold bodyL at hc
    cases he : eSs (callF T.fns k) fi.fn.body (Sl.exc x :: List.replicate (fi.fn.ns - 1) .un) with
    | none => rw [he] at hc; cases hc
    | some oe =>
    obtain ⟨o, env'⟩ := oe
    rw [he] at hc
    refine ⟨F, _, ok, o, env', he, ?_⟩
    cases o with
    | error y =>
      intro F' H' σ' cls d st xr
      cases hc
      exact fin F' H' (step_cst st (n _ _ _)) cls d xr
    | ok fl =>
      intro F' H' σ' st
      have cs := step_cst st (n _ _ _)
      cases fl with
      | bk => cases hc
      | ct => cases hc
      | nx => cases hc; exact fin F' H' cs .non .non
      | rt r =>
        cases hc
        exact fun v rr => fin F' H' cs v (cres_cl (fa := ⟨fa, lm, lmm, fun cls d _ H => E cls d H, tb⟩) (n _ _ _) rr)
theorem fnK_zero : FnKG P w K mg base fa tb T.fns 0 := by
  intro f n fn x hf hx hnp A outer s H F us wp vs vp ds dp z Q E hg hr e0 tbs sub r rp rv rw' hle hc
  cases hc
theorem fnK_succ {k : Nat} (hP : PfOk P T.file) (hk : ∀ p ∈ fis, FK K (fa p.1) p.2) (hT : TOk T K mg fa) (B : Bodied T fis) (hm : ∀ p ∈ fis, T.mks.contains p.1 = true → Mkr K mg base tb (fa p.1) p.2) (G : FnG P w K mg base fa tb T.fns k) (GL : FnLG P w K mg base fa tb T.fns k) (GK : FnKG P w K mg base fa tb T.fns k) : FnKG P w K mg base fa tb T.fns (k + 1) := by
  intro f n fn x hf hx hnp A outer s H F us wp vs vp ds dp z Q E hg hr e0 tbs sub r rp rv rw' hle hc q
  have hf' := hf
  rw [B.fns, fi_of] at hf
  obtain ⟨fi, h2, h3⟩ := Option.map_eq_some_iff.mp hf
  subst h3
  have hmem := lookup_mem h2
  have W := B.w _ hmem
  refine fn_bodyK (fa := ⟨fa, fun _ _ _ => False, fun _ _ _ _ _ h => h, fun _ _ _ _ => False, tb⟩) W (hk _ hmem) hf' hr e0 hx hnp tbs sub r rp rv rw' hle hc q fun oc od kV doc pm an cdv ct osl lk s2 H2 hr' => ?_
  refine B.snd _ hmem _ _ k ?_
  exact { N := rfl, sc := rfl, tk := takes_of rfl rfl rfl rfl, calm := fun _ => rfl, guards := hg, room := fun _ => hr'.mono (by omega), units := hr'.units, nd := W.sc.nd, kind := W.sc.kind, xe := passes_of rfl, G := G, GL := GL, GK := GK, T := hT, xi := (fun h => by cases h), xf := (fun h => by cases h), pf := hP, lam := fun _ pn xe W tk => lamPE_no fun _ _ _ h => h, ml := fun h _ => ⟨hr', let ⟨c, P, h1, h2, h3, h4⟩ := hm _ hmem h oc od kV doc pm an cdv ct osl lk; ⟨c, P, h1, h2, h3, h4⟩⟩, fn := fun _ => rfl, st := fun _ => ⟨rfl, rfl⟩ }
theorem fnG_all (hP : PfOk P T.file) (hk : ∀ p ∈ fis, FK K (fa p.1) p.2) (hT : TOk T K mg fa) (B : Bodied T fis) (hm : ∀ p ∈ fis, T.mks.contains p.1 = true → Mkr K mg base tb (fa p.1) p.2) : ∀ k, FnG P w K mg base fa tb T.fns k ∧ FnLG P w K mg base fa tb T.fns k ∧ FnKG P w K mg base fa tb T.fns k
  | 0 => ⟨fnG_zero, fnL_zero, fnK_zero⟩
  | k + 1 =>
    let ⟨a, b, c⟩ := fnG_all hP hk hT B hm k
    ⟨fnG_succ hP hk hT B hm a b c, fnL_succ hP hk hT B hm a b c, fnK_succ hP hk hT B hm a b c⟩
end
end DI

namespace DI
open PySem L2

/-! ### where defs and classes stand -/
inductive DAt where
  | glo (x : Str) | meth (C m : Str) | prop (C m : Str) | cm (C m : Str)
def recFst (K : PySem.W.Frag) (p : Addr) (T : String) : Addr := match PySem.W.recIn K p T with
  | some (.ref g :: _) => g
  | _ => 0
def dAd (K : PySem.W.Frag) : DAt → Addr
  | .glo x => He.ga K x
  | .meth C m => He.ma K (He.ga K C) m
  | .prop C m => recFst K (He.ma K (He.ga K C) m) "property"
  | .cm C m => recFst K (He.ma K (He.ga K C) m) "classmethod"
def faK (ads : List (Nat × DAt)) (K : PySem.W.Frag) (i : Nat) : Addr := match ads.lookup i with
  | some a => dAd K a
  | none => 0
/-! ### the looks -/
abbrev eqO := He.eqO
/-- the name x holds the object at a -/
def gloB (K : PySem.W.Frag) (x : Str) (a : Addr) : Bool := eqO (PySem.W.nsIn K mainGlobals x) (some (some (.ref a)))
mutual
def valB (K : PySem.W.Frag) : D → Value → Bool
  | .non, .none => true
  | .bl b, .bool c => b == c
  | .int i, .int j _ => decide (i = j)
  | .str x, .str y _ => decide (sOf x = y)
  | .ctp ds, .ref a => match K.lookup a with
    | some ⟨.type c, _, .seq its _, _⟩ => decide (c = "tuple") && (decide (its.size ≤ sizeLine) && valBs K ds its.toList)
    | _ => false
  | _, _ => false
def valBs (K : PySem.W.Frag) : List D → List Value → Bool
  | [], [] => true
  | d :: ds, u :: us => valB K d u && valBs K ds us
  | _, _ => false
end
section
variable {K : PySem.W.Frag} {fa : Nat → Addr}
theorem ba {a b : Bool} (h : (a && b) = true) : a = true ∧ b = true := Bool.and_eq_true_iff.mp h
mutual
theorem valB_ok : ∀ (d : D) (u : Value), valB K d u = true → ∃ v, RelV v u ∧ Rep K fa (fun _ => none) v d
  | .non, u, h => by
    cases u with
    | none => exact ⟨.non, rfl, .non⟩
    | _ => simp [valB] at h
  | .bl b, u, h => by
    cases u with
    | bool c =>
      simp only [valB] at h
      exact ⟨.bl b, by rw [eq_of_beq h]; rfl, .bl b⟩
    | _ => simp [valB] at h
  | .int i, u, h => by
    cases u with
    | int j t =>
      simp only [valB] at h
      exact ⟨.int i, ⟨t, by rw [of_decide_eq_true h]⟩, .int i⟩
    | _ => simp [valB] at h
  | .str x, u, h => by
    cases u with
    | str y t =>
      simp only [valB] at h
      exact ⟨.str (sOf x), ⟨t, by rw [of_decide_eq_true h]⟩, .str x⟩
    | _ => simp [valB] at h
  | .ctp ds, u, h => by
    cases u with
    | ref a =>
      simp only [valB] at h
      cases q : K.lookup a with
      | none => rw [q] at h; cases h
      | some o =>
        obtain ⟨oc, od, dt, osl⟩ := o
        rw [q] at h
        cases oc with
        | type c =>
          cases dt with
          | seq its n =>
            obtain ⟨h1, h2⟩ := ba h
            obtain ⟨h3, h4⟩ := ba h2
            obtain ⟨vs, r1, r2⟩ := valBs_ok ds its.toList h4
            exact ⟨.ref a, rfl, .ctp (.inr ⟨_, its, n, q, congrArg Value.type (of_decide_eq_true h1), rfl, of_decide_eq_true h3, r1⟩) r2⟩
          | _ => cases h
        | _ => cases dt <;> cases h
    | _ => simp [valB] at h
  | .lst _, u, h => by cases u <;> simp [valB] at h
  | .tup _, u, h => by cases u <;> simp [valB] at h
  | .scr _, u, h => by cases u <;> simp [valB] at h
  | .dct _, u, h => by cases u <;> simp [valB] at h
  | .fn _, u, h => by cases u <;> simp [valB] at h
  | .obj _ _, u, h => by cases u <;> simp [valB] at h
  | .cls _, u, h => by cases u <;> simp [valB] at h
theorem valBs_ok : ∀ (ds : List D) (us : List Value), valBs K ds us = true → ∃ vs, Vals vs us ∧ RepL K fa (fun _ => none) vs ds
  | [], [], _ => ⟨[], .nil, .nil⟩
  | [], _ :: _, h => by simp [valBs] at h
  | _ :: _, [], h => by simp [valBs] at h
  | d :: ds, u :: us, h => by
    simp only [valBs] at h
    obtain ⟨h1, h2⟩ := ba h
    obtain ⟨v, r1, r2⟩ := valB_ok d u h1
    obtain ⟨vs, r3, r4⟩ := valBs_ok ds us h2
    exact ⟨v :: vs, .cons r1 r3, .cons r2 r4⟩
end
end
def conB (K : PySem.W.Frag) (x : Str) (d : D) : Bool := match PySem.W.nsIn K mainGlobals x with
  | some (some u) => valB K d u
  | _ => false
def clB (K : PySem.W.Frag) (C : Addr) : Bool := PySem.W.plainGet K C Str.empty && (PySem.W.hasDictIn K C && (PySem.W.plainOver K C && eqO (PySem.W.findIn K (.ref C) "__setattr__") (some (some (.builtin "object.__setattr__")))))
def mkB (K : PySem.W.Frag) (C f : Addr) : Bool := PySem.W.makesIn K C && (eqO (PySem.W.findIn K (.ref C) "__init__") (some (some (.ref f))) && (PySem.W.isFn K (.ref f) && PySem.W.keepIn K (.ref C)))
def meB (K : PySem.W.Frag) (C : Addr) (m : Str) (f : Addr) : Bool := eqO (PySem.W.findIn K (.ref C) m) (some (some (.ref f))) && (PySem.W.isFn K (.ref f) && PySem.W.keepIn K (.ref f))
def bmB (K : PySem.W.Frag) (m : Str) (f : Addr) : Bool := eqO (PySem.W.specialIn K (.ref f) "__get__") (some (some (.builtin "function.__get__"))) && (decide (PySem.W.takesIn K (.ref f) = some false) && (!PySem.W.copiedNames.contains m && PySem.W.fnIn K f))
def recB (K : PySem.W.Frag) (p : Addr) (T : String) (g : Addr) : Bool := match PySem.W.recIn K p T with
  | some (.ref h :: _) => decide (h = g)
  | _ => false
def prB (K : PySem.W.Frag) (C : Addr) (m : Str) (f : Addr) : Bool := eqO (PySem.W.findIn K (.ref C) m) (some (some (.ref (He.ma K C m)))) && (eqO (PySem.W.specialIn K (.ref (He.ma K C m)) "__get__") (some (some (.builtin "property.__get__"))) &&
  (decide (PySem.W.takesIn K (.ref (He.ma K C m)) = some true) && recB K (He.ma K C m) "property" f))
def cmB (K : PySem.W.Frag) (C : Addr) (m : Str) (f : Addr) : Bool := PySem.W.readsIn K C (.type "type") && (eqO (PySem.W.specialIn K (.ref C) "__getattribute__") (some (some (.builtin "type.__getattribute__"))) &&
  ((match PySem.W.findCls K (.ref C) (.type "type") m with
    | some (.get (.builtin b) (.ref p) .none (.ref c)) => decide (b = "classmethod.__get__") && (decide (p = He.ma K C m) && decide (c = C))
    | _ => false) && (recB K (He.ma K C m) "classmethod" f && PySem.W.fnIn K f)))
def ciB (K : PySem.W.Frag) (fa : Nat → Addr) (c : Nat) (ci : CI) : Bool :=
  gloB K ci.name (fa (1000 + c)) && (PySem.W.keepIn K (.ref (fa (1000 + c))) && (clB K (fa (1000 + c)) && ((match ci.init with
    | some f => mkB K (fa (1000 + c)) (fa f)
    | none => true) && ((ci.ms.all fun p => meB K (fa (1000 + c)) p.1 (fa p.2) && bmB K p.1 (fa p.2)) && ((ci.ck.all fun p => cmB K (fa (1000 + c)) p.1 (fa p.2)) && ((ci.ps.all fun p => prB K (fa (1000 + c)) p.1 (fa p.2)) && ((ci.cm.all fun p => cmB K (fa (1000 + c)) p.1 (fa p.2)) &&
      (ci.na.all fun f => eqO (PySem.W.findIn K (.ref (fa (1000 + c))) (nm f)) (some none)))))))))
def ieBase : List Value := [.type "IndexError", .type "LookupError", .type "Exception", .type "BaseException", .type "object"]
def xrB (K : PySem.W.Frag) (C : Addr) : Bool := (PySem.W.excIn K C He.veBase "ValueError.__new__") && (PySem.W.keepIn K (.ref C) && (decide (PySem.W.subIn K (.ref C) (.type "BaseException") = some true) && decide (PySem.W.typeIn K (.ref C) = some (.type "type"))))
def exB (K : PySem.W.Frag) (C : Addr) : Bool := eqO (PySem.W.findIn K (.ref C) "__getattribute__") (some (some (.builtin "BaseException.__getattribute__"))) && (eqO (PySem.W.findIn K (.ref C) "__getattr__") (some none) && (decide (PySem.W.subIn K (.ref C) (.type "BaseException") = some true) &&
  (PySem.W.hasDictIn K C && (eqO (PySem.W.findIn K (.ref C) "__class__") (some (some (.builtin "object.__class__"))) && (eqO (PySem.W.specialIn K (.builtin "object.__class__") "__get__") (some (some (.builtin "getset_descriptor.__get__"))) &&
  (decide (PySem.W.takesIn K (.builtin "object.__class__") = some true) && decide (PySem.W.mroIn K C (.type "object") = some true)))))))
def isB (K : PySem.W.Frag) (fa : Nat → Addr) (v : Value) (ks cs : List Nat) : Bool := ks.all fun k => decide (k < 1000000) && (exB K (fa (1000 + k)) && decide (PySem.W.kitOne K (.ref (fa (1000 + k))) v = some (cs.contains k)))
def xbB (K : PySem.W.Frag) (fa : Nat → Addr) (p : Str × List Nat × List Nat) : Bool := match bootBuiltins p.1 with
  | some (.type t) => eqO (PySem.W.nsIn K mainGlobals p.1) (some none) && isB K fa (.type t) p.2.1 p.2.2
  | _ => false
def xiB (K : PySem.W.Frag) (fa : Nat → Addr) (c : Nat) (xi : XI) : Bool :=
  gloB K xi.name (fa (1000 + c)) && ((!xi.raises || xrB K (fa (1000 + c))) && ((!xi.isi || isB K fa (.ref (fa (1000 + c))) xi.ks xi.cs) && xi.ks.all fun k => decide (PySem.W.exmOne K (.ref (fa (1000 + k))) (.ref (fa (1000 + c))) = some (xi.cs.contains k))))
/-- an error with an __init__ of its own -/
def initAd (K : PySem.W.Frag) (C : Addr) : Addr := match PySem.W.findIn K (.ref C) "__init__" with
  | some (some (.ref f)) => f
  | _ => 0
def xbsB (K : PySem.W.Frag) (C : Addr) (B newId initId : String) (bmB : List Value) : Bool := PySem.W.excInitIn K C bmB newId && (PySem.W.excOver K C bmB && (eqO (PySem.W.ks_superIn K C C "__init__") (some (some (.builtin initId))) && decide (PySem.W.subIn K (.ref C) (.type B) = some true)))
def leBase : List Value := [.type "LookupError", .type "Exception", .type "BaseException", .type "object"]
def cloB (K : PySem.W.Frag) (a C : Addr) : Bool := match K.lookup a with
  | some ⟨_, _, .func fd, _⟩ => (match fd.closure with
    | [(x, c)] => decide (x = ("__class__" : Str)) && (match K.lookup c with
      | some ⟨_, _, .cell (some (.ref D)), _⟩ => decide (D = C)
      | _ => false)
    | _ => false)
  | _ => false
def fileB (K : PySem.W.Frag) (a : Addr) (pf qual : Str) : Bool := match K.lookup a with
  | some ⟨_, _, .func fd, _⟩ => (match fd.code with
    | .ref c => PySem.W.codeIn K (.ref c) qual && (match K.lookup c with
      | some ⟨_, _, .fields vs, _⟩ => (match (vs[2]? : Option Value) with
        | some (.str s _) => pf == s
        | _ => false)
      | _ => false)
    | _ => false)
  | _ => false
def xnB (K : PySem.W.Frag) (pf : Str) (C : Addr) (f : Nat) (n : XN) : Bool :=
  (xbsB K C "IndexError" "IndexError.__new__" "IndexError.__init__" ieBase || xbsB K C "LookupError" "LookupError.__new__" "LookupError.__init__" leBase) &&
  (eqO (PySem.W.findIn K (.ref C) "__init__") (some (some (.ref (initAd K C)))) && (cloB K (initAd K C) C && (fileB K (initAd K C) pf n.qual && (decide (PySem.W.typeIn K (.ref (initAd K C)) = some (.type "function")) && ((n.p2.endLine == n.p4.line) &&
  (decide (nm f ∈ xiNames) && (eqO (PySem.W.nsIn K cStatics "thirdparty.any") (some none) && (eqO (PySem.W.nsIn K mainGlobals "super") (some none) && (decide (PySem.W.mroIn K C (.ref C) = some true) &&
  (eqO (PySem.W.findIn K (.ref C) "__setattr__") (some (some (.builtin "object.__setattr__"))) && (eqO (PySem.W.takerIn K C (nm f)) (some none) && (PySem.W.hasDictIn K C && (decide (PySem.W.subIn K (.ref C) (.type "BaseException") = some true) &&
  (decide (PySem.W.typeIn K (.ref C) = some (.type "type")) && PySem.W.keepIn K (.ref C)))))))))))))))
def xfB' (K : PySem.W.Frag) (C : Addr) (f : Nat) : Bool := xfB K C && (eqO (PySem.W.findIn K (.ref C) (nm f)) (some none) && decide (f < nmT.length))
def tabB (T : Tab) (fa : Nat → Addr) (K : PySem.W.Frag) : Bool :=
  (T.fis.all fun p => gloB K p.1 (fa p.2)) && ((T.fns.all fun p => PySem.W.keepIn K (.ref (fa p.1))) && ((T.gc.all fun p => conB K p.1 p.2) && ((T.gb.all fun x => eqO (PySem.W.nsIn K mainGlobals x) (some none)) &&
    ((T.cls.all fun p => ciB K fa p.1 p.2) && ((T.xs.all fun p => xiB K fa p.1 p.2) && ((T.xb.all fun p => xbB K fa p) && T.xf.all fun p => xfB' K (fa (1000 + p.1)) p.2))))))
theorem lookup_memS {α : Type} {l : List (Str × α)} {c : Str} {f : α} (h : l.lookup c = some f) : (c, f) ∈ l := by
  induction l with
  | nil => cases h
  | cons p r ih =>
    obtain ⟨a, b⟩ := p
    rw [List.lookup_cons] at h
    cases e : c == a with
    | true => rw [e] at h; cases h; rw [eq_of_beq e]; exact List.mem_cons_self
    | false => rw [e] at h; exact List.mem_cons_of_mem _ (ih h)
section
variable {K : PySem.W.Frag} {fa : Nat → Addr} {h : Heap} {mg : Str → Option Value}
theorem eqO_ok {a b : Option (Option Value)} (h : eqO a b = true) : a = b := of_decide_eq_true h
theorem recB_ok {p g : Addr} {T : String} (c : recB K p T g = true) : ∃ rest, PySem.W.recIn K p T = some (.ref g :: rest) := by
  unfold recB at c
  split at c
  · rename_i h rest e
    exact ⟨rest, by rw [e, of_decide_eq_true c]⟩
  · cases c
theorem ciB_ok (X : K.In h) (G : h.Ns mainGlobals mg) {c : Nat} {ci : CI} (q : ciB K fa c ci = true) : COk K mg fa c ci := by
  unfold ciB at q
  obtain ⟨q1, q⟩ := ba q
  obtain ⟨q2, q⟩ := ba q
  obtain ⟨q3, q⟩ := ba q
  obtain ⟨q4, q⟩ := ba q
  obtain ⟨q5, q⟩ := ba q
  obtain ⟨q9, q⟩ := ba q
  obtain ⟨q6, q⟩ := ba q
  obtain ⟨q7, q8⟩ := ba q
  have me : ∀ m f, ci.ms.lookup m = some f → Meth K (fa (1000 + c)) m (fa f) ∧ bmB K m (fa f) = true := fun m f e => by
    obtain ⟨q, z⟩ := ba (List.all_eq_true.mp q5 _ (lookup_memS e))
    unfold meB at q
    obtain ⟨a1, q⟩ := ba q
    obtain ⟨a2, a3⟩ := ba q
    exact ⟨⟨eqO_ok a1, a2, a3⟩, z⟩
  have cm : ∀ {l : List (Str × Nat)}, (l.all fun p => cmB K (fa (1000 + c)) p.1 (fa p.2)) = true → ∀ m f, l.lookup m = some f → ∃ mc pp, ClX.CRead K (fa (1000 + c)) mc ∧ ClX.CMet K (fa (1000 + c)) mc m pp (fa f) := fun {l} q7 m f e => by
    have q := List.all_eq_true.mp q7 _ (lookup_memS e)
    unfold cmB at q
    obtain ⟨a1, q⟩ := ba q
    obtain ⟨a2, q⟩ := ba q
    obtain ⟨a3, q⟩ := ba q
    obtain ⟨a4, a5⟩ := ba q
    refine ⟨.type "type", He.ma K (fa (1000 + c)) m, ⟨a1, eqO_ok a2⟩, ?_, recB_ok a4, a5⟩
    split at a3
    · rename_i b p c' e3
      obtain ⟨b1, b2⟩ := ba a3
      obtain ⟨b3, b4⟩ := ba b2
      rw [e3, of_decide_eq_true b1, of_decide_eq_true b3, of_decide_eq_true b4]
    · cases a3
  refine ⟨PySem.W.mg_of X G (eqO_ok q1), q2, ?_, fun f e => ?_, fun m f e => (me m f e).1, fun m f e => ?_, cm q9, fun m f e => ?_, cm q7, fun f e => ?_⟩
  · unfold clB at q3
    obtain ⟨a1, q⟩ := ba q3
    obtain ⟨a2, q⟩ := ba q
    obtain ⟨a3, a4⟩ := ba q
    exact ⟨a1, a2, a3, eqO_ok a4⟩
  · rw [e] at q4
    have q4 : mkB K (fa (1000 + c)) (fa f) = true := q4
    unfold mkB at q4
    obtain ⟨a1, q⟩ := ba q4
    obtain ⟨a2, q⟩ := ba q
    obtain ⟨a3, a4⟩ := ba q
    exact ⟨a1, eqO_ok a2, a3, a4⟩
  · obtain ⟨m1, m2⟩ := me m f e
    unfold bmB at m2
    obtain ⟨a1, q⟩ := ba m2
    obtain ⟨a2, q⟩ := ba q
    obtain ⟨a3, a4⟩ := ba q
    exact ⟨m1, eqO_ok a1, of_decide_eq_true a2, by simpa using a3, a4⟩
  · have q := List.all_eq_true.mp q6 _ (lookup_memS e)
    unfold prB at q
    obtain ⟨a1, q⟩ := ba q
    obtain ⟨a2, q⟩ := ba q
    obtain ⟨a3, a4⟩ := ba q
    exact ⟨_, eqO_ok a1, eqO_ok a2, of_decide_eq_true a3, recB_ok a4⟩
  · exact eqO_ok (List.all_eq_true.mp q8 _ (by simpa using e))
theorem isB_ok {v : Value} {ks cs : List Nat} (q : isB K fa v ks cs = true) : ∀ k ∈ ks, k < 1000000 ∧ ExcC K (fa (1000 + k)) ∧ PySem.W.kitOne K (.ref (fa (1000 + k))) v = some (cs.contains k) := fun k hk => by
  have q := List.all_eq_true.mp q k hk
  obtain ⟨q1, q⟩ := ba q
  obtain ⟨q2, q3⟩ := ba q
  refine ⟨of_decide_eq_true q1, ?_, of_decide_eq_true q3⟩
  unfold exB at q2
  obtain ⟨a1, q⟩ := ba q2
  obtain ⟨a2, q⟩ := ba q
  obtain ⟨a3, q⟩ := ba q
  obtain ⟨a4, q⟩ := ba q
  obtain ⟨a5, q⟩ := ba q
  obtain ⟨a6, q⟩ := ba q
  obtain ⟨a7, a8⟩ := ba q
  exact ⟨eqO_ok a1, eqO_ok a2, of_decide_eq_true a3, a4, eqO_ok a5, eqO_ok a6, of_decide_eq_true a7, of_decide_eq_true a8⟩
theorem xiB_ok (X : K.In h) (G : h.Ns mainGlobals mg) {c : Nat} {xi : XI} (q : xiB K fa c xi = true) : (xi.raises = true → mg xi.name = some (.ref (fa (1000 + c))) ∧ XOk K (fa (1000 + c))) ∧ (mg xi.name = some (.ref (fa (1000 + c))) ∧ ∀ k ∈ xi.ks, PySem.W.exmOne K (.ref (fa (1000 + k))) (.ref (fa (1000 + c))) = some (xi.cs.contains k)) ∧
    (xi.isi = true → ∀ k ∈ xi.ks, k < 1000000 ∧ ExcC K (fa (1000 + k)) ∧ PySem.W.kitOne K (.ref (fa (1000 + k))) (.ref (fa (1000 + c))) = some (xi.cs.contains k)) := by
  unfold xiB at q
  obtain ⟨q1, q⟩ := ba q
  obtain ⟨q2, q⟩ := ba q
  obtain ⟨q4, q3⟩ := ba q
  have m := PySem.W.mg_of X G (eqO_ok q1)
  refine ⟨fun r => ⟨m, ?_⟩, ⟨m, fun k hk => of_decide_eq_true (List.all_eq_true.mp q3 k hk)⟩, fun i => isB_ok (by rw [i] at q4; exact q4)⟩
  rw [r, Bool.not_true, Bool.false_or] at q2
  unfold xrB at q2
  obtain ⟨a1, q⟩ := ba q2
  obtain ⟨a2, q⟩ := ba q
  obtain ⟨a3, a4⟩ := ba q
  exact ⟨⟨_, _, _, _, PySem.F.excBase_ValueError, a1⟩, a2, of_decide_eq_true a3, of_decide_eq_true a4⟩
theorem xbs_ok {C : Addr} {B newId initId : String} {bmB : List Value} (F : ExcBaseFacts B newId initId bmB) (KF : PySem.W.KxsFacts B initId) (SF : StoreFacts B bmB "object.__setattr__" "object") (q : xbsB K C B newId initId bmB = true) :
    ∃ (B newId initId : String) (bmB : List Value), ExcBaseFacts B newId initId bmB ∧ PySem.W.KxsFacts B initId ∧ StoreFacts B bmB "object.__setattr__" "object" ∧ PySem.W.excInitIn K C bmB newId = true ∧ PySem.W.excOver K C bmB = true ∧
    PySem.W.ks_superIn K C C "__init__" = some (some (.builtin initId)) ∧ PySem.W.subIn K (.ref C) (.type B) = some true := by
  unfold xbsB at q
  obtain ⟨a1, q⟩ := ba q
  obtain ⟨a2, q⟩ := ba q
  obtain ⟨a3, a4⟩ := ba q
  exact ⟨B, newId, initId, bmB, F, KF, SF, a1, a2, eqO_ok a3, of_decide_eq_true a4⟩
theorem xf_ok {C : Addr} {f : Nat} (q : xfB' K C f = true) : XfC K C ∧ PySem.W.findIn K (.ref C) (nm f) = some none ∧ f < nmT.length := by
  unfold xfB' at q
  obtain ⟨a1, q⟩ := ba q
  obtain ⟨a2, a3⟩ := ba q
  exact ⟨xfB_ok a1, eqO_ok a2, of_decide_eq_true a3⟩
theorem tabB_ok {T : Tab} (X : K.In h) (G : h.Ns mainGlobals mg) (q : tabB T fa K = true) (hx : ∀ p ∈ T.xn, XInit T.file K (fa (1000 + p.1)) (nm p.2.1)) : TOk T K mg fa := by
  unfold tabB at q
  obtain ⟨q1, q⟩ := ba q
  obtain ⟨q2, q⟩ := ba q
  obtain ⟨q3, q⟩ := ba q
  obtain ⟨q4, q⟩ := ba q
  obtain ⟨q5, q⟩ := ba q
  obtain ⟨q6, q⟩ := ba q
  obtain ⟨q7, q8⟩ := ba q
  refine ⟨fun x f e => PySem.W.mg_of X G (eqO_ok (List.all_eq_true.mp q1 _ (lookup_memS e))), fun f e => ?_, fun x d e => ?_, fun x e => PySem.W.mg_none_of X G (eqO_ok (List.all_eq_true.mp q4 x (by simpa using e))), fun c ci m => ciB_ok X G (List.all_eq_true.mp q5 _ m), hx, fun p m => xf_ok (List.all_eq_true.mp q8 p m), fun c xi m => (xiB_ok X G (List.all_eq_true.mp q6 _ m)).1, fun c xi m => (xiB_ok X G (List.all_eq_true.mp q6 _ m)).2.1, fun c xi m => (xiB_ok X G (List.all_eq_true.mp q6 _ m)).2.2, fun x ks cs m => ?_⟩
  · obtain ⟨fn, e⟩ := Option.isSome_iff_exists.mp e
    exact List.all_eq_true.mp q2 _ (lookup_mem e)
  · have q := List.all_eq_true.mp q3 _ (lookup_memS e)
    unfold conB at q
    simp only at q
    split at q
    · rename_i u e2
      obtain ⟨v, r1, r2⟩ := valB_ok (fa := fa) d u q
      exact ⟨u, v, PySem.W.mg_of X G e2, r1, r2⟩
    · cases q
  · have q := List.all_eq_true.mp q7 _ m
    unfold xbB at q
    simp only at q
    split at q
    · rename_i t e
      obtain ⟨a1, a2⟩ := ba q
      exact ⟨t, e, PySem.W.mg_none_of X G (eqO_ok a1), isB_ok a2⟩
    · cases q
end
/-! ### the defs -/
def fnI (K : PySem.W.Frag) (a : Addr) : He.FnV := match K.lookup a with
  | some ⟨_, _, .func fd, _⟩ => some (fd.name, fd.qualname, fd.params, fd.body, fd.scope, fd.globals, fd.closure, fd.defaults, fd.builtins)
  | _ => none
def FI.val (d : FI) : He.FnV := some (d.name, d.qual, defArgs d.st, .stmts (defBody d.st), defScope d.st, mainGlobals, [], .none, builtinsNs)
def kwB (K : PySem.W.Frag) (kV : Value) (d : FI) : Bool := match d.fn.kd with
  | .df i => match kV with
    | .ref D => (match PySem.W.nsIn K D (d.ps.getD (d.ps.length - 2) Str.empty) with
      | some (some (.int j _)) => decide (i = j)
      | _ => false)
    | _ => false
  | _ => true
theorem kw_ok {K : PySem.W.Frag} {kV : Value} {d : FI} (h : kwB K kV d = true) : KwD K kV d := by
  unfold kwB at h
  unfold KwD
  cases hk : d.fn.kd with
  | no => trivial
  | gv x => trivial
  | df i =>
    rw [hk] at h
    simp only at h ⊢
    split at h
    · rename_i D
      split at h
      · rename_i j t e
        have h := of_decide_eq_true h
        subst h
        refine ⟨D, t, rfl, fun ps0 pk pv hps => ?_⟩
        have z : d.ps.getD (d.ps.length - 2) Str.empty = pk := by rw [hps]; simp
        rw [z] at e
        exact e
      · cases h
    · cases h
def fnB (K : PySem.W.Frag) (a : Addr) (d : FI) : Bool := PySem.W.keepIn K (.ref a) && match K.lookup a with
  | some ⟨_, _, .func fd, _⟩ => PySem.W.codeIn K fd.code d.qual && kwB K fd.kwdefaults d
  | _ => false
theorem fk_of {K : PySem.W.Frag} {a : Addr} {d : FI} (e : fnI K a = d.val) (c : fnB K a d = true) : FK K a d := by
  unfold fnB at c
  obtain ⟨kp, c2⟩ := ba c
  unfold fnI at e
  cases q : K.lookup a with
  | none =>
    rw [q] at c2
    cases c2
  | some o =>
    obtain ⟨oc, od, dt, osl⟩ := o
    rw [q] at c2 e
    cases dt with
    | func fd =>
      obtain ⟨n1, n2, n3, n4, n5, n6, n7, n8, n9, n10, n11, n12, n13, n14, n15⟩ := fd
      have e2 : (some (n1, n2, n3, n4, n5, n6, n7, n8, n15) : He.FnV) = some (d.name, d.qual, defArgs d.st, .stmts (defBody d.st), defScope d.st, mainGlobals, [], .none, builtinsNs) := e
      simp only [Option.some.injEq, Prod.mk.injEq] at e2
      obtain ⟨h1, h2, h3, h4, h5, h6, h7, h8, h9⟩ := e2
      subst h1 h2 h3 h4 h5 h6 h7 h8 h9
      obtain ⟨c3, c4⟩ := ba c2
      exact ⟨⟨oc, od, n9, n10, n11, n12, n13, n14, osl, q, c3, kw_ok c4⟩, kp⟩
    | _ => cases c2
/-- an __init__ of an error: its closure is looked at elsewhere -/
def fnI0 (K : PySem.W.Frag) (a : Addr) : He.FnV := match K.lookup a with
  | some ⟨_, _, .func fd, _⟩ => some (fd.name, fd.qualname, fd.params, fd.body, fd.scope, fd.globals, [], fd.defaults, fd.builtins)
  | _ => none
def XN.val (n : XN) (x : Str) : He.FnV := some ("__init__", n.qual, xiArgs x n.q1 n.q2, .stmts (xiBody n.m n.j x n.p0 n.p1 n.p2 n.p3 n.p4 n.p5 n.p6 n.p7 n.p8 n.p9), xiScope x, mainGlobals, [], .none, builtinsNs)
theorem xn_ok {K : PySem.W.Frag} {pf : Str} {C : Addr} {f : Nat} {n : XN} (q : xnB K pf C f n = true) (e : fnI0 K (initAd K C) = n.val (nm f)) : XInit pf K C (nm f) := by
  unfold xnB at q
  obtain ⟨q0, q⟩ := ba q
  obtain ⟨q1, q⟩ := ba q
  obtain ⟨q2, q⟩ := ba q
  obtain ⟨q3, q⟩ := ba q
  obtain ⟨q4, q⟩ := ba q
  obtain ⟨q5, q⟩ := ba q
  obtain ⟨q6, q⟩ := ba q
  obtain ⟨q7, q⟩ := ba q
  obtain ⟨q8, q⟩ := ba q
  obtain ⟨q9, q⟩ := ba q
  obtain ⟨q10, q⟩ := ba q
  obtain ⟨q11, q⟩ := ba q
  obtain ⟨q12, q⟩ := ba q
  obtain ⟨q13, q⟩ := ba q
  obtain ⟨q14, q15⟩ := ba q
  refine ⟨?_, ?_, xname_of (of_decide_eq_true q6), eqO_ok q7, eqO_ok q8, of_decide_eq_true q9, eqO_ok q10, eqO_ok q11, q12, of_decide_eq_true q13, of_decide_eq_true q14, q15⟩
  · rcases Bool.or_eq_true_iff.mp q0 with z | z
    · exact xbs_ok PySem.F.excBase_IndexError PySem.W.kxs_IndexError PySem.F.store_IndexError z
    · exact xbs_ok PySem.F.excBase_LookupError PySem.W.kxs_LookupError PySem.F.store_LookupError z
  · unfold cloB at q2
    unfold fileB at q3
    unfold fnI0 at e
    cases z : K.lookup (initAd K C) with
    | none => rw [z] at e; cases e
    | some o =>
      obtain ⟨oc, od, dt, osl⟩ := o
      rw [z] at e q2 q3
      cases dt with
      | func fd =>
        obtain ⟨n1, n2, n3, n4, n5, n6, n7, n8, n9, n10, n11, n12, n13, n14, n15⟩ := fd
        have e2 : (some (n1, n2, n3, n4, n5, n6, ([] : List (Str × Addr)), n8, n15) : He.FnV) = some (("__init__" : Str), n.qual, xiArgs (nm f) n.q1 n.q2, FuncBody.stmts (xiBody n.m n.j (nm f) n.p0 n.p1 n.p2 n.p3 n.p4 n.p5 n.p6 n.p7 n.p8 n.p9), xiScope (nm f), mainGlobals, [], Value.none, builtinsNs) := e
        simp only [Option.some.injEq, Prod.mk.injEq] at e2
        obtain ⟨h1, h2, h3, h4, h5, h6, _, h8, h9⟩ := e2
        subst h1 h2 h3 h4 h5 h6 h8 h9
        simp only at q2 q3
        split at q2
        · rename_i x c
          obtain ⟨c1, c2⟩ := ba q2
          have c1 := of_decide_eq_true c1
          subst c1
          split at c2
          · rename_i D zc
            have c2 := of_decide_eq_true c2
            subst c2
            split at q3
            · rename_i cda
              obtain ⟨d1, d2⟩ := ba q3
              split at d2
              · rename_i vs zd
                split at d2
                · rename_i s t zv
                  exact ⟨_, _, _, _, _, _, _, _, _, _, _, _, _, _, _, _, _, _, _, _, _, _, _, _, _, _, _, _, _, _, _, _, _, _, _, eqO_ok q1, z, d1, zd, zv, d2, zc, q5, of_decide_eq_true q4⟩
                · cases d2
              · cases d2
            · cases q3
          · cases c2
        · cases q2
      | _ => cases e
/-! ### the Hook -/
def obsK (T : Tab) (ads : List (Nat × DAt)) (fis : List (Nat × FI)) (K : PySem.W.Frag) : He.Al :=
  ((tabB T (faK ads K) K && T.xn.all fun p => xnB K T.file (faK ads K (1000 + p.1)) p.2.1 p.2.2) && fis.all fun p => fnB K (faK ads K p.1) p.2, (fis.map fun p => fnI K (faK ads K p.1)) ++ T.xn.map fun p => fnI0 K (initAd K (faK ads K (1000 + p.1))))
def valK (T : Tab) (fis : List (Nat × FI)) : He.Al := (true, (fis.map fun p => p.2.val) ++ T.xn.map fun p => p.2.2.val (nm p.2.1))
/-! ### the defs that make lambdas: their code objects, their tables -/
def codeAt (K : PySem.W.Frag) (a : Addr) : Addr := match K.lookup a with
  | some ⟨_, _, .func fd, _⟩ => (match fd.code with
    | .ref c => c
    | _ => 0)
  | _ => 0
def tabAt (K : PySem.W.Frag) (a : Addr) : Addr := He.tabOf K (codeAt K a)
def mkOf (T : Tab) (fis : List (Nat × FI)) : List (Nat × FI) := fis.filter fun p => T.mks.contains p.1
def tbOf (T : Tab) (fis : List (Nat × FI)) (fa : Nat → Addr) (K : PySem.W.Frag) : List (Addr × Str) := (mkOf T fis).map fun p => (tabAt K (fa p.1), p.2.qual ++ ".<locals>." ++ "<lambda>")
def tabsG (g : Addr → Option Obj) (T : Tab) (fis : List (Nat × FI)) (fa : Nat → Addr) (K : PySem.W.Frag) : Bool :=
  ((mkOf T fis).all fun p => PySem.W.codeHdIn K (codeAt K (fa p.1)) (tabAt K (fa p.1)) && (match g (tabAt K (fa p.1)) with
    | some o => He.emptyTab o
    | none => false)) && (tbOf T fis fa K).all fun p => (tbOf T fis fa K).all fun q => (p.1 != q.1) || decide (p.2 = q.2)
structure MkOk (T : Tab) (fis : List (Nat × FI)) (fa : Nat → Addr) (K : PySem.W.Frag) (h : Heap) : Prop where
  hd : ∀ p ∈ mkOf T fis, PySem.W.codeHdIn K (codeAt K (fa p.1)) (tabAt K (fa p.1)) = true
  out : ∀ p ∈ mkOf T fis, K.lookup (tabAt K (fa p.1)) = none
  empty : ∀ p ∈ mkOf T fis, h.get? (tabAt K (fa p.1)) = some { cls := .none, data := .fields #[] }
  one : ∀ p ∈ tbOf T fis fa K, ∀ q ∈ tbOf T fis fa K, p.1 = q.1 → p.2 = q.2
def frI (n : Nat) (g : Addr → Option Obj) : PySem.W.Frag := He.frT g (cStatics :: He.asD g n)
def obsI (n : Nat) (T : Tab) (ads : List (Nat × DAt)) (fis : List (Nat × FI)) (g : Addr → Option Obj) : He.Al := ((obsK T ads fis (frI n g)).1 && tabsG g T fis (faK ads (frI n g)) (frI n g), (obsK T ads fis (frI n g)).2)
theorem obsI_of {n : Nat} {T : Tab} {ads : List (Nat × DAt)} {fis : List (Nat × FI)} {h : Heap} (e : obsI n T ads fis h.get? = valK T fis) : obsK T ads fis (frI n h.get?) = valK T fis ∧ MkOk T fis (faK ads (frI n h.get?)) (frI n h.get?) h := by
  have e1 := congrArg (fun z : He.Al => z.1) e
  have e2 := congrArg (fun z : He.Al => z.2) e
  obtain ⟨q1, q2⟩ := ba (show ((obsK T ads fis (frI n h.get?)).1 && tabsG h.get? T fis (faK ads (frI n h.get?)) (frI n h.get?)) = true from e1)
  refine ⟨Prod.ext q1 e2, ?_⟩
  obtain ⟨q3, q4⟩ := ba q2
  have key : ∀ p ∈ mkOf T fis, PySem.W.codeHdIn (frI n h.get?) (codeAt (frI n h.get?) (faK ads (frI n h.get?) p.1)) (tabAt (frI n h.get?) (faK ads (frI n h.get?) p.1)) = true ∧ ∃ o, h.get? (tabAt (frI n h.get?) (faK ads (frI n h.get?) p.1)) = some o ∧ He.emptyTab o = true := fun p m => by
    obtain ⟨a1, a2⟩ := ba (List.all_eq_true.mp q3 p m)
    refine ⟨a1, ?_⟩
    split at a2
    · rename_i o e
      exact ⟨o, e, a2⟩
    · cases a2
  refine ⟨fun p m => (key p m).1, fun p m => ?_, fun p m => ?_, fun p m q m2 hpq => ?_⟩
  · obtain ⟨_, o, e, z⟩ := key p m
    exact He.frT_none e z
  · obtain ⟨_, o, e, z⟩ := key p m
    rw [e, He.emptyTab_eq z]
  · have := List.all_eq_true.mp (List.all_eq_true.mp q4 p m) q m2
    rw [hpq] at this
    simpa using this
def hookI (n : Nat) (T : Tab) (ads : List (Nat × DAt)) (fis : List (Nat × FI)) : PySem.W.Hook where
  α := He.Al
  obs := fun s => obsI n T ads fis s.heap.get?
  val := fun _ => valK T fis
  says := fun _ h => ∃ K : PySem.W.Frag, K.In h ∧ obsK T ads fis K = valK T fis ∧ MkOk T fis (faK ads K) K h
  of := fun _ _ e => ⟨_, He.frT_in, obsI_of e⟩
  keeps := fun _ _ _ ⟨K, hK, c, d⟩ k => ⟨K, PySem.W.Frag.In.keeps hK k, c, ⟨d.hd, d.out, fun p m => k _ _ (d.empty p m), d.one⟩⟩
theorem obsI_eq {n : Nat} {T : Tab} {ads : List (Nat × DAt)} {fis : List (Nat × FI)} {g : Addr → Option Obj} {s : Shared} (h : ∀ a, g a = s.heap.get? a) : obsI n T ads fis g = (hookI n T ads fis).obs s := by
  have e : g = s.heap.get? := funext h
  rw [e] <;> rfl
theorem says_ok {T : Tab} {ads : List (Nat × DAt)} {fis : List (Nat × FI)} {K : PySem.W.Frag} {h : Heap} {mg : Str → Option Value} (X : K.In h) (G : h.Ns mainGlobals mg) (c : obsK T ads fis K = valK T fis) : TOk T K mg (faK ads K) ∧ ∀ p ∈ fis, FK K (faK ads K p.1) p.2 := by
  have c1 : ((tabB T (faK ads K) K && T.xn.all fun p => xnB K T.file (faK ads K (1000 + p.1)) p.2.1 p.2.2) && fis.all fun p => fnB K (faK ads K p.1) p.2) = true := congrArg (fun z : He.Al => z.1) c
  have c3 : (fis.map fun p => fnI K (faK ads K p.1)) ++ (T.xn.map fun p => fnI0 K (initAd K (faK ads K (1000 + p.1)))) = (fis.map fun p => p.2.val) ++ T.xn.map fun p => p.2.2.val (nm p.2.1) := congrArg (fun z : He.Al => z.2) c
  obtain ⟨c2, c4⟩ := List.append_inj c3 (by simp)
  obtain ⟨a0, a2⟩ := ba c1
  obtain ⟨a1, a3⟩ := ba a0
  exact ⟨tabB_ok X G a1 fun p m => xn_ok (List.all_eq_true.mp a3 p m) (List.map_inj_left.mp c4 p m), fun p m => fk_of (List.map_inj_left.mp c2 p m) (List.all_eq_true.mp a2 p m)⟩
end DI

namespace DI
open PySem PySem.Spec PyProof.Rows L2

section
variable {P : Program} {w : World} {K : PySem.W.Frag} {mg mb : Str → Option Value} {fa : Nat → Addr} {fns : List (Nat × Fn)} {k f : Nat}
theorem rep_ints (F : Hp) : ∀ ns : List Int, RepL K fa F (ns.map V.int) (ns.map D.int)
  | [] => .nil
  | n :: ns => .cons (.int n) (rep_ints F ns)
/-- the law's call, over a heap that tracks nothing but the script and the tables; cs: the code objects and their tables -/
theorem law_core {s : Shared} {a : Addr} {vs : List Value} {ns : List Int} {H : Hp} {cs : List (Addr × Addr)} {tb : List (Addr × Str)} (KX : K.In s.heap) (hns : s.heap.Ns mainGlobals mg) (hb : s.heap.Ns builtinsNs mb) (hbb : ∀ x : Str, x ≠ "__name__" → mb x = bootBuiltins x) (hlim : s.heap.NoLimit) (hg : s.gens = #[])
    (hbm : ∃ (bm : Addr) (ob : Obj), mg "__builtins__" = some (.ref bm) ∧ bm ≠ builtinsNs ∧ s.heap.get? bm = some ob ∧ ob.cls = .type "module" ∧ ob.dict = some builtinsNs ∧ ob.data = .plain)
    (ht : ∀ p ∈ cs, s.heap.get? p.2 = some { cls := .none, data := .fields #[] }) (hn : ∀ p ∈ cs, K.lookup p.2 = none) (hc : ∀ p ∈ cs, PySem.W.CodeHd s.heap p.1 p.2) (htb : ∀ p ∈ tb, ∃ q ∈ cs, q.2 = p.1)
    (ha : s.heap.get? a = some { cls := .type "list", data := .seq vs.toArray }) (hr : Room (4 * k) callerA) (G : ∀ base, (∀ p ∈ cs, LamX.TabB base mg p.1 p.2) → FnG P w K mg base fa tb fns k)
    (hcall : callF fns k f none [.scr (ns.map .int)] = some (.ok (.val (.bl true)), none)) (hS : SqL K H a (ns.map V.int)) (hok : HOk P w H s.heap) (hA : ∀ b u, H b = some u → (b = a ∧ ∃ o xs, u = .frz o (.lst xs)) ∨ ((∃ p ∈ cs, p.2 = b) ∧ u = .tbl #[])) (hTt : ∀ p ∈ cs, H p.2 = some (.tbl #[])) (hK : H a ≠ none → K.lookup a = none) :
    codeAny (model P w) callerA (.call (.ref (fa f)) ⟨[.ref a], []⟩) (fun r s' => r = .ok (.ret (.bool true)) ∧ OldK s.heap s'.heap ∧ s'.os = s.os ∧ AllBare s'.gens) s := by
  -- what is tracked is the script's list, an empty table
  have sort : ∀ {b : Addr} {u : HO} {o : Obj}, H b = some u → s.heap.get? b = some o → (∃ ws n, o.data = .seq ws n) ∨ o.data = .fields #[] := fun {b u o} e g => by
    rcases hA b u e with ⟨rfl, _⟩ | ⟨⟨p, m, rfl⟩, _⟩
    · rw [ha] at g
      cases g
      exact .inl ⟨_, _, rfl⟩
    · rw [ht p m] at g
      cases g
      exact .inr rfl
  have hide : ∀ {b : Addr} {o : Obj}, s.heap.get? b = some o → (∀ ws n, o.data ≠ .seq ws n) → o.data ≠ .fields #[] → (hidT s.heap H).get? b = some o := fun {b o} e n1 n2 => hidT_get e (by
    cases q : H b with
    | none => rfl
    | some u =>
      rcases sort q e with ⟨ws, n, z⟩ | z
      · exact (n1 ws n z).elim
      · exact (n2 z).elim)
  have hid : ∀ {b : Addr} {m : Str → Option Value}, s.heap.Ns b m → (hidT s.heap H).Ns b m := by
    rintro b m ⟨o, es, ep, e, d, r⟩
    exact ⟨o, es, ep, hide e (fun ws n z => by rw [d] at z; cases z) (fun z => by rw [d] at z; cases z), d, r⟩
  have kin : K.In (hidT s.heap H) := by
    intro b o e
    refine hidT_get (KX b o e) ?_
    cases q : H b with
    | none => rfl
    | some u =>
      rcases hA b u q with ⟨rfl, _⟩ | ⟨⟨p, m, rfl⟩, _⟩
      · rw [hK (by rw [q]; simp)] at e
        cases e
      · rw [hn p m] at e
        cases e
  obtain ⟨mc, l1, l2⟩ := hlim
  have md : Mod K mg (hidT s.heap H) := ⟨kin, hid hns, ⟨mb, hid hb, hbb⟩, ⟨mc, hid l1, l2⟩⟩
  have e0 : Env0 P w K mg (hidT s.heap H) callerA [] s H :=
    ⟨rfl, md, fun b o e => of_hidT e, Nat.le_of_eq (hidT_size _ _), trivial, (fun b z => absurd (show b ∈ ([] : List Addr) from z) (List.not_mem_nil)), hok, .of_eq hg⟩
  have TB : ∀ p ∈ cs, LamX.TabB (hidT s.heap H) mg p.1 p.2 := fun p m => by
    have tp := ht p m
    obtain ⟨o1, es1, ep1, g1, g2, _⟩ := id hns
    refine ⟨?_, ?_, fun z => ?_⟩
    · obtain ⟨o, us, y1, y2, y3, y4, y5, y6, y7, e1, r1, r2, r3, rest⟩ := hc p m
      exact ⟨o, us, y1, y2, y3, y4, y5, y6, y7, hide e1 (fun ws n z => by rw [r2] at z; cases z) (fun z => by rw [r2] at z; cases z; simp at r3), r1, r2, r3, rest⟩
    · obtain ⟨bm, ob, c1, c2, c3, c4, c5, c6⟩ := hbm
      refine ⟨bm, ob, c1, c2, fun z => ?_, fun z => ?_, hide c3 (fun ws n z => by rw [c6] at z; cases z) (fun z => by rw [c6] at z; cases z), c4, c5, c6⟩
      · rw [z, g1] at c3
        cases c3
        rw [g2] at c6
        cases c6
      · rw [z, tp] at c3
        cases c3
        cases c6
    · rw [z, tp] at g1
      cases g1
      cases g2
  -- frozen: the script alone
  let F : Hp := fun b => match H b with
    | some (.tbl _) => none
    | o => o
  have F_of : ∀ {b u}, F b = some u → H b = some u ∧ ∀ ps, u ≠ .tbl ps := fun {b u} e => by
    simp only [F] at e
    split at e
    · cases e
    · rename_i hx
      exact ⟨e, fun ps z => hx ps (by rw [e, z])⟩
  have sF : Same F H := fun b u e => (F_of e).1
  have Sq : SqL K F a (ns.map V.int) := by
    rcases hS with (h | ⟨o, h⟩) | h
    · rcases hA a _ h with ⟨_, o, xs, z⟩ | ⟨_, z⟩ <;> cases z
    · exact .inl (.inr ⟨o, by simp only [F, h]⟩)
    · exact .inr h
  have rep : RepL K fa F [V.ref a] [.scr (ns.map D.int)] := .cons (.scr Sq (rep_ints F ns)) .nil
  have tbs : Tb tb F H := ⟨fun p m => by
    obtain ⟨q, mq, e⟩ := htb p m
    refine ⟨#[], by rw [← e]; exact hTt q mq, trivial, fun pos cv z => ?_⟩
    have z : codeAmong pos [] = some cv := z
    simp [codeAmong] at z, fun b ps e => (F_of e).2 ps rfl⟩
  refine codeAny_mono (G _ TB f (callF_has hcall) callerA [] s H [.ref a] [.ref a] (fun v _ => v = .bl true) (fun _ _ _ => False) rfl hr e0 (.cons rfl .nil) ⟨F, none, _, [], _, none, .no rep, ⟨SL.of sF, tbs⟩, hcall, fun F' H' fp' c v rr => Rep.bl_of rr⟩) fun r s' h => ?_
  cases r with
  | error e =>
    obtain ⟨_, _, _, _, _, _, _, _, _, _, _, _, z⟩ := h
    exact z.elim
  | ok fl =>
    cases fl with
    | next => exact False.elim h
    | brk => exact False.elim h
    | cont => exact False.elim h
    | ret u =>
      obtain ⟨v, H', os, bare, un, hok', r', qv⟩ := h
      cases (show v = V.bl true from qv)
      cases (show u = Value.bool true from r')
      have grow : ∀ p ∈ cs, ∃ more : Array Value, s'.heap.get? p.2 = some { cls := .none, data := .fields more } := fun p m => by
        obtain ⟨more, z⟩ := un.tbls p.2 #[] (hTt p m)
        exact ⟨_, hok' p.2 _ z⟩
      have stay : ∀ b o, s.heap.get? b = some o → (∃ p ∈ cs, p.2 = b) ∨ s'.heap.get? b = some o := fun b o e => by
        cases q : H b with
        | none => exact .inr (un.keep b o e q (fun z => absurd (show b ∈ ([] : List Addr) from z) List.not_mem_nil) (List.not_mem_nil))
        | some z =>
          rcases hA b z q with ⟨_, ob, xs, rfl⟩ | ⟨z, _⟩
          · have g1 := (hok b _ q).1
            have g2 := (hok' b _ (un.frzs b ob _ q)).1
            rw [e] at g1
            cases g1
            exact .inr g2
          · exact .inl z
      refine ⟨rfl, ⟨fun b o e => ?_, fun b o e => ?_⟩, os, bare⟩
      · rcases stay b o e with ⟨p, m, rfl⟩ | z
        · obtain ⟨more, hm⟩ := grow p m
          rw [ht p m] at e
          cases e
          exact .inr (.inl ⟨((hc p m).tab (ht p m)).isCodeTable, rfl, #[], more, rfl, by rw [Array.empty_append]; exact hm⟩)
        · exact .inl z
      · rcases stay b o e with ⟨p, m, rfl⟩ | z
        · obtain ⟨more, hm⟩ := grow p m
          exact ⟨_, hm⟩
        · exact ⟨o, z⟩
theorem law_G {s : Shared} {a : Addr} {vs : List Value} {ns : List Int} {cs : List (Addr × Addr)} {tb : List (Addr × Str)} (KX : K.In s.heap) (hns : s.heap.Ns mainGlobals mg) (hb : s.heap.Ns builtinsNs mb) (hbb : ∀ x : Str, x ≠ "__name__" → mb x = bootBuiltins x) (hlim : s.heap.NoLimit) (hg : s.gens = #[])
    (hbm : ∃ (bm : Addr) (ob : Obj), mg "__builtins__" = some (.ref bm) ∧ bm ≠ builtinsNs ∧ s.heap.get? bm = some ob ∧ ob.cls = .type "module" ∧ ob.dict = some builtinsNs ∧ ob.data = .plain)
    (ht : ∀ p ∈ cs, s.heap.get? p.2 = some { cls := .none, data := .fields #[] }) (hn : ∀ p ∈ cs, K.lookup p.2 = none) (hc : ∀ p ∈ cs, PySem.W.CodeHd s.heap p.1 p.2) (htb : ∀ p ∈ tb, ∃ q ∈ cs, q.2 = p.1)
    (ha : s.heap.get? a = some { cls := .type "list", data := .seq vs.toArray }) (hi : IntsAre vs ns) (hl : ns.length ≤ sizeLine) (hr : Room (4 * k) callerA) (G : ∀ base, (∀ p ∈ cs, LamX.TabB base mg p.1 p.2) → FnG P w K mg base fa tb fns k)
    (hcall : callF fns k f none [.scr (ns.map .int)] = some (.ok (.val (.bl true)), none)) :
    codeAny (model P w) callerA (.call (.ref (fa f)) ⟨[.ref a], []⟩) (fun r s' => r = .ok (.ret (.bool true)) ∧ OldK s.heap s'.heap ∧ s'.os = s.os ∧ AllBare s'.gens) s := by
  have rv := vals_ints hi
  have lenV := hi.length
  have na : ∀ p ∈ cs, p.2 ≠ a := fun p m z => by
    have e := ht p m
    rw [z, ha] at e
    cases e
  let Ht : Hp := fun b => if b ∈ cs.map (·.2) then some (.tbl #[]) else none
  have Ht_at : ∀ p ∈ cs, Ht p.2 = some (.tbl #[]) := fun p m => if_pos (List.mem_map.mpr ⟨p, m, rfl⟩)
  have Ht_of : ∀ {b u}, Ht b = some u → (∃ p ∈ cs, p.2 = b) ∧ u = .tbl #[] := fun {b u} e => by
    simp only [Ht] at e
    split at e
    · rename_i m
      cases e
      obtain ⟨p, m, z⟩ := List.mem_map.mp m
      exact ⟨⟨p, m, z⟩, rfl⟩
    · cases e
  have Ht_a : Ht a = none := if_neg fun m => by
    obtain ⟨p, m, z⟩ := List.mem_map.mp m
    exact na p m z
  have okT : ∀ b u, Ht b = some u → ∃ p ∈ cs, p.2 = b ∧ u = .tbl #[] ∧ s.heap.get? b = some { cls := .none, data := .fields #[] } := fun b u e => by
    obtain ⟨⟨p, m, rfl⟩, z⟩ := Ht_of e
    exact ⟨p, m, rfl, z, ht p m⟩
  cases hk : K.lookup a with
  | some o =>
    have e := KX a o hk
    rw [ha] at e
    cases e
    refine law_core (H := Ht) KX hns hb hbb hlim hg hbm ht hn hc htb ha hr G hcall (.inr ⟨_, vs.toArray, _, hk, rfl, rfl, rfl, by rw [List.size_toArray, lenV]; exact hl, by simpa using rv⟩) (fun b u z => ?_) (fun b u z => .inr (Ht_of z)) Ht_at (fun z => absurd Ht_a z)
    obtain ⟨p, m, rfl, rfl, e⟩ := okT b u z
    exact e
  | none =>
    refine law_core (H := upd Ht a (.frz { cls := .type "list", data := .seq vs.toArray } (.lst (ns.map V.int)))) KX hns hb hbb hlim hg hbm ht hn hc htb ha hr G hcall (.inl (.inr ⟨_, upd_same⟩)) (fun b u z => ?_) (fun b u z => ?_) (fun p m => by rw [upd_ne (na p m)]; exact Ht_at p m) (fun _ => hk)
    · by_cases q : b = a
      · subst q
        rw [upd_same] at z
        cases z
        exact ⟨ha, by rw [List.length_map]; exact hl, vs, _, rv, ha⟩
      · rw [upd_ne q] at z
        obtain ⟨p, m, rfl, rfl, e⟩ := okT b u z
        exact e
    · by_cases q : b = a
      · subst q
        rw [upd_same] at z
        cases z
        exact .inl ⟨rfl, _, _, rfl⟩
      · rw [upd_ne q] at z
        exact .inr (Ht_of z)
end
/-- a fact for each member of a list -/
def AllP {α : Type} (P : α → Prop) : List α → Prop
  | [] => True
  | a :: r => P a ∧ AllP P r
theorem AllP.get {α : Type} {P : α → Prop} : ∀ {l : List α}, AllP P l → ∀ a ∈ l, P a
  | [], _, a, m => by cases m
  | b :: r, h, a, m => by
    rcases List.mem_cons.mp m with rfl | m
    · exact h.1
    · exact AllP.get h.2 a m
/-- the goal that the head leaves, from the law's value -/
theorem walk_I {l : PySem.W.OpenLaw} {n k m : Nat} {q : Program} {loose : List Str} {XP : (Str → Option Value) → Heap → Prop} {d : DefRec} {T : Tab} {ads : List (Nat × DAt)} {fis : List (Nat × FI)} {f : Nat}
    (hn : l.most = some n) (hn2 : n ≤ sizeLine) (hdf : d.params.defaults = []) (hr : Room (4 * k) callerA) (hd : d.name = "law") (hP : PfOk l.prog T.file) (hf : T.fis.lookup ("law" : Str) = some f) (B : Bodied T fis)
    (hcall : ∀ ns : List Int, ns.length ≤ n → callF T.fns k f none [.scr (ns.map .int)] = some (.ok (.val (.bl true)), none)) :
    PySem.W.WalkO q loose XP (hookI m T ads fis).says l.row.toRowW d [] (fun f vs => PySem.call f vs) := by
  refine Att.attach_call hn hdf fun w s0 s1 mg mb la o pm cd doc a vs ns G Y ho hdd hcd hmg hobj hints hlen hg => ?_
  obtain ⟨K, KX, c, M⟩ := Y
  obtain ⟨hT, hk⟩ := says_ok KX G.T.g c
  rw [hd] at hmg
  have e := hmg.symm.trans (hT.F "law" f hf)
  cases e
  have cs : ∀ {Pr : Addr × Addr → Prop}, (∀ p ∈ mkOf T fis, Pr (codeAt K (faK ads K p.1), tabAt K (faK ads K p.1))) → ∀ p ∈ (mkOf T fis).map fun p => (codeAt K (faK ads K p.1), tabAt K (faK ads K p.1)), Pr p := fun h p m => by
    obtain ⟨q, mq, rfl⟩ := List.mem_map.mp m
    exact h q mq
  refine law_G (cs := (mkOf T fis).map fun p => (codeAt K (faK ads K p.1), tabAt K (faK ads K p.1))) (tb := tbOf T fis (faK ads K) K) KX G.T.g G.T.b G.T.builtins G.T.nolimit hg G.T.bmain (cs M.empty) (cs M.out) (cs fun p m => PySem.W.codeHd_of_K KX (M.hd p m)) (fun p m => ?_) hobj hints (Nat.le_trans hlen hn2) hr (fun base hB => (fnG_all hP hk hT B (fun p m hmk => ?_) k).1) (hcall ns hlen)
  · obtain ⟨q, mq, rfl⟩ := List.mem_map.mp m
    exact ⟨_, List.mem_map.mpr ⟨q, mq, rfl⟩, rfl⟩
  · have mq : p ∈ mkOf T fis := List.mem_filter.mpr ⟨m, hmk⟩
    intro oc od kV doc pm an cdv ct osl lk
    obtain ⟨oc', od', kV', doc', pm', an', cdv', ct', osl', lk', hcd', _⟩ := (hk p m).ex
    rw [lk] at lk'
    have ec : cdv = cdv' := by
      have := Option.some.inj lk'
      injection this with _ _ h _
      injection h with h
      injection h
    obtain ⟨c, hc⟩ := He.codeIn_ref hcd'
    have ec2 := ec.trans hc
    clear ec lk' hcd'
    subst ec2
    have hca : codeAt K (faK ads K p.1) = c := by
      unfold codeAt
      rw [lk]
    have tbm := hB _ (List.mem_map.mpr ⟨p, mq, rfl⟩)
    rw [hca] at tbm
    refine ⟨c, _, tbm, rfl, List.mem_map.mpr ⟨p, mq, rfl⟩, fun q m2 e => M.one q m2 _ (List.mem_map.mpr ⟨p, mq, rfl⟩) e⟩
end DI

namespace DI

/-! ### plain readings of the denotation: there is a result, and it is so -/
def wo {α : Type} (x : Option α) (Q : α → Prop) : Prop := ∃ r, x = some r ∧ Q r
@[simp] theorem wo_some {α : Type} {x : α} {Q : α → Prop} : wo (some x) Q ↔ Q x := by simp [wo]
@[simp] theorem wo_none {α : Type} {Q : α → Prop} : wo none Q ↔ False := by simp [wo]
@[simp] theorem wo_ite {α : Type} {c : Prop} {_ : Decidable c} {x : Option α} {Q : α → Prop} : wo (if c then x else none) Q ↔ c ∧ wo x Q := by
  by_cases h : c <;> simp [wo, h]
@[simp] theorem wo_num {i : Int} {Q : R → Prop} : wo (num i) Q ↔ Q (.val (.int i)) := wo_some
@[simp] theorem wo_bl {b : Bool} {Q : R → Prop} : wo (bl b) Q ↔ Q (.val (.bl b)) := wo_some
@[simp] theorem wo_map {α β : Type} {x : Option α} {f : α → β} {Q : β → Prop} : wo (x.map f) Q ↔ wo x fun a => Q (f a) := by
  cases x <;> simp [wo]
theorem wo_mono {α : Type} {x : Option α} {P Q : α → Prop} (h : wo x P) (k : ∀ a, P a → Q a) : wo x Q := by
  obtain ⟨a, e, p⟩ := h
  exact ⟨a, e, k a p⟩
/-- a run: on a value Q, on an error X -/
def wr {α : Type} (m : Res α) (X : Xc → Ev → Prop) (Q : α → Ev → Prop) : Prop := match m with
  | some (.ok a, e) => Q a e
  | some (.error x, e) => X x e
  | none => False
def noX : Xc → Ev → Prop := fun _ _ => False
section
variable {α β : Type} {X : Xc → Ev → Prop} {Q : α → Ev → Prop}
@[simp] theorem wr_ok {a : α} {e : Ev} : wr (some (.ok a, e)) X Q ↔ Q a e := Iff.rfl
@[simp] theorem wr_err {x : Xc} {e : Ev} : wr (some (.error x, e)) X Q ↔ X x e := Iff.rfl
@[simp] theorem wr_none : wr (none : Res α) X Q ↔ False := Iff.rfl
@[simp] theorem wr_bnd {m : Res β} {g : β → Ev → Res α} : wr (bnd m g) X Q ↔ wr m X fun b e => wr (g b e) X Q := by
  cases m with
  | none => exact Iff.rfl
  | some p => obtain ⟨o, e⟩ := p; cases o <;> exact Iff.rfl
@[simp] theorem wr_okR {o : Option α} {e : Ev} : wr (okR o e) X Q ↔ wo o fun a => Q a e := by
  cases o with
  | none => simp [okR, wr, wo]
  | some a => simp [okR, wr, wo]
@[simp] theorem wr_ite {c : Prop} {_ : Decidable c} {m : Res α} : wr (if c then m else none) X Q ↔ c ∧ wr m X Q := by
  by_cases h : c <;> simp [h]
theorem wr_mono {m : Res α} {X' : Xc → Ev → Prop} {Q' : α → Ev → Prop} (h : wr m X Q) (k : ∀ a e, Q a e → Q' a e) (l : ∀ x e, X x e → X' x e) : wr m X' Q' := by
  cases m with
  | none => exact h
  | some p => obtain ⟨o, e⟩ := p; cases o with
    | ok a => exact k a e h
    | error x => exact l x e h
/-- the end of a call -/
def wc (o : Except Xc α) (e : Ev) (X : Xc → Ev → Prop) (Q : α → Ev → Prop) : Prop := match o with
  | .ok a => Q a e
  | .error x => X x e
@[simp] theorem wc_ok {a : α} {e : Ev} : wc (.ok a) e X Q ↔ Q a e := Iff.rfl
@[simp] theorem wc_err {x : Xc} {e : Ev} : wc (.error x : Except Xc α) e X Q ↔ X x e := Iff.rfl
end
@[simp] theorem wr_rsC {o : Option (Except Xc R × Option Ho)} {e : Ev} {X : Xc → Ev → Prop} {Q : R → Ev → Prop} : wr (rsC o e) X Q ↔ wo o fun p => wc p.1 e X Q := by
  cases o with
  | none => simp [rsC, wr, wo]
  | some p => obtain ⟨r, h⟩ := p; cases r <;> simp [rsC]
/-- the end of an __init__ -/
def wm (p : Except Xc R × Option Ho) (e : Ev) (X : Xc → Ev → Prop) (Q : R → Ev → Prop) : Prop := match p with
  | (.ok (.val .non), some h) => Q (.new h) e
  | (.error x, some _) => X x e
  | _ => False
@[simp] theorem wm_ok {h : Ho} {e : Ev} {X : Xc → Ev → Prop} {Q : R → Ev → Prop} : wm (.ok (.val .non), some h) e X Q ↔ Q (.new h) e := Iff.rfl
@[simp] theorem wm_err {h : Ho} {x : Xc} {e : Ev} {X : Xc → Ev → Prop} {Q : R → Ev → Prop} : wm (.error x, some h) e X Q ↔ X x e := Iff.rfl
@[simp] theorem wr_mkC {o : Option (Except Xc R × Option Ho)} {e : Ev} {X : Xc → Ev → Prop} {Q : R → Ev → Prop} : wr (mkC o e) X Q ↔ wo o fun p => wm p e X Q := by
  cases o with
  | none => simp [mkC, wr, wo]
  | some p =>
    obtain ⟨r, h⟩ := p
    rw [wo_some]
    cases r with
    | error x => cases h <;> exact Iff.rfl
    | ok r => cases r with
      | new y => cases h <;> exact Iff.rfl
      | val d => cases d <;> cases h <;> exact Iff.rfl
section
variable {cf : CF} {env : Ev} {X : Xc → Ev → Prop}
def wI (cf : CF) (i : I) (env : Ev) (X : Xc → Ev → Prop) (Q : R → Ev → Prop) : Prop := wr (eI cf i env) X Q
def wIs (cf : CF) (i : Is) (env : Ev) (X : Xc → Ev → Prop) (Q : List D → Ev → Prop) : Prop := wr (eIs cf i env) X Q
def wT (cf : CF) (i : T) (env : Ev) (X : Xc → Ev → Prop) (Q : Bool → Ev → Prop) : Prop := wr (eT cf i env) X Q
def wO (cf : CF) (i : Io) (env : Ev) (X : Xc → Ev → Prop) (Q : Option Int → Ev → Prop) : Prop := wr (eO cf i env) X Q
def wIt (cf : CF) (i : It) (env : Ev) (X : Xc → Ev → Prop) (Q : List D → Ev → Prop) : Prop := wr (eIt cf i env) X Q
def wRs (cf : CF) (i : Is) (env : Ev) (X : Xc → Ev → Prop) (Q : List R → Ev → Prop) : Prop := wr (eRs cf i env) X Q
def wS (cf : CF) (i : S) (env : Ev) (X : Xc → Ev → Prop) (Q : Fl → Ev → Prop) : Prop := wr (eS cf i env) X Q
def wSs (cf : CF) (i : Ss) (env : Ev) (X : Xc → Ev → Prop) (Q : Fl → Ev → Prop) : Prop := wr (eSs cf i env) X Q
def wHs (cf : CF) (x : Xc) (i : Hs) (env : Ev) (X : Xc → Ev → Prop) (Q : Fl → Ev → Prop) : Prop := wr (eHs cf x i env) X Q
def wPl (cf : CF) (p : Pl) (r : R) (env : Ev) (X : Xc → Ev → Prop) (Q : Ev → Prop) : Prop := wr (setP cf p r env) X fun _ e => Q e
def wPls (cf : CF) (ps : List Pl) (ds : List D) (env : Ev) (X : Xc → Ev → Prop) (Q : Ev → Prop) : Prop := wr (setPs cf ps ds env) X fun _ e => Q e
section
variable {Q : R → Ev → Prop}
@[simp] theorem w_con {d : D} : wI cf (.con d) env X Q ↔ Q (.val d) env := by simp only [wI, eI, wr_ok]
@[simp] theorem w_var {i : Nat} : wI cf (.var i) env X Q ↔ wo (rdV env i) fun p => Q (.val p.1) p.2 := by
  simp only [wI, eI]
  cases rdV env i with
  | none => simp [wo]
  | some p => simp
@[simp] theorem w_op {o : Op} {as : Is} : wI cf (.op o as) env X Q ↔ wIs cf as env X fun ds e => wo (opD o ds) fun r => Q r e := by simp only [wI, wIs, eI, wr_bnd, wr_okR]
@[simp] theorem w_dg1 {a b : I} : wI cf (.dg1 a b) env X Q ↔ wI cf a env X fun r e => ∃ kvs, r.d = .dct kvs ∧ wI cf b e X fun y e2 => wo (getD1 kvs y.d) fun o => Q (.val (o.getD .non)) e2 := by
  simp only [wI, eI, wr_bnd]
  apply iff_of_eq
  congr 1
  funext r e
  apply propext
  cases hr : r.d with
  | dct kvs => simp
  | _ => simp
@[simp] theorem w_dg2 {a b c : I} : wI cf (.dg2 a b c) env X Q ↔ wI cf a env X fun r e => ∃ kvs, r.d = .dct kvs ∧ wI cf b e X fun y e2 => wI cf c e2 X fun x e3 => wo (getD1 kvs y.d) fun o => Q (.val (o.getD x.d)) e3 := by
  simp only [wI, eI, wr_bnd]
  apply iff_of_eq
  congr 1
  funext r e
  apply propext
  cases hr : r.d with
  | dct kvs => simp
  | _ => simp
@[simp] theorem w_call {f : Nat} {as : Is} : wI cf (.call f as) env X Q ↔ wIs cf as env X fun ds e => wo (cf f none ds) fun p => wc p.1 e X Q := by simp only [wI, wIs, eI, wr_bnd, wr_rsC]
@[simp] theorem w_callio {f s : Nat} {as : Is} : wI cf (.callio f s as) env X Q ↔ (held env s).isSome = true ∧ wIs cf as env X fun ds e => wo (held e s) fun xs => wo (cf f (some xs) ds) fun p => wo p.2 fun ys => wc p.1 (hold e s ys) X Q := by
  simp only [wI, wIs, eI, wr_ite, wr_bnd]
  refine and_congr_right fun _ => ?_
  apply iff_of_eq
  congr 1
  funext ds e
  apply propext
  cases held e s with
  | none => simp
  | some xs =>
    simp only [wo_some]
    cases cf f (some xs) ds with
    | none => simp
    | some q =>
      obtain ⟨r, o⟩ := q
      cases o with
      | none => simp
      | some y => cases r <;> simp
@[simp] theorem w_callfr {f : Nat} {a : I} {as : Is} : wI cf (.callfr f a as) env X Q ↔ wI cf a env X fun r e => ∃ xs, r = .new xs ∧ wIs cf as e X fun ds e2 => wo (cf f (some xs) ds) fun p => wc p.1 e2 X Q := by
  simp only [wI, wIs, eI, wr_bnd]
  apply iff_of_eq
  congr 1
  funext r e
  apply propext
  cases r with
  | val d => simp
  | new xs => simp
@[simp] theorem w_ife {c : T} {a b : I} : wI cf (.ife c a b) env X Q ↔ wT cf c env X fun t e => if t = true then wI cf a e X Q else wI cf b e X Q := by
  simp only [wI, wT, eI, wr_bnd]
  apply iff_of_eq
  congr 1
  funext t e
  cases t <;> rfl
@[simp] theorem w_andb {a b : I} : wI cf (.andb a b) env X Q ↔ wI cf a env X fun r e => ∃ t, r = .val (.bl t) ∧ if t = true then wI cf b e X Q else Q (.val (.bl false)) e := by
  simp only [wI, eI, wr_bnd]
  apply iff_of_eq
  congr 1
  funext r e
  apply propext
  cases r with
  | new xs => simp
  | val d => cases d with
    | bl t => cases t <;> simp
    | _ => simp
@[simp] theorem w_orb {a b : I} : wI cf (.orb a b) env X Q ↔ wI cf a env X fun r e => ∃ t, r = .val (.bl t) ∧ if t = true then Q (.val (.bl true)) e else wI cf b e X Q := by
  simp only [wI, eI, wr_bnd]
  apply iff_of_eq
  congr 1
  funext r e
  apply propext
  cases r with
  | new xs => simp
  | val d => cases d with
    | bl t => cases t <;> simp
    | _ => simp
@[simp] theorem w_notb {a : I} : wI cf (.notb a) env X Q ↔ wI cf a env X fun r e => ∃ t, r = .val (.bl t) ∧ Q (.val (.bl (!t))) e := by
  simp only [wI, eI, wr_bnd]
  apply iff_of_eq
  congr 1
  funext r e
  apply propext
  cases r with
  | new xs => simp
  | val d => cases d with
    | bl t => cases t <;> simp
    | _ => simp
/-- an item of what a slot holds -/
def wIx (z : Option Sl) (s : Nat) (d : D) (e : Ev) (Q : R → Ev → Prop) : Prop := match z with
  | some (.val x) => wo (opD .item [x, d]) fun r => Q r e
  | some (.own h) => match itemH h d with
    | some y => Q (.val y) e
    | none => wo (opD .item [toD h, d]) fun r => Q r (e.set s (.val (toD h)))
  | some (.io h) => wo (itemH h d) fun y => Q (.val y) e
  | _ => False
@[simp] theorem w_item1 {s : Nat} {a : I} : wI cf (.item1 s [] a) env X Q ↔ bound1 env s = true ∧ wI cf a env X fun r e => wIx e[s]? s r.d e Q := by
  unfold wI
  rw [eI_item1]
  simp only [wr_ite, wr_bnd]
  refine and_congr_right fun _ => ?_
  apply iff_of_eq
  congr 1
  funext r e
  apply propext
  unfold wIx
  cases e[s]? with
  | none => simp
  | some z => cases z with
    | un => simp
    | exc _ => simp
    | val x => simp
    | io h => simp
    | own h => simp only; cases itemH h r.d <;> simp
/-- .. by an own __getitem__, if the name holds such a thing -/
def wIxT (cf : CF) (tb : List (Nat × Nat)) (z : Option Sl) (s : Nat) (d : D) (e : Ev) (X : Xc → Ev → Prop) (Q : R → Ev → Prop) : Prop := match z with
  | some (.val x) => match mthOf tb x with
    | some f => wo (cf f none [x, d]) fun p => wc p.1 e X Q
    | none => wo (opD .item [x, d]) fun r => Q r e
  | z => wIx z s d e Q
theorem w_item1t {s : Nat} {tb : List (Nat × Nat)} {a : I} : wI cf (.item1 s tb a) env X Q ↔ bound1 env s = true ∧ wI cf a env X fun r e => wIxT cf tb e[s]? s r.d e X Q := by
  unfold wI
  rw [eI_item1t]
  simp only [wr_ite, wr_bnd]
  refine and_congr_right fun _ => ?_
  apply iff_of_eq
  congr 1
  funext r e
  apply propext
  unfold wIxT wIx
  cases e[s]? with
  | none => simp
  | some z => cases z with
    | un => simp
    | exc _ => simp
    | val x => simp only; cases mthOf tb x <;> simp
    | io h => simp
    | own h => simp only; cases itemH h r.d <;> simp
@[simp] theorem w_item1p {s : Nat} {p : Nat × Nat} {tb : List (Nat × Nat)} {a : I} : wI cf (.item1 s (p :: tb) a) env X Q ↔ bound1 env s = true ∧ wI cf a env X fun r e => wIxT cf (p :: tb) e[s]? s r.d e X Q := w_item1t
@[simp] theorem w_cmkw {c f : Nat} {as : Is} {p : I} : wI cf (.cmkw c f as p) env X Q ↔ wIs cf as env X fun ds e => wI cf p e X fun r e2 => wo (cf.k f (.cls c :: r.d :: ds)) fun z => wc z e2 X Q := by
  show wr (eI cf (.cmkw c f as p) env) X Q ↔ _
  simp only [eI, wr_bnd]
  apply iff_of_eq
  show wr (eIs cf as env) _ _ = wr (eIs cf as env) _ _
  congr 1
  funext ds e
  show wr (eI cf p e) _ _ = wr (eI cf p e) _ _
  congr 1
  funext r e2
  apply propext
  cases cf.k f (.cls c :: r.d :: ds) with
  | none => simp
  | some z => cases z <;> simp
@[simp] theorem w_len1 {s : Nat} : wI cf (.len1 s []) env X Q ↔ wo (look1 env s) fun d => wo (opD .len [d]) fun z => Q z env := by
  simp only [wI, eI]
  cases look1 env s with
  | none => simp
  | some d =>
    simp only [wo_some, mth_nil]
    cases env[s]? with
    | none => simp
    | some z => cases z <;> simp
@[simp] theorem w_chain {o p : Op} {a b c : I} : wI cf (.chain o p a b c) env X Q ↔ wI cf a env X fun x e1 => wI cf b e1 X fun y e2 => wo (opD o [x.d, y.d]) fun r => ∃ t, r = .val (.bl t) ∧ if t = true then wI cf c e2 X fun z e3 => wo (opD p [y.d, z.d]) fun r => Q r e3 else Q (.val (.bl false)) e2 := by
  simp only [wI, eI, wr_bnd]
  apply iff_of_eq
  congr 1
  funext x e1
  congr 1
  funext y e2
  apply propext
  cases opD o [x.d, y.d] with
  | none => simp
  | some r => cases r with
    | new xs => simp
    | val d => cases d with
      | bl t => cases t <;> simp
      | _ => simp
@[simp] theorem w_pop1 {s : Nat} {a : I} : wI cf (.pop1 s a) env X Q ↔ ((held env s).bind lsOf).isSome = true ∧ wI cf a env X fun r e => ∃ i, r = .val (.int i) ∧ wo ((held e s).bind lsOf) fun xs => (0 ≤ i ∧ i < xs.length ∧ xs.length ≤ big) ∧ wo (xs[i.toNat]?) fun d => Q (asR d) (hold e s (.ls (xs.eraseIdx i.toNat))) := by
  simp only [wI, eI, wr_ite, wr_bnd]
  refine and_congr_right fun _ => ?_
  apply iff_of_eq
  congr 1
  funext r e
  apply propext
  cases r with
  | new xs => simp
  | val d => cases d with
    | int i =>
      simp only [R.val.injEq, D.int.injEq, exists_eq_left']
      cases (held e s).bind lsOf with
      | none => simp
      | some xs =>
        simp only [wo_some, wr_ite]
        refine and_congr_right fun _ => ?_
        cases xs[i.toNat]? <;> simp
    | _ => simp
@[simp] theorem w_cut {a : I} {lo hi : Io} : wI cf (.cut a lo hi) env X Q ↔ wI cf a env X fun r e1 => wO cf lo e1 X fun i e2 => wO cf hi e2 X fun j e3 => wo (cutR i j r.d) fun z => Q z e3 := by simp only [wI, wO, eI, wr_bnd, wr_okR]
@[simp] theorem w_lst {as : Is} : wI cf (.lst as) env X Q ↔ wRs cf as env X fun rs e => rs.length ≤ big ∧ Q (.new (.ls (rs.map R.h))) e := by simp only [wI, wRs, eI, wr_bnd, wr_ite, wr_ok]
@[simp] theorem w_lc {tg : Tg} {it : It} {c : T} {e : I} : wI cf (.lc tg it c e) env X Q ↔ wIt cf it env X fun ds e1 => tg.slots.all (loose1 e1) = true ∧ wr (lcD (lcT cf tg c e) ds [] e1) noX fun xs e2 => Q (.new (.ls xs)) (putBack e2 e1 tg.slots) := by
  unfold wI
  rw [eI_lc]
  simp only [wIt, wr_bnd, wr_ite]
  apply iff_of_eq
  congr 1
  funext ds e1
  congr 1
  apply propext
  cases lcD (lcT cf tg c e) ds [] e1 with
  | none => simp
  | some p => obtain ⟨o, e2⟩ := p; cases o <;> simp [noX]
@[simp] theorem w_fld {a : I} {f : Nat} {cs : List Nat} : wI cf (.fld a f cs) env X Q ↔ wI cf a env X fun r e => wo (fldOf f cs r.d) fun d => Q (.val d) e := by simp only [wI, eI, wr_bnd, wr_okR, wo_map]
def wFl (z : Option Sl) (f : Nat) (cs : List Nat) (Q : D → Prop) : Prop := match z with
  | some (.val d) => wo (fldOf f cs d) Q
  | some (.own h) => wo (fldH f cs h) Q
  | some (.io h) => wo (fldH f cs h) Q
  | _ => False
@[simp] theorem w_fld1 {s f : Nat} {cs : List Nat} : wI cf (.fld1 s f cs) env X Q ↔ wFl env[s]? f cs fun d => Q (.val d) env := by
  simp only [wI, eI, wFl]
  cases env[s]? with
  | none => simp
  | some z => cases z <;> simp
@[simp] theorem w_prop {a : I} {tb : List (Nat × Nat)} : wI cf (.prop a tb) env X Q ↔ wI cf a env X fun r e => wo (mthOf tb r.d) fun f => wo (cf f none [r.d]) fun p => wc p.1 e noX Q := by
  simp only [wI, eI, wr_bnd]
  apply iff_of_eq
  congr 1
  funext r e
  apply propext
  cases mthOf tb r.d with
  | none => simp
  | some f =>
    simp only [wo_some]
    cases cf f none [r.d] with
    | none => simp
    | some p => obtain ⟨o, h⟩ := p; cases o <;> simp [noX]
@[simp] theorem w_meth {a : I} {tb : List (Nat × Nat)} {as : Is} : wI cf (.meth a tb as) env X Q ↔ wI cf a env X fun r e => wo (mthOf tb r.d) fun f => wIs cf as e X fun ds e2 => wo (cf f none (r.d :: ds)) fun p => wc p.1 e2 X Q := by
  simp only [wI, wIs, eI, wr_bnd]
  apply iff_of_eq
  congr 1
  funext r e
  apply propext
  cases mthOf tb r.d with
  | none => simp
  | some f => simp
@[simp] theorem w_mk {c f : Nat} {as : Is} : wI cf (.mk c f as) env X Q ↔ wIs cf as env X fun ds e => wo (cf f (some (.ob c [])) ds) fun p => wm p e X Q := by simp only [wI, wIs, eI, wr_bnd, wr_mkC]
@[simp] theorem w_mkv {s : Nat} {tb : List (Nat × Nat)} {as : Is} : wI cf (.mkv s tb as) env X Q ↔ ∃ c, env[s]? = some (.val (.cls c)) ∧ wo (tb.lookup c) fun f => wIs cf as env X fun ds e => wo (cf f (some (.ob c [])) ds) fun p => wm p e X Q := by
  simp only [wI, wIs, eI]
  split
  · rename_i c h
    simp only [h, Option.some.injEq, Sl.val.injEq, D.cls.injEq, exists_eq_left']
    cases tb.lookup c <;> simp
  · rename_i h
    constructor
    · intro q; exact q.elim
    · rintro ⟨c, e, _⟩; exact absurd e (h c)
@[simp] theorem w_cmeth {c f : Nat} {as : Is} : wI cf (.cmeth c f as) env X Q ↔ wIs cf as env X fun ds e => wo (cf f none (.cls c :: ds)) fun p => wc p.1 e X Q := by simp only [wI, wIs, eI, wr_bnd, wr_rsC]
@[simp] theorem w_callv {s : Nat} {as : Is} : wI cf (.callv s as) env X Q ↔ ∃ f, env[s]? = some (.val (.fn f)) ∧ wIs cf as env noX fun ds e => wo (cf f none ds) fun p => wc p.1 e X Q := by
  simp only [wI, wIs, eI]
  split
  · rename_i f h
    simp only [h, Option.some.injEq, Sl.val.injEq, D.fn.injEq, exists_eq_left']
    cases eIs cf as env with
    | none => simp
    | some p => obtain ⟨o, e⟩ := p; cases o <;> simp [noX]
  · rename_i h
    constructor
    · intro q; exact q.elim
    · rintro ⟨f, e, _⟩; exact absurd e (h f)
end
@[simp] theorem w_nil {Q : List D → Ev → Prop} : wIs cf .nil env X Q ↔ Q [] env := by simp only [wIs, eIs, wr_ok]
@[simp] theorem w_cons {a : I} {as : Is} {Q : List D → Ev → Prop} : wIs cf (.cons a as) env X Q ↔ wI cf a env X fun r e => wIs cf as e X fun ds e2 => Q (r.d :: ds) e2 := by simp only [wI, wIs, eIs, wr_bnd, wr_ok]
@[simp] theorem w_star {a : I} {as : Is} {Q : List D → Ev → Prop} : wIs cf (.star a as) env X Q ↔ wI cf a env X fun r e => wo (unpOf r.d) fun xs => wIs cf as e X fun ds e2 => Q (xs ++ ds) e2 := by
  simp only [wI, wIs, eIs, wr_bnd]
  apply iff_of_eq
  congr 1
  funext r e
  apply propext
  cases r.d <;> simp [unpOf]
@[simp] theorem w_rnil {Q : List R → Ev → Prop} : wRs cf .nil env X Q ↔ Q [] env := by simp only [wRs, eRs, wr_ok]
@[simp] theorem w_rcons {a : I} {as : Is} {Q : List R → Ev → Prop} : wRs cf (.cons a as) env X Q ↔ wI cf a env X fun r e => wRs cf as e X fun ds e2 => Q (r :: ds) e2 := by simp only [wI, wRs, eRs, wr_bnd, wr_ok]
@[simp] theorem w_o0 {Q : Option Int → Ev → Prop} : wO cf .none env X Q ↔ Q none env := by simp only [wO, eO, wr_ok]
@[simp] theorem w_o1 {a : I} {Q : Option Int → Ev → Prop} : wO cf (.some a) env X Q ↔ wI cf a env X fun r e => ∃ i, r = .val (.int i) ∧ Q (some i) e := by
  simp only [wI, wO, eO, wr_bnd]
  apply iff_of_eq
  congr 1
  funext r e
  apply propext
  cases r with
  | new xs => simp
  | val d => cases d <;> simp
section
variable {Q : Bool → Ev → Prop}
@[simp] theorem w_yes : wT cf .yes env X Q ↔ Q true env := by simp only [wT, eT, wr_ok]
@[simp] theorem w_tval {a : I} : wT cf (.val a) env X Q ↔ wI cf a env X fun r e => wo (truth r.d) fun b => Q b e := by simp only [wI, wT, eT, wr_bnd, wr_okR]
@[simp] theorem w_tnot {t : T} : wT cf (.not t) env X Q ↔ wT cf t env X fun b e => Q (!b) e := by simp only [wT, eT, wr_bnd, wr_ok]
@[simp] theorem w_tand {a b : T} : wT cf (.and a b) env X Q ↔ wT cf a env X fun t e => if t = true then wT cf b e X Q else Q false e := by
  simp only [wT, eT, wr_bnd]
  apply iff_of_eq
  congr 1
  funext t e
  cases t <;> rfl
@[simp] theorem w_tor {a b : T} : wT cf (.or a b) env X Q ↔ wT cf a env X fun t e => if t = true then Q true e else wT cf b e X Q := by
  simp only [wT, eT, wr_bnd]
  apply iff_of_eq
  congr 1
  funext t e
  cases t <;> rfl
@[simp] theorem w_tife {c a b : T} : wT cf (.ife c a b) env X Q ↔ wT cf c env X fun t e => if t = true then wT cf a e X Q else wT cf b e X Q := by
  simp only [wT, eT, wr_bnd]
  apply iff_of_eq
  congr 1
  funext t e
  cases t <;> rfl
end
section
variable {Q : List D → Ev → Prop}
@[simp] theorem w_seq {a : I} : wIt cf (.seq a) env X Q ↔ wI cf a env X fun r e => wo (seqOf r.d) fun ds => Q ds e := by simp only [wI, wIt, eIt, wr_bnd, wr_okR]
@[simp] theorem w_rng1 {a : I} : wIt cf (.rng1 a) env X Q ↔ wI cf a env X fun r e => ∃ i, r = .val (.int i) ∧ inW i = true ∧ Q (rng 0 i) e := by
  simp only [wI, wIt, eIt, wr_bnd]
  apply iff_of_eq
  congr 1
  funext r e
  apply propext
  cases r with
  | new xs => simp
  | val d => cases d <;> simp
@[simp] theorem w_rng2 {a b : I} : wIt cf (.rng2 a b) env X Q ↔ wI cf a env X fun r e => ∃ i, r = .val (.int i) ∧ wI cf b e X fun z e2 => ∃ j, z = .val (.int j) ∧ inW i = true ∧ inW j = true ∧ Q (rng i j) e2 := by
  simp only [wI, wIt, eIt, wr_bnd]
  apply iff_of_eq
  congr 1
  funext r e
  apply propext
  cases r with
  | new xs => simp
  | val d => cases d with
    | int i =>
      simp only [R.val.injEq, D.int.injEq, exists_eq_left', wr_bnd]
      apply iff_of_eq
      congr 1
      funext z e2
      apply propext
      cases z with
      | new xs => simp
      | val d => cases d <;> simp [and_assoc]
    | _ => simp
end
section
variable {Q : Fl → Ev → Prop}
@[simp] theorem w_ret {a : I} : wS cf (.ret a) env X Q ↔ wI cf a env X fun r e => Q (.rt r) e := by simp only [wS, wI, eS, wr_bnd, wr_ok]
@[simp] theorem w_set {s : Nat} {a : I} : wS cf (.set s a) env X Q ↔ wI cf a env X fun r e => free e s = true ∧ Q .nx (e.set s (asSl r)) := by simp only [wS, wI, eS, wr_bnd, wr_ite, wr_ok]
@[simp] theorem w_par {ss : List Nat} {as : Is} : wS cf (.par ss as) env X Q ↔ wRs cf as env X fun rs e => ss.Nodup ∧ wo (setRs ss rs e) fun e2 => Q .nx e2 := by
  simp only [wS, wRs, eS, wr_bnd, wr_ite, wr_okR, wo_map]
  apply iff_of_eq
  congr 1
  funext rs e
  congr 1
  cases setRs ss rs e <;> simp
@[simp] theorem w_upk {ps : List Pl} {a : I} : wS cf (.upk ps a) env X Q ↔ wI cf a env X fun r e => wo (unpOf r.d) fun ds => ds.length = ps.length ∧ wPls cf ps ds e X fun e2 => Q .nx e2 := by
  simp only [wS, wI, wPls, eS, wr_bnd]
  apply iff_of_eq
  congr 1
  funext r e
  apply propext
  cases unpOf r.d <;> simp
@[simp] theorem w_expr {a : I} : wS cf (.expr a) env X Q ↔ wI cf a env X fun _ e => Q .nx e := by simp only [wS, wI, eS, wr_bnd, wr_ok]
@[simp] theorem w_put1 {s : Nat} {ix a : I} : wS cf (.put1 s ix a) env X Q ↔ wI cf a env X fun r e => wPl cf (.sub s ix) r e X fun e2 => Q .nx e2 := by simp only [wS, wI, wPl, eS, wr_bnd, wr_ok]
@[simp] theorem w_setf {s f : Nat} {cs : List Nat} {a : I} : wS cf (.setf s f cs a) env X Q ↔ wI cf a env X fun r e => wPl cf (.fl s f cs) r e X fun e2 => Q .nx e2 := by simp only [wS, wI, wPl, eS, wr_bnd, wr_ok]
@[simp] theorem w_app1 {s : Nat} {a : I} : wS cf (.app1 s a) env X Q ↔ ((held env s).bind lsOf).isSome = true ∧ wI cf a env X fun r e => wo ((held e s).bind lsOf) fun xs => xs.length < big ∧ Q .nx (hold e s (.ls (xs ++ [r.h]))) := by
  simp only [wS, wI, eS, wr_ite, wr_bnd]
  refine and_congr_right fun _ => ?_
  apply iff_of_eq
  congr 1
  funext r e
  apply propext
  cases (held e s).bind lsOf <;> simp
@[simp] theorem w_ifs {c : T} {a b : Ss} : wS cf (.ifs c a b) env X Q ↔ wT cf c env X fun t e => if t = true then wSs cf a e X Q else wSs cf b e X Q := by
  simp only [wS, wSs, wT, eS, wr_bnd]
  apply iff_of_eq
  congr 1
  funext t e
  cases t <;> rfl
@[simp] theorem w_for {tg : Tg} {it : It} {b : Ss} : wS cf (.for_ tg it b) env X Q ↔ wIt cf it env X fun ds e => wr (forD (fun e => eSs cf b e) tg ds e) X Q := by simp only [wS, wIt, eS, wr_bnd]
@[simp] theorem w_pass : wS cf .pass env X Q ↔ Q .nx env := by simp only [wS, eS, wr_ok]
@[simp] theorem w_brk : wS cf .brk env X Q ↔ Q .bk env := by simp only [wS, eS, wr_ok]
@[simp] theorem w_cont : wS cf .cont env X Q ↔ Q .ct env := by simp only [wS, eS, wr_ok]
@[simp] theorem w_rs {c : Nat} {f : Option Nat} {a : I} : wS cf (.rs c f a) env X Q ↔ wI cf a env X fun r e => X ⟨c, match f with | some i => [(i, r.d)] | none => []⟩ e := by
  (simp only [wS, wI, eS, wr_bnd, wr_err]) <;> (cases f <;> rfl)
@[simp] theorem w_try {b : Ss} {hs : Hs} : wS cf (.try_ b hs) env X Q ↔ wSs cf b env (fun x e => wHs cf x hs e X Q) Q := by
  simp only [wS, wSs, wHs, eS]
  cases eSs cf b env with
  | none => simp
  | some p => obtain ⟨o, e⟩ := p; cases o <;> simp
@[simp] theorem w_snil : wSs cf .nil env X Q ↔ Q .nx env := by simp only [wSs, eSs, wr_ok]
def thenS (cf : CF) (as : Ss) (X : Xc → Ev → Prop) (Q : Fl → Ev → Prop) : Fl → Ev → Prop
  | .nx, e => wSs cf as e X Q
  | f, e => Q f e
@[simp] theorem w_scons {a : S} {as : Ss} : wSs cf (.cons a as) env X Q ↔ wS cf a env X (thenS cf as X Q) := by
  simp only [wS, wSs, eSs, wr_bnd]
  apply iff_of_eq
  congr 1
  funext f e
  cases f <;> rfl
@[simp] theorem then_nx {as : Ss} {e : Ev} : thenS cf as X Q .nx e ↔ wSs cf as e X Q := Iff.rfl
@[simp] theorem then_rt {as : Ss} {e : Ev} {r : R} : thenS cf as X Q (.rt r) e ↔ Q (.rt r) e := Iff.rfl
@[simp] theorem then_bk {as : Ss} {e : Ev} : thenS cf as X Q .bk e ↔ Q .bk e := Iff.rfl
@[simp] theorem then_ct {as : Ss} {e : Ev} : thenS cf as X Q .ct e ↔ Q .ct e := Iff.rfl
@[simp] theorem w_hnil {x : Xc} : wHs cf x .nil env X Q ↔ X x env := by simp only [wHs, eHs, wr_err]
theorem wr_endX {m : Res Fl} : wr (endX m) X Q ↔ wr m noX fun fl e => noExc e = true ∧ Q fl e := by
  cases m with
  | none => simp [endX]
  | some p =>
    obtain ⟨o, e⟩ := p
    cases o with
    | error x => simp [endX, noX]
    | ok fl => by_cases h : noExc e = true <;> simp [endX, h]
@[simp] theorem w_hbare {x : Xc} {ks cs : List Nat} {b : Ss} {hs : Hs} : wHs cf x (.cons ks cs none b hs) env X Q ↔ ks.contains x.c = true ∧ if cs.contains x.c = true then noExc env = true ∧ wSs cf b env noX fun fl e => noExc e = true ∧ Q fl e else wHs cf x hs env X Q := by
  simp only [wHs, wSs, eHs, wr_ite]
  refine and_congr_right fun _ => ?_
  by_cases h : cs.contains x.c = true
  · simp only [h, if_true, wr_ite, wr_endX]
  · simp only [h]; rfl
end
section
variable {Q : Ev → Prop}
@[simp] theorem w_pnm {s : Nat} {r : R} : wPl cf (.nm s) r env X Q ↔ free env s = true ∧ Q (env.set s (asSl r)) := by simp only [wPl, setP, wr_ite, wr_ok]
@[simp] theorem w_psub {s : Nat} {ix : I} {r : R} : wPl cf (.sub s ix) r env X Q ↔ (held env s).isSome = true ∧ wI cf ix env X fun z e => ∃ y, z = .val y ∧ wo ((held e s).bind fun h => putAtH h y r.h) fun h2 => Q (hold e s h2) := by
  simp only [wPl, wI, setP, wr_ite, wr_bnd]
  refine and_congr_right fun _ => ?_
  apply iff_of_eq
  congr 1
  funext z e
  apply propext
  cases z with
  | new xs => simp
  | val d =>
    simp only [R.val.injEq, exists_eq_left']
    cases (held e s).bind fun h => putAtH h d r.h <;> simp
@[simp] theorem putAt_ls {xs : List Ho} {i : Int} {x : Ho} : putAtH (.ls xs) (.int i) x = (L2.ixN xs.length i).map fun j => .ls (xs.set j x) := rfl
@[simp] theorem w_pfl {s f : Nat} {cs : List Nat} {r : R} : wPl cf (.fl s f cs) r env X Q ↔ wo ((held env s).bind obOf) fun p => (cs.contains p.1 && decide (p.2.length < 100)) = true ∧ Q (hold env s (.ob p.1 (putN p.2 f r.h))) := by
  simp only [wPl, setP]
  cases (held env s).bind obOf with
  | none => simp
  | some p => obtain ⟨c, fs⟩ := p; simp
@[simp] theorem w_ps0 : wPls cf [] [] env X Q ↔ Q env := by simp only [wPls, setPs, wr_ok]
@[simp] theorem w_psc {p : Pl} {ps : List Pl} {d : D} {ds : List D} : wPls cf (p :: ps) (d :: ds) env X Q ↔ wPl cf p (.val d) env X fun e => wPls cf ps ds e X Q := by simp only [wPls, wPl, setPs, wr_bnd]
end
end
/-! ### loops by an invariant -/
theorem for_inv {body : Ev → Res Fl} {tg : Tg} {X : Xc → Ev → Prop} {Q : Fl → Ev → Prop} (P : List D → Ev → Prop)
    (hs : ∀ d ds e, P (d :: ds) e → wo (bindT tg d e) fun e0 => wr (body e0) X fun fl e1 => match fl with | .nx => P ds e1 | .ct => P ds e1 | .bk => Q .nx e1 | .rt r => Q (.rt r) e1) (hd : ∀ e, P [] e → Q .nx e) : ∀ ds e, P ds e → wr (forD body tg ds e) X Q
  | [], e, h => hd e h
  | d :: ds, e, h => by
    obtain ⟨e0, h1, h2⟩ := hs d ds e h
    simp only [forD, h1, wr_bnd]
    refine wr_mono h2 (fun fl e1 q => ?_) fun _ _ q => q
    cases fl with
    | nx => exact for_inv P hs hd ds e1 q
    | ct => exact for_inv P hs hd ds e1 q
    | bk => exact q
    | rt r => exact q
theorem lc_inv {f : D → Ev → Res (Option Ho)} {X : Xc → Ev → Prop} {Q : List Ho → Ev → Prop} (P : List D → List Ho → Ev → Prop)
    (hs : ∀ d ds acc e, P (d :: ds) acc e → wr (f d e) X fun o e1 => match o with | some x => acc.length < big ∧ P ds (acc ++ [x]) e1 | none => P ds acc e1) (hd : ∀ acc e, P [] acc e → Q acc e) : ∀ ds acc e, P ds acc e → wr (lcD f ds acc e) X Q
  | [], acc, e, h => hd acc e h
  | d :: ds, acc, e, h => by
    simp only [lcD, wr_bnd]
    refine wr_mono (hs d ds acc e h) (fun o e1 q => ?_) fun _ _ q => q
    cases o with
    | none => exact lc_inv P hs hd ds acc e1 q
    | some x =>
      obtain ⟨q1, q2⟩ := q
      simp only [if_pos q1]
      exact lc_inv P hs hd ds _ e1 q2
theorem w_lcT {cf : CF} {tg : Tg} {c : T} {e : I} {d : D} {en : Ev} {X : Xc → Ev → Prop} {Q : Option Ho → Ev → Prop} : wr (lcT cf tg c e d en) X Q ↔ wo (bindT tg d (clr en tg.slots)) fun e1 => wT cf c e1 X fun t e2 => if t = true then wI cf e e2 X fun r e3 => Q (some r.h) e3 else Q none e2 := by
  unfold lcT
  cases bindT tg d (clr en tg.slots) with
  | none => simp
  | some e1 =>
    simp only [wo_some, wr_bnd, wT, wI]
    apply iff_of_eq
    congr 1
    funext t e2
    cases t <;> simp
/-- a def's call -/
def endF (io : Bool) (Q : Except Xc R × Option Ho → Prop) : Fl → Ev → Prop
  | .rt r, e => wo (outOf io e) fun o => Q (.ok r, o)
  | .nx, e => wo (outOf io e) fun o => Q (.ok (.val .non), o)
  | _, _ => False
@[simp] theorem endF_rt {io : Bool} {Q : Except Xc R × Option Ho → Prop} {r : R} {e : Ev} : endF io Q (.rt r) e ↔ wo (outOf io e) fun o => Q (.ok r, o) := Iff.rfl
@[simp] theorem endF_nx {io : Bool} {Q : Except Xc R × Option Ho → Prop} {e : Ev} : endF io Q .nx e ↔ wo (outOf io e) fun o => Q (.ok (.val .non), o) := Iff.rfl
/-- a def with its keyword-only parameter given -/
theorem w_fnk {fns : List (Nat × Fn)} {k f : Nat} {fn : Fn} {x : PySem.Str} {ds : List D} {Q : Except Xc R → Prop} (hf : fns.lookup f = some fn) (hk : fn.kd = .gv x) (hc : fn.io = false ∧ fn.va = true ∧ 2 ≤ fn.np ∧ fn.np ≤ ds.length + 1 ∧ ds.length ≤ big ∧ fn.np ≤ fn.ns)
    (hw : wSs (callF fns k) fn.body (start0 fn none (ds.take (fn.np - 1) ++ [.tup (ds.drop (fn.np - 1))])) (fun x e => wo (outOf fn.io e) fun _ => Q (.error x)) (endF fn.io fun p => Q p.1)) : wo ((callF fns (k + 1)).k f ds) Q := by
  simp only [callF, hf, hk, if_pos hc]
  rw [wo_map]
  unfold bodyF
  unfold wSs at hw
  cases he : eSs (callF fns k) fn.body (start0 fn none (ds.take (fn.np - 1) ++ [.tup (ds.drop (fn.np - 1))])) with
  | none => rw [he] at hw; exact hw.elim
  | some p =>
    obtain ⟨o, e⟩ := p
    rw [he] at hw
    cases o with
    | error x => rw [wr_err] at hw; simp only; rw [wo_map]; exact hw
    | ok fl =>
      rw [wr_ok] at hw
      cases fl with
      | rt r => simp only; rw [wo_map]; exact hw
      | nx => simp only; rw [wo_map]; exact hw
      | bk => exact hw.elim
      | ct => exact hw.elim
/-- the callee's end -/
theorem w_fn {fns : List (Nat × Fn)} {k f : Nat} {fn : Fn} {io : Option Ho} {ds es : List D} {Q : Except Xc R × Option Ho → Prop} (hf : fns.lookup f = some fn) (h : fn.io = io.isSome ∧ fn.np ≤ fn.ns) (hb : bindC fn ds = some es)
    (hw : wSs (callF fns k) fn.body (start0 fn io es) (fun x e => wo (outOf fn.io e) fun o => Q (.error x, o)) (endF fn.io Q)) : wo (callF fns (k + 1) f io ds) Q := by
  simp only [callF, hf, if_pos h, hb, bodyF]
  unfold wSs at hw
  cases he : eSs (callF fns k) fn.body (start0 fn io es) with
  | none => rw [he] at hw; exact hw.elim
  | some p =>
    obtain ⟨o, e⟩ := p
    rw [he] at hw
    cases o with
    | error x => rw [wr_err] at hw; rw [wo_map]; exact hw
    | ok fl =>
      rw [wr_ok] at hw
      cases fl with
      | rt r => rw [wo_map]; exact hw
      | nx => rw [wo_map]; exact hw
      | bk => exact hw.elim
      | ct => exact hw.elim
/-! ### lambdas, isinstance of an error -/
@[simp] theorem w_no {cf : CF} {env : Ev} {X : Xc → Ev → Prop} {Q : Fl → Ev → Prop} : wS cf .no env X Q ↔ False := by simp [wS, eS]
@[simp] theorem w_enum {cf : CF} {env : Ev} {X : Xc → Ev → Prop} {Q : List D → Ev → Prop} {a : I} : wIt cf (.enum a) env X Q ↔ wI cf a env X fun r e => wo (enOf r.d) fun ds => Q (enD ds) e := by
  simp only [wIt, wI, eIt, wr_bnd]
  apply iff_of_eq
  congr 1
  funext r e
  apply propext
  cases enOf r.d <;> simp
@[simp] theorem enOf_l {ds : List D} : enOf (.lst ds) = some ds := rfl
@[simp] theorem enOf_t {ds : List D} : enOf (.tup ds) = some ds := rfl
def wEx (o : Option Sl) (P : Xc → Prop) : Prop := match o with
  | some (.exc x) => P x
  | _ => False
@[simp] theorem wEx_x {x : Xc} {P : Xc → Prop} : wEx (some (.exc x)) P ↔ P x := Iff.rfl
section
variable {cf : CF} {env : Ev} {X : Xc → Ev → Prop} {Q : R → Ev → Prop}
@[simp] theorem w_lam0 {s : Nat} : wI cf (.lam0 s) env X Q ↔ wEx env[s]? fun x => wo (decX x) fun z => wc z env X Q := by
  show wr (eI cf (.lam0 s) env) X Q ↔ _
  rw [eI_lam0]
  simp only
  cases h : env[s]? with
  | none => exact Iff.rfl
  | some z =>
    cases z with
    | exc x =>
      simp only [wEx_x]
      cases hd : decX x with
      | none => simp
      | some y => simp only [wo_some]; cases y <;> exact Iff.rfl
    | _ => exact Iff.rfl
@[simp] theorem w_xfld {s c f : Nat} : wI cf (.xfld s c f) env X Q ↔ wEx env[s]? fun x => (x.c < 1000000 ∧ x.c = c) ∧ wo (x.fs.lookup f) fun d => Q (.val d) env := by
  show wr (eI cf (.xfld s c f) env) X Q ↔ _
  rw [eI_xfld]
  simp only
  cases h : env[s]? with
  | none => exact Iff.rfl
  | some z =>
    cases z with
    | exc x =>
      simp only [wEx_x]
      rw [wr_ite]
      cases hd : x.fs.lookup f with
      | none => simp
      | some y => simp only [wo_some]; exact Iff.rfl
    | _ => exact Iff.rfl
@[simp] theorem w_xisi {s : Nat} {ks cs : List Nat} : wI cf (.xisi s ks cs) env X Q ↔ wEx env[s]? fun x => (ks.contains x.c && x.fs.isEmpty) = true ∧ Q (.val (.bl (cs.contains x.c))) env := by
  show wr (eI cf (.xisi s ks cs) env) X Q ↔ _
  rw [eI_xisi]
  simp only
  cases h : env[s]? with
  | none => exact Iff.rfl
  | some z =>
    cases z with
    | exc x =>
      simp only [wEx_x]
      rw [wr_ite]
      exact Iff.rfl
    | _ => exact Iff.rfl
@[simp] theorem w_lamc {g : Nat} {vs : List Nat} {e : I} : wI cf (.lamc g vs e) env X Q ↔ wo (frzS vs env) fun e1 =>
    wI cf e (onlyV e1) (fun x _ => wo (cf.l g (encX (.error x))) fun z => wc z e1 X Q) (fun r _ => wo (cf.l g (encX (.ok r))) fun z => wc z e1 X Q) := by
  show wr (eI cf (.lamc g vs e) env) X Q ↔ _
  rw [eI_lamc]
  simp only
  cases h : frzS vs env with
  | none => simp
  | some e1 =>
    simp only [wo_some]
    show _ ↔ wr (eI cf e (onlyV e1)) _ _
    cases h2 : eI cf e (onlyV e1) with
    | none => simp
    | some oe =>
      obtain ⟨o, e2⟩ := oe
      cases o with
      | ok r =>
        simp only [wr_ok]
        cases h3 : cf.l g (encX (.ok r)) with
        | none => simp
        | some z => simp only [wo_some]; cases z <;> exact Iff.rfl
      | error y =>
        simp only [wr_err]
        cases h3 : cf.l g (encX (.error y)) with
        | none => simp
        | some z => simp only [wo_some]; cases z <;> exact Iff.rfl
end
@[simp] theorem w_nil1 {cf : CF} {env : Ev} {X : Xc → Ev → Prop} {Q : R → Ev → Prop} {s : Nat} {o : Op} : wI cf (.nil1 s o) env X Q ↔ wo (look1 env s) fun d => wo (opD o [d, .lst []]) fun r => Q r env := by
  show wr (eI cf (.nil1 s o) env) X Q ↔ _
  rw [eI_nil1]
  simp only
  cases look1 env s with
  | none => simp
  | some d => simp only [wo_some, wr_okR]
/-- a def's body on a lambda -/
theorem w_fnl {fns : List (Nat × Fn)} {k g : Nat} {fn : Fn} {x : Xc} {Q : Except Xc R → Prop} (hf : fns.lookup g = some fn) (h : fn.io = false ∧ fn.va = false ∧ fn.np = 1 ∧ 1 ≤ fn.ns)
    (hw : wSs (callF fns k) fn.body (Sl.exc x :: List.replicate (fn.ns - 1) .un) (fun y _ => Q (.error y)) (fun fl _ => match fl with | .rt r => Q (.ok r) | .nx => Q (.ok (.val .non)) | _ => False)) : wo ((callF fns (k + 1)).l g x) Q := by
  simp only [callF, hf, if_pos h, bodyL]
  have hw : wr (eSs (callF fns k) fn.body (Sl.exc x :: List.replicate (fn.ns - 1) .un)) _ _ := hw
  cases he : eSs (callF fns k) fn.body (Sl.exc x :: List.replicate (fn.ns - 1) .un) with
  | none => rw [he] at hw; exact hw.elim
  | some oe =>
    obtain ⟨o, e⟩ := oe
    rw [he] at hw
    cases o with
    | error y => exact ⟨_, rfl, hw⟩
    | ok fl =>
      cases fl with
      | rt r => exact ⟨_, rfl, hw⟩
      | nx => exact ⟨_, rfl, hw⟩
      | bk => exact hw.elim
      | ct => exact hw.elim
@[simp] theorem encX_o {r : R} : encX (.ok r) = ⟨2000000, [(0, r.d)]⟩ := rfl
@[simp] theorem decX_o {d : D} : decX ⟨2000000, [(0, d)]⟩ = some (.ok (.val d)) := by simp [decX]
theorem encX_e {c : Nat} {fs : List (Nat × D)} (h : c < 1000000) : encX (.error ⟨c, fs⟩) = ⟨1000000 + c, fs⟩ := by simp [encX, h]
theorem decX_e {c : Nat} {fs : List (Nat × D)} (h : c < 1000000) : decX ⟨1000000 + c, fs⟩ = some (.error ⟨c, fs⟩) := by
  have n1 : ¬ 1000000 + c < 1000000 := by omega
  have n2 : ¬ 1000000 + c = 2000000 := by omega
  have n3 : 1000000 + c < 2000000 := by omega
  simp [decX, n1, n2, n3]
@[simp] theorem frzS_0 {env : Ev} : frzS [] env = some env := rfl
@[simp] theorem frzS_c {i : Nat} {is : List Nat} {env : Ev} : frzS (i :: is) env = (rdV env i).bind fun p => frzS is p.2 := by
  simp only [frzS]
  cases rdV env i with
  | none => rfl
  | some p => rfl
@[simp] theorem onlyV_0 : onlyV [] = [] := rfl
@[simp] theorem onlyV_c {z : Sl} {zs : Ev} : onlyV (z :: zs) = (match z with | .val d => .val d | _ => .un) :: onlyV zs := rfl
end DI

namespace DI
open PySem
section
variable {env old : Ev} {i s : Nat} {xs ys : List D} {a b c : Int} {cs ds : List Nat} {d e : D} {p q : Bool} {h : Ho} {hs : List Ho} {ss : List Nat} {fs : List (Nat × Ho)}
@[simp] theorem x_rdV : rdV env i = (match env[i]? with | some (.val d) => some (d, env) | some (.own h) => some (toD h, env.set i (.val (toD h))) | _ => none) := rfl
@[simp] theorem x_held : held env i = (match env[i]? with | some (.own h) => some h | some (.io h) => some h | _ => none) := rfl
@[simp] theorem x_hold : hold env i h = (match env[i]? with | some (.io _) => env.set i (.io h) | _ => env.set i (.own h)) := rfl
@[simp] theorem x_look1 : look1 env i = (match env[i]? with | some (.val d) => some d | some (.own h) => some (toD h) | some (.io h) => some (toD h) | _ => none) := rfl
@[simp] theorem x_bound1 : bound1 env i = (look1 env i).isSome := rfl
def freeS : Option Sl → Bool
  | some (.io _) => false
  | some _ => true
  | none => false
@[simp] theorem x_free : free env i = freeS env[i]? := rfl
@[simp] theorem x_fr1 : freeS (some .un) = true := rfl
@[simp] theorem x_fr2 : freeS (some (.val d)) = true := rfl
@[simp] theorem x_fr3 : freeS (some (.own h)) = true := rfl
@[simp] theorem x_asV : asSl (.val d) = .val d := rfl
@[simp] theorem x_asN : asSl (.new h) = .own h := rfl
@[simp] theorem x_dV : (R.val d).d = d := rfl
@[simp] theorem x_dN : (R.new h).d = toD h := rfl
@[simp] theorem x_hV : (R.val d).h = .fz d := rfl
@[simp] theorem x_hN : (R.new h).h = h := rfl
@[simp] theorem x_asRf : asR (.fz d) = .val d := rfl
@[simp] theorem x_asRl : asR (.ls hs) = .new (.ls hs) := rfl
@[simp] theorem x_lsOf : lsOf (.ls hs) = some hs := rfl
@[simp] theorem x_obOf {c : Nat} : obOf (.ob c fs) = some (c, fs) := rfl
@[simp] theorem x_toDf : toD (.fz d) = d := rfl
@[simp] theorem x_toDl : toD (.ls hs) = .lst (toDs hs) := rfl
@[simp] theorem x_toDo {c : Nat} : toD (.ob c fs) = .obj c (toDf fs) := rfl
@[simp] theorem x_toDs0 : toDs [] = [] := rfl
@[simp] theorem x_toDsc : toDs (h :: hs) = toD h :: toDs hs := rfl
@[simp] theorem x_toDfs0 : toDf [] = [] := rfl
@[simp] theorem x_toDfc : toDf ((i, h) :: fs) = (i, toD h) :: toDf fs := rfl
@[simp] theorem x_toDsm : toDs (xs.map .fz) = xs := toDs_fz xs
@[simp] theorem x_fzs : fzs xs = .ls (xs.map .fz) := rfl
@[simp] theorem x_set0 : setRs [] [] env = some env := rfl
@[simp] theorem x_setc {s : Nat} {ss : List Nat} {r : R} {rs : List R} : setRs (s :: ss) (r :: rs) env = if free env s = true then setRs ss rs (env.set s (asSl r)) else none := rfl
@[simp] theorem x_ioT : ioN true = 1 := rfl
@[simp] theorem x_ioF : ioN false = 0 := rfl
@[simp] theorem x_outF : outOf false env = some none := rfl
@[simp] theorem x_outT : outOf true env = (match (env[0]? : Option Sl) with | some (.io h) => some (some h) | _ => none) := rfl
@[simp] theorem x_slots : (Tg.nm s).slots = [s] := by simp [Tg.slots]
@[simp] theorem x_slotst {ts : List Tg} : (Tg.tp ts).slots = Tg.slotss ts := by simp [Tg.slots]
@[simp] theorem x_slots0 : Tg.slotss [] = [] := by simp [Tg.slotss]
@[simp] theorem x_slotsc {t : Tg} {ts : List Tg} : Tg.slotss (t :: ts) = t.slots ++ Tg.slotss ts := by simp [Tg.slotss]
def looseS : Option Sl → Bool
  | some .un => true
  | some (.val _) => true
  | _ => false
@[simp] theorem x_loose1 : loose1 env s = looseS env[s]? := by unfold loose1 looseS; rfl
@[simp] theorem x_lo1 : looseS (some .un) = true := rfl
@[simp] theorem x_lo2 : looseS (some (.val d)) = true := rfl
@[simp] theorem x_pb0 : putBack env old [] = env := rfl
@[simp] theorem x_pbc : putBack env old (s :: ss) = (putBack env old ss).set s (old.getD s .un) := rfl
@[simp] theorem x_clr0 : clr env [] = env := rfl
@[simp] theorem x_clrc : clr env (s :: ss) = (clr env ss).set s .un := rfl
@[simp] theorem x_bT : bindT (.nm s) d env = if free env s = true then some (env.set s (.val d)) else none := by simp [bindT]
@[simp] theorem x_bTt {ts : List Tg} : bindT (.tp ts) (.tup xs) env = bindTs ts xs env := by simp [bindT]
@[simp] theorem x_bT0 : bindTs [] [] env = some env := by simp [bindTs]
@[simp] theorem x_bTc {t : Tg} {ts : List Tg} : bindTs (t :: ts) (d :: xs) env = (bindT t d env).bind fun e1 => bindTs ts xs e1 := by
  simp only [bindTs]
  cases bindT t d env <;> rfl
@[simp] theorem x_nox0 : noExc [] = true := rfl
@[simp] theorem x_noxc {z : Sl} {zs : Ev} : noExc (z :: zs) = ((match z with | .exc x => decide (1000000 ≤ x.c) | _ => true) && noExc zs) := rfl
@[simp] theorem x_ul : unpOf (.lst xs) = some xs := rfl
@[simp] theorem x_ut : unpOf (.tup xs) = some xs := rfl
@[simp] theorem x_mo {tb : List (Nat × Nat)} {c : Nat} {fs : List (Nat × D)} : mthOf tb (.obj c fs) = tb.lookup c := rfl
@[simp] theorem x_fo {f c : Nat} {l : List Nat} {fs : List (Nat × D)} : fldOf f l (.obj c fs) = if l.contains c then fs.lookup f else none := rfl
@[simp] theorem x_wFlv {f : Nat} {l : List Nat} {Q : D → Prop} : wFl (some (.val d)) f l Q ↔ wo (fldOf f l d) Q := Iff.rfl
@[simp] theorem x_wFlo {f : Nat} {l : List Nat} {Q : D → Prop} : wFl (some (.own h)) f l Q ↔ wo (fldH f l h) Q := Iff.rfl
@[simp] theorem x_wFli {f : Nat} {l : List Nat} {Q : D → Prop} : wFl (some (.io h)) f l Q ↔ wo (fldH f l h) Q := Iff.rfl
@[simp] theorem x_wIxv {Q : R → Ev → Prop} : wIx (some (.val e)) s d env Q ↔ wo (opD .item [e, d]) fun r => Q r env := Iff.rfl
@[simp] theorem x_wIxi {Q : R → Ev → Prop} : wIx (some (.io h)) s d env Q ↔ wo (itemH h d) fun y => Q (.val y) env := Iff.rfl
@[simp] theorem x_wIxo {Q : R → Ev → Prop} : wIx (some (.own (.ls (xs.map .fz)))) s (.int a) env Q ↔ wo (L2.atI xs a) fun y => Q (.val y) env := by
  have hm : L2.atI (xs.map Ho.fz) a = (L2.atI xs a).map Ho.fz := by
    unfold L2.atI
    rw [List.length_map]
    cases L2.ixN xs.length a <;> simp
  simp only [wIx, itemH, hm]
  cases hx : L2.atI xs a with
  | none => simp [opD, dItem, hx]
  | some y => simp
/-- an item of a list of any things -/
theorem x_wIxf {Q : R → Ev → Prop} {y : D} (hi : L2.atI hs a = some (.fz y)) : wIx (some (.own (.ls hs))) s (.int a) env Q ↔ Q (.val y) env := by simp [wIx, itemH, hi]
@[simp] theorem x_ih : itemH (.ls hs) (.int a) = (match L2.atI hs a with | some (.fz d) => some d | _ => none) := rfl
@[simp] theorem x_tn : truth .non = some false := rfl
@[simp] theorem x_tb : truth (.bl p) = some p := rfl
@[simp] theorem x_ti : truth (.int a) = some (a != 0) := rfl
@[simp] theorem x_tl : truth (.lst xs) = some (!xs.isEmpty) := rfl
@[simp] theorem x_tt : truth (.tup xs) = some (!xs.isEmpty) := rfl
@[simp] theorem x_ts : truth (.str cs) = if cs.length ≤ big then some ((cs.length : Int) != 0) else none := rfl
@[simp] theorem x_sl : seqOf (.lst xs) = some xs := rfl
@[simp] theorem x_st : seqOf (.tup xs) = some xs := rfl
@[simp] theorem x_ss : seqOf (.scr xs) = some xs := rfl
@[simp] theorem x_sc : seqOf (.str cs) = some (cs.map fun c => .str [c]) := rfl
@[simp] theorem o_add : opD .add [.int a, .int b] = num (a + b) := rfl
@[simp] theorem o_adds : opD .add [.str cs, .str ds] = if cs.length + ds.length ≤ big then some (.val (.str (cs ++ ds))) else none := rfl
@[simp] theorem o_addl : opD .add [.lst xs, .lst ys] = if xs.length + ys.length ≤ big then some (.new (fzs (xs ++ ys))) else none := rfl
@[simp] theorem o_addt : opD .add [.tup xs, .tup ys] = if xs.length + ys.length ≤ big then some (.val (.tup (xs ++ ys))) else none := rfl
@[simp] theorem o_sub : opD .sub [.int a, .int b] = num (a - b) := rfl
@[simp] theorem o_mul : opD .mul [.int a, .int b] = if a.natAbs.log2 + b.natAbs.log2 < 1000000 then num (a * b) else none := rfl
@[simp] theorem o_fdiv : opD .fdiv [.int a, .int b] = if 0 < b ∧ b < 1073741824 then num (a / b) else none := rfl
@[simp] theorem o_mod : opD .mod [.int a, .int b] = if 0 < b then num (a % b) else none := rfl
@[simp] theorem o_pow : opD .pow [.int a, .int b] = if 0 ≤ b ∧ b ≤ 1000 ∧ a.natAbs < 2 ^ 1000 then num (a ^ b.toNat) else none := rfl
@[simp] theorem o_neg : opD .neg [.int a] = num (-a) := rfl
@[simp] theorem o_eqs : opD .eq [.str cs, .str ds] = bl (decide (cs = ds)) := rfl
@[simp] theorem o_nes : opD .ne [.str cs, .str ds] = bl (!decide (cs = ds)) := rfl
@[simp] theorem o_eqi : opD .eq [.int a, .int b] = bl (decide (a = b)) := rfl
@[simp] theorem o_nei : opD .ne [.int a, .int b] = bl (!decide (a = b)) := rfl
@[simp] theorem o_lt : opD .lt [.int a, .int b] = bl (decide (a < b)) := rfl
@[simp] theorem o_lts : opD .lt [.str cs, .str ds] = bl (decide (cs < ds)) := rfl
@[simp] theorem o_le : opD .le [.int a, .int b] = bl (decide (a ≤ b)) := rfl
@[simp] theorem o_les : opD .le [.str cs, .str ds] = bl (!decide (ds < cs)) := rfl
@[simp] theorem o_gt : opD .gt [.int a, .int b] = bl (decide (b < a)) := rfl
@[simp] theorem o_ge : opD .ge [.int a, .int b] = bl (decide (b ≤ a)) := rfl
@[simp] theorem o_isin {c : Nat} : opD .isin [.str [c], .str ds] = bl (decide (c ∈ ds)) := rfl
@[simp] theorem o_notin {c : Nat} : opD .notin [.str [c], .str ds] = bl (!decide (c ∈ ds)) := rfl
@[simp] theorem o_isn : opD .isn [d, .non] = bl (isNon d) := rfl
@[simp] theorem o_notn : opD .notn [d, .non] = bl (!isNon d) := rfl
@[simp] theorem o_iteml : opD .item [.lst xs, .int a] = (L2.atI xs a).map .val := rfl
@[simp] theorem o_itemr : opD .item [.scr xs, .int a] = (L2.atI xs a).map .val := rfl
@[simp] theorem o_itemt : opD .item [.tup xs, .int a] = (L2.atI xs a).map .val := rfl
@[simp] theorem o_items : opD .item [.str cs, .int a] = if cs.length ≤ big then (L2.atI cs a).map fun c => .val (.str [c]) else none := rfl
@[simp] theorem o_tup : opD .tup xs = if xs.length ≤ big then some (.val (.tup xs)) else none := rfl
@[simp] theorem o_list : opD .list xs = if xs.length ≤ big then some (.new (fzs xs)) else none := rfl
@[simp] theorem o_lens : opD .len [.str cs] = if cs.length ≤ big then num cs.length else none := rfl
@[simp] theorem o_lenl : opD .len [.lst xs] = num xs.length := rfl
@[simp] theorem o_lenr : opD .len [.scr xs] = num xs.length := rfl
@[simp] theorem o_lent : opD .len [.tup xs] = num xs.length := rfl
@[simp] theorem o_int : opD .int [.int a] = num a := rfl
@[simp] theorem o_intb : opD .int [.bl p] = num (if p then 1 else 0) := rfl
@[simp] theorem o_abs : opD .abs [.int a] = num (if a < 0 then -a else a) := rfl
@[simp] theorem o_max : opD .max [.int a, .int b] = num (if b > a then b else a) := rfl
@[simp] theorem o_min : opD .min [.int a, .int b] = num (if b < a then b else a) := rfl
@[simp] theorem o_repr : opD .repr [d] = if okShow d = true then some (.val (.str (toPy d).shown.cps.toList)) else none := rfl
@[simp] theorem o_listl : opD .listof [.lst xs] = some (.new (fzs xs)) := rfl
@[simp] theorem o_listt : opD .listof [.tup xs] = some (.new (fzs xs)) := rfl
@[simp] theorem o_lists : opD .listof [.str cs] = if cs.length ≤ big then some (.new (fzs (cs.map fun c => .str [c]))) else none := rfl
@[simp] theorem o_muls : opD .mul [.str cs, .int b] = if 2 ≤ b ∧ b ≤ 1000 ∧ 0 < cs.length ∧ cs.length * b.toNat ≤ big then some (.val (.str (List.replicate b.toNat cs).flatten)) else none := rfl
@[simp] theorem o_mull : opD .mul [.lst xs, .int b] = if 0 ≤ b ∧ b ≤ big ∧ xs.length * b.toNat ≤ big then some (.new (fzs (List.replicate b.toNat xs).flatten)) else none := rfl
@[simp] theorem o_tupl : opD .tupof [.lst xs] = some (.val (.tup xs)) := rfl
@[simp] theorem o_tupt : opD .tupof [.tup xs] = some (.val (.tup xs)) := rfl
@[simp] theorem o_cuts {l r : Option Int} : cutR l r (.str cs) = if cs.length ≤ big then some (.val (.str (cutL cs l r))) else none := rfl
@[simp] theorem o_cutl {l r : Option Int} : cutR l r (.lst xs) = some (.new (fzs (cutL xs l r))) := rfl
@[simp] theorem o_rev {cs : List Nat} : opD .rev [.str cs] = if cs.length ≤ big then some (.val (.str cs.reverse)) else none := rfl
@[simp] theorem o_revl {xs : List D} : opD .rev [.lst xs] = some (.new (fzs xs.reverse)) := rfl
@[simp] theorem o_upper {cs : List Nat} : opD .upper [.str cs] = if cs.length ≤ big then some (.val (.str (Txt.upper (sOf cs)).cps.toList)) else none := rfl
@[simp] theorem o_isb {p q : Bool} : opD .isb [.bl p, .bl q] = bl (decide (p = q)) := rfl
@[simp] theorem o_big : big = 1000000 := by decide
@[simp] theorem o_ir : (R.val d = .val e) = (d = e) := by simp
end
/-- an item at a place within -/
theorem atI_in {α : Type} {xs : List α} {i : Int} (h0 : 0 ≤ i) (h1 : i < xs.length) : L2.atI xs i = xs[i.toNat]? := by
  unfold L2.atI L2.ixN
  rw [if_pos h0, if_pos h1]
  rfl
theorem wo_atI {α : Type} {xs : List α} {i : Int} {Q : α → Prop} (h0 : 0 ≤ i) (h1 : i < xs.length) (h : ∀ x ∈ xs, Q x) : wo (L2.atI xs i) Q := by
  rw [atI_in h0 h1]
  have hl : i.toNat < xs.length := by omega
  exact ⟨xs[i.toNat], List.getElem?_eq_getElem hl, h _ (List.getElem_mem hl)⟩
theorem log2_le {n k : Nat} (h : n < 2 ^ k) (hk : 0 < k) : n.log2 < k := by
  by_cases h0 : n = 0
  · subst h0; simpa using hk
  · exact (Nat.log2_lt h0).mpr h
@[simp] theorem ixN_0 {n : Nat} : L2.ixN (n + 1) 0 = some 0 := by unfold L2.ixN; rw [if_pos (by decide), if_pos (by omega)]; rfl
@[simp] theorem ixN_1 {n : Nat} : L2.ixN (n + 2) 1 = some 1 := by unfold L2.ixN; rw [if_pos (by decide), if_pos (by omega)]; rfl
@[simp] theorem ixN_2 {n : Nat} : L2.ixN (n + 3) 2 = some 2 := by unfold L2.ixN; rw [if_pos (by decide), if_pos (by omega)]; rfl
@[simp] theorem atI_0 {α : Type} {x : α} {xs : List α} : L2.atI (x :: xs) 0 = some x := by unfold L2.atI; rw [List.length_cons, ixN_0]; rfl
@[simp] theorem atI_1 {α : Type} {x y : α} {xs : List α} : L2.atI (x :: y :: xs) 1 = some y := by unfold L2.atI; rw [List.length_cons, List.length_cons, ixN_1]; rfl
@[simp] theorem atI_2 {α : Type} {x y z : α} {xs : List α} : L2.atI (x :: y :: z :: xs) 2 = some z := by unfold L2.atI; rw [List.length_cons, List.length_cons, List.length_cons, ixN_2]; rfl
@[simp] theorem ixN_30 : L2.ixN 3 0 = some 0 := rfl
@[simp] theorem ixN_31 : L2.ixN 3 1 = some 1 := rfl
@[simp] theorem ixN_32 : L2.ixN 3 2 = some 2 := rfl
/-- the stock of draws: three ints, the last counts -/
def Stk (n : Nat) (h : Ho) : Prop := ∃ a b c : Int, h = .ls [.fz (.int a), .fz (.int b), .fz (.int c)] ∧ 0 ≤ a ∧ 0 ≤ b ∧ b < 2305843009213693951 ∧ 0 ≤ c ∧ c ≤ n
theorem Stk.mono {n m : Nat} {xs : Ho} (h : Stk n xs) (k : n ≤ m) : Stk m xs := by
  obtain ⟨a, b, c, e, h1, h2, h3, h4, h5⟩ := h
  exact ⟨a, b, c, e, h1, h2, h3, h4, by omega⟩
/-- what a draw is asked for -/
def DrawOk (cf : CF) (f : Nat) : Prop := ∀ (n : Nat) (xs : Ho) (t : Int), Stk n xs → n ≤ 1000000 → 0 < t → t < 1073741824 →
  wo (cf f (some xs) [.int t]) fun p => ∃ (r : Int) (ys : Ho), p = (.ok (.val (.int r)), some ys) ∧ 0 ≤ r ∧ r < t ∧ Stk (n + 1) ys
theorem log2_int {a : Int} {k : Nat} (h0 : 0 ≤ a) (h : a < (2 : Int) ^ k) (hk : 0 < k) : a.natAbs.log2 < k := by
  refine log2_le ?_ hk
  have e : ((a.natAbs : Nat) : Int) = a := Int.natAbs_of_nonneg h0
  have h2 : ((a.natAbs : Nat) : Int) < ((2 ^ k : Nat) : Int) := by rw [e]; simpa using h
  exact Int.ofNat_lt.mp h2
/-! ### joins -/
def joinL (sep : List Nat) : List (List Nat) → List Nat
  | [] => []
  | [x] => x
  | x :: y :: r => x ++ sep ++ joinL sep (y :: r)
theorem join_sOf (sep : List Nat) : ∀ ts : List (List Nat), Str.join (sOf sep) (ts.map sOf) = sOf (joinL sep ts)
  | [] => rfl
  | [x] => rfl
  | x :: y :: r => by
    have h := join_sOf sep (y :: r)
    simp only [List.map_cons] at h ⊢
    show sOf x ++ sOf sep ++ Str.join (sOf sep) (sOf y :: r.map sOf) = _
    rw [h, sOf_app, sOf_app]
    rfl
theorem join_list (sep : List Nat) (ts : List (List Nat)) : (Txt.join (sOf sep) (ts.map sOf)).cps.toList = joinL sep ts := by
  unfold Txt.join
  rw [StrLaws.glued_eq_join, join_sOf, sOf_list]
theorem texts_map : ∀ ts : List (List Nat), texts (ts.map D.str) = some ts
  | [] => rfl
  | x :: r => by simp [texts, texts_map r]
theorem o_join (cs : List Nat) (ts : List (List Nat)) (h : (ts.map (·.length)).sum + ts.length * cs.length ≤ big) : opD .join [.str cs, .lst (ts.map D.str)] = some (.val (.str (joinL cs ts))) := by
  simp only [opD, dJoin, texts_map, if_pos h, join_list]
theorem joinL_nil : ∀ ts : List (List Nat), joinL [] ts = ts.flatten
  | [] => rfl
  | [x] => by simp [joinL]
  | x :: y :: r => by simp [joinL, joinL_nil (y :: r)]
/-! ### equality with [] -/
theorem okEq_nil : okEq (.lst []) = true := by decide +kernel
def charsOk (cs : List Nat) : Bool := cs.all (· < 1114112)
theorem canLay_flat : ∀ d : D, (match d with | .str cs => charsOk cs | .non => true | .bl _ => true | .int _ => true | _ => false) = true → plain d = true ∧ (toPy d).canLay0 = true ∧ (toPy d).depth = 0
  | .non, _ => by simp [plain, toPy, PyData.canLay0, PyData.depth]
  | .bl b, _ => by simp [plain, toPy, PyData.canLay0, PyData.depth]
  | .int b, _ => by simp [plain, toPy, PyData.canLay0, PyData.depth]
  | .str cs, h => by
    have h' : charsOk cs = true := h
    unfold charsOk at h'
    simp [plain, toPy, PyData.canLay0, PyData.depth, PyData.strOk, sOf] at *
    exact h'
def simple : D → Bool
  | .str cs => charsOk cs
  | .non => true
  | .bl _ => true
  | .int _ => true
  | _ => false
theorem simple_ok {d : D} (h : simple d = true) : plain d = true ∧ (toPy d).canLay0 = true ∧ (toPy d).depth = 0 := canLay_flat d (by cases d <;> first | exact h | rfl)
theorem simples_ok : ∀ {xs : List D}, (∀ x ∈ xs, simple x = true) → plains xs = true ∧ PyData.canLayAll0 (toPys xs) = true ∧ PyData.depthAll (toPys xs) = 0
  | [], _ => by simp [plains, toPys, PyData.canLayAll0, PyData.depthAll]
  | x :: xs, h => by
    obtain ⟨a, b, c⟩ := simple_ok (h x (by simp))
    obtain ⟨a', b', c'⟩ := simples_ok (xs := xs) fun y hy => h y (by simp [hy])
    simp [plains, toPys, PyData.canLayAll0, PyData.depthAll, *]
theorem okEq_lst {xs : List D} (h : ∀ x ∈ xs, simple x = true) : okEq (.lst xs) = true := by
  obtain ⟨a, b, c⟩ := simples_ok h
  simp [okEq, plain, toPy, SeqAt.shaped, PyData.canLay0, PyData.depth, *]
theorem o_eq_nil {xs : List D} (h : okEq (.lst xs) = true) : opD .eq [.lst xs, .lst []] = bl xs.isEmpty := by
  show (if okEq (.lst xs) && okEq (.lst []) then _ else _) = _
  rw [h, okEq_nil]
  cases xs with
  | nil => rfl
  | cons x r => simp [toPy, toPys, PyData.eqv, PyData.eqvAll]
theorem o_ne_nil {xs : List D} (h : okEq (.lst xs) = true) : opD .ne [.lst xs, .lst []] = bl (!xs.isEmpty) := by
  show (if okEq (.lst xs) && okEq (.lst []) then _ else _) = _
  rw [h, okEq_nil]
  cases xs with
  | nil => rfl
  | cons x r => simp [toPy, toPys, PyData.eqv, PyData.eqvAll]
@[simp] theorem o_ne_nn : opD .ne [.lst [], .lst []] = bl false := o_ne_nil okEq_nil
@[simp] theorem o_eq_nn : opD .eq [.lst [], .lst []] = bl true := o_eq_nil okEq_nil
theorem okShow_bl (b : Bool) : okShow (.bl b) = true := by cases b <;> decide +kernel
/-- bools of a list -/
theorem bools_map {α : Type} (f : α → Bool) : ∀ xs : List α, bools (xs.map fun x => D.bl (f x)) = some (xs.map f)
  | [] => rfl
  | x :: r => by simp [bools, bools_map f r]
theorem o_all {α : Type} (f : α → Bool) (xs : List α) : opD .all [.lst (xs.map fun x => D.bl (f x))] = bl (xs.all f) := by
  simp only [opD, dAll, bools_map]
  congr 1
  simp [List.all_map]
section
variable {p : Bool} {a : Int} {cs : List Nat} {xs : List D} {kv : List (D × D)}
@[simp] theorem isi_int_nn : opD (.isi "int") [.non] = bl false := by
  have h : L2.kitB "NoneType" "int" = some false := by decide +kernel
  simp only [opD, dIsi, tyD, h]
@[simp] theorem isi_int_bl : opD (.isi "int") [.bl p] = bl true := by
  have h : L2.kitB "bool" "int" = some true := by decide +kernel
  simp only [opD, dIsi, tyD, h]
@[simp] theorem isi_int_in : opD (.isi "int") [.int a] = bl true := by
  have h : L2.kitB "int" "int" = some true := by decide +kernel
  simp only [opD, dIsi, tyD, h]
@[simp] theorem isi_int_st : opD (.isi "int") [.str cs] = bl false := by
  have h : L2.kitB "str" "int" = some false := by decide +kernel
  simp only [opD, dIsi, tyD, h]
@[simp] theorem isi_int_tu : opD (.isi "int") [.tup xs] = bl false := by
  have h : L2.kitB "tuple" "int" = some false := by decide +kernel
  simp only [opD, dIsi, tyD, h]
@[simp] theorem isi_int_ls : opD (.isi "int") [.lst xs] = bl false := by
  have h : L2.kitB "list" "int" = some false := by decide +kernel
  simp only [opD, dIsi, tyD, h]
@[simp] theorem isi_int_di : opD (.isi "int") [.dct kv] = bl false := by
  have h : L2.kitB "dict" "int" = some false := by decide +kernel
  simp only [opD, dIsi, tyD, h]
@[simp] theorem isi_bool_nn : opD (.isi "bool") [.non] = bl false := by
  have h : L2.kitB "NoneType" "bool" = some false := by decide +kernel
  simp only [opD, dIsi, tyD, h]
@[simp] theorem isi_bool_bl : opD (.isi "bool") [.bl p] = bl true := by
  have h : L2.kitB "bool" "bool" = some true := by decide +kernel
  simp only [opD, dIsi, tyD, h]
@[simp] theorem isi_bool_in : opD (.isi "bool") [.int a] = bl false := by
  have h : L2.kitB "int" "bool" = some false := by decide +kernel
  simp only [opD, dIsi, tyD, h]
@[simp] theorem isi_bool_st : opD (.isi "bool") [.str cs] = bl false := by
  have h : L2.kitB "str" "bool" = some false := by decide +kernel
  simp only [opD, dIsi, tyD, h]
@[simp] theorem isi_bool_tu : opD (.isi "bool") [.tup xs] = bl false := by
  have h : L2.kitB "tuple" "bool" = some false := by decide +kernel
  simp only [opD, dIsi, tyD, h]
@[simp] theorem isi_bool_ls : opD (.isi "bool") [.lst xs] = bl false := by
  have h : L2.kitB "list" "bool" = some false := by decide +kernel
  simp only [opD, dIsi, tyD, h]
@[simp] theorem isi_bool_di : opD (.isi "bool") [.dct kv] = bl false := by
  have h : L2.kitB "dict" "bool" = some false := by decide +kernel
  simp only [opD, dIsi, tyD, h]
@[simp] theorem isi_str_nn : opD (.isi "str") [.non] = bl false := by
  have h : L2.kitB "NoneType" "str" = some false := by decide +kernel
  simp only [opD, dIsi, tyD, h]
@[simp] theorem isi_str_bl : opD (.isi "str") [.bl p] = bl false := by
  have h : L2.kitB "bool" "str" = some false := by decide +kernel
  simp only [opD, dIsi, tyD, h]
@[simp] theorem isi_str_in : opD (.isi "str") [.int a] = bl false := by
  have h : L2.kitB "int" "str" = some false := by decide +kernel
  simp only [opD, dIsi, tyD, h]
@[simp] theorem isi_str_st : opD (.isi "str") [.str cs] = bl true := by
  have h : L2.kitB "str" "str" = some true := by decide +kernel
  simp only [opD, dIsi, tyD, h]
@[simp] theorem isi_str_tu : opD (.isi "str") [.tup xs] = bl false := by
  have h : L2.kitB "tuple" "str" = some false := by decide +kernel
  simp only [opD, dIsi, tyD, h]
@[simp] theorem isi_str_ls : opD (.isi "str") [.lst xs] = bl false := by
  have h : L2.kitB "list" "str" = some false := by decide +kernel
  simp only [opD, dIsi, tyD, h]
@[simp] theorem isi_str_di : opD (.isi "str") [.dct kv] = bl false := by
  have h : L2.kitB "dict" "str" = some false := by decide +kernel
  simp only [opD, dIsi, tyD, h]
@[simp] theorem isi_tuple_nn : opD (.isi "tuple") [.non] = bl false := by
  have h : L2.kitB "NoneType" "tuple" = some false := by decide +kernel
  simp only [opD, dIsi, tyD, h]
@[simp] theorem isi_tuple_bl : opD (.isi "tuple") [.bl p] = bl false := by
  have h : L2.kitB "bool" "tuple" = some false := by decide +kernel
  simp only [opD, dIsi, tyD, h]
@[simp] theorem isi_tuple_in : opD (.isi "tuple") [.int a] = bl false := by
  have h : L2.kitB "int" "tuple" = some false := by decide +kernel
  simp only [opD, dIsi, tyD, h]
@[simp] theorem isi_tuple_st : opD (.isi "tuple") [.str cs] = bl false := by
  have h : L2.kitB "str" "tuple" = some false := by decide +kernel
  simp only [opD, dIsi, tyD, h]
@[simp] theorem isi_tuple_tu : opD (.isi "tuple") [.tup xs] = bl true := by
  have h : L2.kitB "tuple" "tuple" = some true := by decide +kernel
  simp only [opD, dIsi, tyD, h]
@[simp] theorem isi_tuple_ls : opD (.isi "tuple") [.lst xs] = bl false := by
  have h : L2.kitB "list" "tuple" = some false := by decide +kernel
  simp only [opD, dIsi, tyD, h]
@[simp] theorem isi_tuple_di : opD (.isi "tuple") [.dct kv] = bl false := by
  have h : L2.kitB "dict" "tuple" = some false := by decide +kernel
  simp only [opD, dIsi, tyD, h]
@[simp] theorem isi_list_nn : opD (.isi "list") [.non] = bl false := by
  have h : L2.kitB "NoneType" "list" = some false := by decide +kernel
  simp only [opD, dIsi, tyD, h]
@[simp] theorem isi_list_bl : opD (.isi "list") [.bl p] = bl false := by
  have h : L2.kitB "bool" "list" = some false := by decide +kernel
  simp only [opD, dIsi, tyD, h]
@[simp] theorem isi_list_in : opD (.isi "list") [.int a] = bl false := by
  have h : L2.kitB "int" "list" = some false := by decide +kernel
  simp only [opD, dIsi, tyD, h]
@[simp] theorem isi_list_st : opD (.isi "list") [.str cs] = bl false := by
  have h : L2.kitB "str" "list" = some false := by decide +kernel
  simp only [opD, dIsi, tyD, h]
@[simp] theorem isi_list_tu : opD (.isi "list") [.tup xs] = bl false := by
  have h : L2.kitB "tuple" "list" = some false := by decide +kernel
  simp only [opD, dIsi, tyD, h]
@[simp] theorem isi_list_ls : opD (.isi "list") [.lst xs] = bl true := by
  have h : L2.kitB "list" "list" = some true := by decide +kernel
  simp only [opD, dIsi, tyD, h]
@[simp] theorem isi_list_di : opD (.isi "list") [.dct kv] = bl false := by
  have h : L2.kitB "dict" "list" = some false := by decide +kernel
  simp only [opD, dIsi, tyD, h]
@[simp] theorem isi_dict_nn : opD (.isi "dict") [.non] = bl false := by
  have h : L2.kitB "NoneType" "dict" = some false := by decide +kernel
  simp only [opD, dIsi, tyD, h]
@[simp] theorem isi_dict_bl : opD (.isi "dict") [.bl p] = bl false := by
  have h : L2.kitB "bool" "dict" = some false := by decide +kernel
  simp only [opD, dIsi, tyD, h]
@[simp] theorem isi_dict_in : opD (.isi "dict") [.int a] = bl false := by
  have h : L2.kitB "int" "dict" = some false := by decide +kernel
  simp only [opD, dIsi, tyD, h]
@[simp] theorem isi_dict_st : opD (.isi "dict") [.str cs] = bl false := by
  have h : L2.kitB "str" "dict" = some false := by decide +kernel
  simp only [opD, dIsi, tyD, h]
@[simp] theorem isi_dict_tu : opD (.isi "dict") [.tup xs] = bl false := by
  have h : L2.kitB "tuple" "dict" = some false := by decide +kernel
  simp only [opD, dIsi, tyD, h]
@[simp] theorem isi_dict_ls : opD (.isi "dict") [.lst xs] = bl false := by
  have h : L2.kitB "list" "dict" = some false := by decide +kernel
  simp only [opD, dIsi, tyD, h]
@[simp] theorem isi_dict_di : opD (.isi "dict") [.dct kv] = bl true := by
  have h : L2.kitB "dict" "dict" = some true := by decide +kernel
  simp only [opD, dIsi, tyD, h]
end
/-- what a draw from literals is asked: a logarithm -/
theorem log2_mod {x m : Int} {k : Nat} (hm : 0 < m) (h : m ≤ (2 : Int) ^ k) (hk : 0 < k) : (x % m).natAbs.log2 < k :=
  log2_int (Int.emod_nonneg _ (by omega)) (Int.lt_of_lt_of_le (Int.emod_lt_of_pos _ hm) h) hk
theorem lg2 {a b : Nat} (ha : a < 62) (hb : b < 62) : a + b < 1000000 := by omega
theorem lgB {a b : Nat} (ha : a < 2 ^ 1000) (hb : b < 2 ^ 1000) : a.log2 + b.log2 < 1000000 := by
  have h1 := log2_le ha (by decide)
  have h2 := log2_le hb (by decide)
  omega
def hd : Ss → S
  | .cons a _ => a
  | .nil => .pass
def tl : Ss → Ss
  | .cons _ r => r
  | .nil => .nil
@[simp] theorem o_dict0 : opD .dict [] = some (.new (.dc [])) := by simp [opD, dDict, pairUp]
@[simp] theorem o_dict1 {cs : List Nat} {v : D} : opD .dict [.str cs, v] = some (.new (.dc [(.inr (sOf cs), .fz v)])) := by simp [opD, dDict, pairUp]
theorem mem_rng0 {n : Int} {d : D} (h : d ∈ rng 0 n) : ∃ i : Nat, d = .int i ∧ (i : Int) < n := by
  unfold rng at h
  obtain ⟨i, hi, rfl⟩ := List.mem_map.mp h
  rw [List.mem_range] at hi
  exact ⟨i, by simp, by omega⟩
theorem inW_small {i : Int} (h0 : 0 ≤ i) (h1 : i ≤ 1000000) : inW i = true := by unfold inW; exact decide_eq_true (by omega)
theorem lgl {n : Nat} (h : n < 2 ^ 62) : n.log2 < 62 := log2_le h (by decide)
theorem lgb {c : Prop} [Decidable c] : (if c then (1 : Int) else 0).natAbs.log2 < 62 := by split <;> decide
theorem stk_mk {x c y m : Int} (hm : 0 < m) (h : m ≤ 2305843009213693951) : Stk 0 (.ls [.fz (.int (if c < x then x - c else 0)), .fz (.int (y % m)), .fz (.int 0)]) :=
  ⟨_, _, _, rfl, by split <;> omega, Int.emod_nonneg _ (by omega), Int.lt_of_lt_of_le (Int.emod_lt_of_pos _ hm) h, Int.le_refl _, Int.le_refl _⟩
theorem len_cutTo {α : Type} (xs : List α) (a : Int) : (cutL xs none (some a)).length ≤ xs.length := by unfold cutL; simp; omega
theorem len_cutFrom {α : Type} (xs : List α) (a : Int) : (cutL xs (some a) none).length ≤ xs.length := by unfold cutL; simp; omega
theorem mem_cut {α : Type} {xs : List α} {i j : Option Int} {x : α} (h : x ∈ cutL xs i j) : x ∈ xs := List.mem_of_mem_drop (List.mem_of_mem_take h)
theorem mem_rng {a b : Int} {d : D} (h : d ∈ rng a b) : ∃ j : Int, d = .int j ∧ a ≤ j ∧ j < b := by
  unfold rng at h
  obtain ⟨i, hi, rfl⟩ := List.mem_map.mp h
  rw [List.mem_range] at hi
  exact ⟨_, rfl, by omega, by omega⟩
end DI

namespace DI.Sh
open PySem DI
/-! ### defs that many laws share -/
def bd0 : Ss := (.cons (.ret (.andb (.op (.isi "int") (.cons (.var 0) .nil)) (.andb (.notb (.op (.isi "bool") (.cons (.var 0) .nil))) (.chain .le .le (.op .neg (.cons (.con (.int 999999999999999999999999999999999999999999999999999999999999)) .nil)) (.var 0) (.con (.int 999999999999999999999999999999999999999999999999999999999999)))))) .nil)
def fn0 : Fn := ⟨false, false, 1, 1, bd0, .no⟩
def bd1 : Ss := (.cons (.ifs (.or (.not (.val (.op (.isi "str") (.cons (.var 0) .nil)))) (.not (.val (.chain .le .le (.con (.int 1)) (.len1 0 []) (.con (.int 8)))))) (.cons (.ret (.con (.bl false))) .nil) .nil) (.cons (.ret (.op .all (.cons (.lc (.nm 1) (.seq (.var 0)) .yes (.chain .le .le (.con (.str [97])) (.var 1) (.con (.str [122])))) .nil))) .nil))
def fn1 : Fn := ⟨false, false, 1, 2, bd1, .no⟩
def bd2 : Ss := (.cons (.ret (.andb (.call 0 (.cons (.var 0) .nil)) (.chain .le .le (.con (.int 0)) (.var 0) (.var 1)))) .nil)
def fn2 : Fn := ⟨false, false, 2, 2, bd2, .no⟩
def bd3 : Ss := (.cons (.ret (.orb (.op .isn (.cons (.var 0) (.cons (.con .non) .nil))) (.andb (.op (.isi "str") (.cons (.var 0) .nil)) (.op .isin (.cons (.var 0) (.cons (.con (.ctp [.non, (.str [110, 111, 116, 101]), (.str [115, 97, 118, 101])])) .nil)))))) .nil)
def fn3 : Fn := ⟨false, false, 1, 1, bd3, .no⟩
def bd4 : Ss := (.cons (.ifs (.or (.not (.val (.op (.isi "tuple") (.cons (.var 0) .nil)))) (.val (.op .ne (.cons (.len1 0 []) (.cons (.con (.int 5)) .nil))))) (.cons (.ret (.con (.bl false))) .nil) .nil) (.cons (.upk [.nm 1, .nm 2, .nm 3, .nm 4, .nm 5] (.var 0)) (.cons (.ifs (.or (.not (.val (.op (.isi "str") (.cons (.var 1) .nil)))) (.or (.val (.op .notin (.cons (.var 1) (.cons (.con (.ctp [(.str [111, 117, 116, 112, 117, 116]), (.str [115, 101, 110, 100]), (.str [116, 97, 107, 101]), (.str [119, 111, 114, 107])])) .nil)))) (.not (.val (.call 3 (.cons (.var 5) .nil)))))) (.cons (.ret (.con (.bl false))) .nil) .nil) (.cons (.ifs (.or (.not (.ife (.val (.op .isin (.cons (.var 1) (.cons (.con (.ctp [(.str [115, 101, 110, 100]), (.str [116, 97, 107, 101])])) .nil)))) (.val (.call 1 (.cons (.var 2) .nil))) (.val (.op .isn (.cons (.var 2) (.cons (.con .non) .nil)))))) (.and (.val (.op .eq (.cons (.var 5) (.cons (.con (.str [110, 111, 116, 101])) .nil)))) (.val (.op .ne (.cons (.var 1) (.cons (.con (.str [116, 97, 107, 101])) .nil)))))) (.cons (.ret (.con (.bl false))) .nil) .nil) (.cons (.ret (.andb (.call 2 (.cons (.var 3) (.cons (.op .sub (.cons (.con (.int 6)) (.cons (.con (.int 1)) .nil))) .nil))) (.call 2 (.cons (.var 4) (.cons (.con (.int 9)) .nil))))) .nil)))))
def fn4 : Fn := ⟨false, false, 1, 6, bd4, .no⟩
def bd5 : Ss := (.cons (.ifs (.or (.not (.val (.op (.isi "tuple") (.cons (.var 0) .nil)))) (.val (.op .gt (.cons (.len1 0 []) (.cons (.con (.int 6)) .nil))))) (.cons (.ret (.con (.bl false))) .nil) .nil) (.cons (.ret (.op .all (.cons (.lc (.nm 2) (.seq (.var 0)) .yes (.andb (.call 4 (.cons (.var 2) .nil)) (.op .lt (.cons (.item1 2 [] (.con (.int 2))) (.cons (.var 1) .nil))))) .nil))) .nil))
def fn5 : Fn := ⟨false, false, 2, 3, bd5, .no⟩
def bd6 : Ss := (.cons (.ifs (.or (.not (.val (.op (.isi "tuple") (.cons (.var 0) .nil)))) (.not (.val (.chain .le .le (.con (.int 1)) (.len1 0 []) (.con (.int 6)))))) (.cons (.ret (.con (.bl false))) .nil) .nil) (.cons (.ret (.op .all (.cons (.lc (.nm 1) (.seq (.var 0)) .yes (.call 5 (.cons (.var 1) (.cons (.len1 0 []) .nil)))) .nil))) .nil))
def fn6 : Fn := ⟨false, false, 1, 2, bd6, .no⟩
def bd10 : Ss := (.cons (.set 2 (.ife (.val (.op .lt (.cons (.var 1) (.cons (.len1 0 []) .nil)))) (.item1 0 [] (.var 1)) (.op .add (.cons (.op .mul (.cons (.con (.int 43)) (.cons (.var 1) .nil))) (.cons (.con (.int 17)) .nil))))) (.cons (.set 3 (.op .mod (.cons (.op .int (.cons (.op .abs (.cons (.var 2) .nil)) .nil)) (.cons (.op .pow (.cons (.op .pow (.cons (.con (.int 10)) (.cons (.con (.int 60)) .nil))) (.cons (.con (.int 11)) .nil))) .nil)))) (.cons (.set 4 (.op .add (.cons (.op .add (.cons (.op .add (.cons (.op .mul (.cons (.op .mod (.cons (.op .int (.cons (.var 3) .nil)) (.cons (.con (.int 2147483423)) .nil))) (.cons (.con (.int 78713)) .nil))) (.cons (.op .mul (.cons (.con (.int 6007)) (.cons (.var 1) .nil))) .nil))) (.cons (.op .mul (.cons (.con (.int 29)) (.cons (.op .int (.cons (.op .lt (.cons (.var 2) (.cons (.con (.int 0)) .nil))) .nil)) .nil))) .nil))) (.cons (.con (.int 53)) .nil)))) (.cons (.ret (.lst (.cons (.op .max (.cons (.con (.int 0)) (.cons (.op .sub (.cons (.var 3) (.cons (.op .pow (.cons (.con (.int 10)) (.cons (.con (.int 18)) .nil))) .nil))) .nil))) (.cons (.op .mod (.cons (.op .int (.cons (.var 4) .nil)) (.cons (.con (.int 2305843009213693907)) .nil))) (.cons (.con (.int 0)) .nil))))) .nil))))
def fn10 : Fn := ⟨false, false, 2, 5, bd10, .no⟩
def bd11 : Ss := (.cons (.ifs (.val (.op .gt (.cons (.item1 0 [] (.con (.int 0))) (.cons (.con (.int 0)) .nil)))) (.cons (.set 2 (.op .mod (.cons (.op .int (.cons (.item1 0 [] (.con (.int 0))) .nil)) (.cons (.var 1) .nil)))) (.cons (.put1 0 (.con (.int 0)) (.op .fdiv (.cons (.item1 0 [] (.con (.int 0))) (.cons (.var 1) .nil)))) (.cons (.ret (.var 2)) .nil))) .nil) (.cons (.put1 0 (.con (.int 2)) (.op .add (.cons (.item1 0 [] (.con (.int 2))) (.cons (.con (.int 1)) .nil)))) (.cons (.set 3 (.op .mod (.cons (.op .int (.cons (.op .add (.cons (.item1 0 [] (.con (.int 1))) (.cons (.op .mul (.cons (.con (.int 1000357)) (.cons (.item1 0 [] (.con (.int 2))) .nil))) .nil))) .nil)) (.cons (.con (.int 2305843009213693951)) .nil)))) (.cons (.set 4 (.op .add (.cons (.op .mul (.cons (.op .mod (.cons (.op .int (.cons (.op .mul (.cons (.var 3) (.cons (.var 3) .nil))) .nil)) (.cons (.con (.int 2305843009213693921)) .nil))) (.cons (.var 3) .nil))) (.cons (.op .mul (.cons (.con (.int 9029)) (.cons (.item1 0 [] (.con (.int 2))) .nil))) .nil)))) (.cons (.ret (.op .mod (.cons (.op .int (.cons (.op .fdiv (.cons (.op .mod (.cons (.op .int (.cons (.var 4) .nil)) (.cons (.con (.int 2305843009213693907)) .nil))) (.cons (.con (.int 16384)) .nil))) .nil)) (.cons (.var 1) .nil)))) .nil)))))
def fn11 : Fn := ⟨true, false, 2, 5, bd11, .no⟩
def bd12 : Ss := (.cons (.ret (.item1 1 [] (.callio 11 0 (.cons (.len1 1 []) .nil)))) .nil)
def fn12 : Fn := ⟨true, false, 2, 2, bd12, .no⟩
def bd13 : Ss := (.cons (.set 2 (.op .listof (.cons (.var 1) .nil))) (.cons (.ret (.lc (.nm 3) (.rng1 (.len1 1 [])) .yes (.pop1 2 (.callio 11 0 (.cons (.len1 2 []) .nil))))) .nil))
def fn13 : Fn := ⟨true, false, 2, 4, bd13, .no⟩
def bd14 : Ss := (.cons (.ret (.op .item (.cons (.con (.str [97, 98, 99, 100, 101, 102, 103, 104, 105, 106, 107, 108, 109, 110, 111, 112, 113, 114, 115, 116, 117, 118, 119, 120, 121, 122])) (.cons (.callio 11 0 (.cons (.con (.int 26)) .nil)) .nil)))) .nil)
def fn14 : Fn := ⟨true, false, 1, 1, bd14, .no⟩
def bd15 : Ss := (.cons (.par [2, 3, 4] (.cons (.op .join (.cons (.con (.str [])) (.cons (.lc (.nm 7) (.rng1 (.callio 11 0 (.cons (.con (.int 8)) .nil))) .yes (.callio 14 0 .nil)) .nil))) (.cons (.callio 11 0 (.cons (.con (.int 2)) .nil)) (.cons (.lst .nil) .nil)))) (.cons (.set 5 (.callio 11 0 (.cons (.op .add (.cons (.len1 2 []) (.cons (.con (.int 1)) .nil))) .nil))) (.cons (.for_ (.nm 6) (.seq (.cut (.callio 13 0 (.cons (.con (.str [97, 98, 99, 100, 101, 102, 103, 104, 105, 106, 107, 108, 109, 110, 111, 112, 113, 114, 115, 116, 117, 118, 119, 120, 121, 122])) .nil)) .none (.some (.var 1)))) (.cons (.ifs (.val (.op .eq (.cons (.var 3) (.cons (.con (.int 0)) .nil)))) (.cons (.app1 4 (.op .add (.cons (.op .add (.cons (.cut (.var 2) .none (.some (.var 5))) (.cons (.var 6) .nil))) (.cons (.cut (.var 2) (.some (.var 5)) .none) .nil)))) .nil) (.cons (.app1 4 (.op .add (.cons (.var 6) (.cons (.cut (.var 2) .none (.some (.callio 11 0 (.cons (.op .add (.cons (.len1 2 []) (.cons (.con (.int 1)) .nil))) .nil)))) .nil)))) .nil)) .nil)) (.cons (.ret (.var 4)) .nil))))
def fn15 : Fn := ⟨true, false, 2, 8, bd15, .no⟩
section
variable {fns : List (Nat × Fn)} {k : Nat}
theorem draw_of (hf : fns.lookup 11 = some fn11) : DrawOk (callF fns (k + 1)) 11 := by
  rintro n xs t ⟨a, b, c, rfl, ha, hb, hb2, hc, hc2⟩ hn ht ht2
  refine w_fn hf ⟨rfl, by decide⟩ rfl ?_
  simp [fn11, bd11, start0]
  split
  · refine ⟨ht, ⟨ht, ht2⟩, _, _, ⟨rfl, rfl⟩, Int.emod_nonneg _ (by omega), Int.emod_lt_of_pos _ ht, _, _, _, rfl, Int.ediv_nonneg ha (by omega), hb, hb2, hc, by omega⟩
  · have l1 : (c + 1).natAbs.log2 < 62 := log2_int (by omega) (by omega) (by decide)
    have l2 : ∀ x : Int, (x % 2305843009213693951).natAbs.log2 < 62 := fun x => log2_mod (by decide) (by decide) (by decide)
    have l3 : ∀ x : Int, (x % 2305843009213693921).natAbs.log2 < 62 := fun x => log2_mod (by decide) (by decide) (by decide)
    have l4 : Nat.log2 1000357 < 62 := log2_le (by decide) (by decide)
    have l5 : Nat.log2 9029 < 62 := log2_le (by decide) (by decide)
    refine ⟨by omega, ?_, ?_, by omega, ht, _, _, ⟨rfl, rfl⟩, Int.emod_nonneg _ (by omega), Int.emod_lt_of_pos _ ht, _, _, _, rfl, ha, hb, hb2, by omega, by omega⟩
    · have := l2 (b + 1000357 * (c + 1)); omega
    · have := l2 (b + 1000357 * (c + 1))
      have := l3 ((b + 1000357 * (c + 1)) % 2305843009213693951 * ((b + 1000357 * (c + 1)) % 2305843009213693951))
      omega
theorem stock_of (hf : fns.lookup 10 = some fn10) (ns : List Int) (i : Nat) (hi : i ≤ 1000) : wo (callF fns (k + 1) 10 none [.scr (ns.map .int), .int i]) fun p => ∃ xs, p = (.ok (.new xs), none) ∧ Stk 0 xs := by
  refine w_fn hf ⟨rfl, by decide⟩ rfl ?_
  have li : i.log2 < 62 := lgl (by omega)
  have lm : ∀ x : Int, (x % 2147483423).natAbs.log2 < 62 := fun x => log2_mod (by decide) (by decide) (by decide)
  by_cases h : i < ns.length
  · have e : L2.atI (ns.map D.int) (i : Int) = some (.int ns[i]) := by rw [atI_in (by omega) (by simpa using h)]; simp [h]
    simp [fn10, bd10, start0, h, e]
    exact ⟨lg2 (lm _) (lgl (by decide)), lg2 (lgl (by decide)) li, lg2 (lgl (by decide)) lgb, stk_mk (by decide) (by decide)⟩
  · simp [fn10, bd10, start0, h]
    exact ⟨lg2 (lgl (by decide)) li, lg2 (lm _) (lgl (by decide)), lg2 (lgl (by decide)) li, lg2 (lgl (by decide)) lgb, stk_mk (by decide) (by decide)⟩
end
end DI.Sh

namespace DI.Sh
open PySem DI
theorem map_erase {α β : Type} (f : α → β) : ∀ (xs : List α) (i : Nat), (xs.map f).eraseIdx i = (xs.eraseIdx i).map f
  | [], _ => rfl
  | _ :: _, 0 => rfl
  | x :: xs, i + 1 => by simp [map_erase f xs i]
section
variable {fns : List (Nat × Fn)} {k : Nat}
theorem pick_of (hf : fns.lookup 12 = some fn12) (hd : DrawOk (callF fns k) 11) (n : Nat) (xs : Ho) (ys : List D) (h : Stk n xs) (hn : n ≤ 1000000) (h0 : ys ≠ []) (hl : ys.length < 1073741824) : wo (callF fns (k + 1) 12 (some xs) [.lst ys]) fun p => ∃ y zs, p = (.ok (.val y), some zs) ∧ y ∈ ys ∧ Stk (n + 1) zs := by
  refine w_fn hf ⟨rfl, by decide⟩ rfl ?_
  simp [fn12, bd12, start0]
  have hp : 0 < ys.length := List.length_pos_iff.mpr h0
  refine wo_mono (hd n xs ys.length h hn (by omega) (by omega)) ?_
  rintro p ⟨r, zs, rfl, h1, h2, h3⟩
  simp
  exact wo_atI h1 (by omega) fun x hx => ⟨x, zs, ⟨rfl, rfl⟩, hx, h3⟩
def low (d : D) : Prop := ∃ c : Nat, d = .str [c] ∧ 97 ≤ c ∧ c ≤ 122
theorem letter_of (hf : fns.lookup 14 = some fn14) (hd : DrawOk (callF fns k) 11) (n : Nat) (xs : Ho) (h : Stk n xs) (hn : n ≤ 1000000) : wo (callF fns (k + 1) 14 (some xs) []) fun p => ∃ y zs, p = (.ok (.val y), some zs) ∧ low y ∧ Stk (n + 1) zs := by
  refine w_fn hf ⟨rfl, by decide⟩ rfl ?_
  simp [fn14, bd14, start0]
  refine wo_mono (hd n xs 26 h hn (by omega) (by omega)) ?_
  rintro p ⟨r, zs, rfl, h1, h2, h3⟩
  simp
  refine wo_atI h1 (by simpa using h2) fun x hx => ⟨_, zs, ⟨rfl, rfl⟩, ⟨x, rfl, ?_⟩, h3⟩
  simp at hx
  omega
def lower (c : Nat) : Bool := decide (97 ≤ c ∧ c ≤ 122)
theorem in_low (c : Nat) : decide (c ∈ [97, 98, 99, 100, 101, 102, 103, 104, 105, 106, 107, 108, 109, 110, 111, 112, 113, 114, 115, 116, 117, 118, 119, 120, 121, 122]) = lower c := decide_eq_decide.mpr (by simp; omega)
theorem chain_low (c : Nat) : ([c] < [97]) = (c < 97) := by simp [List.cons_lt_cons_iff]
theorem chain_hi (c : Nat) : ([122] < [c]) = (122 < c) := by simp [List.cons_lt_cons_iff]
/-- a shuffled list has the same items -/
theorem shuf_of (hf : fns.lookup 13 = some fn13) (hd : DrawOk (callF fns k) 11) (n : Nat) (xs : Ho) (ys : List D) (src : D) (h : Stk n xs) (hn : n ≤ 100000) (hl : ys.length ≤ 10000) (hs : opD .len [src] = num ys.length) (hs2 : opD .listof [src] = some (.new (fzs ys))) :
    wo (callF fns (k + 1) 13 (some xs) [src]) fun p => ∃ zs st, p = (.ok (.new (fzs zs)), some st) ∧ zs.length = ys.length ∧ (∀ z ∈ zs, z ∈ ys) ∧ Stk (n + ys.length) st := by
  refine w_fn hf ⟨rfl, by decide⟩ rfl ?_
  simp [fn13, bd13, start0, hs, hs2]
  refine ⟨inW_small (by omega) (by omega), ?_⟩
  refine lc_inv (fun ds acc e => ∃ st left accD z, e = [Sl.io st, .val src, .own (.ls (left.map .fz)), z] ∧ acc = accD.map .fz ∧ Stk (n + acc.length) st ∧ acc.length + ds.length = ys.length ∧ left.length = ds.length ∧ (∀ x ∈ accD, x ∈ ys) ∧ ∀ x ∈ left, x ∈ ys) ?_ ?_ _ _ _
    ⟨xs, ys, [], .un, rfl, rfl, by simpa using h, by simp [rng], by simp [rng], by simp, fun x hx => hx⟩
  · rintro d ds acc env ⟨st, left, accD, z, rfl, rfl, h1, h2, h3, h4, h5⟩
    simp only [List.length_cons] at h2 h3
    rw [w_lcT]
    simp
    simp only [List.length_map] at h1 h2
    refine wo_mono (hd _ st left.length h1 (by omega) (by omega) (by omega)) ?_
    rintro p ⟨r, st', rfl, r1, r2, hs'⟩
    simp
    have hr : r.toNat < left.length := by omega
    refine ⟨⟨r1, by omega, by omega⟩, left[r.toNat], List.getElem?_eq_getElem hr, by omega, st', left.eraseIdx r.toNat, ⟨rfl, map_erase _ _ _⟩, accD ++ [left[r.toNat]], by simp, by rw [← Nat.add_assoc]; exact hs', by omega, by rw [List.length_eraseIdx_of_lt hr]; omega, ?_, ?_⟩
    · intro x hx
      rcases List.mem_append.mp hx with hx | hx
      · exact h4 x hx
      · rw [List.mem_singleton.mp hx]; exact h5 _ (List.getElem_mem hr)
    · intro x hx
      exact h5 x (List.mem_of_mem_eraseIdx hx)
  · rintro acc e ⟨st, left, accD, z, rfl, rfl, h1, h2, h3, h4, h5⟩
    simp only [List.length_nil, Nat.add_zero, List.length_map] at h1 h2
    simp
    exact ⟨accD, st, ⟨rfl, rfl⟩, h2, h4, by rw [← h2]; exact h1⟩
end
end DI.Sh

namespace DI.Sh
open PySem DI
/-! ### comprehensions that leave the other names alone -/
theorem set_get {s : Nat} {env : Ev} {z : Sl} (h : env[s]? = some z) : env.set s z = env := by
  apply List.ext_getElem?
  intro i
  rw [List.getElem?_set]
  split
  · rename_i e
    subst e
    obtain ⟨hl, hh⟩ := List.getElem?_eq_some_iff.mp h
    simp [hl, hh]
  · rfl
theorem w_lcp {cf : CF} {s : Nat} {c : T} {e : I} {env : Ev} {ds : List D} {X : Xc → Ev → Prop} (g : D → Option D) (hs : s < env.length) (hz : ds.length ≤ big)
    (h : ∀ d ∈ ds, wT cf c (env.set s (.val d)) X fun t e2 => if t = true then wI cf e e2 X fun r e3 => (∃ y, g d = some y ∧ r.h = .fz y) ∧ ∃ z', e3 = env.set s z' else g d = none ∧ ∃ z', e2 = env.set s z')
    {Q : List Ho → Ev → Prop} (hq : ∀ z, Q ((ds.filterMap g).map .fz) (env.set s z)) : wr (lcD (lcT cf (.nm s) c e) ds [] env) X Q := by
  have hs0 : ∃ z, env = env.set s z := ⟨env[s], (set_get (List.getElem?_eq_getElem hs)).symm⟩
  refine lc_inv (fun rest acc en => ∃ pre z, ds = pre ++ rest ∧ acc = (pre.filterMap g).map .fz ∧ en = env.set s z) ?_ ?_ ds [] env (by
    obtain ⟨z, hz⟩ := hs0
    exact ⟨[], z, rfl, rfl, hz⟩)
  · rintro d rest acc en ⟨pre, z, e1, rfl, rfl⟩
    rw [w_lcT]
    have hm : d ∈ ds := by rw [e1]; simp
    have hl : pre.length + rest.length + 1 = ds.length := by rw [e1]; simp; omega
    have hf : freeS ((env.set s .un)[s]?) = true := by rw [List.getElem?_set_self hs]; rfl
    simp only [x_slots, x_clrc, x_clr0, x_bT, x_free, List.set_set, hf, if_true, wo_some]
    refine wr_mono (h d hm) (fun t e2 q => ?_) fun _ _ q => q
    cases t with
    | true =>
      simp only [if_true] at q ⊢
      refine wr_mono q (fun r e3 q => ?_) fun _ _ q => q
      obtain ⟨⟨y, hy, hr⟩, z', rfl⟩ := q
      refine ⟨?_, pre ++ [d], z', by rw [e1]; simp, by rw [hr, List.filterMap_append, List.map_append]; simp [hy], rfl⟩
      have : (pre.filterMap g).length ≤ pre.length := List.length_filterMap_le _ _
      simp only [List.length_map]
      omega
    | false =>
      simp only [Bool.false_eq_true, if_false] at q ⊢
      obtain ⟨hy, z', rfl⟩ := q
      exact ⟨pre ++ [d], z', by rw [e1]; simp, by rw [List.filterMap_append, List.map_append]; simp [hy], rfl⟩
  · rintro acc en ⟨pre, z, e1, rfl, rfl⟩
    rw [List.append_nil] at e1
    subst e1
    exact hq z
/-! ### words -/
def pl : D → Prop
  | .str cs => cs.length ≤ 1000
  | .scr _ => False
  | .ctp _ => False
  | .fn _ => False
  | .obj _ _ => False
  | .cls _ => False
  | _ => True
def gLow : D → Option D
  | .str [c] => some (.bl (lower c))
  | _ => none
theorem low_map : ∀ cs : List Nat, (cs.map fun c => D.str [c]).filterMap gLow = cs.map fun c => D.bl (lower c)
  | [] => rfl
  | c :: r => by
    have h := low_map r
    simp [gLow, h]
/-- what is_word tells -/
def wordD : D → Bool
  | .str cs => decide (1 ≤ cs.length ∧ cs.length ≤ 8) && cs.all lower
  | _ => false
section
variable {fns : List (Nat × Fn)} {k : Nat}
theorem get_of {α : Type} {x : Option α} {a : α} (h : wo x fun p => p = a) : x = some a := by
  obtain ⟨p, e, rfl⟩ := h
  exact e
theorem word_of (hf : fns.lookup 1 = some fn1) (d : D) (h : pl d) : callF fns (k + 1) 1 none [d] = some (.ok (.val (.bl (wordD d))), none) := by
  refine get_of ?_
  cases d with
  | scr _ => exact False.elim h
  | fn _ => exact False.elim h
  | obj _ _ => exact False.elim h
  | cls _ => exact False.elim h
  | ctp _ => exact False.elim h
  | str cs =>
    have h1 : cs.length ≤ 1000 := h
    obtain ⟨b, hb⟩ : ∃ b : Bool, b = wordD (.str cs) := ⟨_, rfl⟩
    rw [← hb]
    have no : ¬ (1 ≤ cs.length ∧ cs.length ≤ 8) → b = false := fun h => by rw [hb, wordD, decide_eq_false h]; rfl
    have yes : (1 ≤ cs.length ∧ cs.length ≤ 8) → b = cs.all lower := fun h => by rw [hb, wordD, decide_eq_true h]; rfl
    clear hb
    refine w_fn hf ⟨rfl, by decide⟩ rfl ?_
    simp [fn1, bd1, start0, show cs.length ≤ 1000000 by omega]
    by_cases e : (cs.length : Int) < 1
    · exact .inl ⟨e, no (by omega)⟩
    · refine .inr ⟨by omega, ?_⟩
      split
      · refine w_lcp gLow (by simp) (by simp; omega) ?_ fun z => ?_
        · intro d hd
          obtain ⟨c, hc, rfl⟩ := List.mem_map.mp hd
          simp [gLow, chain_low, chain_hi, lower]
          by_cases h : c < 97
          · exact .inl ⟨h, by omega⟩
          · refine .inr ⟨by omega, ?_⟩
            by_cases g : 122 < c
            · simp [g, show 97 ≤ c by omega]
            · simp [g, show 97 ≤ c by omega]
              omega
        · simp only [low_map, x_dN, x_toDl, x_toDsm, o_all]
          simp
          exact (yes (by omega)).symm
      · exact no (by omega)
  | _ => exact w_fn hf ⟨rfl, by decide⟩ rfl (by simp [fn1, bd1, start0, wordD])
/-- what is_integer tells, is_within -/
def great : Int := 999999999999999999999999999999999999999999999999999999999999
def intD : D → Bool
  | .int i => decide (-great ≤ i) && decide (i ≤ great)
  | _ => false
def withinD (d : D) (m : Int) : Bool := match d with
  | .int i => decide (0 ≤ i) && decide (i ≤ m)
  | _ => false
theorem integer_of (hf : fns.lookup 0 = some fn0) (d : D) (h : pl d) : callF fns (k + 1) 0 none [d] = some (.ok (.val (.bl (intD d))), none) := by
  refine get_of ?_
  cases d with
  | scr _ => exact False.elim h
  | fn _ => exact False.elim h
  | obj _ _ => exact False.elim h
  | cls _ => exact False.elim h
  | ctp _ => exact False.elim h
  | int i =>
    refine w_fn hf ⟨rfl, by decide⟩ rfl ?_
    simp [fn0, bd0, start0, intD, great]
    by_cases h : -999999999999999999999999999999999999999999999999999999999999 ≤ i
    · simp [h]
      exact .inr rfl
    · simp [h]
      omega
  | _ => exact w_fn hf ⟨rfl, by decide⟩ rfl (by simp [fn0, bd0, start0, intD])
theorem within_of (h0 : fns.lookup 0 = some fn0) (hf : fns.lookup 2 = some fn2) (d : D) (m : Int) (h : pl d) (hm : m ≤ great) : callF fns (k + 2) 2 none [d, .int m] = some (.ok (.val (.bl (withinD d m))), none) := by
  refine get_of ?_
  refine w_fn hf ⟨rfl, by decide⟩ rfl ?_
  simp [fn2, bd2, start0, integer_of h0 d h]
  cases d with
  | int i =>
    simp [intD, withinD]
    by_cases h1 : 0 ≤ i
    · by_cases h2 : i ≤ m
      · have h3 : -great ≤ i ∧ i ≤ great := ⟨by unfold great; omega, by omega⟩
        simp [h1, h2, h3]
      · simp [h1, h2]
        omega
    · simp [h1]
      omega
  | _ => simp [intD, withinD]
end
end DI.Sh

namespace DI.Sh
open PySem DI
/-! ### text in a tuple, a list -/
def inS (cs : List Nat) : List D → Bool
  | [] => false
  | .str b :: r => decide (b = cs) || inS cs r
  | _ :: r => inS cs r
def flats : List D → Bool
  | [] => true
  | d :: r => flat d && flats r
theorem eqV_str (a b : List Nat) : L2.eqV (.str (sOf a)) (.str (sOf b)) = decide (a = b) := by
  have : L2.eqV (.str (sOf a)) (.str (sOf b)) = decide (sOf a = sOf b) := rfl
  rw [this, dec_s]
theorem inV_str (cs : List Nat) : ∀ ds : List D, ds.all flat = true → L2.inV (.str (sOf cs)) (ds.map vOf) = inS cs ds
  | [], _ => rfl
  | d :: r, h => by
    rw [List.all_cons, Bool.and_eq_true] at h
    have ih := inV_str cs r h.2
    unfold L2.inV at ih ⊢
    rw [List.map_cons, List.any_cons, ih]
    cases d with
    | str b => simp only [vOf, inS, eqV_str]
    | non => rfl
    | bl b => rfl
    | int i => rfl
    | _ => cases h.1
@[simp] theorem o_int_ {cs : List Nat} {ds : List D} (h : ds.all flat = true) : opD .isin [.str cs, .tup ds] = bl (inS cs ds) := by
  show dIn false [.str cs, .tup ds] = _
  have : dIn false [.str cs, .tup ds] = if flat (.str cs) && ds.all flat then bl (if false = true then !L2.inV (vOf (.str cs)) (ds.map vOf) else L2.inV (vOf (.str cs)) (ds.map vOf)) else none := by
    cases cs with
    | nil => rfl
    | cons c r => cases r <;> rfl
  rw [this, h]
  simp [flat, vOf, inV_str cs ds h]
@[simp] theorem o_nint {cs : List Nat} {ds : List D} (h : ds.all flat = true) : opD .notin [.str cs, .tup ds] = bl (!inS cs ds) := by
  show dIn true [.str cs, .tup ds] = _
  have : dIn true [.str cs, .tup ds] = if flat (.str cs) && ds.all flat then bl (if true = true then !L2.inV (vOf (.str cs)) (ds.map vOf) else L2.inV (vOf (.str cs)) (ds.map vOf)) else none := by
    cases cs with
    | nil => rfl
    | cons c r => cases r <;> rfl
  rw [this, h]
  simp [flat, vOf, inV_str cs ds h]
@[simp] theorem o_inct {cs : List Nat} {ds : List D} (h : ds.all flat = true) : opD .isin [.str cs, .ctp ds] = bl (inS cs ds) := by
  show dIn false [.str cs, .ctp ds] = _
  have : dIn false [.str cs, .ctp ds] = if flat (.str cs) && ds.all flat then bl (if false = true then !L2.inV (vOf (.str cs)) (ds.map vOf) else L2.inV (vOf (.str cs)) (ds.map vOf)) else none := by
    cases cs with
    | nil => rfl
    | cons c r => cases r <;> rfl
  rw [this, h]
  simp [flat, vOf, inV_str cs ds h]
@[simp] theorem o_ninct {cs : List Nat} {ds : List D} (h : ds.all flat = true) : opD .notin [.str cs, .ctp ds] = bl (!inS cs ds) := by
  show dIn true [.str cs, .ctp ds] = _
  have : dIn true [.str cs, .ctp ds] = if flat (.str cs) && ds.all flat then bl (if true = true then !L2.inV (vOf (.str cs)) (ds.map vOf) else L2.inV (vOf (.str cs)) (ds.map vOf)) else none := by
    cases cs with
    | nil => rfl
    | cons c r => cases r <;> rfl
  rw [this, h]
  simp [flat, vOf, inV_str cs ds h]
@[simp] theorem o_inl {cs : List Nat} {ds : List D} (h : ds.all flat = true) : opD .isin [.str cs, .lst ds] = bl (inS cs ds) := by
  show dIn false [.str cs, .lst ds] = _
  have : dIn false [.str cs, .lst ds] = if flat (.str cs) && ds.all flat then bl (if false = true then !L2.inV (vOf (.str cs)) (ds.map vOf) else L2.inV (vOf (.str cs)) (ds.map vOf)) else none := by
    cases cs with
    | nil => rfl
    | cons c r => cases r <;> rfl
  rw [this, h]
  simp [flat, vOf, inV_str cs ds h]
@[simp] theorem o_ninl {cs : List Nat} {ds : List D} (h : ds.all flat = true) : opD .notin [.str cs, .lst ds] = bl (!inS cs ds) := by
  show dIn true [.str cs, .lst ds] = _
  have : dIn true [.str cs, .lst ds] = if flat (.str cs) && ds.all flat then bl (if true = true then !L2.inV (vOf (.str cs)) (ds.map vOf) else L2.inV (vOf (.str cs)) (ds.map vOf)) else none := by
    cases cs with
    | nil => rfl
    | cons c r => cases r <;> rfl
  rw [this, h]
  simp [flat, vOf, inV_str cs ds h]
@[simp] theorem flat_non : flat .non = true := rfl
@[simp] theorem flat_bl {b : Bool} : flat (.bl b) = true := rfl
@[simp] theorem flat_int {b : Int} : flat (.int b) = true := rfl
@[simp] theorem flat_str {b : List Nat} : flat (.str b) = true := rfl
abbrev sNote : List Nat := [110, 111, 116, 101]
abbrev sSave : List Nat := [115, 97, 118, 101]
abbrev sOutput : List Nat := [111, 117, 116, 112, 117, 116]
abbrev sSend : List Nat := [115, 101, 110, 100]
abbrev sTake : List Nat := [116, 97, 107, 101]
abbrev sWork : List Nat := [119, 111, 114, 107]
def keepD : D → Bool
  | .non => true
  | .str cs => decide (sNote = cs) || decide (sSave = cs)
  | _ => false
@[simp] theorem isNon_non : isNon .non = true := rfl
@[simp] theorem isNon_bl {b : Bool} : isNon (.bl b) = false := rfl
@[simp] theorem isNon_int {b : Int} : isNon (.int b) = false := rfl
@[simp] theorem isNon_str {b : List Nat} : isNon (.str b) = false := rfl
@[simp] theorem isNon_tup {b : List D} : isNon (.tup b) = false := rfl
@[simp] theorem isNon_lst {b : List D} : isNon (.lst b) = false := rfl
@[simp] theorem isNon_dct {b : List (D × D)} : isNon (.dct b) = false := rfl
section
variable {fns : List (Nat × Fn)} {k : Nat}
theorem keeping_of (hf : fns.lookup 3 = some fn3) (d : D) (h : pl d) : callF fns (k + 1) 3 none [d] = some (.ok (.val (.bl (keepD d))), none) := by
  refine get_of (w_fn hf ⟨rfl, by decide⟩ rfl ?_)
  cases d with
  | scr _ => exact False.elim h
  | fn _ => exact False.elim h
  | obj _ _ => exact False.elim h
  | cls _ => exact False.elim h
  | ctp _ => exact False.elim h
  | str cs => simp [fn3, bd3, start0, keepD, inS]
  | _ => simp [fn3, bd3, start0, keepD]
/-- what is_move tells -/
abbrev acts4 : List D := [.str sOutput, .str sSend, .str sTake, .str sWork]
abbrev acts2 : List D := [.str sSend, .str sTake]
def eqN (x : List Nat) : D → Bool
  | .str c => decide (c = x)
  | _ => false
def moveB (qa qk qL qw qn qe qT q5 q9 : Bool) : Bool := qa && (qk && ((if qL then qw else qn) && (!(qe && !qT) && (q5 && q9))))
def moveL (act kind target price keeping : D) (size : Int) : Bool := match act with
  | .str a => moveB (inS a acts4) (keepD keeping) (inS a acts2) (wordD kind) (isNon kind) (eqN sNote keeping) (decide (a = sTake)) (withinD target size) (withinD price 9)
  | _ => false
def moveD (size : Int) : D → Bool
  | .tup [a, b, c, d, e] => moveL a b c d e size
  | _ => false
/-- the parts of a tuple are plain -/
def pl1 : D → Prop
  | .tup xs => ∀ x ∈ xs, pl x
  | d => pl d
theorem eq_non_note : opD .eq [.non, .str sNote] = bl false := by kernel_rfl
theorem eq_non_save : opD .eq [.non, .str sSave] = bl false := by kernel_rfl
theorem eq_keep {e : D} (h : keepD e = true) (x : List Nat) (hx : x = sNote ∨ x = sSave) : opD .eq [e, .str x] = bl (eqN x e) := by
  cases e with
  | str c => simp [eqN]
  | non => rcases hx with rfl | rfl
           · exact eq_non_note
           · exact eq_non_save
  | _ => simp [keepD] at h
theorem move_ne {xs : List D} {m : Int} (h : xs.length ≠ 5) : moveD m (.tup xs) = false := by
  match xs, h with
  | [], _ => rfl
  | [_], _ => rfl
  | [_, _], _ => rfl
  | [_, _, _], _ => rfl
  | [_, _, _, _], _ => rfl
  | [_, _, _, _, _], h => exact absurd rfl h
  | _ :: _ :: _ :: _ :: _ :: _ :: _, _ => rfl
theorem five {xs : List D} (h : xs.length = 5) : ∃ a b c d e, xs = [a, b, c, d, e] := by
  match xs, h with
  | [a, b, c, d, e], _ => exact ⟨a, b, c, d, e, rfl⟩
theorem move_of (h0 : fns.lookup 0 = some fn0) (h1 : fns.lookup 1 = some fn1) (h2 : fns.lookup 2 = some fn2) (h3 : fns.lookup 3 = some fn3) (hf : fns.lookup 4 = some fn4) (d : D) (h : pl1 d) : callF fns (k + 3) 4 none [d] = some (.ok (.val (.bl (moveD 5 d))), none) := by
  refine get_of (w_fn hf ⟨rfl, by decide⟩ rfl ?_)
  cases d with
  | scr _ => exact False.elim h
  | fn _ => exact False.elim h
  | obj _ _ => exact False.elim h
  | cls _ => exact False.elim h
  | ctp _ => exact False.elim h
  | tup xs =>
    by_cases hl : xs.length = 5
    · obtain ⟨a, b, c, d, e, rfl⟩ := five hl
      have pa : pl a := h a (by simp)
      have pb : pl b := h b (by simp)
      have pc : pl c := h c (by simp)
      have pd : pl d := h d (by simp)
      have pe : pl e := h e (by simp)
      have hb := word_of (k := k + 1) h1 b pb
      have hc := within_of (k := k) h0 h2 c 5 pc (by decide)
      have hd := within_of (k := k) h0 h2 d 9 pd (by decide)
      have he := keeping_of (k := k + 1) h3 e pe
      cases a with
      | scr _ => exact False.elim pa
      | fn _ => exact False.elim pa
      | obj _ _ => exact False.elim pa
      | cls _ => exact False.elim pa
      | ctp _ => exact False.elim pa
      | str a =>
        by_cases hk : keepD e = true
        · have hE := eq_keep hk sNote (.inl rfl)
          simp [fn4, bd4, start0, hb, hc, hd, he, hk, hE, moveD, moveL, moveB]
          generalize inS a _ = qa
          generalize inS a _ = qL
          generalize wordD b = qw
          generalize isNon b = qn
          generalize eqN _ e = qe
          generalize withinD c 5 = q5
          generalize withinD d 9 = q9
          by_cases ha : a = [116, 97, 107, 101]
          · simp only [ha]
            cases qa <;> simp
            cases qL <;> simp
            · cases qn <;> simp
              cases qe <;> cases q5 <;> simp
            · cases qw <;> simp
              cases qe <;> cases q5 <;> simp
          · simp only [ha]
            cases qa <;> simp
            cases qL <;> simp
            · cases qn <;> simp
              cases qe <;> cases q5 <;> simp
            · cases qw <;> simp
              cases qe <;> cases q5 <;> simp
        · have hk' : keepD e = false := by simpa using hk
          simp [fn4, bd4, start0, hb, hc, hd, he, hk', moveD, moveL, moveB]
      | _ => simp [fn4, bd4, start0, moveD, moveL]
    · have : ¬ (xs.length : Int) = 5 := by omega
      simp [fn4, bd4, start0, this, move_ne hl]
  | str cs => 
    have h' : cs.length ≤ 1000 := h
    simp [fn4, bd4, start0, moveD]
  | _ => simp [fn4, bd4, start0, moveD]
end
end DI.Sh

namespace DI.Sh
open PySem DI
/-- a move whose target is below the size -/
def tgtD (size : Int) : D → Bool
  | .tup [_, _, .int t, _, _] => decide (t < size)
  | _ => false
def mS (size : Int) (d : D) : Bool := moveD 5 d && tgtD size d
def stateD (size : Int) : D → Bool
  | .tup xs => decide (xs.length ≤ 6) && xs.all (mS size)
  | _ => false
def statesD : D → Bool
  | .tup xs => decide (1 ≤ xs.length ∧ xs.length ≤ 6) && xs.all (stateD xs.length)
  | _ => false
def pl2 : D → Prop
  | .tup xs => xs.length ≤ 1000 ∧ ∀ x ∈ xs, pl1 x
  | d => pl d
def pl3 : D → Prop
  | .tup xs => xs.length ≤ 1000 ∧ ∀ x ∈ xs, pl2 x
  | d => pl d
theorem move_shape {d : D} {m : Int} (h : moveD m d = true) : ∃ a b t c e, d = .tup [a, b, .int t, c, e] := by
  unfold moveD at h
  split at h
  · rename_i a b c d e
    unfold moveL at h
    split at h
    · simp [moveB] at h
      have hw : withinD c m = true := h.2.2.2.2.1
      cases c with
      | int t => exact ⟨_, _, t, _, _, rfl⟩
      | _ => simp [withinD] at hw
    · cases h
  · cases h
theorem fm_all {α : Type} (f : α → Bool) (xs : List α) : xs.filterMap (fun x => some (D.bl (f x))) = xs.map fun x => D.bl (f x) := by
  induction xs with
  | nil => rfl
  | cons x r ih => simp [ih]
section
variable {fns : List (Nat × Fn)} {k : Nat}
structure Base (fns : List (Nat × Fn)) : Prop where
  h0 : fns.lookup 0 = some fn0
  h1 : fns.lookup 1 = some fn1
  h2 : fns.lookup 2 = some fn2
  h3 : fns.lookup 3 = some fn3
  h4 : fns.lookup 4 = some fn4
  h5 : fns.lookup 5 = some fn5
  h6 : fns.lookup 6 = some fn6
theorem Base.move (B : Base fns) (d : D) (h : pl1 d) : callF fns (k + 3) 4 none [d] = some (.ok (.val (.bl (moveD 5 d))), none) := move_of B.h0 B.h1 B.h2 B.h3 B.h4 d h
theorem Base.state (B : Base fns) (d : D) (size : Int) (h : pl2 d) : callF fns (k + 4) 5 none [d, .int size] = some (.ok (.val (.bl (stateD size d))), none) := by
  refine get_of (w_fn B.h5 ⟨rfl, by decide⟩ rfl ?_)
  cases d with
  | scr _ => exact False.elim h
  | fn _ => exact False.elim h
  | obj _ _ => exact False.elim h
  | cls _ => exact False.elim h
  | ctp _ => exact False.elim h
  | str cs =>
    have h' : cs.length ≤ 1000 := h
    simp [fn5, bd5, start0, stateD]
  | tup xs =>
    obtain ⟨hz, hx⟩ := h
    by_cases hl : xs.length ≤ 6
    · have hl' : ¬ (6 : Int) < xs.length := by omega
      simp [fn5, bd5, start0, hl', stateD, hl]
      refine w_lcp (fun m => some (.bl (mS size m))) (by simp) (by simp; omega) ?_ fun z => ?_
      · intro d hd
        have hm := B.move (k := k) d (hx d hd)
        simp [hm, mS]
        cases hmv : moveD 5 d with
        | false => simp
        | true =>
          obtain ⟨a, b, t, c, e, rfl⟩ := move_shape hmv
          simp [tgtD]
      · simp only [fm_all, x_dN, x_toDl, x_toDsm, o_all]
        simp
    · have hl' : (6 : Int) < xs.length := by omega
      simp [fn5, bd5, start0, hl', stateD, hl]
  | _ => simp [fn5, bd5, start0, stateD]
theorem Base.states (B : Base fns) (d : D) (h : pl3 d) : callF fns (k + 5) 6 none [d] = some (.ok (.val (.bl (statesD d))), none) := by
  refine get_of (w_fn B.h6 ⟨rfl, by decide⟩ rfl ?_)
  cases d with
  | scr _ => exact False.elim h
  | fn _ => exact False.elim h
  | obj _ _ => exact False.elim h
  | cls _ => exact False.elim h
  | ctp _ => exact False.elim h
  | str cs => simp [fn6, bd6, start0, statesD]
  | tup xs =>
    obtain ⟨hz, hx⟩ := h
    by_cases hl : 1 ≤ xs.length ∧ xs.length ≤ 6
    · have h1 : ¬ (xs.length : Int) < 1 := by omega
      have h2 : (xs.length : Int) ≤ 6 := by omega
      simp [fn6, bd6, start0, h1, h2, statesD, hl, show (1 : Int) ≤ xs.length by omega]
      refine w_lcp (fun m => some (.bl (stateD xs.length m))) (by simp) (by simp; omega) ?_ fun z => ?_
      · intro d hd
        simp [B.state (k := k) d xs.length (hx d hd)]
      · simp only [fm_all, x_dN, x_toDl, x_toDsm, o_all]
        simp
    · have hs : statesD (.tup xs) = false := by simp only [statesD, decide_eq_false hl, Bool.false_and]
      rw [hs]
      simp [fn6, bd6, start0]
      by_cases h1 : (xs.length : Int) < 1
      · simp [h1, show ¬ (1 : Int) ≤ xs.length by omega]
      · have h2 : ¬ (xs.length : Int) ≤ 6 := by omega
        simp [h1, h2, show (1 : Int) ≤ xs.length by omega]
  | _ => simp [fn6, bd6, start0, statesD]
end
end DI.Sh

namespace DI.Sh
open PySem DI
def alpha : List Nat := [97, 98, 99, 100, 101, 102, 103, 104, 105, 106, 107, 108, 109, 110, 111, 112, 113, 114, 115, 116, 117, 118, 119, 120, 121, 122]
theorem in_alpha (c : Nat) : c ∈ alpha ↔ lower c = true := by
  unfold alpha lower
  simp
  omega
/-- a word: one to eight small letters -/
def Wd (d : D) : Prop := ∃ cs : List Nat, d = .str cs ∧ 1 ≤ cs.length ∧ cs.length ≤ 8 ∧ ∀ c ∈ cs, lower c = true
theorem low_lt {c : Nat} (h : lower c = true) : c < 1000 := by have := of_decide_eq_true h; omega
theorem low_texts : ∀ xs : List D, (∀ x ∈ xs, low x) → ∃ ts : List (List Nat), xs = ts.map D.str ∧ (∀ t ∈ ts, t.length = 1 ∧ ∀ c ∈ t, lower c = true)
  | [], _ => ⟨[], rfl, by simp⟩
  | x :: xs, h => by
    obtain ⟨ts, rfl, h2⟩ := low_texts xs fun y hy => h y (by simp [hy])
    obtain ⟨c, rfl, h3, h4⟩ := h x (by simp)
    exact ⟨[c] :: ts, rfl, by
      intro t ht
      rcases List.mem_cons.mp ht with rfl | ht
      · exact ⟨rfl, by simp; exact decide_eq_true ⟨h3, h4⟩⟩
      · exact h2 t ht⟩
theorem sum_ones : ∀ ts : List (List Nat), (∀ t ∈ ts, t.length = 1 ∧ ∀ c ∈ t, lower c = true) → (ts.map (·.length)).sum = ts.length ∧ ts.flatten.length = ts.length ∧ ∀ c ∈ ts.flatten, lower c = true
  | [], _ => by simp
  | t :: ts, h => by
    obtain ⟨a, b, c⟩ := sum_ones ts fun y hy => h y (by simp [hy])
    obtain ⟨d, e⟩ := h t (by simp)
    refine ⟨by simp [a, d]; omega, by simp [b, d]; omega, ?_⟩
    intro x hx
    simp only [List.flatten_cons, List.mem_append] at hx
    rcases hx with hx | hx
    · exact e x hx
    · exact c x hx
theorem add_W {ys : List D} {w : D} (h : ∀ y ∈ ys, Wd y) (hw : Wd w) : ∀ y ∈ ys ++ [w], Wd y := by
  intro y hy
  rcases List.mem_append.mp hy with hy | hy
  · exact h y hy
  · rw [List.mem_singleton.mp hy]; exact hw
theorem cut_to {cs : List Nat} {p : Nat} (h : p ≤ cs.length) : (cutL cs none (some (p : Int))).length = p := by
  unfold cutL
  rw [HT.sIx_nat]
  simp [HT.sIx_none]
  omega
theorem cut_from {cs : List Nat} {p : Nat} : (cutL cs (some (p : Int)) none).length = cs.length - p := by
  unfold cutL
  rw [HT.sIx_nat]
  simp [HT.sIx_none]
  omega
theorem cut_take {α : Type} {xs : List α} {p : Nat} (h : p ≤ xs.length) : cutL xs none (some (p : Int)) = xs.take p := by
  unfold cutL
  rw [HT.sIx_nat]
  simp [HT.sIx_none, Nat.min_eq_left h]
section
variable {fns : List (Nat × Fn)} {k : Nat}
structure Draws (fns : List (Nat × Fn)) : Prop where
  h11 : fns.lookup 11 = some fn11
  h12 : fns.lookup 12 = some fn12
  h13 : fns.lookup 13 = some fn13
  h14 : fns.lookup 14 = some fn14
  h15 : fns.lookup 15 = some fn15
theorem Draws.draw (B : Draws fns) : DrawOk (callF fns (k + 1)) 11 := draw_of B.h11
theorem Draws.words (B : Draws fns) (n m : Nat) (xs : Ho) (h : Stk n xs) (hn : n ≤ 1000) (hm : m ≤ 26) : wo (callF fns (k + 3) 15 (some xs) [.int m]) fun p => ∃ ys zs, p = (.ok (.val (.lst ys)), some zs) ∧ ys.length = m ∧ (∀ y ∈ ys, Wd y) ∧ Stk (n + 100) zs := by
  refine w_fn B.h15 ⟨rfl, by decide⟩ rfl ?_
  simp [fn15, bd15, start0]
  refine wo_mono (B.draw (k := k + 1) n xs 8 h (by omega) (by omega) (by omega)) ?_
  rintro p ⟨r, st1, rfl, r1, r2, hs1⟩
  simp
  refine ⟨inW_small r1 (by omega), ?_⟩
  refine lc_inv (fun ds acc e => ∃ st z accD, e = [Sl.io st, .val (.int m), .un, .un, .un, .un, .un, z] ∧ acc = accD.map .fz ∧ Stk (n + 1 + acc.length) st ∧ acc.length + ds.length = r.toNat ∧ ∀ x ∈ accD, low x) ?_ ?_ _ _ _
      ⟨st1, .un, [], rfl, rfl, by simpa using hs1, by simp [rng], by simp⟩
  · rintro d' ds' acc env ⟨st, z6, accD, rfl, rfl, h1, h2, h3⟩
    simp only [List.length_cons, List.length_map] at h1 h2
    rw [w_lcT]
    simp
    refine wo_mono (letter_of (k := k + 1) B.h14 (B.draw (k := k)) _ st h1 (by omega)) ?_
    rintro p ⟨y, st', rfl, g1, g2⟩
    simp
    refine ⟨by omega, accD ++ [y], by simp, by rw [← Nat.add_assoc]; exact g2, by omega, ?_⟩
    intro x hx
    rcases List.mem_append.mp hx with hx | hx
    · exact h3 x hx
    · rw [List.mem_singleton.mp hx]; exact g1
  rintro acc e2 ⟨st2, z6, accD, rfl, rfl, hs2, hl, hlow⟩
  obtain ⟨ts, rfl, h1⟩ := low_texts accD hlow
  obtain ⟨s1, s2, s3⟩ := sum_ones ts h1
  simp only [List.length_map, List.length_nil] at hs2 hl
  simp only [x_dN, x_toDl, x_toDsm, o_join [] ts (by rw [s1, o_big]; simp; omega), joinL_nil]
  generalize ts.flatten = text at s2 s3
  simp
  refine wo_mono (B.draw (k := k + 1) _ st2 2 hs2 (by omega) (by omega) (by omega)) ?_
  rintro p ⟨way, st3, rfl, w1, w2, hs3⟩
  simp [show text.length ≤ 1000000 by omega]
  refine wo_mono (B.draw (k := k + 1) _ st3 (text.length + 1) hs3 (by omega) (by omega) (by omega)) ?_
  rintro p ⟨pl, st4, rfl, p1, p2, hs4⟩
  simp
  refine wo_mono (shuf_of (k := k + 1) B.h13 (B.draw (k := k)) _ st4 (alpha.map fun c => D.str [c]) _ hs4 (by omega) (by decide) rfl rfl) ?_
  rintro p ⟨zs, st5, rfl, l1, l2, hs5⟩
  have l3 : zs.length = 26 := l1.trans (by decide)
  have l4 : (alpha.map fun c => D.str [c]).length = 26 := by decide
  rw [l4] at hs5
  simp
  rw [cut_take (by omega)]
  have hzs : ∀ z ∈ zs.take m, ∃ c, z = .str [c] ∧ lower c = true := fun z hz => by
    obtain ⟨c, hc, rfl⟩ := List.mem_map.mp (l2 z (List.mem_of_mem_take hz))
    exact ⟨c, rfl, (in_alpha c).mp hc⟩
  have c1 := len_cutTo text pl
  have c2 := len_cutFrom text pl
  have cpl : (cutL text none (some pl)).length + (cutL text (some pl) none).length = text.length := by
    obtain ⟨m, rfl⟩ : ∃ m : Nat, pl = (m : Int) := ⟨pl.toNat, by omega⟩
    rw [cut_to (by omega), cut_from]
    omega
  refine for_inv (fun ds e => ∃ (st : Ho) (ys : List D) (z6 : Sl) (j : Nat), e = [Sl.io st, .val (.int m), .val (.str text), .val (.int way), .own (.ls (ys.map .fz)), .val (.int pl), z6, .un] ∧ freeS (some z6) = true ∧ Stk (n + 1 + ts.length + 1 + 1 + 26 + j) st ∧ j + ds.length = m ∧ ys.length = j ∧ (∀ y ∈ ys, Wd y) ∧ ∀ d ∈ ds, ∃ c, d = .str [c] ∧ lower c = true) ?_ ?_ _ _
    ⟨st5, [], .un, 0, rfl, rfl, by simpa using hs5, by simp [l3]; omega, rfl, by simp, hzs⟩
  · rintro d ds env ⟨st, ys, z6, j, rfl, hz6, hs, hm', hy, hW, hd⟩
    obtain ⟨c, rfl, hc⟩ := hd d (by simp)
    simp only [List.length_cons] at hm'
    simp [hz6]
    show wSs _ _ _ _ _
    simp [show text.length ≤ 1000000 by omega]
    split
    · refine ⟨by omega, by omega, by omega, st, ys ++ [.str (cutL text none (some pl) ++ c :: cutL text (some pl) none)], _, ⟨rfl, by simp, rfl⟩, rfl, j + 1, hs.mono (by omega), by omega, by simp [hy], add_W hW ?_, fun d hd' => hd d (List.mem_cons_of_mem _ hd')⟩
      refine ⟨_, rfl, by simp; omega, by simp; omega, ?_⟩
      intro x hx
      simp only [List.mem_append, List.mem_cons] at hx
      rcases hx with hx | rfl | hx
      · exact s3 x (mem_cut hx)
      · exact hc
      · exact s3 x (mem_cut hx)
    · refine wo_mono (B.draw (k := k + 1) _ st (text.length + 1) hs (by omega) (by omega) (by omega)) ?_
      rintro p ⟨q, st6, rfl, q1, q2, hs6⟩
      have c3 := len_cutTo text q
      simp [show text.length ≤ 1000000 by omega]
      refine ⟨by omega, by omega, st6, ys ++ [.str (c :: cutL text none (some q))], _, ⟨rfl, by simp, rfl⟩, rfl, j + 1, hs6, by omega, by simp [hy], add_W hW ?_, fun d hd' => hd d (List.mem_cons_of_mem _ hd')⟩
      refine ⟨_, rfl, by simp, by simp; omega, ?_⟩
      intro x hx
      simp only [List.mem_cons] at hx
      rcases hx with rfl | hx
      · exact hc
      · exact s3 x (mem_cut hx)
  · rintro env ⟨st, ys, z6, j, rfl, hz6, hs, hm', hy, hW, hd⟩
    simp
    exact ⟨ys, st, ⟨rfl, rfl⟩, by simpa [hy] using hm', hW, hs.mono (by simp at hm'; omega)⟩
end
end DI.Sh

namespace DI.Sh
open PySem DI
/-! ### what may be shown -/
theorem okShow_of {d : D} (h1 : plain d = true) (h2 : (toPy d).showable = true) (h3 : (toPy d).leavesShort 13 = true) (h4 : (toPy d).weight ≤ 60000) (h5 : (toPy d).depth ≤ 60) : okShow d = true := by
  have h := PyData.shown_le 13 (by decide) (toPy d) h3
  have hs : (toPy d).shown.length ≤ sizeLine := by
    refine Nat.le_trans ?_ big_le
    unfold big
    omega
  simp only [okShow, h1, h2, decide_eq_true hs, decide_eq_true h5, Bool.and_true, Bool.true_and]
theorem short_dig : ∀ n ∈ List.range 10, (PyData.shown (.int (n : Nat))).length ≤ 13 := by decide +kernel
theorem log_dig : ∀ n ∈ List.range 10, (n : Nat).log2 < 1920 := by decide +kernel
theorem dig {t : Int} (h0 : 0 ≤ t) (h1 : t ≤ 9) : (PyData.shown (.int t)).length ≤ 13 ∧ t.natAbs.log2 < 1920 ∧ (if t == 0 then 0 else t.natAbs.log2 + 1) ≤ 1920 := by
  obtain ⟨n, rfl⟩ : ∃ n : Nat, t = (n : Int) := ⟨t.toNat, by omega⟩
  have a := short_dig n (List.mem_range.mpr (by omega))
  have b := log_dig n (List.mem_range.mpr (by omega))
  refine ⟨a, by simpa using b, ?_⟩
  split
  · omega
  · simp
    omega
/-- a part of a move that may be shown -/
structure ShowP (n : Nat) (d : D) : Prop where
  pl : plain d = true
  sh : (toPy d).showable = true
  le : (toPy d).leavesShort 13 = true
  we : (toPy d).weight ≤ n
  de : (toPy d).depth = 0
theorem showP_non : ShowP 0 .non := ⟨by simp [plain], by simp [toPy, PyData.showable], by simp [toPy, PyData.leavesShort], by simp [toPy, PyData.weight], by simp [toPy, PyData.depth]⟩
theorem showP_str {cs : List Nat} (h : ∀ c ∈ cs, c < 1000) : ShowP cs.length (.str cs) := by
  refine ⟨by simp [plain], by simp [toPy, PyData.showable], ?_, by simp [toPy, PyData.weight, sOf], by simp [toPy, PyData.depth]⟩
  simp [toPy, PyData.leavesShort, sOf]
  intro c hc
  have := h c hc
  omega
theorem showP_dig {t : Int} (h0 : 0 ≤ t) (h1 : t ≤ 9) : ShowP 1920 (.int t) := by
  obtain ⟨a, b, c⟩ := dig h0 h1
  exact ⟨by simp [plain], by simp [toPy, PyData.showable]; exact b, by simp [toPy, PyData.leavesShort]; exact a, by simp only [toPy, PyData.weight]; exact c, by simp [toPy, PyData.depth]⟩
theorem inS_of {a : List Nat} : ∀ {ds : List D}, inS a ds = true → .str a ∈ ds
  | [], h => by cases h
  | d :: r, h => by
    cases d with
    | str b =>
      simp only [inS, Bool.or_eq_true, decide_eq_true_eq] at h
      rcases h with rfl | h
      · exact List.mem_cons_self
      · exact List.mem_cons_of_mem _ (inS_of h)
    | _ => exact List.mem_cons_of_mem _ (inS_of (by simpa [inS] using h))
/-- the parts of a move -/
structure Mv (m : Int) (d : D) : Prop where
  ex : ∃ a b t p e, d = .tup [.str a, b, .int t, .int p, e] ∧ inS a acts4 = true ∧ ((inS a acts2 = true ∧ wordD b = true) ∨ (inS a acts2 = false ∧ b = .non)) ∧ (0 ≤ t ∧ t ≤ m) ∧ (0 ≤ p ∧ p ≤ 9) ∧ (e = .non ∨ e = .str sSave ∨ (e = .str sNote ∧ a = sTake))
theorem word_str {d : D} (h : wordD d = true) : ∃ cs, d = .str cs ∧ 1 ≤ cs.length ∧ cs.length ≤ 8 ∧ ∀ c ∈ cs, lower c = true := by
  cases d with
  | str cs =>
    simp [wordD] at h
    exact ⟨cs, rfl, h.1.1, h.1.2, h.2⟩
  | _ => simp [wordD] at h
theorem keep_str {d : D} (h : keepD d = true) : d = .non ∨ d = .str sNote ∨ d = .str sSave := by
  cases d with
  | non => exact .inl rfl
  | str cs =>
    simp [keepD] at h
    rcases h with rfl | rfl
    · exact .inr (.inl rfl)
    · exact .inr (.inr rfl)
  | _ => simp [keepD] at h
theorem within_int {d : D} {m : Int} (h : withinD d m = true) : ∃ t, d = .int t ∧ 0 ≤ t ∧ t ≤ m := by
  cases d with
  | int t => simp [withinD] at h; exact ⟨t, rfl, h.1, h.2⟩
  | _ => simp [withinD] at h
theorem isNon_of {d : D} (h : isNon d = true) : d = .non := by cases d <;> first | rfl | cases h
theorem mv_of {m : Int} {d : D} (h : moveD m d = true) : Mv m d := by
  unfold moveD at h
  split at h
  · rename_i x b c p e
    unfold moveL at h
    split at h
    · rename_i a
      simp only [moveB, Bool.and_eq_true] at h
      obtain ⟨h1, h2, h3, h4, h5, h6⟩ := h
      obtain ⟨t, rfl, t1, t2⟩ := within_int h5
      obtain ⟨q, rfl, q1, q2⟩ := within_int h6
      refine ⟨a, b, t, q, e, rfl, h1, ?_, ⟨t1, t2⟩, ⟨q1, q2⟩, ?_⟩
      · cases hL : inS a acts2 with
        | true => rw [hL] at h3; exact .inl ⟨rfl, h3⟩
        | false => rw [hL] at h3; exact .inr ⟨rfl, isNon_of (by simpa using h3)⟩
      · rcases keep_str h2 with rfl | rfl | rfl
        · exact .inl rfl
        · refine .inr (.inr ⟨rfl, ?_⟩)
          simpa [eqN] using h4
        · exact .inr (.inl rfl)
    · cases h
  · cases h
theorem mv_show {m : Int} {d : D} (h : Mv m d) (hm : m ≤ 9) : plain d = true ∧ (toPy d).showable = true ∧ (toPy d).leavesShort 13 = true ∧ (toPy d).weight ≤ 4000 ∧ (toPy d).depth ≤ 1 := by
  obtain ⟨a, b, t, p, e, rfl, h1, h2, h3, h4, h5⟩ := h.ex
  have sa : ShowP 6 (.str a) := by
    have : .str a ∈ acts4 := inS_of h1
    simp only [acts4, List.mem_cons, D.str.injEq, List.not_mem_nil, or_false] at this
    rcases this with rfl | rfl | rfl | rfl <;> exact (fun {n m : Nat} {d : D} (h : ShowP n d) (hh : n ≤ m) => (⟨h.pl, h.sh, h.le, Nat.le_trans h.we hh, h.de⟩ : ShowP m d)) (showP_str (by decide)) (by decide)
  have sb : ShowP 8 b := by
    rcases h2 with ⟨_, hw⟩ | ⟨_, rfl⟩
    · obtain ⟨cs, rfl, c1, c2, c3⟩ := word_str hw
      have := showP_str fun c hc => low_lt (c3 c hc)
      exact ⟨this.pl, this.sh, this.le, Nat.le_trans this.we c2, this.de⟩
    · have := showP_non
      exact ⟨this.pl, this.sh, this.le, Nat.le_trans this.we (by decide), this.de⟩
  have st := showP_dig h3.1 (by omega : t ≤ 9)
  have sp := showP_dig h4.1 h4.2
  have se : ShowP 4 e := by
    rcases h5 with rfl | rfl | ⟨rfl, _⟩
    · have := showP_non
      exact ⟨this.pl, this.sh, this.le, Nat.le_trans this.we (by decide), this.de⟩
    · exact showP_str (cs := sSave) (by decide)
    · exact showP_str (cs := sNote) (by decide)
  have w1 := sa.we
  have w2 := sb.we
  have w3 := st.we
  have w4 := sp.we
  have w5 := se.we
  refine ⟨?_, ?_, ?_, ?_, ?_⟩
  · simp only [plain, plains, sa.pl, sb.pl, st.pl, sp.pl, se.pl, Bool.and_true]
  · simp only [toPy, toPys, PyData.showable, PyData.showableAll]
    have a1 := sa.sh; have a2 := sb.sh; have a3 := st.sh; have a4 := sp.sh; have a5 := se.sh
    simp only [toPy, PyData.showable] at a1 a3 a4
    simp only [a2, a3, a4, a5, Bool.and_true]
  · simp only [toPy, toPys, PyData.leavesShort, PyData.leavesShortAll]
    have a1 := sa.le; have a2 := sb.le; have a3 := st.le; have a4 := sp.le; have a5 := se.le
    simp only [toPy, PyData.leavesShort] at a1 a3 a4
    simp only [a1, a2, a3, a4, a5, Bool.and_true]
  · simp only [toPy, toPys, PyData.weight, PyData.weightAll] at w1 w3 w4 ⊢
    omega
  · have d1 := sa.de; have d2 := sb.de; have d3 := st.de; have d4 := sp.de; have d5 := se.de
    simp only [toPy, toPys, PyData.depth, PyData.depthAll] at d1 d3 d4 ⊢
    simp [d2, d5]
theorem nest_show {d : D} (h : plain d = true ∧ (toPy d).showable = true ∧ (toPy d).leavesShort 13 = true ∧ (toPy d).weight ≤ 4000 ∧ (toPy d).depth ≤ 1) : okShow (.tup [.tup [d]]) = true := by
  obtain ⟨h1, h2, h3, h4, h5⟩ := h
  refine okShow_of ?_ ?_ ?_ ?_ ?_
  · simp only [plain, plains, h1, Bool.and_true]
  · simp only [toPy, toPys, PyData.showable, PyData.showableAll, h2, Bool.and_true]
  · simp only [toPy, toPys, PyData.leavesShort, PyData.leavesShortAll, h3, Bool.and_true]
  · simp only [toPy, toPys, PyData.weight, PyData.weightAll]; omega
  · simp only [toPy, toPys, PyData.depth, PyData.depthAll]; omega
end DI.Sh

namespace DI.Sh
open PySem DI
/-! ### more defs that laws share: machines, the law's own look at moves, drawn rows -/
def bd7 : Ss := (.cons (.ifs (.not (.val (.call 6 (.cons (.var 1) .nil)))) (.cons (.rs 1 none (.con (.str [111, 110, 101, 32, 116, 111, 32, 115, 105, 120, 32, 116, 117, 112, 108, 101, 115, 32, 111, 102, 32, 109, 111, 118, 101, 115, 32, 97, 114, 101, 32, 101, 120, 112, 101, 99, 116, 101, 100]))) .nil) .nil) (.cons (.setf 0 1 [2] (.var 1)) .nil))
def fn7 : Fn := ⟨true, true, 2, 2, bd7, .no⟩
def bd8 : Ss := (.cons (.ifs (.not (.val (.call 6 (.cons (.var 1) .nil)))) (.cons (.rs 1 none (.con (.str [97, 32, 116, 117, 112, 108, 101, 32, 111, 102, 32, 111, 110, 101, 32, 116, 111, 32, 115, 105, 120, 32, 116, 117, 112, 108, 101, 115, 32, 111, 102, 32, 109, 111, 118, 101, 115, 32, 105, 115, 32, 101, 120, 112, 101, 99, 116, 101, 100]))) .nil) .nil) (.cons (.ret (.mkv 0 [(2, 7)] (.star (.var 1) .nil))) .nil))
def fn8 : Fn := ⟨false, false, 2, 2, bd8, .no⟩
def bd9 : Ss := (.cons (.ret (.fld1 0 1 [2])) .nil)
def fn9 : Fn := ⟨false, false, 1, 1, bd9, .no⟩
def bd16 : Ss := (.cons (.ifs (.or (.not (.val (.op (.isi "str") (.cons (.var 0) .nil)))) (.or (.val (.op .eq (.cons (.len1 0 []) (.cons (.con (.int 0)) .nil)))) (.val (.op .gt (.cons (.len1 0 []) (.cons (.con (.int 8)) .nil)))))) (.cons (.ret (.con (.bl false))) .nil) .nil) (.cons (.ret (.op .eq (.cons (.lc (.nm 1) (.seq (.var 0)) (.val (.op .notin (.cons (.var 1) (.cons (.con (.str [97, 98, 99, 100, 101, 102, 103, 104, 105, 106, 107, 108, 109, 110, 111, 112, 113, 114, 115, 116, 117, 118, 119, 120, 121, 122])) .nil)))) (.var 1)) (.cons (.lst .nil) .nil)))) .nil))
def fn16 : Fn := ⟨false, false, 1, 2, bd16, .no⟩
def bd17 : Ss := (.cons (.ret (.andb (.op (.isi "int") (.cons (.var 0) .nil)) (.andb (.notb (.op (.isi "bool") (.cons (.var 0) .nil))) (.andb (.op .le (.cons (.con (.int 0)) (.cons (.var 0) .nil))) (.op .le (.cons (.var 0) (.cons (.var 1) .nil))))))) .nil)
def fn17 : Fn := ⟨false, false, 2, 2, bd17, .no⟩
def bd18 : Ss := (.cons (.ifs (.or (.not (.val (.op (.isi "tuple") (.cons (.var 0) .nil)))) (.val (.op .ne (.cons (.len1 0 []) (.cons (.con (.int 5)) .nil))))) (.cons (.ret (.con (.bl false))) .nil) .nil) (.cons (.upk [.nm 2, .nm 3, .nm 4, .nm 5, .nm 6] (.var 0)) (.cons (.ifs (.or (.not (.val (.op (.isi "str") (.cons (.var 2) .nil)))) (.val (.op .notin (.cons (.var 2) (.cons (.lst (.cons (.con (.str [111, 117, 116, 112, 117, 116])) (.cons (.con (.str [115, 101, 110, 100])) (.cons (.con (.str [116, 97, 107, 101])) (.cons (.con (.str [119, 111, 114, 107])) .nil))))) .nil))))) (.cons (.ret (.con (.bl false))) .nil) .nil) (.cons (.ifs (.or (.and (.val (.op .isin (.cons (.var 2) (.cons (.lst (.cons (.con (.str [115, 101, 110, 100])) (.cons (.con (.str [116, 97, 107, 101])) .nil))) .nil)))) (.not (.val (.call 16 (.cons (.var 3) .nil))))) (.and (.val (.op .notin (.cons (.var 2) (.cons (.lst (.cons (.con (.str [115, 101, 110, 100])) (.cons (.con (.str [116, 97, 107, 101])) .nil))) .nil)))) (.val (.op .notn (.cons (.var 3) (.cons (.con .non) .nil)))))) (.cons (.ret (.con (.bl false))) .nil) .nil) (.cons (.ifs (.or (.not (.val (.call 17 (.cons (.var 4) (.cons (.op .sub (.cons (.var 1) (.cons (.con (.int 1)) .nil))) .nil))))) (.not (.val (.call 17 (.cons (.var 5) (.cons (.con (.int 9)) .nil)))))) (.cons (.ret (.con (.bl false))) .nil) .nil) (.cons (.ifs (.val (.op .isn (.cons (.var 6) (.cons (.con .non) .nil)))) (.cons (.ret (.con (.bl true))) .nil) .nil) (.cons (.ret (.andb (.op (.isi "str") (.cons (.var 6) .nil)) (.orb (.op .eq (.cons (.var 6) (.cons (.con (.str [115, 97, 118, 101])) .nil))) (.andb (.op .eq (.cons (.var 6) (.cons (.con (.str [110, 111, 116, 101])) .nil))) (.op .eq (.cons (.var 2) (.cons (.con (.str [116, 97, 107, 101])) .nil))))))) .nil)))))))
def fn18 : Fn := ⟨false, false, 2, 7, bd18, .no⟩
def bd24 : Ss := (.cons (.set 4 (.op .add (.cons (.op .add (.cons (.lst (.cons (.op .tup (.cons (.con (.str [119, 111, 114, 107])) (.cons (.con .non) .nil))) (.cons (.op .tup (.cons (.con (.str [111, 117, 116, 112, 117, 116])) (.cons (.con .non) .nil))) .nil))) (.cons (.lc (.nm 6) (.seq (.var 2)) .yes (.op .tup (.cons (.con (.str [115, 101, 110, 100])) (.cons (.var 6) .nil)))) .nil))) (.cons (.lc (.nm 6) (.seq (.var 3)) .yes (.op .tup (.cons (.con (.str [116, 97, 107, 101])) (.cons (.var 6) .nil)))) .nil)))) (.cons (.upk [.nm 5, .nm 6] (.callio 12 0 (.cons (.var 4) .nil))) (.cons (.set 7 (.callio 12 0 (.cons (.ife (.val (.op .eq (.cons (.var 5) (.cons (.con (.str [116, 97, 107, 101])) .nil)))) (.lst (.cons (.con .non) (.cons (.con .non) (.cons (.con (.str [115, 97, 118, 101])) (.cons (.con (.str [110, 111, 116, 101])) .nil))))) (.lst (.cons (.con .non) (.cons (.con .non) (.cons (.con (.str [115, 97, 118, 101])) .nil))))) .nil))) (.cons (.ret (.op .tup (.cons (.var 5) (.cons (.var 6) (.cons (.callio 11 0 (.cons (.var 1) .nil)) (.cons (.callio 11 0 (.cons (.con (.int 10)) .nil)) (.cons (.var 7) .nil))))))) .nil))))
def fn24 : Fn := ⟨true, false, 4, 8, bd24, .no⟩
def bd25 : Ss := (.cons (.set 5 (.lst .nil)) (.cons (.for_ (.nm 6) (.rng1 (.var 3)) (.cons (.app1 5 (.op .tupof (.cons (.lc (.nm 7) (.rng1 (.callio 11 0 (.cons (.op .add (.cons (.var 4) (.cons (.con (.int 1)) .nil))) .nil))) .yes (.callio 24 0 (.cons (.var 3) (.cons (.var 1) (.cons (.var 2) .nil))))) .nil))) .nil)) (.cons (.ret (.var 5)) .nil)))
def fn25 : Fn := ⟨true, false, 5, 8, bd25, .no⟩
/-! ### data that can be shown and compared -/
structure Gd (n m : Nat) (d : D) : Prop where
  pl : plain d = true
  cl : (toPy d).canLay0 = true
  sh : (toPy d).showable = true
  le : (toPy d).leavesShort 100 = true
  bu : (toPy d).bulk ≤ n
  de : (toPy d).depth ≤ m
theorem Gd.mono {n m n' m' : Nat} {d : D} (h : Gd n m d) (h1 : n ≤ n') (h2 : m ≤ m') : Gd n' m' d := ⟨h.pl, h.cl, h.sh, h.le, Nat.le_trans h.bu h1, Nat.le_trans h.de h2⟩
theorem gds {n m : Nat} : ∀ {xs : List D}, (∀ x ∈ xs, Gd n m x) → plains xs = true ∧ PyData.canLayAll0 (toPys xs) = true ∧ PyData.showableAll (toPys xs) = true ∧ PyData.leavesShortAll 100 (toPys xs) = true ∧ PyData.bulkAll (toPys xs) ≤ xs.length * (n + 1) ∧ PyData.depthAll (toPys xs) ≤ m
  | [], _ => by simp [plains, toPys, PyData.canLayAll0, PyData.showableAll, PyData.leavesShortAll, PyData.bulkAll, PyData.depthAll]
  | x :: xs, h => by
    have g := h x (by simp)
    obtain ⟨a, b, c, d, e, f⟩ := gds (n := n) (m := m) (xs := xs) fun y hy => h y (by simp [hy])
    have g5 := g.bu
    have g6 := g.de
    have e1 : (xs.length + 1) * (n + 1) = xs.length * (n + 1) + (n + 1) := by rw [Nat.add_mul]; simp
    refine ⟨by simp [plains, g.pl, a], by simp [toPys, PyData.canLayAll0, g.cl, b], by simp [toPys, PyData.showableAll, g.sh, c], by simp [toPys, PyData.leavesShortAll, g.le, d], ?_, ?_⟩
    · simp only [toPys, PyData.bulkAll, List.length_cons]
      omega
    · simp only [toPys, PyData.depthAll]
      omega
theorem gd_tup {n m L : Nat} {xs : List D} (h : ∀ x ∈ xs, Gd n m x) (hl : xs.length ≤ L) : Gd (L * (n + 1)) (m + 1) (.tup xs) := by
  obtain ⟨a, b, c, d, e, f⟩ := gds h
  refine ⟨by simp [plain, a], by simp [toPy, PyData.canLay0, b], by simp [toPy, PyData.showable, c], by simp [toPy, PyData.leavesShort, d], ?_, ?_⟩
  · simp only [toPy, PyData.bulk]
    exact Nat.le_trans e (Nat.mul_le_mul_right _ hl)
  · simp only [toPy, PyData.depth]
    omega
theorem gd_lst {n m L : Nat} {xs : List D} (h : ∀ x ∈ xs, Gd n m x) (hl : xs.length ≤ L) : Gd (L * (n + 1)) (m + 1) (.lst xs) := by
  obtain ⟨a, b, c, d, e, f⟩ := gds h
  refine ⟨by simp [plain, a], by simp [toPy, PyData.canLay0, b], by simp [toPy, PyData.showable, c], by simp [toPy, PyData.leavesShort, d], ?_, ?_⟩
  · simp only [toPy, PyData.bulk]
    exact Nat.le_trans e (Nat.mul_le_mul_right _ hl)
  · simp only [toPy, PyData.depth]
    omega
theorem Gd.show {n m : Nat} {d : D} (h : Gd n m d) (h1 : n ≤ 9000) (h2 : m ≤ 60) : okShow d = true := by
  have b := PyData.shown_le_bulk 100 (by decide) (toPy d) h.le
  have g := h.bu
  have g2 := h.de
  have hs : (toPy d).shown.length ≤ sizeLine := by
    refine Nat.le_trans ?_ big_le
    unfold big
    omega
  simp only [okShow, h.pl, h.sh, decide_eq_true hs, decide_eq_true (Nat.le_trans g2 h2), Bool.and_true, Bool.true_and]
theorem Gd.eq {n m : Nat} {d : D} (h : Gd n m d) (h2 : m ≤ 60) : okEq d = true := by
  have g2 := h.de
  simp only [okEq, SeqAt.shaped, h.pl, h.cl, decide_eq_true (Nat.le_trans g2 (Nat.le_trans h2 (by decide : 60 ≤ 64))), Bool.and_true]
/-- a leaf: none, a bool, a small number or 10 ** 60, a short text -/
def Lf : D → Prop
  | .non => True
  | .bl _ => True
  | .int t => (-1 ≤ t ∧ t ≤ 20) ∨ t = 10 ^ 60
  | .str cs => cs.length ≤ 8 ∧ ∀ c ∈ cs, c < 1000
  | _ => False
theorem int_few : ∀ n ∈ List.range 22, (PyData.shown (.int ((n : Nat) - 1 : Int))).length ≤ 100 ∧ ((n : Nat) - 1 : Int).natAbs.log2 < 1920 := by decide +kernel
theorem int_great : (PyData.shown (.int (10 ^ 60))).length ≤ 100 ∧ (10 ^ 60 : Int).natAbs.log2 < 1920 := by decide +kernel
theorem Lf.gd {d : D} (h : Lf d) : Gd 8 0 d := by
  cases d with
  | non => exact ⟨by simp [plain], by simp [toPy, PyData.canLay0], by simp [toPy, PyData.showable], by simp [toPy, PyData.leavesShort], by simp [toPy, PyData.bulk], by simp [toPy, PyData.depth]⟩
  | bl b => exact ⟨by simp [plain], by simp [toPy, PyData.canLay0], by simp [toPy, PyData.showable], by simp [toPy, PyData.leavesShort], by simp [toPy, PyData.bulk], by simp [toPy, PyData.depth]⟩
  | int t =>
    have key : (PyData.shown (.int t)).length ≤ 100 ∧ t.natAbs.log2 < 1920 := by
      rcases h with ⟨h1, h2⟩ | rfl
      · obtain ⟨n, rfl⟩ : ∃ n : Nat, t = (n : Int) - 1 := ⟨(t + 1).toNat, by omega⟩
        exact int_few n (List.mem_range.mpr (by omega))
      · exact int_great
    exact ⟨by simp [plain], by simp [toPy, PyData.canLay0], by simp [toPy, PyData.showable]; exact key.2, by simp [toPy, PyData.leavesShort]; exact key.1, by simp [toPy, PyData.bulk], by simp [toPy, PyData.depth]⟩
  | str cs =>
    obtain ⟨h1, h2⟩ := h
    refine ⟨by simp [plain], ?_, by simp [toPy, PyData.showable], ?_, by simp [toPy, PyData.bulk, sOf]; exact h1, by simp [toPy, PyData.depth]⟩
    · simp [toPy, PyData.canLay0, PyData.strOk, sOf]
      intro c hc
      have := h2 c hc
      omega
    · simp [toPy, PyData.leavesShort, sOf]
      intro c hc
      have := h2 c hc
      omega
  | _ => exact False.elim h
/-- a text's signs are small -/
def plc : D → Prop
  | .str cs => cs.length ≤ 1000 ∧ ∀ c ∈ cs, c < 1000
  | d => pl d
theorem plc_pl {d : D} (h : plc d) : pl d := by
  cases d <;> first | exact h | exact h.1
theorem Lf.plc {d : D} (h : Lf d) : plc d := by
  cases d with
  | str cs => exact ⟨Nat.le_trans h.1 (by decide), h.2⟩
  | _ => first | exact trivial | exact False.elim h
theorem Wd.lf {d : D} (h : Wd d) : Lf d := by
  obtain ⟨cs, rfl, h1, h2, h3⟩ := h
  exact ⟨h2, fun c hc => low_lt (h3 c hc)⟩
/-! ### small things -/
@[simp] theorem toDs_app : ∀ a b : List Ho, toDs (a ++ b) = toDs a ++ toDs b
  | [], _ => rfl
  | x :: r, b => by simp [toDs_app r b]
theorem ixN_in {n : Nat} {j : Int} (h0 : 0 ≤ j) (h1 : j < n) : L2.ixN n j = some j.toNat := by
  unfold L2.ixN
  rw [if_pos h0, if_pos h1]
theorem fm_none (xs : List D) : (xs.filterMap fun _ => (none : Option D)) = [] := by
  induction xs with
  | nil => rfl
  | cons x r ih => simp [ih]
def at_ : Nat → Ss → S
  | 0, .cons a _ => a
  | n + 1, .cons _ r => at_ n r
  | _, .nil => .pass
def forB : S → Ss
  | .for_ _ _ b => b
  | _ => .nil
theorem wI_mono {cf : CF} {i : I} {env : Ev} {X X' : Xc → Ev → Prop} {Q Q' : R → Ev → Prop} (h : wI cf i env X Q) (k : ∀ a e, Q a e → Q' a e) (l : ∀ x e, X x e → X' x e) : wI cf i env X' Q' := wr_mono h k l
def gOdd : D → Option D
  | .str [c] => if lower c = true then none else some (.str [c])
  | _ => none
theorem odd_map : ∀ cs : List Nat, (cs.map fun c => D.str [c]).filterMap gOdd = (cs.filter fun c => !lower c).map fun c => D.str [c]
  | [] => rfl
  | c :: r => by
    have h := odd_map r
    simp only [List.map_cons, List.filterMap_cons, gOdd, List.filter_cons]
    cases lower c <;> simp [h]
theorem filt_all (f : Nat → D) (p : Nat → Bool) : ∀ cs : List Nat, ((cs.filter fun c => !p c).map f).isEmpty = cs.all p
  | [] => rfl
  | c :: r => by
    have h := filt_all f p r
    rw [List.filter_cons, List.all_cons]
    cases p c with
    | true => simpa using h
    | false => simp
theorem notin_low (c : Nat) : opD .notin [.str [c], .str [97, 98, 99, 100, 101, 102, 103, 104, 105, 106, 107, 108, 109, 110, 111, 112, 113, 114, 115, 116, 117, 118, 119, 120, 121, 122]] = bl (!lower c) := by
  rw [o_notin, in_low]
structure Look (fns : List (Nat × Fn)) : Prop where
  h16 : fns.lookup 16 = some fn16
  h17 : fns.lookup 17 = some fn17
  h18 : fns.lookup 18 = some fn18
structure Mach (fns : List (Nat × Fn)) : Prop extends Base fns where
  h7 : fns.lookup 7 = some fn7
  h8 : fns.lookup 8 = some fn8
  h9 : fns.lookup 9 = some fn9
section
variable {fns : List (Nat × Fn)}
theorem Look.spelled (L : Look fns) (k : Nat) (d : D) (h : plc d) : callF fns (k + 1) 16 none [d] = some (.ok (.val (.bl (wordD d))), none) := by
  refine get_of (w_fn L.h16 ⟨rfl, by decide⟩ rfl ?_)
  cases d with
  | scr _ => exact False.elim h
  | fn _ => exact False.elim h
  | obj _ _ => exact False.elim h
  | cls _ => exact False.elim h
  | ctp _ => exact False.elim h
  | str cs =>
    obtain ⟨h1, h2⟩ := h
    obtain ⟨b, hb⟩ : ∃ b : Bool, b = wordD (.str cs) := ⟨_, rfl⟩
    rw [← hb]
    have no : ¬ (1 ≤ cs.length ∧ cs.length ≤ 8) → b = false := fun h => by rw [hb, wordD, decide_eq_false h]; rfl
    have yes : (1 ≤ cs.length ∧ cs.length ≤ 8) → b = cs.all lower := fun h => by rw [hb, wordD, decide_eq_true h]; rfl
    clear hb
    simp [fn16, bd16, start0, show cs.length ≤ 1000000 by omega]
    split
    · rename_i e
      exact no (by rw [e]; simp)
    · rename_i e
      have e' : 1 ≤ cs.length := by
        cases cs with
        | nil => exact absurd rfl e
        | cons => simp
      split
      · exact no (by omega)
      · rename_i e2
        refine w_lcp gOdd (by simp) (by simp; omega) ?_ fun z => ?_
        · intro d hd
          obtain ⟨c, hc, rfl⟩ := List.mem_map.mp hd
          simp [gOdd, notin_low, -o_notin]
        · simp only [odd_map, x_dN, x_toDl, x_toDsm]
          have hq : okEq (.lst ((cs.filter fun c => !lower c).map fun c => D.str [c])) = true := okEq_lst fun x hx => by
            obtain ⟨c, hc, rfl⟩ := List.mem_map.mp hx
            have := h2 c (List.mem_filter.mp hc).1
            simp [simple, charsOk]
            omega
          rw [o_eq_nil hq, wo_bl, yes ⟨e', by omega⟩, filt_all]
  | _ => simp [fn16, bd16, start0, wordD]
theorem Look.below (L : Look fns) (k : Nat) (d : D) (m : Int) (h : pl d) : callF fns (k + 1) 17 none [d, .int m] = some (.ok (.val (.bl (withinD d m))), none) := by
  refine get_of (w_fn L.h17 ⟨rfl, by decide⟩ rfl ?_)
  cases d with
  | scr _ => exact False.elim h
  | fn _ => exact False.elim h
  | obj _ _ => exact False.elim h
  | cls _ => exact False.elim h
  | ctp _ => exact False.elim h
  | int i =>
    simp [fn17, bd17, start0, withinD]
    by_cases h1 : 0 ≤ i <;> simp [h1]
    omega
  | _ => simp [fn17, bd17, start0, withinD]
/-- what the law's own look at a move tells -/
theorem Look.fine (L : Look fns) (k : Nat) (d : D) (size : Int) (h : pl1 d) (hc : ∀ xs, d = .tup xs → ∀ x ∈ xs, plc x) : callF fns (k + 2) 18 none [d, .int size] = some (.ok (.val (.bl (moveD (size - 1) d))), none) := by
  refine get_of (w_fn L.h18 ⟨rfl, by decide⟩ rfl ?_)
  cases d with
  | scr _ => exact False.elim h
  | fn _ => exact False.elim h
  | obj _ _ => exact False.elim h
  | cls _ => exact False.elim h
  | ctp _ => exact False.elim h
  | tup xs =>
    by_cases hl : xs.length = 5
    · obtain ⟨a, b, c, d, e, rfl⟩ := five hl
      have pa : plc a := hc _ rfl a (by simp)
      have pb : plc b := hc _ rfl b (by simp)
      have pc : pl c := h c (by simp)
      have pd : pl d := h d (by simp)
      have pe : pl e := h e (by simp)
      have hb := L.spelled k b pb
      have hcc := L.below k c (size - 1) pc
      have hd := L.below k d 9 pd
      cases a with
      | scr _ => exact False.elim pa
      | fn _ => exact False.elim pa
      | obj _ _ => exact False.elim pa
      | cls _ => exact False.elim pa
      | ctp _ => exact False.elim pa
      | str a =>
        generalize hq5 : withinD c (size - 1) = q5 at hcc
        generalize hq9 : withinD d 9 = q9 at hd
        generalize hqw : wordD b = qw at hb
        cases e with
        | scr _ => exact False.elim pe
        | fn _ => exact False.elim pe
        | obj _ _ => exact False.elim pe
        | cls _ => exact False.elim pe
        | ctp _ => exact False.elim pe
        | non =>
          simp [fn18, bd18, start0, hb, hcc, hd, moveD, moveL, moveB, keepD, eqN, hq5, hq9, hqw]
          generalize inS a _ = qa
          generalize inS a _ = qL
          generalize isNon b = qn
          cases qa <;> simp
          cases qL <;> simp
          · cases qn <;> simp
            cases q5 <;> simp
          · cases qw <;> simp
            cases q5 <;> simp
        | str z =>
          simp [fn18, bd18, start0, hb, hcc, hd, moveD, moveL, moveB, keepD, eqN, hq5, hq9, hqw]
          generalize inS a _ = qa
          generalize inS a _ = qL
          generalize isNon b = qn
          cases qa <;> simp
          cases qL <;> simp
          · cases qn <;> simp
            cases q5 <;> simp
            cases q9 <;> simp
            by_cases z1 : z = [115, 97, 118, 101]
            · subst z1; simp
            · by_cases z2 : z = [110, 111, 116, 101]
              · subst z2; simp
              · simp [z1, z2, Ne.symm z1, Ne.symm z2]
          · cases qw <;> simp
            cases q5 <;> simp
            cases q9 <;> simp
            by_cases z1 : z = [115, 97, 118, 101]
            · subst z1; simp
            · by_cases z2 : z = [110, 111, 116, 101]
              · subst z2; simp
              · simp [z1, z2, Ne.symm z1, Ne.symm z2]
        | _ =>
          simp [fn18, bd18, start0, hb, hcc, hd, moveD, moveL, moveB, keepD, eqN, hq5, hq9, hqw]
      | _ => simp [fn18, bd18, start0, moveD, moveL]
    · have : ¬ (xs.length : Int) = 5 := by omega
      simp [fn18, bd18, start0, this, move_ne hl]
  | str cs =>
    have h' : cs.length ≤ 1000 := h
    simp [fn18, bd18, start0, moveD]
  | _ => simp [fn18, bd18, start0, moveD]
theorem Mach.init (L : Mach fns) (k : Nat) (ds : List D) (hl : ds.length ≤ 1000) (h : pl3 (.tup ds)) (hs : statesD (.tup ds) = true) : callF fns (k + 6) 7 (some (.ob 2 [])) ds = some (.ok (.val .non), some (.ob 2 [(1, .fz (.tup ds))])) := by
  refine get_of (w_fn (es := [.tup ds]) L.h7 ⟨rfl, by decide⟩ (by simp [bindC, bindD, fn7]; omega) ?_)
  simp [fn7, bd7, start0, L.toBase.states (k := k) (.tup ds) h, hs, putN]
theorem Mach.init_no (L : Mach fns) (k : Nat) (ds : List D) (hl : ds.length ≤ 1000) (h : pl3 (.tup ds)) (hs : statesD (.tup ds) = false) : callF fns (k + 6) 7 (some (.ob 2 [])) ds = some (.error ⟨1, []⟩, some (.ob 2 [])) := by
  refine get_of (w_fn (es := [.tup ds]) L.h7 ⟨rfl, by decide⟩ (by simp [bindC, bindD, fn7]; omega) ?_)
  simp [fn7, bd7, start0, L.toBase.states (k := k) (.tup ds) h, hs]
theorem Mach.of_no (L : Mach fns) (k : Nat) (d : D) (h : pl3 d) (hs : statesD d = false) : callF fns (k + 7) 8 none [.cls 2, d] = some (.error ⟨1, []⟩, none) := by
  refine get_of (w_fn L.h8 ⟨rfl, by decide⟩ rfl ?_)
  simp [fn8, bd8, start0, L.toBase.states (k := k + 1) d h, hs]
theorem Mach.of_yes (L : Mach fns) (k : Nat) (ds : List D) (hl : ds.length ≤ 1000) (h : pl3 (.tup ds)) (hs : statesD (.tup ds) = true) : callF fns (k + 7) 8 none [.cls 2, .tup ds] = some (.ok (.new (.ob 2 [(1, .fz (.tup ds))])), none) := by
  refine get_of (w_fn L.h8 ⟨rfl, by decide⟩ rfl ?_)
  simp [fn8, bd8, start0, L.toBase.states (k := k + 1) (.tup ds) h, hs, L.init k ds hl h hs]
theorem Mach.states_of (L : Mach fns) (k : Nat) (d : D) : callF fns (k + 1) 9 none [.obj 2 [(1, d)]] = some (.ok (.val d), none) := by
  refine get_of (w_fn L.h9 ⟨rfl, by decide⟩ rfl ?_)
  simp [fn9, bd9, start0]
theorem mS_eq {s : Int} {d : D} (h : s ≤ 6) : mS s d = moveD (s - 1) d := by
  unfold mS
  cases hm : moveD 5 d with
  | false =>
    cases hm2 : moveD (s - 1) d with
    | false => rfl
    | true =>
      exfalso
      unfold moveD at hm hm2
      split at hm2
      · rename_i x b c p e
        unfold moveL at hm hm2
        split at hm2
        · simp only [moveB, Bool.and_eq_true] at hm2
          obtain ⟨h1, h2, h3, h4, h5, h6⟩ := hm2
          obtain ⟨t, rfl, t1, t2⟩ := within_int h5
          have : withinD (.int t) 5 = true := by simp [withinD]; omega
          simp [moveB, h1, h2, h3, h4, h6, this] at hm
        · cases hm2
      · cases hm2
  | true =>
    obtain ⟨a, b, t, c, e, rfl⟩ := move_shape hm
    simp only [moveD, moveL] at hm ⊢
    cases a with
    | str a =>
      simp only [moveB, Bool.and_eq_true] at hm
      obtain ⟨h1, h2, h3, h4, h5, h6⟩ := hm
      obtain ⟨t', e', t1, t2⟩ := within_int h5
      cases e'
      simp only [moveB, h1, h2, h3, h4, h6, tgtD, Bool.true_and, Bool.and_true]
      rw [Bool.eq_iff_iff]
      simp [withinD]
      omega
    | _ => cases hm
end
end DI.Sh

namespace DI.Sh
open PySem DI
/-! ### drawn moves and rows -/
/-- a move of a machine with s states, its parts small -/
structure DMv (s : Int) (d : D) : Prop where
  ex : ∃ xs : List D, d = .tup xs ∧ xs.length = 5 ∧ ∀ x ∈ xs, Lf x
  mv : moveD (s - 1) d = true
/-- an act and its kind -/
def AK (d : D) : Prop := ∃ a b, d = .tup [.str a, b] ∧ .str a ∈ acts4 ∧ Lf b ∧ (if inS a acts2 = true then wordD b = true else isNon b = true)
theorem fm_some {g : D → D} (xs : List D) : xs.filterMap (fun x => some (g x)) = xs.map g := by
  induction xs with
  | nil => rfl
  | cons x r ih => simp [ih]
theorem Wd.word {d : D} (h : Wd d) : wordD d = true := by
  obtain ⟨cs, rfl, h1, h2, h3⟩ := h
  simp [wordD, h1, h2]
  exact h3
theorem inS_mem {a : List Nat} : ∀ {ds : List D}, .str a ∈ ds → inS a ds = true
  | [], h => by cases h
  | d :: r, h => by
    rcases List.mem_cons.mp h with rfl | h2
    · simp [inS]
    · have ih := inS_mem h2
      cases d <;> simp [inS, ih]
section
variable {fns : List (Nat × Fn)} {k : Nat}
theorem Draws.any_move (B : Draws fns) (h24 : fns.lookup 24 = some fn24) (n : Nat) (st : Ho) (s : Int) (sent taken : List D) (hs : Stk n st) (hn : n ≤ 100000) (h1 : 1 ≤ s) (h2 : s ≤ 20) (ha : ∀ x ∈ sent, Wd x) (hb : ∀ x ∈ taken, Wd x) (la : sent.length ≤ 10) (lb : taken.length ≤ 10) :
    wo (callF fns (k + 3) 24 (some st) [.int s, .lst sent, .lst taken]) fun p => ∃ d st', p = (.ok (.val d), some st') ∧ DMv s d ∧ Stk (n + 4) st' := by
  refine w_fn h24 ⟨rfl, by decide⟩ rfl ?_
  simp [fn24, bd24, start0]
  refine w_lcp (fun x => some (.tup [.str sSend, x])) (by simp) (by unfold big; omega) (fun d hd => by simp) fun z => ?_
  rw [fm_some]
  generalize hS : sent.map (fun x => D.tup [.str sSend, x]) = S
  have lS : S.length ≤ 10 := by rw [← hS]; simpa using la
  have kS : ∀ x ∈ S, AK x := fun x hx => by
    rw [← hS] at hx
    obtain ⟨y, hy, rfl⟩ := List.mem_map.mp hx
    exact ⟨_, _, rfl, by simp [acts4], (ha y hy).lf, by simp [inS, (ha y hy).word]⟩
  simp
  refine ⟨by omega, ?_⟩
  refine w_lcp (fun x => some (.tup [.str sTake, x])) (by simp) (by unfold big; omega) (fun d hd => by simp) fun z => ?_
  rw [fm_some]
  generalize hT : taken.map (fun x => D.tup [.str sTake, x]) = T
  have lT : T.length ≤ 10 := by rw [← hT]; simpa using lb
  have kT : ∀ x ∈ T, AK x := fun x hx => by
    rw [← hT] at hx
    obtain ⟨y, hy, rfl⟩ := List.mem_map.mp hx
    exact ⟨_, _, rfl, by simp [acts4], (hb y hy).lf, by simp [inS, (hb y hy).word]⟩
  simp
  refine ⟨by omega, ?_⟩
  have hak : ∀ x ∈ D.tup [.str sWork, .non] :: .tup [.str sOutput, .non] :: (S ++ T), AK x := by
    intro x hx
    simp only [List.mem_cons, List.mem_append] at hx
    rcases hx with rfl | rfl | hx | hx
    · exact ⟨_, _, rfl, by simp [acts4], trivial, by simp [inS]⟩
    · exact ⟨_, _, rfl, by simp [acts4], trivial, by simp [inS]⟩
    · exact kS x hx
    · exact kT x hx
  generalize hA : D.tup [.str sWork, .non] :: .tup [.str sOutput, .non] :: (S ++ T) = A at hak
  have lA : A ≠ [] ∧ A.length ≤ 30 := by rw [← hA]; simp; omega
  refine wo_mono (pick_of (k := k + 1) B.h12 (B.draw (k := k)) n st A hs (by omega) lA.1 (by omega)) ?_
  rintro p ⟨y, st1, rfl, hy, hs1⟩
  obtain ⟨a, b, rfl, ha4, hbl, hbk⟩ := hak y hy
  simp
  have key : ∀ (t p : Int) (e : D) (st' : Ho), 0 ≤ t → t < s → 0 ≤ p → p < 10 → (e = .non ∨ e = .str sSave ∨ (e = .str sNote ∧ a = sTake)) → DMv s (.tup [.str a, b, .int t, .int p, e]) := fun t p e st' t0 t1 p0 p1 he => by
    have h4 := inS_mem ha4
    have la : Lf (.str a) := by
      simp only [acts4, List.mem_cons, D.str.injEq, List.not_mem_nil, or_false] at ha4
      rcases ha4 with rfl | rfl | rfl | rfl <;> exact ⟨by decide, by decide⟩
    have le : Lf e := by
      rcases he with rfl | rfl | ⟨rfl, _⟩
      · exact trivial
      · exact ⟨by decide, by decide⟩
      · exact ⟨by decide, by decide⟩
    refine ⟨⟨_, rfl, rfl, ?_⟩, ?_⟩
    · intro x hx
      simp only [List.mem_cons, List.not_mem_nil, or_false] at hx
      rcases hx with rfl | rfl | rfl | rfl | rfl
      · exact la
      · exact hbl
      · exact .inl ⟨by omega, by omega⟩
      · exact .inl ⟨by omega, by omega⟩
      · exact le
    · have w1 : withinD (.int t) (s - 1) = true := by simp [withinD]; omega
      have w2 : withinD (.int p) 9 = true := by simp [withinD]; omega
      have hk : keepD e = true := by rcases he with rfl | rfl | ⟨rfl, _⟩ <;> simp [keepD]
      have hx : (eqN sNote e && !decide (a = sTake)) = false := by
        rcases he with rfl | rfl | ⟨rfl, rfl⟩ <;> simp [eqN]
      have hz : (if inS a acts2 = true then wordD b else isNon b) = true := by
        split
        · rename_i h; rw [if_pos h] at hbk; exact hbk
        · rename_i h; rw [if_neg h] at hbk; exact hbk
      simp only [moveD, moveL, moveB, h4, hk, hx, w1, w2, hz, Bool.and_true, Bool.true_and, Bool.not_false]
  have fin : ∀ (ys : List D) (Q : Except Xc R × Option Ho → Prop), ys ≠ [] → ys.length ≤ 10 → (∀ y ∈ ys, y = .non ∨ y = .str sSave ∨ (y = .str sNote ∧ a = sTake)) → (∀ y zs, (y = .non ∨ y = .str sSave ∨ (y = .str sNote ∧ a = sTake)) → Stk (n + 2) zs → Q (.ok (.val y), some zs)) → wo (callF fns (k + 2) 12 (some st1) [.lst ys]) Q := fun ys Q y0 yl yp hQ =>
    wo_mono (pick_of (k := k + 1) B.h12 (B.draw (k := k)) _ st1 ys hs1 (by omega) y0 (by omega)) (by rintro p ⟨y, zs, rfl, g1, g2⟩; exact hQ y zs (yp y g1) g2)
  split
  · rename_i hta
    refine fin _ _ (by simp) (by simp) (by
      intro y hy
      simp only [List.mem_cons, List.not_mem_nil, or_false] at hy
      rcases hy with rfl | rfl | rfl | rfl
      · exact .inl rfl
      · exact .inl rfl
      · exact .inr (.inl rfl)
      · exact .inr (.inr ⟨rfl, hta⟩)) fun y st2 hk hs2 => ?_
    simp
    refine wo_mono (B.draw (k := k + 1) _ st2 s hs2 (by omega) (by omega) (by omega)) ?_
    rintro p ⟨t, st3, rfl, t0, t1, hs3⟩
    simp
    refine wo_mono (B.draw (k := k + 1) _ st3 10 hs3 (by omega) (by omega) (by omega)) ?_
    rintro p ⟨q, st4, rfl, q0, q1, hs4⟩
    simp
    exact ⟨_, st4, ⟨rfl, rfl⟩, key t q y st4 t0 t1 q0 q1 hk, hs4⟩
  · refine fin _ _ (by simp) (by simp) (by
      intro y hy
      simp only [List.mem_cons, List.not_mem_nil, or_false] at hy
      rcases hy with rfl | rfl | rfl
      · exact .inl rfl
      · exact .inl rfl
      · exact .inr (.inl rfl)) fun y st2 hk hs2 => ?_
    simp
    refine wo_mono (B.draw (k := k + 1) _ st2 s hs2 (by omega) (by omega) (by omega)) ?_
    rintro p ⟨t, st3, rfl, t0, t1, hs3⟩
    simp
    refine wo_mono (B.draw (k := k + 1) _ st3 10 hs3 (by omega) (by omega) (by omega)) ?_
    rintro p ⟨q, st4, rfl, q0, q1, hs4⟩
    simp
    exact ⟨_, st4, ⟨rfl, rfl⟩, key t q y st4 t0 t1 q0 q1 hk, hs4⟩
/-- a row of a drawn machine -/
def DRw (s : Int) (much : Nat) (d : D) : Prop := ∃ ms : List D, d = .tup ms ∧ ms.length ≤ much ∧ ∀ m ∈ ms, DMv s m
theorem Draws.any_rows (B : Draws fns) (h24 : fns.lookup 24 = some fn24) (h25 : fns.lookup 25 = some fn25) (n much : Nat) (st : Ho) (s : Int) (sent taken : List D) (hs : Stk n st) (hn : n ≤ 1000) (h1 : 1 ≤ s) (h2 : s ≤ 6) (hm : much ≤ 6) (ha : ∀ x ∈ sent, Wd x) (hb : ∀ x ∈ taken, Wd x) (la : sent.length ≤ 10) (lb : taken.length ≤ 10) :
    wo (callF fns (k + 4) 25 (some st) [.lst sent, .lst taken, .int s, .int much]) fun p => ∃ rs st', p = (.ok (.val (.lst rs)), some st') ∧ (rs.length : Int) = s ∧ (∀ r ∈ rs, DRw s much r) ∧ Stk (n + 200) st' := by
  refine w_fn h25 ⟨rfl, by decide⟩ rfl ?_
  simp [fn25, bd25, start0]
  refine ⟨inW_small (by omega) (by omega), ?_⟩
  refine for_inv (fun ds e => ∃ (st : Ho) (rs : List D) (z6 : Sl) (j : Nat), e = [Sl.io st, .val (.lst sent), .val (.lst taken), .val (.int s), .val (.int much), .own (.ls (rs.map .fz)), z6, .un] ∧ freeS (some z6) = true ∧ Stk (n + 25 * j) st ∧ j + ds.length = s.toNat ∧ rs.length = j ∧ ∀ r ∈ rs, DRw s much r) ?_ ?_ _ _
    ⟨st, [], .un, 0, rfl, rfl, by simpa using hs, by simp [rng], rfl, by simp⟩
  · rintro d ds env ⟨st, rs, z6, j, rfl, f6, hs, hj, hr, hR⟩
    simp only [List.length_cons] at hj
    simp [f6]
    show wSs _ _ _ _ _
    simp
    refine wo_mono (B.draw (k := k + 2) _ st (much + 1) hs (by omega) (by omega) (by omega)) ?_
    rintro p ⟨t, st1, rfl, t0, t1, hs1⟩
    simp
    refine ⟨inW_small (by omega) (by omega), ?_⟩
    refine lc_inv (fun ds' acc e => ∃ (st : Ho) (ms : List D) (z : Sl), e = [Sl.io st, .val (.lst sent), .val (.lst taken), .val (.int s), .val (.int much), .own (.ls (rs.map .fz)), .val d, z] ∧ acc = ms.map .fz ∧ Stk (n + 25 * j + 1 + 4 * ms.length) st ∧ ms.length + ds'.length = t.toNat ∧ ∀ m ∈ ms, DMv s m) ?_ ?_ _ _ _
      ⟨st1, [], .un, rfl, rfl, by simpa using hs1, by simp [rng], by simp⟩
    · rintro d' ds' acc env ⟨st, ms, z, rfl, rfl, g1, g2, g3⟩
      simp only [List.length_cons] at g2
      rw [w_lcT]
      simp
      refine wo_mono (B.any_move (k := k) h24 _ st s sent taken g1 (by omega) h1 (by omega) ha hb la lb) ?_
      rintro p ⟨m, st', rfl, q1, q2⟩
      simp
      refine ⟨by omega, ms ++ [m], by simp, q2.mono (by simp; omega), by simp; omega, ?_⟩
      intro x hx
      rcases List.mem_append.mp hx with hx | hx
      · exact g3 x hx
      · rw [List.mem_singleton.mp hx]; exact q1
    · rintro acc env ⟨st, ms, z, rfl, rfl, g1, g2, g3⟩
      simp only [List.length_nil, Nat.add_zero] at g2
      simp
      refine ⟨by omega, ?_⟩
      refine ⟨st, rs ++ [.tup ms], _, ⟨rfl, by simp, rfl⟩, rfl, j + 1, g1.mono (by omega), by omega, by simp [hr], ?_⟩
      intro x hx
      rcases List.mem_append.mp hx with hx | hx
      · exact hR x hx
      · rw [List.mem_singleton.mp hx]; exact ⟨ms, rfl, by omega, g3⟩
  · rintro env ⟨st, rs, z6, j, rfl, f6, hs, hj, hr, hR⟩
    simp only [List.length_nil, Nat.add_zero] at hj
    simp
    exact ⟨rs, st, ⟨rfl, rfl⟩, by omega, hR, hs.mono (by omega)⟩
end
end DI.Sh

namespace DI.Sh
open PySem DI
/-! ### small things -/
@[simp] theorem cutR_t {xs : List D} {i j : Option Int} : cutR i j (.tup xs) = some (.val (.tup (cutL xs i j))) := rfl
theorem set_comm' {env : Ev} {s t : Nat} {a b : Sl} (h : s ≠ t) : (env.set s a).set t b = (env.set t b).set s a := List.set_comm a b h
/-- a comprehension with two names -/
theorem w_lcp2 {cf : CF} {s t : Nat} {c : T} {e : I} {env : Ev} {ds : List D} {X : Xc → Ev → Prop} (g : D → Option D) (hs : s < env.length) (ht : t < env.length) (hst : s ≠ t) (hz : ds.length ≤ big)
    (h : ∀ d ∈ ds, ∃ x y, d = .tup [x, y] ∧ wT cf c ((env.set s (.val x)).set t (.val y)) X fun k e2 => if k = true then wI cf e e2 X fun r e3 => (∃ y', g d = some y' ∧ r.h = .fz y') ∧ ∃ z z', e3 = (env.set s z).set t z' else g d = none ∧ ∃ z z', e2 = (env.set s z).set t z')
    {Q : List Ho → Ev → Prop} (hq : ∀ z z', Q ((ds.filterMap g).map .fz) ((env.set s z).set t z')) : wr (lcD (lcT cf (.tp [.nm s, .nm t]) c e) ds [] env) X Q := by
  have hs0 : ∃ z z', env = (env.set s z).set t z' := ⟨env[s], env[t], by
    rw [set_get (List.getElem?_eq_getElem hs), set_get (List.getElem?_eq_getElem ht)]⟩
  refine lc_inv (fun rest acc en => ∃ pre z z', ds = pre ++ rest ∧ acc = (pre.filterMap g).map .fz ∧ en = (env.set s z).set t z') ?_ ?_ ds [] env (by
    obtain ⟨z, z', hz⟩ := hs0
    exact ⟨[], z, z', rfl, rfl, hz⟩)
  · rintro d rest acc en ⟨pre, z, z', e1, rfl, rfl⟩
    rw [w_lcT]
    have hm : d ∈ ds := by rw [e1]; simp
    have hl : pre.length + rest.length + 1 = ds.length := by rw [e1]; simp; omega
    obtain ⟨x, y, rfl, h2⟩ := h d hm
    have b : bindT (.tp [.nm s, .nm t]) (.tup [x, y]) (clr ((env.set s z).set t z') (Tg.slots (.tp [.nm s, .nm t]))) = some ((env.set s (.val x)).set t (.val y)) := by
      have e1 : clr ((env.set s z).set t z') (Tg.slots (.tp [.nm s, .nm t])) = (env.set s .un).set t .un := by
        simp only [Tg.slots, Tg.slotss, List.nil_append, List.cons_append, clr, List.set_set]
        rw [List.set_comm _ _ hst, List.set_set, List.set_comm _ _ hst.symm]
      rw [e1]
      have f1 : free ((env.set s .un).set t .un) s = true := by
        unfold free; rw [List.getElem?_set_ne hst.symm, List.getElem?_set_self hs]
      have f2 : free (((env.set s .un).set t .un).set s (.val x)) t = true := by
        unfold free; rw [List.getElem?_set_ne hst, List.getElem?_set_self (by simpa using ht)]
      simp only [bindT, bindTs, f1, f2, if_true]
      rw [List.set_comm _ _ hst.symm, List.set_set, List.set_set]
    rw [b, wo_some]
    refine wr_mono h2 (fun k e2 q => ?_) fun _ _ q => q
    cases k with
    | true =>
      simp only [if_true] at q ⊢
      refine wr_mono q (fun r e3 q => ?_) fun _ _ q => q
      obtain ⟨⟨y', hy, hr⟩, z1, z2, rfl⟩ := q
      refine ⟨?_, pre ++ [.tup [x, y]], z1, z2, by rw [e1]; simp, by rw [hr, List.filterMap_append, List.map_append]; simp [hy], rfl⟩
      have : (pre.filterMap g).length ≤ pre.length := List.length_filterMap_le _ _
      simp only [List.length_map]
      omega
    | false =>
      simp only [Bool.false_eq_true, if_false] at q ⊢
      obtain ⟨hy, z1, z2, rfl⟩ := q
      exact ⟨pre ++ [.tup [x, y]], z1, z2, by rw [e1]; simp, by rw [List.filterMap_append, List.map_append]; simp [hy], rfl⟩
  · rintro acc en ⟨pre, z, z', e1, rfl, rfl⟩
    rw [List.append_nil] at e1
    subst e1
    exact hq z z'
theorem fm_map {α β : Type} {f : α → β} {g : α → Option β} {xs : List α} (h : ∀ x ∈ xs, g x = some (f x)) : xs.filterMap g = xs.map f := by
  induction xs with
  | nil => rfl
  | cons x r ih => rw [List.filterMap_cons, h x (by simp), List.map_cons, ih fun y hy => h y (by simp [hy])]
/-! ### values -/
def MvV (d : D) : Prop := ∃ xs : List D, (d = .tup xs ∨ d = .lst xs) ∧ xs.length ≤ 6 ∧ ∀ x ∈ xs, Lf x
def RwV (d : D) : Prop := ∃ ms : List D, (d = .tup ms ∨ d = .lst ms) ∧ ms.length ≤ 7 ∧ ∀ m ∈ ms, MvV m
def RwsV (rs : List D) : Prop := rs.length ≤ 8 ∧ ∀ r ∈ rs, RwV r
theorem MvV.gd {d : D} (h : MvV d) : Gd 54 1 d := by
  obtain ⟨xs, rfl | rfl, h1, h2⟩ := h
  · exact gd_tup (n := 8) (m := 0) (fun x hx => (h2 x hx).gd) h1
  · exact gd_lst (n := 8) (m := 0) (fun x hx => (h2 x hx).gd) h1
theorem RwV.gd {d : D} (h : RwV d) : Gd 385 2 d := by
  obtain ⟨xs, rfl | rfl, h1, h2⟩ := h
  · exact gd_tup (n := 54) (m := 1) (fun x hx => (h2 x hx).gd) h1
  · exact gd_lst (n := 54) (m := 1) (fun x hx => (h2 x hx).gd) h1
theorem RwsV.gdt {rs : List D} (h : RwsV rs) : Gd 3088 3 (.tup rs) := gd_tup (n := 385) (m := 2) (fun x hx => (h.2 x hx).gd) h.1
theorem RwsV.gdl {rs : List D} (h : RwsV rs) : Gd 3088 3 (.lst rs) := gd_lst (n := 385) (m := 2) (fun x hx => (h.2 x hx).gd) h.1
theorem MvV.pl1 {d : D} (h : MvV d) : pl1 d := by
  obtain ⟨xs, rfl | rfl, h1, h2⟩ := h
  · exact fun x hx => plc_pl (h2 x hx).plc
  · exact trivial
theorem MvV.plc {d : D} (h : MvV d) : ∀ xs, d = .tup xs → ∀ x ∈ xs, plc x := by
  obtain ⟨xs, rfl | rfl, h1, h2⟩ := h
  · intro ys e x hx; cases e; exact (h2 x hx).plc
  · intro ys e; cases e
theorem RwV.pl2 {d : D} (h : RwV d) : pl2 d := by
  obtain ⟨xs, rfl | rfl, h1, h2⟩ := h
  · exact ⟨by omega, fun x hx => (h2 x hx).pl1⟩
  · exact trivial
theorem RwsV.pl3 {rs : List D} (h : RwsV rs) : pl3 (.tup rs) := ⟨by have := h.1; omega, fun x hx => (h.2 x hx).pl2⟩
def gBad (size : Int) (d : D) : Option D := if moveD (size - 1) d then none else some d
theorem bad_nil (size : Int) : ∀ ms : List D, (ms.filterMap (gBad size)).isEmpty = ms.all (moveD (size - 1))
  | [] => rfl
  | m :: r => by
    have ih := bad_nil size r
    simp only [List.filterMap_cons, gBad, List.all_cons]
    cases moveD (size - 1) m with
    | true => simpa using ih
    | false => simp
theorem all_mS {size : Int} (h : size ≤ 6) (ms : List D) : ms.all (mS size) = ms.all (moveD (size - 1)) := by
  congr 1
  funext d
  exact mS_eq h
theorem lf_set {xs : List D} {j : Nat} {y : D} (h : ∀ x ∈ xs, Lf x) (hy : Lf y) : ∀ x ∈ xs.set j y, Lf x := fun x hx => by
  rcases List.mem_or_eq_of_mem_set hx with hx | rfl
  · exact h x hx
  · exact hy
theorem lf_str {cs : List Nat} (h : cs.length ≤ 8 ∧ ∀ c ∈ cs, c < 1000) : Lf (.str cs) := h
theorem pick_lf {fns : List (Nat × Fn)} (draws : Draws fns) {k n : Nat} {st : Ho} {ys : List D} (hs : Stk n st) (hn : n ≤ 100000) (h0 : ys ≠ []) (hl : ys.length ≤ 100) (hp : ∀ y ∈ ys, Lf y) {Q : Except Xc R × Option Ho → Prop} (hQ : ∀ y zs, Lf y → Stk (n + 1) zs → Q (.ok (.val y), some zs)) : wo (callF fns (k + 2) 12 (some st) [.lst ys]) Q :=
  wo_mono (pick_of (k := k + 1) draws.h12 (draws.draw (k := k)) n st ys hs (by omega) h0 (by omega)) (by rintro p ⟨y, zs, rfl, g1, g2⟩; exact hQ y zs (hp y g1) g2)
theorem cut_drop {α : Type} {xs : List α} {p : Nat} (h : p ≤ xs.length) : cutL xs (some (p : Int)) none = xs.drop p := by
  unfold cutL
  rw [HT.sIx_nat]
  simp [HT.sIx_none, Nat.min_eq_left h]
  rw [List.take_of_length_le (by simp)]
theorem okEq_rows {rs : List D} (h : ∀ r ∈ rs, RwV r) : okEq (.lst rs) = true := (gd_lst (L := rs.length) (fun r hr => (h r hr).gd) (Nat.le_refl _)).eq (by decide)
theorem okEq_moves {ms : List D} (h : ∀ r ∈ ms, MvV r) : okEq (.lst ms) = true := (gd_lst (L := ms.length) (fun r hr => (h r hr).gd) (Nat.le_refl _)).eq (by decide)
theorem rw_nil : RwV (.tup []) := ⟨[], .inl rfl, by simp, by simp⟩
theorem take_set {α : Type} {xs : List α} {i : Nat} {x : α} (h : i < xs.length) : xs.take i ++ x :: xs.drop (i + 1) = xs.set i x := by
  rw [List.set_eq_take_append_cons_drop, if_pos h]
theorem dmv {s : Int} {d : D} (h : DMv s d) : MvV d := by
  obtain ⟨xs, rfl, h1, h2⟩ := h.ex
  exact ⟨xs, .inl rfl, by omega, h2⟩
theorem drw {s : Int} {n : Nat} {d : D} (h : DRw s n d) (hn : n ≤ 7) : RwV d := by
  obtain ⟨ms, rfl, h1, h2⟩ := h
  exact ⟨ms, .inl rfl, by omega, fun m hm => dmv (h2 m hm)⟩
theorem enc1 : encX (.error ⟨1, []⟩) = ⟨1000001, []⟩ := by simp [encX]
theorem show_non : okShow .non = true := by decide +kernel
theorem RwsV.set {rs : List D} {i : Nat} {x : D} (h : RwsV rs) (hx : RwV x) : RwsV (rs.set i x) := ⟨by rw [List.length_set]; exact h.1, fun r hr => by
  rcases List.mem_or_eq_of_mem_set hr with hr | rfl
  · exact h.2 r hr
  · exact hx⟩
/-- the law's own look at rows, which stands as def 26 -/
def bd26 : Ss := (.cons (.ifs (.or (.not (.val (.op (.isi "tuple") (.cons (.var 0) .nil)))) (.or (.val (.op .eq (.cons (.len1 0 []) (.cons (.con (.int 0)) .nil)))) (.val (.op .gt (.cons (.len1 0 []) (.cons (.con (.int 6)) .nil)))))) (.cons (.ret (.con (.bl false))) .nil) .nil) (.cons (.for_ (.nm 1) (.seq (.var 0)) (.cons (.ifs (.or (.not (.val (.op (.isi "tuple") (.cons (.var 1) .nil)))) (.val (.op .gt (.cons (.len1 1 []) (.cons (.con (.int 6)) .nil))))) (.cons (.ret (.con (.bl false))) .nil) .nil) (.cons (.ifs (.val (.op .ne (.cons (.lc (.nm 2) (.seq (.var 1)) (.not (.val (.call 18 (.cons (.var 2) (.cons (.len1 0 []) .nil))))) (.var 2)) (.cons (.lst .nil) .nil)))) (.cons (.ret (.con (.bl false))) .nil) .nil) .nil))) (.cons (.ret (.con (.bl true))) .nil)))
def fn26 : Fn := ⟨false, false, 1, 3, bd26, .no⟩
theorem rows_look {fns : List (Nat × Fn)} (look : Look fns) (lk26 : fns.lookup 26 = some fn26) (k : Nat) (rs : List D) (h : RwsV rs) : callF fns (k + 3) 26 none [.tup rs] = some (.ok (.val (.bl (statesD (.tup rs)))), none) := by
  refine get_of (w_fn lk26 ⟨rfl, by decide⟩ rfl ?_)
  obtain ⟨q, hq⟩ : ∃ q, q = statesD (.tup rs) := ⟨_, rfl⟩
  rw [← hq]
  by_cases hl : 1 ≤ rs.length ∧ rs.length ≤ 6
  · have h1 : ¬ (rs.length : Int) = 0 := by omega
    have h1' : ¬ rs = [] := fun z => by rw [z] at hl; simp at hl
    have h2 : ¬ (6 : Int) < rs.length := by omega
    have hs : statesD (.tup rs) = rs.all (stateD rs.length) := by simp [statesD, hl]
    rw [hs] at hq
    have no : ∀ d ∈ rs, stateD rs.length d = false → q = false := fun d hd e => by
      rw [hq]
      exact List.all_eq_false.mpr ⟨d, hd, by rw [e]; simp⟩
    simp [fn26, bd26, start0, h1, h1', h2]
    refine for_inv (fun ds e => ∃ z1, e = [Sl.val (.tup rs), z1, .un] ∧ freeS (some z1) = true ∧ (∃ pre, rs = pre ++ ds ∧ pre.all (stateD rs.length) = true)) ?_ ?_ _ _ ⟨.un, rfl, rfl, [], rfl, rfl⟩
    · rintro d ds env ⟨z1, rfl, f1, pre, e1, e2⟩
      have hm : d ∈ rs := by rw [e1]; simp
      obtain ⟨ms, hd, l1, l2⟩ := h.2 d hm
      simp [f1]
      show wSs _ _ _ _ _
      rcases hd with rfl | rfl
      · by_cases h6 : ms.length ≤ 6
        · have h6' : ¬ (6 : Int) < ms.length := by omega
          have es : stateD rs.length (.tup ms) = ms.all (moveD ((rs.length : Int) - 1)) := by
            simp only [stateD, decide_eq_true h6, Bool.true_and]
            exact all_mS (by omega) ms
          simp [h6']
          refine w_lcp (gBad rs.length) (by simp) (by unfold big; omega) ?_ fun z => ?_
          · intro m hm2
            have hf := look.fine (k + 0) m rs.length (l2 m hm2).pl1 (l2 m hm2).plc
            simp [hf, gBad]
          · simp only [x_dN, x_toDl, x_toDsm]
            have hqe : okEq (.lst (ms.filterMap (gBad rs.length))) = true := (gd_lst (n := 54) (m := 1) (L := 7) (fun x hx => by
              obtain ⟨y, hy, e⟩ := List.mem_filterMap.mp hx
              unfold gBad at e
              split at e
              · cases e
              · cases e; exact (l2 _ hy).gd) (Nat.le_trans (List.length_filterMap_le _ _) l1)).eq (by decide)
            rw [o_ne_nil hqe, wo_bl, bad_nil]
            cases hv : ms.all (moveD ((rs.length : Int) - 1)) with
            | true =>
              simp
              exact ⟨pre ++ [.tup ms], by rw [e1]; simp, fun x hx => by
                rcases List.mem_append.mp hx with hx | hx
                · exact List.all_eq_true.mp e2 x hx
                · rw [List.mem_singleton.mp hx, es, hv]⟩
            | false =>
              simp
              exact no _ hm (by rw [es, hv])
        · have h6' : (6 : Int) < ms.length := by omega
          simp [h6']
          exact no _ hm (by simp [stateD, h6])
      · simp
        exact no _ hm (by simp [stateD])
    · rintro env ⟨z1, rfl, f1, pre, e1, e2⟩
      rw [List.append_nil] at e1
      subst e1
      simp
      rw [hq]; exact e2
  · have hs : q = false := by rw [hq]; simp only [statesD, decide_eq_false hl, Bool.false_and]
    have h8 := h.1
    by_cases h1 : (rs.length : Int) = 0
    · have h1' : rs = [] := by cases rs with | nil => rfl | cons => simp at h1; omega
      simp [fn26, bd26, start0, h1', hs]
    · have h1' : ¬ rs = [] := fun z => h1 (by rw [z]; rfl)
      have h2 : (6 : Int) < rs.length := by omega
      simp [fn26, bd26, start0, h1, h1', h2, hs]
end DI.Sh

namespace K08
open PySem L2 DI
def top (i : Nat) : Stmt := PySem.Challenge.pw_fallsback_k08_errors_of_machines.main.body.getD i (.Pass ⟨0, 0, 0, 0⟩)
def mem (i j : Nat) : Stmt := match top i with
  | .ClassDef _ _ _ b _ _ _ _ _ _ _ => b.getD j (.Pass ⟨0, 0, 0, 0⟩)
  | s => s
abbrev st0 : Stmt := top 6
abbrev bd0 : Ss := DI.Sh.bd0
abbrev fn0 : Fn := DI.Sh.fn0
def fi0 : FI := ⟨"is_integer", "is_integer", st0, ["value"], ["value"], fn0⟩
abbrev st1 : Stmt := top 7
abbrev bd1 : Ss := DI.Sh.bd1
abbrev fn1 : Fn := DI.Sh.fn1
def fi1 : FI := ⟨"is_word", "is_word", st1, ["value"], ["value", "letter"], fn1⟩
abbrev st2 : Stmt := top 18
abbrev bd2 : Ss := DI.Sh.bd2
abbrev fn2 : Fn := DI.Sh.fn2
def fi2 : FI := ⟨"is_within", "is_within", st2, ["value", "most"], ["value", "most"], fn2⟩
abbrev st3 : Stmt := top 19
abbrev bd3 : Ss := DI.Sh.bd3
abbrev fn3 : Fn := DI.Sh.fn3
def fi3 : FI := ⟨"is_keeping", "is_keeping", st3, ["value"], ["value"], fn3⟩
abbrev st4 : Stmt := top 20
abbrev bd4 : Ss := DI.Sh.bd4
abbrev fn4 : Fn := DI.Sh.fn4
def fi4 : FI := ⟨"is_move", "is_move", st4, ["value"], ["value", "act", "kind", "target", "price", "keeping"], fn4⟩
abbrev st5 : Stmt := top 21
abbrev bd5 : Ss := DI.Sh.bd5
abbrev fn5 : Fn := DI.Sh.fn5
def fi5 : FI := ⟨"is_state", "is_state", st5, ["value", "size"], ["value", "size", "move"], fn5⟩
abbrev st6 : Stmt := top 22
abbrev bd6 : Ss := DI.Sh.bd6
abbrev fn6 : Fn := DI.Sh.fn6
def fi6 : FI := ⟨"are_states", "are_states", st6, ["value"], ["value", "state"], fn6⟩
abbrev st46 : Stmt := top 23
def bd46 : Ss := (.cons (.ret (.op .all (.cons (.lc (.nm 1) (.seq (.var 0)) .yes (.andb (.op (.isi "tuple") (.cons (.var 1) .nil)) (.op .eq (.cons (.len1 1 []) (.cons (.con (.int 2)) .nil))))) .nil))) .nil)
def fn46 : Fn := ⟨false, false, 1, 2, bd46, .no⟩
def fi46 : FI := ⟨"are_acts", "are_acts", st46, ["value"], ["value", "pair"], fn46⟩
abbrev st35 : Stmt := top 24
def bd35 : Ss := (.cons (.set 2 (.lst .nil)) (.cons (.for_ (.tp [(.nm 3), (.nm 4)]) (.enum (.fld1 0 1 [2])) (.cons (.app1 2 (.op .tupof (.cons (.lc (.tp [(.nm 5), (.nm 6)]) (.enum (.var 4)) .yes (.op .add (.cons (.cut (.var 6) .none (.some (.con (.int 4)))) (.cons (.op .tup (.cons (.dg2 (.var 1) (.op .tup (.cons (.var 3) (.cons (.var 5) .nil))) (.item1 6 [] (.con (.int 4)))) .nil)) .nil)))) .nil))) .nil)) (.cons (.ret (.cmeth 2 8 (.cons (.op .tupof (.cons (.var 2) .nil)) .nil))) .nil)))
def fn35 : Fn := ⟨false, false, 2, 7, bd35, .no⟩
def fi35 : FI := ⟨"with_keepings", "with_keepings", st35, ["machine", "keepings"], ["machine", "keepings", "rows", "state", "row", "at", "move"], fn35⟩
abbrev st7 : Stmt := mem 25 0
abbrev bd7 : Ss := DI.Sh.bd7
abbrev fn7 : Fn := DI.Sh.fn7
def fi7 : FI := ⟨"__init__", "Machine.__init__", st7, ["self", "states"], ["self", "states"], fn7⟩
abbrev st8 : Stmt := mem 25 1
abbrev bd8 : Ss := DI.Sh.bd8
abbrev fn8 : Fn := DI.Sh.fn8
def fi8 : FI := ⟨"of", "Machine.of", st8, ["cls", "states"], ["cls", "states"], fn8⟩
abbrev st47 : Stmt := mem 25 2
def bd47 : Ss := (.cons (.ifs (.or (.not (.val (.call 46 (.cons (.var 2) .nil)))) (.not (.val (.call 2 (.cons (.var 1) (.cons (.con (.int 9)) .nil)))))) (.cons (.rs 1 none (.con (.str [112, 97, 105, 114, 115, 32, 111, 102, 32, 97, 110, 32, 97, 99, 116, 32, 97, 110, 100, 32, 97, 32, 107, 105, 110, 100, 44, 32, 97, 110, 100, 32, 97, 32, 112, 114, 105, 99, 101, 44, 32, 97, 114, 101, 32, 101, 120, 112, 101, 99, 116, 101, 100]))) .nil) .nil) (.cons (.ret (.mkv 0 [(2, 7)] (.cons (.op .tupof (.cons (.lc (.tp [(.nm 3), (.nm 4)]) (.seq (.var 2)) .yes (.op .tup (.cons (.var 3) (.cons (.var 4) (.cons (.con (.int 0)) (.cons (.var 1) (.cons (.con .non) .nil))))))) .nil)) .nil))) .nil))
def fn47 : Fn := ⟨false, true, 3, 5, bd47, (.df 0)⟩
def fi47 : FI := ⟨"free", "Machine.free", st47, ["cls", "price", "acts"], ["cls", "price", "acts", "act", "kind"], fn47⟩
abbrev st9 : Stmt := mem 25 3
abbrev bd9 : Ss := DI.Sh.bd9
abbrev fn9 : Fn := DI.Sh.fn9
def fi9 : FI := ⟨"states", "Machine.states", st9, ["self"], ["self"], fn9⟩
abbrev st36 : Stmt := mem 25 8
def bd36 : Ss := (.cons (.ifs (.not (.val (.call 2 (.cons (.var 1) (.cons (.op .sub (.cons (.op .len (.cons (.fld1 0 1 [2]) .nil)) (.cons (.con (.int 1)) .nil))) .nil))))) (.cons (.rs 3 (some 0) (.var 1)) .nil) .nil) .nil)
def fn36 : Fn := ⟨false, false, 2, 2, bd36, .no⟩
def fi36 : FI := ⟨"require_state", "Machine.require_state", st36, ["self", "state"], ["self", "state"], fn36⟩
abbrev st37 : Stmt := mem 25 9
def bd37 : Ss := (.cons (.expr (.meth (.var 0) [(2, 36)] (.cons (.var 1) .nil))) (.cons (.ifs (.not (.val (.call 2 (.cons (.var 2) (.cons (.op .sub (.cons (.op .len (.cons (.op .item (.cons (.fld1 0 1 [2]) (.cons (.var 1) .nil))) .nil)) (.cons (.con (.int 1)) .nil))) .nil))))) (.cons (.rs 3 (some 0) (.var 2)) .nil) .nil) .nil))
def fn37 : Fn := ⟨false, false, 3, 3, bd37, .no⟩
def fi37 : FI := ⟨"require_move", "Machine.require_move", st37, ["self", "state", "number"], ["self", "state", "number"], fn37⟩
abbrev st38 : Stmt := mem 25 10
def bd38 : Ss := (.cons (.expr (.meth (.var 0) [(2, 36)] (.cons (.var 1) .nil))) (.cons (.ret (.cmeth 2 8 (.cons (.op .add (.cons (.op .add (.cons (.cut (.fld1 0 1 [2]) .none (.some (.var 1))) (.cons (.op .tup (.cons (.var 2) .nil)) .nil))) (.cons (.cut (.fld1 0 1 [2]) (.some (.op .add (.cons (.var 1) (.cons (.con (.int 1)) .nil)))) .none) .nil))) .nil))) .nil))
def fn38 : Fn := ⟨false, true, 3, 3, bd38, .no⟩
def fi38 : FI := ⟨"with_state", "Machine.with_state", st38, ["self", "state", "moves"], ["self", "state", "moves"], fn38⟩
abbrev st39 : Stmt := mem 25 11
def bd39 : Ss := (.cons (.expr (.meth (.var 0) [(2, 37)] (.cons (.var 1) (.cons (.var 2) .nil)))) (.cons (.ret (.call 35 (.cons (.var 0) (.cons (.op .dict (.cons (.op .tup (.cons (.var 1) (.cons (.var 2) .nil))) (.cons (.var 3) .nil))) .nil)))) .nil))
def fn39 : Fn := ⟨false, false, 4, 4, bd39, .no⟩
def fi39 : FI := ⟨"with_keeping", "Machine.with_keeping", st39, ["self", "state", "number", "keeping"], ["self", "state", "number", "keeping"], fn39⟩
abbrev st48 : Stmt := mem 25 13
def bd48 : Ss := (.cons (.ifs (.not (.val (.op (.isi "tuple") (.cons (.var 1) .nil)))) (.cons (.expr (.meth (.var 0) [(2, 36)] (.cons (.var 1) .nil))) (.cons (.ret (.op .item (.cons (.fld1 0 1 [2]) (.cons (.var 1) .nil)))) .nil)) .nil) (.cons (.ifs (.val (.op .ne (.cons (.len1 1 []) (.cons (.con (.int 2)) .nil)))) (.cons (.rs 3 (some 0) (.var 1)) .nil) .nil) (.cons (.expr (.meth (.var 0) [(2, 37)] (.star (.var 1) .nil))) (.cons (.upk [.nm 2, .nm 3] (.var 1)) (.cons (.ret (.op .item (.cons (.op .item (.cons (.fld1 0 1 [2]) (.cons (.var 2) .nil))) (.cons (.var 3) .nil)))) .nil)))))
def fn48 : Fn := ⟨false, false, 2, 4, bd48, .no⟩
def fi48 : FI := ⟨"__getitem__", "Machine.__getitem__", st48, ["self", "at"], ["self", "at", "state", "number"], fn48⟩
abbrev st10 : Stmt := top 27
abbrev bd10 : Ss := DI.Sh.bd10
abbrev fn10 : Fn := DI.Sh.fn10
def fi10 : FI := ⟨"_law_stock", "_law_stock", st10, ["_law_script", "_law_at"], ["_law_script", "_law_at", "_law_cell", "_law_great", "_law_mixed"], fn10⟩
abbrev st11 : Stmt := top 28
abbrev bd11 : Ss := DI.Sh.bd11
abbrev fn11 : Fn := DI.Sh.fn11
def fi11 : FI := ⟨"_law_draw", "_law_draw", st11, ["_law_stock_here", "_law_total"], ["_law_stock_here", "_law_total", "_law_found", "_law_one", "_law_two"], fn11⟩
abbrev st12 : Stmt := top 29
abbrev bd12 : Ss := DI.Sh.bd12
abbrev fn12 : Fn := DI.Sh.fn12
def fi12 : FI := ⟨"_law_pick", "_law_pick", st12, ["_law_stock_here", "_law_items"], ["_law_stock_here", "_law_items"], fn12⟩
abbrev st13 : Stmt := top 30
abbrev bd13 : Ss := DI.Sh.bd13
abbrev fn13 : Fn := DI.Sh.fn13
def fi13 : FI := ⟨"_law_shuffled", "_law_shuffled", st13, ["_law_stock_here", "_law_items"], ["_law_stock_here", "_law_items", "_law_left", "_law_turn"], fn13⟩
abbrev st14 : Stmt := top 31
abbrev bd14 : Ss := DI.Sh.bd14
abbrev fn14 : Fn := DI.Sh.fn14
def fi14 : FI := ⟨"_law_letter", "_law_letter", st14, ["_law_stock_here"], ["_law_stock_here"], fn14⟩
abbrev st15 : Stmt := top 32
abbrev bd15 : Ss := DI.Sh.bd15
abbrev fn15 : Fn := DI.Sh.fn15
def fi15 : FI := ⟨"_law_many_words", "_law_many_words", st15, ["_law_stock_here", "_law_much"], ["_law_stock_here", "_law_much", "_law_tail", "_law_way", "_law_found", "_law_place", "_law_sign", "_law_at"], fn15⟩
abbrev st24 : Stmt := top 33
abbrev bd24 : Ss := DI.Sh.bd24
abbrev fn24 : Fn := DI.Sh.fn24
def fi24 : FI := ⟨"_law_any_move", "_law_any_move", st24, ["_law_stock_here", "_law_size", "_law_sent", "_law_taken"], ["_law_stock_here", "_law_size", "_law_sent", "_law_taken", "_law_acts", "_law_act", "_law_kind", "_law_keeping"], fn24⟩
abbrev st25 : Stmt := top 34
abbrev bd25 : Ss := DI.Sh.bd25
abbrev fn25 : Fn := DI.Sh.fn25
def fi25 : FI := ⟨"_law_any_rows", "_law_any_rows", st25, ["_law_stock_here", "_law_sent", "_law_taken", "_law_size", "_law_much"], ["_law_stock_here", "_law_sent", "_law_taken", "_law_size", "_law_much", "_law_found", "_law_state", "_law_turn"], fn25⟩
abbrev st16 : Stmt := top 35
abbrev bd16 : Ss := DI.Sh.bd16
abbrev fn16 : Fn := DI.Sh.fn16
def fi16 : FI := ⟨"_law_spelled", "_law_spelled", st16, ["_law_value"], ["_law_value", "_law_sign"], fn16⟩
abbrev st17 : Stmt := top 36
abbrev bd17 : Ss := DI.Sh.bd17
abbrev fn17 : Fn := DI.Sh.fn17
def fi17 : FI := ⟨"_law_is_below", "_law_is_below", st17, ["_law_value", "_law_most"], ["_law_value", "_law_most"], fn17⟩
abbrev st18 : Stmt := top 37
abbrev bd18 : Ss := DI.Sh.bd18
abbrev fn18 : Fn := DI.Sh.fn18
def fi18 : FI := ⟨"_law_is_fine_move", "_law_is_fine_move", st18, ["_law_value", "_law_size"], ["_law_value", "_law_size", "_law_act", "_law_kind", "_law_target", "_law_cost", "_law_keeping"], fn18⟩
abbrev st49 : Stmt := top 38
def bd49 : Ss := (.cons (.try_ (.cons (.expr (.lam0 0)) .nil) (.cons [1, 3] [3] (some 1) (.cons (.ret (.op .add (.cons (.con (.str [110, 117, 109, 98, 101, 114, 32])) (.cons (.op .repr (.cons (.xfld 1 3 0) .nil)) .nil)))) .nil) (.cons [1, 3] [1] none (.cons (.ret (.con (.str [109, 97, 99, 104, 105, 110, 101]))) .nil) (.cons [1, 3] [1] none (.cons (.ret (.con (.str [111, 116, 104, 101, 114]))) .nil) .nil)))) (.cons (.ret (.con (.str [102, 105, 110, 101]))) .nil))
def fn49 : Fn := ⟨false, false, 1, 2, bd49, .no⟩
def fi49 : FI := ⟨"_law_told", "_law_told", st49, ["_law_action"], ["_law_action", "error"], fn49⟩
abbrev st50 : Stmt := top 39
def bd50 : Ss := (.cons (.ifs (.not (.val (.call 17 (.cons (.var 0) (.cons (.op .sub (.cons (.len1 2 []) (.cons (.con (.int 1)) .nil))) .nil))))) (.cons (.ret (.op .add (.cons (.con (.str [110, 117, 109, 98, 101, 114, 32])) (.cons (.op .repr (.cons (.var 0) .nil)) .nil)))) .nil) .nil) (.cons (.ret (.ife (.val (.call 17 (.cons (.var 1) (.cons (.op .sub (.cons (.op .len (.cons (.item1 2 [] (.var 0)) .nil)) (.cons (.con (.int 1)) .nil))) .nil)))) (.con (.str [102, 105, 110, 101])) (.op .add (.cons (.con (.str [110, 117, 109, 98, 101, 114, 32])) (.cons (.op .repr (.cons (.var 1) .nil)) .nil))))) .nil))
def fn50 : Fn := ⟨false, false, 3, 3, bd50, .no⟩
def fi50 : FI := ⟨"_law_wrong_of", "_law_wrong_of", st50, ["_law_state", "_law_number", "_law_rows"], ["_law_state", "_law_number", "_law_rows"], fn50⟩
abbrev st51 : Stmt := top 40
def bd51 : Ss := (.cons (.ret (.lst (.cons (.con (.int 0)) (.cons (.op .sub (.cons (.var 0) (.cons (.con (.int 1)) .nil))) (.cons (.var 0) (.cons (.op .add (.cons (.var 0) (.cons (.con (.int 1)) .nil))) (.cons (.op .sub (.cons (.con (.int 0)) (.cons (.con (.int 1)) .nil))) (.cons (.op .sub (.cons (.con (.int 0)) (.cons (.var 0) .nil))) (.cons (.con (.bl true)) (.cons (.con (.bl false)) (.cons (.con .non) (.cons (.con (.str [48])) (.cons (.op .pow (.cons (.con (.int 10)) (.cons (.con (.int 60)) .nil))) (.cons (.lst (.cons (.con (.int 0)) .nil)) (.cons (.con (.int 6)) (.cons (.con (.str [])) .nil)))))))))))))))) .nil)
def fn51 : Fn := ⟨false, false, 1, 1, bd51, .no⟩
def fi51 : FI := ⟨"_law_indices", "_law_indices", st51, ["_law_size"], ["_law_size"], fn51⟩
abbrev st52 : Stmt := top 41
def bd52 : Ss := (.cons (.ifs (.val (.op .ne (.cons (.lamc 49 [0, 2, 3] (.item1 0 [(2, 48)] (.op .tup (.cons (.var 2) (.cons (.var 3) .nil))))) (.cons (.call 50 (.cons (.var 2) (.cons (.var 3) (.cons (.var 1) .nil)))) .nil)))) (.cons (.ret (.con (.bl false))) .nil) .nil) (.cons (.set 4 (.ife (.val (.call 17 (.cons (.var 2) (.cons (.op .sub (.cons (.len1 1 []) (.cons (.con (.int 1)) .nil))) .nil)))) (.con (.str [102, 105, 110, 101])) (.op .add (.cons (.con (.str [110, 117, 109, 98, 101, 114, 32])) (.cons (.op .repr (.cons (.var 2) .nil)) .nil))))) (.cons (.ifs (.val (.op .ne (.cons (.lamc 49 [0, 2] (.item1 0 [(2, 48)] (.var 2))) (.cons (.var 4) .nil)))) (.cons (.ret (.con (.bl false))) .nil) .nil) (.cons (.set 5 (.lst (.cons (.op .tup .nil) (.cons (.op .tup (.cons (.var 2) .nil)) (.cons (.op .tup (.cons (.var 2) (.cons (.var 3) (.cons (.con (.int 0)) .nil)))) (.cons (.op .tup (.cons (.op .tup (.cons (.var 2) (.cons (.var 3) .nil))) .nil)) .nil)))))) (.cons (.for_ (.nm 6) (.seq (.var 5)) (.cons (.ifs (.val (.op .ne (.cons (.lamc 49 [0, 6] (.item1 0 [(2, 48)] (.var 6))) (.cons (.op .add (.cons (.con (.str [110, 117, 109, 98, 101, 114, 32])) (.cons (.op .repr (.cons (.var 6) .nil)) .nil))) .nil)))) (.cons (.ret (.con (.bl false))) .nil) .nil) .nil)) (.cons (.ret (.con (.bl true))) .nil))))))
def fn52 : Fn := ⟨false, false, 4, 7, bd52, .no⟩
def fi52 : FI := ⟨"_law_items_right", "_law_items_right", st52, ["_law_machine", "_law_rows", "_law_state", "_law_number"], ["_law_machine", "_law_rows", "_law_state", "_law_number", "_law_due", "_law_odd", "_law_value"], fn52⟩
abbrev st53 : Stmt := top 42
def bd53 : Ss := (.cons (.set 6 (.call 50 (.cons (.var 2) (.cons (.con (.int 0)) (.cons (.op .mul (.cons (.lst (.cons (.op .tup (.cons (.var 4) .nil)) .nil)) (.cons (.len1 1 []) .nil))) .nil))))) (.cons (.set 7 (.ife (.val (.call 18 (.cons (.var 4) (.cons (.len1 1 []) .nil)))) (.con (.str [102, 105, 110, 101])) (.con (.str [109, 97, 99, 104, 105, 110, 101])))) (.cons (.ifs (.val (.op .ne (.cons (.lamc 49 [0, 2, 4] (.meth (.var 0) [(2, 38)] (.cons (.var 2) (.cons (.var 4) .nil)))) (.cons (.ife (.val (.op .ne (.cons (.var 6) (.cons (.con (.str [102, 105, 110, 101])) .nil)))) (.var 6) (.var 7)) .nil)))) (.cons (.ret (.con (.bl false))) .nil) .nil) (.cons (.ifs (.val (.op .ne (.cons (.lamc 49 [0, 2] (.meth (.var 0) [(2, 38)] (.cons (.var 2) .nil))) (.cons (.var 6) .nil)))) (.cons (.ret (.con (.bl false))) .nil) .nil) (.cons (.set 6 (.call 50 (.cons (.var 2) (.cons (.var 3) (.cons (.var 1) .nil))))) (.cons (.ifs (.and (.val (.op .eq (.cons (.var 6) (.cons (.con (.str [102, 105, 110, 101])) .nil)))) (.not (.val (.call 18 (.cons (.op .add (.cons (.cut (.op .item (.cons (.item1 1 [] (.var 2)) (.cons (.var 3) .nil))) .none (.some (.con (.int 4)))) (.cons (.op .tup (.cons (.var 5) .nil)) .nil))) (.cons (.len1 1 []) .nil)))))) (.cons (.set 6 (.con (.str [109, 97, 99, 104, 105, 110, 101]))) .nil) .nil) (.cons (.ret (.op .eq (.cons (.lamc 49 [0, 2, 3, 5] (.meth (.var 0) [(2, 39)] (.cons (.var 2) (.cons (.var 3) (.cons (.var 5) .nil))))) (.cons (.var 6) .nil)))) .nil)))))))
def fn53 : Fn := ⟨false, false, 6, 8, bd53, .no⟩
def fi53 : FI := ⟨"_law_edits_right", "_law_edits_right", st53, ["_law_machine", "_law_rows", "_law_state", "_law_number", "_law_move", "_law_keeping"], ["_law_machine", "_law_rows", "_law_state", "_law_number", "_law_move", "_law_keeping", "_law_at", "_law_due"], fn53⟩
abbrev st54 : Stmt := top 43
def bd54 : Ss := (.cons (.set 2 (.lst (.cons (.op .tup (.cons (.con (.str [115, 101, 110, 100])) (.cons (.con .non) .nil))) (.cons (.op .tup (.cons (.con (.str [119, 111, 114, 107])) (.cons (.item1 1 [] (.con (.int 0))) .nil))) (.cons (.op .tup (.cons (.con (.str [116, 97, 107, 101])) (.cons (.con (.str [])) .nil))) (.cons (.op .tup (.cons (.con (.str [115, 101, 110, 100])) .nil)) (.cons (.con (.str [119, 111, 114, 107])) (.cons (.con .non) (.cons (.con (.int 0)) (.cons (.lst (.cons (.con (.str [119, 111, 114, 107])) (.cons (.con .non) .nil))) (.cons (.op .tup (.cons (.con (.str [87, 111, 114, 107])) (.cons (.con .non) .nil))) .nil))))))))))) (.cons (.upk [.nm 3, .nm 4] (.op .tup (.cons (.op .tup (.cons (.con (.str [116, 97, 107, 101])) (.cons (.item1 1 [] (.con (.int 0))) .nil))) (.cons (.callio 12 0 (.cons (.var 2) .nil)) .nil)))) (.cons (.ifs (.val (.op .ne (.cons (.lamc 49 [3, 4] (.cmeth 2 47 (.cons (.var 3) (.cons (.var 4) .nil)))) (.cons (.con (.str [109, 97, 99, 104, 105, 110, 101])) .nil)))) (.cons (.ret (.con (.bl false))) .nil) .nil) (.cons (.ifs (.val (.op .ne (.cons (.lamc 49 [3, 4] (.cmeth 2 47 (.cons (.var 4) (.cons (.var 3) .nil)))) (.cons (.con (.str [109, 97, 99, 104, 105, 110, 101])) .nil)))) (.cons (.ret (.con (.bl false))) .nil) .nil) (.cons (.ifs (.val (.op .ne (.cons (.lamc 49 [3] (.cmeth 2 47 (.cons (.var 3) (.cons (.var 3) (.cons (.var 3) (.cons (.var 3) (.cons (.var 3) (.cons (.var 3) .nil)))))))) (.cons (.con (.str [102, 105, 110, 101])) .nil)))) (.cons (.ret (.con (.bl false))) .nil) .nil) (.cons (.ifs (.val (.op .ne (.cons (.lamc 49 [3] (.cmeth 2 47 (.cons (.var 3) (.cons (.var 3) (.cons (.var 3) (.cons (.var 3) (.cons (.var 3) (.cons (.var 3) (.cons (.var 3) .nil))))))))) (.cons (.con (.str [109, 97, 99, 104, 105, 110, 101])) .nil)))) (.cons (.ret (.con (.bl false))) .nil) .nil) (.cons (.set 2 (.callio 12 0 (.cons (.lst (.cons (.con (.int 10)) (.cons (.op .sub (.cons (.con (.int 0)) (.cons (.con (.int 1)) .nil))) (.cons (.con (.bl true)) (.cons (.con .non) (.cons (.con (.str [49])) .nil)))))) .nil))) (.cons (.ifs (.val (.op .ne (.cons (.lamc 49 [2, 3] (.cmkw 2 57 (.cons (.var 3) .nil) (.var 2))) (.cons (.con (.str [109, 97, 99, 104, 105, 110, 101])) .nil)))) (.cons (.ret (.con (.bl false))) .nil) .nil) (.cons (.ret (.op .eq (.cons (.lamc 49 [3] (.cmkw 2 57 (.cons (.var 3) .nil) (.con (.int 9)))) (.cons (.con (.str [102, 105, 110, 101])) .nil)))) .nil)))))))))
def fn54 : Fn := ⟨true, false, 2, 5, bd54, .no⟩
def fi54 : FI := ⟨"_law_acts_right", "_law_acts_right", st54, ["_law_stock_here", "_law_words"], ["_law_stock_here", "_law_words", "_law_odd", "_law_fine", "_law_bad"], fn54⟩
abbrev st55 : Stmt := top 44
def bd55 : Ss := (.cons (.set 1 (.callio 15 0 (.cons (.con (.int 4)) .nil))) (.cons (.set 2 (.callio 25 0 (.cons (.cut (.var 1) .none (.some (.con (.int 2)))) (.cons (.cut (.var 1) (.some (.con (.int 2))) .none) (.cons (.op .add (.cons (.con (.int 1)) (.cons (.callio 11 0 (.cons (.con (.int 6)) .nil)) .nil))) (.cons (.con (.int 6)) .nil)))))) (.cons (.par [3, 4] (.cons (.cmeth 2 8 (.cons (.op .tupof (.cons (.var 2) .nil)) .nil)) (.cons (.op .repr (.cons (.var 2) .nil)) .nil))) (.cons (.for_ (.nm 5) (.rng1 (.con (.int 10))) (.cons (.set 6 (.callio 12 0 (.cons (.call 51 (.cons (.len1 2 []) .nil)) .nil))) (.cons (.set 7 (.ife (.val (.call 17 (.cons (.var 6) (.cons (.op .sub (.cons (.len1 2 []) (.cons (.con (.int 1)) .nil))) .nil)))) (.op .len (.cons (.item1 2 [] (.var 6)) .nil)) (.con (.int 3)))) (.cons (.set 8 (.callio 12 0 (.cons (.call 51 (.cons (.var 7) .nil)) .nil))) (.cons (.set 9 (.callio 24 0 (.cons (.op .add (.cons (.len1 2 []) (.cons (.callio 11 0 (.cons (.con (.int 2)) .nil)) .nil))) (.cons (.cut (.var 1) .none (.some (.con (.int 2)))) (.cons (.cut (.var 1) (.some (.con (.int 2))) .none) .nil))))) (.cons (.set 9 (.op .add (.cons (.cut (.var 9) .none (.some (.con (.int 3)))) (.cons (.op .tup (.cons (.callio 12 0 (.cons (.lst (.cons (.con (.int 3)) (.cons (.con (.int 9)) (.cons (.con (.int 10)) .nil)))) .nil)) (.cons (.item1 9 [] (.con (.int 4))) .nil))) .nil)))) (.cons (.set 10 (.callio 12 0 (.cons (.lst (.cons (.con .non) (.cons (.con (.str [115, 97, 118, 101])) (.cons (.con (.str [110, 111, 116, 101])) (.cons (.con (.str [107, 101, 101, 112])) (.cons (.con (.int 0)) (.cons (.lst (.cons (.con (.str [115, 97, 118, 101])) .nil)) .nil))))))) .nil))) (.cons (.ifs (.not (.val (.call 52 (.cons (.var 3) (.cons (.var 2) (.cons (.var 6) (.cons (.var 8) .nil))))))) (.cons (.ret (.con (.bl false))) .nil) .nil) (.cons (.ifs (.not (.val (.call 53 (.cons (.var 3) (.cons (.var 2) (.cons (.var 6) (.cons (.var 8) (.cons (.var 9) (.cons (.var 10) .nil))))))))) (.cons (.ret (.con (.bl false))) .nil) .nil) .nil))))))))) (.cons (.ret (.andb (.op .eq (.cons (.op .repr (.cons (.op .listof (.cons (.prop (.var 3) [(2, 9)]) .nil)) .nil)) (.cons (.var 4) .nil))) (.callio 54 0 (.cons (.var 1) .nil)))) .nil)))))
def fn55 : Fn := ⟨true, false, 1, 11, bd55, .no⟩
def fi55 : FI := ⟨"_law_cell_right", "_law_cell_right", st55, ["_law_stock_here"], ["_law_stock_here", "_law_words", "_law_rows", "_law_machine", "_law_kept", "_law_turn", "_law_state", "_law_size", "_law_number", "_law_move", "_law_keeping"], fn55⟩
abbrev st56 : Stmt := top 45
def bd56 : Ss := (.cons (.for_ (.nm 1) (.rng1 (.op .max (.cons (.con (.int 1)) (.cons (.op .min (.cons (.con (.int 8)) (.cons (.len1 0 []) .nil))) .nil)))) (.cons (.ifs (.not (.val (.callfr 55 (.call 10 (.cons (.var 0) (.cons (.var 1) .nil))) .nil))) (.cons (.ret (.con (.bl false))) .nil) .nil) .nil)) (.cons (.ret (.con (.bl true))) .nil))
def fn56 : Fn := ⟨false, false, 1, 2, bd56, .no⟩
def fi56 : FI := ⟨"law", "law", st56, ["_law_script"], ["_law_script", "_law_at"], fn56⟩
abbrev st57 : Stmt := mem 25 2
def bd57 : Ss := (.cons (.ifs (.or (.not (.val (.call 46 (.cons (.var 2) .nil)))) (.not (.val (.call 2 (.cons (.var 1) (.cons (.con (.int 9)) .nil)))))) (.cons (.rs 1 none (.con (.str [112, 97, 105, 114, 115, 32, 111, 102, 32, 97, 110, 32, 97, 99, 116, 32, 97, 110, 100, 32, 97, 32, 107, 105, 110, 100, 44, 32, 97, 110, 100, 32, 97, 32, 112, 114, 105, 99, 101, 44, 32, 97, 114, 101, 32, 101, 120, 112, 101, 99, 116, 101, 100]))) .nil) .nil) (.cons (.ret (.mkv 0 [(2, 7)] (.cons (.op .tupof (.cons (.lc (.tp [(.nm 3), (.nm 4)]) (.seq (.var 2)) .yes (.op .tup (.cons (.var 3) (.cons (.var 4) (.cons (.con (.int 0)) (.cons (.var 1) (.cons (.con .non) .nil))))))) .nil)) .nil))) .nil))
def fn57 : Fn := ⟨false, true, 3, 5, bd57, (.gv "price")⟩
def fi57 : FI := ⟨"free", "Machine.free", st57, ["cls", "price", "acts"], ["cls", "price", "acts", "act", "kind"], fn57⟩
def fis : List (Nat × FI) := [(0, fi0), (1, fi1), (2, fi2), (3, fi3), (4, fi4), (5, fi5), (6, fi6), (46, fi46), (35, fi35), (7, fi7), (8, fi8), (47, fi47), (9, fi9), (36, fi36), (37, fi37), (38, fi38), (39, fi39), (48, fi48), (10, fi10), (11, fi11), (12, fi12), (13, fi13), (14, fi14), (15, fi15), (24, fi24), (25, fi25), (16, fi16), (17, fi17), (18, fi18), (49, fi49), (50, fi50), (51, fi51), (52, fi52), (53, fi53), (54, fi54), (55, fi55), (56, fi56), (57, fi57)]
def fns : List (Nat × Fn) := [(0, fn0), (1, fn1), (2, fn2), (3, fn3), (4, fn4), (5, fn5), (6, fn6), (46, fn46), (35, fn35), (7, fn7), (8, fn8), (47, fn47), (9, fn9), (36, fn36), (37, fn37), (38, fn38), (39, fn39), (48, fn48), (10, fn10), (11, fn11), (12, fn12), (13, fn13), (14, fn14), (15, fn15), (24, fn24), (25, fn25), (16, fn16), (17, fn17), (18, fn18), (49, fn49), (50, fn50), (51, fn51), (52, fn52), (53, fn53), (54, fn54), (55, fn55), (56, fn56), (57, fn57)]
def tab : Tab := ⟨fns, [("is_integer", 0), ("is_word", 1), ("is_within", 2), ("is_keeping", 3), ("is_move", 4), ("is_state", 5), ("are_states", 6), ("are_acts", 46), ("with_keepings", 35), ("_law_stock", 10), ("_law_draw", 11), ("_law_pick", 12), ("_law_shuffled", 13), ("_law_letter", 14), ("_law_many_words", 15), ("_law_any_move", 24), ("_law_any_rows", 25), ("_law_spelled", 16), ("_law_is_below", 17), ("_law_is_fine_move", 18), ("_law_told", 49), ("_law_wrong_of", 50), ("_law_indices", 51), ("_law_items_right", 52), ("_law_edits_right", 53), ("_law_acts_right", 54), ("_law_cell_right", 55), ("law", 56)], [("GREATEST", (.int 999999999999999999999999999999999999999999999999999999999999)), ("MAX_LETTERS", (.int 8)), ("KEEPINGS", (.ctp [.non, (.str [110, 111, 116, 101]), (.str [115, 97, 118, 101])])), ("MAX_PRICE", (.int 9)), ("MAX_STATES", (.int 6)), ("NOTE", (.str [110, 111, 116, 101])), ("LETTER_ACTS", (.ctp [(.str [115, 101, 110, 100]), (.str [116, 97, 107, 101])])), ("ACTS", (.ctp [(.str [111, 117, 116, 112, 117, 116]), (.str [115, 101, 110, 100]), (.str [116, 97, 107, 101]), (.str [119, 111, 114, 107])])), ("MAX_MOVES", (.int 6))], ["isinstance", "bool", "int", "all", "len", "str", "tuple", "enumerate", "max", "abs", "range", "list", "repr", "min"], [(2, ⟨"Machine", some 7, [("require_state", 36), ("require_move", 37), ("with_state", 38), ("with_keeping", 39), ("__getitem__", 48)], [("states", 9)], [("of", 8), ("free", 47)], [1], [("free", 57)]⟩)], [(0, ⟨"FallError", false, [1, 3], [1], false, none⟩), (1, ⟨"InvalidMachine", true, [1, 3], [1], false, none⟩), (3, ⟨"InvalidNumber", false, [1, 3], [3], false, (some 0)⟩)], [52, 53, 54], [], PySem.Challenge.pw_fallsback_k08_errors_of_machines.main.file, [(3, 0, xnOf "InvalidNumber.__init__" (mem 11 0))], [(3, 0)], ["_law_machine"]⟩
def ads : List (Nat × DAt) := [(0, .glo "is_integer"), (1, .glo "is_word"), (2, .glo "is_within"), (3, .glo "is_keeping"), (4, .glo "is_move"), (5, .glo "is_state"), (6, .glo "are_states"), (46, .glo "are_acts"), (35, .glo "with_keepings"), (7, .meth "Machine" "__init__"), (8, .cm "Machine" "of"), (47, .cm "Machine" "free"), (9, .prop "Machine" "states"), (36, .meth "Machine" "require_state"), (37, .meth "Machine" "require_move"), (38, .meth "Machine" "with_state"), (39, .meth "Machine" "with_keeping"), (48, .meth "Machine" "__getitem__"), (10, .glo "_law_stock"), (11, .glo "_law_draw"), (12, .glo "_law_pick"), (13, .glo "_law_shuffled"), (14, .glo "_law_letter"), (15, .glo "_law_many_words"), (24, .glo "_law_any_move"), (25, .glo "_law_any_rows"), (16, .glo "_law_spelled"), (17, .glo "_law_is_below"), (18, .glo "_law_is_fine_move"), (49, .glo "_law_told"), (50, .glo "_law_wrong_of"), (51, .glo "_law_indices"), (52, .glo "_law_items_right"), (53, .glo "_law_edits_right"), (54, .glo "_law_acts_right"), (55, .glo "_law_cell_right"), (56, .glo "law"), (57, .cm "Machine" "free"), (1000, .glo "FallError"), (1001, .glo "InvalidMachine"), (1003, .glo "InvalidNumber"), (1002, .glo "Machine")]
theorem cp0 : (cSs tab 80 false (ctOf tab 0 fi0) (defBody st0)).map (·.1) = some bd0 := by kernel_rfl
theorem bp0 : BindP fi0 := (if_neg (by decide)).mpr fun kV doc pm an cdv ct us hl => match us, hl with | [_], _ => rfl
theorem fw0 : FW fi0 := ⟨⟨rfl, rfl, rfl, by decide +kernel, rfl, by decide +kernel, by decide +kernel⟩, (if_pos rfl).mpr bp0, rfl, rfl⟩
theorem cp1 : (cSs tab 80 false (ctOf tab 1 fi1) (defBody st1)).map (·.1) = some bd1 := by kernel_rfl
theorem bp1 : BindP fi1 := (if_neg (by decide)).mpr fun kV doc pm an cdv ct us hl => match us, hl with | [_], _ => rfl
theorem fw1 : FW fi1 := ⟨⟨rfl, rfl, rfl, by decide +kernel, rfl, by decide +kernel, by decide +kernel⟩, (if_pos rfl).mpr bp1, rfl, rfl⟩
theorem cp2 : (cSs tab 80 false (ctOf tab 2 fi2) (defBody st2)).map (·.1) = some bd2 := by kernel_rfl
theorem bp2 : BindP fi2 := (if_neg (by decide)).mpr fun kV doc pm an cdv ct us hl => match us, hl with | [_, _], _ => rfl
theorem fw2 : FW fi2 := ⟨⟨rfl, rfl, rfl, by decide +kernel, rfl, by decide +kernel, by decide +kernel⟩, (if_pos rfl).mpr bp2, rfl, rfl⟩
theorem cp3 : (cSs tab 80 false (ctOf tab 3 fi3) (defBody st3)).map (·.1) = some bd3 := by kernel_rfl
theorem bp3 : BindP fi3 := (if_neg (by decide)).mpr fun kV doc pm an cdv ct us hl => match us, hl with | [_], _ => rfl
theorem fw3 : FW fi3 := ⟨⟨rfl, rfl, rfl, by decide +kernel, rfl, by decide +kernel, by decide +kernel⟩, (if_pos rfl).mpr bp3, rfl, rfl⟩
theorem cp4 : (cSs tab 80 false (ctOf tab 4 fi4) (defBody st4)).map (·.1) = some bd4 := by kernel_rfl
theorem bp4 : BindP fi4 := (if_neg (by decide)).mpr fun kV doc pm an cdv ct us hl => match us, hl with | [_], _ => rfl
theorem fw4 : FW fi4 := ⟨⟨rfl, rfl, rfl, by decide +kernel, rfl, by decide +kernel, by decide +kernel⟩, (if_pos rfl).mpr bp4, rfl, rfl⟩
theorem cp5 : (cSs tab 80 false (ctOf tab 5 fi5) (defBody st5)).map (·.1) = some bd5 := by kernel_rfl
theorem bp5 : BindP fi5 := (if_neg (by decide)).mpr fun kV doc pm an cdv ct us hl => match us, hl with | [_, _], _ => rfl
theorem fw5 : FW fi5 := ⟨⟨rfl, rfl, rfl, by decide +kernel, rfl, by decide +kernel, by decide +kernel⟩, (if_pos rfl).mpr bp5, rfl, rfl⟩
theorem cp6 : (cSs tab 80 false (ctOf tab 6 fi6) (defBody st6)).map (·.1) = some bd6 := by kernel_rfl
theorem bp6 : BindP fi6 := (if_neg (by decide)).mpr fun kV doc pm an cdv ct us hl => match us, hl with | [_], _ => rfl
theorem fw6 : FW fi6 := ⟨⟨rfl, rfl, rfl, by decide +kernel, rfl, by decide +kernel, by decide +kernel⟩, (if_pos rfl).mpr bp6, rfl, rfl⟩
theorem cp46 : (cSs tab 80 false (ctOf tab 46 fi46) (defBody st46)).map (·.1) = some bd46 := by kernel_rfl
theorem bp46 : BindP fi46 := (if_neg (by decide)).mpr fun kV doc pm an cdv ct us hl => match us, hl with | [_], _ => rfl
theorem fw46 : FW fi46 := ⟨⟨rfl, rfl, rfl, by decide +kernel, rfl, by decide +kernel, by decide +kernel⟩, (if_pos rfl).mpr bp46, rfl, rfl⟩
theorem cp35 : (cSs tab 80 false (ctOf tab 35 fi35) (defBody st35)).map (·.1) = some bd35 := by kernel_rfl
theorem bp35 : BindP fi35 := (if_neg (by decide)).mpr fun kV doc pm an cdv ct us hl => match us, hl with | [_, _], _ => rfl
theorem fw35 : FW fi35 := ⟨⟨rfl, rfl, rfl, by decide +kernel, rfl, by decide +kernel, by decide +kernel⟩, (if_pos rfl).mpr bp35, rfl, rfl⟩
theorem cp7 : (cSs tab 80 false (ctOf tab 7 fi7) (defBody st7)).map (·.1) = some bd7 := by kernel_rfl
theorem bp7 : BindP fi7 := (if_pos rfl).mpr ⟨["self"], "states", rfl, fun kV doc pm an cdv ct us rest hl => match us, rest, hl with | [_], [], _ => rfl | [_], _ :: _, _ => rfl⟩
theorem fw7 : FW fi7 := ⟨⟨rfl, rfl, rfl, by decide +kernel, rfl, by decide +kernel, by decide +kernel⟩, (if_pos rfl).mpr bp7, rfl, rfl⟩
theorem cp8 : (cSs tab 80 false (ctOf tab 8 fi8) (defBody st8)).map (·.1) = some bd8 := by kernel_rfl
theorem bp8 : BindP fi8 := (if_neg (by decide)).mpr fun kV doc pm an cdv ct us hl => match us, hl with | [_, _], _ => rfl
theorem fw8 : FW fi8 := ⟨⟨rfl, rfl, rfl, by decide +kernel, rfl, by decide +kernel, by decide +kernel⟩, (if_pos rfl).mpr bp8, rfl, rfl⟩
theorem cp47 : (cSs tab 80 false (ctOf tab 47 fi47) (defBody st47)).map (·.1) = some bd47 := by kernel_rfl
theorem bp47 : BindK fi47 := ⟨["cls"], "price", "acts", rfl, fun D doc pm an cdv ct w us rest hl => match us, rest, hl with | [_], [], _ => ⟨_, _, _, _, _, _, by rfl, by rfl, by rfl⟩ | [_], _ :: _, _ => ⟨_, _, _, _, _, _, by rfl, by rfl, by rfl⟩⟩
theorem fw47 : FW fi47 := ⟨⟨rfl, rfl, rfl, by decide +kernel, rfl, by decide +kernel, by decide +kernel⟩, (if_neg (by decide)).mpr bp47, rfl, rfl⟩
theorem cp9 : (cSs tab 80 false (ctOf tab 9 fi9) (defBody st9)).map (·.1) = some bd9 := by kernel_rfl
theorem bp9 : BindP fi9 := (if_neg (by decide)).mpr fun kV doc pm an cdv ct us hl => match us, hl with | [_], _ => rfl
theorem fw9 : FW fi9 := ⟨⟨rfl, rfl, rfl, by decide +kernel, rfl, by decide +kernel, by decide +kernel⟩, (if_pos rfl).mpr bp9, rfl, rfl⟩
theorem cp36 : (cSs tab 80 false (ctOf tab 36 fi36) (defBody st36)).map (·.1) = some bd36 := by kernel_rfl
theorem bp36 : BindP fi36 := (if_neg (by decide)).mpr fun kV doc pm an cdv ct us hl => match us, hl with | [_, _], _ => rfl
theorem fw36 : FW fi36 := ⟨⟨rfl, rfl, rfl, by decide +kernel, rfl, by decide +kernel, by decide +kernel⟩, (if_pos rfl).mpr bp36, rfl, rfl⟩
theorem cp37 : (cSs tab 80 false (ctOf tab 37 fi37) (defBody st37)).map (·.1) = some bd37 := by kernel_rfl
theorem bp37 : BindP fi37 := (if_neg (by decide)).mpr fun kV doc pm an cdv ct us hl => match us, hl with | [_, _, _], _ => rfl
theorem fw37 : FW fi37 := ⟨⟨rfl, rfl, rfl, by decide +kernel, rfl, by decide +kernel, by decide +kernel⟩, (if_pos rfl).mpr bp37, rfl, rfl⟩
theorem cp38 : (cSs tab 80 false (ctOf tab 38 fi38) (defBody st38)).map (·.1) = some bd38 := by kernel_rfl
theorem bp38 : BindP fi38 := (if_pos rfl).mpr ⟨["self", "state"], "moves", rfl, fun kV doc pm an cdv ct us rest hl => match us, rest, hl with | [_, _], [], _ => rfl | [_, _], _ :: _, _ => rfl⟩
theorem fw38 : FW fi38 := ⟨⟨rfl, rfl, rfl, by decide +kernel, rfl, by decide +kernel, by decide +kernel⟩, (if_pos rfl).mpr bp38, rfl, rfl⟩
theorem cp39 : (cSs tab 80 false (ctOf tab 39 fi39) (defBody st39)).map (·.1) = some bd39 := by kernel_rfl
theorem bp39 : BindP fi39 := (if_neg (by decide)).mpr fun kV doc pm an cdv ct us hl => match us, hl with | [_, _, _, _], _ => rfl
theorem fw39 : FW fi39 := ⟨⟨rfl, rfl, rfl, by decide +kernel, rfl, by decide +kernel, by decide +kernel⟩, (if_pos rfl).mpr bp39, rfl, rfl⟩
theorem cp48 : (cSs tab 80 false (ctOf tab 48 fi48) (defBody st48)).map (·.1) = some bd48 := by kernel_rfl
theorem bp48 : BindP fi48 := (if_neg (by decide)).mpr fun kV doc pm an cdv ct us hl => match us, hl with | [_, _], _ => rfl
theorem fw48 : FW fi48 := ⟨⟨rfl, rfl, rfl, by decide +kernel, rfl, by decide +kernel, by decide +kernel⟩, (if_pos rfl).mpr bp48, rfl, rfl⟩
theorem cp10 : (cSs tab 80 false (ctOf tab 10 fi10) (defBody st10)).map (·.1) = some bd10 := by kernel_rfl
theorem bp10 : BindP fi10 := (if_neg (by decide)).mpr fun kV doc pm an cdv ct us hl => match us, hl with | [_, _], _ => rfl
theorem fw10 : FW fi10 := ⟨⟨rfl, rfl, rfl, by decide +kernel, rfl, by decide +kernel, by decide +kernel⟩, (if_pos rfl).mpr bp10, rfl, rfl⟩
theorem cp11 : (cSs tab 80 false (ctOf tab 11 fi11) (defBody st11)).map (·.1) = some bd11 := by kernel_rfl
theorem bp11 : BindP fi11 := (if_neg (by decide)).mpr fun kV doc pm an cdv ct us hl => match us, hl with | [_, _], _ => rfl
theorem fw11 : FW fi11 := ⟨⟨rfl, rfl, rfl, by decide +kernel, rfl, by decide +kernel, by decide +kernel⟩, (if_pos rfl).mpr bp11, rfl, rfl⟩
theorem cp12 : (cSs tab 80 false (ctOf tab 12 fi12) (defBody st12)).map (·.1) = some bd12 := by kernel_rfl
theorem bp12 : BindP fi12 := (if_neg (by decide)).mpr fun kV doc pm an cdv ct us hl => match us, hl with | [_, _], _ => rfl
theorem fw12 : FW fi12 := ⟨⟨rfl, rfl, rfl, by decide +kernel, rfl, by decide +kernel, by decide +kernel⟩, (if_pos rfl).mpr bp12, rfl, rfl⟩
theorem cp13 : (cSs tab 80 false (ctOf tab 13 fi13) (defBody st13)).map (·.1) = some bd13 := by kernel_rfl
theorem bp13 : BindP fi13 := (if_neg (by decide)).mpr fun kV doc pm an cdv ct us hl => match us, hl with | [_, _], _ => rfl
theorem fw13 : FW fi13 := ⟨⟨rfl, rfl, rfl, by decide +kernel, rfl, by decide +kernel, by decide +kernel⟩, (if_pos rfl).mpr bp13, rfl, rfl⟩
theorem cp14 : (cSs tab 80 false (ctOf tab 14 fi14) (defBody st14)).map (·.1) = some bd14 := by kernel_rfl
theorem bp14 : BindP fi14 := (if_neg (by decide)).mpr fun kV doc pm an cdv ct us hl => match us, hl with | [_], _ => rfl
theorem fw14 : FW fi14 := ⟨⟨rfl, rfl, rfl, by decide +kernel, rfl, by decide +kernel, by decide +kernel⟩, (if_pos rfl).mpr bp14, rfl, rfl⟩
theorem cp15 : (cSs tab 80 false (ctOf tab 15 fi15) (defBody st15)).map (·.1) = some bd15 := by kernel_rfl
theorem bp15 : BindP fi15 := (if_neg (by decide)).mpr fun kV doc pm an cdv ct us hl => match us, hl with | [_, _], _ => rfl
theorem fw15 : FW fi15 := ⟨⟨rfl, rfl, rfl, by decide +kernel, rfl, by decide +kernel, by decide +kernel⟩, (if_pos rfl).mpr bp15, rfl, rfl⟩
theorem cp24 : (cSs tab 80 false (ctOf tab 24 fi24) (defBody st24)).map (·.1) = some bd24 := by kernel_rfl
theorem bp24 : BindP fi24 := (if_neg (by decide)).mpr fun kV doc pm an cdv ct us hl => match us, hl with | [_, _, _, _], _ => rfl
theorem fw24 : FW fi24 := ⟨⟨rfl, rfl, rfl, by decide +kernel, rfl, by decide +kernel, by decide +kernel⟩, (if_pos rfl).mpr bp24, rfl, rfl⟩
theorem cp25 : (cSs tab 80 false (ctOf tab 25 fi25) (defBody st25)).map (·.1) = some bd25 := by kernel_rfl
theorem bp25 : BindP fi25 := (if_neg (by decide)).mpr fun kV doc pm an cdv ct us hl => match us, hl with | [_, _, _, _, _], _ => rfl
theorem fw25 : FW fi25 := ⟨⟨rfl, rfl, rfl, by decide +kernel, rfl, by decide +kernel, by decide +kernel⟩, (if_pos rfl).mpr bp25, rfl, rfl⟩
theorem cp16 : (cSs tab 80 false (ctOf tab 16 fi16) (defBody st16)).map (·.1) = some bd16 := by kernel_rfl
theorem bp16 : BindP fi16 := (if_neg (by decide)).mpr fun kV doc pm an cdv ct us hl => match us, hl with | [_], _ => rfl
theorem fw16 : FW fi16 := ⟨⟨rfl, rfl, rfl, by decide +kernel, rfl, by decide +kernel, by decide +kernel⟩, (if_pos rfl).mpr bp16, rfl, rfl⟩
theorem cp17 : (cSs tab 80 false (ctOf tab 17 fi17) (defBody st17)).map (·.1) = some bd17 := by kernel_rfl
theorem bp17 : BindP fi17 := (if_neg (by decide)).mpr fun kV doc pm an cdv ct us hl => match us, hl with | [_, _], _ => rfl
theorem fw17 : FW fi17 := ⟨⟨rfl, rfl, rfl, by decide +kernel, rfl, by decide +kernel, by decide +kernel⟩, (if_pos rfl).mpr bp17, rfl, rfl⟩
theorem cp18 : (cSs tab 80 false (ctOf tab 18 fi18) (defBody st18)).map (·.1) = some bd18 := by kernel_rfl
theorem bp18 : BindP fi18 := (if_neg (by decide)).mpr fun kV doc pm an cdv ct us hl => match us, hl with | [_, _], _ => rfl
theorem fw18 : FW fi18 := ⟨⟨rfl, rfl, rfl, by decide +kernel, rfl, by decide +kernel, by decide +kernel⟩, (if_pos rfl).mpr bp18, rfl, rfl⟩
theorem cp49 : (cSs tab 80 false (ctOf tab 49 fi49) (defBody st49)).map (·.1) = some bd49 := by kernel_rfl
theorem bp49 : BindP fi49 := (if_neg (by decide)).mpr fun kV doc pm an cdv ct us hl => match us, hl with | [_], _ => rfl
theorem fw49 : FW fi49 := ⟨⟨rfl, rfl, rfl, by decide +kernel, rfl, by decide +kernel, by decide +kernel⟩, (if_pos rfl).mpr bp49, rfl, rfl⟩
theorem cp50 : (cSs tab 80 false (ctOf tab 50 fi50) (defBody st50)).map (·.1) = some bd50 := by kernel_rfl
theorem bp50 : BindP fi50 := (if_neg (by decide)).mpr fun kV doc pm an cdv ct us hl => match us, hl with | [_, _, _], _ => rfl
theorem fw50 : FW fi50 := ⟨⟨rfl, rfl, rfl, by decide +kernel, rfl, by decide +kernel, by decide +kernel⟩, (if_pos rfl).mpr bp50, rfl, rfl⟩
theorem cp51 : (cSs tab 80 false (ctOf tab 51 fi51) (defBody st51)).map (·.1) = some bd51 := by kernel_rfl
theorem bp51 : BindP fi51 := (if_neg (by decide)).mpr fun kV doc pm an cdv ct us hl => match us, hl with | [_], _ => rfl
theorem fw51 : FW fi51 := ⟨⟨rfl, rfl, rfl, by decide +kernel, rfl, by decide +kernel, by decide +kernel⟩, (if_pos rfl).mpr bp51, rfl, rfl⟩
theorem cp52 : (cSs tab 80 false (ctOf tab 52 fi52) (defBody st52)).map (·.1) = some bd52 := by kernel_rfl
theorem bp52 : BindP fi52 := (if_neg (by decide)).mpr fun kV doc pm an cdv ct us hl => match us, hl with | [_, _, _, _], _ => rfl
theorem fw52 : FW fi52 := ⟨⟨rfl, rfl, rfl, by decide +kernel, rfl, by decide +kernel, by decide +kernel⟩, (if_pos rfl).mpr bp52, rfl, rfl⟩
theorem cp53 : (cSs tab 80 false (ctOf tab 53 fi53) (defBody st53)).map (·.1) = some bd53 := by kernel_rfl
theorem bp53 : BindP fi53 := (if_neg (by decide)).mpr fun kV doc pm an cdv ct us hl => match us, hl with | [_, _, _, _, _, _], _ => rfl
theorem fw53 : FW fi53 := ⟨⟨rfl, rfl, rfl, by decide +kernel, rfl, by decide +kernel, by decide +kernel⟩, (if_pos rfl).mpr bp53, rfl, rfl⟩
theorem cp54 : (cSs tab 80 false (ctOf tab 54 fi54) (defBody st54)).map (·.1) = some bd54 := by kernel_rfl
theorem bp54 : BindP fi54 := (if_neg (by decide)).mpr fun kV doc pm an cdv ct us hl => match us, hl with | [_, _], _ => rfl
theorem fw54 : FW fi54 := ⟨⟨rfl, rfl, rfl, by decide +kernel, rfl, by decide +kernel, by decide +kernel⟩, (if_pos rfl).mpr bp54, rfl, rfl⟩
theorem cp55 : (cSs tab 80 false (ctOf tab 55 fi55) (defBody st55)).map (·.1) = some bd55 := by kernel_rfl
theorem bp55 : BindP fi55 := (if_neg (by decide)).mpr fun kV doc pm an cdv ct us hl => match us, hl with | [_], _ => rfl
theorem fw55 : FW fi55 := ⟨⟨rfl, rfl, rfl, by decide +kernel, rfl, by decide +kernel, by decide +kernel⟩, (if_pos rfl).mpr bp55, rfl, rfl⟩
theorem cp56 : (cSs tab 80 false (ctOf tab 56 fi56) (defBody st56)).map (·.1) = some bd56 := by kernel_rfl
theorem bp56 : BindP fi56 := (if_neg (by decide)).mpr fun kV doc pm an cdv ct us hl => match us, hl with | [_], _ => rfl
theorem fw56 : FW fi56 := ⟨⟨rfl, rfl, rfl, by decide +kernel, rfl, by decide +kernel, by decide +kernel⟩, (if_pos rfl).mpr bp56, rfl, rfl⟩
theorem cp57 : (cSs tab 80 false (ctOf tab 57 fi57) (defBody st57)).map (·.1) = some bd57 := by kernel_rfl
theorem bp57 : BindK fi57 := ⟨["cls"], "price", "acts", rfl, ⟨rfl, fun kV doc pm an cdv ct w us rest hl => match us, rest, hl with | [_], [], _ => rfl | [_], _ :: _, _ => rfl⟩⟩
theorem fw57 : FW fi57 := ⟨⟨rfl, rfl, rfl, by decide +kernel, rfl, by decide +kernel, by decide +kernel⟩, (if_neg (by decide)).mpr bp57, rfl, rfl⟩
theorem bodied : Bodied tab fis := ⟨rfl, AllP.get ⟨fw0, fw1, fw2, fw3, fw4, fw5, fw6, fw46, fw35, fw7, fw8, fw47, fw9, fw36, fw37, fw38, fw39, fw48, fw10, fw11, fw12, fw13, fw14, fw15, fw24, fw25, fw16, fw17, fw18, fw49, fw50, fw51, fw52, fw53, fw54, fw55, fw56, fw57, trivial⟩, AllP.get ⟨snd_of cp0, snd_of cp1, snd_of cp2, snd_of cp3, snd_of cp4, snd_of cp5, snd_of cp6, snd_of cp46, snd_of cp35, snd_of cp7, snd_of cp8, snd_of cp47, snd_of cp9, snd_of cp36, snd_of cp37, snd_of cp38, snd_of cp39, snd_of cp48, snd_of cp10, snd_of cp11, snd_of cp12, snd_of cp13, snd_of cp14, snd_of cp15, snd_of cp24, snd_of cp25, snd_of cp16, snd_of cp17, snd_of cp18, snd_of cp49, snd_of cp50, snd_of cp51, snd_of cp52, snd_of cp53, snd_of cp54, snd_of cp55, snd_of cp56, snd_of cp57, trivial⟩⟩
theorem lk0 : fns.lookup 0 = some fn0 := rfl
theorem lk1 : fns.lookup 1 = some fn1 := rfl
theorem lk2 : fns.lookup 2 = some fn2 := rfl
theorem lk3 : fns.lookup 3 = some fn3 := rfl
theorem lk4 : fns.lookup 4 = some fn4 := rfl
theorem lk5 : fns.lookup 5 = some fn5 := rfl
theorem lk6 : fns.lookup 6 = some fn6 := rfl
theorem lk46 : fns.lookup 46 = some fn46 := rfl
theorem lk35 : fns.lookup 35 = some fn35 := rfl
theorem lk7 : fns.lookup 7 = some fn7 := rfl
theorem lk8 : fns.lookup 8 = some fn8 := rfl
theorem lk47 : fns.lookup 47 = some fn47 := rfl
theorem lk9 : fns.lookup 9 = some fn9 := rfl
theorem lk36 : fns.lookup 36 = some fn36 := rfl
theorem lk37 : fns.lookup 37 = some fn37 := rfl
theorem lk38 : fns.lookup 38 = some fn38 := rfl
theorem lk39 : fns.lookup 39 = some fn39 := rfl
theorem lk48 : fns.lookup 48 = some fn48 := rfl
theorem lk10 : fns.lookup 10 = some fn10 := rfl
theorem lk11 : fns.lookup 11 = some fn11 := rfl
theorem lk12 : fns.lookup 12 = some fn12 := rfl
theorem lk13 : fns.lookup 13 = some fn13 := rfl
theorem lk14 : fns.lookup 14 = some fn14 := rfl
theorem lk15 : fns.lookup 15 = some fn15 := rfl
theorem lk24 : fns.lookup 24 = some fn24 := rfl
theorem lk25 : fns.lookup 25 = some fn25 := rfl
theorem lk16 : fns.lookup 16 = some fn16 := rfl
theorem lk17 : fns.lookup 17 = some fn17 := rfl
theorem lk18 : fns.lookup 18 = some fn18 := rfl
theorem lk49 : fns.lookup 49 = some fn49 := rfl
theorem lk50 : fns.lookup 50 = some fn50 := rfl
theorem lk51 : fns.lookup 51 = some fn51 := rfl
theorem lk52 : fns.lookup 52 = some fn52 := rfl
theorem lk53 : fns.lookup 53 = some fn53 := rfl
theorem lk54 : fns.lookup 54 = some fn54 := rfl
theorem lk55 : fns.lookup 55 = some fn55 := rfl
theorem lk56 : fns.lookup 56 = some fn56 := rfl
theorem lk57 : fns.lookup 57 = some fn57 := rfl
def loose0 : List PySem.Str := ["_wall", "MAX_LETTERS", "GREATEST", "ACTS", "KEEPINGS", "is_integer", "is_word", "FallError", "InvalidMachine", "InvalidNumber", "MAX_STATES", "MAX_MOVES", "MAX_PRICE", "LETTER_ACTS", "NOTE", "is_within", "is_keeping", "is_move", "is_state", "are_states"]
def loose1 : List PySem.Str := ["are_acts", "with_keepings", "Machine", "_law_stock", "_law_draw", "_law_pick", "_law_shuffled", "_law_letter", "_law_many_words", "_law_any_move", "_law_any_rows", "_law_spelled", "_law_is_below", "_law_is_fine_move", "_law_told", "_law_wrong_of", "_law_indices", "_law_items_right", "_law_edits_right", "_law_acts_right"]
def loose2 : List PySem.Str := ["_law_cell_right"]
def loose : List PySem.Str := loose0 ++ loose1 ++ loose2
abbrev row : PySem.W.OpenRow := PySem.W.OpenLaw.row PySem.Challenge.rw_fallsback_k08_errors_of_machines
abbrev hk : PySem.W.Hook := hookI 6 tab ads fis
def ob (s : PySem.W.SharedT) : He.Al := obsI 6 tab ads fis (HandSHeadRun.getT s)
theorem ob_eq (s : PySem.W.SharedT) : ob s = hk.obs s.abs := obsI_eq (HandSHeadRun.getT_eq s)
theorem run (w : World) : HandSHeadRun.RunEq row (PySem.W.view row.prog [45]) hk ob 3000 loose w := by
  intro os
  kernel_rfl
end K08

namespace K08
open PySem DI DI.Sh
theorem mach : Mach fns := { h0 := rfl, h1 := rfl, h2 := rfl, h3 := rfl, h4 := rfl, h5 := rfl, h6 := rfl, h7 := rfl, h8 := rfl, h9 := rfl }
theorem look : Look fns := ⟨rfl, rfl, rfl⟩
theorem draws : Draws fns := ⟨rfl, rfl, rfl, rfl, rfl⟩
/-! ### values in the place of indices -/
structure Sh1 (d : D) : Prop where
  gd : Gd 400 4 d
theorem Sh1.show {d : D} (h : Sh1 d) : okShow d = true := h.gd.show (by decide) (by decide)
structure IxV (d : D) : Prop where
  pl : pl d
  gd : Gd 40 2 d
  nt : ∀ xs, d ≠ .tup xs
theorem IxV.sh {d : D} (h : IxV d) : Sh1 d := ⟨h.gd.mono (by decide) (by decide)⟩
theorem IxV.show {d : D} (h : IxV d) : okShow d = true := h.sh.show
theorem int_few2 : ∀ n ∈ List.range 40, (PyData.shown (.int ((n : Nat) - 10 : Int))).length ≤ 100 ∧ ((n : Nat) - 10 : Int).natAbs.log2 < 1920 := by decide +kernel
theorem ix_int {t : Int} (h : -10 ≤ t ∧ t ≤ 20) : IxV (.int t) := by
  have key : (PyData.shown (.int t)).length ≤ 100 ∧ t.natAbs.log2 < 1920 := by
    obtain ⟨n, rfl⟩ : ∃ n : Nat, t = (n : Int) - 10 := ⟨(t + 10).toNat, by omega⟩
    exact int_few2 n (List.mem_range.mpr (by omega))
  exact ⟨trivial, ⟨by simp [DI.plain], by simp [toPy, PyData.canLay0], by simp [toPy, PyData.showable]; exact key.2, by simp [toPy, PyData.leavesShort]; exact key.1, by simp [toPy, PyData.bulk], by simp [toPy, PyData.depth]⟩, fun xs h => by cases h⟩
theorem ix_lf {d : D} (h : Lf d) : IxV d := ⟨plc_pl h.plc, h.gd.mono (by decide) (by decide), fun xs z => by subst z; exact h⟩
theorem ix_lst {d : D} (h : Lf d) : IxV (.lst [d]) := ⟨trivial, (gd_lst (n := 8) (m := 0) (L := 1) (fun x hx => by rw [List.mem_singleton.mp hx]; exact h.gd) (by simp)).mono (by decide) (by decide), fun xs h => by cases h⟩
/-! ### what calls give, as words -/
abbrev sFine : List Nat := [102, 105, 110, 101]
abbrev sMach : List Nat := [109, 97, 99, 104, 105, 110, 101]
def sNum (d : D) : List Nat := [110, 117, 109, 98, 101, 114, 32] ++ (toPy d).shown.cps.toList
/-- the word for what a call gives -/
def word : Except Xc R → List Nat
  | .ok _ => sFine
  | .error ⟨3, [(0, d)]⟩ => sNum d
  | .error _ => sMach
theorem w_hn {cf : CF} {x : Xc} {ks cs : List Nat} {i : Nat} {b : Ss} {hs : Hs} {env : Ev} {X : Xc → Ev → Prop} {Q : Fl → Ev → Prop} (h1 : ks.contains x.c = true) (h2 : cs.contains x.c = true) (h3 : noExc env = true) (h4 : free env i = true)
    (h : wSs cf b (env.set i (.exc x)) noX fun fl e => (noExc (e.set i .un) && decide (i < e.length)) = true ∧ Q fl (e.set i .un)) : wHs cf x (.cons ks cs (some i) b hs) env X Q := by
  show wr (eHs cf x (.cons ks cs (some i) b hs) env) X Q
  have e : eHs cf x (.cons ks cs (some i) b hs) env = endXi i (eSs cf b (env.set i (.exc x))) := by
    simp only [eHs, h1, h2, h3, h4, if_true]
  rw [e]
  have h : wr (eSs cf b (env.set i (.exc x))) noX _ := h
  cases hm : eSs cf b (env.set i (.exc x)) with
  | none => rw [hm] at h; exact h.elim
  | some oe =>
    obtain ⟨o, e2⟩ := oe
    rw [hm] at h
    cases o with
    | error y => exact h.elim
    | ok fl =>
      obtain ⟨g1, g2⟩ := h
      simp only [endXi, g1, if_true]
      exact g2
theorem w_hno {cf : CF} {x : Xc} {ks cs : List Nat} {i : Option Nat} {b : Ss} {hs : Hs} {env : Ev} {X : Xc → Ev → Prop} {Q : Fl → Ev → Prop} (h1 : ks.contains x.c = true) (h2 : cs.contains x.c = false)
    (h : wHs cf x hs env X Q) : wHs cf x (.cons ks cs i b hs) env X Q := by
  show wr (eHs cf x (.cons ks cs i b hs) env) X Q
  have e : eHs cf x (.cons ks cs i b hs) env = eHs cf x hs env := by
    simp only [eHs, h1, h2, if_true, Bool.false_eq_true, if_false]
  rw [e]
  exact h
theorem _root_.DI.Sh.Gd.size {n m : Nat} {d : D} (h : Gd n m d) (h1 : n ≤ 8000) : (toPy d).shown.cps.size ≤ 910000 := by
  have b := PyData.shown_le_bulk 100 (by decide) (toPy d) h.le
  have g := h.bu
  show (toPy d).shown.length ≤ 910000
  omega
theorem told_ok (k : Nat) (v : D) : (callF fns (k + 1)).l 49 ⟨2000000, [(0, v)]⟩ = some (.ok (.val (.str sFine))) := by
  refine get_of (w_fnl lk49 ⟨rfl, rfl, rfl, by decide⟩ ?_)
  simp [fn49, bd49]
theorem told_mach (k : Nat) : (callF fns (k + 1)).l 49 ⟨1000001, []⟩ = some (.ok (.val (.str sMach))) := by
  refine get_of (w_fnl lk49 ⟨rfl, rfl, rfl, by decide⟩ ?_)
  have e : decX ⟨1000001, []⟩ = some (.error ⟨1, []⟩) := decX_e (c := 1) (by decide)
  simp [fn49, bd49, e]
  refine w_hno (by decide) (by decide) ?_
  simp
theorem told_num (k : Nat) (d : D) (hd : Sh1 d) : (callF fns (k + 1)).l 49 ⟨1000003, [(0, d)]⟩ = some (.ok (.val (.str (sNum d)))) := by
  refine get_of (w_fnl lk49 ⟨rfl, rfl, rfl, by decide⟩ ?_)
  have e : decX ⟨1000003, [(0, d)]⟩ = some (.error ⟨3, [(0, d)]⟩) := decX_e (c := 3) (by decide)
  simp [fn49, bd49, e]
  refine w_hn (by rfl) (by rfl) (by simp) (by simp) ?_
  have hz := hd.gd.size (by decide)
  simp [hd.show]
  exact ⟨by omega, rfl⟩
end K08

namespace K08
open PySem DI DI.Sh
abbrev mc (rs : List D) : D := .obj 2 [(1, .tup rs)]
theorem within (k : Nat) (d : D) (m : Int) (h : pl d) (hm : m ≤ great) : callF fns (k + 2) 2 none [d, .int m] = some (.ok (.val (.bl (withinD d m))), none) := within_of rfl rfl d m h hm
/-- rows of moves -/
structure Rws (rs : List D) : Prop where
  le : rs.length ≤ 8
  row : ∀ r ∈ rs, ∃ ms, r = .tup ms ∧ ms.length ≤ 8
def rowL (rs : List D) : D → Int
  | .int i => match rs[i.toNat]? with
    | some (.tup ms) => ms.length
    | _ => 0
  | _ => 0
/-- the first wrong one of two indices -/
def wr2 (rs : List D) (s n : D) : Option D := if withinD s ((rs.length : Int) - 1) = true then (if withinD n (rowL rs s - 1) = true then none else some n) else some s
def eNum (d : D) : Except Xc R := .error ⟨3, [(0, d)]⟩
theorem in_row {rs : List D} (h : Rws rs) {s : D} (hs : withinD s ((rs.length : Int) - 1) = true) : ∃ (i : Nat) (ms : List D), s = .int i ∧ i < rs.length ∧ rs[i]? = some (.tup ms) ∧ ms.length ≤ 8 ∧ rowL rs s = ms.length ∧ L2.atI rs (i : Int) = some (.tup ms) := by
  obtain ⟨t, rfl, h0, h1⟩ := within_int hs
  obtain ⟨i, rfl⟩ : ∃ i : Nat, t = i := ⟨t.toNat, by omega⟩
  have hi : i < rs.length := by omega
  obtain ⟨ms, e, hm⟩ := h.row rs[i] (List.getElem_mem hi)
  have e2 : rs[i]? = some (.tup ms) := by rw [List.getElem?_eq_getElem hi, e]
  exact ⟨i, ms, rfl, hi, e2, hm, by simp [rowL, e2], by rw [atI_in (by omega) (by omega)]; simp [e2]⟩
theorem req_state (k : Nat) (rs : List D) (s : D) (h : Rws rs) (hp : pl s) : callF fns (k + 3) 36 none [mc rs, s] = some (if withinD s ((rs.length : Int) - 1) = true then .ok (.val .non) else eNum s, none) := by
  have hw := within k s ((rs.length : Int) - 1) hp (by have := h.le; unfold great; omega)
  have l8 := h.le
  refine get_of (w_fn lk36 ⟨rfl, by decide⟩ rfl ?_)
  cases hv : withinD s ((rs.length : Int) - 1) <;> (rw [hv] at hw; simp [fn36, bd36, start0, hw, eNum])
theorem req_move (k : Nat) (rs : List D) (s n : D) (h : Rws rs) (hp : pl s) (hn : pl n) : callF fns (k + 4) 37 none [mc rs, s, n] = some (match wr2 rs s n with
    | none => .ok (.val .non)
    | some d => eNum d, none) := by
  have h0 := req_state k rs s h hp
  have l8 := h.le
  refine get_of (w_fn lk37 ⟨rfl, by decide⟩ rfl ?_)
  unfold wr2
  cases hv : withinD s ((rs.length : Int) - 1) with
  | false =>
    rw [hv] at h0
    simp [fn37, bd37, start0, h0, eNum]
  | true =>
    obtain ⟨i, ms, rfl, hi, hm, hl, hr, ai⟩ := in_row h hv
    rw [hv] at h0
    have hw := within (k + 1) n ((ms.length : Int) - 1) hn (by unfold great; omega)
    rw [hr]
    cases hv2 : withinD n ((ms.length : Int) - 1) <;> (rw [hv2] at hw; simp [fn37, bd37, start0, h0, ai, hw, eNum, hv2])
theorem pl_tup {xs : List D} : pl (.tup xs) := trivial
/-- machine[s] -/
theorem get1 (k : Nat) (rs : List D) (s : D) (h : Rws rs) (hs : IxV s) : ∃ v, callF fns (k + 4) 48 none [mc rs, s] = some (if withinD s ((rs.length : Int) - 1) = true then .ok (.val v) else eNum s, none) := by
  have h0 := req_state k rs s h hs.pl
  have l8 := h.le
  have nt : ∀ xs, s ≠ .tup xs := hs.nt
  have hp := hs.pl
  cases hv : withinD s ((rs.length : Int) - 1) with
  | false =>
    rw [hv] at h0
    refine ⟨.non, get_of (w_fn lk48 ⟨rfl, by decide⟩ rfl ?_)⟩
    cases s with
    | tup xs => exact (nt xs rfl).elim
    | ctp xs => exact False.elim hp
    | scr xs => exact False.elim hp
    | fn f => exact False.elim hp
    | obj c fs => exact False.elim hp
    | cls c => exact False.elim hp
    | _ => simp [fn48, bd48, start0, h0, eNum]
  | true =>
    obtain ⟨i, ms, rfl, hi, hm, hl, hr, ai⟩ := in_row h hv
    rw [hv] at h0
    refine ⟨.tup ms, get_of (w_fn lk48 ⟨rfl, by decide⟩ rfl ?_)⟩
    simp [fn48, bd48, start0, h0, ai, l8]
theorem get_odd (k : Nat) (rs xs : List D) (h : Rws rs) (hx : xs.length ≠ 2) (hl : xs.length ≤ 8) : callF fns (k + 4) 48 none [mc rs, .tup xs] = some (eNum (.tup xs), none) := by
  refine get_of (w_fn lk48 ⟨rfl, by decide⟩ rfl ?_)
  have : ¬ (xs.length : Int) = 2 := by omega
  simp [fn48, bd48, start0, this, eNum]
theorem get2 (k : Nat) (rs : List D) (s n : D) (h : Rws rs) (hs : pl s) (hn : pl n) : ∃ v, callF fns (k + 5) 48 none [mc rs, .tup [s, n]] = some (match wr2 rs s n with
    | none => .ok (.val v)
    | some d => eNum d, none) := by
  have h0 := req_move k rs s n h hs hn
  have l8 := h.le
  unfold wr2 at h0 ⊢
  cases hv : withinD s ((rs.length : Int) - 1) with
  | false =>
    rw [hv] at h0
    refine ⟨.non, get_of (w_fn lk48 ⟨rfl, by decide⟩ rfl ?_)⟩
    simp at h0
    simp [fn48, bd48, start0, h0, eNum]
  | true =>
    obtain ⟨i, ms, rfl, hi, hm, hl, hr, ai⟩ := in_row h hv
    rw [hv, hr] at h0
    cases hv2 : withinD n ((ms.length : Int) - 1) with
    | false =>
      rw [hv2] at h0
      simp at h0
      refine ⟨.non, get_of (w_fn lk48 ⟨rfl, by decide⟩ rfl ?_)⟩
      simp [fn48, bd48, start0, h0, eNum, hr, hv2]
    | true =>
      rw [hv2] at h0
      simp at h0
      obtain ⟨t, rfl, t0, t1⟩ := within_int hv2
      obtain ⟨j, rfl⟩ : ∃ j : Nat, t = j := ⟨t.toNat, by omega⟩
      have hj : j < ms.length := by omega
      have aj : L2.atI ms (j : Int) = some ms[j] := by
        rw [atI_in (by omega) (by omega)]
        simp [List.getElem?_eq_getElem hj]
      refine ⟨ms[j], get_of (w_fn lk48 ⟨rfl, by decide⟩ rfl ?_)⟩
      simp [fn48, bd48, start0, h0, hr, hv2, ai, aj, l8]
/-- the law's own word -/
theorem wrong_of (k : Nat) (rs : List D) (s n : D) (h : Rws rs) (hs : IxV s) (hn : IxV n) : callF fns (k + 2) 50 none [s, n, .lst rs] = some (.ok (.val (.str (match wr2 rs s n with
    | none => sFine
    | some d => sNum d))), none) := by
  have l8 := h.le
  have w1 := look.below (k := k) s ((rs.length : Int) - 1) hs.pl
  have z1 := hs.sh.gd.size (by decide)
  have z2 := hn.sh.gd.size (by decide)
  have o1 := hs.show
  have o2 := hn.show
  refine get_of (w_fn lk50 ⟨rfl, by decide⟩ rfl ?_)
  unfold wr2
  cases hv : withinD s ((rs.length : Int) - 1) with
  | false =>
    rw [hv] at w1
    simp [fn50, bd50, start0, w1, o1, sNum]
    omega
  | true =>
    obtain ⟨i, ms, rfl, hi, hm, hl, hr, ai⟩ := in_row h hv
    rw [hv] at w1
    have w2 := look.below (k := k) n ((ms.length : Int) - 1) hn.pl
    rw [hr]
    cases hv2 : withinD n ((ms.length : Int) - 1) with
    | false =>
      rw [hv2] at w2
      simp [fn50, bd50, start0, w1, w2, ai, o2, sNum, hv2]
      omega
    | true =>
      rw [hv2] at w2
      simp [fn50, bd50, start0, w1, w2, ai, hv2]
      try omega
end K08

namespace K08
open PySem DI DI.Sh
theorem enc3 (d : D) : encX (.error ⟨3, [(0, d)]⟩) = ⟨1000003, [(0, d)]⟩ := by simp [encX]
theorem wr2_sh {rs : List D} {s n d : D} (hs : IxV s) (hn : IxV n) (e : wr2 rs s n = some d) : Sh1 d := by
  unfold wr2 at e
  split at e
  · split at e
    · cases e
    · cases e; exact hn.sh
  · cases e; exact hs.sh
theorem sh_tup {xs : List D} (h : ∀ x ∈ xs, IxV x) (hl : xs.length ≤ 3) : Gd 123 3 (.tup xs) := (gd_tup (n := 40) (m := 2) (L := 3) (fun x hx => (h x hx).gd) hl).mono (by decide) (by decide)
def OddV (d : D) : Prop := ∃ xs, d = .tup xs ∧ xs.length ≠ 2 ∧ xs.length ≤ 8 ∧ Sh1 d
theorem odds {s n : D} (hs : IxV s) (hn : IxV n) : ∀ d ∈ [D.tup [], .tup [s], .tup [s, n, .int 0], .tup [.tup [s, n]]], OddV d := by
  have h0 : IxV (.int 0) := ix_int (by decide)
  intro d hd
  simp only [List.mem_cons, List.not_mem_nil, or_false] at hd
  rcases hd with rfl | rfl | rfl | rfl
  · exact ⟨_, rfl, by simp, by simp, ⟨(sh_tup (by simp) (by simp)).mono (by decide) (by decide)⟩⟩
  · exact ⟨_, rfl, by simp, by simp, ⟨(sh_tup (by simpa using hs) (by simp)).mono (by decide) (by decide)⟩⟩
  · exact ⟨_, rfl, by simp, by simp, ⟨(sh_tup (by simp [hs, hn, h0]) (by simp)).mono (by decide) (by decide)⟩⟩
  · refine ⟨_, rfl, by simp, by simp, ⟨(gd_tup (n := 123) (m := 3) (L := 1) (fun x hx => ?_) (by simp)).mono (by decide) (by decide)⟩⟩
    rw [List.mem_singleton.mp hx]
    exact sh_tup (by simp [hs, hn]) (by simp)
theorem gx {cf : CF} {rs : List D} {i : Nat} {d : D} {e : Ev} {X : Xc → Ev → Prop} {Q : R → Ev → Prop} : wIxT cf [(2, 48)] (some (.val (mc rs))) i d e X Q ↔ wo (cf 48 none [mc rs, d]) fun p => wc p.1 e X Q := by
  simp [wIxT, mthOf]
theorem w_one {cf : CF} {a : S} {as : Ss} {env : Ev} {X : Xc → Ev → Prop} {e1 : Ev} {Q : Fl → Ev → Prop} (h : wS cf a env (fun _ _ => False) fun fl e => fl = .nx ∧ e = e1) (k : wSs cf as e1 X Q) : wSs cf (.cons a as) env X Q := by
  rw [w_scons]
  refine wr_mono h ?_ fun _ _ h => h.elim
  rintro fl e ⟨rfl, rfl⟩
  exact k
theorem w_two {cf : CF} {a b : S} {as : Ss} {env : Ev} {X : Xc → Ev → Prop} {e1 : Ev} {Q : Fl → Ev → Prop} (h : wSs cf (.cons a (.cons b .nil)) env (fun _ _ => False) fun fl e => fl = .nx ∧ e = e1) (k : wSs cf as e1 X Q) : wSs cf (.cons a (.cons b as)) env X Q := by
  rw [w_scons] at h ⊢
  refine wr_mono h ?_ fun _ _ h => h.elim
  intro fl e hfl
  cases fl with
  | nx =>
    have hfl : wSs cf (.cons b .nil) e _ _ := hfl
    rw [w_scons] at hfl
    show wSs cf (.cons b as) e _ _
    rw [w_scons]
    refine wr_mono hfl ?_ fun _ _ h => h.elim
    intro fl e hfl
    cases fl with
    | nx =>
      have hfl : wSs cf .nil e _ _ := hfl
      rw [w_snil] at hfl
      obtain ⟨_, rfl⟩ := hfl
      exact k
    | bk => exact Fl.noConfusion hfl.1
    | ct => exact Fl.noConfusion hfl.1
    | rt r => exact Fl.noConfusion hfl.1
  | bk => exact Fl.noConfusion hfl.1
  | ct => exact Fl.noConfusion hfl.1
  | rt r => exact Fl.noConfusion hfl.1
theorem num_len {d : D} (h : Sh1 d) : (sNum d).length ≤ 920000 := by
  have := h.gd.size (by decide)
  simp [sNum]
  omega
theorem items_right (k : Nat) (rs : List D) (s n : D) (h : Rws rs) (hs : IxV s) (hn : IxV n) : callF fns (k + 6) 52 none [mc rs, .lst rs, s, n] = some (.ok (.val (.bl true)), none) := by
  have l8 := h.le
  have hw := wrong_of (k + 3) rs s n h hs hn
  obtain ⟨v2, g2⟩ := get2 k rs s n h hs.pl hn.pl
  obtain ⟨v1, g1⟩ := get1 (k + 1) rs s h hs
  have wb := look.below (k := k + 4) s ((rs.length : Int) - 1) hs.pl
  have z1 := hs.sh.gd.size (by decide)
  have o1 := hs.show
  have t3 : ∀ d, Sh1 d → (callF fns (k + 5)).l 49 ⟨1000003, [(0, d)]⟩ = some (.ok (.val (.str (sNum d)))) := fun d hd => told_num (k + 4) d hd
  have t0 : ∀ v, (callF fns (k + 5)).l 49 ⟨2000000, [(0, v)]⟩ = some (.ok (.val (.str sFine))) := fun v => told_ok (k + 4) v
  have hodd := odds hs hn
  have b49 : bd52 = .cons (at_ 0 bd52) (.cons (at_ 1 bd52) (.cons (at_ 2 bd52) (.cons (at_ 3 bd52) (.cons (at_ 4 bd52) (.cons (at_ 5 bd52) .nil))))) := rfl
  have s0 : wS (callF fns (k + 5)) (at_ 0 bd52) [.val (mc rs), .val (.lst rs), .val s, .val n, .un, .un, .un] (fun _ _ => False) (fun fl e => fl = .nx ∧ e = [.val (mc rs), .val (.lst rs), .val s, .val n, .un, .un, .un]) := by
    cases hq : wr2 rs s n with
    | none =>
      rw [hq] at hw g2
      simp [at_, bd52, gx, g2, t0, hw]
    | some d =>
      rw [hq] at hw g2
      have hd := wr2_sh hs hn hq
      simp [at_, bd52, gx, g2, eNum, enc3, t3 d hd, hw, num_len hd]
  have nl := num_len hs.sh
  have s1 : ∃ D4, wSs (callF fns (k + 5)) (.cons (at_ 1 bd52) (.cons (at_ 2 bd52) .nil)) [.val (mc rs), .val (.lst rs), .val s, .val n, .un, .un, .un] (fun _ _ => False) (fun fl e => fl = .nx ∧ e = [.val (mc rs), .val (.lst rs), .val s, .val n, .val (.str D4), .un, .un]) := by
    cases hv : withinD s ((rs.length : Int) - 1) with
    | true =>
      rw [hv] at wb g1
      simp at g1
      refine ⟨sFine, ?_⟩
      simp [at_, bd52, wb, gx, g1, t0]
    | false =>
      rw [hv] at wb g1
      simp at g1
      refine ⟨sNum s, ?_⟩
      have e7 : [110, 117, 109, 98, 101, 114, 32] ++ (toPy s).shown.cps.toList = sNum s := rfl
      simp [at_, bd52, wb, o1, gx, g1, eNum, enc3, t3 s hs.sh]
      exact ⟨by omega, rfl, rfl⟩
  obtain ⟨D4, s1⟩ := s1
  refine get_of (w_fn lk52 ⟨rfl, by decide⟩ rfl ?_)
  show wSs _ bd52 _ _ _
  rw [b49]
  have st0 : start0 fn52 none [mc rs, .lst rs, s, n] = [.val (mc rs), .val (.lst rs), .val s, .val n, .un, .un, .un] := rfl
  rw [st0]
  refine w_one s0 (w_two s1 ?_)
  simp [at_, bd52]
  generalize hL : [D.tup [], D.tup [s], D.tup [s, n, .int 0], D.tup [D.tup [s, n]]] = L at hodd
  refine for_inv (fun ds e => ∃ z, e = [Sl.val (mc rs), .val (.lst rs), .val s, .val n, .val (.str D4), .val (.lst L), z] ∧ freeS (some z) = true ∧ ∀ d ∈ ds, OddV d) ?_ ?_ _ _ ⟨.un, rfl, rfl, hodd⟩
  · rintro d ds env ⟨z, rfl, hz, hd⟩
    obtain ⟨xs, rfl, h2, h8, hsh⟩ := hd d (by simp)
    have g := get_odd (k + 1) rs xs h h2 h8
    have o := hsh.show
    have zz := hsh.gd.size (by decide)
    simp [hz]
    show wSs _ _ _ _ _
    simp [gx, g, eNum, enc3, t3 _ hsh, o, sNum]
    exact ⟨by omega, fun d hd2 => hd d (by simp [hd2])⟩
  · rintro env ⟨z, rfl, hz, hd⟩
    show thenS _ _ _ _ _ _
    simp [thenS, fn52]
end K08

namespace K08
open PySem DI DI.Sh
/-- what Machine.of makes of them -/
def ofR (rs : List D) : Except Xc R := if statesD (.tup rs) = true then .ok (.new (.ob 2 [(1, .fz (.tup rs))])) else .error ⟨1, []⟩
theorem of_eq (k : Nat) (rs : List D) (hl : rs.length ≤ 1000) (h : pl3 (.tup rs)) : callF fns (k + 7) 8 none [.cls 2, .tup rs] = some (ofR rs, none) := by
  unfold ofR
  cases hs : statesD (.tup rs) with
  | true => simpa using mach.of_yes k rs hl h hs
  | false => simpa using mach.of_no k _ h hs
theorem with_state (k : Nat) (rs ms : List D) (s : D) (h : Rws rs) (hp : pl s) (hR : RwsV rs) (hm : RwV (.tup ms)) (h7 : ms.length ≤ 100) : callF fns (k + 8) 38 none (mc rs :: s :: ms) = some (match s with
    | .int t => if withinD s ((rs.length : Int) - 1) = true then ofR (rs.set t.toNat (.tup ms)) else eNum s
    | _ => eNum s, none) := by
  have h0 := req_state (k + 4) rs s h hp
  have l8 := h.le
  refine get_of (w_fn (es := [mc rs, s, .tup ms]) lk38 ⟨rfl, by decide⟩ (by simp [DI.bindC, bindD, fn38]; omega) ?_)
  cases hv : withinD s ((rs.length : Int) - 1) with
  | false =>
    rw [hv] at h0
    cases s <;> simp [fn38, bd38, start0, h0, eNum]
  | true =>
    obtain ⟨i, ms', rfl, hi, hm', hl, hr, ai⟩ := in_row h hv
    rw [hv] at h0
    have hN : RwsV (rs.set i (.tup ms)) := hR.set hm
    have h1 := of_eq k (rs.set i (.tup ms)) (by rw [List.length_set]; omega) hN.pl3
    have ct := cut_take (xs := rs) (p := i) (by omega)
    have cd : cutL rs (some ((i : Int) + 1)) none = rs.drop (i + 1) := cut_drop (p := i + 1) (by omega)
    have ts := take_set (xs := rs) (x := .tup ms) hi
    simp [fn38, bd38, start0, h0, ct, cd, ts, h1]
    refine ⟨by omega, by omega, ?_⟩
    unfold ofR
    cases statesD (.tup (rs.set i (.tup ms))) <;> simp
/-- a move with another keeping -/
def keepM (kp : D) : D → D
  | .tup [a, b, c, d, _] => .tup [a, b, c, d, kp]
  | d => d
def kd (i j : Nat) (kp : D) : D := .dct [(.tup [.int i, .int j], kp)]
theorem kd_val (i j n q : Nat) (kp : D) : valD (.inr [.inl (n : Int), .inl (q : Int)]) [(.tup [.int i, .int j], kp)] = if n = i ∧ q = j then some kp else none := by
  have e : kkOf (.tup [.int i, .int j]) = some (.inr [.inl (i : Int), .inl (j : Int)]) := rfl
  unfold valD
  by_cases h : n = i ∧ q = j
  · obtain ⟨rfl, rfl⟩ := h
    rw [if_pos e, if_pos ⟨rfl, rfl⟩]
  · rw [if_neg h, if_neg]
    · rfl
    · intro z
      rw [e] at z
      injection z with z
      injection z with z
      simp only [List.cons.injEq, Sum.inl.injEq, and_true] at z
      omega
theorem kd_get (i j n q : Nat) (kp : D) : getD1 [(.tup [.int i, .int j], kp)] (.tup [.int n, .int q]) = some (if n = i ∧ q = j then some kp else none) := by
  have e1 : kkOf (.tup [.int n, .int q]) = some (.inr [.inl (n : Int), .inl (q : Int)]) := rfl
  unfold getD1
  rw [e1, ← kd_val]
  rfl
theorem states_row {rs : List D} (h : statesD (.tup rs) = true) {r : D} (hr : r ∈ rs) : ∃ ms, r = .tup ms ∧ ms.length ≤ 6 ∧ ∀ m ∈ ms, ∃ a b t c e, m = .tup [a, b, .int t, c, e] := by
  simp only [statesD, Bool.and_eq_true, List.all_eq_true] at h
  have h2 := h.2 r hr
  cases r with
  | tup ms =>
    simp only [stateD, Bool.and_eq_true, decide_eq_true_eq, List.all_eq_true] at h2
    refine ⟨ms, rfl, h2.1, fun m hm => ?_⟩
    have h3 := h2.2 m hm
    simp only [mS, Bool.and_eq_true] at h3
    exact move_shape h3.1
  | _ => cases h2
theorem enD_fm {qs : List D} {g : D → Option D} {f : Nat → D → D} (h : ∀ (q : Nat) m, qs[q]? = some m → g (.tup [.int q, m]) = some (f q m)) : (enD qs).filterMap g = qs.mapIdx f := by
  have e : (enD qs).map g = (qs.mapIdx f).map some := by
    apply List.ext_getElem?
    intro n
    simp only [enD, List.getElem?_map, List.getElem?_mapIdx]
    cases hq : qs[n]? with
    | none => rfl
    | some m => simp [h n m hq]
  have : ∀ l : List D, ∀ l' : List D, l.map g = l'.map some → l.filterMap g = l' := by
    intro l
    induction l with
    | nil => intro l' h; cases l' with | nil => rfl | cons => simp at h
    | cons x r ih =>
      intro l' h
      cases l' with
      | nil => simp at h
      | cons y r' =>
        simp only [List.map_cons, List.cons.injEq] at h
        rw [List.filterMap_cons, h.1, ih r' h.2]
  exact this _ _ e
theorem mapIdx_set {qs : List D} {j : Nat} {kp : D} {c : Prop} [Decidable c] (hc : c) {m : D} (hm : qs[j]? = some m) : (qs.mapIdx fun q m => if c ∧ q = j then keepM kp m else m) = qs.set j (keepM kp m) := by
  apply List.ext_getElem?
  intro n
  rw [List.getElem?_mapIdx, List.getElem?_set]
  by_cases h : j = n
  · subst h
    obtain ⟨this, e⟩ := List.getElem?_eq_some_iff.mp hm
    simp [hc, this, e]
  · have h' : ¬ n = j := fun z => h z.symm
    rw [if_neg h]
    cases qs[n]? with
    | none => rfl
    | some x => simp [h']
theorem mapIdx_no {qs : List D} {j : Nat} {kp : D} {c : Prop} [Decidable c] (hc : ¬ c) : (qs.mapIdx fun q m => if c ∧ q = j then keepM kp m else m) = qs := by
  apply List.ext_getElem?
  intro n
  rw [List.getElem?_mapIdx]
  cases qs[n]? with
  | none => rfl
  | some x => simp [hc]
theorem enD_drop {rs : List D} {n : Nat} {d : D} {ds : List D} (h : (enD rs).drop n = d :: ds) : ∃ r, rs[n]? = some r ∧ d = .tup [.int n, r] ∧ (enD rs).drop (n + 1) = ds := by
  have h1 : (enD rs)[n]? = some d := by
    have := congrArg (·[0]?) h
    simpa using this
  obtain ⟨y, e1, e2⟩ := enD_get h1
  refine ⟨y, e1, e2, ?_⟩
  have := congrArg List.tail h
  simpa using this
def gK (i j n : Nat) (kp : D) : D → Option D
  | .tup [.int q, m] => some (if n = i ∧ q.toNat = j then keepM kp m else m)
  | _ => none
theorem with_keepings (k : Nat) (rs ms : List D) (i j : Nat) (kp m : D) (h : rs.length ≤ 8) (hs : statesD (.tup rs) = true) (hi : rs[i]? = some (.tup ms)) (hj : ms[j]? = some m) (hR : pl3 (.tup (rs.set i (.tup (ms.set j (keepM kp m)))))) :
    callF fns (k + 8) 35 none [mc rs, kd i j kp] = some (ofR (rs.set i (.tup (ms.set j (keepM kp m)))), none) := by
  have h1 := of_eq k _ (by rw [List.length_set]; omega) hR
  generalize hN : rs.set i (.tup (ms.set j (keepM kp m))) = R at h1 hR
  have l8 := h
  refine get_of (w_fn lk35 ⟨rfl, by decide⟩ rfl ?_)
  simp [fn35, bd35, start0, kd]
  refine for_inv (fun ds e => ∃ n T z3 z4 z5 z6, e = [Sl.val (mc rs), .val (kd i j kp), .own (.ls (T.map .fz)), z3, z4, z5, z6] ∧ freeS (some z3) = true ∧ freeS (some z4) = true ∧ looseS (some z5) = true ∧ looseS (some z6) = true ∧ T = R.take n ∧ (enD rs).drop n = ds ∧ n ≤ rs.length) ?_ ?_ _ _ ⟨0, [], .un, .un, .un, .un, rfl, rfl, rfl, rfl, rfl, rfl, rfl, Nat.zero_le _⟩
  · rintro d ds env ⟨n, T, z3, z4, z5, z6, rfl, f3, f4, f5, f6, hT, hd, hn⟩
    obtain ⟨r, hr, rfl, hd'⟩ := enD_drop hd
    have hlt : n < rs.length := (List.getElem?_eq_some_iff.mp hr).1
    obtain ⟨qs, rfl, q6, hq⟩ := states_row hs (List.mem_of_getElem? hr)
    simp [f3, f4]
    show wSs _ _ _ _ _
    simp [f5, f6]
    have lT : T.length ≤ 10 := by rw [hT]; simp; omega
    refine w_lcp2 (gK i j n kp) (by simp) (by simp) (by decide) (by simp [enD_len]; omega) ?_ fun z z' => ?_
    · intro d hd2
      obtain ⟨q, hq2⟩ := List.getElem?_of_mem hd2
      obtain ⟨x, hx, rfl⟩ := enD_get hq2
      obtain ⟨a, b, t, c, e, rfl⟩ := hq x (List.mem_of_getElem? hx)
      refine ⟨.int q, _, rfl, ?_⟩
      have c4 : cutL [a, b, .int t, c, e] none (some 4) = [a, b, .int t, c] := rfl
      have a4 : L2.atI [a, b, .int t, c, e] 4 = some e := rfl
      simp [c4, a4, kd, kd_get, gK]
      by_cases hc : n = i ∧ q = j
      · simp [hc, keepM]
      · simp [hc]
    · simp only [x_dN, x_toDl, x_toDsm]
      rw [enD_fm (f := fun q m => if n = i ∧ q = j then keepM kp m else m) (fun q m hm => by simp [gK])]
      have en : (qs.mapIdx fun q m => if n = i ∧ q = j then keepM kp m else m) = if n = i then ms.set j (keepM kp m) else qs := by
        by_cases hc : n = i
        · subst hc
          rw [hi] at hr
          cases hr
          rw [if_pos rfl]
          exact mapIdx_set rfl hj
        · rw [if_neg hc]; exact mapIdx_no hc
      rw [en]
      simp
      refine ⟨by omega, n + 1, T ++ [.tup (if n = i then ms.set j (keepM kp m) else qs)], _, _, z5, z6, ⟨by simp, rfl, rfl, rfl, rfl⟩, rfl, rfl, f5, f6, ?_, hd', by omega⟩
      have e1 : R[n]? = some (.tup (if n = i then ms.set j (keepM kp m) else qs)) := by
        rw [← hN, List.getElem?_set]
        by_cases hc : i = n
        · subst hc
          simp [hlt]
        · rw [if_neg hc, hr, if_neg (fun z => hc z.symm)]
      rw [hT, List.take_add_one, e1]
      rfl
  · rintro env ⟨n, T, z3, z4, z5, z6, rfl, f3, f4, f5, f6, hT, hd, hn⟩
    have hn2 : n = rs.length := by
      have := congrArg List.length hd
      simp [enD_len] at this
      omega
    have eT : T = R := by rw [hT, hn2, ← hN]; exact List.take_of_length_le (by simp)
    subst eT
    simp [h1]
    unfold ofR
    cases statesD (.tup T) <;> simp

theorem with_keeping (k : Nat) (rs : List D) (s n kp : D) (h : Rws rs) (hs : statesD (.tup rs) = true) (hp : pl s) (hn : pl n) (hR : ∀ (i j : Nat) (ms : List D) (m : D), rs[i]? = some (.tup ms) → ms[j]? = some m → pl3 (.tup (rs.set i (.tup (ms.set j (keepM kp m)))))) :
    callF fns (k + 9) 39 none [mc rs, s, n, kp] = some (match wr2 rs s n with
      | some d => eNum d
      | none => match s, n with
        | .int i, .int j => match rs[i.toNat]? with
          | some (.tup ms) => match ms[j.toNat]? with
            | some m => ofR (rs.set i.toNat (.tup (ms.set j.toNat (keepM kp m))))
            | none => eNum n
          | _ => eNum s
        | _, _ => eNum s, none) := by
  have h2 := req_move (k + 4) rs s n h hp hn
  refine get_of (w_fn lk39 ⟨rfl, by decide⟩ rfl ?_)
  cases hq : wr2 rs s n with
  | some d =>
    rw [hq] at h2
    simp [fn39, bd39, start0, h2, eNum]
  | none =>
    rw [hq] at h2
    unfold wr2 at hq
    split at hq
    · rename_i hv
      split at hq
      · rename_i hv2
        obtain ⟨i, ms, rfl, hi, hm, hl, hr, ai⟩ := in_row h hv
        rw [hr] at hv2
        obtain ⟨t, rfl, t0, t1⟩ := within_int hv2
        obtain ⟨j, rfl⟩ : ∃ j : Nat, t = j := ⟨t.toNat, by omega⟩
        have hj : j < ms.length := by omega
        have hj' := List.getElem?_eq_getElem hj
        have h1 := with_keepings k rs ms i j kp ms[j] h.le hs hm hj' (hR i j ms _ hm hj')
        have ed : opD .dict [.tup [.int i, .int j], kp] = some (.new (.dt [([.inl (i : Int), .inl (j : Int)], .fz kp)])) := rfl
        have e2 : toD (.dt [([.inl (i : Int), .inl (j : Int)], .fz kp)]) = kd i j kp := rfl
        simp [fn39, bd39, start0, h2, ed, e2, h1, hm, hj']
        unfold ofR
        cases statesD (.tup (rs.set i (.tup (ms.set j (keepM kp ms[j]))))) <;> simp
      · cases hq
    · cases hq
end K08

namespace K08
open PySem DI DI.Sh
theorem all_set {p : D → Bool} {xs : List D} {i : Nat} {x : D} (h : xs.all p = true) (hi : i < xs.length) : (xs.set i x).all p = p x := by
  cases hp : p x with
  | true =>
    rw [List.all_eq_true] at h ⊢
    intro y hy
    rcases List.mem_or_eq_of_mem_set hy with z | rfl
    · exact h y z
    · exact hp
  | false =>
    rw [List.all_eq_false]
    exact ⟨x, List.mem_set hi x, by simp [hp]⟩
theorem states_set {rs : List D} {i : Nat} {r : D} (hs : statesD (.tup rs) = true) (hi : i < rs.length) : statesD (.tup (rs.set i r)) = stateD rs.length r := by
  simp only [statesD, Bool.and_eq_true] at hs
  simp only [statesD, List.length_set, all_set hs.2 hi, hs.1, Bool.true_and]
theorem state_set {n : Int} {ms : List D} {j : Nat} {m : D} (hs : stateD n (.tup ms) = true) (hj : j < ms.length) : stateD n (.tup (ms.set j m)) = mS n m := by
  simp only [stateD, Bool.and_eq_true] at hs
  simp only [stateD, List.length_set, all_set hs.2 hj, hs.1, Bool.true_and]
theorem states_at {rs : List D} {i : Nat} {r : D} (hs : statesD (.tup rs) = true) (h : rs[i]? = some r) : stateD rs.length r = true ∧ rs.length ≤ 6 := by
  simp only [statesD, Bool.and_eq_true, decide_eq_true_eq, List.all_eq_true] at hs
  exact ⟨hs.2 r (List.mem_of_getElem? h), hs.1.2⟩
theorem state_one {n : Int} {m : D} (h : n ≤ 6) : stateD n (.tup [m]) = moveD (n - 1) m := by
  simp [stateD, mS_eq h]
theorem state_nil {n : Int} : stateD n (.tup []) = true := rfl
theorem Rws.rep {n : Nat} {m : D} (h : n ≤ 8) : Rws (List.replicate n (.tup [m])) := ⟨by simpa using h, fun r hr => ⟨[m], (List.mem_replicate.mp hr).2, by simp⟩⟩
theorem wr2_rep {rs : List D} {m s : D} (h : rs.length ≤ 8) : wr2 (List.replicate rs.length (.tup [m])) s (.int 0) = if withinD s ((rs.length : Int) - 1) = true then none else some s := by
  unfold wr2
  rw [List.length_replicate]
  cases hv : withinD s ((rs.length : Int) - 1) with
  | false => rfl
  | true =>
    obtain ⟨i, ms, rfl, hi, hm, hl, hr, ai⟩ := in_row (rs := List.replicate rs.length (.tup [m])) (Rws.rep h) (by rw [List.length_replicate]; exact hv)
    have : ms = [m] := by
      have := List.mem_of_getElem? hm
      have := (List.mem_replicate.mp this).2
      injection this
    subst this
    rw [hr]
    rfl
theorem told_ofR (k : Nat) (rs : List D) : (callF fns (k + 1)).l 49 (encX (ofR rs)) = some (.ok (.val (.str (if statesD (.tup rs) = true then sFine else sMach)))) := by
  unfold ofR
  cases statesD (.tup rs) with
  | true => simp [encX, told_ok]
  | false => simp [encX, told_mach]
theorem told_eNum (k : Nat) (d : D) (h : Sh1 d) : (callF fns (k + 1)).l 49 (encX (eNum d)) = some (.ok (.val (.str (sNum d)))) := by
  unfold eNum
  rw [enc3]
  exact told_num k d h
/-- the lambda's call, what it gives at hand -/
theorem wc_told {cf : CF} {o : Except Xc R} {e : Ev} {P : Except Xc R → Prop} : wc o e (fun x _ => P (.error x)) (fun r _ => P (.ok r)) ↔ P o := by
  cases o <;> rfl
end K08

namespace K08
open PySem DI DI.Sh
/-- what is put in the place of a keeping -/
structure KpV (d : D) : Prop where
  pl : plc d
theorem keepM_pl1 {m kp : D} (h : pl1 m) (hk : KpV kp) : pl1 (keepM kp m) := by
  unfold keepM
  split
  · rename_i a b c d e
    intro x hx
    simp only [List.mem_cons, List.not_mem_nil, or_false] at hx
    rcases hx with rfl | rfl | rfl | rfl | rfl <;> first | exact plc_pl hk.pl | exact h _ (by simp)
  · exact h
theorem keep_pl3 {rs : List D} {kp : D} (h : RwsV rs) (hk : KpV kp) (i j : Nat) (ms : List D) (m : D) (hi : rs[i]? = some (.tup ms)) (hj : ms[j]? = some m) : pl3 (.tup (rs.set i (.tup (ms.set j (keepM kp m))))) := by
  have l8 := h.1
  refine ⟨by rw [List.length_set]; omega, fun x hx => ?_⟩
  rcases List.mem_or_eq_of_mem_set hx with z | rfl
  · exact (h.2 x z).pl2
  · have hr := (h.2 _ (List.mem_of_getElem? hi)).pl2
    refine ⟨by rw [List.length_set]; exact hr.1, fun y hy => ?_⟩
    rcases List.mem_or_eq_of_mem_set hy with z | rfl
    · exact hr.2 y z
    · exact keepM_pl1 (hr.2 m (List.mem_of_getElem? hj)) hk
/-- .. as the law makes it -/
theorem keep_cut {a b c d e kp : D} : cutL [a, b, c, d, e] none (some 4) ++ [kp] = [a, b, c, d, kp] := rfl
theorem toDs_rep (n : Nat) (d : D) : toDs (List.replicate n (Ho.fz d)) = List.replicate n d := by
  rw [← List.map_replicate]; exact toDs_fz _
section
variable (k : Nat) (rs : List D) (s n mv kp : D) (h : RwsV rs) (hs : statesD (.tup rs) = true) (is : IxV s) (in_ : IxV n) (hm : MvV mv) (hk : KpV kp)
abbrev ev (rs : List D) (s n mv kp : D) (a b : Sl) : Ev := [.val (mc rs), .val (.lst rs), .val s, .val n, .val mv, .val kp, a, b]
theorem rows_of {rs : List D} (hs : statesD (.tup rs) = true) : Rws rs := by
  refine ⟨?_, fun r hr => ?_⟩
  · simp only [statesD, Bool.and_eq_true, decide_eq_true_eq] at hs
    omega
  · obtain ⟨ms, e, h6, _⟩ := states_row hs hr
    exact ⟨ms, e, by omega⟩
def sAt (rs : List D) (s : D) : List Nat := if withinD s ((rs.length : Int) - 1) = true then sFine else sNum s
def sDue (rs : List D) (mv : D) : List Nat := if moveD ((rs.length : Int) - 1) mv = true then sFine else sMach
include hs is
theorem ed0 {a b : Sl} (ha : freeS (some a) = true) : wS (callF fns (k + 10)) (at_ 0 bd53) (ev rs s n mv kp a b) (fun _ _ => False) (fun fl e => fl = .nx ∧ e = ev rs s n mv kp (.val (.str (sAt rs s))) b) := by
  have hr := rows_of hs
  have l8 := hr.le
  have w := wrong_of (k + 8) (List.replicate rs.length (.tup [mv])) s (.int 0) (Rws.rep l8) is (ix_int (by decide))
  rw [wr2_rep l8] at w
  have mu : opD .mul [.lst [.tup [mv]], .int (rs.length : Int)] = some (.new (fzs (List.replicate rs.length (.tup [mv])))) := by
    have : (rs.length : Int).toNat = rs.length := by omega
    have c : (0 : Int) ≤ (rs.length : Int) ∧ (rs.length : Int) ≤ (big : Nat) ∧ [D.tup [mv]].length * (rs.length : Int).toNat ≤ big := ⟨by omega, by unfold big; omega, by simp [big]; omega⟩
    have e : opD .mul [.lst [.tup [mv]], .int (rs.length : Int)] = if (0 : Int) ≤ (rs.length : Int) ∧ (rs.length : Int) ≤ (big : Nat) ∧ [D.tup [mv]].length * (rs.length : Int).toNat ≤ big then some (.new (fzs (List.replicate (rs.length : Int).toNat [D.tup [mv]]).flatten)) else none := by
      rfl
    rw [e, if_pos c, this]
    simp
  simp [at_, bd53, mu, sAt, toDs_rep]
  cases hv : withinD s ((rs.length : Int) - 1) <;> (rw [hv] at w; simp at w; simp [w, ha])
include hm

theorem ed1 {a b : Sl} (hb : freeS (some b) = true) : wS (callF fns (k + 10)) (at_ 1 bd53) (ev rs s n mv kp a b) (fun _ _ => False) (fun fl e => fl = .nx ∧ e = ev rs s n mv kp a (.val (.str (sDue rs mv)))) := by
  have f := look.fine (k := k + 8) mv (rs.length : Int) hm.pl1 hm.plc
  simp [at_, bd53, sDue]
  cases hv : moveD ((rs.length : Int) - 1) mv <;> (rw [hv] at f; simp [f, hb])
include h
theorem ed2 : wS (callF fns (k + 10)) (at_ 2 bd53) (ev rs s n mv kp (.val (.str (sAt rs s))) (.val (.str (sDue rs mv)))) (fun _ _ => False) (fun fl e => fl = .nx ∧ e = ev rs s n mv kp (.val (.str (sAt rs s))) (.val (.str (sDue rs mv)))) := by
  have hr := rows_of hs
  have w := with_state (k + 2) rs [mv] s hr is.pl h ⟨[mv], .inl rfl, by simp, by simpa using hm⟩ (by simp)
  have zs := num_len is.sh
  cases hv : withinD s ((rs.length : Int) - 1) with
  | true =>
    obtain ⟨i, ms, rfl, hi, hm', hl, hrr, ai⟩ := in_row hr hv
    rw [hv] at w
    simp at w
    have l6 := (states_at hs hm').2
    have es : statesD (.tup (rs.set i (.tup [mv]))) = moveD ((rs.length : Int) - 1) mv := by rw [states_set hs hi, state_one (by omega)]
    have t := told_ofR (k + 9) (rs.set i (.tup [mv]))
    rw [es] at t
    unfold ofR at w t
    rw [es] at w t
    cases hd : moveD ((rs.length : Int) - 1) mv <;> (rw [hd] at w t; simp at w t; simp [at_, bd53, sAt, hv, sDue, hd, w, t, mthOf])
  | false =>
    have w' : callF fns (k + 10) 38 none [mc rs, s, mv] = some (eNum s, none) := by
      rw [w]
      cases s <;> simp [hv]
    have t := told_eNum (k + 9) s is.sh
    unfold eNum at w' t
    simp [at_, bd53, sAt, hv, w', t, mthOf, sNum]
omit hm
theorem ed3 {b : Sl} : wS (callF fns (k + 10)) (at_ 3 bd53) (ev rs s n mv kp (.val (.str (sAt rs s))) b) (fun _ _ => False) (fun fl e => fl = .nx ∧ e = ev rs s n mv kp (.val (.str (sAt rs s))) b) := by
  have hr := rows_of hs
  have w := with_state (k + 2) rs [] s hr is.pl h rw_nil (by simp)
  have zs := num_len is.sh
  cases hv : withinD s ((rs.length : Int) - 1) with
  | true =>
    obtain ⟨i, ms, rfl, hi, hm', hl, hrr, ai⟩ := in_row hr hv
    rw [hv] at w
    simp at w
    have es : statesD (.tup (rs.set i (.tup []))) = true := by rw [states_set hs hi]; rfl
    have t := told_ofR (k + 9) (rs.set i (.tup []))
    unfold ofR at w t
    rw [es] at w t
    simp at w t
    simp [at_, bd53, sAt, hv, w, t, mthOf]
  | false =>
    have w' : callF fns (k + 10) 38 none [mc rs, s] = some (eNum s, none) := by
      rw [w]
      cases s <;> simp [hv]
    have t := told_eNum (k + 9) s is.sh
    unfold eNum at w' t
    simp [at_, bd53, sAt, hv, w', t, mthOf, sNum]
def sTwo (rs : List D) (s n : D) : List Nat := match wr2 rs s n with
  | none => sFine
  | some d => sNum d
include in_
theorem ed4 {a b : Sl} (ha : freeS (some a) = true) : wS (callF fns (k + 10)) (at_ 4 bd53) (ev rs s n mv kp a b) (fun _ _ => False) (fun fl e => fl = .nx ∧ e = ev rs s n mv kp (.val (.str (sTwo rs s n))) b) := by
  have w := wrong_of (k + 8) rs s n (rows_of hs) is in_
  unfold sTwo
  cases hq : wr2 rs s n <;> (rw [hq] at w; simp at w; simp [at_, bd53, w, ha])
/-- the move at two right indices -/
theorem at_two (hq : wr2 rs s n = none) : ∃ (i j : Nat) (ms : List D) (m : D) (a b : D) (t : Int) (c e : D), s = .int i ∧ n = .int j ∧ i < rs.length ∧ j < ms.length ∧ rs[i]? = some (.tup ms) ∧ ms[j]? = some m ∧ ms.length ≤ 8 ∧ m = .tup [a, b, .int t, c, e] ∧ L2.atI rs (i : Int) = some (.tup ms) ∧ L2.atI ms (j : Int) = some m ∧ stateD rs.length (.tup ms) = true ∧ rs.length ≤ 6 ∧ MvV m := by
  have hr := rows_of hs
  unfold wr2 at hq
  split at hq
  · rename_i hv
    split at hq
    · rename_i hv2
      obtain ⟨i, ms, rfl, hi, hm, hl, hrr, ai⟩ := in_row hr hv
      rw [hrr] at hv2
      obtain ⟨t, rfl, t0, t1⟩ := within_int hv2
      obtain ⟨j, rfl⟩ : ∃ j : Nat, t = j := ⟨t.toNat, by omega⟩
      have hj : j < ms.length := by omega
      have hj' := List.getElem?_eq_getElem hj
      obtain ⟨qs, eq, q6, hq6⟩ := states_row hs (List.mem_of_getElem? hm)
      cases eq
      obtain ⟨a, b, t, c, e, em⟩ := hq6 _ (List.mem_of_getElem? hj')
      obtain ⟨g1, g2⟩ := states_at hs hm
      have hv := h.2 _ (List.mem_of_getElem? hm)
      obtain ⟨qs, eq, q7, hq7⟩ := hv
      rcases eq with eq | eq
      · cases eq
        exact ⟨i, j, ms, _, a, b, t, c, e, rfl, rfl, hi, hj, hm, hj', hl, em, ai, by rw [atI_in (by omega) (by omega)]; simpa using hj', g1, g2, hq7 _ (List.mem_of_getElem? hj')⟩
      · cases eq
    · cases hq
  · cases hq
/-- the law's word -/
def sKeep (rs : List D) (s n kp : D) : List Nat := match wr2 rs s n with
  | some d => sNum d
  | none => match s, n with
    | .int i, .int j => match rs[i.toNat]? with
      | some (.tup ms) => match ms[j.toNat]? with
        | some m => if moveD ((rs.length : Int) - 1) (keepM kp m) = true then sFine else sMach
        | none => sMach
      | _ => sMach
    | _, _ => sMach
include hk
theorem ed5 {b : Sl} : wS (callF fns (k + 10)) (at_ 5 bd53) (ev rs s n mv kp (.val (.str (sTwo rs s n))) b) (fun _ _ => False) (fun fl e => fl = .nx ∧ e = ev rs s n mv kp (.val (.str (sKeep rs s n kp))) b) := by
  have zs := num_len is.sh
  have zn := num_len in_.sh
  cases hq : wr2 rs s n with
  | some d =>
    have zd := num_len (wr2_sh is in_ hq)
    simp [at_, bd53, sTwo, sKeep, hq, sNum]
  | none =>
    obtain ⟨i, j, ms, m, a, b', t, c, e, rfl, rfl, hi, hj, hm, hj', hl, em, ai, aj, g1, g2, hv⟩ := at_two rs s n h hs is in_ hq
    subst em
    have c4 : cutL [a, b', .int t, c, e] none (some 4) = [a, b', .int t, c] := rfl
    have p1 : pl1 (.tup [a, b', .int t, c, kp]) := keepM_pl1 (m := .tup [a, b', .int t, c, e]) hv.pl1 hk
    have p2 : ∀ xs, D.tup [a, b', .int t, c, kp] = .tup xs → ∀ x ∈ xs, plc x := fun xs z x hx => by
      cases z
      have hp := hv.plc _ rfl
      simp only [List.mem_cons, List.not_mem_nil, or_false] at hx
      rcases hx with rfl | rfl | rfl | rfl | rfl <;> first | exact hk.pl | exact hp _ (by simp)
    have f := look.fine (k := k + 8) (.tup [a, b', .int t, c, kp]) (rs.length : Int) p1 p2
    have l6 := g2
    cases hd : moveD ((rs.length : Int) - 1) (.tup [a, b', .int t, c, kp]) <;> (rw [hd] at f; simp [at_, bd53, sTwo, sKeep, hq, ai, aj, c4, hm, hj', keepM, f, hd])
theorem ed6 {b : Sl} : wS (callF fns (k + 10)) (at_ 6 bd53) (ev rs s n mv kp (.val (.str (sKeep rs s n kp))) b) (fun _ _ => False) (fun fl e => fl = .rt (.val (.bl true))) := by
  have hr := rows_of hs
  have w := with_keeping (k + 1) rs s n kp hr hs is.pl in_.pl (keep_pl3 h hk)
  have zs := num_len is.sh
  have zn := num_len in_.sh
  cases hq : wr2 rs s n with
  | some d =>
    have hd := wr2_sh is in_ hq
    have t := told_eNum (k + 9) d hd
    have zd := num_len hd
    rw [hq] at w
    unfold eNum at w t
    simp at w
    simp [at_, bd53, sKeep, hq, w, t, mthOf]
  | none =>
    obtain ⟨i, j, ms, m, a, b', t, c, e, rfl, rfl, hi, hj, hm, hj', hl, em, ai, aj, g1, g2, hv⟩ := at_two rs s n h hs is in_ hq
    rw [hq] at w
    simp [hm, hj'] at w
    have es : statesD (.tup (rs.set i (.tup (ms.set j (keepM kp m))))) = moveD ((rs.length : Int) - 1) (keepM kp m) := by
      rw [states_set hs hi, state_set g1 hj, mS_eq (by omega)]
    have tt := told_ofR (k + 9) (rs.set i (.tup (ms.set j (keepM kp m))))
    unfold ofR at w tt
    rw [es] at w tt
    cases hd : moveD ((rs.length : Int) - 1) (keepM kp m) <;> (rw [hd] at w tt; simp at w tt; simp [at_, bd53, sKeep, hq, hm, hj', hd, w, tt, mthOf])
end
theorem edits_right (k : Nat) (rs : List D) (s n mv kp : D) (h : RwsV rs) (hs : statesD (.tup rs) = true) (is : IxV s) (in_ : IxV n) (hm : MvV mv) (hk : KpV kp) : callF fns (k + 11) 53 none [mc rs, .lst rs, s, n, mv, kp] = some (.ok (.val (.bl true)), none) := by
  refine get_of (w_fn lk53 ⟨rfl, by decide⟩ rfl ?_)
  have st0 : start0 fn53 none [mc rs, .lst rs, s, n, mv, kp] = ev rs s n mv kp .un .un := rfl
  have b53 : fn53.body = .cons (at_ 0 bd53) (.cons (at_ 1 bd53) (.cons (at_ 2 bd53) (.cons (at_ 3 bd53) (.cons (at_ 4 bd53) (.cons (at_ 5 bd53) (.cons (at_ 6 bd53) .nil)))))) := rfl
  rw [st0, b53]
  refine w_one (ed0 k rs s n mv kp hs is rfl) (w_one (ed1 k rs s n mv kp hs is hm rfl) (w_one (ed2 k rs s n mv kp h hs is hm) (w_one (ed3 k rs s n mv kp h hs is) (w_one (ed4 k rs s n mv kp h hs is in_ rfl) (w_one (ed5 k rs s n mv kp h hs is in_ hk) ?_)))))
  rw [w_scons]
  refine wr_mono (ed6 k rs s n mv kp h hs is in_ hk) ?_ fun _ _ h => h.elim
  rintro fl e rfl
  simp [thenS, fn53]
end K08

namespace K08
open PySem DI DI.Sh
def pairD : D → Bool
  | .tup xs => decide (xs.length = 2)
  | _ => false
def mkP (p : D) : D → D
  | .tup [a, b] => .tup [a, b, .int 0, p, .non]
  | d => d
theorem are_acts (k : Nat) (As : List D) (h : ∀ a ∈ As, pl1 a) (hl : As.length ≤ 100) : callF fns (k + 1) 46 none [.tup As] = some (.ok (.val (.bl (As.all pairD))), none) := by
  refine get_of (w_fn lk46 ⟨rfl, by decide⟩ rfl ?_)
  simp [fn46, bd46, start0]
  refine w_lcp (fun m => some (.bl (pairD m))) (by simp) (by unfold big; omega) ?_ fun z => ?_
  · intro d hd
    have hp := h d hd
    cases d with
    | scr _ => exact False.elim hp
    | fn _ => exact False.elim hp
    | obj _ _ => exact False.elim hp
    | cls _ => exact False.elim hp
    | ctp _ => exact False.elim hp
    | tup xs =>
      by_cases h2 : xs.length = 2
      · have h2' : (xs.length : Int) = 2 := by omega
        simp [pairD, h2, h2']
      · have h2' : ¬ (xs.length : Int) = 2 := by omega
        simp [pairD, h2, h2']
    | _ => simp [pairD]
  · simp only [fm_all, x_dN, x_toDl, x_toDsm, o_all]
    simp
/-- what a free machine is, or the error -/
def freeR (As : List D) (p : D) : Except Xc R := if As.all pairD = true ∧ withinD p 9 = true ∧ statesD (.tup [.tup (As.map (mkP p))]) = true then .ok (.new (.ob 2 [(1, .fz (.tup [.tup (As.map (mkP p))]))])) else .error ⟨1, []⟩
theorem pair_ex {a : D} (h : pairD a = true) : ∃ x y, a = .tup [x, y] := by
  cases a with
  | tup xs =>
    simp only [pairD, decide_eq_true_eq] at h
    match xs, h with
    | [x, y], _ => exact ⟨x, y, rfl⟩
  | _ => cases h
theorem free_body (k : Nat) (As : List D) (p : D) (h : ∀ a ∈ As, pl1 a) (hl : As.length ≤ 100) (hp : pl p) {X : Xc → Ev → Prop} {Q : Fl → Ev → Prop}
    (hQ : wc (freeR As p) [] (fun x _ => ∀ e, X x e) (fun r _ => ∀ e, Q (.rt r) e)) : wSs (callF fns (k + 7)) bd47 [.val (.cls 2), .val p, .val (.tup As), .un, .un] X Q := by
  have ha := are_acts (k + 6) As h hl
  have hw := within (k + 5) p 9 hp (by decide)
  unfold freeR at hQ
  cases hA : As.all pairD with
  | false =>
    rw [hA] at ha hQ
    simp at hQ
    simp [bd47, ha, hQ]
  | true =>
    rw [hA] at ha hQ
    cases hP : withinD p 9 with
    | false =>
      rw [hP] at hw hQ
      simp at hQ
      simp [bd47, ha, hw, hQ]
    | true =>
      rw [hP] at hw hQ
      simp at hQ
      simp [bd47, ha, hw]
      refine w_lcp2 (fun a => some (mkP p a)) (by simp) (by simp) (by decide) (by unfold big; omega) ?_ fun z z' => ?_
      · intro d hd
        obtain ⟨x, y, rfl⟩ := pair_ex (List.all_eq_true.mp hA d hd)
        refine ⟨x, y, rfl, ?_⟩
        simp [mkP]
      · have p3 : pl3 (.tup [.tup (As.map (mkP p))]) := by
          refine ⟨by simp, fun x hx => ?_⟩
          rw [List.mem_singleton.mp hx]
          refine ⟨by simp; omega, fun y hy => ?_⟩
          obtain ⟨z, hz, rfl⟩ := List.mem_map.mp hy
          obtain ⟨u, v, rfl⟩ := pair_ex (List.all_eq_true.mp hA z hz)
          have hz' := h _ hz
          intro x hx
          simp only [mkP, List.mem_cons, List.not_mem_nil, or_false] at hx
          rcases hx with rfl | rfl | rfl | rfl | rfl <;> first | exact hp | exact trivial | exact hz' _ (by simp)
        rw [fm_some]
        cases hS : statesD (.tup [.tup (As.map (mkP p))]) with
        | true =>
          have hi := mach.init (k + 1) [.tup (As.map (mkP p))] (by simp) p3 hS
          rw [hS] at hQ
          simp at hQ
          simp [-List.map_map, hi]
          exact hQ _
        | false =>
          have hi := mach.init_no (k + 1) [.tup (As.map (mkP p))] (by simp) p3 hS
          rw [hS] at hQ
          simp at hQ
          simp [-List.map_map, hi]
          exact hQ _
end K08

namespace K08
open PySem DI DI.Sh
def okF (As : List D) (p : D) : Bool := As.all pairD && (withinD p 9 && (decide (As.length ≤ 6) && (As.map (mkP p)).all (moveD 0)))
theorem freeR_eq (As : List D) (p : D) : freeR As p = if okF As p = true then .ok (.new (.ob 2 [(1, .fz (.tup [.tup (As.map (mkP p))]))])) else .error ⟨1, []⟩ := by
  have e : statesD (.tup [.tup (As.map (mkP p))]) = (decide (As.length ≤ 6) && (As.map (mkP p)).all (moveD 0)) := by
    simp only [statesD, stateD, List.all_cons, List.all_nil, Bool.and_true, List.length_map, List.length_singleton]
    rw [all_mS (by decide)]
    simp
  unfold freeR okF
  rw [e]
  simp only [Bool.and_eq_true]
theorem free_c (k : Nat) (As : List D) (h : ∀ a ∈ As, pl1 a) (hl : As.length ≤ 100) : callF fns (k + 8) 47 none (.cls 2 :: As) = some (freeR As (.int 0), none) := by
  refine get_of (w_fn (es := [.cls 2, .int 0, .tup As]) lk47 ⟨rfl, by decide⟩ (by simp [DI.bindC, fn47, big]; omega) ?_)
  have st0 : start0 fn47 none [.cls 2, .int 0, .tup As] = [.val (.cls 2), .val (.int 0), .val (.tup As), .un, .un] := rfl
  rw [st0]
  refine free_body k As (.int 0) h hl trivial ?_
  cases hF : freeR As (.int 0) with
  | ok r => simp [fn47, endF]
  | error x => simp [fn47]
theorem free_k (k : Nat) (As : List D) (p : D) (h : ∀ a ∈ As, pl1 a) (hl : As.length ≤ 100) (hp : pl p) : (callF fns (k + 8)).k 57 (.cls 2 :: p :: As) = some (freeR As p) := by
  have z : wo ((callF fns (k + 8)).k 57 (.cls 2 :: p :: As)) fun o => o = freeR As p := by
    refine w_fnk lk57 rfl ⟨rfl, rfl, by decide, by simp [fn57], by simp [big]; omega, by decide⟩ ?_
    have st0 : start0 fn57 none ((D.cls 2 :: p :: As).take (fn57.np - 1) ++ [.tup ((D.cls 2 :: p :: As).drop (fn57.np - 1))]) = [.val (.cls 2), .val p, .val (.tup As), .un, .un] := rfl
    rw [st0]
    refine free_body k As p h hl hp ?_
    cases hF : freeR As p with
    | ok r => simp [fn57, endF]
    | error x => simp [fn57]
  obtain ⟨o, h1, rfl⟩ := z
  exact h1
def sF (b : Bool) : List Nat := if b = true then sFine else sMach
theorem told_free (k : Nat) (As : List D) (p : D) : (callF fns (k + 1)).l 49 (encX (freeR As p)) = some (.ok (.val (.str (sF (okF As p))))) := by
  rw [freeR_eq]
  unfold sF
  cases okF As p with
  | true => simp [encX, told_ok]
  | false => simp [encX, told_mach]
end K08

namespace K08
open PySem DI DI.Sh
abbrev fineA (w : D) : D := .tup [.str sTake, w]
theorem fine_mv {w p : D} (hw : Wd w) : moveD 0 (mkP p (fineA w)) = withinD p 9 := by
  have := hw.word
  simp [mkP, moveD, moveL, moveB, inS, keepD, this, eqN, withinD]
def BadA (d : D) : Prop := pl1 d ∧ (pairD d = false ∨ moveD 0 (mkP (.int 0) d) = false)
def badL (w : D) : List D := [.tup [.str sSend, .non], .tup [.str sWork, w], .tup [.str sTake, .str []], .tup [.str sSend], .str sWork, .non, .int 0, .lst [.str sWork, .non], .tup [.str [87, 111, 114, 107], .non]]
theorem bads {w : D} (hw : Wd w) : ∀ d ∈ badL w, BadA d := by
  obtain ⟨cs, rfl, c1, c2, c3⟩ := hw
  intro d hd
  simp only [badL, List.mem_cons, List.not_mem_nil, or_false] at hd
  rcases hd with rfl | rfl | rfl | rfl | rfl | rfl | rfl | rfl | rfl
  · exact ⟨by intro x hx; simp at hx; rcases hx with rfl | rfl <;> first | exact (by decide : (4 : Nat) ≤ 1000) | trivial, .inr (by simp [mkP, moveD, moveL, moveB, inS, keepD, wordD])⟩
  · exact ⟨by intro x hx; simp at hx; rcases hx with rfl | rfl <;> first | exact (by decide : (4 : Nat) ≤ 1000) | exact (by show cs.length ≤ 1000; omega), .inr (by simp [mkP, moveD, moveL, moveB, inS, keepD, isNon])⟩
  · exact ⟨by intro x hx; simp at hx; rcases hx with rfl | rfl <;> exact (by show List.length _ ≤ 1000; decide), .inr (by simp [mkP, moveD, moveL, moveB, inS, keepD, wordD])⟩
  · exact ⟨by intro x hx; simp at hx; subst hx; exact (by decide : (4 : Nat) ≤ 1000), .inl rfl⟩
  · exact ⟨(by decide : (4 : Nat) ≤ 1000), .inl rfl⟩
  · exact ⟨trivial, .inl rfl⟩
  · exact ⟨trivial, .inl rfl⟩
  · exact ⟨trivial, .inl rfl⟩
  · exact ⟨by intro x hx; simp at hx; rcases hx with rfl | rfl <;> first | exact (by decide : (4 : Nat) ≤ 1000) | trivial, .inr (by simp [mkP, moveD, moveL, moveB, inS, keepD, isNon])⟩
theorem okF_bad1 {w d : D} (hd : BadA d) : okF [fineA w, d] (.int 0) = false := by
  rcases hd.2 with h | h <;> simp [okF, h]
theorem okF_bad2 {w d : D} (hd : BadA d) : okF [d, fineA w] (.int 0) = false := by
  rcases hd.2 with h | h <;> simp [okF, h]
theorem okF_six {w : D} (hw : Wd w) : okF [fineA w, fineA w, fineA w, fineA w, fineA w, fineA w] (.int 0) = true := by
  have := fine_mv (p := .int 0) hw
  simp [okF, this, pairD, withinD]
theorem okF_seven {w : D} : okF [fineA w, fineA w, fineA w, fineA w, fineA w, fineA w, fineA w] (.int 0) = false := by
  simp [okF]
theorem okF_p {w p : D} (hw : Wd w) : okF [fineA w] p = withinD p 9 := by
  have := fine_mv (p := p) hw
  simp [okF, this, pairD]
def oddP : List D := [.int 10, .int (-1), .bl true, .non, .str [49]]
theorem odd_p : ∀ p ∈ oddP, pl p ∧ withinD p 9 = false := by
  intro p hp
  simp only [oddP, List.mem_cons, List.not_mem_nil, or_false] at hp
  rcases hp with rfl | rfl | rfl | rfl | rfl
  · exact ⟨trivial, by decide⟩
  · exact ⟨trivial, by decide⟩
  · exact ⟨trivial, rfl⟩
  · exact ⟨trivial, rfl⟩
  · exact ⟨(by decide : (1 : Nat) ≤ 1000), rfl⟩
theorem fine_pl {w : D} (hw : Wd w) : pl1 (fineA w) := by
  obtain ⟨cs, rfl, c1, c2, c3⟩ := hw
  intro x hx
  simp at hx
  rcases hx with rfl | rfl <;> first | exact (by decide : (4 : Nat) ≤ 1000) | exact (by show cs.length ≤ 1000; omega)
/-- behind the second statement -/
def P1 (n : Nat) (ws : List D) (w : D) (e : Ev) : Prop := ∃ st' d, e = [.io st', .val (.lst ws), .val (.lst (badL w)), .val (fineA w), .val d] ∧ BadA d ∧ Stk (n + 1) st'
theorem acts_right (k n : Nat) (st : Ho) (w0 w1 w2 w3 : D) (hs : Stk n st) (hn : n ≤ 10000) (hw : Wd w0) : wo (callF fns (k + 10) 54 (some st) [.lst [w0, w1, w2, w3]]) fun p => p.1 = .ok (.val (.bl true)) ∧ ∃ st', p.2 = some st' := by
  refine w_fn lk54 ⟨rfl, by decide⟩ rfl ?_
  have hi : L2.atI [w0, w1, w2, w3] 0 = some w0 := rfl
  have hg := hw
  obtain ⟨cs, rfl, c1, c2, c3⟩ := hw
  have b54 : fn54.body = .cons (at_ 0 bd54) (.cons (at_ 1 bd54) (.cons (at_ 2 bd54) (.cons (at_ 3 bd54) (.cons (at_ 4 bd54) (.cons (at_ 5 bd54) (.cons (at_ 6 bd54) (.cons (at_ 7 bd54) (.cons (at_ 8 bd54) .nil)))))))) := rfl
  rw [b54, w_scons]
  have s0 : wS (callF fns (k + 9)) (at_ 0 bd54) (start0 fn54 (some st) [.lst [.str cs, w1, w2, w3]]) (fun _ _ => False) fun fl e => fl = .nx ∧ ∃ H0, e = [.io st, .val (.lst [.str cs, w1, w2, w3]), .own H0, .un, .un] ∧ toD H0 = .lst (badL (.str cs)) := by
    simp [at_, bd54, start0, fn54, hi]
    simp [badL]
  refine wr_mono s0 ?_ fun _ _ h => h.elim
  rintro fl e ⟨rfl, H0, rfl, hH0⟩
  rw [then_nx, w_scons]
  have s1 : wS (callF fns (k + 9)) (at_ 1 bd54) [.io st, .val (.lst [.str cs, w1, w2, w3]), .own H0, .un, .un] (fun _ _ => False) fun fl e => fl = .nx ∧ P1 n [.str cs, w1, w2, w3] (.str cs) e := by
    simp [at_, bd54, hi, hH0]
    refine wo_mono (pick_of (k := k + 8) draws.h12 (draws.draw (k := k + 7)) n st (badL (.str cs)) hs (by omega) (by simp [badL]) (by simp [badL])) ?_
    rintro p ⟨y, zs, rfl, g1, g2⟩
    simp
    exact ⟨_, y, rfl, bads hg y g1, g2⟩
  refine wr_mono s1 ?_ fun _ _ h => h.elim
  rintro fl e ⟨rfl, st1, d, rfl, hd, hs1⟩
  rw [then_nx]
  have f0 := fine_pl hg
  have t1 := told_free (k + 8) [fineA (.str cs), d] (.int 0)
  have t2 := told_free (k + 8) [d, fineA (.str cs)] (.int 0)
  have t3 := told_free (k + 8) [fineA (.str cs), fineA (.str cs), fineA (.str cs), fineA (.str cs), fineA (.str cs), fineA (.str cs)] (.int 0)
  have t4 := told_free (k + 8) [fineA (.str cs), fineA (.str cs), fineA (.str cs), fineA (.str cs), fineA (.str cs), fineA (.str cs), fineA (.str cs)] (.int 0)
  have c1' := free_c (k + 1) [fineA (.str cs), d] (by simp [f0, hd.1]) (by simp)
  have c2' := free_c (k + 1) [d, fineA (.str cs)] (by simp [f0, hd.1]) (by simp)
  have c3' := free_c (k + 1) [fineA (.str cs), fineA (.str cs), fineA (.str cs), fineA (.str cs), fineA (.str cs), fineA (.str cs)] (by simp [f0]) (by simp)
  have c4' := free_c (k + 1) [fineA (.str cs), fineA (.str cs), fineA (.str cs), fineA (.str cs), fineA (.str cs), fineA (.str cs), fineA (.str cs)] (by simp [f0]) (by simp)
  rw [freeR_eq] at t1 t2 t3 t4 c1' c2' c3' c4'
  rw [okF_bad1 hd] at t1 c1'
  rw [okF_bad2 hd] at t2 c2'
  rw [okF_six hg] at t3 c3'
  rw [okF_seven] at t4 c4'
  simp [sF] at t1 t2 t3 t4 c1' c2' c3' c4'
  generalize hL : badL (.str cs) = L
  generalize hW : [D.str cs, w1, w2, w3] = ws
  have s2 : wS (callF fns (k + 9)) (at_ 2 bd54) [.io st1, .val (.lst ws), .val (.lst L), .val (fineA (.str cs)), .val d] (fun _ _ => False) fun fl e => fl = .nx ∧ e = [.io st1, .val (.lst ws), .val (.lst L), .val (fineA (.str cs)), .val d] := by
    simp [at_, bd54, c1', t1]
  have s3 : wS (callF fns (k + 9)) (at_ 3 bd54) [.io st1, .val (.lst ws), .val (.lst L), .val (fineA (.str cs)), .val d] (fun _ _ => False) fun fl e => fl = .nx ∧ e = [.io st1, .val (.lst ws), .val (.lst L), .val (fineA (.str cs)), .val d] := by
    simp [at_, bd54, c2', t2]
  have s4 : wS (callF fns (k + 9)) (at_ 4 bd54) [.io st1, .val (.lst ws), .val (.lst L), .val (fineA (.str cs)), .val d] (fun _ _ => False) fun fl e => fl = .nx ∧ e = [.io st1, .val (.lst ws), .val (.lst L), .val (fineA (.str cs)), .val d] := by
    simp [at_, bd54, c3', t3]
  have s5 : wS (callF fns (k + 9)) (at_ 5 bd54) [.io st1, .val (.lst ws), .val (.lst L), .val (fineA (.str cs)), .val d] (fun _ _ => False) fun fl e => fl = .nx ∧ e = [.io st1, .val (.lst ws), .val (.lst L), .val (fineA (.str cs)), .val d] := by
    simp [at_, bd54, c4', t4]
  generalize at_ 2 bd54 = b2 at s2 ⊢
  generalize at_ 3 bd54 = b3 at s3 ⊢
  generalize at_ 4 bd54 = b4 at s4 ⊢
  generalize at_ 5 bd54 = b5 at s5 ⊢
  clear t1 t2 t3 t4 c1' c2' c3' c4'
  refine w_one s2 (w_one s3 (w_one s4 (w_one s5 ?_)))
  rw [w_scons]
  have s6 : wS (callF fns (k + 9)) (at_ 6 bd54) [.io st1, .val (.lst ws), .val (.lst L), .val (fineA (.str cs)), .val d] (fun _ _ => False) fun fl e => fl = .nx ∧ ∃ st2 p, e = [.io st2, .val (.lst ws), .val p, .val (fineA (.str cs)), .val d] ∧ p ∈ oddP := by
    simp [at_, bd54]
    refine wo_mono (pick_of (k := k + 8) draws.h12 (draws.draw (k := k + 7)) (n + 1) st1 oddP hs1 (by omega) (by simp [oddP]) (by simp [oddP])) ?_
    rintro p ⟨y, zs, rfl, g1, g2⟩
    simp
    exact ⟨zs, y, ⟨rfl, rfl⟩, g1⟩
  refine wr_mono s6 ?_ fun _ _ h => h.elim
  rintro fl e ⟨rfl, st2, p, rfl, hp⟩
  rw [then_nx]
  obtain ⟨p1, p2⟩ := odd_p p hp
  have t7 := told_free (k + 8) [fineA (.str cs)] p
  have c7 := free_k (k + 1) [fineA (.str cs)] p (by simp [f0]) (by simp) p1
  have t8 := told_free (k + 8) [fineA (.str cs)] (.int 9)
  have c8 := free_k (k + 1) [fineA (.str cs)] (.int 9) (by simp [f0]) (by simp) trivial
  rw [freeR_eq] at t7 c7 t8 c8
  rw [okF_p hg] at t7 c7 t8 c8
  rw [p2] at t7 c7
  have e9 : withinD (.int 9) 9 = true := rfl
  rw [e9] at t8 c8
  simp [sF] at t7 c7 t8 c8
  simp [at_, bd54, c7, t7, c8, t8, fn54, outOf]
end K08

namespace K08
open PySem DI DI.Sh
/-- the values near a size -/
def ixL (m : Int) : List D := [.int 0, .int (m - 1), .int m, .int (m + 1), .int (-1), .int (-m), .bl true, .bl false, .non, .str [48], .int (10 ^ 60), .lst [.int 0], .int 6, .str []]
theorem ix_all {m : Int} (h : 0 ≤ m ∧ m ≤ 8) : ∀ d ∈ ixL m, IxV d := by
  intro d hd
  simp only [ixL, List.mem_cons, List.not_mem_nil, or_false] at hd
  rcases hd with rfl | rfl | rfl | rfl | rfl | rfl | rfl | rfl | rfl | rfl | rfl | rfl | rfl | rfl
  · exact ix_int (by omega)
  · exact ix_int (by omega)
  · exact ix_int (by omega)
  · exact ix_int (by omega)
  · exact ix_int (by omega)
  · exact ix_int (by omega)
  · exact ix_lf trivial
  · exact ix_lf trivial
  · exact ix_lf trivial
  · exact ix_lf (lf_str (by decide))
  · exact ix_lf (.inr rfl)
  · exact ix_lst (.inl (by decide))
  · exact ix_int (by omega)
  · exact ix_lf (lf_str (by decide))
theorem indices (k : Nat) (m : Int) (h : 0 ≤ m ∧ m ≤ 8) : ∃ H0, callF fns (k + 1) 51 none [.int m] = some (.ok (.new H0), none) ∧ toD H0 = .lst (ixL m) := by
  have z : wo (callF fns (k + 1) 51 none [.int m]) fun p => ∃ H0, p = (.ok (.new H0), none) ∧ toD H0 = .lst (ixL m) := by
    refine w_fn lk51 ⟨rfl, by decide⟩ rfl ?_
    simp [fn51, bd51, start0]
    simp [ixL]
  obtain ⟨p, h1, H0, rfl, h2⟩ := z
  exact ⟨H0, h1, h2⟩
/-- a turn's draws -/
theorem pick_ix (k n : Nat) (st : Ho) (m : Int) (h : 0 ≤ m ∧ m ≤ 8) (hs : Stk n st) (hn : n ≤ 100000) {Q : Except Xc R × Option Ho → Prop} (hQ : ∀ y zs, IxV y → Stk (n + 1) zs → Q (.ok (.val y), some zs)) : wo (callF fns (k + 2) 12 (some st) [.lst (ixL m)]) Q :=
  wo_mono (pick_of (k := k + 1) draws.h12 (draws.draw (k := k)) n st (ixL m) hs (by omega) (by simp [ixL]) (by simp [ixL])) (by rintro p ⟨y, zs, rfl, g1, g2⟩; exact hQ y zs (ix_all h y g1) g2)
def kpL : List D := [.non, .str sSave, .str sNote, .str [107, 101, 101, 112], .int 0, .lst [.str sSave]]
theorem kp_all : ∀ d ∈ kpL, KpV d := by
  intro d hd
  simp only [kpL, List.mem_cons, List.not_mem_nil, or_false] at hd
  rcases hd with rfl | rfl | rfl | rfl | rfl | rfl
  · exact ⟨trivial⟩
  · exact ⟨by show _ ∧ _; decide⟩
  · exact ⟨by show _ ∧ _; decide⟩
  · exact ⟨by show _ ∧ _; decide⟩
  · exact ⟨trivial⟩
  · exact ⟨trivial⟩
theorem pick_kp (k n : Nat) (st : Ho) (hs : Stk n st) (hn : n ≤ 100000) {Q : Except Xc R × Option Ho → Prop} (hQ : ∀ y zs, KpV y → Stk (n + 1) zs → Q (.ok (.val y), some zs)) : wo (callF fns (k + 2) 12 (some st) [.lst kpL]) Q :=
  wo_mono (pick_of (k := k + 1) draws.h12 (draws.draw (k := k)) n st kpL hs (by omega) (by simp [kpL]) (by simp [kpL])) (by rintro p ⟨y, zs, rfl, g1, g2⟩; exact hQ y zs (kp_all y g1) g2)
abbrev CV (st : Ho) (ws rs : List D) (kept : D) (z3 z5 z6 z7 z8 z9 z10 : Sl) : Ev := [.io st, .val (.lst ws), .val (.lst rs), z3, .val kept, z5, z6, z7, z8, z9, z10]
def turnB : Ss := forB (at_ 3 bd55)
/-- behind the first two draws of a turn -/
theorem t0 (k n : Nat) (st : Ho) (ws rs : List D) (kept : D) (z3 z5 z6 z7 z8 z9 z10 : Sl) (hs : Stk n st) (hn : n ≤ 1000) (l : rs.length ≤ 6) (f6 : freeS (some z6) = true) :
    wS (callF fns (k + 11)) (at_ 0 turnB) (CV st ws rs kept z3 z5 z6 z7 z8 z9 z10) (fun _ _ => False) fun fl e => fl = .nx ∧ ∃ st' s, e = CV st' ws rs kept z3 z5 (.val s) z7 z8 z9 z10 ∧ IxV s ∧ Stk (n + 1) st' := by
  obtain ⟨H0, h1, h2⟩ := indices (k + 10) (rs.length : Int) ⟨by omega, by omega⟩
  simp [at_, turnB, bd55, forB, h1, h2]
  refine pick_ix (k + 9) n st (rs.length : Int) ⟨by omega, by omega⟩ hs (by omega) fun y zs hy hz => ?_
  simp [f6]
  exact ⟨zs, y, ⟨rfl, rfl⟩, hy, hz⟩
end K08

namespace K08
open PySem DI DI.Sh
section
variable (k n : Nat) (st : Ho) (ws rs : List D) (kept : D) (z3 z5 z6 z7 z8 z9 z10 : Sl)
theorem t1 (s : D) (hR : statesD (.tup rs) = true) (is : IxV s) (f7 : freeS (some z7) = true) :
    wS (callF fns (k + 11)) (at_ 1 turnB) (CV st ws rs kept z3 z5 (.val s) z7 z8 z9 z10) (fun _ _ => False) fun fl e => fl = .nx ∧ ∃ m : Nat, e = CV st ws rs kept z3 z5 (.val s) (.val (.int m)) z8 z9 z10 ∧ m ≤ 8 := by
  have w := look.below (k := k + 10) s ((rs.length : Int) - 1) is.pl
  have hr := rows_of hR
  cases hv : withinD s ((rs.length : Int) - 1) with
  | false =>
    rw [hv] at w
    simp [at_, turnB, bd55, forB, w, f7]
    exact ⟨3, rfl, by omega⟩
  | true =>
    obtain ⟨i, ms, rfl, hi, hm, hl, hrr, ai⟩ := in_row hr hv
    rw [hv] at w
    simp [at_, turnB, bd55, forB, w, f7, ai]
    exact ⟨ms.length, rfl, hl⟩
theorem t2 (m : Nat) (hm : m ≤ 8) (hs : Stk n st) (hn : n ≤ 1000) (f8 : freeS (some z8) = true) :
    wS (callF fns (k + 11)) (at_ 2 turnB) (CV st ws rs kept z3 z5 z6 (.val (.int m)) z8 z9 z10) (fun _ _ => False) fun fl e => fl = .nx ∧ ∃ st' s, e = CV st' ws rs kept z3 z5 z6 (.val (.int m)) (.val s) z9 z10 ∧ IxV s ∧ Stk (n + 1) st' := by
  obtain ⟨H0, h1, h2⟩ := indices (k + 10) (m : Int) ⟨by omega, by omega⟩
  simp [at_, turnB, bd55, forB, h1, h2]
  refine pick_ix (k + 9) n st (m : Int) ⟨by omega, by omega⟩ hs (by omega) fun y zs hy hz => ?_
  simp [f8]
  exact ⟨zs, y, ⟨rfl, rfl⟩, hy, hz⟩
theorem t3 (w1 w2 w3 w4 : D) (hW : ∀ x ∈ [w1, w2, w3, w4], Wd x) (l1 : 1 ≤ rs.length) (l6 : rs.length ≤ 6) (hs : Stk n st) (hn : n ≤ 1000) (f9 : freeS (some z9) = true) :
    wS (callF fns (k + 11)) (at_ 3 turnB) (CV st [w1, w2, w3, w4] rs kept z3 z5 z6 z7 z8 z9 z10) (fun _ _ => False) fun fl e => fl = .nx ∧ ∃ st' a b c d e', e = CV st' [w1, w2, w3, w4] rs kept z3 z5 z6 z7 z8 (.val (.tup [a, b, c, d, e'])) z10 ∧ (∀ x ∈ [a, b, c, d, e'], Lf x) ∧ Stk (n + 5) st' := by
  have c1 : cutL [w1, w2, w3, w4] none (some 2) = [w1, w2] := rfl
  have c2 : cutL [w1, w2, w3, w4] (some 2) none = [w3, w4] := rfl
  simp [at_, turnB, bd55, forB, c1, c2]
  refine wo_mono (draws.draw (k := k + 10) n st 2 hs (by omega) (by omega) (by omega)) ?_
  rintro p ⟨q, st1, rfl, q0, q1, hs1⟩
  simp
  refine wo_mono (draws.any_move (k := k + 8) rfl _ st1 ((rs.length : Int) + q) [w1, w2] [w3, w4] hs1 (by omega) (by omega) (by omega) (fun x hx => hW x (by simp at hx ⊢; rcases hx with rfl | rfl <;> simp)) (fun x hx => hW x (by simp at hx ⊢; rcases hx with rfl | rfl <;> simp)) (by simp) (by simp)) ?_
  rintro p ⟨d, st2, rfl, hd, hs2⟩
  obtain ⟨xs, rfl, h5, hlf⟩ := hd.ex
  obtain ⟨a, b, c, d, e, rfl⟩ := five h5
  simp [f9]
  exact ⟨st2, a, b, c, d, e, ⟨rfl, rfl, rfl, rfl, rfl, rfl⟩, by simpa using hlf, hs2.mono (by omega)⟩
theorem t4 (a b c d e' : D) (hl : ∀ x ∈ [a, b, c, d, e'], Lf x) (hs : Stk n st) (hn : n ≤ 1000) :
    wS (callF fns (k + 11)) (at_ 4 turnB) (CV st ws rs kept z3 z5 z6 z7 z8 (.val (.tup [a, b, c, d, e'])) z10) (fun _ _ => False) fun fl e => fl = .nx ∧ ∃ st' mv, e = CV st' ws rs kept z3 z5 z6 z7 z8 (.val mv) z10 ∧ MvV mv ∧ Stk (n + 1) st' := by
  have c3 : cutL [a, b, c, d, e'] none (some 3) = [a, b, c] := rfl
  have a4 : L2.atI [a, b, c, d, e'] 4 = some e' := rfl
  simp [at_, turnB, bd55, forB, c3, a4]
  refine pick_lf draws (k := k + 9) hs (by omega) (by simp) (by simp) (by
    intro y hy
    simp only [List.mem_cons, List.not_mem_nil, or_false] at hy
    rcases hy with rfl | rfl | rfl <;> exact .inl ⟨by decide, by decide⟩) fun y st3 hy hs3 => ?_
  simp
  refine ⟨e', a4, st3, _, ⟨rfl, rfl⟩, ⟨_, .inl rfl, by simp, ?_⟩, hs3⟩
  intro x hx
  simp only [List.mem_cons, List.not_mem_nil, or_false] at hx
  rcases hx with rfl | rfl | rfl | rfl | rfl <;> first | exact hy | exact hl _ (by simp)
theorem t5 (hs : Stk n st) (hn : n ≤ 1000) (f10 : freeS (some z10) = true) :
    wS (callF fns (k + 11)) (at_ 5 turnB) (CV st ws rs kept z3 z5 z6 z7 z8 z9 z10) (fun _ _ => False) fun fl e => fl = .nx ∧ ∃ st' kp, e = CV st' ws rs kept z3 z5 z6 z7 z8 z9 (.val kp) ∧ KpV kp ∧ Stk (n + 1) st' := by
  have e : [D.non, .str sSave, .str sNote, .str [107, 101, 101, 112], .int 0, .lst [.str sSave]] = kpL := rfl
  simp [at_, turnB, bd55, forB, e]
  refine pick_kp (k + 9) n st hs (by omega) fun y zs hy hz => ?_
  simp [f10]
  exact ⟨zs, y, ⟨rfl, rfl⟩, hy, hz⟩
end
end K08

namespace K08
open PySem DI DI.Sh
def Z3 (rs : List D) (z : Sl) : Prop := z = .own (.ob 2 [(1, .fz (.tup rs))]) ∨ z = .val (mc rs)
section
variable (k : Nat) (st : Ho) (ws rs : List D) (kept : D) (z3 z5 z7 : Sl)
theorem t6 (s n mv kp : D) (hR : statesD (.tup rs) = true) (is : IxV s) (in_ : IxV n) (h3 : Z3 rs z3) :
    wS (callF fns (k + 11)) (at_ 6 turnB) (CV st ws rs kept z3 z5 (.val s) z7 (.val n) (.val mv) (.val kp)) (fun _ _ => False) fun fl e => fl = .nx ∧ e = CV st ws rs kept (.val (mc rs)) z5 (.val s) z7 (.val n) (.val mv) (.val kp) := by
  have w := items_right (k + 5) rs s n (rows_of hR) is in_
  rcases h3 with rfl | rfl <;> simp [at_, turnB, bd55, forB, w]
theorem t7 (s n mv kp : D) (h : RwsV rs) (hR : statesD (.tup rs) = true) (is : IxV s) (in_ : IxV n) (hm : MvV mv) (hk : KpV kp) :
    wS (callF fns (k + 11)) (at_ 7 turnB) (CV st ws rs kept (.val (mc rs)) z5 (.val s) z7 (.val n) (.val mv) (.val kp)) (fun _ _ => False) fun fl e => fl = .nx ∧ e = CV st ws rs kept (.val (mc rs)) z5 (.val s) z7 (.val n) (.val mv) (.val kp) := by
  have w := edits_right k rs s n mv kp h hR is in_ hm hk
  simp [at_, turnB, bd55, forB, w]
end
theorem w_onE {cf : CF} {a : S} {as : Ss} {env : Ev} {X : Xc → Ev → Prop} {P : Ev → Prop} {Q : Fl → Ev → Prop} (h : wS cf a env (fun _ _ => False) fun fl e => fl = .nx ∧ P e) (k : ∀ e, P e → wSs cf as e X Q) : wSs cf (.cons a as) env X Q := by
  rw [w_scons]
  refine wr_mono h ?_ fun _ _ h => h.elim
  rintro fl e ⟨rfl, hp⟩
  exact k e hp
/-- behind a turn -/
def TP (n : Nat) (w1 w2 w3 w4 : D) (rs : List D) (kept : D) (e : Ev) : Prop := ∃ st z3 z5 z6 z7 z8 z9 z10, e = CV st [w1, w2, w3, w4] rs kept z3 z5 z6 z7 z8 z9 z10 ∧ Z3 rs z3 ∧ freeS (some z5) = true ∧ freeS (some z6) = true ∧ freeS (some z7) = true ∧ freeS (some z8) = true ∧ freeS (some z9) = true ∧ freeS (some z10) = true ∧ Stk n st
theorem turn (k n : Nat) (w1 w2 w3 w4 : D) (hW : ∀ x ∈ [w1, w2, w3, w4], Wd x) (rs : List D) (kept : D) (h : RwsV rs) (hR : statesD (.tup rs) = true) (l1 : 1 ≤ rs.length) (l6 : rs.length ≤ 6) (hn : n ≤ 900) (e : Ev) (hp : TP n w1 w2 w3 w4 rs kept e) :
    wSs (callF fns (k + 11)) turnB e (fun _ _ => False) fun fl e => fl = .nx ∧ TP (n + 10) w1 w2 w3 w4 rs kept e := by
  obtain ⟨st, z3, z5, z6, z7, z8, z9, z10, rfl, h3, f5, f6, f7, f8, f9, f10, hs⟩ := hp
  have bT : turnB = .cons (at_ 0 turnB) (.cons (at_ 1 turnB) (.cons (at_ 2 turnB) (.cons (at_ 3 turnB) (.cons (at_ 4 turnB) (.cons (at_ 5 turnB) (.cons (at_ 6 turnB) (.cons (at_ 7 turnB) .nil))))))) := rfl
  rw [bT]
  refine w_onE (t0 k n st [w1, w2, w3, w4] rs kept z3 z5 z6 z7 z8 z9 z10 hs (by omega) l6 f6) ?_
  rintro e ⟨st0, s, rfl, is, hs0⟩
  refine w_onE (t1 k st0 [w1, w2, w3, w4] rs kept z3 z5 z7 z8 z9 z10 s hR is f7) ?_
  rintro e ⟨m, rfl, hm⟩
  refine w_onE (t2 k (n + 1) st0 [w1, w2, w3, w4] rs kept z3 z5 (.val s) z8 z9 z10 m hm hs0 (by omega) f8) ?_
  rintro e ⟨st2, nn, rfl, in_, hs2⟩
  refine w_onE (t3 k (n + 2) st2 rs kept z3 z5 (.val s) (.val (.int m)) (.val nn) z9 z10 w1 w2 w3 w4 hW l1 l6 hs2 (by omega) f9) ?_
  rintro e ⟨st3, a, b, c, d, e', rfl, hl, hs3⟩
  refine w_onE (t4 k (n + 7) st3 [w1, w2, w3, w4] rs kept z3 z5 (.val s) (.val (.int m)) (.val nn) z10 a b c d e' hl hs3 (by omega)) ?_
  rintro e ⟨st4, mv, rfl, hmv, hs4⟩
  refine w_onE (t5 k (n + 8) st4 [w1, w2, w3, w4] rs kept z3 z5 (.val s) (.val (.int m)) (.val nn) (.val mv) z10 hs4 (by omega) f10) ?_
  rintro e ⟨st5, kp, rfl, hkp, hs5⟩
  refine w_one (t6 k st5 [w1, w2, w3, w4] rs kept z3 z5 (.val (.int m)) s nn mv kp hR is in_ h3) ?_
  refine w_one (t7 k st5 [w1, w2, w3, w4] rs kept z5 (.val (.int m)) s nn mv kp h hR is in_ hmv hkp) ?_
  rw [w_snil]
  exact ⟨rfl, st5, _, z5, _, _, _, _, _, rfl, .inr rfl, f5, rfl, rfl, rfl, rfl, rfl, hs5.mono (by omega)⟩
end K08

namespace K08
open PySem DI DI.Sh
theorem cell_of (k : Nat) (st : Ho) (h : Stk 0 st) : wo (callF fns (k + 12) 55 (some st) []) fun p => p.1 = .ok (.val (.bl true)) := by
  refine w_fn lk55 ⟨rfl, by decide⟩ rfl ?_
  have b55 : fn55.body = .cons (at_ 0 bd55) (.cons (at_ 1 bd55) (.cons (at_ 2 bd55) (.cons (.for_ (.nm 5) (.rng1 (.con (.int 10))) turnB) (.cons (at_ 4 bd55) .nil)))) := rfl
  rw [b55]
  have k1 : wS (callF fns (k + 11)) (at_ 0 bd55) (start0 fn55 (some st) []) (fun _ _ => False) fun fl e => fl = .nx ∧ ∃ ws st', e = [Sl.io st', .val (.lst ws), .un, .un, .un, .un, .un, .un, .un, .un, .un] ∧ ws.length = 4 ∧ (∀ y ∈ ws, Wd y) ∧ Stk 100 st' := by
    simp [at_, bd55, start0, fn55]
    refine wo_mono (draws.words (k := k + 8) 0 4 st h (by omega) (by omega)) ?_
    rintro p ⟨ys, st1, rfl, hl, hW, hs1⟩
    simp
    exact ⟨ys, st1, ⟨rfl, rfl⟩, hl, hW, by simpa using hs1⟩
  refine w_onE k1 ?_
  rintro e ⟨ws, st1, rfl, hl, hW, hs1⟩
  match ws, hl with
  | [y1, y2, y3, y4], _ =>
  have k2 : wS (callF fns (k + 11)) (at_ 1 bd55) [Sl.io st1, .val (.lst [y1, y2, y3, y4]), .un, .un, .un, .un, .un, .un, .un, .un, .un] (fun _ _ => False) fun fl e => fl = .nx ∧ ∃ rs st', e = [Sl.io st', .val (.lst [y1, y2, y3, y4]), .val (.lst rs), .un, .un, .un, .un, .un, .un, .un, .un] ∧ 1 ≤ rs.length ∧ rs.length ≤ 6 ∧ (∀ r ∈ rs, DRw rs.length 6 r) ∧ Stk 400 st' := by
    have c1 : cutL [y1, y2, y3, y4] none (some 2) = [y1, y2] := rfl
    have c2 : cutL [y1, y2, y3, y4] (some 2) none = [y3, y4] := rfl
    simp [at_, bd55, c1, c2]
    refine wo_mono (draws.draw (k := k + 10) _ st1 6 hs1 (by omega) (by omega) (by omega)) ?_
    rintro p ⟨s, st2, rfl, s0, s1, hs2⟩
    simp
    refine wo_mono (draws.any_rows (k := k + 7) rfl rfl _ 6 st2 (1 + s) [y1, y2] [y3, y4] hs2 (by omega) (by omega) (by omega) (by omega) (fun x hx => hW x (by simp at hx ⊢; rcases hx with rfl | rfl <;> simp)) (fun x hx => hW x (by simp at hx ⊢; rcases hx with rfl | rfl <;> simp)) (by simp) (by simp)) ?_
    rintro p ⟨rs, st3, rfl, g1, g2, hs3⟩
    simp
    exact ⟨rs, st3, ⟨rfl, rfl⟩, by omega, by omega, by rw [g1]; exact g2, hs3.mono (by omega)⟩
  refine w_onE k2 ?_
  rintro e ⟨rs, st2, rfl, r1, r6, hD, hs2⟩
  have hR : RwsV rs := ⟨by omega, fun r hr => drw (hD r hr) (by omega)⟩
  have hv : statesD (.tup rs) = true := by
    have hl : 1 ≤ rs.length ∧ rs.length ≤ 6 := ⟨r1, r6⟩
    simp only [statesD, decide_eq_true hl, Bool.true_and, List.all_eq_true]
    intro r hr
    obtain ⟨ms, rfl, h4, hm⟩ := hD r hr
    simp only [stateD, decide_eq_true h4, Bool.true_and]
    rw [all_mS (by omega), List.all_eq_true]
    exact fun m hm' => (hm m hm').mv
  have hsr : okShow (.lst rs) = true := hR.gdl.show (by decide) (by decide)
  have hst := mach.states_of (k + 10) (.tup rs)
  have k3 : wS (callF fns (k + 11)) (at_ 2 bd55) [Sl.io st2, .val (.lst [y1, y2, y3, y4]), .val (.lst rs), .un, .un, .un, .un, .un, .un, .un, .un] (fun _ _ => False) fun fl e => fl = .nx ∧ e = CV st2 [y1, y2, y3, y4] rs (.str (toPy (.lst rs)).shown.cps.toList) (.own (.ob 2 [(1, .fz (.tup rs))])) .un .un .un .un .un .un := by
    have ho := of_eq (k + 4) rs (by omega) hR.pl3
    unfold ofR at ho
    rw [hv] at ho
    simp at ho
    simp [at_, bd55, ho, hsr]
  refine w_one k3 ?_
  have k4 : wS (callF fns (k + 11)) (.for_ (.nm 5) (.rng1 (.con (.int 10))) turnB) (CV st2 [y1, y2, y3, y4] rs (.str (toPy (.lst rs)).shown.cps.toList) (.own (.ob 2 [(1, .fz (.tup rs))])) .un .un .un .un .un .un) (fun _ _ => False) fun fl e => fl = .nx ∧ TP 500 y1 y2 y3 y4 rs (.str (toPy (.lst rs)).shown.cps.toList) e := by
    simp
    refine ⟨by decide, ?_⟩
    generalize D.str (toPy (.lst rs)).shown.cps.toList = kept
    refine for_inv (fun ts e => TP (500 - 10 * ts.length) y1 y2 y3 y4 rs kept e ∧ ts.length ≤ 10) ?_ ?_ _ _ ⟨⟨st2, _, .un, .un, .un, .un, .un, .un, rfl, .inl rfl, rfl, rfl, rfl, rfl, rfl, rfl, hs2.mono (by simp [rng])⟩, by simp [rng]⟩
    · rintro d ts env ⟨⟨st', z3, z5, z6, z7, z8, z9, z10, rfl, h3, f5, f6, f7, f8, f9, f10, hS⟩, hj⟩
      simp only [List.length_cons] at hj hS
      simp [f5]
      refine wr_mono (turn k (500 - 10 * (ts.length + 1)) y1 y2 y3 y4 hW rs kept hR hv r1 r6 (by omega) _ ⟨st', z3, .val d, z6, z7, z8, z9, z10, rfl, h3, rfl, f6, f7, f8, f9, f10, hS⟩) ?_ fun _ _ h => h.elim
      rintro fl e ⟨rfl, hT⟩
      refine ⟨?_, by omega⟩
      rw [show 500 - 10 * ts.length = 500 - 10 * (ts.length + 1) + 10 by omega]
      exact hT
    · rintro env ⟨hT, _⟩
      exact ⟨rfl, by simpa using hT⟩
  refine w_onE k4 ?_
  rintro e ⟨st3, z3, z5, z6, z7, z8, z9, z10, rfl, h3, _, _, _, _, _, _, hS⟩
  have ha := acts_right (k + 1) 500 st3 y1 y2 y3 y4 hS (by omega) (hW y1 (by simp))
  rw [w_scons]
  have k5 : wS (callF fns (k + 11)) (at_ 4 bd55) (CV st3 [y1, y2, y3, y4] rs (.str (toPy (.lst rs)).shown.cps.toList) z3 z5 z6 z7 z8 z9 z10) (fun _ _ => False) fun fl e => fl = .rt (.val (.bl true)) ∧ ∃ z, e[0]? = some (.io z) := by
    have fin : ∀ p : Except Xc R × Option Ho, (p.1 = .ok (.val (.bl true)) ∧ ∃ st', p.2 = some st') → ∃ st', p = (.ok (.val (.bl true)), some st') := fun p ⟨h1, st', h2⟩ => ⟨st', Prod.ext h1 h2⟩
    rcases h3 with rfl | rfl
    · simp [at_, bd55, hst, hsr]
      refine wo_mono ha fun p hp => ?_
      obtain ⟨st', rfl⟩ := fin p hp
      simp
    · simp [at_, bd55, hst, hsr]
      refine wo_mono ha fun p hp => ?_
      obtain ⟨st', rfl⟩ := fin p hp
      simp
  refine wr_mono k5 ?_ fun _ _ h => h.elim
  rintro fl e ⟨rfl, z, hz⟩
  simp [thenS, fn55, outOf, hz]
def depth : Nat := 14
theorem right : ∀ ns : List Int, ns.length ≤ 63 → callF tab.fns depth 56 none [.scr (ns.map .int)] = some (.ok (.val (.bl true)), none) := by
  intro ns hn
  show callF fns 14 56 none [.scr (ns.map .int)] = _
  refine get_of (w_fn lk56 ⟨rfl, by decide⟩ rfl ?_)
  simp [fn56, bd56, start0]
  generalize hN : (if (1 : Int) < (if (ns.length : Int) < 8 then (ns.length : Int) else 8) then (if (ns.length : Int) < 8 then (ns.length : Int) else 8) else 1) = N
  have n1 : 0 ≤ N ∧ N ≤ 10 := by
    subst hN
    repeat' split
    all_goals omega
  refine ⟨inW_small n1.1 (by omega), ?_⟩
  refine for_inv (fun ds e => ∃ z, e = [Sl.val (.scr (ns.map .int)), z] ∧ freeS (some z) = true ∧ ∀ d ∈ ds, ∃ i : Nat, d = .int i ∧ (i : Int) < N) ?_ ?_ _ _ ⟨.un, rfl, rfl, fun d hd => mem_rng0 hd⟩
  · rintro d ds env ⟨z, rfl, hz, hd⟩
    obtain ⟨i, rfl, hi⟩ := hd d (by simp)
    simp [hz]
    show wSs _ _ _ _ _
    simp
    refine wo_mono (stock_of (k := 12) rfl ns i (by omega)) ?_
    rintro p ⟨xs, rfl, hs⟩
    simp
    refine wo_mono (cell_of 1 xs hs) ?_
    rintro ⟨p1, p2⟩ hp
    simp at hp
    subst hp
    simp
    exact fun d' hd' => hd d' (List.mem_cons_of_mem _ hd')
  · rintro env ⟨z, rfl, hz, hd⟩
    simp
end K08

open PySem PySem.W PySem.Calls PyProof.Rows
theorem PySem.Challenge.cw_fallsback_k08_errors_of_machines_holds : PySem.Challenge.rw_fallsback_k08_errors_of_machines.Holds := by
  w_on; o_law
  refine HandSHeadRun.head_any (r := OpenLaw.row PySem.Challenge.rw_fallsback_k08_errors_of_machines) (q := view (OpenLaw.row PySem.Challenge.rw_fallsback_k08_errors_of_machines).prog [45]) (H := K08.hk) (ob := K08.ob) (M := 3000) (loose := K08.loose) (d := HandSHeadRun.topDef (OpenLaw.row PySem.Challenge.rw_fallsback_k08_errors_of_machines).prog 45) (kwd := []) K08.ob_eq
    (by kernel_rfl) (fun s => by kernel_rfl) K08.run (by kernel_rfl) (by kernel_rfl) (by kernel_rfl) (by rfl) (by first | assumption | decide +kernel) (by decide +kernel) ⟨rfl, rfl, rfl, rfl, rfl, by decide +kernel⟩ ?hw ?hc
  case hw => w_witness2
  case hc => exact DI.walk_I (l := PySem.Challenge.rw_fallsback_k08_errors_of_machines) (n := 63) (k := K08.depth) (f := 56) rfl (by decide) (by kernel_rfl) ⟨rfl, by decide, by decide⟩ (by kernel_rfl) ⟨rfl, by kernel_rfl⟩ rfl K08.bodied K08.right
