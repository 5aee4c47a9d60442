import PyProof.Rows.All
import Wide.All
import OpenK.AllK
import Wide.FinOn
import HandS.ForMost
import HandS.IsInst
import HandS.CallLocal
import HandS.Wide
import HandS.Style
import HandS.RaiseMore
import PySem.Challenge.RW_fallsback_k02_whole_parts_of_words
set_option Elab.async false
set_option linter.all false
set_option maxRecDepth 100000
set_option maxHeartbeats 4000000
set_option exponentiation.threshold 3000
namespace DI
open PySem L2

/-! ### plain data -/
inductive D where
  | non | bl (b : Bool) | int (i : Int) | str (cs : List Nat)
  | tup (xs : List D) | lst (xs : List D) | scr (xs : List D) | dct (kvs : List (D × D)) | fn (f : Nat)
deriving Inhabited

def sOf (cs : List Nat) : Str := ⟨cs.toArray⟩
theorem sOf_len (cs : List Nat) : (sOf cs).length = cs.length := by simp [sOf, Str.length]
theorem sOf_list (cs : List Nat) : (sOf cs).cps.toList = cs := by simp [sOf]
theorem sOf_of (x : Str) : sOf x.cps.toList = x := by simp [sOf]
theorem sOf_app (a b : List Nat) : sOf a ++ sOf b = sOf (a ++ b) := by
  show Str.append (sOf a) (sOf b) = sOf (a ++ b)
  simp [sOf, Str.append]
theorem sOf_inj {a b : List Nat} (h : sOf a = sOf b) : a = b := by
  have := congrArg (fun x : Str => x.cps.toList) h
  simpa [sOf] using this

mutual
def toPy : D → PyData
  | .non => .none
  | .bl b => .bool b
  | .int i => .int i
  | .str cs => .str (sOf cs)
  | .tup xs => .tuple (toPys xs)
  | .lst xs => .list (toPys xs)
  | .scr xs => .list (toPys xs)
  | .dct kvs => .dict (toPyk kvs)
  | .fn _ => .none
def toPys : List D → List PyData
  | [] => []
  | x :: xs => toPy x :: toPys xs
def toPyk : List (D × D) → List (PyData × PyData)
  | [] => []
  | (k, v) :: xs => (toPy k, toPy v) :: toPyk xs
end
/- data without a def, a dict -/
mutual
def plain : D → Bool
  | .tup xs => plains xs
  | .lst xs => plains xs
  | .scr _ => false
  | .dct _ => false
  | .fn _ => false
  | _ => true
def plains : List D → Bool
  | [] => true
  | x :: xs => plain x && plains xs
end
def flat : D → Bool
  | .non => true
  | .bl _ => true
  | .int _ => true
  | .str _ => true
  | _ => false
def vOf : D → V
  | .non => .non
  | .bl b => .bl b
  | .int i => .int i
  | .str cs => .str (sOf cs)
  | _ => .non
def tyD : D → Option String
  | .non => some "NoneType"
  | .bl _ => some "bool"
  | .int _ => some "int"
  | .str _ => some "str"
  | .tup _ => some "tuple"
  | .lst _ => some "list"
  | .dct _ => some "dict"
  | _ => none

/-- what an expression hands back: a value, or a list that nobody else has -/
inductive R where
  | val (d : D) | new (xs : List D)
def R.d : R → D
  | .val d => d
  | .new xs => .lst xs
/-- a local name: nothing, a value, a list of its own, the caller's list -/
inductive Sl where
  | un | val (d : D) | own (xs : List D) | io (xs : List D)
abbrev Ev := List Sl

inductive Op where
  | add | sub | mul | fdiv | mod | pow | neg
  | eq | ne | lt | le | gt | ge | isin | notin | isn | notn | isb
  | item | cut (lo hi : Bool) | rev
  | tup | list | len | all | int | abs | max | min | repr | listof | join | upper | isi (t : String) | dict

def big : Nat := 1000000
def bl (b : Bool) : Option R := some (.val (.bl b))
def num (i : Int) : Option R := some (.val (.int i))
def cutL {α : Type} (xs : List α) (lo hi : Option Int) : List α := (xs.drop (HT.sIx xs.length 0 lo)).take (HT.sIx xs.length xs.length hi - HT.sIx xs.length 0 lo)
def bools : List D → Option (List Bool)
  | [] => some []
  | .bl b :: xs => (bools xs).map (b :: ·)
  | _ :: _ => none
def texts : List D → Option (List (List Nat))
  | [] => some []
  | .str b :: xs => (texts xs).map (b :: ·)
  | _ :: _ => none
def keyD : Key → D
  | .inl i => .int i
  | .inr x => .str x.cps.toList
def pairUp : List D → Option (List (Key × D))
  | [] => some []
  | .int i :: v :: r => (pairUp r).map ((.inl i, v) :: ·)
  | .str cs :: v :: r => (pairUp r).map ((.inr (sOf cs), v) :: ·)
  | _ => none
def okEq (d : D) : Bool := plain d && SeqAt.shaped (toPy d)
def okShow (d : D) : Bool := plain d && (toPy d).showable && decide ((toPy d).shown.length ≤ sizeLine) && decide ((toPy d).depth ≤ 60)

def dAdd : List D → Option R
  | [.int a, .int b] => num (a + b)
  | [.str a, .str b] => if a.length + b.length ≤ big then some (.val (.str (a ++ b))) else none
  | [.lst a, .lst b] => if a.length + b.length ≤ big then some (.new (a ++ b)) else none
  | _ => none
def dSub : List D → Option R
  | [.int a, .int b] => num (a - b)
  | _ => none
def dMul : List D → Option R
  | [.int a, .int b] => if a.natAbs.log2 + b.natAbs.log2 < 1000000 then num (a * b) else none
  | _ => none
def dFdiv : List D → Option R
  | [.int a, .int b] => if 0 < b ∧ b < 1073741824 then num (a / b) else none
  | _ => none
def dMod : List D → Option R
  | [.int a, .int b] => if 0 < b then num (a % b) else none
  | _ => none
def dPow : List D → Option R
  | [.int a, .int b] => if 0 ≤ b ∧ b ≤ 1000 ∧ a.natAbs < 2 ^ 1000 then num (a ^ b.toNat) else none
  | _ => none
def dNeg : List D → Option R
  | [.int a] => num (-a)
  | _ => none
def dEq : List D → Option R
  | [.str a, .str b] => bl (decide (a = b))
  | [a, b] => if okEq a && okEq b then bl (PyData.eqv (toPy a) (toPy b)) else none
  | _ => none
def dNe : List D → Option R
  | [.str a, .str b] => bl (!decide (a = b))
  | [a, b] => if okEq a && okEq b then bl (!PyData.eqv (toPy a) (toPy b)) else none
  | _ => none
def dLt : List D → Option R
  | [.int a, .int b] => bl (decide (a < b))
  | [.str a, .str b] => bl (decide (a < b))
  | _ => none
def dLe : List D → Option R
  | [.int a, .int b] => bl (decide (a ≤ b))
  | [.str a, .str b] => bl (!decide (b < a))
  | _ => none
def dGt : List D → Option R
  | [.int a, .int b] => bl (decide (b < a))
  | _ => none
def dGe : List D → Option R
  | [.int a, .int b] => bl (decide (b ≤ a))
  | _ => none
def dIn (neg : Bool) : List D → Option R
  | [.str [c], .str b] => bl (if neg then !decide (c ∈ b) else decide (c ∈ b))
  | [a, .tup b] => if flat a && b.all flat then bl (if neg then !inV (vOf a) (b.map vOf) else inV (vOf a) (b.map vOf)) else none
  | [a, .lst b] => if flat a && b.all flat then bl (if neg then !inV (vOf a) (b.map vOf) else inV (vOf a) (b.map vOf)) else none
  | _ => none
def isNon : D → Bool
  | .non => true
  | _ => false
def dIsn (neg : Bool) : List D → Option R
  | [a, .non] => bl (if neg then !isNon a else isNon a)
  | _ => none
def dIsb : List D → Option R
  | [.bl a, .bl b] => bl (decide (a = b))
  | _ => none
def dItem : List D → Option R
  | [.lst xs, .int i] => (atI xs i).map .val
  | [.scr xs, .int i] => (atI xs i).map .val
  | [.tup xs, .int i] => (atI xs i).map .val
  | [.str cs, .int i] => if cs.length ≤ big then (atI cs i).map fun c => .val (.str [c]) else none
  | _ => none
def bound : Bool → List D → Option (Option Int × List D)
  | false, ds => some (none, ds)
  | true, .int i :: ds => some (some i, ds)
  | true, _ => none
def cutR (i j : Option Int) : D → Option R
  | .str cs => if cs.length ≤ big then some (.val (.str (cutL cs i j))) else none
  | .lst xs => some (.new (cutL xs i j))
  | _ => none
def dCut (lo hi : Bool) : List D → Option R
  | x :: ds => match bound lo ds with
    | some (i, es) => match bound hi es with
      | some (j, []) => cutR i j x
      | _ => none
    | none => none
  | _ => none
def dRev : List D → Option R
  | [.str cs] => if cs.length ≤ big then some (.val (.str cs.reverse)) else none
  | [.lst xs] => some (.new xs.reverse)
  | _ => none
def dLen : List D → Option R
  | [.str cs] => if cs.length ≤ big then num cs.length else none
  | [.lst xs] => num xs.length
  | [.scr xs] => num xs.length
  | [.tup xs] => num xs.length
  | _ => none
def dAll : List D → Option R
  | [.lst xs] => match bools xs with
    | some bs => bl (bs.all id)
    | none => none
  | _ => none
def dInt : List D → Option R
  | [.int i] => num i
  | [.bl b] => num (if b then 1 else 0)
  | _ => none
def dAbs : List D → Option R
  | [.int i] => num (if i < 0 then -i else i)
  | _ => none
def dMax : List D → Option R
  | [.int i, .int j] => num (if j > i then j else i)
  | _ => none
def dMin : List D → Option R
  | [.int i, .int j] => num (if j < i then j else i)
  | _ => none
def dRepr : List D → Option R
  | [d] => if okShow d then some (.val (.str (toPy d).shown.cps.toList)) else none
  | _ => none
def dListof : List D → Option R
  | [.lst xs] => some (.new xs)
  | [.tup xs] => some (.new xs)
  | [.str cs] => if cs.length ≤ big then some (.new (cs.map fun c => .str [c])) else none
  | _ => none
def dJoin : List D → Option R
  | [.str cs, .lst xs] => match texts xs with
    | some ts => if (ts.map (·.length)).sum + ts.length * cs.length ≤ big then some (.val (.str (Txt.join (sOf cs) (ts.map sOf)).cps.toList)) else none
    | none => none
  | _ => none
def dUpper : List D → Option R
  | [.str cs] => if cs.length ≤ big then some (.val (.str (Txt.upper (sOf cs)).cps.toList)) else none
  | _ => none
def dIsi (t : String) : List D → Option R
  | [d] => match tyD d with
    | some a => match kitB a t with
      | some b => bl b
      | none => none
    | none => none
  | _ => none
def dDict (xs : List D) : Option R := match pairUp xs with
  | some kvs => if kvs.length ≤ 15 ∧ (kvs.map (·.1)).Nodup then some (.val (.dct (kvs.map fun p => (keyD p.1, p.2)))) else none
  | none => none
def opD : Op → List D → Option R
  | .add, ds => dAdd ds
  | .sub, ds => dSub ds
  | .mul, ds => dMul ds
  | .fdiv, ds => dFdiv ds
  | .mod, ds => dMod ds
  | .pow, ds => dPow ds
  | .neg, ds => dNeg ds
  | .eq, ds => dEq ds
  | .ne, ds => dNe ds
  | .lt, ds => dLt ds
  | .le, ds => dLe ds
  | .gt, ds => dGt ds
  | .ge, ds => dGe ds
  | .isin, ds => dIn false ds
  | .notin, ds => dIn true ds
  | .isn, ds => dIsn false ds
  | .notn, ds => dIsn true ds
  | .isb, ds => dIsb ds
  | .item, ds => dItem ds
  | .cut lo hi, ds => dCut lo hi ds
  | .rev, ds => dRev ds
  | .tup, xs => if xs.length ≤ big then some (.val (.tup xs)) else none
  | .list, xs => if xs.length ≤ big then some (.new xs) else none
  | .len, ds => dLen ds
  | .all, ds => dAll ds
  | .int, ds => dInt ds
  | .abs, ds => dAbs ds
  | .max, ds => dMax ds
  | .min, ds => dMin ds
  | .repr, ds => dRepr ds
  | .listof, ds => dListof ds
  | .join, ds => dJoin ds
  | .upper, ds => dUpper ds
  | .isi t, ds => dIsi t ds
  | .dict, ds => dDict ds

/-! ### expressions and statements, names by their places -/
mutual
inductive I where
  | con (d : D) | var (i : Nat) | op (o : Op) (as : Is)
  | call (f : Nat) (as : Is) | callio (f s : Nat) (as : Is) | callfr (f : Nat) (a : I) (as : Is) | callv (s : Nat) (as : Is)
  | ife (c : T) (a b : I) | andb (a b : I) | orb (a b : I) | notb (a : I)
  | item1 (s : Nat) (a : I) | len1 (s : Nat) | pop1 (s : Nat) (a : I) | chain (o p : Op) (a b c : I)
  | lc (s : Nat) (it : It) (c : T) (e : I)
inductive Is where
  | nil | cons (a : I) (as : Is)
inductive T where
  | yes | val (a : I) | not (t : T) | and (a b : T) | or (a b : T) | ife (c a b : T)
inductive It where
  | seq (a : I) | rng1 (a : I) | rng2 (a b : I)
end
mutual
inductive S where
  | ret (a : I) | set (s : Nat) (a : I) | par (ss : List Nat) (as : Is) | expr (a : I)
  | put1 (s : Nat) (ix a : I) | app1 (s : Nat) (a : I)
  | ifs (c : T) (a b : Ss) | for_ (s : Nat) (it : It) (b : Ss) | pass | brk | cont
inductive Ss where
  | nil | cons (a : S) (as : Ss)
end

abbrev CF := Nat → Option (List D) → List D → Option (R × Option (List D))

def rdV (env : Ev) (i : Nat) : Option (D × Ev) :=
  match env[i]? with
  | some (.val d) => some (d, env)
  | some (.own xs) => some (.lst xs, env.set i (.val (.lst xs)))
  | _ => none
def held (env : Ev) (i : Nat) : Option (List D) :=
  match env[i]? with
  | some (.own xs) => some xs
  | some (.io xs) => some xs
  | _ => none
def hold (env : Ev) (i : Nat) (xs : List D) : Ev :=
  match env[i]? with
  | some (.io _) => env.set i (.io xs)
  | _ => env.set i (.own xs)
/-- a name's list or value, looked at and left -/
def look1 (env : Ev) (i : Nat) : Option D :=
  match env[i]? with
  | some (.val d) => some d
  | some (.own xs) => some (.lst xs)
  | some (.io xs) => some (.lst xs)
  | _ => none
def bound1 (env : Ev) (i : Nat) : Bool := (look1 env i).isSome
def seqOf : D → Option (List D)
  | .lst xs => some xs
  | .tup xs => some xs
  | .scr xs => some xs
  | .str cs => some (cs.map fun c => .str [c])
  | _ => none
def truth : D → Option Bool
  | .non => some false
  | .bl b => some b
  | .int i => some (i != 0)
  | .str cs => if cs.length ≤ big then some ((cs.length : Int) != 0) else none
  | .lst xs => some (!xs.isEmpty)
  | .tup xs => some (!xs.isEmpty)
  | _ => none
def rng (lo hi : Int) : List D := (List.range (hi - lo).toNat).map fun i => .int (lo + (i : Nat))
def inW (i : Int) : Bool := decide (-1000000000 ≤ i ∧ i ≤ 1000000000)
def lcD (f : D → Ev → Option (Option D × Ev)) : List D → List D → Ev → Option (List D × Ev)
  | [], acc, env => some (acc, env)
  | d :: ds, acc, env => match f d env with
    | some (some x, env1) => if acc.length < big then lcD f ds (acc ++ [x]) env1 else none
    | some (none, env1) => lcD f ds acc env1
    | none => none
/-- a name may be bound anew -/
def free (env : Ev) (s : Nat) : Bool :=
  match env[s]? with
  | some (.io _) => false
  | some _ => true
  | none => false
def asSl : R → Sl
  | .val d => .val d
  | .new xs => .own xs

mutual
def eI (cf : CF) : I → Ev → Option (R × Ev)
  | .con d, env => some (.val d, env)
  | .var i, env => (rdV env i).map fun (d, e) => (.val d, e)
  | .op o as, env => match eIs cf as env with
    | some (ds, e1) => (opD o ds).map fun r => (r, e1)
    | none => none
  | .call f as, env => match eIs cf as env with
    | some (ds, e1) => (cf f none ds).map fun (r, _) => (r, e1)
    | none => none
  | .callio f s as, env => if (held env s).isSome then match eIs cf as env with
      | some (ds, e1) => match held e1 s with
        | some xs => match cf f (some xs) ds with
          | some (r, some ys) => some (r, hold e1 s ys)
          | _ => none
        | none => none
      | none => none
    else none
  | .callfr f a as, env => match eI cf a env with
    | some (.new xs, e1) => match eIs cf as e1 with
      | some (ds, e2) => (cf f (some xs) ds).map fun (r, _) => (r, e2)
      | none => none
    | _ => none
  | .callv s as, env => match env[s]? with
    | some (.val (.fn f)) => match eIs cf as env with
      | some (ds, e1) => (cf f none ds).map fun (r, _) => (r, e1)
      | none => none
    | _ => none
  | .ife c a b, env => match eT cf c env with
    | some (true, e1) => eI cf a e1
    | some (false, e1) => eI cf b e1
    | none => none
  | .andb a b, env => match eI cf a env with
    | some (.val (.bl true), e1) => eI cf b e1
    | some (.val (.bl false), e1) => some (.val (.bl false), e1)
    | _ => none
  | .orb a b, env => match eI cf a env with
    | some (.val (.bl false), e1) => eI cf b e1
    | some (.val (.bl true), e1) => some (.val (.bl true), e1)
    | _ => none
  | .notb a, env => match eI cf a env with
    | some (.val (.bl b), e1) => some (.val (.bl (!b)), e1)
    | _ => none
  | .item1 s a, env => if bound1 env s then match eI cf a env with
      | some (r, e1) => match look1 e1 s with
        | some d => (opD .item [d, r.d]).map fun z => (z, e1)
        | none => none
      | none => none
    else none
  | .len1 s, env => match look1 env s with
    | some d => (opD .len [d]).map fun z => (z, env)
    | none => none
  | .chain o p a b c, env => match eI cf a env with
    | some (x, e1) => match eI cf b e1 with
      | some (y, e2) => match opD o [x.d, y.d] with
        | some (.val (.bl true)) => match eI cf c e2 with
          | some (z, e3) => (opD p [y.d, z.d]).map fun r => (r, e3)
          | none => none
        | some (.val (.bl false)) => some (.val (.bl false), e2)
        | _ => none
      | none => none
    | none => none
  | .pop1 s a, env => if (held env s).isSome then match eI cf a env with
      | some (.val (.int i), e1) => match held e1 s with
        | some xs => if 0 ≤ i ∧ i < xs.length ∧ xs.length ≤ big then (xs[i.toNat]?).map fun d => (.val d, hold e1 s (xs.eraseIdx i.toNat)) else none
        | none => none
      | _ => none
    else none
  | .lc s it c e, env => match eIt cf it env with
    | some (ds, e1) => match e1[s]? with
      | some (.own _) => none
      | some (.io _) => none
      | none => none
      | some old => match lcD (fun d en => match eT cf c (en.set s (.val d)) with
          | some (true, e2) => (eI cf e e2).map fun (r, e3) => (some r.d, e3)
          | some (false, e2) => some (none, e2)
          | none => none) ds [] e1 with
        | some (xs, e2) => some (.new xs, e2.set s old)
        | none => none
    | none => none
def eIs (cf : CF) : Is → Ev → Option (List D × Ev)
  | .nil, env => some ([], env)
  | .cons a as, env => match eI cf a env with
    | some (r, e1) => (eIs cf as e1).map fun (ds, e2) => (r.d :: ds, e2)
    | none => none
def eT (cf : CF) : T → Ev → Option (Bool × Ev)
  | .yes, env => some (true, env)
  | .val a, env => match eI cf a env with
    | some (r, e1) => (truth r.d).map fun b => (b, e1)
    | none => none
  | .not t, env => (eT cf t env).map fun (b, e1) => (!b, e1)
  | .and a b, env => match eT cf a env with
    | some (true, e1) => eT cf b e1
    | some (false, e1) => some (false, e1)
    | none => none
  | .or a b, env => match eT cf a env with
    | some (false, e1) => eT cf b e1
    | some (true, e1) => some (true, e1)
    | none => none
  | .ife c a b, env => match eT cf c env with
    | some (true, e1) => eT cf a e1
    | some (false, e1) => eT cf b e1
    | none => none
def eIt (cf : CF) : It → Ev → Option (List D × Ev)
  | .seq a, env => match eI cf a env with
    | some (r, e1) => (seqOf r.d).map fun ds => (ds, e1)
    | none => none
  | .rng1 a, env => match eI cf a env with
    | some (.val (.int i), e1) => if inW i then some (rng 0 i, e1) else none
    | _ => none
  | .rng2 a b, env => match eI cf a env with
    | some (.val (.int i), e1) => match eI cf b e1 with
      | some (.val (.int j), e2) => if inW i && inW j then some (rng i j, e2) else none
      | _ => none
    | _ => none
end

inductive Fl where
  | nx | rt (r : R) | bk | ct
def forD (body : Ev → Option (Fl × Ev)) (s : Nat) : List D → Ev → Option (Fl × Ev)
  | [], env => some (.nx, env)
  | d :: ds, env => if free env s then match body (env.set s (.val d)) with
      | some (.nx, e1) => forD body s ds e1
      | some (.ct, e1) => forD body s ds e1
      | some (.bk, e1) => some (.nx, e1)
      | some (.rt r, e1) => some (.rt r, e1)
      | none => none
    else none
def setAll : List Nat → List D → Ev → Option Ev
  | [], [], env => some env
  | s :: ss, d :: ds, env => if free env s then setAll ss ds (env.set s (.val d)) else none
  | _, _, _ => none
/-- the values of a, b = x, y: what is new is the name's own -/
def eRs (cf : CF) : Is → Ev → Option (List R × Ev)
  | .nil, env => some ([], env)
  | .cons a as, env => match eI cf a env with
    | some (r, e1) => (eRs cf as e1).map fun (ds, e2) => (r :: ds, e2)
    | none => none
def setRs : List Nat → List R → Ev → Option Ev
  | [], [], env => some env
  | s :: ss, d :: ds, env => if free env s then setRs ss ds (env.set s (asSl d)) else none
  | _, _, _ => none
mutual
def eS (cf : CF) : S → Ev → Option (Fl × Ev)
  | .ret a, env => (eI cf a env).map fun (r, e1) => (.rt r, e1)
  | .set s a, env => match eI cf a env with
    | some (r, e1) => if free e1 s then some (.nx, e1.set s (asSl r)) else none
    | none => none
  | .par ss as, env => match eRs cf as env with
    | some (rs, e1) => if ss.Nodup then (setRs ss rs e1).map fun e2 => (.nx, e2) else none
    | none => none
  | .expr a, env => (eI cf a env).map fun (_, e1) => (.nx, e1)
  | .put1 s ix a, env => match eI cf a env with
    | some (r, e1) => if (held e1 s).isSome then match eI cf ix e1 with
        | some (.val (.int i), e2) => match held e2 s with
          | some xs => (ixN xs.length i).map fun j => (.nx, hold e2 s (xs.set j r.d))
          | none => none
        | _ => none
      else none
    | none => none
  | .app1 s a, env => if (held env s).isSome then match eI cf a env with
      | some (r, e1) => match held e1 s with
        | some xs => if xs.length < big then some (.nx, hold e1 s (xs ++ [r.d])) else none
        | none => none
      | none => none
    else none
  | .ifs c a b, env => match eT cf c env with
    | some (true, e1) => eSs cf a e1
    | some (false, e1) => eSs cf b e1
    | none => none
  | .for_ s it b, env => match eIt cf it env with
    | some (ds, e1) => forD (fun e => eSs cf b e) s ds e1
    | none => none
  | .pass, env => some (.nx, env)
  | .brk, env => some (.bk, env)
  | .cont, env => some (.ct, env)
def eSs (cf : CF) : Ss → Ev → Option (Fl × Ev)
  | .nil, env => some (.nx, env)
  | .cons a as, env => match eS cf a env with
    | some (.nx, e1) => eSs cf as e1
    | some (f, e1) => some (f, e1)
    | none => none
end

/-- a def of the text: by-reference first parameter or not, its parameters, its names, its body -/
structure Fn where
  io : Bool
  np : Nat
  ns : Nat
  body : Ss
def start0 (fn : Fn) (io : Option (List D)) (ds : List D) : Ev :=
  (match io with | some xs => [Sl.io xs] | none => []) ++ ds.map Sl.val ++ List.replicate (fn.ns - fn.np) .un
def ioN : Bool → Nat
  | true => 1
  | false => 0
def outOf (io : Bool) (env : Ev) : Option (Option (List D)) :=
  if io then match (env[0]? : Option Sl) with
    | some (.io xs) => some (some xs)
    | _ => none
  else some none
def callF (fns : List Fn) : Nat → CF
  | 0 => fun _ _ _ => none
  | k + 1 => fun f io ds => match fns[f]? with
    | none => none
    | some fn => if fn.io = io.isSome ∧ fn.np = ds.length + ioN fn.io ∧ fn.np ≤ fn.ns then
        match eSs (callF fns k) fn.body (start0 fn io ds) with
        | some (.rt r, env) => (outOf fn.io env).map fun o => (r, o)
        | some (.nx, env) => (outOf fn.io env).map fun o => (.val .non, o)
        | _ => none
      else none
end DI

namespace DI
open PySem L2

section
variable (K : PySem.W.Frag) (fa : Nat → Addr)
mutual
inductive Rep (F : Hp) : V → D → Prop
  | non : Rep F .non .non
  | bl (b : Bool) : Rep F (.bl b) (.bl b)
  | int (i : Int) : Rep F (.int i) (.int i)
  | str (cs : List Nat) : Rep F (.str (sOf cs)) (.str cs)
  | tup {a : Addr} {xs : List V} {ds : List D} : SqT K F a xs → RepL F xs ds → Rep F (.ref a) (.tup ds)
  | lst {a : Addr} {xs : List V} {ds : List D} : F a = some (.lst xs) → RepL F xs ds → Rep F (.ref a) (.lst ds)
  | scr {a : Addr} {xs : List V} {ds : List D} : SqL K F a xs → RepL F xs ds → Rep F (.ref a) (.scr ds)
  | dct {a : Addr} {kvs : List (Key × V)} {ds : List (D × D)} : F a = some (.dK kvs) → RepK F kvs ds → Rep F (.ref a) (.dct ds)
  | fn (f : Nat) : Rep F (.ref (fa f)) (.fn f)
inductive RepL (F : Hp) : List V → List D → Prop
  | nil : RepL F [] []
  | cons {v : V} {d : D} {vs : List V} {ds : List D} : Rep F v d → RepL F vs ds → RepL F (v :: vs) (d :: ds)
inductive RepK (F : Hp) : List (Key × V) → List (D × D) → Prop
  | nil : RepK F [] []
  | cons {k : Key} {v : V} {d : D} {vs : List (Key × V)} {ds : List (D × D)} : Rep F v d → RepK F vs ds → RepK F ((k, v) :: vs) ((keyD k, d) :: ds)
end
end

section
variable {K : PySem.W.Frag} {fa : Nat → Addr}
theorem sqT_mono {F G : Hp} (s : Same F G) {a : Addr} {xs : List V} (h : SqT K F a xs) : SqT K G a xs := by
  rcases h with (h | ⟨o, h⟩) | h
  · exact .inl (.inl (s _ _ h))
  · exact .inl (.inr ⟨o, s _ _ h⟩)
  · exact .inr h
mutual
theorem Rep.mono {F G : Hp} (s : Same F G) : ∀ {v : V} {d : D}, Rep K fa F v d → Rep K fa G v d
  | _, _, .non => .non
  | _, _, .bl b => .bl b
  | _, _, .int i => .int i
  | _, _, .str cs => .str cs
  | _, _, .tup h r => .tup (sqT_mono s h) (RepL.mono s r)
  | _, _, .lst h r => .lst (s _ _ h) (RepL.mono s r)
  | _, _, .scr h r => .scr (s.seq h) (RepL.mono s r)
  | _, _, .dct h r => .dct (s _ _ h) (RepK.mono s r)
  | _, _, .fn f => .fn f
theorem RepL.mono {F G : Hp} (s : Same F G) : ∀ {v : List V} {d : List D}, RepL K fa F v d → RepL K fa G v d
  | _, _, .nil => .nil
  | _, _, .cons h r => .cons (Rep.mono s h) (RepL.mono s r)
theorem RepK.mono {F G : Hp} (s : Same F G) : ∀ {v : List (Key × V)} {d : List (D × D)}, RepK K fa F v d → RepK K fa G v d
  | _, _, .nil => .nil
  | _, _, .cons h r => .cons (Rep.mono s h) (RepK.mono s r)
end
theorem RepL.length {F : Hp} : ∀ {vs : List V} {ds : List D}, RepL K fa F vs ds → vs.length = ds.length
  | _, _, .nil => rfl
  | _, _, .cons _ r => by simp [RepL.length r]
theorem RepL.get {F : Hp} : ∀ {vs : List V} {ds : List D} {i : Nat} {d : D}, RepL K fa F vs ds → ds[i]? = some d → ∃ v, vs[i]? = some v ∧ Rep K fa F v d
  | _, _, _, _, .nil, e => by simp at e
  | _, _, 0, _, .cons r _, e => by simp at e; subst e; exact ⟨_, rfl, r⟩
  | _, _, i + 1, d, .cons _ t, e => by
    obtain ⟨v, h1, h2⟩ := RepL.get (i := i) (d := d) t (by simpa using e)
    exact ⟨v, by simpa using h1, h2⟩
theorem RepL.get' {F : Hp} : ∀ {vs : List V} {ds : List D} {i : Nat} {v : V}, RepL K fa F vs ds → vs[i]? = some v → ∃ d, ds[i]? = some d ∧ Rep K fa F v d
  | _, _, _, _, .nil, e => by simp at e
  | _, _, 0, _, .cons r _, e => by simp at e; subst e; exact ⟨_, rfl, r⟩
  | _, _, i + 1, d, .cons _ t, e => by
    obtain ⟨v, h1, h2⟩ := RepL.get' (i := i) (v := d) t (by simpa using e)
    exact ⟨v, by simpa using h1, h2⟩
theorem RepL.append {F : Hp} : ∀ {vs ws : List V} {ds es : List D}, RepL K fa F vs ds → RepL K fa F ws es → RepL K fa F (vs ++ ws) (ds ++ es)
  | _, _, _, _, .nil, s => s
  | _, _, _, _, .cons r t, s => .cons r (RepL.append t s)
theorem RepL.take {F : Hp} : ∀ {vs : List V} {ds : List D} (n : Nat), RepL K fa F vs ds → RepL K fa F (vs.take n) (ds.take n)
  | _, _, 0, _ => .nil
  | _, _, _ + 1, .nil => .nil
  | _, _, n + 1, .cons r t => .cons r (RepL.take n t)
theorem RepL.drop {F : Hp} : ∀ {vs : List V} {ds : List D} (n : Nat), RepL K fa F vs ds → RepL K fa F (vs.drop n) (ds.drop n)
  | _, _, 0, r => r
  | _, _, _ + 1, .nil => .nil
  | _, _, n + 1, .cons _ t => RepL.drop n t
theorem RepL.set {F : Hp} {v : V} {d : D} (r : Rep K fa F v d) : ∀ {vs : List V} {ds : List D} (i : Nat), RepL K fa F vs ds → RepL K fa F (vs.set i v) (ds.set i d)
  | _, _, _, .nil => .nil
  | _, _, 0, .cons _ t => .cons r t
  | _, _, i + 1, .cons q t => .cons q (RepL.set r i t)
theorem RepL.erase {F : Hp} : ∀ {vs : List V} {ds : List D} (i : Nat), RepL K fa F vs ds → RepL K fa F (vs.eraseIdx i) (ds.eraseIdx i)
  | _, _, _, .nil => .nil
  | _, _, 0, .cons _ t => t
  | _, _, i + 1, .cons q t => .cons q (RepL.erase i t)
theorem RepL.atI {F : Hp} {vs : List V} {ds : List D} {i : Int} {d : D} (r : RepL K fa F vs ds) (h : atI ds i = some d) : ∃ v, L2.atI vs i = some v ∧ Rep K fa F v d := by
  unfold L2.atI at h ⊢
  rw [r.length]
  cases e : ixN ds.length i with
  | none => rw [e] at h; simp at h
  | some j =>
    rw [e] at h
    simp only [Option.bind_some] at h ⊢
    exact r.get h

/-! ### the names of a frame, and what they hold -/
def Own (σ : L2.St) (env : Ev) (p : Addr) : Prop := ∃ (i : Nat) (xs : List D), held env i = some xs ∧ σ[i]? = some (some (.ref p))

structure Ok (K : PySem.W.Frag) (fa : Nat → Addr) (F H : Hp) (σ : L2.St) (env : Ev) : Prop where
  len : σ.length = env.length
  sub : Same F H
  val : ∀ (i : Nat) (d : D), env[i]? = some (Sl.val d) → ∃ v, σ[i]? = some (some v) ∧ Rep K fa F v d
  own : ∀ (i : Nat) (xs : List D), held env i = some xs → ∃ (p : Addr) (vs : List V), σ[i]? = some (some (.ref p)) ∧ F p = none ∧ H p = some (.lst vs) ∧ RepL K fa F vs xs
  dis : ∀ (i j : Nat) (xs ys : List D) (p : Addr), i ≠ j → held env i = some xs → held env j = some ys → σ[i]? = some (some (.ref p)) → σ[j]? = some (some (.ref p)) → False

theorem Ok.own_at {F H : Hp} {σ : L2.St} {env : Ev} (o : Ok K fa F H σ env) {p : Addr} (h : Own σ env p) : F p = none ∧ ∃ vs, H p = some (.lst vs) := by
  obtain ⟨i, xs, h1, h2⟩ := h
  obtain ⟨q, vs, h3, h4, h5, _⟩ := o.own i xs h1
  rw [h2] at h3
  cases h3
  exact ⟨h4, vs, h5⟩

structure Step (K : PySem.W.Frag) (fa : Nat → Addr) (F H : Hp) (σ : L2.St) (env : Ev) (F' H' : Hp) (σ' : L2.St) (env' : Ev) : Prop where
  sub : Same F F'
  keep : ∀ a o, H a = some o → ¬ Own σ env a → H' a = some o
  stay : ∀ a, H a ≠ none → F a = none → ¬ Own σ env a → F' a = none
  ok : Ok K fa F' H' σ' env'
  own : ∀ p, Own σ' env' p → Own σ env p ∨ H p = none
  io : ∀ (j : Nat) (xs : List D), env[j]? = some (Sl.io xs) → σ'[j]? = σ[j]? ∧ ∃ ys : List D, env'[j]? = some (Sl.io ys)

section
variable {F H F' H' F1 H1 F2 H2 : Hp} {σ σ' σ1 σ2 : L2.St} {env env' e1 e2 : Ev}
theorem Step.refl (o : Ok K fa F H σ env) : Step K fa F H σ env F H σ env :=
  ⟨Same.refl F, fun _ _ h _ => h, fun _ _ h _ => h, o, fun _ h => .inl h, fun _ xs h => ⟨rfl, xs, h⟩⟩
theorem Step.trans (a : Step K fa F H σ env F1 H1 σ1 e1) (b : Step K fa F1 H1 σ1 e1 F2 H2 σ2 e2) : Step K fa F H σ env F2 H2 σ2 e2 := by
  have no : ∀ x o, H x = some o → ¬ Own σ env x → ¬ Own σ1 e1 x := fun x o h n q => by
    rcases a.own x q with z | z
    · exact n z
    · rw [h] at z; cases z
  refine ⟨a.sub.trans b.sub, fun x o h n => b.keep x o (a.keep x o h n) (no x o h n), fun x h f n => ?_, b.ok, fun p q => ?_, fun j xs h => ?_⟩
  · cases e : H x with
    | none => exact absurd e h
    | some o => exact b.stay x (by rw [a.keep x o e n]; simp) (a.stay x h f n) (no x o e n)
  · rcases b.own p q with z | z
    · exact a.own p z
    · cases e : H p with
      | none => exact .inr rfl
      | some o =>
        refine .inl (Classical.byContradiction fun n => ?_)
        rw [a.keep p o e n] at z
        cases z
  · obtain ⟨h1, ys, h2⟩ := a.io j xs h
    obtain ⟨h3, zs, h4⟩ := b.io j ys h2
    exact ⟨h3.trans h1, zs, h4⟩
/-- what is tracked and known to be frozen may grow by what is new -/
theorem Ok.more (o : Ok K fa F H σ env) (sF : Same F F') (sH : Same H H') (sub : Same F' H') (n : ∀ p, Own σ env p → F' p = none) : Ok K fa F' H' σ env :=
  ⟨o.len, sub, fun i d h => by
      obtain ⟨v, h1, h2⟩ := o.val i d h
      exact ⟨v, h1, h2.mono sF⟩,
    fun i xs h => by
      obtain ⟨p, vs, h1, h2, h3, h4⟩ := o.own i xs h
      exact ⟨p, vs, h1, n p ⟨i, xs, h, h1⟩, sH _ _ h3, h4.mono sF⟩, o.dis⟩
/-- a list that no name holds becomes a value -/
theorem Step.freeze {p : Addr} {vs : List V} (a : Step K fa F H σ env F1 H1 σ1 e1) (h0 : Own σ env p ∨ H p = none) (hF : F1 p = none) (hH : H1 p = some (.lst vs)) (n : ¬ Own σ1 e1 p) :
    Step K fa F H σ env (upd F1 p (.lst vs)) H1 σ1 e1 := by
  have sF : Same F1 (upd F1 p (.lst vs)) := fun x o h => by rw [upd_ne (ne_of_none h hF)]; exact h
  refine ⟨a.sub.trans sF, a.keep, fun x h f q => ?_, a.ok.more sF (Same.refl _) (fun x o h => ?_) fun q hq => ?_, a.own, a.io⟩
  · have : x ≠ p := fun e => by
      subst e
      rcases h0 with z | z
      · exact q z
      · exact h z
    rw [upd_ne this]
    exact a.stay x h f q
  · by_cases e : x = p
    · subst e; rw [upd_same] at h; cases h; exact hH
    · rw [upd_ne e] at h
      exact a.ok.sub x o h
  · have : q ≠ p := fun e => by subst e; exact n hq
    rw [upd_ne this]
    exact (a.ok.own_at hq).1
end

/-- what stands for a result: entry (H, σ, env), end (F', H', σ', env') -/
def RRep (K : PySem.W.Frag) (fa : Nat → Addr) (H : Hp) (σ : L2.St) (env : Ev) (F' H' : Hp) (σ' : L2.St) (env' : Ev) (v : V) : R → Prop
  | .val d => Rep K fa F' v d
  | .new xs => ∃ p vs, v = .ref p ∧ (Own σ env p ∨ H p = none) ∧ F' p = none ∧ H' p = some (.lst vs) ∧ RepL K fa F' vs xs ∧ ¬ Own σ' env' p

/-! ### readings by a denotation -/
def tI (K : PySem.W.Frag) (fa : Nat → Addr) (f : Ev → Option (R × Ev)) : TE := fun σ H Q => ∃ F env r env', Ok K fa F H σ env ∧ f env = some (r, env') ∧
  ∀ F' H' v, Step K fa F H σ env F' H' σ env' → RRep K fa H σ env F' H' σ env' v r → Q v H'
def tV (K : PySem.W.Frag) (fa : Nat → Addr) (f : Ev → Option (D × Ev)) : TE := fun σ H Q => ∃ F env d env', Ok K fa F H σ env ∧ f env = some (d, env') ∧
  ∀ F' H' v, Step K fa F H σ env F' H' σ env' → Rep K fa F' v d → Q v H'
def tVs (K : PySem.W.Frag) (fa : Nat → Addr) (f : Ev → Option (List D × Ev)) : TA := fun σ H Q => ∃ F env ds env', Ok K fa F H σ env ∧ f env = some (ds, env') ∧
  ∀ F' H' vs, Step K fa F H σ env F' H' σ env' → RepL K fa F' vs ds → Q vs H'
def tB (K : PySem.W.Frag) (fa : Nat → Addr) (f : Ev → Option (Bool × Ev)) : TT := fun σ H Q => ∃ F env b env', Ok K fa F H σ env ∧ f env = some (b, env') ∧
  ∀ F' H', Step K fa F H σ env F' H' σ env' → Q b H'
def asV (f : Ev → Option (R × Ev)) : Ev → Option (D × Ev) := fun env => match f env with
  | some (r, e) => some (r.d, e)
  | none => none

theorem pe_weak {X : Cx} {e : Expr} {t t' : TE} (h : PE X e t) (w : ∀ σ H Q, t' σ H Q → t σ H Q) : PE X e t' := ⟨fun pins s σ H Q I q => h.run pins s σ H Q I (w σ H Q q)⟩
theorem pt_weak {X : Cx} {e : Expr} {t t' : TT} (h : PT X e t) (w : ∀ σ H Q, t' σ H Q → t σ H Q) : PT X e t' := ⟨fun pins s σ H Q I q => h.run pins s σ H Q I (w σ H Q q)⟩
theorem pa_weak {X : Cx} {e : List Expr} {t t' : TA} (h : PA X e t) (w : ∀ σ H Q, t' σ H Q → t σ H Q) : PA X e t' := ⟨fun p pins s σ H Q I q => h.run p pins s σ H Q I (w σ H Q q)⟩

theorem tI_tV {f : Ev → Option (R × Ev)} {σ : L2.St} {H : Hp} {Q : VK} (h : tV K fa (asV f) σ H Q) : tI K fa f σ H Q := by
  obtain ⟨F, env, d, env', ok, e, q⟩ := h
  unfold asV at e
  cases e1 : f env with
  | none => rw [e1] at e; cases e
  | some re =>
    obtain ⟨r, en⟩ := re
    rw [e1] at e
    simp only [Option.some.injEq, Prod.mk.injEq] at e
    obtain ⟨e2, e3⟩ := e
    subst e2 e3
    refine ⟨F, env, r, en, ok, e1, fun F' H' v st rr => ?_⟩
    cases r with
    | val d => exact q F' H' v st rr
    | new xs =>
      obtain ⟨p, vs, rfl, h0, h1, h2, h3, h4⟩ := rr
      have sF : Same F' (upd F' p (.lst vs)) := fun x o h => by rw [upd_ne (ne_of_none h h1)]; exact h
      exact q _ H' _ (st.freeze h0 h1 h2 h4) (.lst upd_same (h3.mono sF))
theorem pe_asV {X : Cx} {e : Expr} {f : Ev → Option (R × Ev)} (h : PE X e (tI K fa f)) : PE X e (tV K fa (asV f)) := pe_weak h fun _ _ _ q => tI_tV q
/-- a value as a result -/
def ofV (f : Ev → Option (D × Ev)) : Ev → Option (R × Ev) := fun env => match f env with
  | some (d, e) => some (.val d, e)
  | none => none
theorem pe_ofV {X : Cx} {e : Expr} {f : Ev → Option (D × Ev)} (h : PE X e (tV K fa f)) : PE X e (tI K fa (ofV f)) := pe_weak h fun σ H Q q => by
  obtain ⟨F, env, r, env', ok, e, q⟩ := q
  unfold ofV at e
  cases e1 : f env with
  | none => rw [e1] at e; cases e
  | some re =>
    obtain ⟨d, en⟩ := re
    rw [e1] at e
    simp only [Option.some.injEq, Prod.mk.injEq] at e
    obtain ⟨e2, e3⟩ := e
    subst e2 e3
    exact ⟨F, env, d, en, ok, e1, fun F' H' v st r => q F' H' v st r⟩

/-! ### argument lists -/
theorem pa_nilD {X : Cx} : PA X [] (tVs K fa fun env => some ([], env)) := pa_weak pa_nil fun σ H Q q => by
  obtain ⟨F, env, ds, env', ok, e, q⟩ := q
  cases e
  exact q F H [] (Step.refl ok) .nil
def consD (f : Ev → Option (D × Ev)) (g : Ev → Option (List D × Ev)) : Ev → Option (List D × Ev) := fun env => match f env with
  | some (d, e1) => match g e1 with
    | some (ds, e2) => some (d :: ds, e2)
    | none => none
  | none => none
theorem consD_some {f : Ev → Option (D × Ev)} {g : Ev → Option (List D × Ev)} {env env' : Ev} {ds : List D} (h : consD f g env = some (ds, env')) : ∃ d e1 es, f env = some (d, e1) ∧ g e1 = some (es, env') ∧ ds = d :: es := by
  unfold consD at h
  cases e1 : f env with
  | none => rw [e1] at h; cases h
  | some de =>
    obtain ⟨d, en⟩ := de
    rw [e1] at h
    simp only at h
    cases e2 : g en with
    | none => rw [e2] at h; cases h
    | some de =>
      obtain ⟨es, en2⟩ := de
      rw [e2] at h
      simp only [Option.some.injEq, Prod.mk.injEq] at h
      obtain ⟨h1, h2⟩ := h
      subst h1 h2
      exact ⟨d, en, es, rfl, e2, rfl⟩
theorem tCons_D {f : Ev → Option (D × Ev)} {g : Ev → Option (List D × Ev)} {σ : L2.St} {H : Hp} {Q : List V → Hp → Prop} (h : tVs K fa (consD f g) σ H Q) : tCons (tV K fa f) (tVs K fa g) σ H Q := by
  obtain ⟨F, env, ds, env', ok, e, q⟩ := h
  obtain ⟨d, e1, es, h1, h2, rfl⟩ := consD_some e
  refine ⟨F, env, d, e1, ok, h1, fun F1 H1 v s1 r1 => ?_⟩
  refine ⟨F1, e1, es, env', s1.ok, h2, fun F2 H2 vs s2 r2 => ?_⟩
  exact q F2 H2 (v :: vs) (s1.trans s2) (.cons (r1.mono s2.sub) r2)
theorem pa_consD {X : Cx} {e : Expr} {es : List Expr} {f : Ev → Option (D × Ev)} {g : Ev → Option (List D × Ev)} (ha : PE X e (tV K fa f)) (hr : PA X es (tVs K fa g)) (hs : starEach (e :: es) X.env = (false, eval e X.env) :: starEach es X.env) :
    PA X (e :: es) (tVs K fa (consD f g)) := pa_weak (pa_cons ha hr hs) fun _ _ _ q => tCons_D q

/-! ### what an operation on values leaves -/
inductive ARes (K : PySem.W.Frag) (fa : Nat → Addr) (F H : Hp) : V → R → Hp → Hp → Prop
  | same {v : V} {d : D} : Rep K fa F v d → ARes K fa F H v (.val d) F H
  | froz {p : Addr} {o : HO} {d : D} : H p = none → Rep K fa (upd F p o) (.ref p) d → ARes K fa F H (.ref p) (.val d) (upd F p o) (upd H p o)
  | new {p : Addr} {vs : List V} {xs : List D} : H p = none → RepL K fa F vs xs → ARes K fa F H (.ref p) (.new xs) F (upd H p (.lst vs))
theorem sub_none {F H : Hp} (s : Same F H) {p : Addr} (h : H p = none) : F p = none := s.free h
theorem same_upd {F : Hp} {p : Addr} {o : HO} (h : F p = none) : Same F (upd F p o) := fun x u e => by rw [upd_ne (ne_of_none e h)]; exact e
theorem same_upd2 {F H : Hp} (s : Same F H) {p : Addr} {o : HO} : Same (upd F p o) (upd H p o) := fun x u e => by
  by_cases h : x = p
  · subst h; rw [upd_same] at e ⊢; exact e
  · rw [upd_ne h] at e ⊢; exact s x u e
theorem ARes.step {F H F' H' : Hp} {σ : L2.St} {env : Ev} {v : V} {r : R} (o : Ok K fa F H σ env) (a : ARes K fa F H v r F' H') :
    Step K fa F H σ env F' H' σ env ∧ RRep K fa H σ env F' H' σ env v r := by
  cases a with
  | same h => exact ⟨Step.refl o, h⟩
  | @froz p ho d hp h =>
    have hF := sub_none o.sub hp
    have np : ∀ q, Own σ env q → q ≠ p := fun q hq e => by
      subst e
      obtain ⟨_, vs, z⟩ := o.own_at hq
      rw [hp] at z; cases z
    refine ⟨⟨same_upd hF, fun x u e _ => ?_, fun x h1 h2 _ => ?_, o.more (same_upd hF) (same_upd hp) (same_upd2 o.sub) fun q hq => ?_, fun _ h => .inl h, fun _ xs h => ⟨rfl, xs, h⟩⟩, h⟩
    · rw [upd_ne (ne_of_none e hp)]; exact e
    · have : x ≠ p := fun e => by subst e; exact h1 hp
      rw [upd_ne this]; exact h2
    · rw [upd_ne (np q hq)]; exact (o.own_at hq).1
  | @new p vs xs hp h =>
    have hF := sub_none o.sub hp
    have np : ¬ Own σ env p := fun hq => by
      obtain ⟨_, vs, z⟩ := o.own_at hq
      rw [hp] at z; cases z
    have sub' : Same F (upd H p (.lst vs)) := fun x u e => by rw [upd_ne (ne_of_none e hF)]; exact o.sub x u e
    refine ⟨⟨Same.refl _, fun x u e _ => ?_, fun x _ h2 _ => h2, o.more (Same.refl _) (same_upd hp) sub' fun q hq => (o.own_at hq).1, fun _ h => .inl h, fun _ xs h => ⟨rfl, xs, h⟩⟩, p, vs, rfl, .inr hp, hF, upd_same, h, np⟩
    rw [upd_ne (ne_of_none e hp)]; exact e

/-- an operation by values: what it asks is met wherever the denotation has a result -/
def OpOk (K : PySem.W.Frag) (fa : Nat → Addr) (o : Op) (r : List V → Hp → VK → Prop) : Prop :=
  ∀ (F H : Hp) (vs : List V) (ds : List D) (z : R) (Q : VK), Same F H → RepL K fa F vs ds → opD o ds = some z → (∀ v F' H', ARes K fa F H v z F' H' → Q v H') → r vs H Q
def opF (o : Op) (g : Ev → Option (List D × Ev)) : Ev → Option (R × Ev) := fun env => match g env with
  | some (ds, e1) => match opD o ds with
    | some r => some (r, e1)
    | none => none
  | none => none
theorem opF_some {o : Op} {g : Ev → Option (List D × Ev)} {env env' : Ev} {r : R} (h : opF o g env = some (r, env')) : ∃ ds, g env = some (ds, env') ∧ opD o ds = some r := by
  unfold opF at h
  cases e1 : g env with
  | none => rw [e1] at h; cases h
  | some de =>
    obtain ⟨ds, en⟩ := de
    rw [e1] at h
    simp only at h
    cases e2 : opD o ds with
    | none => rw [e2] at h; cases h
    | some z =>
      rw [e2] at h
      simp only [Option.some.injEq, Prod.mk.injEq] at h
      obtain ⟨h1, h2⟩ := h
      subst h1 h2
      exact ⟨ds, rfl, e2⟩
/-- the operands' reading, then the operation -/
theorem op_by {o : Op} {r : List V → Hp → VK → Prop} (ho : OpOk K fa o r) {g : Ev → Option (List D × Ev)} {σ : L2.St} {H : Hp} {Q : VK} (h : tI K fa (opF o g) σ H Q) : tVs K fa g σ H fun vs H1 => r vs H1 Q := by
  obtain ⟨F, env, z, env', ok, e, q⟩ := h
  obtain ⟨ds, h1, h2⟩ := opF_some e
  refine ⟨F, env, ds, env', ok, h1, fun F1 H1 vs s1 r1 => ?_⟩
  refine ho F1 H1 vs ds z Q s1.ok.sub r1 h2 fun v F2 H2 a => ?_
  obtain ⟨s2, rr⟩ := a.step s1.ok
  refine q F2 H2 v (s1.trans s2) ?_
  cases z with
  | val d => exact rr
  | new xs =>
    obtain ⟨p, ws, e1, h0, h3⟩ := rr
    refine ⟨p, ws, e1, ?_, h3⟩
    rcases h0 with z | z
    · exact s1.own p z
    · cases e : H p with
      | none => exact .inr rfl
      | some u =>
        refine .inl (Classical.byContradiction fun n => ?_)
        rw [s1.keep p u e n] at z; cases z
/-- two operands, one -/
def two (f g : Ev → Option (D × Ev)) : Ev → Option (List D × Ev) := consD f (consD g fun env => some ([], env))
def one (f : Ev → Option (D × Ev)) : Ev → Option (List D × Ev) := consD f fun env => some ([], env)
theorem tNil_D {σ : L2.St} {H : Hp} {Q : List V → Hp → Prop} (h : tVs K fa (fun env => some ([], env)) σ H Q) : Q [] H := by
  obtain ⟨F, env, ds, env', ok, e, q⟩ := h
  cases e
  exact q F H [] (Step.refl ok) .nil
theorem tV_mono {f : Ev → Option (D × Ev)} {σ : L2.St} {H : Hp} {Q Q' : VK} (h : tV K fa f σ H Q) (k : ∀ v H', Q v H' → Q' v H') : tV K fa f σ H Q' := by
  obtain ⟨F, env, d, env', ok, e, q⟩ := h
  exact ⟨F, env, d, env', ok, e, fun F' H' v s r => k _ _ (q F' H' v s r)⟩
theorem tVs_mono {f : Ev → Option (List D × Ev)} {σ : L2.St} {H : Hp} {Q Q' : List V → Hp → Prop} (h : tVs K fa f σ H Q) (k : ∀ v H', Q v H' → Q' v H') : tVs K fa f σ H Q' := by
  obtain ⟨F, env, d, env', ok, e, q⟩ := h
  exact ⟨F, env, d, env', ok, e, fun F' H' v s r => k _ _ (q F' H' v s r)⟩
theorem two_D {f g : Ev → Option (D × Ev)} {σ : L2.St} {H : Hp} {Q : List V → Hp → Prop} (h : tVs K fa (two f g) σ H Q) : tV K fa f σ H fun x H1 => tV K fa g σ H1 fun y H2 => Q [x, y] H2 :=
  tV_mono (tCons_D h) fun x H1 q => tV_mono (tCons_D q) fun y H2 q2 => tNil_D q2
theorem one_D {f : Ev → Option (D × Ev)} {σ : L2.St} {H : Hp} {Q : List V → Hp → Prop} (h : tVs K fa (one f) σ H Q) : tV K fa f σ H fun x H1 => Q [x] H1 :=
  tV_mono (tCons_D h) fun x H1 q => tNil_D q
/-- a two-place rule, a one-place rule of the layer, as a rule over lists -/
def r2 (r : R2) : List V → Hp → VK → Prop := fun vs H Q => ∃ x y, vs = [x, y] ∧ r x y H Q
def r1 (r : V → Hp → VK → Prop) : List V → Hp → VK → Prop := fun vs H Q => ∃ x, vs = [x] ∧ r x H Q
theorem tOp_D {o : Op} {r : R2} (ho : OpOk K fa o (r2 r)) {f g : Ev → Option (D × Ev)} {σ : L2.St} {H : Hp} {Q : VK} (h : tI K fa (opF o (two f g)) σ H Q) : tOp r (tV K fa f) (tV K fa g) σ H Q :=
  tV_mono (two_D (op_by ho h)) fun x H1 q => tV_mono q fun y H2 ⟨a, b, e, z⟩ => by cases e; exact z
theorem tUn_D {o : Op} {r : V → Hp → VK → Prop} (ho : OpOk K fa o (r1 r)) {f : Ev → Option (D × Ev)} {σ : L2.St} {H : Hp} {Q : VK} (h : tI K fa (opF o (one f)) σ H Q) : tUn r (tV K fa f) σ H Q :=
  tV_mono (one_D (op_by ho h)) fun x H1 ⟨a, e, z⟩ => by cases e; exact z
section
variable {X : Cx} {a b : Expr} {f g : Ev → Option (D × Ev)} {pos : Pos}
theorem pe_opD {op : Operator} {o : Op} {r : R2} (hr : OpR X (binaryOp op) r) (ho : OpOk K fa o (r2 r)) (ha : PE X a (tV K fa f)) (hb : PE X b (tV K fa g)) : PE X (.BinOp a op b pos) (tI K fa (opF o (two f g))) :=
  pe_weak (pe_op hr ha hb) fun _ _ _ q => tOp_D ho q
theorem pe_unD {op : UnaryOp} {o : Op} {r : V → Hp → VK → Prop} (hr : UnR X (unaryOp op) r) (ho : OpOk K fa o (r1 r)) (ha : PE X a (tV K fa f)) : PE X (.UnaryOp op a pos) (tI K fa (opF o (one f))) :=
  pe_weak (pe_un hr ha) fun _ _ _ q => tUn_D ho q
theorem pe_cmpD {op : CmpOp} {o : Op} {r : R2} (hr : OpR X (compareOp op) r) (ho : OpOk K fa o (r2 r)) (ha : PE X a (tV K fa f)) (hb : PE X b (tV K fa g)) (hm : behindInMarks op b = false) : PE X (.Compare a [op] [b] pos) (tI K fa (opF o (two f g))) :=
  pe_weak (pe_cmpR hr ha hb hm) fun _ _ _ q => tOp_D ho q
end
end
end DI

namespace DI
open PySem L2

section
variable {K : PySem.W.Frag} {fa : Nat → Addr} {F H : Hp}

/-! ### data as the library reads it -/
mutual
theorem Rep.reads {X : Cx} {pins : List (Addr × Obj)} {σ : L2.St} {s : Shared} (I : Inv X pins σ H s) (sub : Same F H) : ∀ (d : D) (v : V) (u : Value), plain d = true → Rep X.K fa F v d → RelV v u → ∃ as, Reads s.heap u (toPy d) as
  | .non, _, _, _, .non, r => by cases r; exact ⟨_, Reads.none⟩
  | .bl b, _, _, _, .bl _, r => by cases r; exact ⟨_, Reads.bool b⟩
  | .int i, _, _, _, .int _, r => by obtain ⟨t, rfl⟩ := r; exact ⟨_, Reads.int i t⟩
  | .str cs, _, _, _, .str _, r => by obtain ⟨t, rfl⟩ := r; exact ⟨_, Reads.str _ t⟩
  | .tup ds, _, _, p, .tup hs ha, r => by
    cases r
    obtain ⟨its, rv, ⟨o, ho, hc, n, hd⟩, _⟩ := I.tuple (sqT_mono sub hs)
    obtain ⟨as, hr⟩ := RepL.reads I sub ds _ its p ha rv
    exact ⟨_, Reads.tuple ho hc hd hr⟩
  | .lst ds, _, _, p, .lst hs ha, r => by
    cases r
    obtain ⟨its, rv, ⟨o, n, ho, hc, _, hd⟩, _⟩ := I.list (SqL.of (K := X.K) (sub _ _ hs))
    obtain ⟨as, hr⟩ := RepL.reads I sub ds _ its p ha rv
    exact ⟨_, Reads.list ho hc hd hr⟩
  | .scr _, _, _, p, _, _ => by cases p
  | .dct _, _, _, p, _, _ => by cases p
  | .fn _, _, _, p, _, _ => by cases p
theorem RepL.reads {X : Cx} {pins : List (Addr × Obj)} {σ : L2.St} {s : Shared} (I : Inv X pins σ H s) (sub : Same F H) : ∀ (ds : List D) (vs : List V) (us : List Value), plains ds = true → RepL X.K fa F vs ds → Vals vs us → ∃ as, ReadsAll s.heap us (toPys ds) as
  | [], _, _, _, .nil, r => by cases r; exact ⟨_, ReadsAll.nil⟩
  | d :: ds, _, _, p, .cons h1 h2, r => by
    have p' : (plain d && plains ds) = true := p
    rw [Bool.and_eq_true] at p'
    cases r with
    | cons r1 r2 =>
      obtain ⟨as, q1⟩ := Rep.reads I sub d _ _ p'.1 h1 r1
      obtain ⟨bs, q2⟩ := RepL.reads I sub ds _ _ p'.2 h2 r2
      exact ⟨_, ReadsAll.cons q1 q2⟩
end

theorem two_of {vs : List V} {a b : D} (r : RepL K fa F vs [a, b]) : ∃ x y, vs = [x, y] ∧ Rep K fa F x a ∧ Rep K fa F y b := by
  cases r with
  | cons h1 t => cases t with
    | cons h2 t => cases t; exact ⟨_, _, rfl, h1, h2⟩
theorem one_of {vs : List V} {a : D} (r : RepL K fa F vs [a]) : ∃ x, vs = [x] ∧ Rep K fa F x a := by
  cases r with
  | cons h1 t => cases t; exact ⟨_, rfl, h1⟩
theorem Rep.int_of {v : V} {i : Int} (r : Rep K fa F v (.int i)) : v = .int i := by cases r; rfl
theorem Rep.str_of {v : V} {c : List Nat} (r : Rep K fa F v (.str c)) : v = .str (sOf c) := by cases r; rfl
theorem Rep.bl_of {v : V} {b : Bool} (r : Rep K fa F v (.bl b)) : v = .bl b := by cases r; rfl
theorem Rep.non_of {v : V} (r : Rep K fa F v .non) : v = .non := by cases r; rfl
theorem Rep.lst_of {v : V} {ds : List D} (r : Rep K fa F v (.lst ds)) : ∃ a xs, v = .ref a ∧ F a = some (.lst xs) ∧ RepL K fa F xs ds := by
  cases r with | lst h t => exact ⟨_, _, rfl, h, t⟩
theorem Rep.scr_of {v : V} {ds : List D} (r : Rep K fa F v (.scr ds)) : ∃ a xs, v = .ref a ∧ SqL K F a xs ∧ RepL K fa F xs ds := by
  cases r with | scr h t => exact ⟨_, _, rfl, h, t⟩
theorem Rep.tup_of {v : V} {ds : List D} (r : Rep K fa F v (.tup ds)) : ∃ a xs, v = .ref a ∧ SqT K F a xs ∧ RepL K fa F xs ds := by
  cases r with | tup h t => exact ⟨_, _, rfl, h, t⟩
theorem Rep.flat_of {v : V} {d : D} (r : Rep K fa F v d) (h : flat d = true) : v = vOf d ∧ flatV v = true := by
  cases r <;> first | exact ⟨rfl, rfl⟩ | cases h
theorem RepL.flat_of : ∀ {vs : List V} {ds : List D}, RepL K fa F vs ds → ds.all flat = true → vs = ds.map vOf ∧ vs.all flatV = true
  | _, _, .nil, _ => ⟨rfl, rfl⟩
  | _, _, .cons r t, h => by
    rw [List.all_cons, Bool.and_eq_true] at h
    obtain ⟨e1, f1⟩ := r.flat_of h.1
    obtain ⟨e2, f2⟩ := RepL.flat_of t h.2
    refine ⟨by rw [List.map_cons, e1, e2], by rw [List.all_cons, f1, f2]; rfl⟩
theorem big_le : big ≤ sizeLine := by decide
theorem le_line {n : Nat} (h : n ≤ big) : n ≤ sizeLine := Nat.le_trans h big_le

/-! ### operators -/
def rAddX : R2 := fun x y H Q => rI0 (fun i j => .int (i + j)) x y H Q ∨ (fun x y H Q => (∃ i j, x = V.str i ∧ y = V.str j ∧ i.length + j.length ≤ sizeLine ∧ Q (.str (i ++ j)) H) ∨ rCat x y H Q) x y H Q
theorem opr_add {X : Cx} : OpR X (binaryOp .Add) rAddX := OpR.or op_add (OpR.or op_add_str op_cat)
theorem ok_add : OpOk K fa .add (r2 rAddX) := by
  intro F H vs ds z Q sub rep h q
  have h' : dAdd ds = some z := h
  unfold dAdd at h'
  split at h'
  · obtain ⟨x, y, rfl, h1, h2⟩ := two_of rep
    cases h1.int_of; cases h2.int_of; cases h'
    exact ⟨_, _, rfl, .inl ⟨_, _, rfl, rfl, q _ F H (.same (.int _))⟩⟩
  · obtain ⟨x, y, rfl, h1, h2⟩ := two_of rep
    cases h1.str_of; cases h2.str_of
    split at h'
    · rename_i hz
      cases h'
      refine ⟨_, _, rfl, .inr (.inl ⟨_, _, rfl, rfl, by rw [sOf_len, sOf_len]; exact le_line hz, ?_⟩)⟩
      rw [sOf_app]
      exact q _ F H (.same (.str _))
    · cases h'
  · obtain ⟨x, y, rfl, h1, h2⟩ := two_of rep
    obtain ⟨a, xs, rfl, e1, r1⟩ := h1.lst_of
    obtain ⟨b, ys, rfl, e2, r2⟩ := h2.lst_of
    split at h'
    · rename_i hz
      cases h'
      refine ⟨_, _, rfl, .inr (.inr ⟨a, b, xs, ys, rfl, rfl, sub _ _ e1, sub _ _ e2, by rw [r1.length, r2.length]; exact le_line hz, fun p hp => ?_⟩)⟩
      exact q _ _ _ (.new hp (r1.append r2))
    · cases h'
  · cases h'
theorem ok_sub : OpOk K fa .sub (r2 (rI0 fun i j => .int (i - j))) := by
  intro F H vs ds z Q sub rep h q
  have h' : dSub ds = some z := h
  unfold dSub at h'
  split at h'
  · obtain ⟨x, y, rfl, h1, h2⟩ := two_of rep
    cases h1.int_of; cases h2.int_of; cases h'
    exact ⟨_, _, rfl, _, _, rfl, rfl, q _ F H (.same (.int _))⟩
  · cases h'
theorem ok_mul : OpOk K fa .mul (r2 (rI CMulW fun i j => .int (i * j))) := by
  intro F H vs ds z Q sub rep h q
  have h' : dMul ds = some z := h
  unfold dMul at h'
  split at h'
  · obtain ⟨x, y, rfl, h1, h2⟩ := two_of rep
    cases h1.int_of; cases h2.int_of
    split at h'
    · rename_i hc
      cases h'
      exact ⟨_, _, rfl, _, _, rfl, rfl, hc, q _ F H (.same (.int _))⟩
    · cases h'
  · cases h'
theorem ok_fdiv : OpOk K fa .fdiv (r2 (rI CDiv fun i j => .int (i / j))) := by
  intro F H vs ds z Q sub rep h q
  have h' : dFdiv ds = some z := h
  unfold dFdiv at h'
  split at h'
  · obtain ⟨x, y, rfl, h1, h2⟩ := two_of rep
    cases h1.int_of; cases h2.int_of
    split at h'
    · rename_i hc
      cases h'
      exact ⟨_, _, rfl, _, _, rfl, rfl, hc, q _ F H (.same (.int _))⟩
    · cases h'
  · cases h'
theorem ok_mod : OpOk K fa .mod (r2 (rI (fun _ j => 0 < j) fun i j => .int (i % j))) := by
  intro F H vs ds z Q sub rep h q
  have h' : dMod ds = some z := h
  unfold dMod at h'
  split at h'
  · obtain ⟨x, y, rfl, h1, h2⟩ := two_of rep
    cases h1.int_of; cases h2.int_of
    split at h'
    · rename_i hc
      cases h'
      exact ⟨_, _, rfl, _, _, rfl, rfl, hc, q _ F H (.same (.int _))⟩
    · cases h'
  · cases h'
def CPowW (i j : Int) : Prop := 0 ≤ j ∧ j ≤ 1000 ∧ i.natAbs < 2 ^ 1000
theorem CPowW.ok {i j : Int} (h : CPowW i j) : (Builtin.Int.intBits i : Int) * j ≤ 2 ^ 27 := by
  obtain ⟨h0, h1, h2⟩ := h
  have hb : Builtin.Int.intBits i ≤ 1001 := by
    have : i.natAbs.log2 < 1000 := PySem.Flt.log2_lt_of (by decide) h2
    unfold Builtin.Int.intBits
    split <;> omega
  have hb' : (Builtin.Int.intBits i : Int) ≤ 1001 := by omega
  have h3 : (Builtin.Int.intBits i : Int) * j ≤ 1001 * 1000 := Int.mul_le_mul hb' h1 h0 (by decide)
  exact Int.le_trans h3 (by decide)
theorem opr_pow {X : Cx} : OpR X (binaryOp .Pow) (rI CPowW fun i j => .int (i ^ j.toNat)) := opI fun _ _ _ _ _ _ _ hc q => PyProof.Rows.pow_int hc.1 hc.ok q
theorem ok_pow : OpOk K fa .pow (r2 (rI CPowW fun i j => .int (i ^ j.toNat))) := by
  intro F H vs ds z Q sub rep h q
  have h' : dPow ds = some z := h
  unfold dPow at h'
  split at h'
  · obtain ⟨x, y, rfl, h1, h2⟩ := two_of rep
    cases h1.int_of; cases h2.int_of
    split at h'
    · rename_i hc
      cases h'
      exact ⟨_, _, rfl, _, _, rfl, rfl, hc, q _ F H (.same (.int _))⟩
    · cases h'
  · cases h'
theorem ok_neg : OpOk K fa .neg (r1 (rU fun i => .int (-i))) := by
  intro F H vs ds z Q sub rep h q
  have h' : dNeg ds = some z := h
  unfold dNeg at h'
  split at h'
  · obtain ⟨x, rfl, h1⟩ := one_of rep
    cases h1.int_of; cases h'
    exact ⟨_, rfl, _, rfl, q _ F H (.same (.int _))⟩
  · cases h'

/-! ### comparisons -/
def rEqP (neg : Bool) : R2 := fun x y H Q => ∃ i j, x = V.str i ∧ y = V.str j ∧ Q (.bl (if neg then !decide (i = j) else decide (i = j))) H
theorem dec_s {i j : List Nat} : decide (sOf i = sOf j) = decide (i = j) := by
  by_cases e : i = j
  · subst e; simp
  · rw [decide_eq_false e, decide_eq_false (fun q => e (sOf_inj q))]
theorem opr_eqS {X : Cx} : OpR X (compareOp .Eq) (rEqP false) := by
  intro pins s σ H x y v u Q I rx ry h
  obtain ⟨i, j, rfl, rfl, q⟩ := h
  refine op_eq pins s σ H _ _ v u Q I rx ry ⟨rfl, ?_⟩
  rw [dec_str]
  have : (i == j) = decide (i = j) := rfl
  rw [this]
  exact q
theorem opr_neS {X : Cx} : OpR X (compareOp .NotEq) (rEqP true) := by
  intro pins s σ H x y v u Q I rx ry h
  obtain ⟨i, j, rfl, rfl, q⟩ := h
  refine op_ne pins s σ H _ _ v u Q I rx ry ⟨rfl, ?_⟩
  rw [dec_str]
  have : (i == j) = decide (i = j) := rfl
  rw [this]
  exact q
def rEqX (K : PySem.W.Frag) (fa : Nat → Addr) (neg : Bool) : R2 := fun x y H Q => ∃ F d e, Same F H ∧ Rep K fa F x d ∧ Rep K fa F y e ∧ okEq d = true ∧ okEq e = true ∧ Q (.bl (if neg then !PyData.eqv (toPy d) (toPy e) else PyData.eqv (toPy d) (toPy e))) H
theorem okEq_of {d : D} (h : okEq d = true) : plain d = true ∧ SeqAt.shaped (toPy d) = true := by
  unfold okEq at h
  rw [Bool.and_eq_true] at h
  exact h
theorem opr_eqX {X : Cx} (hu : X.A.units + 64 < cLine) : OpR X (compareOp .Eq) (rEqX X.K fa false) := by
  intro pins s σ H x y v u Q I rx ry h
  obtain ⟨F, d, e, sub, hd, he, p1, p2, q⟩ := h
  obtain ⟨as, r1⟩ := Rep.reads I sub d x v (okEq_of p1).1 hd rx
  obtain ⟨bs, r2⟩ := Rep.reads I sub e y u (okEq_of p2).1 he ry
  exact SeqAt.compareEq_shaped r1 r2 (okEq_of p1).2 (okEq_of p2).2 hu ⟨.bl _, H, I, rfl, q⟩
theorem opr_neX {X : Cx} (hu : X.A.units + 64 < cLine) : OpR X (compareOp .NotEq) (rEqX X.K fa true) := by
  intro pins s σ H x y v u Q I rx ry h
  obtain ⟨F, d, e, sub, hd, he, p1, p2, q⟩ := h
  obtain ⟨as, r1⟩ := Rep.reads I sub d x v (okEq_of p1).1 hd rx
  obtain ⟨bs, r2⟩ := Rep.reads I sub e y u (okEq_of p2).1 he ry
  exact SeqAt.compareNe_shaped r1 r2 (okEq_of p1).2 (okEq_of p2).2 hu ⟨.bl _, H, I, rfl, q⟩
def rEqA (K : PySem.W.Frag) (fa : Nat → Addr) (neg : Bool) : R2 := fun x y H Q => rEqP neg x y H Q ∨ rEqX K fa neg x y H Q
theorem ok_eq : OpOk K fa .eq (r2 (rEqA K fa false)) := by
  intro F H vs ds z Q sub rep h q
  have h' : dEq ds = some z := h
  unfold dEq at h'
  split at h'
  · obtain ⟨x, y, rfl, h1, h2⟩ := two_of rep
    cases h1.str_of; cases h2.str_of; cases h'
    refine ⟨_, _, rfl, .inl ⟨_, _, rfl, rfl, ?_⟩⟩
    show Q (.bl (decide (sOf _ = sOf _))) H
    rw [dec_s]
    exact q _ F H (.same (.bl _))
  · obtain ⟨x, y, rfl, h1, h2⟩ := two_of rep
    split at h'
    · rename_i hc
      rw [Bool.and_eq_true] at hc
      cases h'
      exact ⟨_, _, rfl, .inr ⟨F, _, _, sub, h1, h2, hc.1, hc.2, q _ F H (.same (.bl _))⟩⟩
    · cases h'
  · cases h'
theorem ok_ne : OpOk K fa .ne (r2 (rEqA K fa true)) := by
  intro F H vs ds z Q sub rep h q
  have h' : dNe ds = some z := h
  unfold dNe at h'
  split at h'
  · obtain ⟨x, y, rfl, h1, h2⟩ := two_of rep
    cases h1.str_of; cases h2.str_of; cases h'
    refine ⟨_, _, rfl, .inl ⟨_, _, rfl, rfl, ?_⟩⟩
    show Q (.bl (!decide (sOf _ = sOf _))) H
    rw [dec_s]
    exact q _ F H (.same (.bl _))
  · obtain ⟨x, y, rfl, h1, h2⟩ := two_of rep
    split at h'
    · rename_i hc
      rw [Bool.and_eq_true] at hc
      cases h'
      exact ⟨_, _, rfl, .inr ⟨F, _, _, sub, h1, h2, hc.1, hc.2, q _ F H (.same (.bl _))⟩⟩
    · cases h'
  · cases h'
def rLtA : R2 := fun x y H Q => rI0 (fun i j => .bl (decide (i < j))) x y H Q ∨ (fun x y H Q => ∃ i j, x = V.str i ∧ y = V.str j ∧ Q (.bl (decide (i.cps.toList < j.cps.toList))) H) x y H Q
def rLeA : R2 := fun x y H Q => rI0 (fun i j => .bl (decide (i ≤ j))) x y H Q ∨ (fun x y H Q => ∃ i j, x = V.str i ∧ y = V.str j ∧ Q (.bl (!decide (j.cps.toList < i.cps.toList))) H) x y H Q
theorem opr_lt {X : Cx} : OpR X (compareOp .Lt) rLtA := OpR.or op_lt op_lt_str
theorem opr_le {X : Cx} : OpR X (compareOp .LtE) rLeA := OpR.or op_le op_le_str
theorem ok_lt : OpOk K fa .lt (r2 rLtA) := by
  intro F H vs ds z Q sub rep h q
  have h' : dLt ds = some z := h
  unfold dLt at h'
  split at h'
  · obtain ⟨x, y, rfl, h1, h2⟩ := two_of rep
    cases h1.int_of; cases h2.int_of; cases h'
    exact ⟨_, _, rfl, .inl ⟨_, _, rfl, rfl, q _ F H (.same (.bl _))⟩⟩
  · obtain ⟨x, y, rfl, h1, h2⟩ := two_of rep
    cases h1.str_of; cases h2.str_of; cases h'
    refine ⟨_, _, rfl, .inr ⟨_, _, rfl, rfl, ?_⟩⟩
    rw [sOf_list, sOf_list]
    exact q _ F H (.same (.bl _))
  · cases h'
theorem ok_le : OpOk K fa .le (r2 rLeA) := by
  intro F H vs ds z Q sub rep h q
  have h' : dLe ds = some z := h
  unfold dLe at h'
  split at h'
  · obtain ⟨x, y, rfl, h1, h2⟩ := two_of rep
    cases h1.int_of; cases h2.int_of; cases h'
    exact ⟨_, _, rfl, .inl ⟨_, _, rfl, rfl, q _ F H (.same (.bl _))⟩⟩
  · obtain ⟨x, y, rfl, h1, h2⟩ := two_of rep
    cases h1.str_of; cases h2.str_of; cases h'
    refine ⟨_, _, rfl, .inr ⟨_, _, rfl, rfl, ?_⟩⟩
    rw [sOf_list, sOf_list]
    exact q _ F H (.same (.bl _))
  · cases h'
theorem ok_gt : OpOk K fa .gt (r2 (rI0 fun i j => .bl (decide (j < i)))) := by
  intro F H vs ds z Q sub rep h q
  have h' : dGt ds = some z := h
  unfold dGt at h'
  split at h'
  · obtain ⟨x, y, rfl, h1, h2⟩ := two_of rep
    cases h1.int_of; cases h2.int_of; cases h'
    exact ⟨_, _, rfl, _, _, rfl, rfl, q _ F H (.same (.bl _))⟩
  · cases h'
theorem ok_ge : OpOk K fa .ge (r2 (rI0 fun i j => .bl (decide (j ≤ i)))) := by
  intro F H vs ds z Q sub rep h q
  have h' : dGe ds = some z := h
  unfold dGe at h'
  split at h'
  · obtain ⟨x, y, rfl, h1, h2⟩ := two_of rep
    cases h1.int_of; cases h2.int_of; cases h'
    exact ⟨_, _, rfl, _, _, rfl, rfl, q _ F H (.same (.bl _))⟩
  · cases h'
def rInA (K : PySem.W.Frag) (neg : Bool) : R2 := fun x y H Q => (fun x y H Q => ∃ (c : Nat) (z : Str), x = V.str ⟨#[c]⟩ ∧ y = V.str z ∧ Q (.bl (if neg then !decide (c ∈ z.cps.toList) else decide (c ∈ z.cps.toList))) H) x y H Q ∨ rIn K neg x y H Q
theorem opr_in {X : Cx} : OpR X (compareOp .In) (rInA X.K false) := OpR.or op_in_sign op_in_seq
theorem opr_notin {X : Cx} : OpR X (compareOp .NotIn) (rInA X.K true) := OpR.or op_notIn_sign op_notIn_seq
theorem in_gen {neg : Bool} {vs : List V} {ds : List D} {z : R} {Q : VK} (sub : Same F H) (rep : RepL K fa F vs ds) (h' : dIn neg ds = some z) (q : ∀ v F' H', ARes K fa F H v z F' H' → Q v H') : r2 (rInA K neg) vs H Q := by
  unfold dIn at h'
  split at h'
  · obtain ⟨x, y, rfl, h1, h2⟩ := two_of rep
    cases h1.str_of; cases h2.str_of; cases h'
    refine ⟨_, _, rfl, .inl ⟨_, _, rfl, rfl, ?_⟩⟩
    rw [sOf_list]
    exact q _ F H (.same (.bl _))
  · obtain ⟨x, y, rfl, h1, h2⟩ := two_of rep
    split at h'
    · rename_i hc
      rw [Bool.and_eq_true] at hc
      cases h'
      obtain ⟨b, ys, rfl, e2, r2⟩ := h2.tup_of
      obtain ⟨rfl, f1⟩ := h1.flat_of hc.1
      obtain ⟨rfl, f2⟩ := r2.flat_of hc.2
      exact ⟨_, _, rfl, .inr ⟨b, _, rfl, .inr (sqT_mono sub e2), f1, f2, q _ F H (.same (.bl _))⟩⟩
    · cases h'
  · obtain ⟨x, y, rfl, h1, h2⟩ := two_of rep
    split at h'
    · rename_i hc
      rw [Bool.and_eq_true] at hc
      cases h'
      obtain ⟨b, ys, rfl, e2, r2⟩ := h2.lst_of
      obtain ⟨rfl, f1⟩ := h1.flat_of hc.1
      obtain ⟨rfl, f2⟩ := r2.flat_of hc.2
      exact ⟨_, _, rfl, .inr ⟨b, _, rfl, .inl (SqL.of (sub _ _ e2)), f1, f2, q _ F H (.same (.bl _))⟩⟩
    · cases h'
  · cases h'
theorem ok_in : OpOk K fa .isin (r2 (rInA K false)) := fun F H vs ds z Q sub rep h q => in_gen sub rep h q
theorem ok_notin : OpOk K fa .notin (r2 (rInA K true)) := fun F H vs ds z Q sub rep h q => in_gen sub rep h q
theorem Rep.isNon {v : V} {d : D} (r : Rep K fa F v d) : decide (v = .non) = DI.isNon d := by
  cases r <;> rfl
def rIsA : R2 := fun x y H Q => (fun x y H Q => y = V.non ∧ Q (.bl (decide (x = V.non))) H) x y H Q ∨ rIsB x y H Q
theorem opr_is {X : Cx} : OpR X (compareOp .Is) rIsA := OpR.or op_isN op_isBl
theorem ok_isn : OpOk K fa .isn (r2 rIsA) := by
  intro F H vs ds z Q sub rep h q
  have h' : dIsn false ds = some z := h
  unfold dIsn at h'
  split at h'
  · obtain ⟨x, y, rfl, h1, h2⟩ := two_of rep
    cases h2.non_of; cases h'
    refine ⟨_, _, rfl, .inl ⟨rfl, ?_⟩⟩
    rw [h1.isNon]
    exact q _ F H (.same (.bl _))
  · cases h'
theorem ok_isb : OpOk K fa .isb (r2 rIsA) := by
  intro F H vs ds z Q sub rep h q
  have h' : dIsb ds = some z := h
  unfold dIsb at h'
  split at h'
  · obtain ⟨x, y, rfl, h1, h2⟩ := two_of rep
    cases h1.bl_of; cases h2.bl_of; cases h'
    exact ⟨_, _, rfl, .inr ⟨_, _, rfl, rfl, q _ F H (.same (.bl _))⟩⟩
  · cases h'
theorem ok_notn : OpOk K fa .notn (r2 fun x y H Q => y = V.non ∧ Q (.bl (!decide (x = V.non))) H) := by
  intro F H vs ds z Q sub rep h q
  have h' : dIsn true ds = some z := h
  unfold dIsn at h'
  split at h'
  · obtain ⟨x, y, rfl, h1, h2⟩ := two_of rep
    cases h2.non_of; cases h'
    refine ⟨_, _, rfl, rfl, ?_⟩
    rw [h1.isNon]
    exact q _ F H (.same (.bl _))
  · cases h'

/-! ### items, slices -/
def rItem (K : PySem.W.Frag) : R2 := fun x y H Q => rIxL K x y H Q ∨ (fun x y H Q => rIxT K x y H Q ∨ rIxS x y H Q) x y H Q
theorem ixr_item {X : Cx} : IxR X (rItem X.K) := IxR.or ix_list (IxR.or ix_tup ix_str)
theorem ok_item : OpOk K fa .item (r2 (rItem K)) := by
  intro F H vs ds z Q sub rep h q
  have h' : dItem ds = some z := h
  unfold dItem at h'
  split at h'
  · obtain ⟨x, y, rfl, h1, h2⟩ := two_of rep
    obtain ⟨b, ys, rfl, e2, rl⟩ := h1.lst_of
    cases h2.int_of
    obtain ⟨d, e, rfl⟩ := Option.map_eq_some_iff.mp h'
    obtain ⟨v, hv, rv⟩ := rl.atI e
    exact ⟨_, _, rfl, .inl ⟨b, ys, _, v, rfl, rfl, SqL.of (sub _ _ e2), hv, q _ F H (.same rv)⟩⟩
  · obtain ⟨x, y, rfl, h1, h2⟩ := two_of rep
    obtain ⟨b, ys, rfl, e2, rl⟩ := h1.scr_of
    cases h2.int_of
    obtain ⟨d, e, rfl⟩ := Option.map_eq_some_iff.mp h'
    obtain ⟨v, hv, rv⟩ := rl.atI e
    exact ⟨_, _, rfl, .inl ⟨b, ys, _, v, rfl, rfl, sub.seq e2, hv, q _ F H (.same rv)⟩⟩
  · obtain ⟨x, y, rfl, h1, h2⟩ := two_of rep
    obtain ⟨b, ys, rfl, e2, rl⟩ := h1.tup_of
    cases h2.int_of
    obtain ⟨d, e, rfl⟩ := Option.map_eq_some_iff.mp h'
    obtain ⟨v, hv, rv⟩ := rl.atI e
    exact ⟨_, _, rfl, .inr (.inl ⟨b, ys, _, v, rfl, rfl, sqT_mono sub e2, hv, q _ F H (.same rv)⟩)⟩
  · obtain ⟨x, y, rfl, h1, h2⟩ := two_of rep
    cases h1.str_of; cases h2.int_of
    split at h'
    · rename_i hz
      obtain ⟨c, e, rfl⟩ := Option.map_eq_some_iff.mp h'
      refine ⟨_, _, rfl, .inr (.inr ⟨_, _, c, rfl, rfl, by rw [sOf_len]; exact le_line hz, by rw [sOf_list]; exact e, ?_⟩)⟩
      exact q _ F H (.same (.str [c]))
    · cases h'
  · cases h'
end
end DI

namespace DI
open PySem L2

section
variable {K : PySem.W.Frag} {fa : Nat → Addr} {F H : Hp}

theorem rep_sOf {x : Str} : Rep K fa F (.str x) (.str x.cps.toList) := by
  have e := Rep.str (K := K) (fa := fa) (F := F) x.cps.toList
  rw [sOf_of] at e
  exact e
theorem vals_by : ∀ {xs : List V} {us : List Value}, xs.length = us.length → (∀ (j : Nat) (x : V) (u : Value), xs[j]? = some x → us[j]? = some u → RelV x u) → Vals xs us
  | [], [], _, _ => .nil
  | [], _ :: _, h, _ => by cases h
  | _ :: _, [], h, _ => by cases h
  | x :: xs, u :: us, h, k => .cons (k 0 x u rfl rfl) (vals_by (by simpa using h) fun j y w e1 e2 => k (j + 1) y w (by simpa using e1) (by simpa using e2))
/-! ### displays -/
theorem ok_tup : OpOk K fa .tup (fun xs H Q => xs.length ≤ sizeLine ∧ ∀ p, H p = none → Q (.ref p) (upd H p (.tup xs))) := by
  intro F H vs ds z Q sub rep h q
  have h' : (if ds.length ≤ big then some (R.val (.tup ds)) else none) = some z := h
  split at h'
  · rename_i hz
    cases h'
    refine ⟨by rw [rep.length]; exact le_line hz, fun p hp => q _ _ _ (.froz hp (.tup (SqT.of upd_same) ?_))⟩
    exact rep.mono (same_upd (sub_none sub hp))
  · cases h'
theorem ok_list : OpOk K fa .list (fun xs H Q => xs.length ≤ sizeLine ∧ ∀ p, H p = none → Q (.ref p) (upd H p (.lst xs))) := by
  intro F H vs ds z Q sub rep h q
  have h' : (if ds.length ≤ big then some (R.new ds) else none) = some z := h
  split at h'
  · rename_i hz
    cases h'
    exact ⟨by rw [rep.length]; exact le_line hz, fun p hp => q _ _ _ (.new hp rep)⟩
  · cases h'

/-! ### built-ins by name -/
def rLenA (K : PySem.W.Frag) : List V → Hp → VK → Prop := fun xs H Q => ∃ x n, xs = [x] ∧ LenV K x H n ∧ Q (.int n) H
theorem ok_len : OpOk K fa .len (rLenA K) := by
  intro F H vs ds z Q sub rep h q
  have h' : dLen ds = some z := h
  unfold dLen at h'
  split at h'
  · obtain ⟨x, rfl, h1⟩ := one_of rep
    cases h1.str_of
    split at h'
    · rename_i hz
      cases h'
      refine ⟨_, _, rfl, ⟨by rw [sOf_len]; exact le_line hz, rfl⟩, ?_⟩
      rw [sOf_len]
      exact q _ F H (.same (.int _))
    · cases h'
  · obtain ⟨x, rfl, h1⟩ := one_of rep
    obtain ⟨b, ys, rfl, e2, rl⟩ := h1.lst_of
    cases h'
    refine ⟨_, _, rfl, .inl ⟨ys, SqL.of (sub _ _ e2), rfl⟩, ?_⟩
    rw [rl.length]
    exact q _ F H (.same (.int _))
  · obtain ⟨x, rfl, h1⟩ := one_of rep
    obtain ⟨b, ys, rfl, e2, rl⟩ := h1.scr_of
    cases h'
    refine ⟨_, _, rfl, .inl ⟨ys, sub.seq e2, rfl⟩, ?_⟩
    rw [rl.length]
    exact q _ F H (.same (.int _))
  · obtain ⟨x, rfl, h1⟩ := one_of rep
    obtain ⟨b, ys, rfl, e2, rl⟩ := h1.tup_of
    cases h'
    refine ⟨_, _, rfl, .inr ⟨ys, sqT_mono sub e2, rfl⟩, ?_⟩
    rw [rl.length]
    exact q _ F H (.same (.int _))
  · cases h'
theorem bools_of : ∀ {vs : List V} {ds : List D} {bs : List Bool}, RepL K fa F vs ds → bools ds = some bs → vs = bs.map V.bl
  | _, _, _, .nil, h => by cases h; rfl
  | _, _, _, .cons (.bl b) t, h => by
    obtain ⟨cs, e, rfl⟩ := Option.map_eq_some_iff.mp (show (bools _).map (b :: ·) = some _ from h)
    rw [List.map_cons, bools_of t e]
  | _, _, _, .cons (.non) t, h => by cases h
  | _, _, _, .cons (.int _) t, h => by cases h
  | _, _, _, .cons (.str _) t, h => by cases h
  | _, _, _, .cons (.tup _ _) t, h => by cases h
  | _, _, _, .cons (.lst _ _) t, h => by cases h
  | _, _, _, .cons (.scr _ _) t, h => by cases h
  | _, _, _, .cons (.dct _ _) t, h => by cases h
  | _, _, _, .cons (.fn _) t, h => by cases h
theorem ok_all : OpOk K fa .all (rAll K) := by
  intro F H vs ds z Q sub rep h q
  have h' : dAll ds = some z := h
  unfold dAll at h'
  split at h'
  · obtain ⟨x, rfl, h1⟩ := one_of rep
    obtain ⟨b, ys, rfl, e2, rl⟩ := h1.lst_of
    split at h'
    · rename_i bs hb
      cases h'
      refine ⟨b, bs, rfl, ?_, q _ F H (.same (.bl _))⟩
      rw [← bools_of rl hb]
      exact SqL.of (sub _ _ e2)
    · cases h'
  · cases h'
theorem ok_int : OpOk K fa .int (fun xs H Q => (∃ i, xs = [V.int i] ∧ Q (.int i) H) ∨ ∃ k, xs = [V.bl k] ∧ Q (.int (if k then 1 else 0)) H) := by
  intro F H vs ds z Q sub rep h q
  have h' : dInt ds = some z := h
  unfold dInt at h'
  split at h'
  · obtain ⟨x, rfl, h1⟩ := one_of rep
    cases h1.int_of; cases h'
    exact .inl ⟨_, rfl, q _ F H (.same (.int _))⟩
  · obtain ⟨x, rfl, h1⟩ := one_of rep
    cases h1.bl_of; cases h'
    exact .inr ⟨_, rfl, q _ F H (.same (.int _))⟩
  · cases h'
theorem ok_abs : OpOk K fa .abs (fun xs H Q => ∃ i, xs = [V.int i] ∧ Q (.int (if i < 0 then -i else i)) H) := by
  intro F H vs ds z Q sub rep h q
  have h' : dAbs ds = some z := h
  unfold dAbs at h'
  split at h'
  · obtain ⟨x, rfl, h1⟩ := one_of rep
    cases h1.int_of; cases h'
    exact ⟨_, rfl, q _ F H (.same (.int _))⟩
  · cases h'
theorem ok_max : OpOk K fa .max (fun xs H Q => ∃ i j, xs = [V.int i, V.int j] ∧ Q (.int (if j > i then j else i)) H) := by
  intro F H vs ds z Q sub rep h q
  have h' : dMax ds = some z := h
  unfold dMax at h'
  split at h'
  · obtain ⟨x, y, rfl, h1, h2⟩ := two_of rep
    cases h1.int_of; cases h2.int_of; cases h'
    exact ⟨_, _, rfl, q _ F H (.same (.int _))⟩
  · cases h'
theorem ok_min : OpOk K fa .min (fun xs H Q => ∃ i j, xs = [V.int i, V.int j] ∧ Q (.int (if j < i then j else i)) H) := by
  intro F H vs ds z Q sub rep h q
  have h' : dMin ds = some z := h
  unfold dMin at h'
  split at h'
  · obtain ⟨x, y, rfl, h1, h2⟩ := two_of rep
    cases h1.int_of; cases h2.int_of; cases h'
    exact ⟨_, _, rfl, q _ F H (.same (.int _))⟩
  · cases h'
/-- list(text) -/
def rListStr : List V → Hp → VK → Prop := fun xs H Q => ∃ x : Str, xs = [V.str x] ∧ x.length ≤ sizeLine ∧ ∀ l, H l = none → Q (.ref l) (upd H l (.lst (x.cps.toList.map fun c => V.str ⟨#[c]⟩)))
theorem cr_listStr {X : Cx} (hc : X.calm = true) : CallR X (.type "list") rListStr := by
  intro pins s σ H xs us Q I r h
  obtain ⟨x, rfl, hz, q⟩ := h
  obtain ⟨u, rfl, t, rfl⟩ := vals1 r
  refine call_list_str (I.ok.hd hc) x t (hn := hz) fun h' tk acc' c' hk hS' hacc => ?_
  have hl : (x.cps.toList.map fun c => V.str ⟨#[c]⟩).length = acc'.toList.length := by simp [hacc.1]
  have rv : Vals (x.cps.toList.map fun c => V.str ⟨#[c]⟩) acc'.toList := by
    refine vals_by hl fun j v u hv hu => ?_
    obtain ⟨c, t, hc, rfl⟩ := hacc.2 j u (by simpa using hu)
    rw [List.getElem?_map] at hv
    have hc' : x.cps.toList[j]? = some c := by simpa using hc
    rw [hc'] at hv
    cases hv
    exact ⟨_, rfl⟩
  refine ⟨.ref s.heap.objs.size, _, I.laid (o := .lst (x.cps.toList.map fun c => V.str ⟨#[c]⟩)) hk (Nat.le_refl _) ⟨?_, acc'.toList, c', rv, by simpa using hS'⟩, rfl, q _ (I.hok.fresh (Nat.le_refl _))⟩
  rw [List.length_map]
  simpa [Str.length] using hz
def rListA (K : PySem.W.Frag) : List V → Hp → VK → Prop := fun xs H Q => (∃ p ys, xs = [V.ref p] ∧ (SqL K H p ys ∨ SqT K H p ys) ∧ ∀ l, H l = none → Q (.ref l) (upd H l (.lst ys))) ∨ rListStr xs H Q
theorem cr_listA {X : Cx} (hc : X.calm = true) : CallR X (.type "list") (rListA X.K) := by
  intro pins s σ H xs us Q I r h
  rcases h with h | h
  · exact call_list_of pins s σ H xs us Q I r h
  · exact cr_listStr hc pins s σ H xs us Q I r h
theorem repL_signs : ∀ cs : List Nat, RepL K fa F (cs.map fun c => V.str ⟨#[c]⟩) (cs.map fun c => D.str [c])
  | [] => .nil
  | c :: cs => .cons (.str [c]) (repL_signs cs)
theorem ok_listof : OpOk K fa .listof (rListA K) := by
  intro F H vs ds z Q sub rep h q
  have h' : dListof ds = some z := h
  unfold dListof at h'
  split at h'
  · obtain ⟨x, rfl, h1⟩ := one_of rep
    obtain ⟨b, ys, rfl, e2, rl⟩ := h1.lst_of
    cases h'
    exact .inl ⟨b, ys, rfl, .inl (SqL.of (sub _ _ e2)), fun l hl => q _ _ _ (.new hl rl)⟩
  · obtain ⟨x, rfl, h1⟩ := one_of rep
    obtain ⟨b, ys, rfl, e2, rl⟩ := h1.tup_of
    cases h'
    exact .inl ⟨b, ys, rfl, .inr (sqT_mono sub e2), fun l hl => q _ _ _ (.new hl rl)⟩
  · obtain ⟨x, rfl, h1⟩ := one_of rep
    cases h1.str_of
    split at h'
    · rename_i hz
      cases h'
      refine .inr ⟨_, rfl, by rw [sOf_len]; exact le_line hz, fun l hl => ?_⟩
      rw [sOf_list]
      exact q _ _ _ (.new hl (repL_signs _))
    · cases h'
  · cases h'

/-! ### repr -/
mutual
theorem plain_noDict : ∀ d : D, plain d = true → (toPy d).hasDict = false
  | .non, _ => rfl
  | .bl _, _ => rfl
  | .int _, _ => rfl
  | .str _, _ => rfl
  | .tup xs, h => by
    show PyData.hasDict (.tuple (toPys xs)) = false
    simp only [PyData.hasDict]
    exact plains_noDict xs h
  | .lst xs, h => by
    show PyData.hasDict (.list (toPys xs)) = false
    simp only [PyData.hasDict]
    exact plains_noDict xs h
  | .scr _, h => by cases h
  | .dct _, h => by cases h
  | .fn _, h => by cases h
theorem plains_noDict : ∀ ds : List D, plains ds = true → PyData.hasDictAll (toPys ds) = false
  | [], _ => rfl
  | d :: ds, h => by
    have h' : (plain d && plains ds) = true := h
    rw [Bool.and_eq_true] at h'
    show PyData.hasDictAll (toPy d :: toPys ds) = false
    simp only [PyData.hasDictAll, plain_noDict d h'.1, plains_noDict ds h'.2, Bool.or_self]
end
structure Showy (d : D) : Prop where
  pl : plain d = true
  sh : (toPy d).showable = true
  sz : (toPy d).shown.length ≤ sizeLine
  dp : (toPy d).depth ≤ 60
theorem showy_of {d : D} (h : okShow d = true) : Showy d := by
  unfold okShow at h
  simp only [Bool.and_eq_true, decide_eq_true_eq] at h
  exact ⟨h.1.1.1, h.1.1.2, h.1.2, h.2⟩
def rReprA (K : PySem.W.Frag) (fa : Nat → Addr) : List V → Hp → VK → Prop := fun xs H Q => ∃ F x d, xs = [x] ∧ Same F H ∧ Rep K fa F x d ∧ okShow d = true ∧ Q (.str (toPy d).shown) H
theorem cr_repr {X : Cx} (hg : X.A.guards = some []) (hu : X.A.units + 64 < cLine) : CallR X (.builtin "repr") (rReprA X.K fa) := by
  intro pins s σ H xs us Q I r h
  obtain ⟨F, x, d, rfl, sub, rep, ok, q⟩ := h
  obtain ⟨pl, sh, sz, dp⟩ := showy_of ok
  obtain ⟨u, rfl, rx⟩ := vals1 r
  obtain ⟨as, rd⟩ := Rep.reads I sub d x u pl rep rx
  have nd := plain_noDict d pl
  have ref : ∀ a, u = .ref a → wpAny (model X.prog X.w) X.A (call (.builtin "repr") [u]) (EP X pins σ Q) X.xe s := fun a e => by
    subst e
    exact repr_of_reads' rd sh (noDict_hsm' nd) hg (by omega) (fun _ _ e => e) (fun h' t tk hk => ⟨.str _, H, I.kept hk, ⟨_, rfl⟩, q⟩) sz
  cases rep with
  | non =>
    cases rx
    exact PySem.P.repr_of_none ⟨.str _, H, I.tok _, ⟨_, rfl⟩, q⟩
  | bl b =>
    cases rx
    exact PySem.P.repr_of_bool ⟨.str _, H, I.tok _, ⟨_, rfl⟩, q⟩
  | int i =>
    obtain ⟨t, rfl⟩ := rx
    refine PySem.P.repr_of_int ?_ ⟨.str _, H, I.tok _, ⟨_, rfl⟩, q⟩
    have : (PyData.int i).showable = true := sh
    simpa [PyData.showable] using this
  | str cs =>
    obtain ⟨t, rfl⟩ := rx
    exact PySem.P.repr_of_str ⟨.str _, H, I.tok _, ⟨_, rfl⟩, q⟩ sz
  | tup _ _ => exact ref _ rx
  | lst _ _ => exact ref _ rx
  | scr _ _ => exact ref _ rx
  | dct _ _ => exact ref _ rx
  | fn _ => exact ref _ rx
where
  noDict_hsm' {d : PyData} {as : List Addr} (h : d.hasDict = false) : d.hasDict = true → sysModules ∉ as := fun h' => by rw [h] at h'; cases h'
theorem ok_repr : OpOk K fa .repr (rReprA K fa) := by
  intro F H vs ds z Q sub rep h q
  have h' : dRepr ds = some z := h
  unfold dRepr at h'
  split at h'
  · obtain ⟨x, rfl, h1⟩ := one_of rep
    split at h'
    · rename_i hz
      cases h'
      exact ⟨F, x, _, rfl, sub, h1, hz, q _ F H (.same rep_sOf)⟩
    · cases h'
  · cases h'

/-! ### isinstance -/
theorem ty_of {v : V} {d : D} {a : String} (sub : Same F H) (r : Rep K fa F v d) (h : tyD d = some a) : TyX K H v (.type a) := by
  cases r with
  | non => cases h; exact .base .non
  | bl b => cases h; exact .base (.bl b)
  | int i => cases h; exact .base (.int i)
  | str cs => cases h; exact .base (.str _)
  | tup e _ =>
    cases h
    rcases sqT_mono sub e with (e | ⟨o, e⟩) | ⟨o, its, n, e, c, _⟩
    · exact .base (.tup e)
    · exact .fTuple e
    · exact .kTuple e c
  | lst e _ => cases h; exact .base (.lst (sub _ _ e))
  | scr e _ => cases h
  | dct e _ => cases h; exact .base (.dK (sub _ _ e))
  | fn f => cases h
def rIsiA (K : PySem.W.Frag) (t : String) : V → Hp → VK → Prop := fun x H Q => rIsi K [x, .ty t] H Q
theorem ok_isi {t : String} : OpOk K fa (.isi t) (r1 (rIsiA K t)) := by
  intro F H vs ds z Q sub rep h q
  have h' : dIsi t ds = some z := h
  unfold dIsi at h'
  split at h'
  · obtain ⟨x, rfl, h1⟩ := one_of rep
    split at h'
    · rename_i a ha
      split at h'
      · rename_i b hb
        cases h'
        exact ⟨_, rfl, x, .ty t, .type a, .type t, b, rfl, .ty t, ty_of sub h1 ha, kit_ty hb, q _ F H (.same (.bl _))⟩
      · cases h'
    · cases h'
  · cases h'

/-! ### texts -/
def rJoinA (K : PySem.W.Frag) : R2 := fun x y H Q => ∃ a p, ∃ ys : List Str, x = .str a ∧ y = .ref p ∧ (SqL K H p (ys.map V.str) ∨ SqT K H p (ys.map V.str)) ∧ (ys.map (·.length)).sum + ys.length * a.length ≤ 16777216 ∧ Q (.str (Txt.join a ys)) H
theorem texts_of : ∀ {vs : List V} {ds : List D} {bs : List (List Nat)}, RepL K fa F vs ds → texts ds = some bs → vs = (bs.map sOf).map V.str
  | _, _, _, .nil, h => by cases h; rfl
  | _, _, _, .cons (.str b) t, h => by
    obtain ⟨cs, e, rfl⟩ := Option.map_eq_some_iff.mp (show (texts _).map (b :: ·) = some _ from h)
    rw [List.map_cons, List.map_cons, texts_of t e]
  | _, _, _, .cons (.non) t, h => by cases h
  | _, _, _, .cons (.int _) t, h => by cases h
  | _, _, _, .cons (.bl _) t, h => by cases h
  | _, _, _, .cons (.tup _ _) t, h => by cases h
  | _, _, _, .cons (.lst _ _) t, h => by cases h
  | _, _, _, .cons (.scr _ _) t, h => by cases h
  | _, _, _, .cons (.dct _ _) t, h => by cases h
  | _, _, _, .cons (.fn _) t, h => by cases h
theorem ok_join : OpOk K fa .join (r2 (rJoinA K)) := by
  intro F H vs ds z Q sub rep h q
  have h' : dJoin ds = some z := h
  unfold dJoin at h'
  split at h'
  · obtain ⟨x, y, rfl, h1, h2⟩ := two_of rep
    cases h1.str_of
    obtain ⟨b, ys, rfl, e2, rl⟩ := h2.lst_of
    split at h'
    · rename_i ts ht
      split at h'
      · rename_i hz
        cases h'
        have e3 := texts_of rl ht
        refine ⟨_, _, rfl, _, b, ts.map sOf, rfl, rfl, .inl ?_, ?_, q _ F H (.same rep_sOf)⟩
        · rw [← e3]; exact SqL.of (sub _ _ e2)
        · have e4 : (ts.map sOf).map (fun s => Str.length s) = ts.map (·.length) := by
            rw [List.map_map]; exact List.map_congr_left fun c _ => sOf_len c
          show ((ts.map sOf).map (fun s => Str.length s)).sum + _ ≤ _
          rw [e4, List.length_map, sOf_len]
          exact Nat.le_trans hz (by decide)
      · cases h'
    · cases h'
  · cases h'
theorem ok_upper : OpOk K fa .upper (r1 fun x H Q => ∃ a, x = V.str a ∧ a.length ≤ 5592405 ∧ Q (.str (Txt.upper a)) H) := by
  intro F H vs ds z Q sub rep h q
  have h' : dUpper ds = some z := h
  unfold dUpper at h'
  split at h'
  · obtain ⟨x, rfl, h1⟩ := one_of rep
    cases h1.str_of
    split at h'
    · rename_i hz
      cases h'
      exact ⟨_, rfl, _, rfl, by rw [sOf_len]; exact Nat.le_trans hz (by decide), q _ F H (.same rep_sOf)⟩
    · cases h'
  · cases h'

/-! ### slices -/
def rCutA (K : PySem.W.Frag) : V → Option Int → Option Int → Hp → VK → Prop := fun x lo hi H Q => rSlL K x lo hi H Q ∨ rSlS x lo hi H Q
theorem slr_cut {X : Cx} : SlR X (rCutA X.K) := SlR.or sl_list sl_str
theorem cutL_rep {vs : List V} {ds : List D} (r : RepL K fa F vs ds) (lo hi : Option Int) : RepL K fa F (cutV vs lo hi) (cutL ds lo hi) := by
  unfold cutV cutL
  rw [r.length]
  exact (r.drop _).take _
theorem cutS_L (cs : List Nat) (lo hi : Option Int) : cutS (sOf cs) lo hi = sOf (cutL cs lo hi) := by
  unfold cutS cutL
  rw [sOf_list, sOf_len]
  rfl
/-- the bounds that are there, as values -/
def rCut (K : PySem.W.Frag) (lo hi : Bool) : List V → Hp → VK → Prop := fun vs H Q =>
  match lo, hi, vs with
  | true, true, [x, .int i, .int j] => rCutA K x (some i) (some j) H Q
  | true, false, [x, .int i] => rCutA K x (some i) none H Q
  | false, true, [x, .int j] => rCutA K x none (some j) H Q
  | false, false, [x] => rCutA K x none none H Q
  | _, _, _ => False
theorem cut_gen {x : V} {d : D} {i j : Option Int} {z : R} {Q : VK} (sub : Same F H) (r : Rep K fa F x d)
    (h : cutR i j d = some z)
    (q : ∀ v F' H', ARes K fa F H v z F' H' → Q v H') : rCutA K x i j H Q := by
  unfold cutR at h
  split at h
  · cases r.str_of
    split at h
    · rename_i hz
      cases h
      refine .inr ⟨_, rfl, by rw [sOf_len]; exact le_line hz, ?_⟩
      rw [cutS_L]
      exact q _ F H (.same (.str _))
    · cases h
  · obtain ⟨b, ys, rfl, e2, rl⟩ := r.lst_of
    cases h
    exact .inl ⟨b, ys, rfl, SqL.of (sub _ _ e2), fun p hp => q _ _ _ (.new hp (cutL_rep rl i j))⟩
  · cases h
theorem ok_cut {lo hi : Bool} : OpOk K fa (.cut lo hi) (rCut K lo hi) := by
  intro F H vs ds z Q sub rep h q
  have h' : dCut lo hi ds = some z := h
  cases rep with
  | nil => cases h'
  | @cons x d ws es r rs =>
    unfold dCut at h'
    simp only at h'
    cases lo <;> cases hi
    · simp only [bound] at h'
      cases rs with
      | nil => exact cut_gen sub r h' q
      | cons r1 rs => cases h'
    · simp only [bound] at h'
      cases rs with
      | nil => cases h'
      | cons r1 rs =>
        cases r1 <;> first | cases h' | skip
        simp only [bound] at h'
        cases rs with
        | nil => exact cut_gen sub r h' q
        | cons _ _ => cases h'
    · cases rs with
      | nil => cases h'
      | cons r1 rs =>
        cases r1 <;> first | cases h' | skip
        simp only [bound] at h'
        cases rs with
        | nil => exact cut_gen sub r h' q
        | cons _ _ => cases h'
    · cases rs with
      | nil => cases h'
      | cons r1 rs =>
        cases r1 <;> first | cases h' | skip
        simp only [bound] at h'
        cases rs with
        | nil => cases h'
        | cons r2 rs =>
          cases r2 <;> first | cases h' | skip
          simp only [bound] at h'
          cases rs with
          | nil => exact cut_gen sub r h' q
          | cons _ _ => cases h'
end
end DI

namespace DI
open PySem L2

section
variable {K : PySem.W.Frag} {fa : Nat → Addr} {F H F' H' F1 H1 F2 H2 : Hp} {σ σ' σ1 σ2 : L2.St} {env env' e1 e2 : Ev}

theorem none_back (a : Step K fa F H σ env F1 H1 σ1 e1) {p : Addr} (h : Own σ1 e1 p ∨ H1 p = none) : Own σ env p ∨ H p = none := by
  rcases h with z | z
  · exact a.own p z
  · cases e : H p with
    | none => exact .inr rfl
    | some u =>
      refine .inl (Classical.byContradiction fun n => ?_)
      rw [a.keep p u e n] at z; cases z
theorem RRep.lift {v : V} {r : R} (a : Step K fa F H σ env F1 H1 σ1 e1) (h : RRep K fa H1 σ1 e1 F2 H2 σ2 e2 v r) : RRep K fa H σ env F2 H2 σ2 e2 v r := by
  cases r with
  | val d => exact h
  | new xs =>
    obtain ⟨p, vs, h0, h1, h2⟩ := h
    exact ⟨p, vs, h0, none_back a h1, h2⟩
/-- a new list stays while something else runs -/
theorem RRep.stay {v : V} {r : R} (h : RRep K fa H σ env F1 H1 σ1 e1 v r) (b : Step K fa F1 H1 σ1 e1 F2 H2 σ2 e2) : RRep K fa H σ env F2 H2 σ2 e2 v r := by
  cases r with
  | val d => exact Rep.mono b.sub h
  | new xs =>
    obtain ⟨p, vs, h0, h1, h2, h3, h4, h5⟩ := h
    refine ⟨p, vs, h0, h1, b.stay p (by rw [h3]; simp) h2 h5, b.keep p _ h3 h5, h4.mono b.sub, fun q => ?_⟩
    rcases b.own p q with z | z
    · exact h5 z
    · rw [h3] at z; cases z

/-! ### slots -/
theorem held_iff {i : Nat} {xs : List D} : held env i = some xs ↔ env[i]? = some (.own xs) ∨ env[i]? = some (.io xs) := by
  unfold held
  cases e : env[i]? with
  | none => simp
  | some s => cases s <;> simp
theorem held_set_ne {i j : Nat} {s : Sl} (h : i ≠ j) : held (env.set i s) j = held env j := by
  unfold held
  rw [List.getElem?_set_ne h]
theorem held_lt {i : Nat} {xs : List D} (h : held env i = some xs) : i < env.length := by
  rcases held_iff.mp h with e | e <;> exact (List.getElem?_eq_some_iff.mp e).1
theorem get_set_self {i : Nat} {s : Sl} (h : i < env.length) : (env.set i s)[i]? = some s := List.getElem?_set_self h
theorem held_set_val {i j : Nat} {d : D} {xs : List D} (h : held (env.set i (.val d)) j = some xs) : j ≠ i ∧ held env j = some xs := by
  by_cases e : i = j
  · subst e
    have hl := held_lt h
    rw [List.length_set] at hl
    rcases held_iff.mp h with q | q <;> (rw [List.getElem?_set_self hl] at q; cases q)
  · rw [held_set_ne e] at h
    exact ⟨fun z => e z.symm, h⟩
/-- a name's list becomes a value -/
theorem Step.freezeSlot {i : Nat} {xs : List D} (o : Ok K fa F H σ env) (h : env[i]? = some (.own xs)) :
    ∃ p vs, σ[i]? = some (some (.ref p)) ∧ Step K fa F H σ env (upd F p (.lst vs)) H σ (env.set i (.val (.lst xs))) ∧ Rep K fa (upd F p (.lst vs)) (.ref p) (.lst xs) := by
  obtain ⟨p, vs, h1, h2, h3, h4⟩ := o.own i xs (held_iff.mpr (.inl h))
  have hi : i < env.length := (List.getElem?_eq_some_iff.mp h).1
  have sF : Same F (upd F p (.lst vs)) := same_upd h2
  have op : Own σ env p := ⟨i, xs, held_iff.mpr (.inl h), h1⟩
  have rp : Rep K fa (upd F p (.lst vs)) (.ref p) (.lst xs) := .lst upd_same (h4.mono sF)
  refine ⟨p, vs, h1, ⟨sF, fun _ _ e _ => e, fun a _ hf hn => ?_, ⟨by rw [List.length_set]; exact o.len, fun a u e => ?_, fun j d e => ?_, fun j ys e => ?_, fun j k ys zs q hjk e1 e2 => ?_⟩, fun q hq => ?_, fun j ys e => ?_⟩, rp⟩
  · have : a ≠ p := fun e => by subst e; exact hn op
    rw [upd_ne this]; exact hf
  · by_cases e2 : a = p
    · subst e2; rw [upd_same] at e; cases e; exact h3
    · rw [upd_ne e2] at e; exact o.sub a u e
  · by_cases e2 : i = j
    · subst e2
      rw [get_set_self hi] at e
      cases e
      exact ⟨_, h1, rp⟩
    · rw [List.getElem?_set_ne e2] at e
      obtain ⟨v, q1, q2⟩ := o.val j d e
      exact ⟨v, q1, q2.mono sF⟩
  · obtain ⟨hne, e'⟩ := held_set_val e
    obtain ⟨q, ws, q1, q2, q3, q4⟩ := o.own j ys e'
    have : q ≠ p := fun z => by subst z; exact o.dis j i ys xs q hne e' (held_iff.mpr (.inl h)) q1 h1
    exact ⟨q, ws, q1, by rw [upd_ne this]; exact q2, q3, q4.mono sF⟩
  · obtain ⟨_, e1'⟩ := held_set_val e1
    obtain ⟨_, e2'⟩ := held_set_val e2
    exact o.dis j k ys zs q hjk e1' e2'
  · obtain ⟨j, ys, q1, q2⟩ := hq
    exact .inl ⟨j, ys, (held_set_val q1).2, q2⟩
  · have : i ≠ j := fun z => by subst z; rw [h] at e; cases e
    exact ⟨rfl, ys, by rw [List.getElem?_set_ne this]; exact e⟩
theorem free_not {s : Nat} (h : free env s = true) : s < env.length ∧ ∀ xs, env[s]? ≠ some (.io xs) := by
  unfold free at h
  cases e : env[s]? with
  | none => rw [e] at h; cases h
  | some z =>
    refine ⟨(List.getElem?_eq_some_iff.mp e).1, fun xs q => ?_⟩
    cases q
    rw [e] at h; cases h
/-- name = result -/
theorem Step.assign {v : V} {r : R} {s : Nat} (a : Step K fa F H σ env F1 H1 σ1 e1) (rr : RRep K fa H σ env F1 H1 σ1 e1 v r) (hf : free e1 s = true) :
    Step K fa F H σ env F1 H1 (σ1.set s (some v)) (e1.set s (asSl r)) := by
  obtain ⟨hs, nio⟩ := free_not hf
  have hs' : s < σ1.length := by rw [a.ok.len]; exact hs
  have hv : (σ1.set s (some v))[s]? = some (some v) := List.getElem?_set_self hs'
  have he : (e1.set s (asSl r))[s]? = some (asSl r) := List.getElem?_set_self hs
  have hself : ∀ xs, held (e1.set s (asSl r)) s = some xs → r = .new xs := fun xs h => by
    cases r with
    | val d => rcases held_iff.mp h with q | q <;> (rw [he] at q; cases q)
    | new ys => rcases held_iff.mp h with q | q <;> (rw [he] at q; cases q); rfl
  have apart : ∀ j ys q, j ≠ s → held e1 j = some ys → σ1[j]? = some (some (.ref q)) → v = .ref q → (∃ xs, r = .new xs) → False := fun j ys q hj h1 h2 h3 ⟨xs, hx⟩ => by
    subst hx
    obtain ⟨p, vs, z, _, _, _, _, n⟩ := rr
    rw [h3] at z; cases z
    exact n ⟨j, ys, h1, h2⟩
  refine ⟨a.sub, a.keep, a.stay, ⟨by rw [List.length_set, List.length_set]; exact a.ok.len, a.ok.sub, fun j d e => ?_, fun j ys e => ?_, fun j k ys zs q hjk e1 e2 q1 q2 => ?_⟩, fun q hq => ?_, fun j ys e => ?_⟩
  · by_cases e2 : s = j
    · subst e2
      rw [he] at e
      cases r with
      | val d' => cases e; exact ⟨v, hv, rr⟩
      | new xs => cases e
    · rw [List.getElem?_set_ne e2] at e
      obtain ⟨w, q1, q2⟩ := a.ok.val j d e
      exact ⟨w, by rw [List.getElem?_set_ne e2]; exact q1, q2⟩
  · by_cases e2 : s = j
    · subst e2
      have := hself ys e
      subst this
      obtain ⟨p, vs, z, _, h2, h3, h4, _⟩ := rr
      subst z
      exact ⟨p, vs, hv, h2, h3, h4⟩
    · rw [held_set_ne e2] at e
      obtain ⟨q, ws, q1, q2⟩ := a.ok.own j ys e
      exact ⟨q, ws, by rw [List.getElem?_set_ne e2]; exact q1, q2⟩
  · by_cases ej : s = j
    · subst ej
      have ek : s ≠ k := hjk
      rw [held_set_ne ek] at e2
      rw [List.getElem?_set_ne ek] at q2
      rw [hv] at q1
      exact apart k zs q (Ne.symm ek) e2 q2 (by cases q1; rfl) ⟨ys, hself ys e1⟩
    · rw [held_set_ne ej] at e1
      rw [List.getElem?_set_ne ej] at q1
      by_cases ek : s = k
      · subst ek
        rw [hv] at q2
        exact apart j ys q (Ne.symm ej) e1 q1 (by cases q2; rfl) ⟨zs, hself zs e2⟩
      · rw [held_set_ne ek] at e2
        rw [List.getElem?_set_ne ek] at q2
        exact a.ok.dis j k ys zs q hjk e1 e2 q1 q2
  · obtain ⟨j, ys, q1, q2⟩ := hq
    by_cases ej : s = j
    · subst ej
      have := hself ys q1
      subst this
      obtain ⟨p, vs, z, h0, _⟩ := rr
      subst z
      rw [hv] at q2
      cases q2
      exact h0
    · rw [held_set_ne ej] at q1
      rw [List.getElem?_set_ne ej] at q2
      exact a.own q ⟨j, ys, q1, q2⟩
  · obtain ⟨q1, zs, q2⟩ := a.io j ys e
    have : s ≠ j := fun z => by subst z; exact nio _ q2
    exact ⟨by rw [List.getElem?_set_ne this]; exact q1, zs, by rw [List.getElem?_set_ne this]; exact q2⟩
theorem hold_get {i : Nat} {xs ys : List D} (h : held env i = some xs) : held (hold env i ys) i = some ys ∧ (hold env i ys).length = env.length ∧ (∀ j, i ≠ j → (hold env i ys)[j]? = env[j]?) ∧ (∀ zs, env[i]? = some (.io zs) → (hold env i ys)[i]? = some (.io ys)) ∧ (∀ d, (hold env i ys)[i]? ≠ some (.val d)) := by
  have hi := held_lt h
  unfold hold
  rcases held_iff.mp h with e | e
  · rw [e]
    refine ⟨held_iff.mpr (.inl (get_set_self hi)), by rw [List.length_set], fun j hj => List.getElem?_set_ne hj, fun zs q => ?_, fun d q => ?_⟩
    · cases q
    · rw [get_set_self hi] at q; cases q
  · rw [e]
    refine ⟨held_iff.mpr (.inr (get_set_self hi)), by rw [List.length_set], fun j hj => List.getElem?_set_ne hj, fun zs q => get_set_self hi, fun d q => ?_⟩
    rw [get_set_self hi] at q; cases q
/-- the list at a name is another one now; else all is kept, what is new may be frozen -/
theorem Step.hold {i : Nat} {xs ys : List D} {p : Addr} {ws : List V} (o : Ok K fa F H σ env) (h : held env i = some xs) (hp : σ[i]? = some (some (.ref p))) (sF : Same F F') (sub : Same F' H')
    (keep : ∀ a u, H a = some u → a ≠ p → H' a = some u) (stay : ∀ a, H a ≠ none → F a = none → F' a = none) (hH : H' p = some (.lst ws)) (r : RepL K fa F' ws ys) :
    Step K fa F H σ env F' H' σ (DI.hold env i ys) := by
  obtain ⟨g1, g2, g3, g4, g5⟩ := hold_get (ys := ys) h
  have op : Own σ env p := ⟨i, xs, h, hp⟩
  obtain ⟨fp, vs0, hp0⟩ := o.own_at op
  have heq : ∀ j, i ≠ j → held (DI.hold env i ys) j = held env j := fun j hj => by unfold held; rw [g3 j hj]
  have hcases : ∀ j zs, held (DI.hold env i ys) j = some zs → (j = i ∧ zs = ys) ∨ (i ≠ j ∧ held env j = some zs) := fun j zs e => by
    by_cases ej : i = j
    · subst ej; rw [g1] at e; cases e; exact .inl ⟨rfl, rfl⟩
    · rw [heq j ej] at e; exact .inr ⟨ej, e⟩
  refine ⟨sF, fun a u e n => keep a u e fun z => n (z ▸ op), fun a h1 h2 _ => stay a h1 h2, ⟨by rw [g2]; exact o.len, sub, fun j d e => ?_, fun j zs e => ?_, fun j k as bs q hjk e1 e2 q1 q2 => ?_⟩, fun q hq => ?_, fun j zs e => ?_⟩
  · by_cases ej : i = j
    · subst ej; exact absurd e (g5 d)
    · rw [g3 j ej] at e
      obtain ⟨v, q1, q2⟩ := o.val j d e
      exact ⟨v, q1, q2.mono sF⟩
  · rcases hcases j zs e with ⟨rfl, rfl⟩ | ⟨hj, e'⟩
    · exact ⟨p, ws, hp, stay p (by rw [hp0]; simp) fp, hH, r⟩
    · obtain ⟨q, us, q1, q2, q3, q4⟩ := o.own j zs e'
      have nq : q ≠ p := fun z => by subst z; exact o.dis i j xs zs q hj h e' hp q1
      exact ⟨q, us, q1, stay q (by rw [q3]; simp) q2, keep q _ q3 nq, q4.mono sF⟩
  · rcases hcases j as e1 with ⟨rfl, rfl⟩ | ⟨hj, e1'⟩
    · rcases hcases k bs e2 with ⟨rfl, rfl⟩ | ⟨hk, e2'⟩
      · exact hjk rfl
      · exact o.dis j k xs bs q hjk h e2' q1 q2
    · rcases hcases k bs e2 with ⟨rfl, rfl⟩ | ⟨hk, e2'⟩
      · exact o.dis j k as xs q hjk e1' h q1 q2
      · exact o.dis j k as bs q hjk e1' e2' q1 q2
  · obtain ⟨j, zs, q1, q2⟩ := hq
    rcases hcases j zs q1 with ⟨rfl, rfl⟩ | ⟨hj, e'⟩
    · exact .inl ⟨j, xs, h, q2⟩
    · exact .inl ⟨j, zs, e', q2⟩
  · by_cases ej : i = j
    · subst ej; exact ⟨rfl, ys, g4 zs e⟩
    · exact ⟨rfl, zs, by rw [g3 j ej]; exact e⟩
/-- a write to the list at a name -/
theorem Step.write {i : Nat} {xs ys : List D} {p : Addr} {ws : List V} (o : Ok K fa F H σ env) (h : held env i = some xs) (hp : σ[i]? = some (some (.ref p))) (r : RepL K fa F ws ys) :
    Step K fa F H σ env F (upd H p (.lst ws)) σ (DI.hold env i ys) := by
  obtain ⟨fp, _⟩ := o.own_at ⟨i, xs, h, hp⟩
  exact Step.hold o h hp (Same.refl F) (fun a u e => by rw [upd_ne (ne_of_none e fp)]; exact o.sub a u e) (fun a u e n => by rw [upd_ne n]; exact e) (fun a _ h2 => h2) upd_same r

/-! ### look1 -/
theorem look_rep {i : Nat} {d : D} (o : Ok K fa F H σ env) (h : look1 env i = some d) :
    ∃ v F', σ[i]? = some (some v) ∧ Same F F' ∧ Same F' H ∧ Rep K fa F' v d := by
  unfold look1 at h
  cases e : env[i]? with
  | none => rw [e] at h; cases h
  | some s =>
    rw [e] at h
    have ownc : ∀ xs, held env i = some xs → d = .lst xs → ∃ v F', σ[i]? = some (some v) ∧ Same F F' ∧ Same F' H ∧ Rep K fa F' v d := fun xs hh hd => by
      subst hd
      obtain ⟨p, vs, h1, h2, h3, h4⟩ := o.own i xs hh
      refine ⟨.ref p, upd F p (.lst vs), h1, same_upd h2, fun a u q => ?_, .lst upd_same (h4.mono (same_upd h2))⟩
      by_cases z : a = p
      · subst z; rw [upd_same] at q; cases q; exact h3
      · rw [upd_ne z] at q; exact o.sub a u q
    cases s with
    | un => cases h
    | val d' =>
      cases h
      obtain ⟨v, h1, h2⟩ := o.val i _ e
      exact ⟨v, F, h1, Same.refl _, o.sub, h2⟩
    | own xs => cases h; exact ownc xs (held_iff.mpr (.inl e)) rfl
    | io xs => cases h; exact ownc xs (held_iff.mpr (.inr e)) rfl
end
end DI

namespace DI
open PySem L2

/-! ### the denotation's equations -/
section
variable {cf : CF}
theorem eI_op (o : Op) (as : Is) : eI cf (.op o as) = opF o (eIs cf as) := by
  funext env
  simp only [eI, opF]
  cases eIs cf as env with
  | none => rfl
  | some de =>
    obtain ⟨ds, e1⟩ := de
    simp only
    cases opD o ds <;> rfl
theorem eIs_nil : eIs cf .nil = fun env => some ([], env) := by funext env; simp only [eIs]
theorem eIs_cons (a : I) (as : Is) : eIs cf (.cons a as) = consD (asV (eI cf a)) (eIs cf as) := by
  funext env
  simp only [eIs, consD, asV]
  cases eI cf a env with
  | none => rfl
  | some de =>
    obtain ⟨r, e1⟩ := de
    simp only
    cases eIs cf as e1 with
    | none => rfl
    | some q => obtain ⟨ds, e2⟩ := q; rfl
theorem eIs_two (a b : I) : eIs cf (.cons a (.cons b .nil)) = two (asV (eI cf a)) (asV (eI cf b)) := by rw [eIs_cons, eIs_cons, eIs_nil]; rfl
theorem eIs_one (a : I) : eIs cf (.cons a .nil) = one (asV (eI cf a)) := by rw [eIs_cons, eIs_nil]; rfl
end

section
variable {X : Cx} {fa : Nat → Addr} {cf : CF} {pos : Pos}
abbrev PI' (X : Cx) (fa : Nat → Addr) (cf : CF) (e : Expr) (i : I) : Prop := PE X e (tI X.K fa (eI cf i))
abbrev PIs' (X : Cx) (fa : Nat → Addr) (cf : CF) (es : List Expr) (i : Is) : Prop := PA X es (tVs X.K fa (eIs cf i))
abbrev PT' (X : Cx) (fa : Nat → Addr) (cf : CF) (e : Expr) (t : T) : Prop := PT X e (tB X.K fa (eT cf t))

/-! ### constants and names -/
theorem s_c {v : V} {d : D} {e : Expr} (h : PE X e (tC v)) (r : Rep X.K fa (fun _ => none) v d) : PI' X fa cf e (.con d) := pe_weak h fun σ H Q q => by
  obtain ⟨F, env, z, env', ok, e, q⟩ := q
  simp only [eI] at e
  cases e
  exact q F H v (Step.refl ok) (r.mono fun _ _ z => by cases z)
theorem s_int {i : Int} {j : Nat} : PI' X fa cf (.Constant (.int i) j pos) (.con (.int i)) := s_c pe_int (.int i)
theorem s_bl {i : Bool} {j : Nat} : PI' X fa cf (.Constant (.bool i) j pos) (.con (.bl i)) := s_c pe_bl (.bl i)
theorem s_non {j : Nat} : PI' X fa cf (.Constant .none j pos) (.con .non) := s_c pe_non .non
theorem s_str {x : Str} {j : Nat} : PI' X fa cf (.Constant (.str x) j pos) (.con (.str x.cps.toList)) := s_c pe_str rep_sOf
theorem s_var {i : Nat} {x : Str} (hN : X.N[i]? = some x) (hv : Vis X.env.scope x) (hd : (x == ("__debug__" : Str)) = false) (hcd : (x == ("__classdict__" : Str)) = false) : PI' X fa cf (.Name x pos) (.var i) :=
  pe_weak (pe_var hN hv hd hcd) fun σ H Q q => by
    obtain ⟨F, env, z, env', ok, e, q⟩ := q
    simp only [eI, rdV] at e
    cases e1 : env[i]? with
    | none => rw [e1] at e; cases e
    | some s =>
      rw [e1] at e
      cases s with
      | un => cases e
      | io xs => cases e
      | val d =>
        cases e
        obtain ⟨v, h1, h2⟩ := ok.val i d e1
        exact ⟨v, h1, q F H v (Step.refl ok) h2⟩
      | own xs =>
        cases e
        obtain ⟨p, vs, h1, st, rp⟩ := Step.freezeSlot ok e1
        exact ⟨_, h1, q _ H _ st rp⟩

/-! ### operators -/
variable {a b c : Expr} {ia ib ic : I}
theorem s_op2 {op : Operator} {o : Op} {r : R2} (hr : OpR X (binaryOp op) r) (ho : OpOk X.K fa o (r2 r)) (ha : PI' X fa cf a ia) (hb : PI' X fa cf b ib) : PI' X fa cf (.BinOp a op b pos) (.op o (.cons ia (.cons ib .nil))) := by
  show PE X _ (tI X.K fa (eI cf _))
  rw [eI_op, eIs_two]
  exact pe_opD hr ho (pe_asV ha) (pe_asV hb)
theorem s_un {op : UnaryOp} {o : Op} {r : V → Hp → VK → Prop} (hr : UnR X (unaryOp op) r) (ho : OpOk X.K fa o (r1 r)) (ha : PI' X fa cf a ia) : PI' X fa cf (.UnaryOp op a pos) (.op o (.cons ia .nil)) := by
  show PE X _ (tI X.K fa (eI cf _))
  rw [eI_op, eIs_one]
  exact pe_unD hr ho (pe_asV ha)
theorem s_cmp {op : CmpOp} {o : Op} {r : R2} (hr : OpR X (compareOp op) r) (ho : OpOk X.K fa o (r2 r)) (ha : PI' X fa cf a ia) (hb : PI' X fa cf b ib) (hm : behindInMarks op b = false) : PI' X fa cf (.Compare a [op] [b] pos) (.op o (.cons ia (.cons ib .nil))) := by
  show PE X _ (tI X.K fa (eI cf _))
  rw [eI_op, eIs_two]
  exact pe_cmpD hr ho (pe_asV ha) (pe_asV hb) hm
theorem s_item (ha : PI' X fa cf a ia) (hb : PI' X fa cf b ib) (hs : PlainIx b) : PI' X fa cf (.Subscript a b pos) (.op .item (.cons ia (.cons ib .nil))) := by
  show PE X _ (tI X.K fa (eI cf _))
  rw [eI_op, eIs_two]
  exact pe_weak (pe_ix ixr_item (pe_asV ha) (pe_asV hb) hs) fun _ _ _ q => tOp_D ok_item q

/-! ### argument lists, displays, calls of built-ins -/
variable {es : List Expr} {is : Is} {e : Expr}
theorem s_nil : PIs' X fa cf [] .nil := by
  show PA X _ (tVs X.K fa (eIs cf _))
  rw [eIs_nil]
  exact pa_nilD
theorem s_cons (ha : PI' X fa cf e ia) (hr : PIs' X fa cf es is) (hs : starEach (e :: es) X.env = (false, eval e X.env) :: starEach es X.env) : PIs' X fa cf (e :: es) (.cons ia is) := by
  show PA X _ (tVs X.K fa (eIs cf _))
  rw [eIs_cons]
  exact pa_consD (pe_asV ha) hr hs
theorem s_tup {k : Nat} (h : PIs' X fa cf es is) : PI' X fa cf (.Tuple es k pos) (.op .tup is) := by
  show PE X _ (tI X.K fa (eI cf _))
  rw [eI_op]
  exact pe_weak (pe_tup h) fun _ _ _ q => op_by ok_tup q
theorem s_lst (h : PIs' X fa cf es is) : PI' X fa cf (.List es pos) (.op .list is) := by
  show PE X _ (tI X.K fa (eI cf _))
  rw [eI_op]
  exact pe_weak (pe_lst h) fun _ _ _ q => op_by ok_list q
theorem s_callB {x : Str} {p : Pos} {id : String} {o : Op} {r : List V → Hp → VK → Prop} (hc : CallR X (.builtin id) r) (ho : OpOk X.K fa o r) (hg : Gl X x) (hm : X.mg x = none) (hv : bootBuiltins x = some (.builtin id)) (h : PIs' X fa cf (e :: es) is) (hn : x ≠ "__name__") (hdb : (x == ("__debug__" : Str)) = false)
    (he : starEach (e :: es) X.env = (false, eval e X.env) :: starEach es X.env) (hpl : (backTo pos (starEach es X.env)).any (·.1) = false) : PI' X fa cf (.Call (.Name x p) (e :: es) [] pos) (.op o is) := by
  show PE X _ (tI X.K fa (eI cf _))
  rw [eI_op]
  exact pe_weak (pe_callB hc hg hm hv h hn hdb he hpl) fun _ _ _ q => op_by ho q
theorem s_callTy {x : Str} {p : Pos} {id : String} {o : Op} {r : List V → Hp → VK → Prop} (hc : CallR X (.type id) r) (ho : OpOk X.K fa o r) (hg : Gl X x) (hm : X.mg x = none) (hv : bootBuiltins x = some (.type id)) (h : PIs' X fa cf (e :: es) is) (hn : x ≠ "__name__") (hdb : (x == ("__debug__" : Str)) = false)
    (he : starEach (e :: es) X.env = (false, eval e X.env) :: starEach es X.env) (hpl : (backTo pos (starEach es X.env)).any (·.1) = false) : PI' X fa cf (.Call (.Name x p) (e :: es) [] pos) (.op o is) := by
  show PE X _ (tI X.K fa (eI cf _))
  rw [eI_op]
  exact pe_weak (pe_callTy hc hg hm hv h hn hdb he hpl) fun _ _ _ q => op_by ho q
/-- isinstance(e, T), T a built-in class -/
theorem s_isi {t : Str} {T : String} {p p2 : Pos} (hg : Gl X "isinstance") (hm : X.mg "isinstance" = none) (hgt : Gl X t) (hmt : X.mg t = none) (hvt : bootBuiltins t = some (.type T)) (hnt : t ≠ "__name__") (hdt : (t == ("__debug__" : Str)) = false) (h : PI' X fa cf e ia)
    (he : starEach [e, .Name t p2] X.env = (false, eval e X.env) :: starEach [.Name t p2] X.env) (hpl : (backTo pos (starEach [.Name t p2] X.env)).any (·.1) = false) : PI' X fa cf (.Call (.Name "isinstance" p) [e, .Name t p2] [] pos) (.op (.isi T) (.cons ia .nil)) := by
  show PE X _ (tI X.K fa (eI cf _))
  rw [eI_op, eIs_one]
  have hA : PA X [e, .Name t p2] (tCons (tV X.K fa (asV (eI cf ia))) (tCons (tC (.ty T)) tNil)) := pa_cons (pe_asV h) (pa_cons (pe_bltn hgt hmt hvt (show RelV (.ty T) (.type T) from rfl) hnt hdt) pa_nil) he
  refine pe_weak (pe_callB call_isi hg hm (by decide +kernel) hA (by decide +kernel) (by decide +kernel) he hpl) fun σ H Q q => ?_
  exact tV_mono (one_D (op_by ok_isi q)) fun x H1 ⟨y, ey, z⟩ => by cases ey; exact z
/-- the first operand is of a kind that the operation tells -/
theorem two_first {o : Op} {r : R2} (ho : OpOk X.K fa o (r2 r)) {P : V → Prop} (hp : ∀ F v d d' z, Rep X.K fa F v d → opD o [d, d'] = some z → P v) {f g : Ev → Option (D × Ev)} {σ : L2.St} {H : Hp} {Q : VK} (h : tI X.K fa (opF o (two f g)) σ H Q) :
    tV X.K fa f σ H fun x H1 => P x ∧ tV X.K fa g σ H1 fun y H2 => r x y H2 Q := by
  have h0 := tOp_D ho h
  obtain ⟨F, env, z, env', ok, e, q⟩ := h
  obtain ⟨ds, h1, h2⟩ := opF_some e
  obtain ⟨d, e1, es, h3, h4, rfl⟩ := consD_some h1
  obtain ⟨d', e2, es', h5, h6, rfl⟩ := consD_some h4
  cases h6
  refine ⟨F, env, d, e1, ok, h3, fun F1 H1 v s1 r1 => ⟨hp F1 v d d' z r1 h2, F1, e1, d', env', s1.ok, h5, fun F2 H2 w s2 r2 => ?_⟩⟩
  obtain ⟨x, y, exy, hr⟩ := ho F2 H2 [v, w] [d, d'] z Q s2.ok.sub (.cons (r1.mono s2.sub) (.cons r2 .nil)) h2 fun v' F3 H3 ar => by
    obtain ⟨s3, rr⟩ := ar.step s2.ok
    exact q F3 H3 v' ((s1.trans s2).trans s3) (rr.lift (s1.trans s2))
  cases exy
  exact hr
theorem join_first {F : Hp} {v : V} {d d' : D} {z : R} (r : Rep X.K fa F v d) (h : opD .join [d, d'] = some z) : ∃ a, v = V.str a := by
  have h' : dJoin [d, d'] = some z := h
  unfold dJoin at h'
  split at h'
  · rename_i cs xs heq
    cases heq
    exact ⟨_, r.str_of⟩
  · cases h'
/-- sep.join(e), e.upper() -/
theorem s_join {apos : Pos} (ha : PI' X fa cf a ia) (hb : PI' X fa cf b ib) (hs : starEach [b] X.env = [(false, eval b X.env)]) (hbase : attributeBase a "join" X.env (eval a X.env) = eval a X.env) (hline : (apos.endLine == pos.line) = true) :
    PI' X fa cf (.Call (.Attribute a "join" apos) [b] [] pos) (.op .join (.cons ia (.cons ib .nil))) := by
  show PE X _ (tI X.K fa (eI cf _))
  rw [eI_op, eIs_two]
  refine pe_weak (pe_join (pe_asV ha) (pe_asV hb) hs hbase hline) fun σ H Q q => ?_
  refine tV_mono (two_first ok_join (fun F v d d' z r h => join_first r h) q) fun x H1 ⟨hx, k⟩ => ⟨hx, tV_mono k fun y H2 ⟨a, p, ys, h1, h2, h3, h4, h5⟩ => ?_⟩
  exact ⟨a, p, ys, h1, by rw [h2], h3, h4, h5⟩
theorem s_upper {apos : Pos} (ha : PI' X fa cf a ia) (hbase : attributeBase a "upper" X.env (eval a X.env) = eval a X.env) (hline : (apos.endLine == pos.line) = true) : PI' X fa cf (.Call (.Attribute a "upper" apos) [] [] pos) (.op .upper (.cons ia .nil)) := by
  show PE X _ (tI X.K fa (eI cf _))
  rw [eI_op, eIs_one]
  refine pe_weak (pe_upper (pe_asV ha) hbase hline) fun σ H Q q => ?_
  exact tV_mono (one_D (op_by ok_upper q)) fun x H1 ⟨y, ey, a, h1, h2, h3⟩ => by cases ey; exact ⟨⟨a, h1⟩, a, h1, rfl, h2, h3⟩
/-- a[lo:hi] -/
theorem cut_end {F F1 H H1 : Hp} {σ : L2.St} {env e1 : Ev} {x : V} {d : D} {i j : Option Int} {z : R} {Q : VK} (s : Step X.K fa F H σ env F1 H1 σ e1) (r : Rep X.K fa F1 x d) (h : cutR i j d = some z)
    (q : ∀ F' H' v, Step X.K fa F H σ env F' H' σ e1 → RRep X.K fa H σ env F' H' σ e1 v z → Q v H') : rCutA X.K x i j H1 Q :=
  cut_gen s.ok.sub r h fun v F' H' ar => by
    obtain ⟨s3, rr⟩ := ar.step s.ok
    exact q F' H' v (s.trans s3) (rr.lift s)
theorem bound_int {d : D} {es : List D} {o : Option Int × List D} (h : bound true (d :: es) = some o) : ∃ i, d = .int i ∧ o = (some i, es) := by
  cases d <;> simp only [bound] at h <;> first | cases h; exact ⟨_, rfl, rfl⟩ | cases h
theorem s_cut11 {p2 : Pos} (ha : PI' X fa cf a ia) (hb : PI' X fa cf b ib) (hc : PI' X fa cf c ic) : PI' X fa cf (.Subscript a (.Slice (some b) (some c) none p2) pos) (.op (.cut true true) (.cons ia (.cons ib (.cons ic .nil)))) := by
  show PE X _ (tI X.K fa (eI cf _))
  rw [eI_op, eIs_cons, eIs_two]
  refine pe_weak (pe_slice slr_cut (pe_asV ha) (po_some (pe_asV hb)) (po_some (pe_asV hc))) fun σ H Q q => ?_
  obtain ⟨F, env, z, env', ok, e, q⟩ := q
  obtain ⟨ds, h1, h2⟩ := opF_some e
  obtain ⟨d, e1, es, h3, h4, rfl⟩ := consD_some h1
  obtain ⟨d', e2, es', h5, h6, rfl⟩ := consD_some h4
  obtain ⟨d'', e3, es'', h7, h8, rfl⟩ := consD_some h6
  cases h8
  have hz : dCut true true [d, d', d''] = some z := h2
  unfold dCut at hz
  simp only at hz
  split at hz
  · rename_i o es1 hb1
    obtain ⟨i, rfl, e1'⟩ := bound_int hb1
    cases e1'
    split at hz
    · rename_i o2 hb2
      obtain ⟨j, rfl, e2'⟩ := bound_int hb2
      cases e2'
      exact ⟨F, env, d, e1, ok, h3, fun F1 H1 v s1 r1 => ⟨F1, e1, _, e2, s1.ok, h5, fun F2 H2 v2 s2 r2 => ⟨i, r2.int_of, F2, e2, _, _, s2.ok, h7, fun F3 H3 v3 s3 r3 => ⟨j, r3.int_of, cut_end ((s1.trans s2).trans s3) ((r1.mono s2.sub).mono s3.sub) hz q⟩⟩⟩⟩
    · cases hz
  · cases hz
theorem s_cut10 {p2 : Pos} (ha : PI' X fa cf a ia) (hb : PI' X fa cf b ib) : PI' X fa cf (.Subscript a (.Slice (some b) none none p2) pos) (.op (.cut true false) (.cons ia (.cons ib .nil))) := by
  show PE X _ (tI X.K fa (eI cf _))
  rw [eI_op, eIs_two]
  refine pe_weak (pe_slice slr_cut (pe_asV ha) (po_some (pe_asV hb)) po_none) fun σ H Q q => ?_
  obtain ⟨F, env, z, env', ok, e, q⟩ := q
  obtain ⟨ds, h1, h2⟩ := opF_some e
  obtain ⟨d, e1, es, h3, h4, rfl⟩ := consD_some h1
  obtain ⟨d', e2, es', h5, h6, rfl⟩ := consD_some h4
  cases h6
  have hz : dCut true false [d, d'] = some z := h2
  unfold dCut at hz
  simp only at hz
  split at hz
  · rename_i o es1 hb1
    obtain ⟨i, rfl, e1'⟩ := bound_int hb1
    cases e1'
    simp only [bound] at hz
    exact ⟨F, env, d, e1, ok, h3, fun F1 H1 v s1 r1 => ⟨F1, e1, _, _, s1.ok, h5, fun F2 H2 v2 s2 r2 => ⟨i, r2.int_of, cut_end (s1.trans s2) (r1.mono s2.sub) hz q⟩⟩⟩
  · cases hz
theorem s_cut01 {p2 : Pos} (ha : PI' X fa cf a ia) (hb : PI' X fa cf b ib) : PI' X fa cf (.Subscript a (.Slice none (some b) none p2) pos) (.op (.cut false true) (.cons ia (.cons ib .nil))) := by
  show PE X _ (tI X.K fa (eI cf _))
  rw [eI_op, eIs_two]
  refine pe_weak (pe_slice slr_cut (pe_asV ha) po_none (po_some (pe_asV hb))) fun σ H Q q => ?_
  obtain ⟨F, env, z, env', ok, e, q⟩ := q
  obtain ⟨ds, h1, h2⟩ := opF_some e
  obtain ⟨d, e1, es, h3, h4, rfl⟩ := consD_some h1
  obtain ⟨d', e2, es', h5, h6, rfl⟩ := consD_some h4
  cases h6
  have hz : dCut false true [d, d'] = some z := h2
  unfold dCut at hz
  simp only [bound] at hz
  split at hz
  · rename_i o hb1
    obtain ⟨i, rfl, e1'⟩ := bound_int hb1
    cases e1'
    exact ⟨F, env, d, e1, ok, h3, fun F1 H1 v s1 r1 => ⟨F1, e1, _, _, s1.ok, h5, fun F2 H2 v2 s2 r2 => ⟨i, r2.int_of, cut_end (s1.trans s2) (r1.mono s2.sub) hz q⟩⟩⟩
  · cases hz

/-! ### and, or, not, a if t else b; tests -/
theorem s_and1 {op : BoolOp} (ha : PI' X fa cf a ia) : PI' X fa cf (.BoolOp op [a] pos) ia := pe_one ha
theorem s_and {rest : List Expr} (ha : PI' X fa cf a ia) (hb : PI' X fa cf (.BoolOp .And (b :: rest) pos) ib) : PI' X fa cf (.BoolOp .And (a :: b :: rest) pos) (.andb ia ib) := pe_weak (pe_and ha hb) fun σ H Q q => by
  obtain ⟨F, env, z, env', ok, e, q⟩ := q
  simp only [eI] at e
  split at e
  · rename_i e1 h1
    refine ⟨F, env, _, e1, ok, h1, fun F1 H1 v s1 r1 => ⟨true, Rep.bl_of r1, ?_⟩⟩
    refine iteT ?_
    exact ⟨F1, e1, z, env', s1.ok, e, fun F2 H2 w s2 r2 => q F2 H2 w (s1.trans s2) (r2.lift s1)⟩
  · rename_i e1 h1
    cases e
    refine ⟨F, env, _, _, ok, h1, fun F1 H1 v s1 r1 => ⟨false, Rep.bl_of r1, ?_⟩⟩
    refine iteF ?_
    exact q F1 H1 _ s1 (.bl false)
  · cases e
theorem s_or {rest : List Expr} (ha : PI' X fa cf a ia) (hb : PI' X fa cf (.BoolOp .Or (b :: rest) pos) ib) : PI' X fa cf (.BoolOp .Or (a :: b :: rest) pos) (.orb ia ib) := pe_weak (pe_or ha hb) fun σ H Q q => by
  obtain ⟨F, env, z, env', ok, e, q⟩ := q
  simp only [eI] at e
  split at e
  · rename_i e1 h1
    refine ⟨F, env, _, e1, ok, h1, fun F1 H1 v s1 r1 => ⟨false, Rep.bl_of r1, ?_⟩⟩
    refine iteF ?_
    exact ⟨F1, e1, z, env', s1.ok, e, fun F2 H2 w s2 r2 => q F2 H2 w (s1.trans s2) (r2.lift s1)⟩
  · rename_i e1 h1
    cases e
    refine ⟨F, env, _, _, ok, h1, fun F1 H1 v s1 r1 => ⟨true, Rep.bl_of r1, ?_⟩⟩
    refine iteT ?_
    exact q F1 H1 _ s1 (.bl true)
  · cases e
theorem s_not (ha : PI' X fa cf a ia) : PI' X fa cf (.UnaryOp .Not a pos) (.notb ia) := pe_weak (pe_not ha) fun σ H Q q => by
  obtain ⟨F, env, z, env', ok, e, q⟩ := q
  simp only [eI] at e
  split at e
  · rename_i bb e1 h1
    cases e
    exact ⟨F, env, _, _, ok, h1, fun F1 H1 v s1 r1 => ⟨bb, Rep.bl_of r1, q F1 H1 _ s1 (.bl _)⟩⟩
  · cases e
variable {tc ta tb : T}
theorem s_ife (hc : PT' X fa cf c tc) (ha : PI' X fa cf a ia) (hb : PI' X fa cf b ib) : PI' X fa cf (.IfExp c a b pos) (.ife tc ia ib) := pe_weak (pe_ifExp hc ha hb) fun σ H Q q => by
  obtain ⟨F, env, z, env', ok, e, q⟩ := q
  simp only [eI] at e
  split at e
  · rename_i e1 h1
    refine ⟨F, env, true, e1, ok, h1, fun F1 H1 s1 => ?_⟩
    refine iteT ?_
    exact ⟨F1, e1, z, env', s1.ok, e, fun F2 H2 w s2 r2 => q F2 H2 w (s1.trans s2) (r2.lift s1)⟩
  · rename_i e1 h1
    refine ⟨F, env, false, e1, ok, h1, fun F1 H1 s1 => ?_⟩
    refine iteF ?_
    exact ⟨F1, e1, z, env', s1.ok, e, fun F2 H2 w s2 r2 => q F2 H2 w (s1.trans s2) (r2.lift s1)⟩
  · cases e
theorem truth_of {K : PySem.W.Frag} {F H : Hp} {v : V} {d : D} {k : Bool} (sub : Same F H) (r : Rep K fa F v d) (h : truth d = some k) : TruV K v H k := by
  cases r with
  | non => cases h; exact rfl
  | bl b => cases h; exact rfl
  | int i => cases h; exact rfl
  | str cs =>
    simp only [truth] at h
    split at h
    · rename_i hz
      cases h
      exact ⟨by rw [sOf_len]; exact le_line hz, by rw [sOf_len]⟩
    · cases h
  | tup e rl => cases h; exact .inr (.inl ⟨_, sqT_mono sub e, by cases rl <;> rfl⟩)
  | lst e rl => cases h; exact .inl ⟨_, SqL.of (sub _ _ e), by cases rl <;> rfl⟩
  | scr _ _ => cases h
  | dct _ _ => cases h
  | fn _ => cases h
theorem t_val (ha : PI' X fa cf a ia) (he : ∀ whole, isTrue a X.env whole = (do let v ← whole; standAt a.pos; holding [v] (truthy v))) : PT' X fa cf a (.val ia) := pt_weak (pt_truth (pe_asV ha) he) fun σ H Q q => by
  obtain ⟨F, env, k, env', ok, e, q⟩ := q
  simp only [eT] at e
  split at e
  · rename_i r e1 h1
    obtain ⟨b', hb, e2⟩ := Option.map_eq_some_iff.mp e
    cases e2
    exact ⟨F, env, r.d, _, ok, by unfold asV; rw [h1], fun F1 H1 v s1 r1 => ⟨_, truth_of s1.ok.sub r1 hb, q F1 H1 s1⟩⟩
  · cases e
theorem t_not (ha : PT' X fa cf a ta) : PT' X fa cf (.UnaryOp .Not a pos) (.not ta) := pt_weak (pt_not ha) fun σ H Q q => by
  obtain ⟨F, env, k, env', ok, e, q⟩ := q
  simp only [eT] at e
  obtain ⟨⟨b', e1⟩, hb, e2⟩ := Option.map_eq_some_iff.mp e
  cases e2
  exact ⟨F, env, _, _, ok, hb, fun F1 H1 s1 => q F1 H1 s1⟩
theorem tw_one {op : BoolOp} (ha : PT' X fa cf a ta) : PW X (.BoolOp op [a] pos) (tB X.K fa (eT cf ta)) := by
  cases op with
  | And => exact pw_and1 ha
  | Or => exact pw_or1 ha
theorem pw_weak {t t' : TT} (h : PW X e t) (w : ∀ σ H Q, t' σ H Q → t σ H Q) : PW X e t' := ⟨fun wh pins s σ H Q I q => h.run wh pins s σ H Q I (w σ H Q q)⟩
theorem tw_and {rest : List Expr} (ha : PT' X fa cf a ta) (hb : PW X (.BoolOp .And (b :: rest) pos) (tB X.K fa (eT cf tb))) : PW X (.BoolOp .And (a :: b :: rest) pos) (tB X.K fa (eT cf (.and ta tb))) := pw_weak (pw_and ha hb) fun σ H Q q => by
  obtain ⟨F, env, k, env', ok, e, q⟩ := q
  simp only [eT] at e
  split at e
  · rename_i e1 h1
    refine ⟨F, env, true, e1, ok, h1, fun F1 H1 s1 => ?_⟩
    refine iteT ?_
    exact ⟨F1, e1, k, env', s1.ok, e, fun F2 H2 s2 => q F2 H2 (s1.trans s2)⟩
  · rename_i e1 h1
    cases e
    refine ⟨F, env, false, _, ok, h1, fun F1 H1 s1 => ?_⟩
    refine iteF ?_
    exact q F1 H1 s1
  · cases e
theorem tw_or {rest : List Expr} (ha : PT' X fa cf a ta) (hb : PW X (.BoolOp .Or (b :: rest) pos) (tB X.K fa (eT cf tb))) : PW X (.BoolOp .Or (a :: b :: rest) pos) (tB X.K fa (eT cf (.or ta tb))) := pw_weak (pw_or ha hb) fun σ H Q q => by
  obtain ⟨F, env, k, env', ok, e, q⟩ := q
  simp only [eT] at e
  split at e
  · rename_i e1 h1
    refine ⟨F, env, false, e1, ok, h1, fun F1 H1 s1 => ?_⟩
    refine iteF ?_
    exact ⟨F1, e1, k, env', s1.ok, e, fun F2 H2 s2 => q F2 H2 (s1.trans s2)⟩
  · rename_i e1 h1
    cases e
    refine ⟨F, env, true, _, ok, h1, fun F1 H1 s1 => ?_⟩
    refine iteT ?_
    exact q F1 H1 s1
  · cases e
theorem t_yes : PTs X [] (tB X.K fa (eT cf .yes)) := ⟨fun pins s σ H Q I q => by
  refine pts_nil.run pins s σ H Q I ?_
  obtain ⟨F, env, k, env', ok, e, q⟩ := q
  simp only [eT] at e
  cases e
  exact q F H (Step.refl ok)⟩
theorem t_ifs (ha : PT' X fa cf a ta) : PTs X [a] (tB X.K fa (eT cf ta)) := pts_one ha
/-- the answers of comparisons are truth values -/
def isCmp : Op → Bool
  | .eq | .ne | .lt | .le | .gt | .ge | .isin | .notin | .isn | .notn | .isb => true
  | _ => false
theorem cmp_bl {o : Op} {ds : List D} {z : R} (ho : isCmp o = true) (h : opD o ds = some z) : ∃ k, z = .val (.bl k) := by
  cases o <;> first | cases ho | skip
  all_goals
    simp only [opD] at h
    first | unfold dEq at h | unfold dNe at h | unfold dLt at h | unfold dLe at h | unfold dGt at h | unfold dGe at h | unfold dIn at h | unfold dIsn at h | unfold dIsb at h
    repeat' split at h
    all_goals first | (cases h; exact ⟨_, rfl⟩) | cases h
theorem t_cmp {op : CmpOp} {o : Op} {r : R2} (hr : OpR X (compareOp op) r) (ho : OpOk X.K fa o (r2 r)) (hk : isCmp o = true) (ha : PI' X fa cf a ia) (hb : PI' X fa cf b ib) (hm : behindInMarks op b = false) : PT' X fa cf (.Compare a [op] [b] pos) (.val (.op o (.cons ia (.cons ib .nil)))) :=
  pt_weak (pt_cmpR hr (pe_asV ha) (pe_asV hb) hm) fun σ H Q q => by
    obtain ⟨F, env, k, env', ok, e, q⟩ := q
    simp only [eT] at e
    split at e
    · rename_i z e1 h1
      rw [eI_op, eIs_two] at h1
      obtain ⟨b', hb', e2⟩ := Option.map_eq_some_iff.mp e
      cases e2
      refine tOp_D ho ⟨F, env, z, _, ok, h1, fun F1 H1 v s1 r1 => ?_⟩
      obtain ⟨ds, _, h3⟩ := opF_some h1
      obtain ⟨k', rfl⟩ := cmp_bl hk h3
      cases hb'
      exact ⟨_, Rep.bl_of r1, q F1 H1 s1⟩
    · cases e
/-- a < b < c -/
theorem chain_D {o p : Op} {r r' : R2} (ho : OpOk X.K fa o (r2 r)) (hp : OpOk X.K fa p (r2 r')) {σ : L2.St} {H : Hp} {Q : VK} (q : tI X.K fa (eI cf (.chain o p ia ib ic)) σ H Q) : tChain r r' (tV X.K fa (asV (eI cf ia))) (tV X.K fa (asV (eI cf ib))) (tV X.K fa (asV (eI cf ic))) σ H Q := by
  obtain ⟨F, env, z, env', ok, e, q⟩ := q
  simp only [eI] at e
  split at e
  · rename_i x e1 h1
    split at e
    · rename_i y e2 h2
      refine ⟨F, env, x.d, e1, ok, by unfold asV; rw [h1], fun F1 H1 v s1 r1 => ⟨F1, e1, y.d, e2, s1.ok, by unfold asV; rw [h2], fun F2 H2 w s2 r2 => ?_⟩⟩
      have fin : ∀ {kk : Bool} (hz : opD o [x.d, y.d] = some (.val (.bl kk))) (Q' : VK), (∀ F' H', Step X.K fa F2 H2 σ e2 F' H' σ e2 → Q' (.bl kk) H') → r v w H2 Q' := fun {kk} hz Q' hq => by
        obtain ⟨a', b', exy, hr⟩ := ho F2 H2 [v, w] [x.d, y.d] _ Q' s2.ok.sub (.cons (r1.mono s2.sub) (.cons r2 .nil)) hz fun v' F3 H3 ar => by
          obtain ⟨s3, rr⟩ := ar.step s2.ok
          rw [Rep.bl_of rr]
          exact hq F3 H3 s3
        cases exy
        exact hr
      split at e
      · rename_i h3
        split at e
        · rename_i u e3 h4
          obtain ⟨z', hz, e5⟩ := Option.map_eq_some_iff.mp e
          cases e5
          refine fin h3 _ fun F3 H3 s3 => ⟨true, rfl, ?_⟩
          refine iteT ?_
          refine ⟨F3, e2, u.d, _, s3.ok, by unfold asV; rw [h4], fun F4 H4 t s4 r4 => ?_⟩
          obtain ⟨a', b', exy, hr⟩ := hp F4 H4 [w, t] [y.d, u.d] _ Q s4.ok.sub (.cons ((r2.mono s3.sub).mono s4.sub) (.cons r4 .nil)) hz fun v' F5 H5 ar => by
            obtain ⟨s5, rr⟩ := ar.step s4.ok
            exact q F5 H5 v' ((((s1.trans s2).trans s3).trans s4).trans s5) (rr.lift (((s1.trans s2).trans s3).trans s4))
          cases exy
          exact hr
        · cases e
      · rename_i h3
        cases e
        refine fin h3 _ fun F3 H3 s3 => ⟨false, rfl, ?_⟩
        refine iteF ?_
        exact q F3 H3 _ ((s1.trans s2).trans s3) (.bl false)
      · cases e
    · cases e
  · cases e
theorem s_chain {op op' : CmpOp} {o p : Op} {r r' : R2} (hr : OpR X (compareOp op) r) (hr' : OpR X (compareOp op') r') (ho : OpOk X.K fa o (r2 r)) (hp : OpOk X.K fa p (r2 r')) (ha : PI' X fa cf a ia) (hb : PI' X fa cf b ib) (hc : PI' X fa cf c ic)
    (hm : lastMarks [op, op'] [b, c] = false) : PI' X fa cf (.Compare a [op, op'] [b, c] pos) (.chain o p ia ib ic) :=
  pe_weak (pe_chain hr hr' (pe_asV ha) (pe_asV hb) (pe_asV hc) hm) fun σ H Q q => chain_D ho hp q
end
end DI

namespace DI
open PySem L2

section
variable {X : Cx} {fa : Nat → Addr} {cf : CF} {pos : Pos} {a b c e : Expr} {ia ib ic : I} {es : List Expr} {is : Is}

theorem t_chain {op op' : CmpOp} {o p : Op} {r r' : R2} (hr : OpR X (compareOp op) r) (hr' : OpR X (compareOp op') r') (ho : OpOk X.K fa o (r2 r)) (hp : OpOk X.K fa p (r2 r')) (hk : isCmp p = true) (ha : PI' X fa cf a ia) (hb : PI' X fa cf b ib) (hc : PI' X fa cf c ic)
    (hm : lastMarks [op, op'] [b, c] = false) : PT' X fa cf (.Compare a [op, op'] [b, c] pos) (.val (.chain o p ia ib ic)) :=
  pt_weak (pt_chain hr hr' (pe_asV ha) (pe_asV hb) (pe_asV hc) hm) fun σ H Q q => by
    obtain ⟨F, env, k, env', ok, e, q⟩ := q
    simp only [eT] at e
    split at e
    · rename_i z e1 h1
      obtain ⟨b', hb', e2⟩ := Option.map_eq_some_iff.mp e
      cases e2
      refine chain_D ho hp ⟨F, env, z, _, ok, h1, fun F1 H1 v s1 r1 => ?_⟩
      obtain ⟨k', rfl⟩ : ∃ k, z = .val (.bl k) := by
        simp only [eI] at h1
        repeat' split at h1
        all_goals first
          | (cases h1; done)
          | (obtain ⟨z', hz, e5⟩ := Option.map_eq_some_iff.mp h1; cases e5; exact cmp_bl hk hz)
          | (cases h1; exact ⟨_, rfl⟩)
      cases hb'
      exact ⟨_, Rep.bl_of r1, q F1 H1 s1⟩
    · cases e

/-! ### a name's list: items, len, pop -/
theorem s_item1 {i : Nat} {x : Str} {px : Pos} (hN : X.N[i]? = some x) (hv : Vis X.env.scope x) (hd : (x == ("__debug__" : Str)) = false) (hcd : (x == ("__classdict__" : Str)) = false) (hb : PI' X fa cf b ib) (hs : PlainIx b) :
    PI' X fa cf (.Subscript (.Name x px) b pos) (.item1 i ib) := pe_weak (pe_ix ixr_item (pe_var hN hv hd hcd) (pe_asV hb) hs) fun σ H Q q => by
  obtain ⟨F, env, z, env', ok, e, q⟩ := q
  simp only [eI] at e
  split at e
  · rename_i hb1
    split at e
    · rename_i r e1 h1
      split at e
      · rename_i d h2
        obtain ⟨z', hz, e5⟩ := Option.map_eq_some_iff.mp e
        cases e5
        obtain ⟨d0, hd0⟩ := Option.isSome_iff_exists.mp hb1
        obtain ⟨v, _, hv1, _⟩ := look_rep ok hd0
        refine ⟨v, hv1, F, env, r.d, _, ok, by unfold asV; rw [h1], fun F1 H1 y s1 r1 => ?_⟩
        have held1 : ∀ xs, held env' i = some xs → d = .lst xs → rItem X.K v y H1 Q := fun xs hx hd => by
          subst hd
          obtain ⟨p, vs, g1, g2, g3, g4⟩ := s1.ok.own i xs hx
          rw [hv1] at g1; cases g1
          have hz' : dItem [.lst xs, r.d] = some z := hz
          unfold dItem at hz'
          split at hz' <;> rename_i heq <;> first | cases hz' | skip
          all_goals (injection heq with e1 e2; injection e2 with e2 e3; first | (injection e1 with e1; subst e1) | (cases e1))
          rename_i ix
          rw [e2] at r1
          cases r1.int_of
          obtain ⟨d', hd', rfl⟩ := Option.map_eq_some_iff.mp hz'
          obtain ⟨w, hw, rw'⟩ := g4.atI hd'
          exact .inl ⟨p, vs, _, w, rfl, rfl, SqL.of g3, hw, q F1 H1 w s1 rw'⟩
        unfold look1 at h2
        cases e4 : env'[i]? with
        | none => rw [e4] at h2; cases h2
        | some s =>
          rw [e4] at h2
          cases s with
          | un => cases h2
          | own xs => cases h2; exact held1 xs (held_iff.mpr (.inl e4)) rfl
          | io xs => cases h2; exact held1 xs (held_iff.mpr (.inr e4)) rfl
          | val d' =>
            cases h2
            obtain ⟨w, g1, g2⟩ := s1.ok.val i _ e4
            rw [hv1] at g1; cases g1
            obtain ⟨a', b', exy, hr⟩ := ok_item F1 H1 [v, y] [d, r.d] z Q s1.ok.sub (.cons g2 (.cons r1 .nil)) hz fun v' F3 H3 ar => by
              obtain ⟨s3, rr⟩ := ar.step s1.ok
              exact q F3 H3 v' (s1.trans s3) (rr.lift s1)
            cases exy
            exact hr
      · cases e
    · cases e
  · cases e
theorem len_val {d : D} {z : R} (h : opD .len [d] = some z) : ∃ i, z = .val (.int i) := by
  have h' : dLen [d] = some z := h
  unfold dLen at h'
  repeat' split at h'
  all_goals first | (cases h'; done) | (cases h'; exact ⟨_, rfl⟩)
theorem s_len1 {i : Nat} {x : Str} {px p : Pos} (hN : X.N[i]? = some x) (hv : Vis X.env.scope x) (hd : (x == ("__debug__" : Str)) = false) (hcd : (x == ("__classdict__" : Str)) = false) (hg : Gl X "len") (hm : X.mg "len" = none)
    (he : starEach [.Name x px] X.env = (false, eval (.Name x px) X.env) :: starEach [] X.env) : PI' X fa cf (.Call (.Name "len" p) [.Name x px] [] pos) (.len1 i) :=
  pe_weak (pe_callB call_len hg hm PySem.boot_len (pa_cons (pe_var hN hv hd hcd) pa_nil he) (by decide +kernel) (by decide +kernel) he rfl) fun σ H Q q => by
    obtain ⟨F, env, z, env', ok, e, q⟩ := q
    simp only [eI] at e
    split at e
    · rename_i d h2
      obtain ⟨z', hz, e5⟩ := Option.map_eq_some_iff.mp e
      cases e5
      obtain ⟨v, F', hv1, sF, sub, rp⟩ := look_rep ok h2
      obtain ⟨n, rfl⟩ := len_val hz
      refine ⟨v, hv1, ?_⟩
      refine ok_len F' H [v] [d] _ Q sub (.cons rp .nil) hz fun w F3 H3 ar => ?_
      cases ar with
      | same r => rw [Rep.int_of r]; exact q F H _ (Step.refl ok) (.int n)
      | froz _ r => cases r
    · cases e
theorem s_pop1 {i : Nat} {x : Str} {px apos : Pos} (hN : X.N[i]? = some x) (hv : Vis X.env.scope x) (hd : (x == ("__debug__" : Str)) = false) (hcd : (x == ("__classdict__" : Str)) = false) (hb : PI' X fa cf b ib)
    (hbase : attributeBase (.Name x px) "pop" X.env (eval (.Name x px) X.env) = eval (.Name x px) X.env)
    (hfew : ((backTo pos (starEach [b] X.env)).all (fun x => !x.1) && (backToKw pos (keywordEach [] X.env)).all (fun x => x.1.isSome) && decide ([b].length + ([] : List Keyword).length + (if ([] : List Keyword).isEmpty then 0 else 1) < 30)) = true)
    (hline : (apos.endLine == pos.line) = true) (hs : starEach [b] X.env = (false, eval b X.env) :: starEach [] X.env) :
    PI' X fa cf (.Call (.Attribute (.Name x px) "pop" apos) [b] [] pos) (.pop1 i ib) :=
  pe_weak (pe_bm PySem.F.plainAttrs_list PySem.F.slot_list_pop PySem.F.type_list_pop mt_popAt (pe_var hN hv hd hcd) (pa_cons hb pa_nil hs) hbase hfew hline hs rfl) fun σ H Q q => by
    obtain ⟨F, env, z, env', ok, e, q⟩ := q
    simp only [eI] at e
    split at e
    · rename_i hh
      obtain ⟨ys, hy⟩ := Option.isSome_iff_exists.mp hh
      obtain ⟨p, vs0, g1, g2, g3, g4⟩ := ok.own i ys hy
      split at e
      · rename_i j e1 h1
        split at e
        · rename_i xs h2
          split at e
          · rename_i hj
            obtain ⟨d', hd', e5⟩ := Option.map_eq_some_iff.mp e
            cases e5
            refine ⟨.ref p, g1, .inl ⟨rfl, vs0, SqL.of g3⟩, F, env, _, e1, ok, h1, fun F1 H1 v s1 r1 => ?_⟩
            cases Rep.int_of r1
            obtain ⟨p', vs, k1, k2, k3, k4⟩ := s1.ok.own i xs h2
            rw [g1] at k1; cases k1
            obtain ⟨w, hw, rw'⟩ := k4.get hd'
            refine ⟨p, vs, j, j.toNat, w, rfl, rfl, k3, by omega, ?_, ?_, hw, ?_⟩
            · have : (big : Int) < 2 ^ 63 := by decide
              omega
            · exact PySem.seqIndex_of hj.1 (by rw [k4.length]; exact hj.2.1)
            · have st := Step.write s1.ok h2 g1 (k4.erase j.toNat)
              exact q _ _ _ (s1.trans st) rw'
          · cases e
        · cases e
      · cases e
    · cases e

/-! ### defs of the text -/
structure FI where
  name : Str
  st : Stmt
  ps : List Str
  N : List Str
  fn : Fn
def fnsOf (fis : List FI) : List Fn := fis.map (·.fn)
def spD (K : PySem.W.Frag) (fa : Nat → Addr) (fis : List FI) (k f : Nat) (fi : FI) (vs : List V) (H : Hp) (Q : VK) : Prop := ∃ F io ds r out, Ok K fa F H (start fi.N vs) (start0 fi.fn io ds) ∧ vs.length = fi.ps.length ∧ callF (fnsOf fis) k f io ds = some (r, out) ∧
  ∀ F' H' σ' env' v, Step K fa F H (start fi.N vs) (start0 fi.fn io ds) F' H' σ' env' → outOf fi.fn.io env' = some out → RRep K fa H (start fi.N vs) (start0 fi.fn io ds) F' H' σ' env' v r → Q v H'
/-- what the top has left: each def at its place -/
structure Lnk (K : PySem.W.Frag) (mg : Str → Option Value) (fa : Nat → Addr) (fd : Nat → FuncData) (fis : List FI) : Prop where
  fn : ∀ f fi, fis[f]? = some fi → Fun K fi.name fi.name fi.st (fa f) (fd f) ∧ mg fi.name = some (.ref (fa f)) ∧ FnScope fi.N fi.ps (defScope fi.st) ∧ Binds K (fd f) fi.ps [] ∧ fi.fn.np = fi.ps.length ∧ fi.fn.ns = fi.N.length
/-- the defs keep what the denotation tells, k calls deep -/
def FnG (P : Program) (w : World) (K : PySem.W.Frag) (mg : Str → Option Value) (base : Heap) (fa : Nat → Addr) (fd : Nat → FuncData) (fis : List FI) (k : Nat) : Prop :=
  ∀ f fi, fis[f]? = some fi → ∀ (A : Around) (outer : List Env) (s : Shared) (H : Hp) (args : Args) (us : List Value) (vs : List V) (Q : VK), A.guards = some [] → Room k A → Env0 P w K mg base A outer s H → BindsTo s (fd f) args (fi.ps.zip us) → Vals vs us →
    spD K fa fis k f fi vs H Q → codeAny (model P w) A (.call (.ref (fa f)) args) (CR CX0 outer P w H s Q E0) s
theorem run_G {fd : Nat → FuncData} {fis : List FI} {k f : Nat} {fi : FI} {pins : List (Addr × Obj)} {σ : L2.St} {H : Hp} {s : Shared} {Q : VK} {us : List Value} {vs : List V} (G : FnG X.prog X.w X.K X.mg X.base fa fd fis k) (L : Lnk X.K X.mg fa fd fis)
    (hf : fis[f]? = some fi) (hg : X.A.guards = some []) (hr : Room k X.A) (I : Inv X pins σ H s) (r : Vals vs us) (h : spD X.K fa fis k f fi vs H Q) : wpAny (model X.prog X.w) X.A (call (.ref (fa f)) us) (EP X pins σ Q) X.xe s := by
  obtain ⟨_, _, _, hb, _⟩ := L.fn f fi hf
  have hl : us.length = fi.ps.length := by
    obtain ⟨_, _, _, _, _, _, z, _⟩ := h
    rw [← r.length]; exact z
  have hb' := hb s us I.kIn (by rw [List.append_nil]; exact hl)
  rw [List.append_nil] at hb'
  refine wpAny_call (codeAny_mono (G f fi hf X.A X.stack s H ⟨us, []⟩ us vs Q hg hr I.env0 hb' r h) fun r s' hq => ?_)
  cases r with
  | error e => exact False.elim hq
  | ok fl => cases fl <;> first | exact I.after hq | exact False.elim hq

/-! ### calls -/
theorem start_get (N : List Str) (vs : List V) (i : Nat) (hi : i < vs.length) : (start N vs)[i]? = (vs[i]?).map some := by
  unfold L2.start
  rw [List.getElem?_append_left (by simpa using hi), List.getElem?_map]
theorem start0_len {fn : Fn} {io : Option (List D)} {ds : List D} (h : fn.np = ds.length + (if io.isSome then 1 else 0)) (h2 : fn.np ≤ fn.ns) : (start0 fn io ds).length = fn.ns := by
  unfold start0
  cases io <;> simp at h ⊢ <;> omega
theorem start_len {N : List Str} {vs : List V} (h : vs.length ≤ N.length) : (start N vs).length = N.length := by
  unfold L2.start
  simp
  omega
theorem start0_get {fn : Fn} {ds : List D} {i : Nat} {s : Sl} (h : (start0 fn none ds)[i]? = some s) : (∃ d, ds[i]? = some d ∧ s = .val d) ∨ s = .un := by
  unfold start0 at h
  simp only [List.nil_append] at h
  by_cases hi : i < ds.length
  · rw [List.getElem?_append_left (by simpa using hi), List.getElem?_map] at h
    cases e : ds[i]? with
    | none => rw [e] at h; cases h
    | some d => rw [e] at h; cases h; exact .inl ⟨d, rfl, rfl⟩
  · rw [List.getElem?_append_right (by simpa using hi), List.getElem?_replicate] at h
    split at h
    · cases h; exact .inr rfl
    · cases h
theorem start0_io {fn : Fn} {xs ds : List D} {i : Nat} {s : Sl} (h : (start0 fn (some xs) ds)[i]? = some s) : (i = 0 ∧ s = .io xs) ∨ (∃ j d, i = j + 1 ∧ ds[j]? = some d ∧ s = .val d) ∨ s = .un := by
  cases i with
  | zero =>
    unfold start0 at h
    simp at h
    exact .inl ⟨rfl, h.symm⟩
  | succ j =>
    have h' : (start0 fn none ds)[j]? = some s := by
      unfold start0 at h ⊢
      simpa using h
    rcases start0_get h' with ⟨d, h1, h2⟩ | h1
    · exact .inr (.inl ⟨j, d, rfl, h1, h2⟩)
    · exact .inr (.inr h1)
theorem ok_start {K : PySem.W.Frag} {F H : Hp} {N : List Str} {fn : Fn} {vs : List V} {ds : List D} (sub : Same F H) (r : RepL K fa F vs ds) (h1 : fn.np = ds.length) (h2 : fn.np ≤ fn.ns) (h3 : fn.ns = N.length) :
    Ok K fa F H (start N vs) (start0 fn none ds) ∧ (∀ p, ¬ Own (start N vs) (start0 fn none ds) p) := by
  have noh : ∀ i xs, held (start0 fn none ds) i = some xs → False := fun i xs h => by
    rcases held_iff.mp h with e | e <;> (rcases start0_get e with ⟨d, _, z⟩ | z <;> cases z)
  have hl := r.length
  refine ⟨⟨?_, sub, fun i d e => ?_, fun i xs h => (noh i xs h).elim, fun i j xs ys p _ h => (noh i xs h).elim⟩, fun p ⟨i, xs, h, _⟩ => noh i xs h⟩
  · rw [start0_len (by simpa using h1) h2, start_len (by omega), h3]
  · rcases start0_get e with ⟨d', e1, z⟩ | z
    · cases z
      obtain ⟨v, e2, rv⟩ := r.get e1
      refine ⟨v, ?_, rv⟩
      rw [start_get N vs i (List.getElem?_eq_some_iff.mp e2).1, e2]; rfl
    · cases z
theorem ok_startIo {K : PySem.W.Frag} {F H : Hp} {N : List Str} {fn : Fn} {p : Addr} {ws vs : List V} {xs ds : List D} (sub : Same F H) (hF : F p = none) (hH : H p = some (.lst ws)) (rw' : RepL K fa F ws xs) (r : RepL K fa F vs ds) (h1 : fn.np = ds.length + 1) (h2 : fn.np ≤ fn.ns) (h3 : fn.ns = N.length) :
    Ok K fa F H (start N (.ref p :: vs)) (start0 fn (some xs) ds) ∧ (∀ q, Own (start N (.ref p :: vs)) (start0 fn (some xs) ds) q ↔ q = p) ∧ (start0 fn (some xs) ds)[0]? = some (.io xs) ∧ (start N (V.ref p :: vs))[0]? = some (some (.ref p)) := by
  have onlyh : ∀ i ys, held (start0 fn (some xs) ds) i = some ys → i = 0 ∧ ys = xs := fun i ys h => by
    rcases held_iff.mp h with e | e <;> (rcases start0_io e with ⟨z, q⟩ | ⟨j, d, _, _, q⟩ | q <;> cases q)
    exact ⟨z, rfl⟩
  have hl := r.length
  have g0 : (start N (V.ref p :: vs))[0]? = some (some (.ref p)) := start_get N _ 0 (by simp)
  have s0 : (start0 fn (some xs) ds)[0]? = some (.io xs) := by unfold start0; simp
  refine ⟨⟨?_, sub, fun i d e => ?_, fun i ys h => ?_, fun i j as bs q hij h h' => ?_⟩, fun q => ⟨fun ⟨i, ys, h, g⟩ => ?_, fun e => ?_⟩, s0, g0⟩
  · rw [start0_len (by simpa using h1) h2, start_len (by simp; omega), h3]
  · rcases start0_io e with ⟨_, z⟩ | ⟨j, d', rfl, e1, z⟩ | z
    · cases z
    · cases z
      obtain ⟨v, e2, rv⟩ := r.get e1
      refine ⟨v, ?_, rv⟩
      rw [start_get N _ (j + 1) (by simpa using (List.getElem?_eq_some_iff.mp e2).1)]
      simp [e2]
    · cases z
  · obtain ⟨rfl, rfl⟩ := onlyh i ys h
    exact ⟨p, ws, g0, hF, hH, rw'⟩
  · obtain ⟨rfl, _⟩ := onlyh i as h
    obtain ⟨rfl, _⟩ := onlyh j bs h'
    exact absurd rfl hij
  · obtain ⟨rfl, _⟩ := onlyh i ys h
    rw [g0] at g; cases g; rfl
  · subst e
    exact ⟨0, xs, held_iff.mpr (.inr s0), g0⟩
end
end DI

namespace DI
open PySem L2

section
variable {K : PySem.W.Frag} {fa : Nat → Addr} {F H F1 H1 F2 H2 : Hp} {σ σ0 σ' : L2.St} {env e1 env0 env'' : Ev}
theorem callF_some {fns : List Fn} {k f : Nat} {io : Option (List D)} {ds : List D} {r : R} {out : Option (List D)} (h : callF fns k f io ds = some (r, out)) :
    ∃ fn k', fns[f]? = some fn ∧ k = k' + 1 ∧ fn.io = io.isSome ∧ fn.np = ds.length + ioN fn.io ∧ fn.np ≤ fn.ns ∧
      ∃ env, outOf fn.io env = some out ∧ (eSs (callF fns k') fn.body (start0 fn io ds) = some (.rt r, env) ∨ (eSs (callF fns k') fn.body (start0 fn io ds) = some (.nx, env) ∧ r = .val .non)) := by
  cases k with
  | zero => cases h
  | succ k' =>
    simp only [callF] at h
    split at h
    · cases h
    · rename_i fn hfn
      split at h
      · rename_i hc
        refine ⟨fn, k', hfn, rfl, hc.1, hc.2.1, hc.2.2, ?_⟩
        split at h
        · rename_i r' env he
          obtain ⟨o, ho, e2⟩ := Option.map_eq_some_iff.mp h
          cases e2
          exact ⟨env, ho, .inl he⟩
        · rename_i env he
          obtain ⟨o, ho, e2⟩ := Option.map_eq_some_iff.mp h
          cases e2
          exact ⟨env, ho, .inr ⟨he, rfl⟩⟩
        · cases h
      · cases h
theorem call_step (o : Ok K fa F1 H1 σ e1) (n : ∀ p, ¬ Own σ0 env0 p) (st : Step K fa F1 H1 σ0 env0 F2 H2 σ' env'') : Step K fa F1 H1 σ e1 F2 H2 σ e1 := by
  have sH : Same H1 H2 := fun a u e => st.keep a u e (n a)
  refine ⟨st.sub, fun a u e _ => sH a u e, fun a h1 h2 _ => st.stay a h1 h2 (n a), o.more st.sub sH st.ok.sub fun p hp => ?_, fun _ h => .inl h, fun _ xs h => ⟨rfl, xs, h⟩⟩
  obtain ⟨h1, vs, h2⟩ := o.own_at hp
  exact st.stay p (by rw [h2]; simp) h1 (n p)
theorem call_res {v : V} {r : R} (o : Ok K fa F1 H1 σ e1) (n : ∀ p, ¬ Own σ0 env0 p) (st : Step K fa F1 H1 σ0 env0 F2 H2 σ' env'') (rr : RRep K fa H1 σ0 env0 F2 H2 σ' env'' v r) : RRep K fa H1 σ e1 F2 H2 σ e1 v r := by
  cases r with
  | val d => exact rr
  | new xs =>
    obtain ⟨p, vs, h0, h1, h2, h3, h4, h5⟩ := rr
    have hp : H1 p = none := h1.resolve_left (n p)
    refine ⟨p, vs, h0, .inr hp, h2, h3, h4, fun q => ?_⟩
    obtain ⟨_, ws, h6⟩ := o.own_at q
    rw [hp] at h6; cases h6
/-- a call with the list at a name -/
theorem call_stepIo {i : Nat} {p : Addr} {xs ys : List D} (o : Ok K fa F1 H1 σ e1) (hi : held e1 i = some xs) (hp : σ[i]? = some (some (.ref p))) (n : ∀ q, Own σ0 env0 q ↔ q = p) (s0 : env0[0]? = some (.io xs)) (g0 : σ0[0]? = some (some (.ref p)))
    (st : Step K fa F1 H1 σ0 env0 F2 H2 σ' env'') (ho : env''[0]? = some (.io ys)) : Step K fa F1 H1 σ e1 F2 H2 σ (hold e1 i ys) := by
  obtain ⟨hσ, _⟩ := st.io 0 xs s0
  obtain ⟨p', ws, k1, k2, k3, k4⟩ := st.ok.own 0 ys (held_iff.mpr (.inr ho))
  rw [hσ, g0] at k1
  cases k1
  refine Step.hold o hi hp st.sub st.ok.sub (fun a u e na => st.keep a u e fun q => na ((n a).mp q)) (fun a h1 h2 => ?_) k3 k4
  by_cases e : a = p
  · subst e; exact k2
  · exact st.stay a h1 h2 fun q => e ((n a).mp q)
theorem call_resIo {i : Nat} {p : Addr} {xs ys : List D} {v : V} {r : R} (o : Ok K fa F1 H1 σ e1) (hi : held e1 i = some xs) (hp : σ[i]? = some (some (.ref p))) (n : ∀ q, Own σ0 env0 q ↔ q = p) (s0 : env0[0]? = some (.io xs)) (g0 : σ0[0]? = some (some (.ref p)))
    (st : Step K fa F1 H1 σ0 env0 F2 H2 σ' env'') (ho : env''[0]? = some (.io ys)) (rr : RRep K fa H1 σ0 env0 F2 H2 σ' env'' v r) : RRep K fa H1 σ e1 F2 H2 σ (hold e1 i ys) v r := by
  cases r with
  | val d => exact rr
  | new zs =>
    obtain ⟨q, vs, h0, h1, h2, h3, h4, h5⟩ := rr
    obtain ⟨hσ, _⟩ := st.io 0 xs s0
    have nq : q ≠ p := fun e => by
      subst e
      exact h5 ⟨0, ys, held_iff.mpr (.inr ho), by rw [hσ]; exact g0⟩
    have hq : H1 q = none := h1.resolve_left fun z => nq ((n q).mp z)
    refine ⟨q, vs, h0, .inr hq, h2, h3, h4, fun z => ?_⟩
    rcases (call_stepIo o hi hp n s0 g0 st ho).own q z with z | z
    · obtain ⟨_, ws, h6⟩ := o.own_at z
      rw [hq] at h6; cases h6
    · obtain ⟨_, ws, h6⟩ := (call_stepIo o hi hp n s0 g0 st ho).ok.own_at ‹_›
      obtain ⟨j, as, g1, g2⟩ := ‹Own σ (hold e1 i ys) q›
      obtain ⟨a1, a2, a3, a4, a5⟩ := hold_get (ys := ys) hi
      by_cases ej : i = j
      · subst ej; rw [hp] at g2; cases g2; exact nq rfl
      · have g3 : held e1 j = some as := by
          have : held (hold e1 i ys) j = held e1 j := by unfold held; rw [a3 j ej]
          rw [← this]; exact g1
        obtain ⟨_, bs, b1, b2, b3, _⟩ := o.own j as g3
        rw [g2] at b1; cases b1
        rw [hq] at b3; cases b3
/-- a call with a new list -/
theorem call_stepFr {p : Addr} (s1 : Step K fa F H σ env F1 H1 σ e1) (h0 : Own σ env p ∨ H p = none) (np : ¬ Own σ e1 p) (n : ∀ q, Own σ0 env0 q ↔ q = p) (st : Step K fa F1 H1 σ0 env0 F2 H2 σ' env'') : Step K fa F H σ env F2 H2 σ e1 := by
  have kp : ∀ a u, H1 a = some u → a ≠ p → H2 a = some u := fun a u e na => st.keep a u e fun q => na ((n a).mp q)
  have ne : ∀ a, H a ≠ none → ¬ Own σ env a → a ≠ p := fun a h1 h2 e => by
    subst e
    rcases h0 with z | z
    · exact h2 z
    · exact h1 z
  refine ⟨s1.sub.trans st.sub, fun a u e hn => kp a u (s1.keep a u e hn) (ne a (by rw [e]; simp) hn), fun a h1 h2 hn => ?_, ?_, s1.own, s1.io⟩
  · cases e : H a with
    | none => exact absurd e h1
    | some u => exact st.stay a (by rw [s1.keep a u e hn]; simp) (s1.stay a h1 h2 hn) fun q => ne a h1 hn ((n a).mp q)
  · refine ⟨s1.ok.len, st.ok.sub, fun i d e => ?_, fun i xs e => ?_, s1.ok.dis⟩
    · obtain ⟨v, g1, g2⟩ := s1.ok.val i d e
      exact ⟨v, g1, g2.mono st.sub⟩
    · obtain ⟨q, vs, g1, g2, g3, g4⟩ := s1.ok.own i xs e
      have nq : q ≠ p := fun z => by subst z; exact np ⟨i, xs, e, g1⟩
      exact ⟨q, vs, g1, st.stay q (by rw [g3]; simp) g2 fun z => nq ((n q).mp z), kp q _ g3 nq, g4.mono st.sub⟩
end

section
variable {X : Cx} {fa : Nat → Addr} {pos : Pos} {a b c e : Expr} {ia ib ic : I} {es : List Expr} {is : Is} {fd : Nat → FuncData} {fis : List FI} {k f : Nat} {fi : FI}

theorem fi_of (hf : fis[f]? = some fi) : (fnsOf fis)[f]? = some fi.fn := by unfold fnsOf; rw [List.getElem?_map, hf]; rfl
/-- what a plain call comes to, from its arguments -/
theorem call_sp (L : Lnk X.K X.mg fa fd fis) (hf : fis[f]? = some fi) {F H F1 H1 : Hp} {σ : L2.St} {env e1 : Ev} {ds : List D} {z : R} {out : Option (List D)} {vs : List V} {Q : VK} (s1 : Step X.K fa F H σ env F1 H1 σ e1) (r1 : RepL X.K fa F1 vs ds)
    (hc : callF (fnsOf fis) k f none ds = some (z, out)) (q : ∀ F' H' v, Step X.K fa F H σ env F' H' σ e1 → RRep X.K fa H σ env F' H' σ e1 v z → Q v H') : spD X.K fa fis k f fi vs H1 Q := by
  obtain ⟨fn, k', h1, _, h3, h4, h5, _⟩ := callF_some hc
  rw [fi_of hf] at h1
  cases h1
  obtain ⟨_, _, _, _, hnp, hns⟩ := L.fn f fi hf
  have h3' : fi.fn.io = false := by rw [h3]; rfl
  have h4' : fi.fn.np = ds.length := by rw [h4, h3']; rfl
  obtain ⟨ok0, n0⟩ := ok_start (N := fi.N) (fn := fi.fn) s1.ok.sub r1 h4' h5 hns
  exact ⟨F1, none, ds, z, out, ok0, by rw [← hnp, r1.length, h4'], hc, fun F2 H2 σ' env' v st _ rr => q F2 H2 v (s1.trans (call_step s1.ok n0 st)) ((call_res s1.ok n0 st rr).lift s1)⟩
theorem s_call {p : Pos} (G : FnG X.prog X.w X.K X.mg X.base fa fd fis k) (L : Lnk X.K X.mg fa fd fis) (hf : fis[f]? = some fi) (hg : X.A.guards = some []) (hr : Room k X.A) (hgl : Gl X fi.name) (h : PIs' X fa (callF (fnsOf fis) k) (e :: es) is)
    (hdb : (fi.name == ("__debug__" : Str)) = false) (he : starEach (e :: es) X.env = (false, eval e X.env) :: starEach es X.env) (hpl : (backTo pos (starEach es X.env)).any (·.1) = false) :
    PI' X fa (callF (fnsOf fis) k) (.Call (.Name fi.name p) (e :: es) [] pos) (.call f is) := by
  refine ⟨fun pins s σ H Q I q => ?_⟩
  obtain ⟨F, env, z, env', ok, e, q⟩ := q
  simp only [eI] at e
  split at e
  · rename_i ds e1 h1
    obtain ⟨⟨z', out⟩, hc, e5⟩ := Option.map_eq_some_iff.mp e
    cases e5
    obtain ⟨hfn, hm, _⟩ := L.fn f fi hf
    refine wpAny_Call_Name_kw (ld_glob I hgl hm ?_ hdb)
    refine PySem.W.callWith_K (h₀ := X.base) I.ok.mod.kin hfn.kp (thn (h.run pos pins s σ H (fun vs H1 => spD X.K fa fis k f fi vs H1 Q) I ⟨F, env, ds, _, ok, h1, fun F1 H1 vs s1 r1 => call_sp L hf s1 r1 hc q⟩) fun us s1 ⟨vs, H1, I1, r, qq⟩ => ⟨I1.kIn, ?_⟩) he hpl
    exact run_G G L hf hg hr I1 r qq
  · cases e
/-- a call of what a name holds -/
theorem s_callv {p : Pos} {i : Nat} {x : Str} (G : FnG X.prog X.w X.K X.mg X.base fa fd fis k) (L : Lnk X.K X.mg fa fd fis) (hg : X.A.guards = some []) (hr : Room k X.A) (hN : X.N[i]? = some x) (hv : Vis X.env.scope x) (hd : (x == ("__debug__" : Str)) = false) (hcd : (x == ("__classdict__" : Str)) = false)
    (h : PIs' X fa (callF (fnsOf fis) k) (e :: es) is) (he : starEach (e :: es) X.env = (false, eval e X.env) :: starEach es X.env) (hpl : (backTo pos (starEach es X.env)).any (·.1) = false) :
    PI' X fa (callF (fnsOf fis) k) (.Call (.Name x p) (e :: es) [] pos) (.callv i is) := by
  refine ⟨fun pins s σ H Q I q => ?_⟩
  obtain ⟨F, env, z, env', ok, e, q⟩ := q
  simp only [eI] at e
  split at e
  · rename_i f hs
    split at e
    · rename_i ds e1 h1
      obtain ⟨⟨z', out⟩, hc, e5⟩ := Option.map_eq_some_iff.mp e
      cases e5
      obtain ⟨v, hv1, hv2⟩ := ok.val i _ hs
      cases hv2
      obtain ⟨fn, k', hfn, _⟩ := callF_some hc
      obtain ⟨fi, hf⟩ : ∃ fi, fis[f]? = some fi := by
        unfold fnsOf at hfn
        rw [List.getElem?_map] at hfn
        cases e9 : fis[f]? with
        | none => rw [e9] at hfn; cases hfn
        | some fi => exact ⟨fi, rfl⟩
      obtain ⟨hfn, hm, _⟩ := L.fn f fi hf
      refine wpAny_Call_Name_kw (thn ((pe_var (pos := p) hN hv hd hcd).run pins s σ H (fun v H1 => v = .ref (fa f) ∧ H1 = H) I ⟨_, hv1, rfl, rfl⟩) fun u s1 ⟨v, H1, I1, r1, q1⟩ => ?_)
      obtain ⟨rfl, rfl⟩ := q1
      cases r1
      refine PySem.W.callWith_K (h₀ := X.base) I1.ok.mod.kin hfn.kp (thn (h.run pos pins s1 σ _ (fun vs H1 => spD X.K fa fis k f fi vs H1 Q) I1 ⟨F, env, ds, _, ok, h1, fun F1 H1 vs s1 r1 => call_sp L hf s1 r1 hc q⟩) fun us s2 ⟨vs, H2, I2, r, qq⟩ => ⟨I2.kIn, ?_⟩) he hpl
      exact run_G G L hf hg hr I2 r qq
    · cases e
  · cases e
/-- a call whose first argument is a name's list, by reference -/
theorem s_callio {p px : Pos} {i : Nat} {x : Str} (G : FnG X.prog X.w X.K X.mg X.base fa fd fis k) (L : Lnk X.K X.mg fa fd fis) (hf : fis[f]? = some fi) (hg : X.A.guards = some []) (hr : Room k X.A) (hgl : Gl X fi.name) (hN : X.N[i]? = some x) (hv : Vis X.env.scope x) (hd : (x == ("__debug__" : Str)) = false) (hcd : (x == ("__classdict__" : Str)) = false)
    (h : PIs' X fa (callF (fnsOf fis) k) es is) (hdb : (fi.name == ("__debug__" : Str)) = false) (he : starEach (.Name x px :: es) X.env = (false, eval (.Name x px) X.env) :: starEach es X.env) (hpl : (backTo pos (starEach es X.env)).any (·.1) = false) :
    PI' X fa (callF (fnsOf fis) k) (.Call (.Name fi.name p) (.Name x px :: es) [] pos) (.callio f i is) := by
  refine ⟨fun pins s σ H Q I q => ?_⟩
  obtain ⟨F, env, z, env', ok, e, q⟩ := q
  simp only [eI] at e
  split at e
  · rename_i hh
    obtain ⟨ys0, hy0⟩ := Option.isSome_iff_exists.mp hh
    obtain ⟨p0, vs0, g1, _⟩ := ok.own i ys0 hy0
    split at e
    · rename_i ds e1 h1
      split at e
      · rename_i xs h2
        split at e
        · rename_i r ys hc
          cases e
          obtain ⟨hfn, hm, _, _, hnp, hns⟩ := L.fn f fi hf
          refine wpAny_Call_Name_kw (ld_glob I hgl hm ?_ hdb)
          have hA : PA X (.Name x px :: es) (tCons (tVar i) (tVs X.K fa (eIs (callF (fnsOf fis) k) is))) := pa_cons (pe_var hN hv hd hcd) h he
          refine PySem.W.callWith_K (h₀ := X.base) I.ok.mod.kin hfn.kp (thn (hA.run pos pins s σ H (fun vs H1 => spD X.K fa fis k f fi vs H1 Q) I ⟨_, g1, F, env, ds, e1, ok, h1, fun F1 H1 vs s1 r1 => ?_⟩) fun us s1 ⟨vs, H1, I1, r, qq⟩ => ⟨I1.kIn, run_G G L hf hg hr I1 r qq⟩) he hpl
          obtain ⟨fn, k', c1, _, c3, c4, c5, _⟩ := callF_some hc
          rw [fi_of hf] at c1
          cases c1
          have c3' : fi.fn.io = true := by rw [c3]; rfl
          have c4' : fi.fn.np = ds.length + 1 := by rw [c4, c3']; rfl
          obtain ⟨p', ws, k1, k2, k3, k4⟩ := s1.ok.own i xs h2
          rw [g1] at k1; cases k1
          obtain ⟨ok0, n0, t0, g0⟩ := ok_startIo (N := fi.N) (fn := fi.fn) s1.ok.sub k2 k3 k4 r1 c4' c5 hns
          refine ⟨F1, some xs, ds, z, some ys, ok0, by rw [← hnp, List.length_cons, r1.length, c4'], hc, fun F2 H2 σ' env'' v st ho rr => ?_⟩
          have ho' : env''[0]? = some (.io ys) := by
            unfold outOf at ho
            rw [c3'] at ho
            simp only [if_true] at ho
            split at ho
            · rename_i zs hz; cases ho; exact hz
            · cases ho
          exact q F2 H2 v (s1.trans (call_stepIo s1.ok h2 g1 n0 t0 g0 st ho')) ((call_resIo s1.ok h2 g1 n0 t0 g0 st ho' rr).lift s1)
        · cases e
      · cases e
    · cases e
  · cases e
/-- .. is a new list -/
theorem s_callfr {p : Pos} (G : FnG X.prog X.w X.K X.mg X.base fa fd fis k) (L : Lnk X.K X.mg fa fd fis) (hf : fis[f]? = some fi) (hg : X.A.guards = some []) (hr : Room k X.A) (hgl : Gl X fi.name) (ha : PI' X fa (callF (fnsOf fis) k) a ia)
    (h : PIs' X fa (callF (fnsOf fis) k) es is) (hdb : (fi.name == ("__debug__" : Str)) = false) (he : starEach (a :: es) X.env = (false, eval a X.env) :: starEach es X.env) (hpl : (backTo pos (starEach es X.env)).any (·.1) = false) :
    PI' X fa (callF (fnsOf fis) k) (.Call (.Name fi.name p) (a :: es) [] pos) (.callfr f ia is) := by
  refine ⟨fun pins s σ H Q I q => ?_⟩
  obtain ⟨F, env, z, env', ok, e, q⟩ := q
  simp only [eI] at e
  split at e
  · rename_i xs e1 h1
    split at e
    · rename_i ds e2 h2
      obtain ⟨⟨z', out⟩, hc, e5⟩ := Option.map_eq_some_iff.mp e
      cases e5
      obtain ⟨hfn, hm, _, _, hnp, hns⟩ := L.fn f fi hf
      refine wpAny_Call_Name_kw (ld_glob I hgl hm ?_ hdb)
      have hA : PA X (a :: es) (tCons (tI X.K fa (eI (callF (fnsOf fis) k) ia)) (tVs X.K fa (eIs (callF (fnsOf fis) k) is))) := pa_cons ha h he
      refine PySem.W.callWith_K (h₀ := X.base) I.ok.mod.kin hfn.kp (thn (hA.run pos pins s σ H (fun vs H1 => spD X.K fa fis k f fi vs H1 Q) I ⟨F, env, _, e1, ok, h1, fun F1 H1 v s1 rr1 => ⟨F1, e1, ds, _, s1.ok, h2, fun F2 H2 vs s2 r2 => ?_⟩⟩) fun us s1 ⟨vs, H1, I1, r, qq⟩ => ⟨I1.kIn, run_G G L hf hg hr I1 r qq⟩) he hpl
      obtain ⟨p, ws, rfl, k0, k2, k3, k4, k5⟩ := rr1.stay s2
      obtain ⟨fn, k', c1, _, c3, c4, c5, _⟩ := callF_some hc
      rw [fi_of hf] at c1
      cases c1
      have c3' : fi.fn.io = true := by rw [c3]; rfl
      have c4' : fi.fn.np = ds.length + 1 := by rw [c4, c3']; rfl
      obtain ⟨ok0, n0, t0, g0⟩ := ok_startIo (N := fi.N) (fn := fi.fn) s2.ok.sub k2 k3 k4 r2 c4' c5 hns
      refine ⟨F2, some xs, ds, z', out, ok0, by rw [← hnp, List.length_cons, r2.length, c4'], hc, fun F3 H3 σ' env'' v st ho rr => ?_⟩
      have s3 := call_stepFr (s1.trans s2) k0 k5 n0 st
      refine q F3 H3 v s3 ?_
      cases z' with
      | val d => exact rr
      | new zs =>
        obtain ⟨q', us, h0, h1', h2', h3', h4', h5'⟩ := rr
        refine ⟨q', us, h0, ?_, h2', h3', h4', fun zz => ?_⟩
        · rcases h1' with y | y
          · have := (n0 q').mp y
            subst this
            exact k0
          · exact none_back (s1.trans s2) (.inr y)
        · obtain ⟨y1, ys, y2⟩ := s3.ok.own_at zz
          obtain ⟨_, ys2, y3⟩ := (s1.trans s2).ok.own_at zz
          rcases h1' with y | y
          · have := (n0 q').mp y
            subst this
            exact k5 zz
          · rw [y3] at y; cases y
    · cases e
  · cases e
end
end DI

namespace DI
open PySem L2

/-! ### what is walked -/
structure ItOk (K : PySem.W.Frag) (fa : Nat → Addr) (F : Hp) (J : L2.It) (ds : List D) : Prop where
  go : ∀ (i : Nat) (d : D) (H : Hp), ds[i]? = some d → Same F H → J.go i H
  yld : ∀ (i : Nat) (d : D) (H : Hp) (x : V) (H' : Hp), ds[i]? = some d → Same F H → J.yld i H x H' → H' = H ∧ Rep K fa F x d
  stop : ∀ (H : Hp), Same F H → J.stop ds.length H
def tIt (K : PySem.W.Frag) (fa : Nat → Addr) (f : Ev → Option (List D × Ev)) : TI := fun σ H R => ∃ F env ds env', Ok K fa F H σ env ∧ f env = some (ds, env') ∧
  ∀ F' H' J, Step K fa F H σ env F' H' σ env' → ItOk K fa F' J ds → R J H'
section
variable {K : PySem.W.Frag} {fa : Nat → Addr} {F : Hp}
theorem itok_list {a : Addr} {xs : List V} {ds : List D} (h : SqL K F a xs) (r : RepL K fa F xs ds) : ItOk K fa F (Itl K a) ds := by
  refine ⟨fun i d H e s => ?_, fun i d H x H' e s y => ?_, fun H s => ⟨xs, s.seq h, by rw [r.length]; exact Nat.le_refl _⟩⟩
  · obtain ⟨v, hv, _⟩ := r.get e
    exact ⟨xs, v, s.seq h, hv⟩
  · obtain ⟨v, hv, rv⟩ := r.get e
    obtain ⟨h1, h2⟩ := y
    have := h2 xs (s.seq h)
    rw [hv] at this
    cases this
    exact ⟨h1, rv⟩
theorem itok_tup {a : Addr} {xs : List V} {ds : List D} (h : SqT K F a xs) (r : RepL K fa F xs ds) : ItOk K fa F (Itt K a) ds := by
  refine ⟨fun i d H e s => ?_, fun i d H x H' e s y => ?_, fun H s => ⟨xs, sqT_mono s h, by rw [r.length]; exact Nat.le_refl _⟩⟩
  · obtain ⟨v, hv, _⟩ := r.get e
    exact ⟨xs, v, sqT_mono s h, hv⟩
  · obtain ⟨v, hv, rv⟩ := r.get e
    obtain ⟨h1, h2⟩ := y
    have := h2 xs (sqT_mono s h)
    rw [hv] at this
    cases this
    exact ⟨h1, rv⟩
theorem itok_str (cs : List Nat) : ItOk K fa F (Its (sOf cs)) (cs.map fun c => .str [c]) := by
  refine ⟨fun i d H e _ => ?_, fun i d H x H' e _ y => ?_, fun H _ => ?_⟩
  · have := (List.getElem?_eq_some_iff.mp e).1
    show i < (sOf cs).cps.size
    simpa [sOf] using this
  · obtain ⟨h1, c, hc, rfl⟩ := y
    refine ⟨h1, ?_⟩
    rw [List.getElem?_map] at e
    have hc' : cs[i]? = some c := by simpa [sOf] using hc
    rw [hc'] at e
    cases e
    exact .str [c]
  · show (sOf cs).cps.size ≤ _
    simp [sOf]
theorem itok_rng (lo hi : Int) : ItOk K fa F (Itr lo (hi - lo).toNat) (rng lo hi) := by
  have hl : (rng lo hi).length = (hi - lo).toNat := by unfold rng; simp
  refine ⟨fun i d H e _ => ?_, fun i d H x H' e _ y => ?_, fun H _ => ?_⟩
  · have := (List.getElem?_eq_some_iff.mp e).1
    rw [hl] at this
    exact this
  · obtain ⟨h1, rfl⟩ := y
    refine ⟨h1, ?_⟩
    unfold rng at e
    rw [List.getElem?_map] at e
    cases e2 : (List.range (hi - lo).toNat)[i]? with
    | none => rw [e2] at e; cases e
    | some j =>
      rw [e2] at e
      have : j = i := by
        rw [List.getElem?_range (by have := (List.getElem?_eq_some_iff.mp e2).1; simpa using this)] at e2
        exact (Option.some.inj e2).symm
      subst this
      cases e
      exact .int _
  · show (hi - lo).toNat ≤ _
    rw [hl]
    exact Nat.le_refl _
end

section
variable {X : Cx} {fa : Nat → Addr} {cf : CF} {pos : Pos} {a b c e tg : Expr} {ia ib ic : I} {es : List Expr} {is : Is}
theorem pi_weak {wi wi' : TI} (h : L2.PI X tg a wi) (w : ∀ σ H R, wi' σ H R → wi σ H R) : L2.PI X tg a wi' := ⟨fun pins s σ H R I q => h.run pins s σ H R I (w σ H R q)⟩
theorem pi_or {wi wi' : TI} (h : L2.PI X tg a wi) (h' : L2.PI X tg a wi') : L2.PI X tg a (fun σ H R => wi σ H R ∨ wi' σ H R) := ⟨fun pins s σ H R I q => by
  rcases q with q | q
  · exact h.run pins s σ H R I q
  · exact h'.run pins s σ H R I q⟩
abbrev PIt' (X : Cx) (fa : Nat → Addr) (cf : CF) (tg e : Expr) (it : It) : Prop := L2.PI X tg e (tIt X.K fa (eIt cf it))
theorem i_seq (ha : PI' X fa cf a ia) : PIt' X fa cf tg a (.seq ia) := pi_weak (pi_or (pi_list (pe_asV ha)) (pi_or (pi_tup (pe_asV ha)) (pi_str (pe_asV ha)))) fun σ H R q => by
  obtain ⟨F, env, ds, env', ok, e, q⟩ := q
  simp only [eIt] at e
  split at e
  · rename_i r e1 h1
    obtain ⟨ds', hd, e2⟩ := Option.map_eq_some_iff.mp e
    cases e2
    have h1' : asV (eI cf ia) env = some (r.d, env') := by unfold asV; rw [h1]
    unfold seqOf at hd
    split at hd
    · rename_i xs hx
      cases hd
      rw [hx] at h1'
      refine .inl ⟨F, env, _, _, ok, h1', fun F1 H1 v s1 r1 => ?_⟩
      obtain ⟨p, vs, rfl, g1, g2⟩ := r1.lst_of
      exact ⟨p, rfl, ⟨vs, SqL.of (s1.ok.sub _ _ g1)⟩, q F1 H1 _ s1 (itok_list (SqL.of g1) g2)⟩
    · rename_i xs hx
      cases hd
      rw [hx] at h1'
      refine .inr (.inl ⟨F, env, _, _, ok, h1', fun F1 H1 v s1 r1 => ?_⟩)
      obtain ⟨p, vs, rfl, g1, g2⟩ := r1.tup_of
      exact ⟨p, rfl, ⟨vs, sqT_mono s1.ok.sub g1⟩, q F1 H1 _ s1 (itok_tup g1 g2)⟩
    · rename_i xs hx
      cases hd
      rw [hx] at h1'
      refine .inl ⟨F, env, _, _, ok, h1', fun F1 H1 v s1 r1 => ?_⟩
      obtain ⟨p, vs, rfl, g1, g2⟩ := r1.scr_of
      exact ⟨p, rfl, ⟨vs, s1.ok.sub.seq g1⟩, q F1 H1 _ s1 (itok_list g1 g2)⟩
    · rename_i cs hx
      cases hd
      rw [hx] at h1'
      refine .inr (.inr ⟨F, env, _, _, ok, h1', fun F1 H1 v s1 r1 => ?_⟩)
      cases r1.str_of
      exact ⟨_, rfl, q F1 H1 _ s1 (itok_str cs)⟩
    · cases hd
  · cases e
theorem inW_of {i : Int} (h : inW i = true) : -(2 ^ 62) ≤ i ∧ i < 2 ^ 62 := by
  unfold inW at h
  have := of_decide_eq_true h
  omega
theorem i_rng1 {p : Pos} (hg : Gl X "range") (hm : X.mg "range" = none) (ha : PI' X fa cf a ia) (hs : starEach [a] X.env = [(false, eval a X.env)]) : PIt' X fa cf tg (.Call (.Name "range" p) [a] [] pos) (.rng1 ia) :=
  pi_weak (pi_range1 hg hm (pa_cons ha pa_nil hs) hs) fun σ H R q => by
    obtain ⟨F, env, ds, env', ok, e, q⟩ := q
    simp only [eIt] at e
    split at e
    · rename_i i e1 h1
      split at e
      · rename_i hw
        cases e
        refine ⟨F, env, _, _, ok, h1, fun F1 H1 v s1 r1 => ?_⟩
        cases Rep.int_of r1
        obtain ⟨w1, w2⟩ := inW_of hw
        refine ⟨i, rfl, w1, w2, ?_⟩
        have := itok_rng (K := X.K) (fa := fa) (F := F1) 0 i
        rw [Int.sub_zero] at this
        exact q F1 H1 _ s1 this
      · cases e
    · cases e
theorem i_rng2 {p : Pos} (hg : Gl X "range") (hm : X.mg "range" = none) (ha : PI' X fa cf a ia) (hb : PI' X fa cf b ib) (hs : starEach [a, b] X.env = [(false, eval a X.env), (false, eval b X.env)]) (hs2 : starEach [b] X.env = [(false, eval b X.env)]) :
    PIt' X fa cf tg (.Call (.Name "range" p) [a, b] [] pos) (.rng2 ia ib) :=
  pi_weak (pi_range2 hg hm (pa_cons ha (pa_cons hb pa_nil hs2) (by rw [hs, hs2])) hs hs2) fun σ H R q => by
    obtain ⟨F, env, ds, env', ok, e, q⟩ := q
    simp only [eIt] at e
    split at e
    · rename_i i e1 h1
      split at e
      · rename_i j e2 h2
        split at e
        · rename_i hw
          cases e
          rw [Bool.and_eq_true] at hw
          refine ⟨F, env, _, _, ok, h1, fun F1 H1 v s1 r1 => ⟨F1, e1, _, _, s1.ok, h2, fun F2 H2 w s2 r2 => ?_⟩⟩
          cases Rep.int_of r1
          cases Rep.int_of r2
          obtain ⟨w1, w2⟩ := inW_of hw.1
          obtain ⟨w3, w4⟩ := inW_of hw.2
          exact ⟨i, j, rfl, ⟨w1, w2, w3, w4⟩, q F2 H2 _ (s1.trans s2) (itok_rng i j)⟩
        · cases e
      · cases e
    · cases e

/-! ### statements -/
def FlOk (K : PySem.W.Frag) (fa : Nat → Addr) (H : Hp) (σ : L2.St) (env : Ev) (F' H' : Hp) (σ' : L2.St) (env' : Ev) (D : Ends) : Fl → Prop
  | .nx => D.nx σ' H'
  | .rt r => ∀ v, RRep K fa H σ env F' H' σ' env' v r → D.rt v H'
  | .bk => D.bk σ' H'
  | .ct => D.ct σ' H'
def tS (K : PySem.W.Frag) (fa : Nat → Addr) (f : Ev → Option (Fl × Ev)) : TS := fun D σ H => ∃ F env fl env', Ok K fa F H σ env ∧ f env = some (fl, env') ∧
  ∀ F' H' σ', Step K fa F H σ env F' H' σ' env' → FlOk K fa H σ env F' H' σ' env' D fl
theorem ps_weak {st : Stmt} {t t' : TS} (h : PS X st t) (w : ∀ D σ H, t' D σ H → t D σ H) : PS X st t' := ⟨fun pins s σ H D I q => h.run pins s σ H D I (w D σ H q)⟩
theorem pss_weak {st : List Stmt} {t t' : TS} (h : PSs X st t) (w : ∀ D σ H, t' D σ H → t D σ H) : PSs X st t' := ⟨fun pins s σ H D I q => h.run pins s σ H D I (w D σ H q)⟩
abbrev PS' (X : Cx) (fa : Nat → Addr) (cf : CF) (st : Stmt) (i : S) : Prop := PS X st (tS X.K fa (eS cf i))
abbrev PSs' (X : Cx) (fa : Nat → Addr) (cf : CF) (st : List Stmt) (i : Ss) : Prop := PSs X st (tS X.K fa (eSs cf i))
theorem FlOk.lift {K : PySem.W.Frag} {F H F1 H1 F2 H2 : Hp} {σ σ1 σ2 : L2.St} {env e1 e2 : Ev} {D : Ends} {fl : Fl} (s : Step K fa F H σ env F1 H1 σ1 e1) (h : FlOk K fa H σ env F2 H2 σ2 e2 D fl) : FlOk K fa H1 σ1 e1 F2 H2 σ2 e2 D fl := by
  cases fl with
  | nx => exact h
  | bk => exact h
  | ct => exact h
  | rt r => exact fun v rr => h v (rr.lift s)
theorem b_nil : PSs' X fa cf [] .nil := pss_weak pss_nil fun D σ H q => by
  obtain ⟨F, env, fl, env', ok, e, q⟩ := q
  simp only [eSs] at e
  cases e
  exact q F H σ (Step.refl ok)
theorem b_cons {st : Stmt} {sts : List Stmt} {i : S} {is : Ss} (h1 : PS' X fa cf st i) (h2 : PSs' X fa cf sts is) : PSs' X fa cf (st :: sts) (.cons i is) := pss_weak (pss_cons h1 h2) fun D σ H q => by
  obtain ⟨F, env, fl, env', ok, e, q⟩ := q
  simp only [eSs] at e
  split at e
  · rename_i e1 h1
    exact ⟨F, env, .nx, e1, ok, h1, fun F1 H1 σ1 s1 => ⟨F1, e1, fl, env', s1.ok, e, fun F2 H2 σ2 s2 => (q F2 H2 σ2 (s1.trans s2)).lift s1⟩⟩
  · rename_i f e1 hn h1
    cases e
    refine ⟨F, env, fl, _, ok, h1, fun F1 H1 σ1 s1 => ?_⟩
    have z := q F1 H1 σ1 s1
    cases fl with
    | nx => exact (hn rfl).elim
    | rt r => exact z
    | bk => exact z
    | ct => exact z
  · cases e
theorem b_ret (ha : PI' X fa cf a ia) : PS' X fa cf (.Return (some a) pos) (.ret ia) := ps_weak (ps_ret ha) fun D σ H q => by
  obtain ⟨F, env, fl, env', ok, e, q⟩ := q
  simp only [eS] at e
  obtain ⟨⟨r, e1⟩, h1, e2⟩ := Option.map_eq_some_iff.mp e
  cases e2
  exact ⟨F, env, r, _, ok, h1, fun F1 H1 v s1 rr => q F1 H1 σ s1 v rr⟩
theorem b_pass : PS' X fa cf (.Pass pos) .pass := ps_weak ps_pass fun D σ H q => by
  obtain ⟨F, env, fl, env', ok, e, q⟩ := q
  simp only [eS] at e
  cases e
  exact q F H σ (Step.refl ok)
theorem b_brk : PS' X fa cf (.Break pos) .brk := ps_weak ps_break fun D σ H q => by
  obtain ⟨F, env, fl, env', ok, e, q⟩ := q
  simp only [eS] at e
  cases e
  exact q F H σ (Step.refl ok)
theorem b_cont : PS' X fa cf (.Continue pos) .cont := ps_weak ps_continue fun D σ H q => by
  obtain ⟨F, env, fl, env', ok, e, q⟩ := q
  simp only [eS] at e
  cases e
  exact q F H σ (Step.refl ok)
theorem b_expr (ha : PI' X fa cf a ia) (hs : swapsWith a none pos.line X.env = pure false) : PS' X fa cf (.Expr a pos) (.expr ia) := ps_weak (ps_expr ha hs) fun D σ H q => by
  obtain ⟨F, env, fl, env', ok, e, q⟩ := q
  simp only [eS] at e
  obtain ⟨⟨r, e1⟩, h1, e2⟩ := Option.map_eq_some_iff.mp e
  cases e2
  exact ⟨F, env, r, _, ok, h1, fun F1 H1 v s1 _ => q F1 H1 σ s1⟩
/-- name = value, once the value's reading is there -/
theorem set_D {i : Nat} {D : Ends} {σ : L2.St} {H : Hp} (q : tS X.K fa (eS cf (.set i ia)) D σ H) : tAsg (tI X.K fa (eI cf ia)) (gName i) D σ H := by
  obtain ⟨F, env, fl, env', ok, e, q⟩ := q
  simp only [eS] at e
  split at e
  · rename_i r e1 h1
    split at e
    · rename_i hf
      cases e
      exact ⟨F, env, r, e1, ok, h1, fun F1 H1 v s1 rr => q F1 H1 _ (s1.assign rr hf)⟩
    · cases e
  · cases e
theorem b_set {i : Nat} {x : Str} {px : Pos} (hN : X.N.Nodup) (hi : X.N[i]? = some x) (hx : Loc X.env.scope x) (ha : PI' X fa cf a ia) (hs : swapsWith a (some (.Name x px)) pos.line X.env = pure false) (hf : X.fn x = true ∨ X.env.scope.names.lookup x = some .local) :
    PS' X fa cf (.Assign [.Name x px] a pos) (.set i ia) := ps_weak (ps_set hN hi hx ha hs hf) fun D σ H q => set_D q
theorem b_if {ca cb : List Stmt} {tc : T} {sa sb : Ss} (hc : PT' X fa cf c tc) (ha : PSs' X fa cf ca sa) (hb : PSs' X fa cf cb sb) : PS' X fa cf (.If c ca cb pos) (.ifs tc sa sb) := ps_weak (ps_if hc ha hb) fun D σ H q => by
  obtain ⟨F, env, fl, env', ok, e, q⟩ := q
  simp only [eS] at e
  split at e
  · rename_i e1 h1
    refine ⟨F, env, true, e1, ok, h1, fun F1 H1 s1 => iteT ?_⟩
    exact ⟨F1, e1, fl, env', s1.ok, e, fun F2 H2 σ2 s2 => (q F2 H2 σ2 (s1.trans s2)).lift s1⟩
  · rename_i e1 h1
    refine ⟨F, env, false, e1, ok, h1, fun F1 H1 s1 => iteF ?_⟩
    exact ⟨F1, e1, fl, env', s1.ok, e, fun F2 H2 σ2 s2 => (q F2 H2 σ2 (s1.trans s2)).lift s1⟩
  · cases e
theorem b_put1 {i : Nat} {x : Str} {px p2 : Pos} (hN : X.N[i]? = some x) (hv : Vis X.env.scope x) (hd : (x == ("__debug__" : Str)) = false) (hcd : (x == ("__classdict__" : Str)) = false) (hb : PI' X fa cf b ib) (ha : PI' X fa cf a ia)
    (hsub : ∀ v, assign (.Subscript (.Name x px) b p2) X.env v = (do
      let ov ← holding [v] (eval (.Name x px) X.env)
      let iv ← holding [v, ov] (eval b X.env)
      standAt p2
      holding [v, ov, iv] (setItem ov iv v)
      release [v, ov, iv] []))
    (hs : swapsWithSole [.Subscript (.Name x px) b p2] a pos.line X.env = pure false) (hw : swappedStores [.Subscript (.Name x px) b p2] a X.env = pure none) (h1 : (assignEach [.Subscript (.Name x px) b p2] X.env).map (·.2) = [assign (.Subscript (.Name x px) b p2) X.env]) :
    PS' X fa cf (.Assign [.Subscript (.Name x px) b p2] a pos) (.put1 i ib ia) := ps_weak (ps_asg (pe_asV ha) (pg_sub (pe_var hN hv hd hcd) hb set_list hsub) hs hw h1) fun D σ H q => by
  obtain ⟨F, env, fl, env', ok, e, q⟩ := q
  simp only [eS] at e
  split at e
  · rename_i r e1 h1
    split at e
    · rename_i hh
      obtain ⟨ys, hy⟩ := Option.isSome_iff_exists.mp hh
      split at e
      · rename_i j e2 h2
        split at e
        · rename_i xs h3
          obtain ⟨n, hn, e5⟩ := Option.map_eq_some_iff.mp e
          cases e5
          refine ⟨F, env, r.d, e1, ok, by unfold asV; rw [h1], fun F1 H1 v s1 r1 => ?_⟩
          obtain ⟨p, vs0, g1, _⟩ := s1.ok.own i ys hy
          refine ⟨.ref p, g1, F1, e1, _, e2, s1.ok, h2, fun F2 H2 w s2 r2 => ?_⟩
          cases Rep.int_of r2
          obtain ⟨p', vs, k1, k2, k3, k4⟩ := s2.ok.own i xs h3
          rw [g1] at k1; cases k1
          refine ⟨p, vs, j, n, rfl, rfl, k3, by rw [k4.length]; exact hn, ?_⟩
          have st := Step.write s2.ok h3 g1 (k4.set (r1.mono s2.sub) n)
          exact q _ _ _ ((s1.trans s2).trans st)
        · cases e
      · cases e
    · cases e
  · cases e
theorem b_app1 {i : Nat} {x : Str} {px p2 apos : Pos} (hN : X.N[i]? = some x) (hv : Vis X.env.scope x) (hd : (x == ("__debug__" : Str)) = false) (hcd : (x == ("__classdict__" : Str)) = false) (ha : PI' X fa cf a ia)
    (hbase : attributeBase (.Name x px) "append" X.env (eval (.Name x px) X.env) = eval (.Name x px) X.env)
    (hfew : ((backTo p2 (starEach [a] X.env)).all (fun x => !x.1) && (backToKw p2 (keywordEach [] X.env)).all (fun x => x.1.isSome) && decide ([a].length + ([] : List Keyword).length + (if ([] : List Keyword).isEmpty then 0 else 1) < 30)) = true)
    (hline : (apos.endLine == p2.line) = true) (hst : starEach [a] X.env = (false, eval a X.env) :: starEach [] X.env) (hs : swapsWith (.Call (.Attribute (.Name x px) "append" apos) [a] [] p2) none pos.line X.env = pure false) :
    PS' X fa cf (.Expr (.Call (.Attribute (.Name x px) "append" apos) [a] [] p2) pos) (.app1 i ia) :=
  ps_weak (ps_expr (pe_bm PySem.F.plainAttrs_list PySem.F.slot_list_append PySem.F.type_list_append mt_append (pe_var hN hv hd hcd) (pa_cons (pe_asV ha) pa_nil hst) hbase hfew hline hst rfl) hs) fun D σ H q => by
    obtain ⟨F, env, fl, env', ok, e, q⟩ := q
    simp only [eS] at e
    split at e
    · rename_i hh
      obtain ⟨ys, hy⟩ := Option.isSome_iff_exists.mp hh
      obtain ⟨p, vs0, g1, g2, g3, g4⟩ := ok.own i ys hy
      split at e
      · rename_i r e1 h1
        split at e
        · rename_i xs h2
          split at e
          · rename_i hz
            cases e
            refine ⟨.ref p, g1, .inl ⟨rfl, vs0, SqL.of g3⟩, F, env, r.d, e1, ok, by unfold asV; rw [h1], fun F1 H1 v s1 r1 => ?_⟩
            obtain ⟨p', vs, k1, k2, k3, k4⟩ := s1.ok.own i xs h2
            rw [g1] at k1; cases k1
            refine ⟨p, vs, v, rfl, rfl, k3, by rw [k4.length]; exact Nat.lt_of_lt_of_le hz big_le, ?_⟩
            have st := Step.write s1.ok h2 g1 (k4.append (.cons r1 .nil))
            exact q _ _ _ (s1.trans st)
          · cases e
        · cases e
      · cases e
    · cases e

/-! ### for -/
theorem for_D {f : Ev → Option (List D × Ev)} {body : Ev → Option (Fl × Ev)} {s : Nat} {D : Ends} {σ : L2.St} {H : Hp}
    (q : tS X.K fa (fun env => match f env with | some (ds, e1) => forD body s ds e1 | none => none) D σ H) : tFor (tIt X.K fa f) (gName s) (tS X.K fa body) D σ H := by
  obtain ⟨F, env, fl, envF, ok, e, q⟩ := q
  simp only at e
  cases hf : f env with
  | none => rw [hf] at e; cases e
  | some de =>
    obtain ⟨ds, e1⟩ := de
    rw [hf] at e
    simp only at e
    refine ⟨F, env, ds, e1, ok, hf, fun F1 H1 J s1 it => ?_⟩
    refine ⟨fun i m σ' H' => ∃ F' en, Step X.K fa F H σ env F' H' σ' en ∧ Same F1 F' ∧ forD body s (ds.drop i) en = some (fl, envF) ∧ i ≤ ds.length ∧ m = ds.length - i, ⟨ds.length, F1, e1, s1, Same.refl _, e, Nat.zero_le _, rfl⟩, ?_⟩
    rintro i m σ' H' ⟨F', en, st, sF, hfor, hi, hm⟩
    have sub : Same F1 H' := sF.trans st.ok.sub
    by_cases hlt : i < ds.length
    · have hd : ds[i]? = some ds[i] := List.getElem?_eq_getElem hlt
      rw [List.drop_eq_getElem_cons hlt] at hfor
      simp only [forD] at hfor
      split at hfor
      · rename_i hfree
        refine .inr ⟨it.go i _ H' hd sub, fun σ2 H2 => ∃ F2 en2, Step X.K fa F H σ env F2 H2 σ2 en2 ∧ Same F1 F2 ∧ forD body s (ds.drop (i + 1)) en2 = some (fl, envF), fun σ2 H2 ⟨F2, en2, a1, a2, a3⟩ => ⟨ds.length - (i + 1), by omega, F2, en2, a1, a2, a3, hlt, rfl⟩, fun x H2 hy => ?_⟩
        obtain ⟨rfl, rx⟩ := it.yld i _ _ x H2 hd sub hy
        have st2 : Step X.K fa F H σ env F' H2 (σ'.set s (some x)) (en.set s (.val ds[i])) := st.assign (r := .val ds[i]) (rx.mono sF) hfree
        cases hb : body (en.set s (.val ds[i])) with
        | none => rw [hb] at hfor; cases hfor
        | some fe =>
          obtain ⟨fl1, en1⟩ := fe
          rw [hb] at hfor
          refine ⟨F', _, fl1, en1, st2.ok, hb, fun F3 H3 σ3 s3 => ?_⟩
          cases fl1 with
          | nx => exact ⟨F3, en1, st2.trans s3, sF.trans s3.sub, hfor⟩
          | ct => exact ⟨F3, en1, st2.trans s3, sF.trans s3.sub, hfor⟩
          | bk =>
            cases hfor
            exact q F3 H3 σ3 (st2.trans s3)
          | rt r =>
            cases hfor
            exact (q F3 H3 σ3 (st2.trans s3)).lift st2
      · cases hfor
    · have ei : i = ds.length := by omega
      subst ei
      rw [List.drop_length] at hfor
      cases hfor
      exact .inl ⟨it.stop H' sub, q F' H' σ' st⟩
theorem b_for {i : Nat} {x : Str} {px : Pos} {it : It} {ib : Ss} {bd : List Stmt} (hxe : PassesOwn (model X.prog X.w) X.A X.env X.xe) (hc : X.calm = true) (hN : X.N.Nodup) (hi : X.N[i]? = some x) (hx : Loc X.env.scope x) (hf : X.fn x = true ∨ X.env.scope.names.lookup x = some .local)
    (ha : PIt' X fa cf (.Name x px) a it) (hb : PSs' X fa cf bd ib) (hs : ∀ x, foldedSetIterable a X.env x = pure x) : PS' X fa cf (.For (.Name x px) a bd [] pos) (.for_ i it ib) :=
  ps_weak (ps_for hxe hc ha (pg_name hN hi hx hf) hb hs) fun D σ H q => by
    refine for_D ?_
    obtain ⟨F, env, fl, envF, ok, e, q⟩ := q
    simp only [eS] at e
    exact ⟨F, env, fl, envF, ok, e, q⟩

/-! ### list comprehensions -/
theorem own_set_free {σ : L2.St} {env : Ev} {s : Nat} {v : Option V} {z z' : Sl} (hz : ∀ xs, z ≠ .own xs ∧ z ≠ .io xs) (hz' : ∀ xs, z' ≠ .own xs ∧ z' ≠ .io xs) (hs : s < env.length) {p : Addr} : Own (σ.set s v) (env.set s z) p → Own σ (env.set s z') p := by
  rintro ⟨i, xs, h1, h2⟩
  by_cases e : s = i
  · subst e
    rcases held_iff.mp h1 with q | q <;> (rw [List.getElem?_set_self hs] at q; injection q with q)
    · exact absurd q (hz xs).1
    · exact absurd q (hz xs).2
  · rw [held_set_ne e] at h1
    rw [List.getElem?_set_ne e] at h2
    exact ⟨i, xs, by rw [held_set_ne e]; exact h1, h2⟩
theorem set_self {σ : L2.St} {s : Nat} {v : Option V} (h : σ[s]? = some v) : σ.set s v = σ := by
  apply List.ext_getElem?
  intro i
  by_cases e : s = i
  · subst e
    rw [List.getElem?_set_self (List.getElem?_eq_some_iff.mp h).1, h]
  · rw [List.getElem?_set_ne e]
theorem env_set_self {env : Ev} {s : Nat} {v : Sl} (h : env[s]? = some v) : env.set s v = env := by
  apply List.ext_getElem?
  intro i
  by_cases e : s = i
  · subst e
    rw [List.getElem?_set_self (List.getElem?_eq_some_iff.mp h).1, h]
  · rw [List.getElem?_set_ne e]
end
end DI

namespace DI
open PySem L2

section
variable {K : PySem.W.Frag} {fa : Nat → Addr} {F H F1 H1 F3 H3 : Hp} {σ σ1 : L2.St} {env e1 e3 en : Ev}
/-- a thing that no name holds is written -/
theorem Step.temp {p : Addr} {o : HO} (a : Step K fa F H σ env F1 H1 σ1 e1) (h0 : Own σ env p ∨ H p = none) (hF : F1 p = none) (n : ¬ Own σ1 e1 p) : Step K fa F H σ env F1 (upd H1 p o) σ1 e1 := by
  refine ⟨a.sub, fun x u e hn => ?_, a.stay, ⟨a.ok.len, fun x u e => ?_, a.ok.val, fun i xs e => ?_, a.ok.dis⟩, a.own, a.io⟩
  · have : x ≠ p := fun z => by
      subst z
      rcases h0 with y | y
      · exact hn y
      · rw [e] at y; cases y
    rw [upd_ne this]
    exact a.keep x u e hn
  · rw [upd_ne (ne_of_none e hF)]
    exact a.ok.sub x u e
  · obtain ⟨q, vs, g1, g2, g3, g4⟩ := a.ok.own i xs e
    have : q ≠ p := fun z => by subst z; exact n ⟨i, xs, e, g1⟩
    exact ⟨q, vs, g1, g2, by rw [upd_ne this]; exact g3, g4⟩
/-- a comprehension's own name for a turn: what stood there is put aside -/
def Loose (z : Sl) : Prop := ∀ xs, z ≠ .own xs ∧ z ≠ .io xs
theorem free_loose {s : Nat} {z : Sl} (hs : s < en.length) (hz : Loose z) : free (en.set s z) s = true := by
  unfold free
  rw [List.getElem?_set_self hs]
  cases z with
  | un => rfl
  | val d => rfl
  | own xs => exact absurd rfl (hz xs).1
  | io xs => exact absurd rfl (hz xs).2
theorem turn_in {s : Nat} {z : Sl} {x : V} {d : D} (hs : s < en.length) (hz : Loose z) (o : Ok K fa F H σ (en.set s z)) (r : Rep K fa F x d) : Ok K fa F H (σ.set s (some x)) (en.set s (.val d)) := by
  have st := (Step.refl o).assign (r := .val d) (v := x) r (free_loose hs hz)
  rw [List.set_set] at st
  exact st.ok
theorem loose_val (d : D) : Loose (.val d) := fun xs => ⟨fun e => (nomatch e), fun e => (nomatch e)⟩
theorem turn_out {s : Nat} {z : Sl} {x : V} {d : D} (hs : s < en.length) (hz : Loose z) (o : Ok K fa F H σ (en.set s z)) (st : Step K fa F H (σ.set s (some x)) (en.set s (.val d)) F3 H3 (σ.set s (some x)) e3) :
    Step K fa F H σ (en.set s z) F3 H3 σ (e3.set s z) := by
  have own1 : ∀ p, Own (σ.set s (some x)) (en.set s (.val d)) p → Own σ (en.set s z) p := fun p => own_set_free (loose_val d) hz hs
  have hl : e3.length = en.length := by
    have h1 := st.ok.len
    have h2 := o.len
    rw [List.length_set] at h1 h2
    omega
  have hs3 : s < e3.length := by omega
  have hin : ∀ i xs, held (e3.set s z) i = some xs → s ≠ i ∧ held e3 i = some xs := fun i xs h => by
    by_cases e : s = i
    · subst e
      rcases held_iff.mp h with q | q <;> (rw [List.getElem?_set_self hs3] at q; injection q with q)
      · exact absurd q (hz xs).1
      · exact absurd q (hz xs).2
    · rw [held_set_ne e] at h; exact ⟨e, h⟩
  refine ⟨st.sub, fun a u e n => st.keep a u e fun q => n (own1 a q), fun a h1 h2 n => st.stay a h1 h2 fun q => n (own1 a q), ⟨?_, st.ok.sub, fun i d' e => ?_, fun i xs e => ?_, fun i j xs ys p hij e1 e2 g1 g2 => ?_⟩, fun p ⟨i, xs, e, g⟩ => ?_, fun j xs e => ?_⟩
  · rw [List.length_set, hl]
    have := o.len
    rw [List.length_set] at this
    exact this
  · by_cases ei : s = i
    · subst ei
      rw [List.getElem?_set_self hs3] at e
      injection e with e
      obtain ⟨v, g1, g2⟩ := o.val s d' (by rw [List.getElem?_set_self hs, e])
      exact ⟨v, g1, g2.mono st.sub⟩
    · rw [List.getElem?_set_ne ei] at e
      obtain ⟨v, g1, g2⟩ := st.ok.val i d' e
      rw [List.getElem?_set_ne ei] at g1
      exact ⟨v, g1, g2⟩
  · obtain ⟨hne, e'⟩ := hin i xs e
    obtain ⟨p, vs, g1, g2⟩ := st.ok.own i xs e'
    rw [List.getElem?_set_ne hne] at g1
    exact ⟨p, vs, g1, g2⟩
  · obtain ⟨hi, e1'⟩ := hin i xs e1
    obtain ⟨hj, e2'⟩ := hin j ys e2
    exact st.ok.dis i j xs ys p hij e1' e2' (by rw [List.getElem?_set_ne hi]; exact g1) (by rw [List.getElem?_set_ne hj]; exact g2)
  · obtain ⟨hne, e'⟩ := hin i xs e
    rcases st.own p ⟨i, xs, e', by rw [List.getElem?_set_ne hne]; exact g⟩ with q | q
    · exact .inl (own1 p q)
    · exact .inr q
  · have hne : s ≠ j := fun q => by
      subst q
      rw [List.getElem?_set_self hs] at e
      injection e with e
      exact absurd e (hz xs).2
    rw [List.getElem?_set_ne hne] at e
    obtain ⟨_, ys, g⟩ := st.io j xs (by rw [List.getElem?_set_ne hne]; exact e)
    exact ⟨rfl, ys, by rw [List.getElem?_set_ne hne]; exact g⟩
end

section
variable {X : Cx} {fa : Nat → Addr} {cf : CF}
/-- one turn of a comprehension -/
def lcT (fc : Ev → Option (Bool × Ev)) (fe : Ev → Option (R × Ev)) (s : Nat) : D → Ev → Option (Option D × Ev) := fun d en => match fc (en.set s (.val d)) with
  | some (true, e2) => (fe e2).map fun (r, e3) => (some r.d, e3)
  | some (false, e2) => some (none, e2)
  | none => none
theorem lc_D {K : PySem.W.Frag} {f : Ev → Option (List D × Ev)} {fc : Ev → Option (Bool × Ev)} {fe : Ev → Option (R × Ev)} {s : Nat} {σ : L2.St} {H : Hp} {Q : VK} {F : Hp} {env e1 eE : Ev} {ds xs : List D} {old : Sl} (ok : Ok K fa F H σ env) (hf : f env = some (ds, e1)) (ho : e1[s]? = some old) (hz : Loose old)
    (hl : lcD (lcT fc fe s) ds [] e1 = some (xs, eE)) (q : ∀ F' H' v, Step K fa F H σ env F' H' σ (eE.set s old) → RRep K fa H σ env F' H' σ (eE.set s old) v (.new xs) → Q v H') :
    tLc (tIt K fa f) (gName s) (tB K fa fc) (tV K fa (asV fe)) [s] σ H Q := by
  refine ⟨F, env, ds, e1, ok, hf, fun F1 H1 J s1 it L hL => ?_⟩
  have hs : s < e1.length := (List.getElem?_eq_some_iff.mp ho).1
  obtain ⟨s2, r2⟩ := (ARes.new (K := K) (fa := fa) (F := F1) (vs := []) (xs := []) hL .nil).step s1.ok
  have hLF : F1 L = none := sub_none s1.ok.sub hL
  have hLn : ¬ Own σ e1 L := fun z => by
    obtain ⟨_, vs, y⟩ := s1.ok.own_at z
    rw [hL] at y; cases y
  have h0 : Own σ env L ∨ H L = none := none_back s1 (.inr hL)
  refine ⟨fun i m H' => ∃ F' en acc va, Step K fa F H σ env F' H' σ (en.set s old) ∧ Same F1 F' ∧ H' L = some (.lst va) ∧ F' L = none ∧ RepL K fa F' va acc ∧ ¬ Own σ (en.set s old) L ∧ lcD (lcT fc fe s) (ds.drop i) acc en = some (xs, eE) ∧ i ≤ ds.length ∧ m = ds.length - i ∧ s < en.length,
    ⟨ds.length, F1, e1, [], [], by rw [env_set_self ho]; exact s1.trans s2, Same.refl _, upd_same, hLF, .nil, by rw [env_set_self ho]; exact hLn, hl, Nat.zero_le _, rfl, hs⟩, ?_⟩
  rintro i m H' ⟨F', en, acc, va, st, sF, hLl, hLF', ra, hno, hlc, hi, hm, hsn⟩
  have sub : Same F1 H' := sF.trans st.ok.sub
  by_cases hlt : i < ds.length
  · have hd : ds[i]? = some ds[i] := List.getElem?_eq_getElem hlt
    rw [List.drop_eq_getElem_cons hlt] at hlc
    simp only [lcD] at hlc
    refine .inr ⟨it.go i _ H' hd sub, fun H2 => ∃ F2 en2 acc2 va2, Step K fa F H σ env F2 H2 σ (en2.set s old) ∧ Same F1 F2 ∧ H2 L = some (.lst va2) ∧ F2 L = none ∧ RepL K fa F2 va2 acc2 ∧ ¬ Own σ (en2.set s old) L ∧ lcD (lcT fc fe s) (ds.drop (i + 1)) acc2 en2 = some (xs, eE) ∧ s < en2.length,
      fun H2 ⟨F2, en2, acc2, va2, a1, a2, a3, a4, a5, a6, a7, a8⟩ => ⟨ds.length - (i + 1), by omega, F2, en2, acc2, va2, a1, a2, a3, a4, a5, a6, a7, hlt, rfl, a8⟩, fun x H2 hy => ?_⟩
    obtain ⟨rfl, rx⟩ := it.yld i _ _ x H2 hd sub hy
    have ew : wipe σ [s] = σ.set s none := rfl
    show (fun σ2 H2 => wipe σ2 [s] = wipe σ [s] ∧ _) ((wipe σ [s]).set s (some x)) H2
    rw [ew, List.set_set]
    have okI := turn_in hsn hz st.ok (rx.mono sF)
    refine ⟨by show (σ.set s (some x)).set s none = σ.set s none; rw [List.set_set], ?_⟩
    -- what stands behind the turn
    have back : ∀ {F3 H3 : Hp} {e3 : Ev}, Step K fa F' H2 (σ.set s (some x)) (en.set s (.val ds[i])) F3 H3 (σ.set s (some x)) e3 →
        Step K fa F H σ env F3 H3 σ (e3.set s old) ∧ H3 L = some (.lst va) ∧ F3 L = none ∧ RepL K fa F3 va acc ∧ ¬ Own σ (e3.set s old) L ∧ s < e3.length := fun {F3 H3 e3} s3 => by
      have so := turn_out hsn hz st.ok s3
      refine ⟨st.trans so, so.keep L _ hLl hno, so.stay L (by rw [hLl]; simp) hLF' hno, ra.mono so.sub, fun z => ?_, ?_⟩
      · rcases so.own L z with y | y
        · exact hno y
        · rw [hLl] at y; cases y
      · have h1 := s3.ok.len
        have h2 := st.ok.len
        rw [List.length_set] at h1 h2
        omega
    cases hc : fc (en.set s (.val ds[i])) with
    | none => simp only [lcT, hc] at hlc; cases hlc
    | some be =>
      obtain ⟨k, e2⟩ := be
      refine ⟨F', _, k, e2, okI, hc, fun F3 H3 s3 => ?_⟩
      cases k with
      | false =>
        simp only [lcT, hc] at hlc
        obtain ⟨b1, b2, b3, b4, b5, b6⟩ := back s3
        exact iteF ⟨F3, e2, acc, va, b1, sF.trans s3.sub, b2, b3, b4, b5, hlc, b6⟩
      | true =>
        simp only [lcT, hc] at hlc
        cases he : fe e2 with
        | none => rw [he] at hlc; cases hlc
        | some re =>
          obtain ⟨r, e3⟩ := re
          rw [he] at hlc
          simp only [Option.map_some] at hlc
          refine iteT ⟨F3, e2, r.d, e3, s3.ok, by unfold asV; rw [he], fun F4 H4 y s4 ry => ?_⟩
          obtain ⟨b1, b2, b3, b4, b5, b6⟩ := back (s3.trans s4)
          split at hlc
          · rename_i hzz
            refine ⟨va, b2, by rw [b4.length]; exact Nat.lt_of_lt_of_le hzz big_le, F4, e3, acc ++ [r.d], va ++ [y], b1.temp h0 b3 b5, (sF.trans s3.sub).trans s4.sub, upd_same, b3, b4.append (.cons ry .nil), b5, hlc, b6⟩
          · cases hlc
  · have ei : i = ds.length := by omega
    subst ei
    rw [List.drop_length] at hlc
    cases hlc
    exact .inl ⟨it.stop H' sub, q F' H' _ st ⟨L, va, rfl, h0, hLF', hLl, ra, hno⟩⟩
theorem lc_some {s : Nat} {it : It} {c : T} {e : I} {env env' : Ev} {r : R} (h : eI cf (.lc s it c e) env = some (r, env')) :
    ∃ ds e1 old xs eE, eIt cf it env = some (ds, e1) ∧ e1[s]? = some old ∧ Loose old ∧ lcD (lcT (eT cf c) (eI cf e) s) ds [] e1 = some (xs, eE) ∧ r = .new xs ∧ env' = eE.set s old := by
  simp only [eI] at h
  split at h
  · rename_i ds e1 h1
    split at h
    · cases h
    · cases h
    · cases h
    · rename_i old hn1 hn2 ho
      split at h
      · rename_i xs eE hl
        cases h
        exact ⟨ds, e1, old, xs, eE, h1, ho, fun ys => ⟨fun e => hn1 ys e, fun e => hn2 ys e⟩, hl, rfl, rfl⟩
      · cases h
  · cases h
theorem lc_tI {s : Nat} {it : It} {c : T} {e : I} {σ : L2.St} {H : Hp} {Q : VK} (h : tI X.K fa (eI cf (.lc s it c e)) σ H Q) : tLc (tIt X.K fa (eIt cf it)) (gName s) (tB X.K fa (eT cf c)) (tV X.K fa (asV (eI cf e))) [s] σ H Q := by
  obtain ⟨F, env, z, env', ok, e, q⟩ := h
  obtain ⟨ds, e1, old, xs, eE, h1, h2, h3, h4, rfl, rfl⟩ := lc_some e
  exact lc_D ok h1 h2 h3 h4 q
theorem s_lc {elt tgx iter : Expr} {x : Str} {px pos : Pos} {ifs : List Expr} {scope : Scope} {s : Nat} {it : It} {c : T} {e : I} (hc : X.calm = true) (hN : X.N.Nodup) (hi : PIt' X fa cf (.Name x px) iter it) (ok : BlkOk X.N X.env.scope scope [(x, s)])
    (hg : ∀ (s' : Shared) (H : Hp) (C : Addr) (cl : List (Str × Addr)) (fp : List Addr), PG (X.blk s' H scope (compEnvC scope cl C X.env) fp) (.Name x px) (gName s)) (ht : ∀ (s : Shared) (H : Hp) (C : Addr) (cl : List (Str × Addr)) (fp : List Addr), PTs (X.blk s H scope (compEnvC scope cl C X.env) fp) ifs (tB X.K fa (eT cf c)))
    (he : ∀ (s : Shared) (H : Hp) (C : Addr) (cl : List (Str × Addr)) (fp : List Addr), PE (X.blk s H scope (compEnvC scope cl C X.env) fp) elt (tI X.K fa (eI cf e))) (hs : ∀ x, foldedSetIterable iter X.env x = pure x) :
    PI' X fa cf (.ListComp elt [⟨.Name x px, iter, ifs, 0⟩] scope pos) (.lc s it c e) :=
  pe_weak (pe_lc (own := [(x, s)]) hc hN hi ok hg ht (fun a b c d f => pe_asV (he a b c d f)) hs) fun σ H Q q => lc_tI q
theorem b_setLc {elt iter : Expr} {x y : Str} {px py pos spos : Pos} {ifs : List Expr} {scope : Scope} {s j : Nat} {it : It} {c : T} {e : I} (hc : X.calm = true) (hN : X.N.Nodup) (hy : X.N[j]? = some y) (hyl : X.env.scope.names.lookup y = some .local)
    (hsw : swapsWith (.ListComp elt [⟨.Name x px, iter, ifs, 0⟩] scope pos) (some (.Name y py)) spos.line X.env = pure true) (hi : PIt' X fa cf (.Name x px) iter it) (ok : BlkOk X.N X.env.scope scope [(x, s)])
    (hg : ∀ (s' : Shared) (H : Hp) (C : Addr) (cl : List (Str × Addr)) (fp : List Addr), PG (X.blk s' H scope (compEnvC scope cl C X.env) fp) (.Name x px) (gName s)) (ht : ∀ (s : Shared) (H : Hp) (C : Addr) (cl : List (Str × Addr)) (fp : List Addr), PTs (X.blk s H scope (compEnvC scope cl C X.env) fp) ifs (tB X.K fa (eT cf c)))
    (he : ∀ (s : Shared) (H : Hp) (C : Addr) (cl : List (Str × Addr)) (fp : List Addr), PE (X.blk s H scope (compEnvC scope cl C X.env) fp) elt (tI X.K fa (eI cf e))) (hs : ∀ x, foldedSetIterable iter X.env x = pure x) :
    PS' X fa cf (.Assign [.Name y py] (.ListComp elt [⟨.Name x px, iter, ifs, 0⟩] scope pos) spos) (.set j (.lc s it c e)) :=
  ps_weak (ps_setLc (own := [(x, s)]) hc hN hy hyl hsw hi ok hg ht (fun a b c d f => pe_asV (he a b c d f)) hs) fun D σ H q => by
    have q' := set_D q
    exact lc_tI q'
end
end DI

namespace DI
open PySem L2

/-! ### what the syntax itself tells -/
def isStar : Expr → Bool
  | .Starred .. => true
  | _ => false
def isSlice : Expr → Bool
  | .Slice .. => true
  | _ => false
def isComp : Expr → Bool
  | .ListComp .. => true
  | .SetComp .. => true
  | .DictComp .. => true
  | _ => false
def plainTest : Expr → Bool
  | .UnaryOp .Not _ _ => false
  | .BoolOp .. => false
  | .IfExp .. => false
  | .Compare .. => false
  | _ => true
def isSet : Expr → Bool
  | .Set .. => true
  | _ => false
def plainBase : Expr → Bool
  | .Call .. => false
  | _ => true
theorem star_of {e : Expr} {es : List Expr} {env : Env} (h : isStar e = false) : starEach (e :: es) env = (false, eval e env) :: starEach es env := by
  cases e <;> first | rfl | cases h
theorem noStars {pos : Pos} {env : Env} : ∀ {es : List Expr}, es.all (fun e => !isStar e) = true → (backTo pos (starEach es env)).any (·.1) = false
  | [], _ => rfl
  | e :: es, h => by
    rw [List.all_cons, Bool.and_eq_true] at h
    rw [star_of (by simpa using h.1)]
    have := noStars (pos := pos) (env := env) h.2
    show (false || (backTo pos (starEach es env)).any (·.1)) = false
    rw [this]; rfl
theorem noStarsAll {pos : Pos} {env : Env} : ∀ {es : List Expr}, es.all (fun e => !isStar e) = true → (backTo pos (starEach es env)).all (fun x => !x.1) = true
  | [], _ => rfl
  | e :: es, h => by
    rw [List.all_cons, Bool.and_eq_true] at h
    rw [star_of (by simpa using h.1)]
    have := noStarsAll (pos := pos) (env := env) h.2
    show (!false && (backTo pos (starEach es env)).all (fun x => !x.1)) = true
    rw [this]; rfl
theorem plainIx_of {b : Expr} (h : isSlice b = false) : PlainIx b := by
  intro o i
  cases b <;> first | rfl | cases h
theorem test_of {a : Expr} {env : Env} (h : plainTest a = true) : ∀ whole, isTrue a env whole = (do let v ← whole; standAt a.pos; holding [v] (truthy v)) := by
  intro whole
  cases a with
  | UnaryOp op _ _ => cases op <;> first | rfl | cases h
  | BoolOp _ _ _ => cases h
  | IfExp _ _ _ _ => cases h
  | Compare _ _ _ _ => cases h
  | _ => rfl
theorem set_of {e : Expr} {env : Env} (h : isSet e = false) : ∀ x, foldedSetIterable e env x = pure x := by
  intro x
  cases e <;> first | rfl | cases h
theorem swap_of {a : Expr} {t : Option Expr} {l : Nat} {env : Env} (h : isComp a = false) : swapsWith a t l env = pure false := by
  cases a <;> first | rfl | cases h
theorem base_of {o : Expr} {attr : Str} {env : Env} {w : Sem Value} (h : plainBase o = true) : attributeBase o attr env w = w := by
  cases o <;> first | rfl | cases h
theorem few_of {pos : Pos} {env : Env} {b : Expr} (h : isStar b = false) : ((backTo pos (starEach [b] env)).all (fun x => !x.1) && (backToKw pos (keywordEach [] env)).all (fun x => x.1.isSome) && decide ([b].length + ([] : List Keyword).length + (if ([] : List Keyword).isEmpty then 0 else 1) < 30)) = true := by
  rw [star_of h]; rfl

/-! ### a, b = x, y -/
def parOk (vs : List Expr) : Bool := vs.all (fun e => !isStar e) && !vs.all (foldedForSure 8) && !vs.all (constantsAlone 8)
theorem any_star {vs : List Expr} (h : vs.all (fun e => !isStar e) = true) (g : Expr → Bool) (hg : ∀ e, isStar e = false → g e = false) : vs.any g = false := by
  induction vs with
  | nil => rfl
  | cons v vs ih =>
    rw [List.all_cons, Bool.and_eq_true] at h
    rw [List.any_cons, ih h.2, hg v (by simpa using h.1)]
    rfl
theorem sw2 {env : Env} {x y : Str} {px py pt : Pos} {kt k2 : Nat} {pt2 : Pos} {a b : Expr} (hk : env.scope.kind = .function) (hx : env.scope.names.lookup x = some .local) (hy : env.scope.names.lookup y = some .local) (hl : (py.line == px.line) = true) (hxy : (x == y) = false) (hp : parOk [a, b] = true) :
    swappedStores [.Tuple [.Name x px, .Name y py] kt pt] (.Tuple [a, b] k2 pt2) env = pure (some [x, y]) := by
  unfold parOk at hp
  simp only [Bool.and_eq_true, Bool.not_eq_true'] at hp
  obtain ⟨⟨h1, h2⟩, h3⟩ := hp
  have kx : env.kindOf x = some .local := hx
  have ky : env.kindOf y = some .local := hy
  have hb : env.blockKind = .function := by unfold Env.blockKind; rw [hk]; rfl
  have hyx : (y == x) = false := by
    rw [beq_eq_false_iff_ne] at hxy ⊢
    exact fun e => hxy e.symm
  unfold swappedStores
  simp only [hb, kx, ky, hl, Expr.pos, List.filterMap_cons, List.filterMap_nil, List.head?_cons, Option.map_some, Option.getD_some, beq_self_eq_true, Bool.and_self, if_true, List.length_cons, List.length_nil, h2, h3, List.eraseDups_cons, List.filter_cons, hyx, hxy, Bool.not_false, List.filter_nil, List.eraseDups_nil]
  rw [if_neg (by decide), any_star h1 _ (by intro e he; cases e <;> first | rfl | cases he)]
  rfl
theorem sw3 {env : Env} {x y z : Str} {px py pz pt : Pos} {kt k2 : Nat} {pt2 : Pos} {a b c : Expr} (hk : env.scope.kind = .function) (hx : env.scope.names.lookup x = some .local) (hy : env.scope.names.lookup y = some .local) (hz : env.scope.names.lookup z = some .local) (hl : (py.line == px.line) = true) (hl2 : (pz.line == px.line) = true)
    (hxy : (x == y) = false) (hxz : (x == z) = false) (hyz : (y == z) = false) (hp : parOk [a, b, c] = true) :
    swappedStores [.Tuple [.Name x px, .Name y py, .Name z pz] kt pt] (.Tuple [a, b, c] k2 pt2) env = pure (some [x, y, z]) := by
  unfold parOk at hp
  simp only [Bool.and_eq_true, Bool.not_eq_true'] at hp
  obtain ⟨⟨h1, h2⟩, h3⟩ := hp
  have kx : env.kindOf x = some .local := hx
  have ky : env.kindOf y = some .local := hy
  have kz : env.kindOf z = some .local := hz
  have hb : env.blockKind = .function := by unfold Env.blockKind; rw [hk]; rfl
  have flip : ∀ {u v : Str}, (u == v) = false → (v == u) = false := fun {u v} h => by
    rw [beq_eq_false_iff_ne] at h ⊢
    exact fun e => h e.symm
  have hyx := flip hxy
  have hzx := flip hxz
  have hzy := flip hyz
  unfold swappedStores
  simp only [hb, kx, ky, kz, hl, hl2, Expr.pos, List.filterMap_cons, List.filterMap_nil, List.head?_cons, Option.map_some, Option.getD_some, beq_self_eq_true, Bool.and_self, if_true, List.length_cons, List.length_nil, h2, h3, List.eraseDups_cons, List.filter_cons, hyx, hxy, hzx, hxz, hzy, hyz, Bool.not_false, List.filter_nil, List.eraseDups_nil]
  rw [if_neg (by decide), any_star h1 _ (by intro e he; cases e <;> first | rfl | cases he)]
  rfl
section
variable {K : PySem.W.Frag} {fa : Nat → Addr} {F H F1 H1 : Hp} {σ σ1 : L2.St} {env e1 : Ev}
/-- a second result stands behind the first one's store -/
theorem RRep.set {v w : V} {r r' : R} {s : Nat} (a : Step K fa F H σ env F1 H1 σ1 e1) (h1 : RRep K fa H σ env F1 H1 σ1 e1 v r) (h2 : RRep K fa H σ env F1 H1 σ1 e1 w r') (hf : free e1 s = true) (hd : ∀ xs ys, r = .new xs → r' = .new ys → v ≠ w) :
    RRep K fa H σ env F1 H1 (σ1.set s (some v)) (e1.set s (asSl r)) w r' := by
  cases r' with
  | val d => exact h2
  | new ys =>
    obtain ⟨p, vs, rfl, g0, g1, g2, g3, g4⟩ := h2
    refine ⟨p, vs, rfl, g0, g1, g2, g3, fun ⟨i, xs, e, g⟩ => ?_⟩
    obtain ⟨hs, _⟩ := free_not hf
    by_cases ei : s = i
    · subst ei
      have hs' : s < σ1.length := by rw [a.ok.len]; exact hs
      rw [List.getElem?_set_self hs'] at g
      cases g
      cases r with
      | val d => rcases held_iff.mp e with q | q <;> (rw [List.getElem?_set_self hs] at q; cases q)
      | new zs => exact hd zs ys rfl rfl rfl
    · rw [held_set_ne ei] at e
      rw [List.getElem?_set_ne ei] at g
      exact g4 ⟨i, xs, e, g⟩
/-- two new lists are two -/
theorem RRep.apart {F2 H2 : Hp} {σ2 : L2.St} {e2 : Ev} {v w : V} {xs ys : List D} (h1 : RRep K fa H σ env F1 H1 σ1 e1 v (.new xs)) (h2 : RRep K fa H1 σ1 e1 F2 H2 σ2 e2 w (.new ys)) : v ≠ w := by
  obtain ⟨p, vs, rfl, _, _, g2, _, g4⟩ := h1
  obtain ⟨q, ws, rfl, k0, _⟩ := h2
  intro e
  cases e
  rcases k0 with k | k
  · exact g4 k
  · rw [g2] at k; cases k
end
section
variable {X : Cx} {fa : Nat → Addr} {cf : CF} {pos : Pos} {a b c : Expr} {ia ib ic : I}
theorem eRs_cons {cf : CF} {a : I} {as : Is} {env env' : Ev} {rs : List R} (h : eRs cf (.cons a as) env = some (rs, env')) : ∃ r e1 rs', eI cf a env = some (r, e1) ∧ eRs cf as e1 = some (rs', env') ∧ rs = r :: rs' := by
  simp only [eRs] at h
  split at h
  · rename_i r e1 h1
    obtain ⟨⟨rs', e2⟩, h2, e3⟩ := Option.map_eq_some_iff.mp h
    cases e3
    exact ⟨r, e1, rs', h1, h2, rfl⟩
  · cases h
theorem eRs_nil {cf : CF} {env env' : Ev} {rs : List R} (h : eRs cf .nil env = some (rs, env')) : rs = [] ∧ env' = env := by
  simp only [eRs] at h
  cases h
  exact ⟨rfl, rfl⟩
theorem b_par2 {i j : Nat} {x y : Str} {px py pt pt2 : Pos} {kt k2 : Nat} (hc : X.calm = true) (hk : X.env.scope.kind = .function) (hN : X.N.Nodup) (hi : X.N[i]? = some x) (hj : X.N[j]? = some y) (hij : i ≠ j) (hx : X.env.scope.names.lookup x = some .local) (hy : X.env.scope.names.lookup y = some .local)
    (ha : PI' X fa cf a ia) (hb : PI' X fa cf b ib) (hl : (py.line == px.line) = true) (hxy : (x == y) = false) (hp : parOk [a, b] = true) :
    PS' X fa cf (.Assign [.Tuple [.Name x px, .Name y py] kt pt] (.Tuple [a, b] k2 pt2) pos) (.par [i, j] (.cons ia (.cons ib .nil))) := by
  have hst : isStar a = false ∧ isStar b = false := by
    unfold parOk at hp
    simp only [List.all_cons, List.all_nil, Bool.and_eq_true, Bool.not_eq_true', Bool.and_true] at hp
    exact hp.1.1
  refine ps_weak (ps_par hc hN hi hj hij hx hy (pa_cons ha (pa_cons hb pa_nil (star_of hst.2)) (star_of hst.1)) (sw2 hk hx hy hl hxy hp) rfl) fun D σ H q => ?_
  obtain ⟨F, env, fl, env', ok, e, q⟩ := q
  simp only [eS] at e
  split at e
  · rename_i rs e2 h1
    split at e
    · obtain ⟨e3, h2, e5⟩ := Option.map_eq_some_iff.mp e
      cases e5
      obtain ⟨r1, e1, rs1, g1, g2, rfl⟩ := eRs_cons h1
      obtain ⟨r2, e2', rs2, g3, g4, rfl⟩ := eRs_cons g2
      obtain ⟨rfl, rfl⟩ := eRs_nil g4
      refine ⟨F, env, r1, e1, ok, g1, fun F1 H1 v s1 rr1 => ⟨F1, e1, r2, e2, s1.ok, g3, fun F2 H2 w s2 rr2 => ⟨v, w, rfl, ?_⟩⟩⟩
      simp only [setRs] at h2
      split at h2
      · rename_i f1
        split at h2
        · rename_i f2
          cases h2
          have a1 := rr1.stay s2
          have a2 := rr2.lift s1
          have st := (s1.trans s2).assign a1 f1
          have a3 := RRep.set (s1.trans s2) a1 a2 f1 fun xs ys ex ey => by
            subst ex ey
            exact RRep.apart rr1 rr2
          exact q F2 H2 _ (st.assign a3 f2)
        · cases h2
      · cases h2
    · cases e
  · cases e
theorem b_par3 {i j l : Nat} {x y z : Str} {px py pz pt pt2 : Pos} {kt k2 : Nat} (hc : X.calm = true) (hk : X.env.scope.kind = .function) (hN : X.N.Nodup) (hi : X.N[i]? = some x) (hj : X.N[j]? = some y) (hl' : X.N[l]? = some z) (hij : i ≠ j) (hil : i ≠ l) (hjl : j ≠ l) (hx : X.env.scope.names.lookup x = some .local) (hy : X.env.scope.names.lookup y = some .local) (hz : X.env.scope.names.lookup z = some .local)
    (ha : PI' X fa cf a ia) (hb : PI' X fa cf b ib) (hcc : PI' X fa cf c ic) (hl : (py.line == px.line) = true) (hl2 : (pz.line == px.line) = true) (hxy : (x == y) = false) (hxz : (x == z) = false) (hyz : (y == z) = false) (hp : parOk [a, b, c] = true) :
    PS' X fa cf (.Assign [.Tuple [.Name x px, .Name y py, .Name z pz] kt pt] (.Tuple [a, b, c] k2 pt2) pos) (.par [i, j, l] (.cons ia (.cons ib (.cons ic .nil)))) := by
  have hst : isStar a = false ∧ isStar b = false ∧ isStar c = false := by
    unfold parOk at hp
    simp only [List.all_cons, List.all_nil, Bool.and_eq_true, Bool.not_eq_true', Bool.and_true] at hp
    exact hp.1.1
  refine ps_weak (ps_par3 hc hN hi hj hl' hij hil hjl hx hy hz (pa_cons ha (pa_cons hb (pa_cons hcc pa_nil (star_of hst.2.2)) (star_of hst.2.1)) (star_of hst.1)) (sw3 hk hx hy hz hl hl2 hxy hxz hyz hp) rfl) fun D σ H q => ?_
  obtain ⟨F, env, fl, env', ok, e, q⟩ := q
  simp only [eS] at e
  split at e
  · rename_i rs e2 h1
    split at e
    · obtain ⟨e3, h2, e5⟩ := Option.map_eq_some_iff.mp e
      cases e5
      obtain ⟨r1, e1, rs1, g1, g2, rfl⟩ := eRs_cons h1
      obtain ⟨r2, e2', rs2, g3, g4, rfl⟩ := eRs_cons g2
      obtain ⟨r3, e3', rs3, g5, g6, rfl⟩ := eRs_cons g4
      obtain ⟨rfl, rfl⟩ := eRs_nil g6
      refine ⟨F, env, r1, e1, ok, g1, fun F1 H1 v s1 rr1 => ⟨F1, e1, r2, e2', s1.ok, g3, fun F2 H2 w s2 rr2 => ⟨F2, e2', r3, e2, s2.ok, g5, fun F3 H3 u s3 rr3 => ⟨v, w, u, rfl, ?_⟩⟩⟩⟩
      simp only [setRs] at h2
      split at h2
      · rename_i f1
        split at h2
        · rename_i f2
          split at h2
          · rename_i f3
            cases h2
            have s123 := (s1.trans s2).trans s3
            have a1 := (rr1.stay s2).stay s3
            have a2 := (rr2.lift s1).stay s3
            have a3 := rr3.lift (s1.trans s2)
            have d12 : ∀ xs ys, r1 = .new xs → r2 = .new ys → v ≠ w := fun xs ys ex ey => by subst ex ey; exact RRep.apart rr1 rr2
            have d13 : ∀ xs ys, r1 = .new xs → r3 = .new ys → v ≠ u := fun xs ys ex ey => by subst ex ey; exact RRep.apart (rr1.stay s2) rr3
            have d23 : ∀ xs ys, r2 = .new xs → r3 = .new ys → w ≠ u := fun xs ys ex ey => by subst ex ey; exact RRep.apart rr2 rr3
            have st1 := s123.assign a1 f1
            have b2 := RRep.set s123 a1 a2 f1 d12
            have b3 := RRep.set s123 a1 a3 f1 d13
            have st2 := st1.assign b2 f2
            have c3 := RRep.set st1 b2 b3 f2 d23
            exact q F3 H3 _ (st2.assign c3 f3)
          · cases h2
        · cases h2
      · cases h2
    · cases e
  · cases e
end

/-! ### dict displays -/
def flat2 : List (V × V) → List V
  | [] => []
  | (a, b) :: r => a :: b :: flat2 r
section
variable {X : Cx} {fa : Nat → Addr} {cf : CF} {pos : Pos}
def PPs' (X : Cx) (fa : Nat → Addr) (cf : CF) (pos : Pos) (ks : List (Option Expr)) (vs : List Expr) (is : Is) : Prop :=
  ∃ trs, PPs X pos ks vs trs ∧ ∀ σ H Q, tVs X.K fa (eIs cf is) σ H (fun ws H' => ∃ ps, ws = flat2 ps ∧ Q ps H') → tPairs trs σ H Q
theorem d_nil : PPs' X fa cf pos [] [] .nil := ⟨[], pps_nil, fun σ H Q h => by
  rw [eIs_nil] at h
  obtain ⟨ps, e, q⟩ := tNil_D h
  cases ps with
  | nil => exact q
  | cons p r => cases e⟩
theorem d_cons {k v : Expr} {ks : List (Option Expr)} {vs : List Expr} {ik iv : I} {is : Is} (hk : PI' X fa cf k ik) (hv : PI' X fa cf v iv) (hr : PPs' X fa cf pos ks vs is) :
    PPs' X fa cf pos (some k :: ks) (v :: vs) (.cons ik (.cons iv is)) := by
  obtain ⟨trs, h1, h2⟩ := hr
  refine ⟨_, pps_cons (pe_asV hk) (pe_asV hv) h1, fun σ H Q h => ?_⟩
  rw [eIs_cons, eIs_cons] at h
  refine tV_mono (tCons_D h) fun x H1 q => tV_mono (tCons_D q) fun y H2 q2 => h2 _ _ _ (tVs_mono q2 fun ws H3 ⟨ps, e, z⟩ => ?_)
  cases ps with
  | nil => cases e
  | cons p r =>
    obtain ⟨a, b⟩ := p
    simp only [flat2, List.cons.injEq] at e
    obtain ⟨rfl, rfl, e⟩ := e
    exact ⟨r, e, z⟩
theorem pair_rep {K : PySem.W.Frag} {F : Hp} : ∀ (n : Nat) {ds : List D} {vs : List V} {kvs : List (Key × D)}, ds.length ≤ n → pairUp ds = some kvs → RepL K fa F vs ds →
    ∃ kws : List (Key × V), vs = flat2 (kws.map fun kv => (kV kv.1, kv.2)) ∧ kws.map (·.1) = kvs.map (·.1) ∧ RepK K fa F kws (kvs.map fun p => (keyD p.1, p.2))
  | n, [], _, _, _, e, .nil => by cases e; exact ⟨[], rfl, rfl, .nil⟩
  | n, [d], _, _, _, e, _ => by cases d <;> cases e
  | 0, _ :: _ :: _, _, _, h, _, _ => by simp at h
  | n + 1, d :: v :: r, _, kvs, h, e, .cons r1 (.cons r2 rr) => by
    cases d with
    | int i =>
      simp only [pairUp] at e
      obtain ⟨l, e1, e2⟩ := Option.map_eq_some_iff.mp e
      subst e2
      obtain ⟨kws, h1, h2, h3⟩ := pair_rep n (by simp at h; omega) e1 rr
      subst h1
      cases r1
      exact ⟨(.inl i, _) :: kws, rfl, by simp [h2], .cons r2 h3⟩
    | str cs =>
      simp only [pairUp] at e
      obtain ⟨l, e1, e2⟩ := Option.map_eq_some_iff.mp e
      subst e2
      obtain ⟨kws, h1, h2, h3⟩ := pair_rep n (by simp at h; omega) e1 rr
      subst h1
      cases r1
      exact ⟨(.inr (sOf cs), _) :: kws, rfl, by simp [h2], .cons r2 h3⟩
    | _ => cases e
theorem valV_none {k : Key} : ∀ {kvs : List (Key × V)}, k ∉ kvs.map (·.1) → valV kvs k = none
  | [], _ => rfl
  | p :: r, h => by
    simp only [List.map_cons, List.mem_cons, not_or] at h
    rw [valV_neg (Ne.symm h.1)]
    exact valV_none h.2
theorem mergeK_nodup : ∀ (more kvs : List (Key × V)), ((kvs ++ more).map (·.1)).Nodup → mergeK kvs more = kvs ++ more
  | [], kvs, _ => by simp [mergeK]
  | p :: r, kvs, h => by
    have h1 : p.1 ∉ kvs.map (·.1) := fun q => by
      rw [List.map_append, List.nodup_append] at h
      exact h.2.2 _ q _ (by simp) rfl
    show mergeK (putK kvs p.1 p.2) r = _
    rw [putK_new p.2 (valV_none h1), mergeK_nodup r _ (by simpa using h)]
    simp
theorem s_dict {ks : List (Option Expr)} {vs : List Expr} {is : Is} (hp : PPs' X fa cf pos ks vs is) (hall : ks.all (·.isSome) = true) (hl : ks.length = vs.length) (h0 : ks ≠ []) (h15 : ks.length ≤ 15) :
    PI' X fa cf (.Dict ks vs pos) (.op .dict is) := by
  obtain ⟨trs, h1, h2⟩ := hp
  refine pe_weak (pe_disp h1 hall hl h0 h15) fun σ H Q q => ?_
  obtain ⟨F, env, z, env', ok, e, q⟩ := q
  rw [eI_op] at e
  obtain ⟨ds, e1, e2⟩ := opF_some e
  intro p hp
  have hF := sub_none ok.sub hp
  have nown : ¬ Own σ env p := fun hq => by
    obtain ⟨_, ws, z⟩ := ok.own_at hq
    rw [hp] at z; cases z
  refine h2 _ _ _ ⟨F, env, ds, env', ok.more (Same.refl _) (same_upd hp) (fun x u e => by rw [upd_ne (ne_of_none e hF)]; exact ok.sub x u e) (fun q hq => (ok.own_at hq).1), e1, fun F1 H1 ws s1 r1 => ?_⟩
  simp only [opD, dDict] at e2
  cases e3 : pairUp ds with
  | none => rw [e3] at e2; cases e2
  | some kvs =>
    rw [e3] at e2
    simp only at e2
    split at e2
    · rename_i hh
      cases e2
      obtain ⟨kws, g1, g2, g3⟩ := pair_rep ds.length (Nat.le_refl _) e3 r1
      have hH1 : H1 p = some (.dK []) := s1.keep p _ upd_same nown
      have hF1 : F1 p = none := s1.stay p (by rw [upd_same]; simp) hF nown
      have lk : kws.length ≤ 15 := by have := congrArg List.length g2; simp at this; omega
      refine ⟨_, g1, hH1, kws, rfl, lk, ?_⟩
      rw [mergeK_nodup kws [] (by simpa [g2] using hh.2)]
      have np : ∀ q, Own σ env' q → q ≠ p := fun q hq e => by
        subst e
        obtain ⟨_, vs, z⟩ := s1.ok.own_at hq
        rw [hH1] at z; cases z
      have ok2 : Ok X.K fa (upd F1 p (.dK kws)) (upd H1 p (.dK kws)) σ env' :=
        ⟨s1.ok.len, same_upd2 s1.ok.sub, fun i d h => by
            obtain ⟨v, h1, h2⟩ := s1.ok.val i d h
            exact ⟨v, h1, h2.mono (same_upd hF1)⟩,
          fun i xs h => by
            obtain ⟨p', vs, h1, h2, h3, h4⟩ := s1.ok.own i xs h
            have := np p' ⟨i, xs, h, h1⟩
            exact ⟨p', vs, h1, by rw [upd_ne this]; exact h2, by rw [upd_ne this]; exact h3, h4.mono (same_upd hF1)⟩, s1.ok.dis⟩
      refine q (upd F1 p (.dK kws)) _ _ ⟨s1.sub.trans (same_upd hF1), fun x u e n => ?_, fun x h f n => ?_, ok2, fun x h => ?_, s1.io⟩ (.dct (kvs := kws) upd_same (g3.mono (same_upd hF1)))
      · have ne := ne_of_none e hp
        rw [upd_ne ne]
        exact s1.keep x u (by rw [upd_ne ne]; exact e) n
      · have ne : x ≠ p := fun e => by subst e; exact h hp
        rw [upd_ne ne]
        exact s1.stay x (by rw [upd_ne ne]; exact h) f n
      · rcases s1.own x h with z | z
        · exact .inl z
        · have ne := np x h
          rw [upd_ne ne] at z
          exact .inr z
    · cases e2
theorem s_dict0 : PI' X fa cf (.Dict [] [] pos) (.op .dict .nil) := pe_weak pe_dnewK fun σ H Q q => by
  obtain ⟨F, env, z, env', ok, e, q⟩ := q
  rw [eI_op, eIs_nil] at e
  obtain ⟨ds, e1, e2⟩ := opF_some e
  cases e1
  cases e2
  intro p hp
  obtain ⟨st, rr⟩ := (ARes.froz (K := X.K) (fa := fa) (o := .dK []) (d := .dct []) hp (.dct upd_same .nil)).step ok
  exact q _ _ _ st rr
end

/-! ### a[::-1] -/
open PySem.Spec PyProof.Rows
section
variable {X : Cx} {fa : Nat → Addr} {cf : CF} {pos : Pos} {e : Expr} {k : Nat} {p1 p2 p3 : Pos}
theorem rev_cps (cs : List Nat) : (⟨((Builtin.Str.strSliceIndices none none (-1) (sOf cs).length).filterMap ((sOf cs).cps[·]?)).toArray⟩ : Str) = sOf cs.reverse := by
  have h : Builtin.Str.strSliceIndices none none (-1) (sOf cs).length = sliceRange (((sOf cs).length : Int) - 1) (-1) (-1) := rfl
  rw [h, PySem.W.krv_sliceRange, PySem.W.krv_range, List.filterMap_reverse]
  show (⟨((List.range (sOf cs).cps.size).filterMap ((sOf cs).cps[·]?)).reverse.toArray⟩ : Str) = _
  rw [PySem.W.krv_all, sOf_list]
  rfl
def tRevS (te : TE) : TE := fun σ H Q => te σ H fun x H1 => ∃ cs, x = .str (sOf cs) ∧ cs.length ≤ sizeLine ∧ Q (.str (sOf cs.reverse)) H1
theorem pe_revS {te : TE} (he : PE X e te) : PE X (.Subscript e (.Slice none none (some (.UnaryOp .USub (.Constant (.int 1) k p1) p2)) p3) pos) (tRevS te) := by
  refine ⟨fun pins s τ G Q J h => Subscript_ (thn (he.run pins s τ G _ J h) ?_)⟩
  rintro v s1 ⟨x, G1, J1, r1, cs, rfl, hz, q⟩
  obtain ⟨t, rfl⟩ := r1
  have hneg : PO X (some (.UnaryOp .USub (.Constant (.int 1) k p1) p2)) (tPart (tUn (rU fun i => .int (-i)) (tC (.int 1)))) := po_some (pe_un un_neg pe_int)
  refine wpAny_Slice (thn (po_none.run pins s1 τ G1 (fun o G2 => o = none ∧ G2 = G1) J1 ⟨rfl, rfl⟩) ?_)
  rintro vl s2 ⟨l, G2, J2, pl, rfl, rfl⟩
  refine thn (po_none.run pins s2 τ G2 (fun o G3 => o = none ∧ G3 = G2) J2 ⟨rfl, rfl⟩) ?_
  rintro vu s3 ⟨u, G3, J3, pu, rfl, rfl⟩
  refine thn (hneg.run pins s3 τ G3 (fun o G4 => o = some (-1) ∧ G4 = G3) J3 ⟨1, rfl, -1, rfl, rfl, rfl⟩) ?_
  rintro vs s4 ⟨o, G4, J4, ps, rfl, rfl⟩
  cases pl
  cases pu
  cases ps with
  | int i tk =>
    have J5 : Inv X pins τ G4 { s4 with heap := s4.heap.push { cls := .type "slice", data := .fields #[.none, .none, .int (-1) tk] } } := J4.kept (t' := s4.toks) fun b ob q => Heap.get?_push_of_some _ q
    refine tail_any (ops := [.str (sOf cs) t, .ref s4.heap.objs.size]) (typeIs_str _ _ t) F.slot_str_getitem.lookup ?_ (by with_unfolding_all rfl)
    refine wpAny_getItem_str_slice (l := none) (u := none) (st := some (-1, tk)) ⟨_, Heap.get?_push_size _ rfl, rfl, rfl⟩ rfl ?_
    have em : sliceMade (sOf cs) t none none (some (-1, tk)) = .str (sOf cs.reverse) := by
      unfold sliceMade slicePicked
      rw [if_neg (by simp)]
      exact congrArg Made.str (rev_cps cs)
    rw [em]
    refine ⟨by rw [sOf_len, List.length_reverse]; exact hz, .str (sOf cs.reverse), _, J5.tok _, ⟨_, rfl⟩, q⟩
theorem RepL.reverse {K : PySem.W.Frag} {F : Hp} : ∀ {vs : List V} {ds : List D}, RepL K fa F vs ds → RepL K fa F vs.reverse ds.reverse
  | _, _, .nil => .nil
  | _, _, .cons r t => by
    rw [List.reverse_cons, List.reverse_cons]
    exact (RepL.reverse t).append (.cons r .nil)
theorem s_rev {ia : I} (ha : PI' X fa cf e ia) : PI' X fa cf (.Subscript e (.Slice none none (some (.UnaryOp .USub (.Constant (.int 1) k p1) p2)) p3) pos) (.op .rev (.cons ia .nil)) := by
  show PE X _ (tI X.K fa (eI cf _))
  rw [eI_op, eIs_one]
  refine ⟨fun pins s σ H Q I q => ?_⟩
  obtain ⟨F, env, z, env', ok, e0, q⟩ := q
  obtain ⟨ds, h1, h2⟩ := opF_some e0
  obtain ⟨d, e1, es, h3, h4, rfl⟩ := consD_some h1
  cases h4
  cases d with
  | str cs =>
    simp only [opD, dRev] at h2
    split at h2
    · rename_i hl
      cases h2
      refine (pe_revS (pe_asV ha)).run pins s σ H Q I ⟨F, env, _, _, ok, h3, fun F1 H1 v s1 r1 => ?_⟩
      cases r1
      refine ⟨cs, rfl, by rw [sizeLine_eq]; unfold big at hl; omega, q F1 H1 _ s1 (.str _)⟩
    · cases h2
  | lst xs =>
    cases h2
    refine (pe_revL (pe_asV ha)).run pins s σ H Q I ⟨F, env, _, _, ok, h3, fun F1 H1 v s1 r1 => ?_⟩
    cases r1 with
    | lst e2 rl =>
      refine ⟨_, _, rfl, SqL.of (s1.ok.sub _ _ e2), fun p hp => ?_⟩
      obtain ⟨s3, rr⟩ := (ARes.new (K := X.K) (fa := fa) hp rl.reverse).step s1.ok
      exact q _ _ _ (s1.trans s3) (rr.lift s1)
  | _ => cases h2
end
end DI

namespace DI
open PySem L2

structure Good (fa : Nat → Addr) (fd : Nat → FuncData) (fis : List FI) (gc : List (Str × D)) (gb : List Str) (X : Cx) (k : Nat) : Prop where
  calm : X.calm = true
  guards : X.A.guards = some []
  room : Room k X.A
  nd : X.N.Nodup
  kind : X.env.scope.kind = .function
  xe : PassesOwn (model X.prog X.w) X.A X.env X.xe
  G : FnG X.prog X.w X.K X.mg X.base fa fd fis k
  L : Lnk X.K X.mg fa fd fis
  C : ∀ x d, gc.lookup x = some d → ∃ u v, X.mg x = some u ∧ RelV v u ∧ Rep X.K fa (fun _ => none) v d
  B : ∀ x, gb.contains x = true → X.mg x = none
structure Ct where
  N : List Str
  sc : Scope
section
variable (fa : Nat → Addr) (fd : Nat → FuncData) (fis : List FI) (gc : List (Str × D)) (gb : List Str)
abbrev SndE (C : Ct) (e : Expr) (i : I) : Prop := ∀ (X : Cx) (k : Nat), Good fa fd fis gc gb X k → X.N = C.N → X.env.scope = C.sc → PI' X fa (callF (fnsOf fis) k) e i
abbrev SndEs (C : Ct) (e : List Expr) (i : Is) : Prop := ∀ (X : Cx) (k : Nat), Good fa fd fis gc gb X k → X.N = C.N → X.env.scope = C.sc → PIs' X fa (callF (fnsOf fis) k) e i
abbrev SndT (C : Ct) (e : Expr) (i : T) : Prop := ∀ (X : Cx) (k : Nat), Good fa fd fis gc gb X k → X.N = C.N → X.env.scope = C.sc → PT' X fa (callF (fnsOf fis) k) e i
abbrev SndW (C : Ct) (e : Expr) (i : T) : Prop := ∀ (X : Cx) (k : Nat), Good fa fd fis gc gb X k → X.N = C.N → X.env.scope = C.sc → PW X e (tB X.K fa (eT (callF (fnsOf fis) k) i))
abbrev SndIt (C : Ct) (e : Expr) (i : It) : Prop := ∀ (X : Cx) (k : Nat) (tg : Expr), Good fa fd fis gc gb X k → X.N = C.N → X.env.scope = C.sc → PIt' X fa (callF (fnsOf fis) k) tg e i
abbrev SndS (C : Ct) (e : Stmt) (i : S) : Prop := ∀ (X : Cx) (k : Nat), Good fa fd fis gc gb X k → (∀ x, X.fn x = true) → X.N = C.N → X.env.scope = C.sc → PS' X fa (callF (fnsOf fis) k) e i
abbrev SndSs (C : Ct) (e : List Stmt) (i : Ss) : Prop := ∀ (X : Cx) (k : Nat), Good fa fd fis gc gb X k → (∀ x, X.fn x = true) → X.N = C.N → X.env.scope = C.sc → PSs' X fa (callF (fnsOf fis) k) e i
end

/-! ### names -/
def ixIn (N : List Str) (x : Str) : Option { i : Nat // N[i]? = some x } :=
  match N.findIdx? (· == x) with
  | some i => if h : N[i]? = some x then some ⟨i, h⟩ else none
  | none => none
def visIn (sc : Scope) (x : Str) : Option (PLift (Vis sc x)) :=
  match h : sc.names.lookup x with
  | some .local => some ⟨.inl h⟩
  | some .cell => some ⟨.inr (.inl h)⟩
  | some .free => some ⟨.inr (.inr h)⟩
  | _ => none
def locIn (sc : Scope) (x : Str) : Option (PLift (Loc sc x)) :=
  match h : sc.names.lookup x with
  | some .local => some ⟨.inl h⟩
  | some .cell => some ⟨.inr h⟩
  | _ => none
def okName (x : Str) : Bool := !(x == ("__debug__" : Str)) && !(x == ("__classdict__" : Str)) && !(x == ("__name__" : Str))
theorem okName_of {x : Str} (h : okName x = true) : (x == ("__debug__" : Str)) = false ∧ (x == ("__classdict__" : Str)) = false ∧ x ≠ "__name__" := by
  unfold okName at h
  simp only [Bool.and_eq_true, Bool.not_eq_true'] at h
  exact ⟨h.1.1, h.1.2, beq_eq_false_iff_ne.mp h.2⟩
/-- a name of the frame -/
structure Nm (C : Ct) (x : Str) (i : Nat) : Prop where
  ix : C.N[i]? = some x
  vis : Vis C.sc x
  ok : okName x = true
def nmIn (C : Ct) (x : Str) : Option { i : Nat // Nm C x i } :=
  if ho : okName x = true then
    match ixIn C.N x, visIn C.sc x with
    | some ⟨i, h⟩, some ⟨v⟩ => some ⟨i, ⟨h, v, ho⟩⟩
    | _, _ => none
  else none
structure Gn (C : Ct) (x : Str) : Prop where
  gl : C.sc.names.lookup x = some .globalImplicit
  ok : okName x = true
def gnIn (C : Ct) (x : Str) : Option (PLift (Gn C x)) :=
  if ho : okName x = true then
    match h : C.sc.names.lookup x with
    | some .globalImplicit => some ⟨⟨h, ho⟩⟩
    | _ => none
  else none
def fnIn (fis : List FI) (x : Str) : Option { p : Nat × FI // fis[p.1]? = some p.2 ∧ p.2.name = x } :=
  match fis.findIdx? (fun fi => fi.name == x) with
  | some i => match h : fis[i]? with
    | some fi => if hn : fi.name = x then some ⟨(i, fi), h, hn⟩ else none
    | none => none
  | none => none
section
variable {fa : Nat → Addr} {fd : Nat → FuncData} {fis : List FI} {gc : List (Str × D)} {gb : List Str} {C : Ct} {X : Cx} {k : Nat}
theorem Nm.N {x : Str} {i : Nat} (h : Nm C x i) (hN : X.N = C.N) : X.N[i]? = some x := by rw [hN]; exact h.ix
theorem Nm.V {x : Str} {i : Nat} (h : Nm C x i) (hS : X.env.scope = C.sc) : Vis X.env.scope x := by rw [hS]; exact h.vis
theorem Gn.G {x : Str} (h : Gn C x) (hS : X.env.scope = C.sc) : Gl X x := by
  show X.env.scope.names.lookup x = _
  rw [hS]; exact h.gl
theorem gl_of {x : Str} (h : C.sc.names.lookup x = some .globalImplicit) (hS : X.env.scope = C.sc) : Gl X x := by
  show X.env.scope.names.lookup x = _
  rw [hS]; exact h
theorem Good.blk {s : Shared} {H : Hp} {scope : Scope} {cl : List (Str × Addr)} {Ca : Addr} {fp : List Addr} (g : Good fa fd fis gc gb X k) (hk : scope.kind = .function) : Good fa fd fis gc gb (X.blk s H scope (compEnvC scope cl Ca X.env) fp) k :=
  ⟨g.calm, g.guards, g.room, g.nd, hk, PassesOwn.never, g.G, g.L, g.C, g.B⟩
end
/-- the built-ins' operations by name -/
def binOf : Operator → Option Op
  | .Add => some .add
  | .Sub => some .sub
  | .Mult => some .mul
  | .FloorDiv => some .fdiv
  | .Mod => some .mod
  | .Pow => some .pow
  | _ => none
section
variable {fa : Nat → Addr} {fd : Nat → FuncData} {fis : List FI} {gc : List (Str × D)} {gb : List Str} {C : Ct}
theorem snd_bin {op : Operator} {o : Op} {a b : Expr} {ia ib : I} {pos : Pos} (h : binOf op = some o) (ha : SndE fa fd fis gc gb C a ia) (hb : SndE fa fd fis gc gb C b ib) : SndE fa fd fis gc gb C (.BinOp a op b pos) (.op o (.cons ia (.cons ib .nil))) := fun X k G hN hS => by
  cases op <;> first | cases h | skip
  · exact s_op2 opr_add ok_add (ha X k G hN hS) (hb X k G hN hS)
  · exact s_op2 op_sub ok_sub (ha X k G hN hS) (hb X k G hN hS)
  · exact s_op2 op_mulW ok_mul (ha X k G hN hS) (hb X k G hN hS)
  · exact s_op2 op_mod ok_mod (ha X k G hN hS) (hb X k G hN hS)
  · exact s_op2 opr_pow ok_pow (ha X k G hN hS) (hb X k G hN hS)
  · exact s_op2 op_fdiv ok_fdiv (ha X k G hN hS) (hb X k G hN hS)
def cmpOf : CmpOp → Expr → Option Op
  | .Eq, _ => some .eq
  | .NotEq, _ => some .ne
  | .Lt, _ => some .lt
  | .LtE, _ => some .le
  | .Gt, _ => some .gt
  | .GtE, _ => some .ge
  | .In, _ => some .isin
  | .NotIn, _ => some .notin
  | .Is, .Constant .none _ _ => some .isn
  | .Is, .Constant (.bool _) _ _ => some .isb
  | .IsNot, .Constant .none _ _ => some .notn
  | _, _ => none
/-- a comparison's rule -/
theorem cmp_rule {op : CmpOp} {b : Expr} {o : Op} {X : Cx} {k : Nat} (h : cmpOf op b = some o) (G : Good fa fd fis gc gb X k) : ∃ r, OpR X (compareOp op) r ∧ OpOk X.K fa o (r2 r) ∧ isCmp o = true := by
  unfold cmpOf at h
  split at h <;> first | cases h | skip
  · exact ⟨_, OpR.or opr_eqS (opr_eqX (fa := fa) G.room.units), ok_eq, rfl⟩
  · exact ⟨_, OpR.or opr_neS (opr_neX (fa := fa) G.room.units), ok_ne, rfl⟩
  · exact ⟨_, opr_lt, ok_lt, rfl⟩
  · exact ⟨_, opr_le, ok_le, rfl⟩
  · exact ⟨_, op_gt, ok_gt, rfl⟩
  · exact ⟨_, op_ge, ok_ge, rfl⟩
  · exact ⟨_, opr_in, ok_in, rfl⟩
  · exact ⟨_, opr_notin, ok_notin, rfl⟩
  · exact ⟨_, opr_is, ok_isn, rfl⟩
  · exact ⟨_, opr_is, ok_isb, rfl⟩
  · exact ⟨_, op_notN, ok_notn, rfl⟩
theorem snd_cmp {op : CmpOp} {o : Op} {a b : Expr} {ia ib : I} {pos : Pos} (h : cmpOf op b = some o) (hm : behindInMarks op b = false) (ha : SndE fa fd fis gc gb C a ia) (hb : SndE fa fd fis gc gb C b ib) : SndE fa fd fis gc gb C (.Compare a [op] [b] pos) (.op o (.cons ia (.cons ib .nil))) := fun X k G hN hS => by
  obtain ⟨r, h1, h2, _⟩ := cmp_rule h G
  exact s_cmp h1 h2 (ha X k G hN hS) (hb X k G hN hS) hm
theorem sndT_cmp {op : CmpOp} {o : Op} {a b : Expr} {ia ib : I} {pos : Pos} (h : cmpOf op b = some o) (hm : behindInMarks op b = false) (ha : SndE fa fd fis gc gb C a ia) (hb : SndE fa fd fis gc gb C b ib) : SndT fa fd fis gc gb C (.Compare a [op] [b] pos) (.val (.op o (.cons ia (.cons ib .nil)))) := fun X k G hN hS => by
  obtain ⟨r, h1, h2, h3⟩ := cmp_rule h G
  exact t_cmp h1 h2 h3 (ha X k G hN hS) (hb X k G hN hS) hm
theorem snd_chain {op op' : CmpOp} {o o' : Op} {a b c : Expr} {ia ib ic : I} {pos : Pos} (h : cmpOf op b = some o) (h' : cmpOf op' c = some o') (hm : lastMarks [op, op'] [b, c] = false) (ha : SndE fa fd fis gc gb C a ia) (hb : SndE fa fd fis gc gb C b ib) (hc : SndE fa fd fis gc gb C c ic) :
    SndE fa fd fis gc gb C (.Compare a [op, op'] [b, c] pos) (.chain o o' ia ib ic) := fun X k G hN hS => by
  obtain ⟨r, h1, h2, _⟩ := cmp_rule h G
  obtain ⟨r', h1', h2', _⟩ := cmp_rule h' G
  exact s_chain h1 h1' h2 h2' (ha X k G hN hS) (hb X k G hN hS) (hc X k G hN hS) hm
theorem sndT_chain {op op' : CmpOp} {o o' : Op} {a b c : Expr} {ia ib ic : I} {pos : Pos} (h : cmpOf op b = some o) (h' : cmpOf op' c = some o') (hm : lastMarks [op, op'] [b, c] = false) (ha : SndE fa fd fis gc gb C a ia) (hb : SndE fa fd fis gc gb C b ib) (hc : SndE fa fd fis gc gb C c ic) :
    SndT fa fd fis gc gb C (.Compare a [op, op'] [b, c] pos) (.val (.chain o o' ia ib ic)) := fun X k G hN hS => by
  obtain ⟨r, h1, h2, _⟩ := cmp_rule h G
  obtain ⟨r', h1', h2', h3'⟩ := cmp_rule h' G
  exact t_chain h1 h1' h2 h2' h3' (ha X k G hN hS) (hb X k G hN hS) (hc X k G hN hS) hm
/-- calls of built-in functions and classes -/
def bltOf (x : Str) : Option Op :=
  if x = "len" then some .len else if x = "all" then some .all else if x = "abs" then some .abs else if x = "max" then some .max else if x = "min" then some .min else if x = "repr" then some .repr else if x = "int" then some .int else if x = "list" then some .listof else none
theorem snd_blt {x : Str} {o : Op} {e : Expr} {es : List Expr} {is : Is} {p pos : Pos} (h : bltOf x = some o) (hg : C.sc.names.lookup x = some .globalImplicit) (hb : gb.contains x = true) (hs : (e :: es).all (fun e => !isStar e) = true) (ha : SndEs fa fd fis gc gb C (e :: es) is) : SndE fa fd fis gc gb C (.Call (.Name x p) (e :: es) [] pos) (.op o is) := fun X k G hN hS => by
  have hm := G.B x hb
  have hgl : Gl X x := gl_of hg hS
  rw [List.all_cons, Bool.and_eq_true] at hs
  have h1 := star_of (es := es) (env := X.env) (by simpa using hs.1 : isStar e = false)
  have h2 := noStars (pos := pos) (env := X.env) hs.2
  have hA := ha X k G hN hS
  unfold bltOf at h
  repeat' split at h
  all_goals first | (cases h; done) | (cases h; rename_i hx; subst hx)
  · exact s_callB call_len ok_len hgl hm PySem.boot_len hA (by decide +kernel) (by decide +kernel) h1 h2
  · exact s_callB (cr_all G.calm) ok_all hgl hm (by decide +kernel) hA (by decide +kernel) (by decide +kernel) h1 h2
  · exact s_callB call_abs ok_abs hgl hm (by decide +kernel) hA (by decide +kernel) (by decide +kernel) h1 h2
  · exact s_callB (call_max2 G.calm) ok_max hgl hm (by decide +kernel) hA (by decide +kernel) (by decide +kernel) h1 h2
  · exact s_callB (call_min2 G.calm) ok_min hgl hm (by decide +kernel) hA (by decide +kernel) (by decide +kernel) h1 h2
  · exact s_callB (cr_repr (fa := fa) G.guards G.room.units) ok_repr hgl hm (by decide +kernel) hA (by decide +kernel) (by decide +kernel) h1 h2
  · exact s_callTy call_int1 ok_int hgl hm (by decide +kernel) hA (by decide +kernel) (by decide +kernel) h1 h2
  · exact s_callTy (cr_listA G.calm) ok_listof hgl hm (by decide +kernel) hA (by decide +kernel) (by decide +kernel) h1 h2
def tyOf (x : Str) : Option String :=
  if x = "int" then some "int" else if x = "str" then some "str" else if x = "bool" then some "bool" else if x = "tuple" then some "tuple" else if x = "list" then some "list" else if x = "dict" then some "dict" else none
theorem tyOf_boot {x : Str} {t : String} (h : tyOf x = some t) : bootBuiltins x = some (.type t) ∧ x ≠ "__name__" ∧ (x == ("__debug__" : Str)) = false := by
  unfold tyOf at h
  repeat' split at h
  all_goals first | (cases h; done) | (cases h; rename_i hx; subst hx; exact ⟨by decide +kernel, by decide +kernel, by decide +kernel⟩)
theorem snd_isi {x : Str} {t : String} {e : Expr} {i : I} {p p2 pos : Pos} (h : tyOf x = some t) (hg0 : C.sc.names.lookup ("isinstance" : Str) = some .globalImplicit) (hb0 : gb.contains ("isinstance" : Str) = true) (hg : C.sc.names.lookup x = some .globalImplicit) (hb : gb.contains x = true) (hs : isStar e = false) (ha : SndE fa fd fis gc gb C e i) :
    SndE fa fd fis gc gb C (.Call (.Name "isinstance" p) [e, .Name x p2] [] pos) (.op (.isi t) (.cons i .nil)) := fun X k G hN hS => by
  obtain ⟨h1, h2, h3⟩ := tyOf_boot h
  exact s_isi (gl_of hg0 hS) (G.B _ hb0) (gl_of hg hS) (G.B x hb) h1 h2 h3 (ha X k G hN hS) (star_of hs) rfl
end
end DI

namespace DI
open PySem L2
section
variable (fa : Nat → Addr) (fd : Nat → FuncData) (fis : List FI) (gc : List (Str × D)) (gb : List Str)
abbrev RE (C : Ct) (e : Expr) := Option { i : I // SndE fa fd fis gc gb C e i }
abbrev REs (C : Ct) (e : List Expr) := Option { i : Is // SndEs fa fd fis gc gb C e i }
abbrev RT (C : Ct) (e : Expr) := Option { i : T // SndT fa fd fis gc gb C e i }
abbrev RW (C : Ct) (e : Expr) := Option { i : T // SndW fa fd fis gc gb C e i }
abbrev RIt (C : Ct) (e : Expr) := Option { i : It // SndIt fa fd fis gc gb C e i }
abbrev RS (C : Ct) (e : Stmt) := Option { i : S // SndS fa fd fis gc gb C e i }
abbrev RSs (C : Ct) (e : List Stmt) := Option { i : Ss // SndSs fa fd fis gc gb C e i }
end
section
variable {fa : Nat → Addr} {fd : Nat → FuncData} {fis : List FI} {gc : List (Str × D)} {gb : List Str}
/-- a comprehension's parts -/
structure LcOk (C : Ct) (scope : Scope) (x : Str) (s : Nat) : Prop where
  ix : C.N[s]? = some x
  blk : blkC C.N C.sc scope [(x, s)] = true
  kind : scope.kind = .function
  loc : (relS scope C.sc).names.lookup x = some .local ∨ ((relS scope C.sc).names.lookup x = some .cell ∧ (scope.names.lookup x == some .cell) = true)
def isFunK : ScopeKind → Bool
  | .function => true
  | _ => false
theorem isFunK_of {k : ScopeKind} (h : isFunK k = true) : k = .function := by cases k <;> first | rfl | cases h
def kindIs (o : Option NameKind) (k : NameKind) : Bool := match o with
  | some j => j == k
  | none => false
theorem kindIs_of {o : Option NameKind} {k : NameKind} (h : kindIs o k = true) : o = some k := by
  unfold kindIs at h
  split at h
  · rw [eq_of_beq h]
  · cases h
def lcIn (C : Ct) (scope : Scope) (x : Str) : Option { s : Nat // LcOk C scope x s } :=
  match ixIn C.N x with
  | some ⟨s, h⟩ =>
    if hb : blkC C.N C.sc scope [(x, s)] = true then
      if hk : isFunK scope.kind = true then
        if hl : kindIs ((relS scope C.sc).names.lookup x) .local = true then some ⟨s, ⟨h, hb, isFunK_of hk, .inl (kindIs_of hl)⟩⟩
        else if hl : kindIs ((relS scope C.sc).names.lookup x) .cell = true then
          if hc : (scope.names.lookup x == some .cell) = true then some ⟨s, ⟨h, hb, isFunK_of hk, .inr ⟨kindIs_of hl, hc⟩⟩⟩ else none
        else none
      else none
    else none
  | none => none
theorem lc_pg {C : Ct} {scope : Scope} {x : Str} {px : Pos} {s : Nat} {X : Cx} {k : Nat} (h : LcOk C scope x s) (G : Good fa fd fis gc gb X k) (hN : X.N = C.N) (hS : X.env.scope = C.sc) (s' : Shared) (H : Hp) (Ca : Addr) (cl : List (Str × Addr)) (fp : List Addr) :
    PG (X.blk s' H scope (compEnvC scope cl Ca X.env) fp) (.Name x px) (gName s) := by
  have hsc : (X.blk s' H scope (compEnvC scope cl Ca X.env) fp).env.scope = relS scope C.sc := by rw [← hS]; rfl
  refine pg_name G.nd (by show X.N[s]? = some x; rw [hN]; exact h.ix) ?_ ?_
  · show Loc (X.blk s' H scope (compEnvC scope cl Ca X.env) fp).env.scope x
    rw [hsc]
    rcases h.loc with q | q
    · exact .inl q
    · exact .inr q.1
  · rcases h.loc with q | q
    · refine .inr ?_
      rw [hsc]; exact q
    · exact .inl q.2
theorem snd_lc {C : Ct} {elt iter : Expr} {x : Str} {px pos : Pos} {ifs : List Expr} {scope : Scope} {s : Nat} {it : It} {c : T} {e : I} (h : LcOk C scope x s) (hset : isSet iter = false) (hi : SndIt fa fd fis gc gb C iter it)
    (ht : ∀ (X : Cx) (k : Nat), Good fa fd fis gc gb X k → X.N = C.N → X.env.scope = relS scope C.sc → PTs X ifs (tB X.K fa (eT (callF (fnsOf fis) k) c))) (he : SndE fa fd fis gc gb ⟨C.N, relS scope C.sc⟩ elt e) :
    SndE fa fd fis gc gb C (.ListComp elt [⟨.Name x px, iter, ifs, 0⟩] scope pos) (.lc s it c e) := fun X k G hN hS => by
  have hb : BlkOk X.N X.env.scope scope [(x, s)] := by rw [hN, hS]; exact blkOk_by h.blk
  refine s_lc (tgx := elt) G.calm G.nd (hi X k _ G hN hS) hb (lc_pg h G hN hS) (fun s H Ca cl fp => ?_) (fun s H Ca cl fp => ?_) (set_of hset)
  · exact ht _ k (G.blk h.kind) hN (by rw [← hS]; rfl)
  · exact he _ k (G.blk h.kind) hN (by rw [← hS]; rfl)
theorem snd_setLc {C : Ct} {elt iter : Expr} {x y : Str} {px py pos spos : Pos} {ifs : List Expr} {scope : Scope} {s j : Nat} {it : It} {c : T} {e : I} (h : LcOk C scope x s) (hset : isSet iter = false) (hj : C.N[j]? = some y) (hyl : C.sc.names.lookup y = some .local) (hline : (py.line == pos.line) = true)
    (hno : (scope.names.any fun (n, k) => n == y && (k == .local || k == .cell)) = false) (hi : SndIt fa fd fis gc gb C iter it)
    (ht : ∀ (X : Cx) (k : Nat), Good fa fd fis gc gb X k → X.N = C.N → X.env.scope = relS scope C.sc → PTs X ifs (tB X.K fa (eT (callF (fnsOf fis) k) c))) (he : SndE fa fd fis gc gb ⟨C.N, relS scope C.sc⟩ elt e) :
    SndS fa fd fis gc gb C (.Assign [.Name y py] (.ListComp elt [⟨.Name x px, iter, ifs, 0⟩] scope pos) spos) (.set j (.lc s it c e)) := fun X k G _ hN hS => by
  have hb : BlkOk X.N X.env.scope scope [(x, s)] := by rw [hN, hS]; exact blkOk_by h.blk
  have hyl' : X.env.scope.names.lookup y = some .local := by rw [hS]; exact hyl
  refine b_setLc G.calm G.nd (by rw [hN]; exact hj) hyl' (sw_true G.kind hyl' hline hno) (hi X k _ G hN hS) hb (lc_pg h G hN hS) (fun s H Ca cl fp => ?_) (fun s H Ca cl fp => ?_) (set_of hset)
  · exact ht _ k (G.blk h.kind) hN (by rw [← hS]; rfl)
  · exact he _ k (G.blk h.kind) hN (by rw [← hS]; rfl)
abbrev RTs (fa : Nat → Addr) (fd : Nat → FuncData) (fis : List FI) (gc : List (Str × D)) (gb : List Str) (N : List Str) (sc : Scope) (ifs : List Expr) := Option { c : T // ∀ (X : Cx) (k : Nat), Good fa fd fis gc gb X k → X.N = N → X.env.scope = sc → PTs X ifs (tB X.K fa (eT (callF (fnsOf fis) k) c)) }
end

section
variable (fa : Nat → Addr) (fd : Nat → FuncData) (fis : List FI) (gc : List (Str × D)) (gb : List Str)
mutual
def cE : Nat → (C : Ct) → (e : Expr) → RE fa fd fis gc gb C e
  | 0, _, _ => none
  | n + 1, C, e => match e with
    | .Constant (.int i) _ _ => some ⟨.con (.int i), fun _ _ _ _ _ => s_int⟩
    | .Constant (.bool i) _ _ => some ⟨.con (.bl i), fun _ _ _ _ _ => s_bl⟩
    | .Constant .none _ _ => some ⟨.con .non, fun _ _ _ _ _ => s_non⟩
    | .Constant (.str x) _ _ => some ⟨.con (.str x.cps.toList), fun _ _ _ _ _ => s_str⟩
    | .Name x _ => match nmIn C x with
      | some ⟨i, h⟩ => some ⟨.var i, fun _ _ _ hN hS => s_var (h.N hN) (h.V hS) (okName_of h.ok).1 (okName_of h.ok).2.1⟩
      | none => match gnIn C x with
        | some ⟨g⟩ => match hc : gc.lookup x with
          | some d => some ⟨.con d, fun _ _ G _ hS => let ⟨_, _, h1, h2, h3⟩ := G.C x d hc; s_c (pe_glob (g.G hS) h1 h2 (okName_of g.ok).1) h3⟩
          | none => match fnIn fis x with
            | some ⟨(f, fi), h1, h2⟩ => some ⟨.con (.fn f), fun _ _ G _ hS => s_c (pe_glob (g.G hS) (by have := (G.L.fn f fi h1).2.1; rw [h2] at this; exact this) (show RelV (.ref (fa f)) (.ref (fa f)) from rfl) (okName_of g.ok).1) (.fn f)⟩
            | none => none
        | none => none
    | .BinOp a op b _ => match ho : binOf op with
      | some o => match cE n C a, cE n C b with
        | some ⟨ia, ha⟩, some ⟨ib, hb⟩ => some ⟨.op o (.cons ia (.cons ib .nil)), snd_bin ho ha hb⟩
        | _, _ => none
      | none => none
    | .UnaryOp .USub a _ => match cE n C a with
      | some ⟨ia, ha⟩ => some ⟨.op .neg (.cons ia .nil), fun X k G hN hS => s_un un_neg ok_neg (ha X k G hN hS)⟩
      | none => none
    | .UnaryOp .Not a _ => match cE n C a with
      | some ⟨ia, ha⟩ => some ⟨.notb ia, fun X k G hN hS => s_not (ha X k G hN hS)⟩
      | none => none
    | .BoolOp .And vs pos => cAnd n C vs pos
    | .BoolOp .Or vs pos => cOr n C vs pos
    | .Compare a [op] [b] _ => match ho : cmpOf op b with
      | some o => if hm : behindInMarks op b = false then match cE n C a, cE n C b with
          | some ⟨ia, ha⟩, some ⟨ib, hb⟩ => some ⟨.op o (.cons ia (.cons ib .nil)), snd_cmp ho hm ha hb⟩
          | _, _ => none
        else none
      | none => none
    | .Compare a [op, op'] [b, c] _ => match ho : cmpOf op b, ho' : cmpOf op' c with
      | some o, some o' => if hm : lastMarks [op, op'] [b, c] = false then match cE n C a, cE n C b, cE n C c with
          | some ⟨ia, ha⟩, some ⟨ib, hb⟩, some ⟨ic, hc⟩ => some ⟨.chain o o' ia ib ic, snd_chain ho ho' hm ha hb hc⟩
          | _, _, _ => none
        else none
      | _, _ => none
    | .IfExp t a b _ => match cT n C t, cE n C a, cE n C b with
      | some ⟨tc, hc⟩, some ⟨ia, ha⟩, some ⟨ib, hb⟩ => some ⟨.ife tc ia ib, fun X k G hN hS => s_ife (hc X k G hN hS) (ha X k G hN hS) (hb X k G hN hS)⟩
      | _, _, _ => none
    | .Tuple es _ _ => match cEs n C es with
      | some ⟨is, h⟩ => some ⟨.op .tup is, fun X k G hN hS => s_tup (h X k G hN hS)⟩
      | none => none
    | .Dict [] [] _ => some ⟨.op .dict .nil, fun _ _ _ _ _ => s_dict0⟩
    | .Dict ks vs pos => if hh : ks.all (·.isSome) && (ks.length == vs.length) && !ks.isEmpty && decide (ks.length ≤ 15) then match cPs n C pos ks vs with
        | some ⟨is, h⟩ => some ⟨.op .dict is, fun X k G hN hS => by
            simp only [Bool.and_eq_true, Bool.not_eq_true', beq_iff_eq, decide_eq_true_eq] at hh
            exact s_dict (h X k G hN hS) hh.1.1.1 hh.1.1.2 (fun e => by rw [e] at hh; simp at hh) hh.2⟩
        | none => none
      else none
    | .List es _ => match cEs n C es with
      | some ⟨is, h⟩ => some ⟨.op .list is, fun X k G hN hS => s_lst (h X k G hN hS)⟩
      | none => none
    | .Subscript a (.Slice (some b) (some c) none _) _ => match cE n C a, cE n C b, cE n C c with
      | some ⟨ia, ha⟩, some ⟨ib, hb⟩, some ⟨ic, hc⟩ => some ⟨.op (.cut true true) (.cons ia (.cons ib (.cons ic .nil))), fun X k G hN hS => s_cut11 (ha X k G hN hS) (hb X k G hN hS) (hc X k G hN hS)⟩
      | _, _, _ => none
    | .Subscript a (.Slice (some b) none none _) _ => match cE n C a, cE n C b with
      | some ⟨ia, ha⟩, some ⟨ib, hb⟩ => some ⟨.op (.cut true false) (.cons ia (.cons ib .nil)), fun X k G hN hS => s_cut10 (ha X k G hN hS) (hb X k G hN hS)⟩
      | _, _ => none
    | .Subscript a (.Slice none (some b) none _) _ => match cE n C a, cE n C b with
      | some ⟨ia, ha⟩, some ⟨ib, hb⟩ => some ⟨.op (.cut false true) (.cons ia (.cons ib .nil)), fun X k G hN hS => s_cut01 (ha X k G hN hS) (hb X k G hN hS)⟩
      | _, _ => none
    | .Subscript a (.Slice none none (some (.UnaryOp .USub (.Constant (.int 1) _ _) _)) _) _ => match cE n C a with
      | some ⟨ia, ha⟩ => some ⟨.op .rev (.cons ia .nil), fun X k G hN hS => s_rev (ha X k G hN hS)⟩
      | none => none
    | .Subscript (.Name x px) b pos => if hb : isSlice b = false then match nmIn C x, cE n C b with
        | some ⟨i, h⟩, some ⟨ib, hb'⟩ => some ⟨.item1 i ib, fun X k G hN hS => s_item1 (h.N hN) (h.V hS) (okName_of h.ok).1 (okName_of h.ok).2.1 (hb' X k G hN hS) (plainIx_of hb)⟩
        | none, some ⟨ib, hb'⟩ => match cE n C (.Name x px) with
          | some ⟨ia, ha⟩ => some ⟨.op .item (.cons ia (.cons ib .nil)), fun X k G hN hS => s_item (ha X k G hN hS) (hb' X k G hN hS) (plainIx_of hb)⟩
          | none => none
        | _, none => none
      else none
    | .Subscript a b _ => if hb : isSlice b = false then match cE n C a, cE n C b with
        | some ⟨ia, ha⟩, some ⟨ib, hb'⟩ => some ⟨.op .item (.cons ia (.cons ib .nil)), fun X k G hN hS => s_item (ha X k G hN hS) (hb' X k G hN hS) (plainIx_of hb)⟩
        | _, _ => none
      else none
    | .ListComp elt [⟨.Name x px, iter, ifs, 0⟩] scope pos => match lcIn C scope x with
      | some ⟨s, h⟩ => if hset : isSet iter = false then match cIt n C iter, cIf n C.N (relS scope C.sc) ifs, cE n ⟨C.N, relS scope C.sc⟩ elt with
          | some ⟨it, hi⟩, some ⟨c, hc⟩, some ⟨e, he⟩ => some ⟨.lc s it c e, snd_lc h hset hi hc he⟩
          | _, _, _ => none
        else none
      | none => none
    | .Call (.Attribute a m apos) [b] [] pos => if hm : m = "join" then
          if hh : plainBase a && (apos.endLine == pos.line) && !isStar b then match cE n C a, cE n C b with
            | some ⟨ia, ha⟩, some ⟨ib, hb⟩ => some ⟨.op .join (.cons ia (.cons ib .nil)), fun X k G hN hS => by
                subst hm
                simp only [Bool.and_eq_true, Bool.not_eq_true'] at hh
                exact s_join (ha X k G hN hS) (hb X k G hN hS) (star_of hh.2) (base_of hh.1.1) hh.1.2⟩
            | _, _ => none
          else none
        else match a with
          | .Name x px => if hm : m = "pop" then
              if hh : (apos.endLine == pos.line) && !isStar b then match nmIn C x, cE n C b with
                | some ⟨i, h⟩, some ⟨ib, hb⟩ => some ⟨.pop1 i ib, fun X k G hN hS => by
                    subst hm
                    simp only [Bool.and_eq_true, Bool.not_eq_true'] at hh
                    exact s_pop1 (h.N hN) (h.V hS) (okName_of h.ok).1 (okName_of h.ok).2.1 (hb X k G hN hS) rfl (few_of hh.2) hh.1 (star_of hh.2)⟩
                | _, _ => none
              else none
            else none
          | _ => none
    | .Call (.Attribute a m apos) [] [] pos => if hm : m = "upper" then
          if hh : plainBase a && (apos.endLine == pos.line) then match cE n C a with
            | some ⟨ia, ha⟩ => some ⟨.op .upper (.cons ia .nil), fun X k G hN hS => by
                subst hm
                simp only [Bool.and_eq_true] at hh
                exact s_upper (ha X k G hN hS) (base_of hh.1) hh.2⟩
            | none => none
          else none
        else none
    | .Call (.Name x p) (e :: es) [] pos => cCall n C x p e es pos
    | _ => none
def cCall : Nat → (C : Ct) → (x : Str) → (p : Pos) → (e : Expr) → (es : List Expr) → (pos : Pos) → RE fa fd fis gc gb C (.Call (.Name x p) (e :: es) [] pos)
  | 0, _, _, _, _, _, _ => none
  | n + 1, C, x, p, e, es, pos => if hst : (e :: es).all (fun e => !isStar e) = true then
      match nmIn C x with
      | some ⟨i, h⟩ => match cEs n C (e :: es) with
        | some ⟨is, hs⟩ => some ⟨.callv i is, fun X k G hN hS => s_callv G.G G.L G.guards G.room (h.N hN) (h.V hS) (okName_of h.ok).1 (okName_of h.ok).2.1 (hs X k G hN hS) (star_of (by rw [List.all_cons, Bool.and_eq_true] at hst; simpa using hst.1)) (noStars (by rw [List.all_cons, Bool.and_eq_true] at hst; exact hst.2))⟩
        | none => none
      | none => match gnIn C x with
        | none => none
        | some ⟨g⟩ => match fnIn fis x with
          | some ⟨(f, fi), h1, h2⟩ =>
            if fi.fn.io then
              match e with
              | .Name y py => match nmIn C y, cEs n C es with
                | some ⟨i, h⟩, some ⟨is, hs⟩ => some ⟨.callio f i is, fun X k G hN hS => by
                    subst h2
                    rw [List.all_cons, Bool.and_eq_true] at hst
                    exact s_callio G.G G.L h1 G.guards G.room (g.G hS) (h.N hN) (h.V hS) (okName_of h.ok).1 (okName_of h.ok).2.1 (hs X k G hN hS) (okName_of g.ok).1 (star_of rfl) (noStars hst.2)⟩
                | _, _ => none
              | e' => match cE n C e', cEs n C es with
                | some ⟨ie, he⟩, some ⟨is, hs⟩ => some ⟨.callfr f ie is, fun X k G hN hS => by
                    subst h2
                    rw [List.all_cons, Bool.and_eq_true] at hst
                    exact s_callfr G.G G.L h1 G.guards G.room (g.G hS) (he X k G hN hS) (hs X k G hN hS) (okName_of g.ok).1 (star_of (by simpa using hst.1)) (noStars hst.2)⟩
                | _, _ => none
            else match cEs n C (e :: es) with
              | some ⟨is, hs⟩ => some ⟨.call f is, fun X k G hN hS => by
                  subst h2
                  rw [List.all_cons, Bool.and_eq_true] at hst
                  exact s_call G.G G.L h1 G.guards G.room (g.G hS) (hs X k G hN hS) (okName_of g.ok).1 (star_of (by simpa using hst.1)) (noStars hst.2)⟩
              | none => none
          | none =>
            if hb : gb.contains x = true then
              if hi : x = "isinstance" then
                match es with
                | [.Name t p2] => match ht : tyOf t with
                  | some ty => if hh : kindIs (C.sc.names.lookup t) .globalImplicit && gb.contains t then match cE n C e with
                      | some ⟨ie, he⟩ => some ⟨.op (.isi ty) (.cons ie .nil), by
                          subst hi
                          rw [Bool.and_eq_true] at hh
                          rw [List.all_cons, Bool.and_eq_true] at hst
                          exact snd_isi ht g.gl hb (kindIs_of hh.1) hh.2 (by simpa using hst.1) he⟩
                      | none => none
                    else none
                  | none => none
                | _ => none
              else if hl : x = "len" then
                match e, es with
                | .Name y py, [] => match nmIn C y with
                  | some ⟨i, h⟩ => some ⟨.len1 i, fun X k G hN hS => by
                      subst hl
                      exact s_len1 (h.N hN) (h.V hS) (okName_of h.ok).1 (okName_of h.ok).2.1 (g.G hS) (G.B _ hb) (star_of rfl)⟩
                  | none => match cEs n C [.Name y py] with
                    | some ⟨is, hs⟩ => some ⟨.op .len is, by subst hl; exact snd_blt rfl g.gl hb hst hs⟩
                    | none => none
                | e', es' => match cEs n C (e' :: es') with
                  | some ⟨is, hs⟩ => some ⟨.op .len is, by subst hl; exact snd_blt rfl g.gl hb hst hs⟩
                  | none => none
              else match ho : bltOf x with
                | some o => match cEs n C (e :: es) with
                  | some ⟨is, hs⟩ => some ⟨.op o is, snd_blt ho g.gl hb hst hs⟩
                  | none => none
                | none => none
            else none
    else none
def cAnd : Nat → (C : Ct) → (vs : List Expr) → (pos : Pos) → RE fa fd fis gc gb C (.BoolOp .And vs pos)
  | 0, _, _, _ => none
  | n + 1, C, vs, pos => match vs with
    | [a] => match cE n C a with
      | some ⟨ia, ha⟩ => some ⟨ia, fun X k G hN hS => s_and1 (ha X k G hN hS)⟩
      | none => none
    | a :: b :: r => match cE n C a, cAnd n C (b :: r) pos with
      | some ⟨ia, ha⟩, some ⟨ib, hb⟩ => some ⟨.andb ia ib, fun X k G hN hS => s_and (ha X k G hN hS) (hb X k G hN hS)⟩
      | _, _ => none
    | _ => none
def cOr : Nat → (C : Ct) → (vs : List Expr) → (pos : Pos) → RE fa fd fis gc gb C (.BoolOp .Or vs pos)
  | 0, _, _, _ => none
  | n + 1, C, vs, pos => match vs with
    | [a] => match cE n C a with
      | some ⟨ia, ha⟩ => some ⟨ia, fun X k G hN hS => s_and1 (ha X k G hN hS)⟩
      | none => none
    | a :: b :: r => match cE n C a, cOr n C (b :: r) pos with
      | some ⟨ia, ha⟩, some ⟨ib, hb⟩ => some ⟨.orb ia ib, fun X k G hN hS => s_or (ha X k G hN hS) (hb X k G hN hS)⟩
      | _, _ => none
    | _ => none
def cEs : Nat → (C : Ct) → (es : List Expr) → REs fa fd fis gc gb C es
  | 0, _, _ => none
  | n + 1, C, es => match es with
    | [] => some ⟨.nil, fun _ _ _ _ _ => s_nil⟩
    | e :: r => if hs : isStar e = false then match cE n C e, cEs n C r with
        | some ⟨ie, he⟩, some ⟨ir, hr⟩ => some ⟨.cons ie ir, fun X k G hN hS => s_cons (he X k G hN hS) (hr X k G hN hS) (star_of hs)⟩
        | _, _ => none
      else none
def cPs : Nat → (C : Ct) → (pos : Pos) → (ks : List (Option Expr)) → (vs : List Expr) → Option { i : Is // ∀ (X : Cx) (k : Nat), Good fa fd fis gc gb X k → X.N = C.N → X.env.scope = C.sc → PPs' X fa (callF (fnsOf fis) k) pos ks vs i }
  | 0, _, _, _, _ => none
  | n + 1, C, pos, ks, vs => match ks, vs with
    | [], [] => some ⟨.nil, fun _ _ _ _ _ => d_nil⟩
    | some a :: ks, b :: vs => match cE n C a, cE n C b, cPs n C pos ks vs with
      | some ⟨ia, ha⟩, some ⟨ib, hb⟩, some ⟨ir, hr⟩ => some ⟨.cons ia (.cons ib ir), fun X k G hN hS => d_cons (ha X k G hN hS) (hb X k G hN hS) (hr X k G hN hS)⟩
      | _, _, _ => none
    | _, _ => none
def cT : Nat → (C : Ct) → (e : Expr) → RT fa fd fis gc gb C e
  | 0, _, _ => none
  | n + 1, C, e => match e with
    | .UnaryOp .Not a _ => match cT n C a with
      | some ⟨ia, ha⟩ => some ⟨.not ia, fun X k G hN hS => t_not (ha X k G hN hS)⟩
      | none => none
    | .BoolOp .And vs pos => match cWA n C vs pos with
      | some ⟨i, h⟩ => some ⟨i, fun X k G hN hS => (h X k G hN hS).pt⟩
      | none => none
    | .BoolOp .Or vs pos => match cWO n C vs pos with
      | some ⟨i, h⟩ => some ⟨i, fun X k G hN hS => (h X k G hN hS).pt⟩
      | none => none
    | .Compare a [op] [b] _ => match ho : cmpOf op b with
      | some o => if hm : behindInMarks op b = false then match cE n C a, cE n C b with
          | some ⟨ia, ha⟩, some ⟨ib, hb⟩ => some ⟨.val (.op o (.cons ia (.cons ib .nil))), sndT_cmp ho hm ha hb⟩
          | _, _ => none
        else none
      | none => none
    | .Compare a [op, op'] [b, c] _ => match ho : cmpOf op b, ho' : cmpOf op' c with
      | some o, some o' => if hm : lastMarks [op, op'] [b, c] = false then match cE n C a, cE n C b, cE n C c with
          | some ⟨ia, ha⟩, some ⟨ib, hb⟩, some ⟨ic, hc⟩ => some ⟨.val (.chain o o' ia ib ic), sndT_chain ho ho' hm ha hb hc⟩
          | _, _, _ => none
        else none
      | _, _ => none
    | e' => if hp : plainTest e' = true then match cE n C e' with
        | some ⟨ia, ha⟩ => some ⟨.val ia, fun X k G hN hS => t_val (ha X k G hN hS) (test_of hp)⟩
        | none => none
      else none
def cWA : Nat → (C : Ct) → (vs : List Expr) → (pos : Pos) → RW fa fd fis gc gb C (.BoolOp .And vs pos)
  | 0, _, _, _ => none
  | n + 1, C, vs, pos => match vs with
    | [a] => match cT n C a with
      | some ⟨ia, ha⟩ => some ⟨ia, fun X k G hN hS => tw_one (ha X k G hN hS)⟩
      | none => none
    | a :: b :: r => match cT n C a, cWA n C (b :: r) pos with
      | some ⟨ia, ha⟩, some ⟨ib, hb⟩ => some ⟨.and ia ib, fun X k G hN hS => tw_and (ha X k G hN hS) (hb X k G hN hS)⟩
      | _, _ => none
    | _ => none
def cWO : Nat → (C : Ct) → (vs : List Expr) → (pos : Pos) → RW fa fd fis gc gb C (.BoolOp .Or vs pos)
  | 0, _, _, _ => none
  | n + 1, C, vs, pos => match vs with
    | [a] => match cT n C a with
      | some ⟨ia, ha⟩ => some ⟨ia, fun X k G hN hS => tw_one (ha X k G hN hS)⟩
      | none => none
    | a :: b :: r => match cT n C a, cWO n C (b :: r) pos with
      | some ⟨ia, ha⟩, some ⟨ib, hb⟩ => some ⟨.or ia ib, fun X k G hN hS => tw_or (ha X k G hN hS) (hb X k G hN hS)⟩
      | _, _ => none
    | _ => none
def cIf : Nat → (N : List Str) → (sc : Scope) → (ifs : List Expr) → RTs fa fd fis gc gb N sc ifs
  | 0, _, _, _ => none
  | n + 1, N, sc, ifs => match ifs with
    | [] => some ⟨.yes, fun _ _ _ _ _ => t_yes⟩
    | [a] => match cT n ⟨N, sc⟩ a with
      | some ⟨ia, ha⟩ => some ⟨ia, fun X k G hN hS => t_ifs (ha X k G hN hS)⟩
      | none => none
    | _ => none
def cIt : Nat → (C : Ct) → (e : Expr) → RIt fa fd fis gc gb C e
  | 0, _, _ => none
  | n + 1, C, e => match e with
    | .Call (.Name x p) [a] [] pos => if hr : x = "range" then
          match gnIn C x with
          | some ⟨g⟩ => if hh : gb.contains x && !isStar a then match cE n C a with
              | some ⟨ia, ha⟩ => some ⟨.rng1 ia, fun X k tg G hN hS => by
                  subst hr
                  simp only [Bool.and_eq_true, Bool.not_eq_true'] at hh
                  exact i_rng1 (g.G hS) (G.B _ hh.1) (ha X k G hN hS) (star_of hh.2)⟩
              | none => none
            else none
          | none => none
        else match cE n C (.Call (.Name x p) [a] [] pos) with
          | some ⟨ia, ha⟩ => some ⟨.seq ia, fun X k tg G hN hS => i_seq (ha X k G hN hS)⟩
          | none => none
    | .Call (.Name x p) [a, b] [] pos => if hr : x = "range" then
          match gnIn C x with
          | some ⟨g⟩ => if hh : gb.contains x && !isStar a && !isStar b then match cE n C a, cE n C b with
              | some ⟨ia, ha⟩, some ⟨ib, hb⟩ => some ⟨.rng2 ia ib, fun X k tg G hN hS => by
                  subst hr
                  simp only [Bool.and_eq_true, Bool.not_eq_true'] at hh
                  exact i_rng2 (g.G hS) (G.B _ hh.1.1) (ha X k G hN hS) (hb X k G hN hS) (by rw [star_of hh.1.2, star_of hh.2]; rfl) (star_of hh.2)⟩
              | _, _ => none
            else none
          | none => none
        else match cE n C (.Call (.Name x p) [a, b] [] pos) with
          | some ⟨ia, ha⟩ => some ⟨.seq ia, fun X k tg G hN hS => i_seq (ha X k G hN hS)⟩
          | none => none
    | e' => match cE n C e' with
      | some ⟨ia, ha⟩ => some ⟨.seq ia, fun X k tg G hN hS => i_seq (ha X k G hN hS)⟩
      | none => none
end
end
end DI

namespace DI
open PySem L2
section
variable {fa : Nat → Addr} {fd : Nat → FuncData} {fis : List FI} {gc : List (Str × D)} {gb : List Str} {C : Ct}
theorem isNoneFalse {α : Type} {o : Option α} (h : o.isNone = true) : o = none := by cases o <;> first | rfl | cases h
theorem snd_put1 {x : Str} {i : Nat} {b a : Expr} {ib ia : I} {px p2 pos : Pos} (h : Nm C x i) (hsl : isSlice b = false) (hco : isComp a = false) (hb : SndE fa fd fis gc gb C b ib) (ha : SndE fa fd fis gc gb C a ia) :
    SndS fa fd fis gc gb C (.Assign [.Subscript (.Name x px) b p2] a pos) (.put1 i ib ia) := fun X k G _ hN hS => by
  refine b_put1 (h.N hN) (h.V hS) (okName_of h.ok).1 (okName_of h.ok).2.1 (hb X k G hN hS) (ha X k G hN hS) (fun v => ?_) ?_ ?_ rfl
  · cases b <;> first | rfl | cases hsl
  · cases a <;> first | rfl | cases hco
  · rfl
/-- a, b = x, y -/
structure Par2 (C : Ct) (x y : Str) (px py : Pos) (i j : Nat) (vs : List Expr) : Prop where
  ix : C.N[i]? = some x
  jy : C.N[j]? = some y
  ne : (i == j) = false
  lx : kindIs (C.sc.names.lookup x) .local = true
  ly : kindIs (C.sc.names.lookup y) .local = true
  ln : (py.line == px.line) = true
  xy : (x == y) = false
  ok : parOk vs = true
structure Par3 (C : Ct) (x y z : Str) (px py pz : Pos) (i j l : Nat) (vs : List Expr) : Prop where
  ix : C.N[i]? = some x
  jy : C.N[j]? = some y
  lz : C.N[l]? = some z
  nij : (i == j) = false
  nil : (i == l) = false
  njl : (j == l) = false
  lx : kindIs (C.sc.names.lookup x) .local = true
  ly : kindIs (C.sc.names.lookup y) .local = true
  lzz : kindIs (C.sc.names.lookup z) .local = true
  ln : (py.line == px.line) = true
  ln2 : (pz.line == px.line) = true
  xy : (x == y) = false
  xz : (x == z) = false
  yz : (y == z) = false
  ok : parOk vs = true
def par2In (C : Ct) (x y : Str) (px py : Pos) (vs : List Expr) : Option { p : Nat × Nat // Par2 C x y px py p.1 p.2 vs } :=
  match ixIn C.N x, ixIn C.N y with
  | some ⟨i, hi⟩, some ⟨j, hj⟩ =>
    if h : ((i == j) = false ∧ kindIs (C.sc.names.lookup x) .local = true ∧ kindIs (C.sc.names.lookup y) .local = true ∧ (py.line == px.line) = true ∧ (x == y) = false ∧ parOk vs = true) then
      some ⟨(i, j), ⟨hi, hj, h.1, h.2.1, h.2.2.1, h.2.2.2.1, h.2.2.2.2.1, h.2.2.2.2.2⟩⟩ else none
  | _, _ => none
def par3In (C : Ct) (x y z : Str) (px py pz : Pos) (vs : List Expr) : Option { p : Nat × Nat × Nat // Par3 C x y z px py pz p.1 p.2.1 p.2.2 vs } :=
  match ixIn C.N x, ixIn C.N y, ixIn C.N z with
  | some ⟨i, hi⟩, some ⟨j, hj⟩, some ⟨l, hl⟩ =>
    if h : (((i == j) = false ∧ (i == l) = false ∧ (j == l) = false) ∧ (kindIs (C.sc.names.lookup x) .local = true ∧ kindIs (C.sc.names.lookup y) .local = true ∧ kindIs (C.sc.names.lookup z) .local = true) ∧ ((py.line == px.line) = true ∧ (pz.line == px.line) = true) ∧ ((x == y) = false ∧ (x == z) = false ∧ (y == z) = false) ∧ parOk vs = true) then
      some ⟨(i, j, l), ⟨hi, hj, hl, h.1.1, h.1.2.1, h.1.2.2, h.2.1.1, h.2.1.2.1, h.2.1.2.2, h.2.2.1.1, h.2.2.1.2, h.2.2.2.1.1, h.2.2.2.1.2.1, h.2.2.2.1.2.2, h.2.2.2.2⟩⟩ else none
  | _, _, _ => none
theorem snd_par2 {x y : Str} {px py pt pt2 pos : Pos} {kt k2 i j : Nat} {a b : Expr} {ia ib : I} (h : Par2 C x y px py i j [a, b]) (ha : SndE fa fd fis gc gb C a ia) (hb : SndE fa fd fis gc gb C b ib) :
    SndS fa fd fis gc gb C (.Assign [.Tuple [.Name x px, .Name y py] kt pt] (.Tuple [a, b] k2 pt2) pos) (.par [i, j] (.cons ia (.cons ib .nil))) := fun X k G _ hN hS =>
  b_par2 G.calm G.kind G.nd (by rw [hN]; exact h.ix) (by rw [hN]; exact h.jy) (fun e => by have := h.ne; rw [e] at this; simp at this) (by rw [hS]; exact kindIs_of h.lx) (by rw [hS]; exact kindIs_of h.ly) (ha X k G hN hS) (hb X k G hN hS) h.ln h.xy h.ok
theorem snd_par3 {x y z : Str} {px py pz pt pt2 pos : Pos} {kt k2 i j l : Nat} {a b c : Expr} {ia ib ic : I} (h : Par3 C x y z px py pz i j l [a, b, c]) (ha : SndE fa fd fis gc gb C a ia) (hb : SndE fa fd fis gc gb C b ib) (hc : SndE fa fd fis gc gb C c ic) :
    SndS fa fd fis gc gb C (.Assign [.Tuple [.Name x px, .Name y py, .Name z pz] kt pt] (.Tuple [a, b, c] k2 pt2) pos) (.par [i, j, l] (.cons ia (.cons ib (.cons ic .nil)))) := fun X k G _ hN hS =>
  b_par3 G.calm G.kind G.nd (by rw [hN]; exact h.ix) (by rw [hN]; exact h.jy) (by rw [hN]; exact h.lz) (fun e => by have := h.nij; rw [e] at this; simp at this) (fun e => by have := h.nil; rw [e] at this; simp at this) (fun e => by have := h.njl; rw [e] at this; simp at this)
    (by rw [hS]; exact kindIs_of h.lx) (by rw [hS]; exact kindIs_of h.ly) (by rw [hS]; exact kindIs_of h.lzz) (ha X k G hN hS) (hb X k G hN hS) (hc X k G hN hS) h.ln h.ln2 h.xy h.xz h.yz h.ok
end
section
variable (fa : Nat → Addr) (fd : Nat → FuncData) (fis : List FI) (gc : List (Str × D)) (gb : List Str)
mutual
def cS : Nat → (C : Ct) → (st : Stmt) → RS fa fd fis gc gb C st
  | 0, _, _ => none
  | n + 1, C, st => match st with
    | .Return (some a) _ => match cE fa fd fis gc gb n C a with
      | some ⟨ia, ha⟩ => some ⟨.ret ia, fun X k G _ hN hS => b_ret (ha X k G hN hS)⟩
      | none => none
    | .Pass _ => some ⟨.pass, fun _ _ _ _ _ _ => b_pass⟩
    | .Break _ => some ⟨.brk, fun _ _ _ _ _ _ => b_brk⟩
    | .Continue _ => some ⟨.cont, fun _ _ _ _ _ _ => b_cont⟩
    | .If c a b _ => match cT fa fd fis gc gb n C c, cSs n C a, cSs n C b with
      | some ⟨ic, hc⟩, some ⟨ia, ha⟩, some ⟨ib, hb⟩ => some ⟨.ifs ic ia ib, fun X k G hf hN hS => b_if (hc X k G hN hS) (ha X k G hf hN hS) (hb X k G hf hN hS)⟩
      | _, _, _ => none
    | .For (.Name x px) a bd [] pos => if hset : isSet a = false then match ixIn C.N x, locIn C.sc x, cIt fa fd fis gc gb n C a, cSs n C bd with
        | some ⟨i, hi⟩, some ⟨hl⟩, some ⟨it, ht⟩, some ⟨ib, hb⟩ => some ⟨.for_ i it ib, fun X k G hf hN hS => b_for G.xe G.calm G.nd (by rw [hN]; exact hi) (by rw [hS]; exact hl) (.inl (hf x)) (ht X k _ G hN hS) (hb X k G hf hN hS) (set_of hset)⟩
        | _, _, _, _ => none
      else none
    | .Expr (.Call (.Attribute (.Name x px) m apos) [a] [] p2) pos => if hm : m = "append" then
          if hh : (apos.endLine == p2.line) && !isStar a then match nmIn C x, cE fa fd fis gc gb n C a with
            | some ⟨i, h⟩, some ⟨ia, ha⟩ => some ⟨.app1 i ia, fun X k G hf hN hS => by
                subst hm
                simp only [Bool.and_eq_true, Bool.not_eq_true'] at hh
                exact b_app1 (h.N hN) (h.V hS) (okName_of h.ok).1 (okName_of h.ok).2.1 (ha X k G hN hS) rfl (few_of hh.2) hh.1 (star_of hh.2) rfl⟩
            | _, _ => none
          else none
        else none
    | .Expr a _ => if hc : isComp a = false then match cE fa fd fis gc gb n C a with
        | some ⟨ia, ha⟩ => some ⟨.expr ia, fun X k G hf hN hS => b_expr (ha X k G hN hS) (swap_of hc)⟩
        | none => none
      else none
    | .Assign [.Name y py] (.ListComp elt [⟨.Name x px, iter, ifs, 0⟩] scope pos) spos => match lcIn C scope x, ixIn C.N y with
      | some ⟨s, h⟩, some ⟨j, hj⟩ => if hh : isSet iter = false ∧ kindIs (C.sc.names.lookup y) .local = true ∧ (py.line == pos.line) = true ∧ (scope.names.any fun (n, k) => n == y && (k == .local || k == .cell)) = false then
          match cIt fa fd fis gc gb n C iter, cIf fa fd fis gc gb n C.N (relS scope C.sc) ifs, cE fa fd fis gc gb n ⟨C.N, relS scope C.sc⟩ elt with
          | some ⟨it, hi⟩, some ⟨c, hc⟩, some ⟨e, he⟩ => some ⟨.set j (.lc s it c e), snd_setLc h hh.1 hj (kindIs_of hh.2.1) hh.2.2.1 hh.2.2.2 hi hc he⟩
          | _, _, _ => none
        else none
      | _, _ => none
    | .Assign [.Name y py] a spos => if hc : isComp a = false then match ixIn C.N y, locIn C.sc y, cE fa fd fis gc gb n C a with
        | some ⟨i, hi⟩, some ⟨hl⟩, some ⟨ia, ha⟩ => some ⟨.set i ia, fun X k G hf hN hS => b_set G.nd (by rw [hN]; exact hi) (by rw [hS]; exact hl) (ha X k G hN hS) (swap_of hc) (.inl (hf y))⟩
        | _, _, _ => none
      else none
    | .Assign [.Subscript (.Name x px) b p2] a pos => if hh : isSlice b = false ∧ isComp a = false then match nmIn C x, cE fa fd fis gc gb n C b, cE fa fd fis gc gb n C a with
        | some ⟨i, h⟩, some ⟨ib, hb⟩, some ⟨ia, ha⟩ => some ⟨.put1 i ib ia, snd_put1 h hh.1 hh.2 hb ha⟩
        | _, _, _ => none
      else none
    | .Assign [.Tuple [.Name x px, .Name y py] kt pt] (.Tuple [a, b] k2 pt2) pos => match par2In C x y px py [a, b], cE fa fd fis gc gb n C a, cE fa fd fis gc gb n C b with
      | some ⟨(i, j), h⟩, some ⟨ia, ha⟩, some ⟨ib, hb⟩ => some ⟨.par [i, j] (.cons ia (.cons ib .nil)), snd_par2 h ha hb⟩
      | _, _, _ => none
    | .Assign [.Tuple [.Name x px, .Name y py, .Name z pz] kt pt] (.Tuple [a, b, c] k2 pt2) pos => match par3In C x y z px py pz [a, b, c], cE fa fd fis gc gb n C a, cE fa fd fis gc gb n C b, cE fa fd fis gc gb n C c with
      | some ⟨(i, j, l), h⟩, some ⟨ia, ha⟩, some ⟨ib, hb⟩, some ⟨ic, hc⟩ => some ⟨.par [i, j, l] (.cons ia (.cons ib (.cons ic .nil))), snd_par3 h ha hb hc⟩
      | _, _, _, _ => none
    | _ => none
def cSs : Nat → (C : Ct) → (sts : List Stmt) → RSs fa fd fis gc gb C sts
  | 0, _, _ => none
  | n + 1, C, sts => match sts with
    | [] => some ⟨.nil, fun _ _ _ _ _ _ => b_nil⟩
    | st :: r => match cS n C st, cSs n C r with
      | some ⟨i, h⟩, some ⟨ir, hr⟩ => some ⟨.cons i ir, fun X k G hf hN hS => b_cons (h X k G hf hN hS) (hr X k G hf hN hS)⟩
      | _, _ => none
end
end

/-! ### the defs keep their denotation -/
/-- a def's body is compiled to what the table says -/
structure Bodied (fa : Nat → Addr) (fd : Nat → FuncData) (fis : List FI) (gc : List (Str × D)) (gb : List Str) : Prop where
  snd : ∀ (f : Nat) (fi : FI), fis[f]? = some fi → SndSs fa fd fis gc gb ⟨fi.N, defScope fi.st⟩ (defBody fi.st) fi.fn.body
theorem snd_of {fa : Nat → Addr} {fd : Nat → FuncData} {fis : List FI} {gc : List (Str × D)} {gb : List Str} {n : Nat} {C : Ct} {sts : List Stmt} {i : Ss} (h : (cSs fa fd fis gc gb n C sts).map (·.1) = some i) : SndSs fa fd fis gc gb C sts i := by
  obtain ⟨⟨j, hj⟩, _, e⟩ := Option.map_eq_some_iff.mp h
  have e' : j = i := e
  subst e'
  exact hj
section
variable {P : Program} {w : World} {K : PySem.W.Frag} {mg : Str → Option Value} {base : Heap} {fa : Nat → Addr} {fd : Nat → FuncData} {fis : List FI} {gc : List (Str × D)} {gb : List Str}
theorem fnG_zero : FnG P w K mg base fa fd fis 0 := fun f fi hf A outer s H args us vs Q _ _ _ _ _ sp => by
  obtain ⟨F, io, ds, r, out, _, _, hc, _⟩ := sp
  cases hc
theorem fnG_succ {k : Nat} (L : Lnk K mg fa fd fis) (hC : ∀ x d, gc.lookup x = some d → ∃ u v, mg x = some u ∧ RelV v u ∧ Rep K fa (fun _ => none) v d) (hB : ∀ x, gb.contains x = true → mg x = none) (B : Bodied fa fd fis gc gb) (G : FnG P w K mg base fa fd fis k) : FnG P w K mg base fa fd fis (k + 1) := by
  intro f fi hf A outer s H args us vs Q hg hr e0 hbnd rv sp
  obtain ⟨hfun, hmg, S, hbinds, hnp, hns⟩ := L.fn f fi hf
  obtain ⟨F, io, ds, r, out, ok0, hlen, hcall, q⟩ := sp
  obtain ⟨oc, od, kV, doc, pm, an, cdv, ct, osl, hfd, lk, hcd⟩ := hfun.ex
  obtain ⟨fn, k', c1, c2, c3, c4, c5, envF, hout, hbody⟩ := callF_some hcall
  rw [fi_of hf] at c1
  cases c1
  have : k' = k := by omega
  subst this
  rw [hfd] at hbnd lk
  have KX : K.In s.heap := e0.mod.kin.keeps fun b o e => (e0.bs b o e).1
  have lim : s.heap.NoLimit := e0.mod.nolimit.keeps fun b o e => (e0.bs b o e).1
  have knd : ∀ y ∈ fi.ps.zip us, (defScope fi.st).names.lookup y.1 = some .local ∨ ((defScope fi.st).names.lookup y.1 = some .cell ∧ ((cellsFrom (s.heap.objs.size + 1) (defScope fi.st).names []).lookup y.1).isSome = true) := by
    rintro ⟨nm, v⟩ hy
    rcases S.par nm (List.of_mem_zip hy).1 with z | z
    · exact .inl z
    · exact .inr ⟨z, PySem.W.cellsFrom_some _ _ _ (.inl z)⟩
  refine codeAny_call_function hr.depth (KX _ _ lk) rfl S.co S.gen rfl (PySem.W.codeRec_of KX hcd) (hbnd _ _ _ _ (wpAny_newFunctionEnv_cells S.kind knd fun env he s1 x => ?_))
  subst he
  refine ⟨lim.keeps x.toInCall.keep, codeAny_func ?_⟩
  -- the body's context
  have I : Inv (cxOf CX0 P w K mg base fi.N fi.name (defScope fi.st) (fa f) cdv A outer s H E0) [] (L2.start fi.N vs) H s1 := inv_start S hr.hd e0 hlen rv x
  have gd : Good fa fd fis gc gb (cxOf CX0 P w K mg base fi.N fi.name (defScope fi.st) (fa f) cdv A outer s H E0).nox k' :=
    ⟨rfl, hg, hr.deeper _, S.nd, S.kind, PassesOwn.never, G, L, hC, hB⟩
  have hp := (B.snd f fi hf _ k' gd (fun _ => rfl) rfl rfl).nox
  have hq : tS K fa (eSs (callF (fnsOf fis) k') fi.fn.body) { nx := fun _ H' => Q .non H', rt := Q } (L2.start fi.N vs) H := by
    rcases hbody with hb | ⟨hb, rfl⟩
    · exact ⟨F, _, _, envF, ok0, hb, fun F' H' σ' st v rr => q F' H' σ' envF v st hout rr⟩
    · exact ⟨F, _, _, envF, ok0, hb, fun F' H' σ' st => q F' H' σ' envF .non st hout .non⟩
  refine wpAny_mono (hp.run [] s1 (L2.start fi.N vs) H _ I hq) (fun fl s' hs => ?_) fun e s' hs => hs
  cases fl with
  | ret u =>
    obtain ⟨v, σ', H', J, rvv, qq⟩ := hs
    exact ⟨v, H', J.os, J.bare, J.base, J.hok, rvv, qq⟩
  | next =>
    obtain ⟨σ', H', J, qq⟩ := hs
    exact ⟨V.non, H', J.os, J.bare, J.base, J.hok, rfl, qq⟩
  | brk =>
    obtain ⟨_, _, _, qq⟩ := hs
    exact False.elim qq
  | cont =>
    obtain ⟨_, _, _, qq⟩ := hs
    exact False.elim qq
theorem fnG_all (L : Lnk K mg fa fd fis) (hC : ∀ x d, gc.lookup x = some d → ∃ u v, mg x = some u ∧ RelV v u ∧ Rep K fa (fun _ => none) v d) (hB : ∀ x, gb.contains x = true → mg x = none) (B : Bodied fa fd fis gc gb) : ∀ k, FnG P w K mg base fa fd fis k
  | 0 => fnG_zero
  | k + 1 => fnG_succ L hC hB B (fnG_all L hC hB B k)
end
end DI

namespace DI
open PySem PySem.Spec PyProof.Rows L2

section
variable {P : Program} {w : World} {K : PySem.W.Frag} {mg mb : Str → Option Value} {fa : Nat → Addr} {fd : Nat → FuncData} {fis : List FI} {k f : Nat} {fi : FI}
theorem rep_ints (F : Hp) : ∀ ns : List Int, RepL K fa F (ns.map V.int) (ns.map D.int)
  | [] => .nil
  | n :: ns => .cons (.int n) (rep_ints F ns)
/-- the law's call, over a heap that tracks nothing but the script -/
theorem law_core {s : Shared} {a : Addr} {vs : List Value} {ns : List Int} {H : Hp} (KX : K.In s.heap) (hns : s.heap.Ns mainGlobals mg) (hb : s.heap.Ns builtinsNs mb) (hbb : ∀ x : Str, x ≠ "__name__" → mb x = bootBuiltins x) (hlim : s.heap.NoLimit) (hg : s.gens = #[])
    (ha : s.heap.get? a = some { cls := .type "list", data := .seq vs.toArray }) (hr : Room k callerA) (G : ∀ base, FnG P w K mg base fa fd fis k) (L : Lnk K mg fa fd fis) (hf : fis[f]? = some fi)
    (hcall : callF (fnsOf fis) k f none [.scr (ns.map .int)] = some (.val (.bl true), none)) (hS : SqL K H a (ns.map V.int)) (hok : HOk P w H s.heap) (hA : ∀ b, H b ≠ none → b = a) (hK : H a ≠ none → K.lookup a = none) (hz : ∀ b u, H b = some u → ∃ o xs, u = .frz o (.lst xs)) :
    codeAny (model P w) callerA (.call (.ref (fa f)) ⟨[.ref a], []⟩) (fun r s' => r = .ok (.ret (.bool true)) ∧ OldK s.heap s'.heap ∧ s'.os = s.os ∧ AllBare s'.gens) s := by
  have only : ∀ {b : Addr} {u : HO}, H b = some u → b = a := fun {b u} e => hA b (by rw [e]; simp)
  have nod : ∀ {b : Addr} {o : Obj} {es : Array DictEntry} {ep : Nat}, s.heap.get? b = some o → o.data = .dict es ep → H b = none := fun {b o es ep} e d => by
    cases q : H b with
    | none => rfl
    | some u =>
      have eb := only q
      subst eb
      rw [ha] at e
      cases e
      exact absurd (show Data.seq vs.toArray _ = Data.dict es ep from d) (fun z => by cases z)
  have hid : ∀ {b : Addr} {m : Str → Option Value}, s.heap.Ns b m → (hidT s.heap H).Ns b m := by
    rintro b m ⟨o, es, ep, e, d, r⟩
    exact ⟨o, es, ep, hidT_get e (nod e d), d, r⟩
  have kin : K.In (hidT s.heap H) := by
    intro b o e
    refine hidT_get (KX b o e) ?_
    cases q : H b with
    | none => rfl
    | some u =>
      have eb := only q
      subst eb
      rw [hK (by rw [q]; simp)] at e
      cases e
  obtain ⟨mc, l1, l2⟩ := hlim
  have md : Mod K mg (hidT s.heap H) := ⟨kin, hid hns, ⟨mb, hid hb, hbb⟩, ⟨mc, hid l1, l2⟩⟩
  have e0 : Env0 P w K mg (hidT s.heap H) callerA [] s H :=
    ⟨rfl, md, fun b o e => of_hidT e, Nat.le_of_eq (hidT_size _ _), trivial, (fun b z => absurd (show b ∈ ([] : List Addr) from z) (List.not_mem_nil)), hok, .of_eq hg⟩
  obtain ⟨_, _, _, hbind, hnp, hnN⟩ := L.fn f fi hf
  obtain ⟨fn, k', c1, _, c3, c4, c5, _⟩ := callF_some hcall
  rw [fi_of hf] at c1
  cases c1
  have hio : fi.fn.io = false := by rw [c3]; rfl
  have hn1 : fi.fn.np = 1 := by rw [c4, hio]; rfl
  have hps : fi.ps.length = 1 := by rw [← hnp]; exact hn1
  have hbt : BindsTo s (fd f) ⟨[.ref a], []⟩ (fi.ps.zip ([.ref a] ++ [])) := hbind s [.ref a] KX hps.symm
  have rep : RepL K fa H [V.ref a] [.scr (ns.map D.int)] := .cons (.scr hS (rep_ints H ns)) .nil
  obtain ⟨ok0, _⟩ := ok_start (N := fi.N) (fn := fi.fn) (Same.refl H) rep hn1 c5 hnN
  refine codeAny_mono (G _ f fi hf callerA [] s H ⟨[.ref a], []⟩ [.ref a] [.ref a] (fun v _ => v = .bl true) rfl hr e0 hbt (.cons rfl .nil) ⟨H, none, _, _, none, ok0, hps.symm, hcall, fun F' H' σ' env' v st _ rr => Rep.bl_of rr⟩) fun r s' h => ?_
  cases r with
  | error e => exact False.elim h
  | ok fl =>
    cases fl with
    | next => exact False.elim h
    | brk => exact False.elim h
    | cont => exact False.elim h
    | ret u =>
      obtain ⟨v, H', os, bare, un, hok', r', qv⟩ := h
      cases (show v = V.bl true from qv)
      cases (show u = Value.bool true from r')
      refine ⟨rfl, OldK.of_keep fun b o e => ?_, os, bare⟩
      cases q : H b with
      | none => exact un.keep b o e q (fun z => absurd (show b ∈ ([] : List Addr) from z) List.not_mem_nil) (List.not_mem_nil)
      | some z =>
        obtain ⟨ob, xs, rfl⟩ := hz b z q
        have g1 := (hok b _ q).1
        have g2 := (hok' b _ (un.frzs b ob _ q)).1
        rw [e] at g1
        cases g1
        exact g2
theorem law_G {s : Shared} {a : Addr} {vs : List Value} {ns : List Int} (KX : K.In s.heap) (hns : s.heap.Ns mainGlobals mg) (hb : s.heap.Ns builtinsNs mb) (hbb : ∀ x : Str, x ≠ "__name__" → mb x = bootBuiltins x) (hlim : s.heap.NoLimit) (hg : s.gens = #[])
    (ha : s.heap.get? a = some { cls := .type "list", data := .seq vs.toArray }) (hi : IntsAre vs ns) (hl : ns.length ≤ sizeLine) (hr : Room k callerA) (G : ∀ base, FnG P w K mg base fa fd fis k) (L : Lnk K mg fa fd fis) (hf : fis[f]? = some fi)
    (hcall : callF (fnsOf fis) k f none [.scr (ns.map .int)] = some (.val (.bl true), none)) :
    codeAny (model P w) callerA (.call (.ref (fa f)) ⟨[.ref a], []⟩) (fun r s' => r = .ok (.ret (.bool true)) ∧ OldK s.heap s'.heap ∧ s'.os = s.os ∧ AllBare s'.gens) s := by
  have rv := vals_ints hi
  have lenV := hi.length
  cases hk : K.lookup a with
  | some o =>
    have e := KX a o hk
    rw [ha] at e
    cases e
    exact law_core (H := fun _ => none) KX hns hb hbb hlim hg ha hr G L hf hcall (.inr ⟨_, vs.toArray, _, hk, rfl, rfl, rfl, by rw [List.size_toArray, lenV]; exact hl, by simpa using rv⟩) (fun b u z => by cases z) (fun b z => absurd rfl z) (fun z => absurd rfl z) (fun b u z => by cases z)
  | none =>
    have at_ : ∀ {b : Addr} {u : HO}, (if b = a then some (HO.frz { cls := .type "list", data := .seq vs.toArray } (.lst (ns.map V.int))) else none) = some u → b = a ∧ u = HO.frz { cls := .type "list", data := .seq vs.toArray } (.lst (ns.map V.int)) := fun {b u} z => by
      by_cases q : b = a
      · rw [if_pos q] at z; cases z; exact ⟨q, rfl⟩
      · rw [if_neg q] at z; cases z
    refine law_core (H := fun b => if b = a then some (.frz { cls := .type "list", data := .seq vs.toArray } (.lst (ns.map V.int))) else none) KX hns hb hbb hlim hg ha hr G L hf hcall (.inl (.inr ⟨_, if_pos rfl⟩)) (fun b u z => ?_) (fun b z => ?_) (fun _ => hk) (fun b u z => ?_)
    · obtain ⟨rfl, rfl⟩ := at_ z
      exact ⟨ha, by rw [List.length_map]; exact hl, vs, _, rv, ha⟩
    · by_cases q : b = a
      · exact q
      · exact absurd (if_neg q) z
    · obtain ⟨_, rfl⟩ := at_ z
      exact ⟨_, _, rfl⟩
end
/-- the goal that the head leaves, from the law's value -/
theorem walk_G {l : PySem.W.OpenLaw} {n k : Nat} {q : Program} {loose : List Str} {XP : (Str → Option Value) → Heap → Prop} {YP : World → Heap → Prop} {d : DefRec} {K : Params → PySem.W.Frag} {fis : List FI} {f : Nat} {fi : FI}
    (hn : l.most = some n) (hn2 : n ≤ sizeLine) (hdf : d.params.defaults = []) (hr : Room k callerA) (hY : ∀ (w : World) (h : Heap), YP w h → (K w.params).In h) (hf : fis[f]? = some fi)
    (hF : ∀ (w : World) (mg : Str → Option Value) (a : Addr) (h : Heap), (K w.params).In h → h.Ns mainGlobals mg → mg d.name = some (.ref a) →
      ∃ (fa : Nat → Addr) (fd : Nat → FuncData), fa f = a ∧ Lnk (K w.params) mg fa fd fis ∧ ∀ base, FnG l.prog w (K w.params) mg base fa fd fis k)
    (hcall : ∀ ns : List Int, ns.length ≤ n → callF (fnsOf fis) k f none [.scr (ns.map .int)] = some (.val (.bl true), none)) :
    PySem.W.WalkO q loose XP YP l.row.toRowW d [] (fun f vs => PySem.call f vs) := by
  refine Att.attach_call hn hdf fun w s0 s1 mg mb la o pm cd doc a vs ns G Y ho hd hcd hmg hobj hints hlen hg => ?_
  have KX := hY w _ Y
  obtain ⟨fa, fd, rfl, L, hG⟩ := hF w mg la _ KX G.T.g hmg
  exact law_G KX G.T.g G.T.b G.T.builtins G.T.nolimit hg hobj hints (Nat.le_trans hlen hn2) hr hG L hf (hcall ns hlen)
end DI

namespace DI
open PySem L2

/-! ### what the top has written, one fact a name -/
section
variable {K : PySem.W.Frag} {mg : Str → Option Value} {fa : Nat → Addr} {fd : Nat → FuncData} {h : Heap}
def CAll (P : Str → D → Prop) : List (Str × D) → Prop
  | [] => True
  | p :: r => P p.1 p.2 ∧ CAll P r
theorem CAll.get {P : Str → D → Prop} : ∀ {gc : List (Str × D)}, CAll P gc → ∀ x d, gc.lookup x = some d → P x d
  | [], _, x, d, e => by cases e
  | (y, c) :: r, q, x, d, e => by
    rw [List.lookup_cons] at e
    cases b : x == y with
    | true =>
      rw [b] at e
      cases e
      rw [eq_of_beq b]
      exact q.1
    | false =>
      rw [b] at e
      exact CAll.get q.2 x d e
def BAll (P : Str → Prop) : List Str → Prop
  | [] => True
  | p :: r => P p ∧ BAll P r
theorem BAll.get {P : Str → Prop} : ∀ {gb : List Str}, BAll P gb → ∀ x, gb.contains x = true → P x
  | [], _, x, e => by cases e
  | y :: r, q, x, e => by
    rw [List.contains_cons, Bool.or_eq_true] at e
    rcases e with e | e
    · rw [eq_of_beq e]; exact q.1
    · exact BAll.get q.2 x e
abbrev COk (K : PySem.W.Frag) (mg : Str → Option Value) (fa : Nat → Addr) : Str → D → Prop := fun x d => ∃ u v, mg x = some u ∧ RelV v u ∧ Rep K fa (fun _ => none) v d
abbrev FOk (K : PySem.W.Frag) (mg : Str → Option Value) (f : Addr) (fd : FuncData) (fi : FI) : Prop :=
  Fun K fi.name fi.name fi.st f fd ∧ mg fi.name = some (.ref f) ∧ FnScope fi.N fi.ps (defScope fi.st) ∧ Binds K fd fi.ps [] ∧ fi.fn.np = fi.ps.length ∧ fi.fn.ns = fi.N.length
def FAll (K : PySem.W.Frag) (mg : Str → Option Value) (fa : Nat → Addr) (fd : Nat → FuncData) : Nat → List FI → Prop
  | _, [] => True
  | i, fi :: r => FOk K mg (fa i) (fd i) fi ∧ FAll K mg fa fd (i + 1) r
theorem FAll.get : ∀ {fis : List FI} {i : Nat}, FAll K mg fa fd i fis → ∀ f fi, fis[f]? = some fi → FOk K mg (fa (i + f)) (fd (i + f)) fi
  | [], _, _, f, fi, e => by simp at e
  | a :: r, i, q, 0, fi, e => by simp at e; subst e; exact q.1
  | a :: r, i, q, f + 1, fi, e => by
    have := FAll.get q.2 f fi (by simpa using e)
    rwa [show i + 1 + f = i + (f + 1) by omega] at this
theorem FAll.lnk {fis : List FI} (q : FAll K mg fa fd 0 fis) : Lnk K mg fa fd fis := ⟨fun f fi e => by have := q.get f fi e; rwa [Nat.zero_add] at this⟩
variable (X : K.In h) (G : h.Ns mainGlobals mg)
include X G
theorem c_int {x : Str} {i : Int} {t : Tok} (e : PySem.W.nsIn K mainGlobals x = some (some (.int i t))) : COk K mg fa x (.int i) := ⟨_, .int i, PySem.W.mg_of X G e, ⟨t, rfl⟩, .int i⟩
theorem c_str {x : Str} {i : List Nat} {t : Tok} (e : PySem.W.nsIn K mainGlobals x = some (some (.str (sOf i) t))) : COk K mg fa x (.str i) := ⟨_, .str (sOf i), PySem.W.mg_of X G e, ⟨t, rfl⟩, .str i⟩
theorem c_ref {x : Str} {a : Addr} {d : D} (e : PySem.W.nsIn K mainGlobals x = some (some (.ref a))) (r : Rep K fa (fun _ => none) (.ref a) d) : COk K mg fa x d := ⟨_, .ref a, PySem.W.mg_of X G e, rfl, r⟩
omit X G
theorem c_tup {a : Addr} {od : Option Addr} {us : List Value} {n : Nat} {sl : Array (Option Value)} {vs : List V} {ds : List D} (l : K.lookup a = some ⟨.type "tuple", od, .seq us.toArray n, sl⟩) (hz : us.length ≤ 1000) (hv : Vals vs us) (hr : RepL K fa (fun _ => none) vs ds) : Rep K fa (fun _ => none) (.ref a) (.tup ds) :=
  .tup (.inr ⟨_, us.toArray, n, l, rfl, rfl, by rw [List.size_toArray, sizeLine_eq]; omega, by simpa using hv⟩) hr
end
end DI

namespace DI

/-! ### plain readings of the denotation: there is a result, and it is so -/
def wo {α : Type} (x : Option α) (Q : α → Prop) : Prop := ∃ r, x = some r ∧ Q r
@[simp] theorem wo_some {α : Type} {x : α} {Q : α → Prop} : wo (some x) Q ↔ Q x := by simp [wo]
@[simp] theorem wo_none {α : Type} {Q : α → Prop} : wo none Q ↔ False := by simp [wo]
@[simp] theorem wo_ite {α : Type} {c : Prop} {_ : Decidable c} {x : α} {Q : α → Prop} : wo (if c then some x else none) Q ↔ c ∧ Q x := by
  by_cases h : c <;> simp [wo, h]
@[simp] theorem wo_num {i : Int} {Q : R → Prop} : wo (num i) Q ↔ Q (.val (.int i)) := wo_some
@[simp] theorem wo_bl {b : Bool} {Q : R → Prop} : wo (bl b) Q ↔ Q (.val (.bl b)) := wo_some
@[simp] theorem wo_inum {c : Prop} {_ : Decidable c} {i : Int} {Q : R → Prop} : wo (if c then num i else none) Q ↔ c ∧ Q (.val (.int i)) := wo_ite
@[simp] theorem wo_ibl {c : Prop} {_ : Decidable c} {i : Bool} {Q : R → Prop} : wo (if c then bl i else none) Q ↔ c ∧ Q (.val (.bl i)) := wo_ite
@[simp] theorem wo_map {α β : Type} {x : Option α} {f : α → β} {Q : β → Prop} : wo (x.map f) Q ↔ wo x fun a => Q (f a) := by
  cases x <;> simp [wo]
theorem wo_mono {α : Type} {x : Option α} {P Q : α → Prop} (h : wo x P) (k : ∀ a, P a → Q a) : wo x Q := by
  obtain ⟨a, e, p⟩ := h
  exact ⟨a, e, k a p⟩
section
variable {cf : CF}
def wI (cf : CF) (i : I) (env : Ev) (Q : R → Ev → Prop) : Prop := wo (eI cf i env) fun p => Q p.1 p.2
def wIs (cf : CF) (i : Is) (env : Ev) (Q : List D → Ev → Prop) : Prop := wo (eIs cf i env) fun p => Q p.1 p.2
def wT (cf : CF) (i : T) (env : Ev) (Q : Bool → Ev → Prop) : Prop := wo (eT cf i env) fun p => Q p.1 p.2
def wIt (cf : CF) (i : It) (env : Ev) (Q : List D → Ev → Prop) : Prop := wo (eIt cf i env) fun p => Q p.1 p.2
def wRs (cf : CF) (i : Is) (env : Ev) (Q : List R → Ev → Prop) : Prop := wo (eRs cf i env) fun p => Q p.1 p.2
def wS (cf : CF) (i : S) (env : Ev) (Q : Fl → Ev → Prop) : Prop := wo (eS cf i env) fun p => Q p.1 p.2
def wSs (cf : CF) (i : Ss) (env : Ev) (Q : Fl → Ev → Prop) : Prop := wo (eSs cf i env) fun p => Q p.1 p.2
theorem wo_bind2 {α β γ : Type} {x : Option (α × β)} {f : α → β → Option γ} {Q : γ → Prop} : wo (x.bind fun p => f p.1 p.2) Q ↔ wo x fun p => wo (f p.1 p.2) Q := by
  cases x <;> simp [wo]

variable {env : Ev} {Q : R → Ev → Prop}
@[simp] theorem w_con {d : D} : wI cf (.con d) env Q ↔ Q (.val d) env := by simp [wI, eI, wo]
@[simp] theorem w_var {i : Nat} : wI cf (.var i) env Q ↔ wo (rdV env i) fun p => Q (.val p.1) p.2 := by simp only [wI, eI, wo_map]
@[simp] theorem w_op {o : Op} {as : Is} : wI cf (.op o as) env Q ↔ wIs cf as env fun ds e => wo (opD o ds) fun r => Q r e := by
  simp only [wI, wIs, eI]
  cases eIs cf as env with
  | none => simp [wo]
  | some p => simp only [wo_some, wo_map]
@[simp] theorem w_call {f : Nat} {as : Is} : wI cf (.call f as) env Q ↔ wIs cf as env fun ds e => wo (cf f none ds) fun p => Q p.1 e := by
  simp only [wI, wIs, eI]
  cases eIs cf as env with
  | none => simp [wo]
  | some p => simp only [wo_some, wo_map]
@[simp] theorem w_callio {f s : Nat} {as : Is} : wI cf (.callio f s as) env Q ↔ (held env s).isSome = true ∧ wIs cf as env fun ds e => wo (held e s) fun xs => wo (cf f (some xs) ds) fun p => wo p.2 fun ys => Q p.1 (hold e s ys) := by
  simp only [wI, wIs, eI]
  by_cases h : (held env s).isSome = true
  · rw [if_pos h]
    simp only [h, true_and]
    cases eIs cf as env with
    | none => simp [wo]
    | some p =>
      simp only [wo_some]
      cases held p.2 s with
      | none => simp [wo]
      | some xs =>
        simp only [wo_some]
        cases cf f (some xs) p.1 with
        | none => simp [wo]
        | some q =>
          obtain ⟨r, o⟩ := q
          cases o <;> simp [wo]
  · rw [if_neg h]; simp [wo, h]
@[simp] theorem w_callfr {f : Nat} {a : I} {as : Is} : wI cf (.callfr f a as) env Q ↔ wI cf a env fun r e => ∃ xs, r = .new xs ∧ wIs cf as e fun ds e2 => wo (cf f (some xs) ds) fun p => Q p.1 e2 := by
  simp only [wI, wIs, eI]
  cases eI cf a env with
  | none => simp [wo]
  | some p =>
    obtain ⟨r, e⟩ := p
    cases r with
    | val d => simp [wo]
    | new xs =>
      simp only [wo_some, R.new.injEq, exists_eq_left']
      cases eIs cf as e with
      | none => simp [wo]
      | some p => simp only [wo_some, wo_map]
@[simp] theorem w_callv {s : Nat} {as : Is} : wI cf (.callv s as) env Q ↔ ∃ f, env[s]? = some (.val (.fn f)) ∧ wIs cf as env fun ds e => wo (cf f none ds) fun p => Q p.1 e := by
  simp only [wI, wIs, eI]
  split
  · rename_i f h
    simp only [h, Option.some.injEq, Sl.val.injEq, D.fn.injEq]
    constructor
    · intro q
      refine ⟨f, rfl, ?_⟩
      cases h2 : eIs cf as env with
      | none => simp [h2, wo] at q
      | some p => simp only [h2, wo_some, wo_map] at q ⊢; exact q
    · rintro ⟨g, rfl, q⟩
      cases h2 : eIs cf as env with
      | none => simp [h2, wo] at q
      | some p => simp only [h2, wo_some, wo_map] at q ⊢; exact q
  · rename_i h
    constructor
    · intro q; simp [wo] at q
    · rintro ⟨f, e, _⟩; exact absurd e (h f)
@[simp] theorem w_ife {c : T} {a b : I} : wI cf (.ife c a b) env Q ↔ wT cf c env fun t e => if t = true then wI cf a e Q else wI cf b e Q := by
  simp only [wI, wT, eI]
  cases eT cf c env with
  | none => simp [wo]
  | some p => obtain ⟨t, e⟩ := p; cases t <;> simp [wo]
@[simp] theorem w_andb {a b : I} : wI cf (.andb a b) env Q ↔ wI cf a env fun r e => ∃ t, r = .val (.bl t) ∧ if t = true then wI cf b e Q else Q (.val (.bl false)) e := by
  simp only [wI, eI]
  cases eI cf a env with
  | none => simp [wo]
  | some p =>
    obtain ⟨r, e⟩ := p
    cases r with
    | new xs => simp [wo]
    | val d =>
      cases d with
      | bl t => cases t <;> simp [wo]
      | _ => simp [wo]
@[simp] theorem w_orb {a b : I} : wI cf (.orb a b) env Q ↔ wI cf a env fun r e => ∃ t, r = .val (.bl t) ∧ if t = true then Q (.val (.bl true)) e else wI cf b e Q := by
  simp only [wI, eI]
  cases eI cf a env with
  | none => simp [wo]
  | some p =>
    obtain ⟨r, e⟩ := p
    cases r with
    | new xs => simp [wo]
    | val d =>
      cases d with
      | bl t => cases t <;> simp [wo]
      | _ => simp [wo]
@[simp] theorem w_notb {a : I} : wI cf (.notb a) env Q ↔ wI cf a env fun r e => ∃ t, r = .val (.bl t) ∧ Q (.val (.bl (!t))) e := by
  simp only [wI, eI]
  cases eI cf a env with
  | none => simp [wo]
  | some p =>
    obtain ⟨r, e⟩ := p
    cases r with
    | new xs => simp [wo]
    | val d =>
      cases d with
      | bl t => cases t <;> simp [wo]
      | _ => simp [wo]
@[simp] theorem w_item1 {s : Nat} {a : I} : wI cf (.item1 s a) env Q ↔ bound1 env s = true ∧ wI cf a env fun r e => wo (look1 e s) fun d => wo (opD .item [d, r.d]) fun z => Q z e := by
  simp only [wI, eI]
  by_cases h : bound1 env s = true
  · rw [if_pos h]
    simp only [h, true_and]
    cases eI cf a env with
    | none => simp [wo]
    | some p =>
      simp only [wo_some]
      cases look1 p.2 s with
      | none => simp [wo]
      | some d => simp only [wo_some, wo_map]
  · rw [if_neg h]; simp [wo, h]
@[simp] theorem w_len1 {s : Nat} : wI cf (.len1 s) env Q ↔ wo (look1 env s) fun d => wo (opD .len [d]) fun z => Q z env := by
  simp only [wI, eI]
  cases look1 env s with
  | none => simp [wo]
  | some d => simp only [wo_some, wo_map]
@[simp] theorem w_chain {o p : Op} {a b c : I} : wI cf (.chain o p a b c) env Q ↔ wI cf a env fun x e1 => wI cf b e1 fun y e2 => wo (opD o [x.d, y.d]) fun r => ∃ t, r = .val (.bl t) ∧ if t = true then wI cf c e2 fun z e3 => wo (opD p [y.d, z.d]) fun r => Q r e3 else Q (.val (.bl false)) e2 := by
  simp only [wI, eI]
  cases eI cf a env with
  | none => simp [wo]
  | some q =>
    obtain ⟨x, e1⟩ := q
    simp only [wo_some]
    cases eI cf b e1 with
    | none => simp [wo]
    | some q =>
      obtain ⟨y, e2⟩ := q
      simp only [wo_some]
      cases opD o [x.d, y.d] with
      | none => simp [wo]
      | some r =>
        simp only [wo_some]
        cases r with
        | new xs => simp [wo]
        | val d =>
          cases d with
          | bl t =>
            cases t with
            | false => simp [wo]
            | true =>
              simp only [R.val.injEq, D.bl.injEq, exists_eq_left', if_true]
              cases eI cf c e2 with
              | none => simp [wo]
              | some q => simp only [wo_some, wo_map]
          | _ => simp [wo]
@[simp] theorem w_pop1 {s : Nat} {a : I} : wI cf (.pop1 s a) env Q ↔ (held env s).isSome = true ∧ wI cf a env fun r e => ∃ i, r = .val (.int i) ∧ wo (held e s) fun xs => (0 ≤ i ∧ i < xs.length ∧ xs.length ≤ big) ∧ wo (xs[i.toNat]?) fun d => Q (.val d) (hold e s (xs.eraseIdx i.toNat)) := by
  simp only [wI, eI]
  by_cases h : (held env s).isSome = true
  · rw [if_pos h]
    simp only [h, true_and]
    cases eI cf a env with
    | none => simp [wo]
    | some p =>
      obtain ⟨r, e⟩ := p
      simp only [wo_some]
      cases r with
      | new xs => simp [wo]
      | val d =>
        cases d with
        | int i =>
          simp only [R.val.injEq, D.int.injEq, exists_eq_left']
          cases held e s with
          | none => simp [wo]
          | some xs =>
            simp only [wo_some]
            by_cases c : 0 ≤ i ∧ i < xs.length ∧ xs.length ≤ big
            · rw [if_pos c]; simp only [wo_map]; exact ⟨fun q => ⟨c, q⟩, fun q => q.2⟩
            · rw [if_neg c]; simp [wo, c]
        | _ => simp [wo]
  · rw [if_neg h]; simp [wo, h]
def lcF (cf : CF) (s : Nat) (c : T) (e : I) : D → Ev → Option (Option D × Ev) := fun d en => match eT cf c (en.set s (.val d)) with
  | some (true, e2) => (eI cf e e2).map fun (r, e3) => (some r.d, e3)
  | some (false, e2) => some (none, e2)
  | none => none
theorem w_lcF {s : Nat} {c : T} {e : I} {d : D} {P : Option D → Ev → Prop} : (wo (lcF cf s c e d env) fun p => P p.1 p.2) ↔ wT cf c (env.set s (.val d)) fun t e2 => if t = true then wI cf e e2 fun r e3 => P (some r.d) e3 else P none e2 := by
  simp only [lcF, wT, wI]
  cases eT cf c (env.set s (.val d)) with
  | none => simp [wo]
  | some p =>
    obtain ⟨t, e2⟩ := p
    cases t with
    | false => simp [wo]
    | true => simp only [wo_some, wo_map, if_true]
def plainSl : Sl → Bool
  | .un => true
  | .val _ => true
  | _ => false
@[simp] theorem w_lc {s : Nat} {it : It} {c : T} {e : I} : wI cf (.lc s it c e) env Q ↔ wIt cf it env fun ds e1 => wo (e1[s]?) fun old => plainSl old = true ∧ wo (lcD (lcF cf s c e) ds [] e1) fun p => Q (.new p.1) (p.2.set s old) := by
  simp only [wI, wIt, eI]
  cases eIt cf it env with
  | none => simp [wo]
  | some p =>
    obtain ⟨ds, e1⟩ := p
    simp only [wo_some]
    cases h : (e1[s]? : Option Sl) with
    | none => simp [wo]
    | some old =>
      cases old with
      | own xs => simp [wo, plainSl]
      | io xs => simp [wo, plainSl]
      | un =>
        simp only [wo_some, plainSl, true_and]
        show wo (match lcD (lcF cf s c e) ds [] e1 with | some (xs, e2) => some (R.new xs, e2.set s Sl.un) | none => none) _ ↔ _
        cases lcD (lcF cf s c e) ds [] e1 <;> simp [wo]
      | val d =>
        simp only [wo_some, plainSl, true_and]
        show wo (match lcD (lcF cf s c e) ds [] e1 with | some (xs, e2) => some (R.new xs, e2.set s (Sl.val d)) | none => none) _ ↔ _
        cases lcD (lcF cf s c e) ds [] e1 <;> simp [wo]
@[simp] theorem w_nil {Q : List D → Ev → Prop} : wIs cf .nil env Q ↔ Q [] env := by simp [wIs, eIs, wo]
@[simp] theorem w_cons {a : I} {as : Is} {Q : List D → Ev → Prop} : wIs cf (.cons a as) env Q ↔ wI cf a env fun r e => wIs cf as e fun ds e2 => Q (r.d :: ds) e2 := by
  simp only [wI, wIs, eIs]
  cases eI cf a env with
  | none => simp [wo]
  | some p => simp only [wo_some, wo_map]
@[simp] theorem w_rnil {Q : List R → Ev → Prop} : wRs cf .nil env Q ↔ Q [] env := by simp [wRs, eRs, wo]
@[simp] theorem w_rcons {a : I} {as : Is} {Q : List R → Ev → Prop} : wRs cf (.cons a as) env Q ↔ wI cf a env fun r e => wRs cf as e fun ds e2 => Q (r :: ds) e2 := by
  simp only [wI, wRs, eRs]
  cases eI cf a env with
  | none => simp [wo]
  | some p => simp only [wo_some, wo_map]
section
variable {Q : Bool → Ev → Prop}
@[simp] theorem w_yes : wT cf .yes env Q ↔ Q true env := by simp [wT, eT, wo]
@[simp] theorem w_tval {a : I} : wT cf (.val a) env Q ↔ wI cf a env fun r e => wo (truth r.d) fun b => Q b e := by
  simp only [wI, wT, eT]
  cases eI cf a env with
  | none => simp [wo]
  | some p => simp only [wo_some, wo_map]
@[simp] theorem w_tnot {t : T} : wT cf (.not t) env Q ↔ wT cf t env fun b e => Q (!b) e := by simp only [wT, eT, wo_map]
@[simp] theorem w_tand {a b : T} : wT cf (.and a b) env Q ↔ wT cf a env fun t e => if t = true then wT cf b e Q else Q false e := by
  simp only [wT, eT]
  cases eT cf a env with
  | none => simp [wo]
  | some p => obtain ⟨t, e⟩ := p; cases t <;> simp [wo]
@[simp] theorem w_tor {a b : T} : wT cf (.or a b) env Q ↔ wT cf a env fun t e => if t = true then Q true e else wT cf b e Q := by
  simp only [wT, eT]
  cases eT cf a env with
  | none => simp [wo]
  | some p => obtain ⟨t, e⟩ := p; cases t <;> simp [wo]
@[simp] theorem w_tife {c a b : T} : wT cf (.ife c a b) env Q ↔ wT cf c env fun t e => if t = true then wT cf a e Q else wT cf b e Q := by
  simp only [wT, eT]
  cases eT cf c env with
  | none => simp [wo]
  | some p => obtain ⟨t, e⟩ := p; cases t <;> simp [wo]
end
section
variable {Q : List D → Ev → Prop}
@[simp] theorem w_seq {a : I} : wIt cf (.seq a) env Q ↔ wI cf a env fun r e => wo (seqOf r.d) fun ds => Q ds e := by
  simp only [wI, wIt, eIt]
  cases eI cf a env with
  | none => simp [wo]
  | some p => simp only [wo_some, wo_map]
@[simp] theorem w_rng1 {a : I} : wIt cf (.rng1 a) env Q ↔ wI cf a env fun r e => ∃ i, r = .val (.int i) ∧ inW i = true ∧ Q (rng 0 i) e := by
  simp only [wI, wIt, eIt]
  cases eI cf a env with
  | none => simp [wo]
  | some p =>
    obtain ⟨r, e⟩ := p
    simp only [wo_some]
    cases r with
    | new xs => simp [wo]
    | val d =>
      cases d with
      | int i => by_cases h : inW i = true <;> simp [wo, h]
      | _ => simp [wo]
@[simp] theorem w_rng2 {a b : I} : wIt cf (.rng2 a b) env Q ↔ wI cf a env fun r e => ∃ i, r = .val (.int i) ∧ wI cf b e fun z e2 => ∃ j, z = .val (.int j) ∧ inW i = true ∧ inW j = true ∧ Q (rng i j) e2 := by
  simp only [wI, wIt, eIt]
  cases eI cf a env with
  | none => simp [wo]
  | some p =>
    obtain ⟨r, e⟩ := p
    simp only [wo_some]
    cases r with
    | new xs => simp [wo]
    | val d =>
      cases d with
      | int i =>
        simp only [R.val.injEq, D.int.injEq, exists_eq_left']
        cases eI cf b e with
        | none => simp [wo]
        | some p =>
          obtain ⟨z, e2⟩ := p
          simp only [wo_some]
          cases z with
          | new xs => simp [wo]
          | val d =>
            cases d with
            | int j => by_cases h : inW i = true <;> by_cases h2 : inW j = true <;> simp [wo, h, h2]
            | _ => simp [wo]
      | _ => simp [wo]
end
section
variable {Q : Fl → Ev → Prop}
@[simp] theorem w_ret {a : I} : wS cf (.ret a) env Q ↔ wI cf a env fun r e => Q (.rt r) e := by simp only [wS, wI, eS, wo_map]
@[simp] theorem w_set {s : Nat} {a : I} : wS cf (.set s a) env Q ↔ wI cf a env fun r e => free e s = true ∧ Q .nx (e.set s (asSl r)) := by
  simp only [wI, wS, eS]
  cases eI cf a env with
  | none => simp [wo]
  | some p => simp only [wo_some, wo_ite]
@[simp] theorem w_par {ss : List Nat} {as : Is} : wS cf (.par ss as) env Q ↔ wRs cf as env fun rs e => ss.Nodup ∧ wo (setRs ss rs e) fun e2 => Q .nx e2 := by
  simp only [wRs, wS, eS]
  cases eRs cf as env with
  | none => simp [wo]
  | some p =>
    simp only [wo_some]
    by_cases h : ss.Nodup
    · rw [if_pos h]; simp only [wo_map]; exact ⟨fun q => ⟨h, q⟩, fun q => q.2⟩
    · rw [if_neg h]; simp [wo, h]
@[simp] theorem w_expr {a : I} : wS cf (.expr a) env Q ↔ wI cf a env fun _ e => Q .nx e := by simp only [wS, wI, eS, wo_map]
@[simp] theorem w_put1 {s : Nat} {ix a : I} : wS cf (.put1 s ix a) env Q ↔ wI cf a env fun r e => (held e s).isSome = true ∧ wI cf ix e fun z e2 => ∃ i, z = .val (.int i) ∧ wo (held e2 s) fun xs => wo (L2.ixN xs.length i) fun j => Q .nx (hold e2 s (xs.set j r.d)) := by
  simp only [wI, wS, eS]
  cases eI cf a env with
  | none => simp [wo]
  | some p =>
    obtain ⟨r, e⟩ := p
    simp only [wo_some]
    by_cases h : (held e s).isSome = true
    · rw [if_pos h]
      simp only [h, true_and]
      cases eI cf ix e with
      | none => simp [wo]
      | some p =>
        obtain ⟨z, e2⟩ := p
        simp only [wo_some]
        cases z with
        | new xs => simp [wo]
        | val d =>
          cases d with
          | int i =>
            simp only [R.val.injEq, D.int.injEq, exists_eq_left']
            cases held e2 s with
            | none => simp [wo]
            | some xs => simp only [wo_some, wo_map]
          | _ => simp [wo]
    · rw [if_neg h]; simp [wo, h]
@[simp] theorem w_app1 {s : Nat} {a : I} : wS cf (.app1 s a) env Q ↔ (held env s).isSome = true ∧ wI cf a env fun r e => wo (held e s) fun xs => xs.length < big ∧ Q .nx (hold e s (xs ++ [r.d])) := by
  simp only [wI, wS, eS]
  by_cases h : (held env s).isSome = true
  · rw [if_pos h]
    simp only [h, true_and]
    cases eI cf a env with
    | none => simp [wo]
    | some p =>
      simp only [wo_some]
      cases held p.2 s with
      | none => simp [wo]
      | some xs => simp only [wo_some, wo_ite]
  · rw [if_neg h]; simp [wo, h]
@[simp] theorem w_ifs {c : T} {a b : Ss} : wS cf (.ifs c a b) env Q ↔ wT cf c env fun t e => if t = true then wSs cf a e Q else wSs cf b e Q := by
  simp only [wS, wSs, wT, eS]
  cases eT cf c env with
  | none => simp [wo]
  | some p => obtain ⟨t, e⟩ := p; cases t <;> simp [wo]
@[simp] theorem w_for {s : Nat} {it : It} {b : Ss} : wS cf (.for_ s it b) env Q ↔ wIt cf it env fun ds e => wo (forD (fun e => eSs cf b e) s ds e) fun p => Q p.1 p.2 := by
  simp only [wS, wIt, eS]
  cases eIt cf it env with
  | none => simp [wo]
  | some p => simp [wo]
@[simp] theorem w_pass : wS cf .pass env Q ↔ Q .nx env := by simp [wS, eS, wo]
@[simp] theorem w_brk : wS cf .brk env Q ↔ Q .bk env := by simp [wS, eS, wo]
@[simp] theorem w_cont : wS cf .cont env Q ↔ Q .ct env := by simp [wS, eS, wo]
@[simp] theorem w_snil : wSs cf .nil env Q ↔ Q .nx env := by simp [wSs, eSs, wo]
def thenS (cf : CF) (as : Ss) (Q : Fl → Ev → Prop) : Fl → Ev → Prop
  | .nx, e => wSs cf as e Q
  | f, e => Q f e
@[simp] theorem w_scons {a : S} {as : Ss} : wSs cf (.cons a as) env Q ↔ wS cf a env (thenS cf as Q) := by
  simp only [wS, wSs, eSs]
  cases eS cf a env with
  | none => simp [wo]
  | some p => obtain ⟨f, e⟩ := p; cases f <;> simp [wo, thenS, wSs]
@[simp] theorem then_nx {as : Ss} {e : Ev} : thenS cf as Q .nx e ↔ wSs cf as e Q := Iff.rfl
@[simp] theorem then_rt {as : Ss} {e : Ev} {r : R} : thenS cf as Q (.rt r) e ↔ Q (.rt r) e := Iff.rfl
@[simp] theorem then_bk {as : Ss} {e : Ev} : thenS cf as Q .bk e ↔ Q .bk e := Iff.rfl
@[simp] theorem then_ct {as : Ss} {e : Ev} : thenS cf as Q .ct e ↔ Q .ct e := Iff.rfl
end
/-! ### loops by an invariant -/
theorem lc_inv {f : D → Ev → Option (Option D × Ev)} (P : List D → List D → Ev → Prop) (hstep : ∀ d ds acc env, P (d :: ds) acc env → wo (f d env) fun p => match p.1 with | some x => acc.length < big ∧ P ds (acc ++ [x]) p.2 | none => P ds acc p.2) :
    ∀ (ds acc : List D) (env : Ev), P ds acc env → wo (lcD f ds acc env) fun p => P [] p.1 p.2
  | [], acc, env, h => ⟨_, rfl, h⟩
  | d :: ds, acc, env, h => by
    obtain ⟨⟨x, e1⟩, e, q⟩ := hstep d ds acc env h
    simp only [lcD, e]
    cases x with
    | none => exact lc_inv P hstep ds acc e1 q
    | some x => simp only [if_pos q.1]; exact lc_inv P hstep ds _ e1 q.2
theorem lc_invF {cf : CF} {s : Nat} {c : T} {e : I} (P : List D → List D → Ev → Prop) (hstep : ∀ d ds acc env, P (d :: ds) acc env → wT cf c (env.set s (.val d)) fun t e2 => if t = true then wI cf e e2 fun r e3 => acc.length < big ∧ P ds (acc ++ [r.d]) e3 else P ds acc e2)
    (ds : List D) (env : Ev) (h : P ds [] env) (Q : List D × Ev → Prop) (hq : ∀ xs e, P [] xs e → Q (xs, e)) : wo (lcD (lcF cf s c e) ds [] env) Q := by
  refine wo_mono (lc_inv P (fun d ds acc env h => ?_) ds [] env h) fun p q => hq p.1 p.2 q
  exact (w_lcF (P := fun x e => match x with | some x => acc.length < big ∧ P ds (acc ++ [x]) e | none => P ds acc e)).mpr (hstep d ds acc env h)
theorem for_inv {cf : CF} {b : Ss} {s : Nat} (P : List D → Ev → Prop) (Q : Fl → Ev → Prop) (hstep : ∀ d ds env, P (d :: ds) env → free env s = true ∧ wSs cf b (env.set s (.val d)) fun fl e => match fl with | .nx => P ds e | .ct => P ds e | .bk => Q .nx e | .rt r => Q (.rt r) e)
    (hend : ∀ env, P [] env → Q .nx env) : ∀ (ds : List D) (env : Ev), P ds env → wo (forD (fun e => eSs cf b e) s ds env) fun p => Q p.1 p.2
  | [], env, h => ⟨_, rfl, hend env h⟩
  | d :: ds, env, h => by
    obtain ⟨h1, ⟨fl, e1⟩, e, q⟩ := hstep d ds env h
    simp only [forD, if_pos h1, e]
    cases fl with
    | nx => exact for_inv P Q hstep hend ds e1 q
    | ct => exact for_inv P Q hstep hend ds e1 q
    | bk => exact ⟨_, rfl, q⟩
    | rt r => exact ⟨_, rfl, q⟩
end
/-- a call, by its body -/
theorem w_fn {fns : List Fn} {k f : Nat} {fn : Fn} {io : Option (List D)} {ds : List D} {Q : R × Option (List D) → Prop} (hf : fns[f]? = some fn) (h1 : fn.io = io.isSome ∧ fn.np = ds.length + ioN fn.io ∧ fn.np ≤ fn.ns)
    (h : wSs (callF fns k) fn.body (start0 fn io ds) fun fl e => match fl with | .rt r => wo (outOf fn.io e) fun o => Q (r, o) | .nx => wo (outOf fn.io e) fun o => Q (.val .non, o) | _ => False) : wo (callF fns (k + 1) f io ds) Q := by
  obtain ⟨⟨fl, e⟩, h2, h3⟩ := h
  simp only [callF, hf, if_pos h1]
  cases fl with
  | rt r => simp only [h2, wo_map]; exact h3
  | nx => simp only [h2, wo_map]; exact h3
  | bk => exact False.elim h3
  | ct => exact False.elim h3
end DI

namespace DI
section
variable {env : Ev} {i : Nat} {xs ys : List D} {a b c : Int} {cs ds : List Nat} {d e : D} {p q : Bool}
@[simp] theorem x_rdV : rdV env i = (match env[i]? with | some (.val d) => some (d, env) | some (.own xs) => some (.lst xs, env.set i (.val (.lst xs))) | _ => none) := rfl
@[simp] theorem x_held : held env i = (match env[i]? with | some (.own xs) => some xs | some (.io xs) => some xs | _ => none) := rfl
@[simp] theorem x_hold : hold env i xs = (match env[i]? with | some (.io _) => env.set i (.io xs) | _ => env.set i (.own xs)) := rfl
@[simp] theorem x_look1 : look1 env i = (match env[i]? with | some (.val d) => some d | some (.own xs) => some (.lst xs) | some (.io xs) => some (.lst xs) | _ => none) := rfl
@[simp] theorem x_bound1 : bound1 env i = (look1 env i).isSome := rfl
def freeS : Option Sl → Bool
  | some (.io _) => false
  | some _ => true
  | none => false
@[simp] theorem x_free : free env i = freeS env[i]? := rfl
@[simp] theorem x_fr1 : freeS (some .un) = true := rfl
@[simp] theorem x_fr2 : freeS (some (.val d)) = true := rfl
@[simp] theorem x_fr3 : freeS (some (.own xs)) = true := rfl
@[simp] theorem x_asV : asSl (.val d) = .val d := rfl
@[simp] theorem x_asN : asSl (.new xs) = .own xs := rfl
@[simp] theorem x_dV : (R.val d).d = d := rfl
@[simp] theorem x_dN : (R.new xs).d = .lst xs := rfl
@[simp] theorem x_set0 : setRs [] [] env = some env := rfl
@[simp] theorem x_setc {s : Nat} {ss : List Nat} {r : R} {rs : List R} : setRs (s :: ss) (r :: rs) env = if free env s = true then setRs ss rs (env.set s (asSl r)) else none := rfl
@[simp] theorem x_ioT : ioN true = 1 := rfl
@[simp] theorem x_ioF : ioN false = 0 := rfl
@[simp] theorem x_outF : outOf false env = some none := rfl
@[simp] theorem x_outT : outOf true env = (match (env[0]? : Option Sl) with | some (.io xs) => some (some xs) | _ => none) := rfl
@[simp] theorem x_pl1 : plainSl .un = true := rfl
@[simp] theorem x_pl2 : plainSl (.val d) = true := rfl
@[simp] theorem x_tn : truth .non = some false := rfl
@[simp] theorem x_tb : truth (.bl p) = some p := rfl
@[simp] theorem x_ti : truth (.int a) = some (a != 0) := rfl
@[simp] theorem x_tl : truth (.lst xs) = some (!xs.isEmpty) := rfl
@[simp] theorem x_tt : truth (.tup xs) = some (!xs.isEmpty) := rfl
@[simp] theorem x_ts : truth (.str cs) = if cs.length ≤ big then some ((cs.length : Int) != 0) else none := rfl
@[simp] theorem x_sl : seqOf (.lst xs) = some xs := rfl
@[simp] theorem x_st : seqOf (.tup xs) = some xs := rfl
@[simp] theorem x_ss : seqOf (.scr xs) = some xs := rfl
@[simp] theorem x_sc : seqOf (.str cs) = some (cs.map fun c => .str [c]) := rfl
@[simp] theorem o_add : opD .add [.int a, .int b] = num (a + b) := rfl
@[simp] theorem o_adds : opD .add [.str cs, .str ds] = if cs.length + ds.length ≤ big then some (.val (.str (cs ++ ds))) else none := rfl
@[simp] theorem o_addl : opD .add [.lst xs, .lst ys] = if xs.length + ys.length ≤ big then some (.new (xs ++ ys)) else none := rfl
@[simp] theorem o_sub : opD .sub [.int a, .int b] = num (a - b) := rfl
@[simp] theorem o_mul : opD .mul [.int a, .int b] = if a.natAbs.log2 + b.natAbs.log2 < 1000000 then num (a * b) else none := rfl
@[simp] theorem o_fdiv : opD .fdiv [.int a, .int b] = if 0 < b ∧ b < 1073741824 then num (a / b) else none := rfl
@[simp] theorem o_mod : opD .mod [.int a, .int b] = if 0 < b then num (a % b) else none := rfl
@[simp] theorem o_pow : opD .pow [.int a, .int b] = if 0 ≤ b ∧ b ≤ 1000 ∧ a.natAbs < 2 ^ 1000 then num (a ^ b.toNat) else none := rfl
@[simp] theorem o_neg : opD .neg [.int a] = num (-a) := rfl
@[simp] theorem o_eqs : opD .eq [.str cs, .str ds] = bl (decide (cs = ds)) := rfl
@[simp] theorem o_nes : opD .ne [.str cs, .str ds] = bl (!decide (cs = ds)) := rfl
@[simp] theorem o_eqi : opD .eq [.int a, .int b] = bl (decide (a = b)) := rfl
@[simp] theorem o_nei : opD .ne [.int a, .int b] = bl (!decide (a = b)) := rfl
@[simp] theorem o_lt : opD .lt [.int a, .int b] = bl (decide (a < b)) := rfl
@[simp] theorem o_lts : opD .lt [.str cs, .str ds] = bl (decide (cs < ds)) := rfl
@[simp] theorem o_le : opD .le [.int a, .int b] = bl (decide (a ≤ b)) := rfl
@[simp] theorem o_les : opD .le [.str cs, .str ds] = bl (!decide (ds < cs)) := rfl
@[simp] theorem o_gt : opD .gt [.int a, .int b] = bl (decide (b < a)) := rfl
@[simp] theorem o_ge : opD .ge [.int a, .int b] = bl (decide (b ≤ a)) := rfl
@[simp] theorem o_isin {c : Nat} : opD .isin [.str [c], .str ds] = bl (decide (c ∈ ds)) := rfl
@[simp] theorem o_notin {c : Nat} : opD .notin [.str [c], .str ds] = bl (!decide (c ∈ ds)) := rfl
@[simp] theorem o_isn : opD .isn [d, .non] = bl (isNon d) := rfl
@[simp] theorem o_notn : opD .notn [d, .non] = bl (!isNon d) := rfl
@[simp] theorem o_iteml : opD .item [.lst xs, .int a] = (L2.atI xs a).map .val := rfl
@[simp] theorem o_itemr : opD .item [.scr xs, .int a] = (L2.atI xs a).map .val := rfl
@[simp] theorem o_itemt : opD .item [.tup xs, .int a] = (L2.atI xs a).map .val := rfl
@[simp] theorem o_items : opD .item [.str cs, .int a] = if cs.length ≤ big then (L2.atI cs a).map fun c => .val (.str [c]) else none := rfl
@[simp] theorem o_tup : opD .tup xs = if xs.length ≤ big then some (.val (.tup xs)) else none := rfl
@[simp] theorem o_list : opD .list xs = if xs.length ≤ big then some (.new xs) else none := rfl
@[simp] theorem o_lens : opD .len [.str cs] = if cs.length ≤ big then num cs.length else none := rfl
@[simp] theorem o_lenl : opD .len [.lst xs] = num xs.length := rfl
@[simp] theorem o_lenr : opD .len [.scr xs] = num xs.length := rfl
@[simp] theorem o_lent : opD .len [.tup xs] = num xs.length := rfl
@[simp] theorem o_int : opD .int [.int a] = num a := rfl
@[simp] theorem o_intb : opD .int [.bl p] = num (if p then 1 else 0) := rfl
@[simp] theorem o_abs : opD .abs [.int a] = num (if a < 0 then -a else a) := rfl
@[simp] theorem o_max : opD .max [.int a, .int b] = num (if b > a then b else a) := rfl
@[simp] theorem o_min : opD .min [.int a, .int b] = num (if b < a then b else a) := rfl
@[simp] theorem o_repr : opD .repr [d] = if okShow d = true then some (.val (.str (toPy d).shown.cps.toList)) else none := rfl
@[simp] theorem o_listl : opD .listof [.lst xs] = some (.new xs) := rfl
@[simp] theorem o_listt : opD .listof [.tup xs] = some (.new xs) := rfl
@[simp] theorem o_lists : opD .listof [.str cs] = if cs.length ≤ big then some (.new (cs.map fun c => .str [c])) else none := rfl
@[simp] theorem o_cut01 : opD (.cut false true) [.str cs, .int a] = if cs.length ≤ big then some (.val (.str (cutL cs none (some a)))) else none := rfl
@[simp] theorem o_cut10 : opD (.cut true false) [.str cs, .int a] = if cs.length ≤ big then some (.val (.str (cutL cs (some a) none))) else none := rfl
@[simp] theorem o_cut11 : opD (.cut true true) [.str cs, .int a, .int b] = if cs.length ≤ big then some (.val (.str (cutL cs (some a) (some b)))) else none := rfl
@[simp] theorem o_cutl01 : opD (.cut false true) [.lst xs, .int a] = some (.new (cutL xs none (some a))) := rfl
@[simp] theorem o_cutl10 : opD (.cut true false) [.lst xs, .int a] = some (.new (cutL xs (some a) none)) := rfl
@[simp] theorem o_cutl11 : opD (.cut true true) [.lst xs, .int a, .int b] = some (.new (cutL xs (some a) (some b))) := rfl
@[simp] theorem o_big : big = 1000000 := by decide
@[simp] theorem o_ir : (R.val d = .val e) = (d = e) := by simp
end
@[simp] theorem wo_imap {α β : Type} {c : Prop} {_ : Decidable c} {x : Option α} {f : α → β} {Q : β → Prop} : wo (if c then x.map f else none) Q ↔ c ∧ wo x fun a => Q (f a) := by
  by_cases h : c
  · rw [if_pos h, wo_map]; exact ⟨fun q => ⟨h, q⟩, fun q => q.2⟩
  · rw [if_neg h]; simp [wo, h]
/-- an item at a place within -/
theorem atI_in {α : Type} {xs : List α} {i : Int} (h0 : 0 ≤ i) (h1 : i < xs.length) : L2.atI xs i = xs[i.toNat]? := by
  unfold L2.atI L2.ixN
  rw [if_pos h0, if_pos h1]
  rfl
theorem wo_atI {α : Type} {xs : List α} {i : Int} {Q : α → Prop} (h0 : 0 ≤ i) (h1 : i < xs.length) (h : ∀ x ∈ xs, Q x) : wo (L2.atI xs i) Q := by
  rw [atI_in h0 h1]
  have hl : i.toNat < xs.length := by omega
  exact ⟨xs[i.toNat], List.getElem?_eq_getElem hl, h _ (List.getElem_mem hl)⟩
theorem log2_le {n k : Nat} (h : n < 2 ^ k) (hk : 0 < k) : n.log2 < k := by
  by_cases h0 : n = 0
  · subst h0; simpa using hk
  · exact (Nat.log2_lt h0).mpr h
@[simp] theorem ixN_0 {n : Nat} : L2.ixN (n + 1) 0 = some 0 := by unfold L2.ixN; rw [if_pos (by decide), if_pos (by omega)]; rfl
@[simp] theorem ixN_1 {n : Nat} : L2.ixN (n + 2) 1 = some 1 := by unfold L2.ixN; rw [if_pos (by decide), if_pos (by omega)]; rfl
@[simp] theorem ixN_2 {n : Nat} : L2.ixN (n + 3) 2 = some 2 := by unfold L2.ixN; rw [if_pos (by decide), if_pos (by omega)]; rfl
@[simp] theorem atI_0 {α : Type} {x : α} {xs : List α} : L2.atI (x :: xs) 0 = some x := by unfold L2.atI; rw [List.length_cons, ixN_0]; rfl
@[simp] theorem atI_1 {α : Type} {x y : α} {xs : List α} : L2.atI (x :: y :: xs) 1 = some y := by unfold L2.atI; rw [List.length_cons, List.length_cons, ixN_1]; rfl
@[simp] theorem atI_2 {α : Type} {x y z : α} {xs : List α} : L2.atI (x :: y :: z :: xs) 2 = some z := by unfold L2.atI; rw [List.length_cons, List.length_cons, List.length_cons, ixN_2]; rfl
@[simp] theorem ixN_30 : L2.ixN 3 0 = some 0 := rfl
@[simp] theorem ixN_31 : L2.ixN 3 1 = some 1 := rfl
@[simp] theorem ixN_32 : L2.ixN 3 2 = some 2 := rfl
/-- the stock of draws: three ints, the last counts -/
def Stk (n : Nat) (xs : List D) : Prop := ∃ a b c : Int, xs = [.int a, .int b, .int c] ∧ 0 ≤ a ∧ 0 ≤ b ∧ b < 2305843009213693951 ∧ 0 ≤ c ∧ c ≤ n
theorem Stk.mono {n m : Nat} {xs : List D} (h : Stk n xs) (k : n ≤ m) : Stk m xs := by
  obtain ⟨a, b, c, e, h1, h2, h3, h4, h5⟩ := h
  exact ⟨a, b, c, e, h1, h2, h3, h4, by omega⟩
/-- what a draw is asked for -/
def DrawOk (cf : CF) (f : Nat) : Prop := ∀ (n : Nat) (xs : List D) (t : Int), Stk n xs → n ≤ 1000000 → 0 < t → t < 1073741824 →
  wo (cf f (some xs) [.int t]) fun p => ∃ (r : Int) (ys : List D), p = (.val (.int r), some ys) ∧ 0 ≤ r ∧ r < t ∧ Stk (n + 1) ys
theorem log2_int {a : Int} {k : Nat} (h0 : 0 ≤ a) (h : a < (2 : Int) ^ k) (hk : 0 < k) : a.natAbs.log2 < k := by
  refine log2_le ?_ hk
  have e : ((a.natAbs : Nat) : Int) = a := Int.natAbs_of_nonneg h0
  have h2 : ((a.natAbs : Nat) : Int) < ((2 ^ k : Nat) : Int) := by rw [e]; simpa using h
  exact Int.ofNat_lt.mp h2
end DI

namespace DI
open PySem
/-! ### joins -/
def joinL (sep : List Nat) : List (List Nat) → List Nat
  | [] => []
  | [x] => x
  | x :: y :: r => x ++ sep ++ joinL sep (y :: r)
theorem join_sOf (sep : List Nat) : ∀ ts : List (List Nat), Str.join (sOf sep) (ts.map sOf) = sOf (joinL sep ts)
  | [] => rfl
  | [x] => rfl
  | x :: y :: r => by
    have h := join_sOf sep (y :: r)
    simp only [List.map_cons] at h ⊢
    show sOf x ++ sOf sep ++ Str.join (sOf sep) (sOf y :: r.map sOf) = _
    rw [h, sOf_app, sOf_app]
    rfl
theorem join_list (sep : List Nat) (ts : List (List Nat)) : (Txt.join (sOf sep) (ts.map sOf)).cps.toList = joinL sep ts := by
  unfold Txt.join
  rw [StrLaws.glued_eq_join, join_sOf, sOf_list]
theorem texts_map : ∀ ts : List (List Nat), texts (ts.map D.str) = some ts
  | [] => rfl
  | x :: r => by simp [texts, texts_map r]
theorem o_join (cs : List Nat) (ts : List (List Nat)) (h : (ts.map (·.length)).sum + ts.length * cs.length ≤ big) : opD .join [.str cs, .lst (ts.map D.str)] = some (.val (.str (joinL cs ts))) := by
  simp only [opD, dJoin, texts_map, if_pos h, join_list]
theorem joinL_nil : ∀ ts : List (List Nat), joinL [] ts = ts.flatten
  | [] => rfl
  | [x] => by simp [joinL]
  | x :: y :: r => by simp [joinL, joinL_nil (y :: r)]
/-! ### comprehensions that leave the other names alone -/
theorem lc_pure {f : D → Ev → Option (Option D × Ev)} {s : Nat} {env : Ev} (g : D → Option D) : ∀ (ds acc : List D) (z : Sl), acc.length + ds.length ≤ big → (∀ d ∈ ds, ∀ z, wo (f d (env.set s z)) fun p => p.1 = g d ∧ ∃ z', p.2 = env.set s z') →
    wo (lcD f ds acc (env.set s z)) fun p => p.1 = acc ++ ds.filterMap g ∧ ∃ z', p.2 = env.set s z'
  | [], acc, z, _, _ => ⟨_, rfl, by simp, z, rfl⟩
  | d :: ds, acc, z, hl, h => by
    obtain ⟨⟨x, e1⟩, e, hx, z', he⟩ := h d (by simp) z
    have hx' : x = g d := hx
    have he' : e1 = env.set s z' := he
    subst he'
    simp only [lcD, e]
    simp only [List.length_cons] at hl
    cases x with
    | none =>
      rw [List.filterMap_cons, ← hx']
      exact lc_pure g ds acc z' (by omega) fun d hd => h d (by simp [hd])
    | some y =>
      simp only [if_pos (show acc.length < big by omega)]
      rw [List.filterMap_cons, ← hx']
      have := lc_pure g ds (acc ++ [y]) z' (by simp only [List.length_append, List.length_cons, List.length_nil]; omega) fun d hd => h d (by simp [hd])
      simpa using this
theorem set_get {s : Nat} {env : Ev} {z : Sl} (h : env[s]? = some z) : env.set s z = env := by
  apply List.ext_getElem?
  intro i
  rw [List.getElem?_set]
  split
  · rename_i e
    subst e
    obtain ⟨hl, hh⟩ := List.getElem?_eq_some_iff.mp h
    simp [hl, hh]
  · rfl
/-- the whole comprehension -/
theorem w_lcp {cf : CF} {s : Nat} {c : T} {e : I} {env : Ev} {ds : List D} {old : Sl} (g : D → Option D) (ho : env[s]? = some old) (hz : ds.length ≤ big)
    (h : ∀ d ∈ ds, wT cf c (env.set s (.val d)) fun t e2 => if t = true then wI cf e e2 fun r e3 => some r.d = g d ∧ ∃ z', e3 = env.set s z' else none = g d ∧ ∃ z', e2 = env.set s z')
    {Q : List D × Ev → Prop} (hq : ∀ z, Q (ds.filterMap g, env.set s z)) : wo (lcD (lcF cf s c e) ds [] env) Q := by
  have := lc_pure (f := lcF cf s c e) (s := s) (env := env) g ds [] old (by simpa using hz) fun d hd z => by
    refine (w_lcF (P := fun x e => x = g d ∧ ∃ z', e = env.set s z')).mpr ?_
    rw [List.set_set]
    exact h d hd
  rw [set_get ho] at this
  obtain ⟨⟨xs, e2⟩, e1, h1, z, h2⟩ := this
  refine ⟨_, e1, ?_⟩
  have h1' : xs = [] ++ ds.filterMap g := h1
  have h2' : e2 = env.set s z := h2
  rw [h1', h2']
  exact hq z
/-! ### equality with [] -/
theorem okEq_nil : okEq (.lst []) = true := by decide +kernel
def charsOk (cs : List Nat) : Bool := cs.all (· < 1114112)
theorem canLay_flat : ∀ d : D, (match d with | .str cs => charsOk cs | .non => true | .bl _ => true | .int _ => true | _ => false) = true → plain d = true ∧ (toPy d).canLay0 = true ∧ (toPy d).depth = 0
  | .non, _ => by simp [plain, toPy, PyData.canLay0, PyData.depth]
  | .bl b, _ => by simp [plain, toPy, PyData.canLay0, PyData.depth]
  | .int b, _ => by simp [plain, toPy, PyData.canLay0, PyData.depth]
  | .str cs, h => by
    have h' : charsOk cs = true := h
    unfold charsOk at h'
    simp [plain, toPy, PyData.canLay0, PyData.depth, PyData.strOk, sOf] at *
    exact h'
def simple : D → Bool
  | .str cs => charsOk cs
  | .non => true
  | .bl _ => true
  | .int _ => true
  | _ => false
theorem simple_ok {d : D} (h : simple d = true) : plain d = true ∧ (toPy d).canLay0 = true ∧ (toPy d).depth = 0 := canLay_flat d (by cases d <;> first | exact h | rfl)
theorem simples_ok : ∀ {xs : List D}, (∀ x ∈ xs, simple x = true) → plains xs = true ∧ PyData.canLayAll0 (toPys xs) = true ∧ PyData.depthAll (toPys xs) = 0
  | [], _ => by simp [plains, toPys, PyData.canLayAll0, PyData.depthAll]
  | x :: xs, h => by
    obtain ⟨a, b, c⟩ := simple_ok (h x (by simp))
    obtain ⟨a', b', c'⟩ := simples_ok (xs := xs) fun y hy => h y (by simp [hy])
    simp [plains, toPys, PyData.canLayAll0, PyData.depthAll, *]
theorem okEq_lst {xs : List D} (h : ∀ x ∈ xs, simple x = true) : okEq (.lst xs) = true := by
  obtain ⟨a, b, c⟩ := simples_ok h
  simp [okEq, plain, toPy, SeqAt.shaped, PyData.canLay0, PyData.depth, *]
theorem o_eq_nil {xs : List D} (h : okEq (.lst xs) = true) : opD .eq [.lst xs, .lst []] = bl xs.isEmpty := by
  show (if okEq (.lst xs) && okEq (.lst []) then _ else _) = _
  rw [h, okEq_nil]
  cases xs with
  | nil => rfl
  | cons x r => simp [toPy, toPys, PyData.eqv, PyData.eqvAll]
theorem o_ne_nil {xs : List D} (h : okEq (.lst xs) = true) : opD .ne [.lst xs, .lst []] = bl (!xs.isEmpty) := by
  show (if okEq (.lst xs) && okEq (.lst []) then _ else _) = _
  rw [h, okEq_nil]
  cases xs with
  | nil => rfl
  | cons x r => simp [toPy, toPys, PyData.eqv, PyData.eqvAll]
@[simp] theorem o_ne_nn : opD .ne [.lst [], .lst []] = bl false := o_ne_nil okEq_nil
@[simp] theorem o_eq_nn : opD .eq [.lst [], .lst []] = bl true := o_eq_nil okEq_nil
theorem okShow_bl (b : Bool) : okShow (.bl b) = true := by cases b <;> decide +kernel
/-- bools of a list -/
theorem bools_map {α : Type} (f : α → Bool) : ∀ xs : List α, bools (xs.map fun x => D.bl (f x)) = some (xs.map f)
  | [] => rfl
  | x :: r => by simp [bools, bools_map f r]
theorem o_all {α : Type} (f : α → Bool) (xs : List α) : opD .all [.lst (xs.map fun x => D.bl (f x))] = bl (xs.all f) := by
  simp only [opD, dAll, bools_map]
  congr 1
  simp [List.all_map]
section
variable {p : Bool} {a : Int} {cs : List Nat} {xs : List D} {kv : List (D × D)}
@[simp] theorem isi_int_nn : opD (.isi "int") [.non] = bl false := by
  have h : L2.kitB "NoneType" "int" = some false := by decide +kernel
  simp only [opD, dIsi, tyD, h]
@[simp] theorem isi_int_bl : opD (.isi "int") [.bl p] = bl true := by
  have h : L2.kitB "bool" "int" = some true := by decide +kernel
  simp only [opD, dIsi, tyD, h]
@[simp] theorem isi_int_in : opD (.isi "int") [.int a] = bl true := by
  have h : L2.kitB "int" "int" = some true := by decide +kernel
  simp only [opD, dIsi, tyD, h]
@[simp] theorem isi_int_st : opD (.isi "int") [.str cs] = bl false := by
  have h : L2.kitB "str" "int" = some false := by decide +kernel
  simp only [opD, dIsi, tyD, h]
@[simp] theorem isi_int_tu : opD (.isi "int") [.tup xs] = bl false := by
  have h : L2.kitB "tuple" "int" = some false := by decide +kernel
  simp only [opD, dIsi, tyD, h]
@[simp] theorem isi_int_ls : opD (.isi "int") [.lst xs] = bl false := by
  have h : L2.kitB "list" "int" = some false := by decide +kernel
  simp only [opD, dIsi, tyD, h]
@[simp] theorem isi_int_di : opD (.isi "int") [.dct kv] = bl false := by
  have h : L2.kitB "dict" "int" = some false := by decide +kernel
  simp only [opD, dIsi, tyD, h]
@[simp] theorem isi_bool_nn : opD (.isi "bool") [.non] = bl false := by
  have h : L2.kitB "NoneType" "bool" = some false := by decide +kernel
  simp only [opD, dIsi, tyD, h]
@[simp] theorem isi_bool_bl : opD (.isi "bool") [.bl p] = bl true := by
  have h : L2.kitB "bool" "bool" = some true := by decide +kernel
  simp only [opD, dIsi, tyD, h]
@[simp] theorem isi_bool_in : opD (.isi "bool") [.int a] = bl false := by
  have h : L2.kitB "int" "bool" = some false := by decide +kernel
  simp only [opD, dIsi, tyD, h]
@[simp] theorem isi_bool_st : opD (.isi "bool") [.str cs] = bl false := by
  have h : L2.kitB "str" "bool" = some false := by decide +kernel
  simp only [opD, dIsi, tyD, h]
@[simp] theorem isi_bool_tu : opD (.isi "bool") [.tup xs] = bl false := by
  have h : L2.kitB "tuple" "bool" = some false := by decide +kernel
  simp only [opD, dIsi, tyD, h]
@[simp] theorem isi_bool_ls : opD (.isi "bool") [.lst xs] = bl false := by
  have h : L2.kitB "list" "bool" = some false := by decide +kernel
  simp only [opD, dIsi, tyD, h]
@[simp] theorem isi_bool_di : opD (.isi "bool") [.dct kv] = bl false := by
  have h : L2.kitB "dict" "bool" = some false := by decide +kernel
  simp only [opD, dIsi, tyD, h]
@[simp] theorem isi_str_nn : opD (.isi "str") [.non] = bl false := by
  have h : L2.kitB "NoneType" "str" = some false := by decide +kernel
  simp only [opD, dIsi, tyD, h]
@[simp] theorem isi_str_bl : opD (.isi "str") [.bl p] = bl false := by
  have h : L2.kitB "bool" "str" = some false := by decide +kernel
  simp only [opD, dIsi, tyD, h]
@[simp] theorem isi_str_in : opD (.isi "str") [.int a] = bl false := by
  have h : L2.kitB "int" "str" = some false := by decide +kernel
  simp only [opD, dIsi, tyD, h]
@[simp] theorem isi_str_st : opD (.isi "str") [.str cs] = bl true := by
  have h : L2.kitB "str" "str" = some true := by decide +kernel
  simp only [opD, dIsi, tyD, h]
@[simp] theorem isi_str_tu : opD (.isi "str") [.tup xs] = bl false := by
  have h : L2.kitB "tuple" "str" = some false := by decide +kernel
  simp only [opD, dIsi, tyD, h]
@[simp] theorem isi_str_ls : opD (.isi "str") [.lst xs] = bl false := by
  have h : L2.kitB "list" "str" = some false := by decide +kernel
  simp only [opD, dIsi, tyD, h]
@[simp] theorem isi_str_di : opD (.isi "str") [.dct kv] = bl false := by
  have h : L2.kitB "dict" "str" = some false := by decide +kernel
  simp only [opD, dIsi, tyD, h]
@[simp] theorem isi_tuple_nn : opD (.isi "tuple") [.non] = bl false := by
  have h : L2.kitB "NoneType" "tuple" = some false := by decide +kernel
  simp only [opD, dIsi, tyD, h]
@[simp] theorem isi_tuple_bl : opD (.isi "tuple") [.bl p] = bl false := by
  have h : L2.kitB "bool" "tuple" = some false := by decide +kernel
  simp only [opD, dIsi, tyD, h]
@[simp] theorem isi_tuple_in : opD (.isi "tuple") [.int a] = bl false := by
  have h : L2.kitB "int" "tuple" = some false := by decide +kernel
  simp only [opD, dIsi, tyD, h]
@[simp] theorem isi_tuple_st : opD (.isi "tuple") [.str cs] = bl false := by
  have h : L2.kitB "str" "tuple" = some false := by decide +kernel
  simp only [opD, dIsi, tyD, h]
@[simp] theorem isi_tuple_tu : opD (.isi "tuple") [.tup xs] = bl true := by
  have h : L2.kitB "tuple" "tuple" = some true := by decide +kernel
  simp only [opD, dIsi, tyD, h]
@[simp] theorem isi_tuple_ls : opD (.isi "tuple") [.lst xs] = bl false := by
  have h : L2.kitB "list" "tuple" = some false := by decide +kernel
  simp only [opD, dIsi, tyD, h]
@[simp] theorem isi_tuple_di : opD (.isi "tuple") [.dct kv] = bl false := by
  have h : L2.kitB "dict" "tuple" = some false := by decide +kernel
  simp only [opD, dIsi, tyD, h]
@[simp] theorem isi_list_nn : opD (.isi "list") [.non] = bl false := by
  have h : L2.kitB "NoneType" "list" = some false := by decide +kernel
  simp only [opD, dIsi, tyD, h]
@[simp] theorem isi_list_bl : opD (.isi "list") [.bl p] = bl false := by
  have h : L2.kitB "bool" "list" = some false := by decide +kernel
  simp only [opD, dIsi, tyD, h]
@[simp] theorem isi_list_in : opD (.isi "list") [.int a] = bl false := by
  have h : L2.kitB "int" "list" = some false := by decide +kernel
  simp only [opD, dIsi, tyD, h]
@[simp] theorem isi_list_st : opD (.isi "list") [.str cs] = bl false := by
  have h : L2.kitB "str" "list" = some false := by decide +kernel
  simp only [opD, dIsi, tyD, h]
@[simp] theorem isi_list_tu : opD (.isi "list") [.tup xs] = bl false := by
  have h : L2.kitB "tuple" "list" = some false := by decide +kernel
  simp only [opD, dIsi, tyD, h]
@[simp] theorem isi_list_ls : opD (.isi "list") [.lst xs] = bl true := by
  have h : L2.kitB "list" "list" = some true := by decide +kernel
  simp only [opD, dIsi, tyD, h]
@[simp] theorem isi_list_di : opD (.isi "list") [.dct kv] = bl false := by
  have h : L2.kitB "dict" "list" = some false := by decide +kernel
  simp only [opD, dIsi, tyD, h]
@[simp] theorem isi_dict_nn : opD (.isi "dict") [.non] = bl false := by
  have h : L2.kitB "NoneType" "dict" = some false := by decide +kernel
  simp only [opD, dIsi, tyD, h]
@[simp] theorem isi_dict_bl : opD (.isi "dict") [.bl p] = bl false := by
  have h : L2.kitB "bool" "dict" = some false := by decide +kernel
  simp only [opD, dIsi, tyD, h]
@[simp] theorem isi_dict_in : opD (.isi "dict") [.int a] = bl false := by
  have h : L2.kitB "int" "dict" = some false := by decide +kernel
  simp only [opD, dIsi, tyD, h]
@[simp] theorem isi_dict_st : opD (.isi "dict") [.str cs] = bl false := by
  have h : L2.kitB "str" "dict" = some false := by decide +kernel
  simp only [opD, dIsi, tyD, h]
@[simp] theorem isi_dict_tu : opD (.isi "dict") [.tup xs] = bl false := by
  have h : L2.kitB "tuple" "dict" = some false := by decide +kernel
  simp only [opD, dIsi, tyD, h]
@[simp] theorem isi_dict_ls : opD (.isi "dict") [.lst xs] = bl false := by
  have h : L2.kitB "list" "dict" = some false := by decide +kernel
  simp only [opD, dIsi, tyD, h]
@[simp] theorem isi_dict_di : opD (.isi "dict") [.dct kv] = bl true := by
  have h : L2.kitB "dict" "dict" = some true := by decide +kernel
  simp only [opD, dIsi, tyD, h]
end
/-- what a draw from literals is asked: a logarithm -/
theorem log2_mod {x m : Int} {k : Nat} (hm : 0 < m) (h : m ≤ (2 : Int) ^ k) (hk : 0 < k) : (x % m).natAbs.log2 < k :=
  log2_int (Int.emod_nonneg _ (by omega)) (Int.lt_of_lt_of_le (Int.emod_lt_of_pos _ hm) h) hk
theorem lg2 {a b : Nat} (ha : a < 62) (hb : b < 62) : a + b < 1000000 := by omega
theorem lgB {a b : Nat} (ha : a < 2 ^ 1000) (hb : b < 2 ^ 1000) : a.log2 + b.log2 < 1000000 := by
  have h1 := log2_le ha (by decide)
  have h2 := log2_le hb (by decide)
  omega
def hd : Ss → S
  | .cons a _ => a
  | .nil => .pass
def tl : Ss → Ss
  | .cons _ r => r
  | .nil => .nil
@[simp] theorem o_dict0 : opD .dict [] = some (.val (.dct [])) := by simp [opD, dDict, pairUp]
@[simp] theorem o_dict1 {cs : List Nat} {v : D} : opD .dict [.str cs, v] = some (.val (.dct [(.str cs, v)])) := by simp [opD, dDict, pairUp, keyD, sOf]
theorem mem_rng0 {n : Int} {d : D} (h : d ∈ rng 0 n) : ∃ i : Nat, d = .int i ∧ (i : Int) < n := by
  unfold rng at h
  obtain ⟨i, hi, rfl⟩ := List.mem_map.mp h
  rw [List.mem_range] at hi
  exact ⟨i, by simp, by omega⟩
theorem inW_small {i : Int} (h0 : 0 ≤ i) (h1 : i ≤ 1000000) : inW i = true := by unfold inW; exact decide_eq_true (by omega)
theorem lgl {n : Nat} (h : n < 2 ^ 62) : n.log2 < 62 := log2_le h (by decide)
theorem lgb {c : Prop} [Decidable c] : (if c then (1 : Int) else 0).natAbs.log2 < 62 := by split <;> decide
theorem stk_mk {x c y m : Int} (hm : 0 < m) (h : m ≤ 2305843009213693951) : Stk 0 [.int (if c < x then x - c else 0), .int (y % m), .int 0] :=
  ⟨_, _, _, rfl, by split <;> omega, Int.emod_nonneg _ (by omega), Int.lt_of_lt_of_le (Int.emod_lt_of_pos _ hm) h, Int.le_refl _, Int.le_refl _⟩
theorem len_cutTo {α : Type} (xs : List α) (a : Int) : (cutL xs none (some a)).length ≤ xs.length := by unfold cutL; simp; omega
theorem len_cutFrom {α : Type} (xs : List α) (a : Int) : (cutL xs (some a) none).length ≤ xs.length := by unfold cutL; simp; omega
theorem mem_cut {α : Type} {xs : List α} {i j : Option Int} {x : α} (h : x ∈ cutL xs i j) : x ∈ xs := List.mem_of_mem_drop (List.mem_of_mem_take h)
theorem wo_callF_mono {fns : List Fn} {k f : Nat} {io : Option (List D)} {ds : List D} {P Q : R × Option (List D) → Prop} (h : wo (callF fns k f io ds) P) (q : ∀ p, P p → Q p) : wo (callF fns k f io ds) Q := wo_mono h q
end DI

namespace DI
open PySem
/-! ### defs that many laws share: the stock, the draws, words -/
section
variable {fns : List Fn} {k f dr : Nat}
def bdStock : Ss := (.cons (.set 2 (.ife (.val (.op .lt (.cons (.var 1) (.cons (.len1 0) .nil)))) (.item1 0 (.var 1)) (.op .add (.cons (.op .mul (.cons (.con (.int 43)) (.cons (.var 1) .nil))) (.cons (.con (.int 17)) .nil))))) (.cons (.set 3 (.op .mod (.cons (.op .int (.cons (.op .abs (.cons (.var 2) .nil)) .nil)) (.cons (.op .pow (.cons (.op .pow (.cons (.con (.int 10)) (.cons (.con (.int 60)) .nil))) (.cons (.con (.int 11)) .nil))) .nil)))) (.cons (.set 4 (.op .add (.cons (.op .add (.cons (.op .add (.cons (.op .mul (.cons (.op .mod (.cons (.op .int (.cons (.var 3) .nil)) (.cons (.con (.int 2147483423)) .nil))) (.cons (.con (.int 78713)) .nil))) (.cons (.op .mul (.cons (.con (.int 6007)) (.cons (.var 1) .nil))) .nil))) (.cons (.op .mul (.cons (.con (.int 29)) (.cons (.op .int (.cons (.op .lt (.cons (.var 2) (.cons (.con (.int 0)) .nil))) .nil)) .nil))) .nil))) (.cons (.con (.int 53)) .nil)))) (.cons (.ret (.op .list (.cons (.op .max (.cons (.con (.int 0)) (.cons (.op .sub (.cons (.var 3) (.cons (.op .pow (.cons (.con (.int 10)) (.cons (.con (.int 18)) .nil))) .nil))) .nil))) (.cons (.op .mod (.cons (.op .int (.cons (.var 4) .nil)) (.cons (.con (.int 2305843009213693907)) .nil))) (.cons (.con (.int 0)) .nil))))) .nil))))
def bdDraw : Ss := (.cons (.ifs (.val (.op .gt (.cons (.item1 0 (.con (.int 0))) (.cons (.con (.int 0)) .nil)))) (.cons (.set 2 (.op .mod (.cons (.op .int (.cons (.item1 0 (.con (.int 0))) .nil)) (.cons (.var 1) .nil)))) (.cons (.put1 0 (.con (.int 0)) (.op .fdiv (.cons (.item1 0 (.con (.int 0))) (.cons (.var 1) .nil)))) (.cons (.ret (.var 2)) .nil))) .nil) (.cons (.put1 0 (.con (.int 2)) (.op .add (.cons (.item1 0 (.con (.int 2))) (.cons (.con (.int 1)) .nil)))) (.cons (.set 3 (.op .mod (.cons (.op .int (.cons (.op .add (.cons (.item1 0 (.con (.int 1))) (.cons (.op .mul (.cons (.con (.int 1000357)) (.cons (.item1 0 (.con (.int 2))) .nil))) .nil))) .nil)) (.cons (.con (.int 2305843009213693951)) .nil)))) (.cons (.set 4 (.op .add (.cons (.op .mul (.cons (.op .mod (.cons (.op .int (.cons (.op .mul (.cons (.var 3) (.cons (.var 3) .nil))) .nil)) (.cons (.con (.int 2305843009213693921)) .nil))) (.cons (.var 3) .nil))) (.cons (.op .mul (.cons (.con (.int 9029)) (.cons (.item1 0 (.con (.int 2))) .nil))) .nil)))) (.cons (.ret (.op .mod (.cons (.op .int (.cons (.op .fdiv (.cons (.op .mod (.cons (.op .int (.cons (.var 4) .nil)) (.cons (.con (.int 2305843009213693907)) .nil))) (.cons (.con (.int 16384)) .nil))) .nil)) (.cons (.var 1) .nil)))) .nil)))))
def bdPick (dr : Nat) : Ss := (.cons (.ret (.item1 1 (.callio dr 0 (.cons (.len1 1) .nil)))) .nil)
def bdShuf (dr : Nat) : Ss := (.cons (.set 2 (.op .listof (.cons (.var 1) .nil))) (.cons (.ret (.lc 3 (.rng1 (.len1 1)) .yes (.pop1 2 (.callio dr 0 (.cons (.len1 2) .nil))))) .nil))
def bdLetter (dr : Nat) : Ss := (.cons (.ret (.op .item (.cons (.con (.str [97, 98, 99, 100, 101, 102, 103, 104, 105, 106, 107, 108, 109, 110, 111, 112, 113, 114, 115, 116, 117, 118, 119, 120, 121, 122])) (.cons (.callio dr 0 (.cons (.con (.int 26)) .nil)) .nil)))) .nil)
def bdWord : Ss := (.cons (.ifs (.or (.not (.val (.op (.isi "str") (.cons (.var 0) .nil)))) (.not (.val (.chain .le .le (.con (.int 1)) (.len1 0) (.con (.int 8)))))) (.cons (.ret (.con (.bl false))) .nil) .nil) (.cons (.ret (.op .all (.cons (.lc 1 (.seq (.var 0)) .yes (.chain .le .le (.con (.str [97])) (.var 1) (.con (.str [122])))) .nil))) .nil))
def fnStock : Fn := ⟨false, 2, 5, bdStock⟩
def fnDraw : Fn := ⟨true, 2, 5, bdDraw⟩
def fnPick (dr : Nat) : Fn := ⟨true, 2, 2, bdPick dr⟩
def fnShuf (dr : Nat) : Fn := ⟨true, 2, 4, bdShuf dr⟩
def fnLetter (dr : Nat) : Fn := ⟨true, 1, 1, bdLetter dr⟩
def fnWord : Fn := ⟨false, 1, 2, bdWord⟩
theorem draw_of (hf : fns[f]? = some fnDraw) : DrawOk (callF fns (k + 1)) f := by
  rintro n xs t ⟨a, b, c, rfl, ha, hb, hb2, hc, hc2⟩ hn ht ht2
  refine w_fn hf ⟨rfl, rfl, by decide⟩ ?_
  simp [fnDraw, bdDraw, start0]
  split
  · refine ⟨ht, ⟨ht, ht2⟩, _, _, ⟨rfl, rfl⟩, Int.emod_nonneg _ (by omega), Int.emod_lt_of_pos _ ht, _, _, _, rfl, Int.ediv_nonneg ha (by omega), hb, hb2, hc, by omega⟩
  · have l1 : (c + 1).natAbs.log2 < 62 := log2_int (by omega) (by omega) (by decide)
    have l2 : ∀ x : Int, (x % 2305843009213693951).natAbs.log2 < 62 := fun x => log2_mod (by decide) (by decide) (by decide)
    have l3 : ∀ x : Int, (x % 2305843009213693921).natAbs.log2 < 62 := fun x => log2_mod (by decide) (by decide) (by decide)
    have l4 : Nat.log2 1000357 < 62 := log2_le (by decide) (by decide)
    have l5 : Nat.log2 9029 < 62 := log2_le (by decide) (by decide)
    refine ⟨by omega, ?_, ?_, by omega, ht, _, _, ⟨rfl, rfl⟩, Int.emod_nonneg _ (by omega), Int.emod_lt_of_pos _ ht, _, _, _, rfl, ha, hb, hb2, by omega, by omega⟩
    · have := l2 (b + 1000357 * (c + 1)); omega
    · have := l2 (b + 1000357 * (c + 1))
      have := l3 ((b + 1000357 * (c + 1)) % 2305843009213693951 * ((b + 1000357 * (c + 1)) % 2305843009213693951))
      omega
theorem stock_of (hf : fns[f]? = some fnStock) (ns : List Int) (i : Nat) (hi : i ≤ 1000) : wo (callF fns (k + 1) f none [.scr (ns.map .int), .int i]) fun p => ∃ xs, p = (.new xs, none) ∧ Stk 0 xs := by
  refine w_fn hf ⟨rfl, rfl, by decide⟩ ?_
  have li : i.log2 < 62 := lgl (by omega)
  have lm : ∀ x : Int, (x % 2147483423).natAbs.log2 < 62 := fun x => log2_mod (by decide) (by decide) (by decide)
  by_cases h : i < ns.length
  · have e : L2.atI (ns.map D.int) (i : Int) = some (.int ns[i]) := by rw [atI_in (by omega) (by simpa using h)]; simp [h]
    simp [fnStock, bdStock, start0, h, e]
    exact ⟨lg2 (lm _) (lgl (by decide)), lg2 (lgl (by decide)) li, lg2 (lgl (by decide)) lgb, stk_mk (by decide) (by decide)⟩
  · simp [fnStock, bdStock, start0, h]
    exact ⟨lg2 (lgl (by decide)) li, lg2 (lm _) (lgl (by decide)), lg2 (lgl (by decide)) li, lg2 (lgl (by decide)) lgb, stk_mk (by decide) (by decide)⟩
theorem pick_of (hf : fns[f]? = some (fnPick dr)) (hd : DrawOk (callF fns k) dr) (n : Nat) (xs ys : List D) (h : Stk n xs) (hn : n ≤ 1000000) (h0 : ys ≠ []) (hl : ys.length < 1073741824) : wo (callF fns (k + 1) f (some xs) [.lst ys]) fun p => ∃ y zs, p = (.val y, some zs) ∧ y ∈ ys ∧ Stk (n + 1) zs := by
  refine w_fn hf ⟨rfl, rfl, Nat.le_of_ble_eq_true rfl⟩ ?_
  simp [fnPick, bdPick, start0]
  have hp : 0 < ys.length := List.length_pos_iff.mpr h0
  refine wo_mono (hd n xs ys.length h hn (by omega) (by omega)) ?_
  rintro p ⟨r, zs, rfl, h1, h2, h3⟩
  simp
  exact wo_atI h1 (by omega) fun x hx => ⟨x, zs, ⟨rfl, rfl⟩, hx, h3⟩
def low (d : D) : Prop := ∃ c : Nat, d = .str [c] ∧ 97 ≤ c ∧ c ≤ 122
theorem letter_of (hf : fns[f]? = some (fnLetter dr)) (hd : DrawOk (callF fns k) dr) (n : Nat) (xs : List D) (h : Stk n xs) (hn : n ≤ 1000000) : wo (callF fns (k + 1) f (some xs) []) fun p => ∃ y zs, p = (.val y, some zs) ∧ low y ∧ Stk (n + 1) zs := by
  refine w_fn hf ⟨rfl, rfl, Nat.le_of_ble_eq_true rfl⟩ ?_
  simp [fnLetter, bdLetter, start0]
  refine wo_mono (hd n xs 26 h hn (by omega) (by omega)) ?_
  rintro p ⟨r, zs, rfl, h1, h2, h3⟩
  simp
  refine wo_atI h1 (by simpa using h2) fun x hx => ⟨_, zs, ⟨rfl, rfl⟩, ⟨x, rfl, ?_⟩, h3⟩
  simp at hx
  omega
/-- values that are told -/
def okV : D → Prop
  | .str cs => cs.length ≤ 1000 ∧ ∀ c ∈ cs, c < 1000
  | .scr _ => False
  | .fn _ => False
  | _ => True
def lower (c : Nat) : Bool := decide (97 ≤ c ∧ c ≤ 122)
theorem in_low (c : Nat) : decide (c ∈ [97, 98, 99, 100, 101, 102, 103, 104, 105, 106, 107, 108, 109, 110, 111, 112, 113, 114, 115, 116, 117, 118, 119, 120, 121, 122]) = lower c := decide_eq_decide.mpr (by simp; omega)
def gOdd : D → Option D
  | .str [c] => if lower c = true then none else some (.str [c])
  | _ => none
def gLow : D → Option D
  | .str [c] => some (.bl (lower c))
  | _ => none
theorem odd_map : ∀ cs : List Nat, (cs.map fun c => D.str [c]).filterMap gOdd = (cs.filter fun c => !lower c).map fun c => D.str [c]
  | [] => rfl
  | c :: r => by
    have h := odd_map r
    simp only [List.map_cons, List.filterMap_cons, gOdd, List.filter_cons]
    cases lower c <;> simp [h]
theorem low_map : ∀ cs : List Nat, (cs.map fun c => D.str [c]).filterMap gLow = cs.map fun c => D.bl (lower c)
  | [] => rfl
  | c :: r => by
    have h := low_map r
    simp [gLow, h]
theorem chain_low (c : Nat) : ([c] < [97]) = (c < 97) := by simp [List.cons_lt_cons_iff]
theorem chain_hi (c : Nat) : ([122] < [c]) = (122 < c) := by simp [List.cons_lt_cons_iff]
/-- what is_word tells -/
def wordD : D → Bool
  | .str cs => decide (1 ≤ cs.length ∧ cs.length ≤ 8) && cs.all lower
  | _ => false
theorem word_of (hf : fns[f]? = some fnWord) (d : D) (h : okV d) : callF fns (k + 1) f none [d] = some (.val (.bl (wordD d)), none) := by
  have key : wo (callF fns (k + 1) f none [d]) fun p => p = (.val (.bl (wordD d)), none) := by
    cases d with
    | scr _ => exact False.elim h
    | fn _ => exact False.elim h
    | str cs =>
      obtain ⟨h1, h2⟩ := h
      obtain ⟨b, hb⟩ : ∃ b : Bool, b = wordD (.str cs) := ⟨_, rfl⟩
      rw [← hb]
      have no : ¬ (1 ≤ cs.length ∧ cs.length ≤ 8) → b = false := fun h => by rw [hb, wordD, decide_eq_false h]; rfl
      have yes : (1 ≤ cs.length ∧ cs.length ≤ 8) → b = cs.all lower := fun h => by rw [hb, wordD, decide_eq_true h]; rfl
      clear hb
      refine w_fn hf ⟨rfl, rfl, by decide⟩ ?_
      simp [fnWord, bdWord, start0, show cs.length ≤ 1000000 by omega]
      by_cases e : (cs.length : Int) < 1
      · exact .inl ⟨e, no (by omega)⟩
      · refine .inr ⟨by omega, ?_⟩
        split
        · refine w_lcp gLow rfl (by simp; omega) ?_ fun z => ?_
          · intro d hd
            obtain ⟨c, hc, rfl⟩ := List.mem_map.mp hd
            simp [gLow, chain_low, chain_hi, lower]
            by_cases h : c < 97
            · exact .inl ⟨h, by omega⟩
            · refine .inr ⟨by omega, ?_⟩
              by_cases g : 122 < c
              · simp [g, show 97 ≤ c by omega]
              · simp [g, show 97 ≤ c by omega]
                omega
          · rw [low_map, o_all]
            simp
            exact (yes (by omega)).symm
        · exact no (by omega)
    | _ => exact w_fn hf ⟨rfl, rfl, by decide⟩ (by simp [fnWord, bdWord, start0, wordD])
  obtain ⟨p, e1, rfl⟩ := key
  exact e1
/-- a shuffled list has the same items -/
theorem shuf_of (hf : fns[f]? = some (fnShuf dr)) (hd : DrawOk (callF fns k) dr) (n : Nat) (xs ys : List D) (src : D) (h : Stk n xs) (hn : n ≤ 100000) (hl : ys.length ≤ 10000) (hs : opD .len [src] = num ys.length) (hs2 : opD .listof [src] = some (.new ys)) :
    wo (callF fns (k + 1) f (some xs) [src]) fun p => ∃ zs st, p = (.new zs, some st) ∧ zs.length = ys.length ∧ (∀ z ∈ zs, z ∈ ys) ∧ Stk (n + ys.length) st := by
  refine w_fn hf ⟨rfl, rfl, Nat.le_of_ble_eq_true rfl⟩ ?_
  simp [fnShuf, bdShuf, start0, hs, hs2]
  refine ⟨inW_small (by omega) (by omega), ?_⟩
  refine lc_invF (fun ds acc e => ∃ st left z, e = [Sl.io st, .val src, .own left, z] ∧ Stk (n + acc.length) st ∧ acc.length + ds.length = ys.length ∧ left.length = ds.length ∧ (∀ x ∈ acc, x ∈ ys) ∧ ∀ x ∈ left, x ∈ ys) ?_ _ _
    ⟨xs, ys, .un, rfl, by simpa using h, by simp [rng], by simp [rng], by simp, fun x hx => hx⟩ _ ?_
  · rintro d ds acc env ⟨st, left, z, rfl, h1, h2, h3, h4, h5⟩
    simp only [List.length_cons] at h2 h3
    simp
    refine wo_mono (hd _ st left.length h1 (by omega) (by omega) (by omega)) ?_
    rintro p ⟨r, st', rfl, r1, r2, hs'⟩
    simp
    have hr : r.toNat < left.length := by omega
    refine ⟨⟨r1, r2, by omega⟩, left[r.toNat], List.getElem?_eq_getElem hr, by omega, st', _, ⟨rfl, rfl⟩, hs', by omega, by rw [List.length_eraseIdx_of_lt hr]; omega, ?_, ?_⟩
    · rintro x (hx | rfl)
      · exact h4 x hx
      · exact h5 _ (List.getElem_mem hr)
    · intro x hx
      exact h5 x (List.mem_of_mem_eraseIdx hx)
  · rintro acc e ⟨st, left, z, rfl, h1, h2, h3, h4, h5⟩
    simp only [List.length_nil, Nat.add_zero] at h2
    simp
    exact ⟨acc, st, ⟨rfl, rfl⟩, h2, h4, by rw [← h2]; exact h1⟩
end
@[simp] theorem o_rev {cs : List Nat} : opD .rev [.str cs] = if cs.length ≤ big then some (.val (.str cs.reverse)) else none := rfl
@[simp] theorem o_revl {xs : List D} : opD .rev [.lst xs] = some (.new xs.reverse) := rfl
@[simp] theorem o_upper {cs : List Nat} : opD .upper [.str cs] = if cs.length ≤ big then some (.val (.str (Txt.upper (sOf cs)).cps.toList)) else none := rfl
@[simp] theorem o_isb {p q : Bool} : opD .isb [.bl p, .bl q] = bl (decide (p = q)) := rfl
theorem mem_rng {a b : Int} {d : D} (h : d ∈ rng a b) : ∃ j : Int, d = .int j ∧ a ≤ j ∧ j < b := by
  unfold rng at h
  obtain ⟨i, hi, rfl⟩ := List.mem_map.mp h
  rw [List.mem_range] at hi
  exact ⟨_, rfl, by omega, by omega⟩
end DI

namespace K02
open PySem L2 DI
def top (i : Nat) : Stmt := PySem.Challenge.pw_fallsback_k02_whole_parts_of_words.main.body.getD i (.Pass ⟨0, 0, 0, 0⟩)
abbrev st0 : Stmt := top 2
def bd0 : Ss := (.cons (.ifs (.or (.not (.val (.op (.isi "str") (.cons (.var 0) .nil)))) (.not (.val (.chain .le .le (.con (.int 1)) (.len1 0) (.con (.int 8)))))) (.cons (.ret (.con (.bl false))) .nil) .nil) (.cons (.ret (.op .all (.cons (.lc 1 (.seq (.var 0)) .yes (.chain .le .le (.con (.str [97])) (.var 1) (.con (.str [122])))) .nil))) .nil))
def fi0 : FI := ⟨"is_word", st0, ["value"], ["value", "letter"], ⟨false, 1, 2, bd0⟩⟩
abbrev st1 : Stmt := top 4
def bd1 : Ss := (.cons (.set 2 (.ife (.val (.op .lt (.cons (.var 1) (.cons (.len1 0) .nil)))) (.item1 0 (.var 1)) (.op .add (.cons (.op .mul (.cons (.con (.int 43)) (.cons (.var 1) .nil))) (.cons (.con (.int 17)) .nil))))) (.cons (.set 3 (.op .mod (.cons (.op .int (.cons (.op .abs (.cons (.var 2) .nil)) .nil)) (.cons (.op .pow (.cons (.op .pow (.cons (.con (.int 10)) (.cons (.con (.int 60)) .nil))) (.cons (.con (.int 11)) .nil))) .nil)))) (.cons (.set 4 (.op .add (.cons (.op .add (.cons (.op .add (.cons (.op .mul (.cons (.op .mod (.cons (.op .int (.cons (.var 3) .nil)) (.cons (.con (.int 2147483423)) .nil))) (.cons (.con (.int 78713)) .nil))) (.cons (.op .mul (.cons (.con (.int 6007)) (.cons (.var 1) .nil))) .nil))) (.cons (.op .mul (.cons (.con (.int 29)) (.cons (.op .int (.cons (.op .lt (.cons (.var 2) (.cons (.con (.int 0)) .nil))) .nil)) .nil))) .nil))) (.cons (.con (.int 53)) .nil)))) (.cons (.ret (.op .list (.cons (.op .max (.cons (.con (.int 0)) (.cons (.op .sub (.cons (.var 3) (.cons (.op .pow (.cons (.con (.int 10)) (.cons (.con (.int 18)) .nil))) .nil))) .nil))) (.cons (.op .mod (.cons (.op .int (.cons (.var 4) .nil)) (.cons (.con (.int 2305843009213693907)) .nil))) (.cons (.con (.int 0)) .nil))))) .nil))))
def fi1 : FI := ⟨"_law_stock", st1, ["_law_script", "_law_at"], ["_law_script", "_law_at", "_law_cell", "_law_great", "_law_mixed"], ⟨false, 2, 5, bd1⟩⟩
abbrev st2 : Stmt := top 5
def bd2 : Ss := (.cons (.ifs (.val (.op .gt (.cons (.item1 0 (.con (.int 0))) (.cons (.con (.int 0)) .nil)))) (.cons (.set 2 (.op .mod (.cons (.op .int (.cons (.item1 0 (.con (.int 0))) .nil)) (.cons (.var 1) .nil)))) (.cons (.put1 0 (.con (.int 0)) (.op .fdiv (.cons (.item1 0 (.con (.int 0))) (.cons (.var 1) .nil)))) (.cons (.ret (.var 2)) .nil))) .nil) (.cons (.put1 0 (.con (.int 2)) (.op .add (.cons (.item1 0 (.con (.int 2))) (.cons (.con (.int 1)) .nil)))) (.cons (.set 3 (.op .mod (.cons (.op .int (.cons (.op .add (.cons (.item1 0 (.con (.int 1))) (.cons (.op .mul (.cons (.con (.int 1000357)) (.cons (.item1 0 (.con (.int 2))) .nil))) .nil))) .nil)) (.cons (.con (.int 2305843009213693951)) .nil)))) (.cons (.set 4 (.op .add (.cons (.op .mul (.cons (.op .mod (.cons (.op .int (.cons (.op .mul (.cons (.var 3) (.cons (.var 3) .nil))) .nil)) (.cons (.con (.int 2305843009213693921)) .nil))) (.cons (.var 3) .nil))) (.cons (.op .mul (.cons (.con (.int 9029)) (.cons (.item1 0 (.con (.int 2))) .nil))) .nil)))) (.cons (.ret (.op .mod (.cons (.op .int (.cons (.op .fdiv (.cons (.op .mod (.cons (.op .int (.cons (.var 4) .nil)) (.cons (.con (.int 2305843009213693907)) .nil))) (.cons (.con (.int 16384)) .nil))) .nil)) (.cons (.var 1) .nil)))) .nil)))))
def fi2 : FI := ⟨"_law_draw", st2, ["_law_stock_here", "_law_total"], ["_law_stock_here", "_law_total", "_law_found", "_law_one", "_law_two"], ⟨true, 2, 5, bd2⟩⟩
abbrev st3 : Stmt := top 6
def bd3 : Ss := (.cons (.ret (.item1 1 (.callio 2 0 (.cons (.len1 1) .nil)))) .nil)
def fi3 : FI := ⟨"_law_pick", st3, ["_law_stock_here", "_law_items"], ["_law_stock_here", "_law_items"], ⟨true, 2, 2, bd3⟩⟩
abbrev st4 : Stmt := top 7
def bd4 : Ss := (.cons (.set 2 (.op .listof (.cons (.var 1) .nil))) (.cons (.ret (.lc 3 (.rng1 (.len1 1)) .yes (.pop1 2 (.callio 2 0 (.cons (.len1 2) .nil))))) .nil))
def fi4 : FI := ⟨"_law_shuffled", st4, ["_law_stock_here", "_law_items"], ["_law_stock_here", "_law_items", "_law_left", "_law_turn"], ⟨true, 2, 4, bd4⟩⟩
abbrev st5 : Stmt := top 8
def bd5 : Ss := (.cons (.ret (.op .item (.cons (.con (.str [97, 98, 99, 100, 101, 102, 103, 104, 105, 106, 107, 108, 109, 110, 111, 112, 113, 114, 115, 116, 117, 118, 119, 120, 121, 122])) (.cons (.callio 2 0 (.cons (.con (.int 26)) .nil)) .nil)))) .nil)
def fi5 : FI := ⟨"_law_letter", st5, ["_law_stock_here"], ["_law_stock_here"], ⟨true, 1, 1, bd5⟩⟩
abbrev st6 : Stmt := top 9
def bd6 : Ss := (.cons (.par [2, 3, 4] (.cons (.op .join (.cons (.con (.str [])) (.cons (.lc 7 (.rng1 (.callio 2 0 (.cons (.con (.int 8)) .nil))) .yes (.callio 5 0 .nil)) .nil))) (.cons (.callio 2 0 (.cons (.con (.int 2)) .nil)) (.cons (.op .list .nil) .nil)))) (.cons (.set 5 (.callio 2 0 (.cons (.op .add (.cons (.len1 2) (.cons (.con (.int 1)) .nil))) .nil))) (.cons (.for_ 6 (.seq (.op (.cut false true) (.cons (.callio 4 0 (.cons (.con (.str [97, 98, 99, 100, 101, 102, 103, 104, 105, 106, 107, 108, 109, 110, 111, 112, 113, 114, 115, 116, 117, 118, 119, 120, 121, 122])) .nil)) (.cons (.var 1) .nil)))) (.cons (.ifs (.val (.op .eq (.cons (.var 3) (.cons (.con (.int 0)) .nil)))) (.cons (.app1 4 (.op .add (.cons (.op .add (.cons (.op (.cut false true) (.cons (.var 2) (.cons (.var 5) .nil))) (.cons (.var 6) .nil))) (.cons (.op (.cut true false) (.cons (.var 2) (.cons (.var 5) .nil))) .nil)))) .nil) (.cons (.app1 4 (.op .add (.cons (.var 6) (.cons (.op (.cut false true) (.cons (.var 2) (.cons (.callio 2 0 (.cons (.op .add (.cons (.len1 2) (.cons (.con (.int 1)) .nil))) .nil)) .nil))) .nil)))) .nil)) .nil)) (.cons (.ret (.var 4)) .nil))))
def fi6 : FI := ⟨"_law_many_words", st6, ["_law_stock_here", "_law_much"], ["_law_stock_here", "_law_much", "_law_tail", "_law_way", "_law_found", "_law_place", "_law_sign", "_law_at"], ⟨true, 2, 8, bd6⟩⟩
abbrev st7 : Stmt := top 10
def bd7 : Ss := (.cons (.for_ 1 (.rng1 (.op .add (.cons (.len1 0) (.cons (.con (.int 1)) .nil)))) (.cons (.for_ 2 (.rng2 (.var 1) (.op .add (.cons (.len1 0) (.cons (.con (.int 1)) .nil)))) (.cons (.ifs (.val (.op .ne (.cons (.op .repr (.cons (.call 0 (.cons (.op (.cut true true) (.cons (.var 0) (.cons (.var 1) (.cons (.var 2) .nil)))) .nil)) .nil)) (.cons (.op .repr (.cons (.op .lt (.cons (.var 1) (.cons (.var 2) .nil))) .nil)) .nil)))) (.cons (.ret (.con (.bl false))) .nil) .nil) .nil)) .nil)) (.cons (.ret (.andb (.op .isb (.cons (.call 0 (.cons (.op .rev (.cons (.var 0) .nil)) .nil)) (.cons (.con (.bl true)) .nil))) (.op .isb (.cons (.call 0 (.cons (.op .upper (.cons (.var 0) .nil)) .nil)) (.cons (.con (.bl false)) .nil))))) .nil))
def fi7 : FI := ⟨"_law_stretches_right", st7, ["_law_word"], ["_law_word", "_law_first", "_law_last"], ⟨false, 1, 3, bd7⟩⟩
abbrev st8 : Stmt := top 11
def bd8 : Ss := (.cons (.set 2 (.con (.str [97, 98, 99, 100, 101, 102, 103, 104, 105, 106, 107, 108, 109, 110, 111, 112, 113, 114, 115, 116, 117, 118, 119, 120, 121, 122]))) (.cons (.for_ 3 (.seq (.op .add (.cons (.var 2) (.cons (.con (.str [32, 33, 34, 35, 36, 38, 39, 40, 41, 42, 43, 44, 45, 46, 47, 48, 49, 50, 51, 52, 53, 54, 55, 56, 57, 58, 59, 60, 61, 62, 63, 64, 65, 66, 67, 68, 69, 70, 71, 72, 73, 74, 75, 76, 77, 78, 79, 80, 81, 82, 83, 84, 85, 86, 87, 88, 89, 90, 91, 92, 93, 94, 95, 96, 123, 124, 125, 126, 10])) .nil)))) (.cons (.set 4 (.op .add (.cons (.op (.cut false true) (.cons (.var 0) (.cons (.var 1) .nil))) (.cons (.var 3) .nil)))) (.cons (.for_ 5 (.seq (.op .list (.cons (.op .add (.cons (.var 4) (.cons (.op (.cut true false) (.cons (.var 0) (.cons (.var 1) .nil))) .nil))) (.cons (.op .add (.cons (.var 4) (.cons (.op (.cut true false) (.cons (.var 0) (.cons (.op .add (.cons (.var 1) (.cons (.con (.int 1)) .nil))) .nil))) .nil))) .nil)))) (.cons (.ifs (.val (.op .ne (.cons (.op .repr (.cons (.call 0 (.cons (.var 5) .nil)) .nil)) (.cons (.op .repr (.cons (.andb (.op .isin (.cons (.var 3) (.cons (.var 2) .nil))) (.op .lt (.cons (.len1 5) (.cons (.con (.int 9)) .nil)))) .nil)) .nil)))) (.cons (.ret (.con (.bl false))) .nil) .nil) .nil)) .nil))) (.cons (.ret (.con (.bl true))) .nil)))
def fi8 : FI := ⟨"_law_signs_right", st8, ["_law_word", "_law_place"], ["_law_word", "_law_place", "_law_letters", "_law_sign", "_law_head", "_law_text"], ⟨false, 2, 6, bd8⟩⟩
abbrev st9 : Stmt := top 12
def bd9 : Ss := (.cons (.set 1 (.callio 6 0 (.cons (.con (.int 2)) .nil))) (.cons (.par [2, 3] (.cons (.item1 1 (.con (.int 0))) (.cons (.callio 3 0 (.cons (.var 1) .nil)) .nil))) (.cons (.for_ 4 (.seq (.op .list (.cons (.op .add (.cons (.var 2) (.cons (.var 3) .nil))) (.cons (.op .add (.cons (.var 2) (.cons (.var 2) .nil))) (.cons (.op .add (.cons (.var 3) (.cons (.var 2) .nil))) (.cons (.op .add (.cons (.var 2) (.cons (.op (.cut false true) (.cons (.var 3) (.cons (.op .sub (.cons (.con (.int 8)) (.cons (.len1 2) .nil))) .nil))) .nil))) .nil)))))) (.cons (.ifs (.val (.op .ne (.cons (.op .repr (.cons (.call 0 (.cons (.var 4) .nil)) .nil)) (.cons (.op .repr (.cons (.op .le (.cons (.len1 4) (.cons (.con (.int 8)) .nil))) .nil)) .nil)))) (.cons (.ret (.con (.bl false))) .nil) .nil) .nil)) (.cons (.for_ 4 (.seq (.var 1)) (.cons (.ifs (.or (.not (.val (.call 7 (.cons (.var 4) .nil)))) (.not (.val (.call 8 (.cons (.var 4) (.cons (.callio 2 0 (.cons (.op .add (.cons (.len1 4) (.cons (.con (.int 1)) .nil))) .nil)) .nil)))))) (.cons (.ret (.con (.bl false))) .nil) .nil) .nil)) (.cons (.ret (.con (.bl true))) .nil)))))
def fi9 : FI := ⟨"_law_cell_right", st9, ["_law_stock_here"], ["_law_stock_here", "_law_pair", "_law_one", "_law_other", "_law_word"], ⟨true, 1, 5, bd9⟩⟩
abbrev st10 : Stmt := top 13
def bd10 : Ss := (.cons (.for_ 1 (.rng1 (.op .max (.cons (.con (.int 1)) (.cons (.op .min (.cons (.con (.int 6)) (.cons (.len1 0) .nil))) .nil)))) (.cons (.ifs (.not (.val (.callfr 9 (.call 1 (.cons (.var 0) (.cons (.var 1) .nil))) .nil))) (.cons (.ret (.con (.bl false))) .nil) .nil) .nil)) (.cons (.ret (.con (.bl true))) .nil))
def fi10 : FI := ⟨"law", st10, ["_law_script"], ["_law_script", "_law_at"], ⟨false, 1, 2, bd10⟩⟩
def fis : List FI := [fi0, fi1, fi2, fi3, fi4, fi5, fi6, fi7, fi8, fi9, fi10]
def gc : List (Str × D) := [("MAX_LETTERS", (.int 8))]
def gb : List Str := ["all", "len", "isinstance", "str", "int", "max", "abs", "range", "list", "repr", "min"]
section
variable {fa : Nat → Addr} {fd : Nat → FuncData}
theorem cp0 : (cSs fa fd fis gc gb 80 ⟨fi0.N, defScope st0⟩ (defBody st0)).map (·.1) = some bd0 := by kernel_rfl
theorem cp1 : (cSs fa fd fis gc gb 80 ⟨fi1.N, defScope st1⟩ (defBody st1)).map (·.1) = some bd1 := by kernel_rfl
theorem cp2 : (cSs fa fd fis gc gb 80 ⟨fi2.N, defScope st2⟩ (defBody st2)).map (·.1) = some bd2 := by kernel_rfl
theorem cp3 : (cSs fa fd fis gc gb 80 ⟨fi3.N, defScope st3⟩ (defBody st3)).map (·.1) = some bd3 := by kernel_rfl
theorem cp4 : (cSs fa fd fis gc gb 80 ⟨fi4.N, defScope st4⟩ (defBody st4)).map (·.1) = some bd4 := by kernel_rfl
theorem cp5 : (cSs fa fd fis gc gb 80 ⟨fi5.N, defScope st5⟩ (defBody st5)).map (·.1) = some bd5 := by kernel_rfl
theorem cp6 : (cSs fa fd fis gc gb 80 ⟨fi6.N, defScope st6⟩ (defBody st6)).map (·.1) = some bd6 := by kernel_rfl
theorem cp7 : (cSs fa fd fis gc gb 80 ⟨fi7.N, defScope st7⟩ (defBody st7)).map (·.1) = some bd7 := by kernel_rfl
theorem cp8 : (cSs fa fd fis gc gb 80 ⟨fi8.N, defScope st8⟩ (defBody st8)).map (·.1) = some bd8 := by kernel_rfl
theorem cp9 : (cSs fa fd fis gc gb 80 ⟨fi9.N, defScope st9⟩ (defBody st9)).map (·.1) = some bd9 := by kernel_rfl
theorem cp10 : (cSs fa fd fis gc gb 80 ⟨fi10.N, defScope st10⟩ (defBody st10)).map (·.1) = some bd10 := by kernel_rfl
theorem bodied : Bodied fa fd fis gc gb := ⟨fun f fi h => by
  match f, h with
  | 0, h => cases h; exact snd_of cp0
  | 1, h => cases h; exact snd_of cp1
  | 2, h => cases h; exact snd_of cp2
  | 3, h => cases h; exact snd_of cp3
  | 4, h => cases h; exact snd_of cp4
  | 5, h => cases h; exact snd_of cp5
  | 6, h => cases h; exact snd_of cp6
  | 7, h => cases h; exact snd_of cp7
  | 8, h => cases h; exact snd_of cp8
  | 9, h => cases h; exact snd_of cp9
  | 10, h => cases h; exact snd_of cp10
  | f + 11, h => exact absurd h (by simp [fis])⟩
end
theorem sc0 : FnScope fi0.N fi0.ps (defScope st0) := ⟨rfl, rfl, rfl, by decide +kernel, rfl, by decide +kernel, by decide +kernel⟩
theorem sc1 : FnScope fi1.N fi1.ps (defScope st1) := ⟨rfl, rfl, rfl, by decide +kernel, rfl, by decide +kernel, by decide +kernel⟩
theorem sc2 : FnScope fi2.N fi2.ps (defScope st2) := ⟨rfl, rfl, rfl, by decide +kernel, rfl, by decide +kernel, by decide +kernel⟩
theorem sc3 : FnScope fi3.N fi3.ps (defScope st3) := ⟨rfl, rfl, rfl, by decide +kernel, rfl, by decide +kernel, by decide +kernel⟩
theorem sc4 : FnScope fi4.N fi4.ps (defScope st4) := ⟨rfl, rfl, rfl, by decide +kernel, rfl, by decide +kernel, by decide +kernel⟩
theorem sc5 : FnScope fi5.N fi5.ps (defScope st5) := ⟨rfl, rfl, rfl, by decide +kernel, rfl, by decide +kernel, by decide +kernel⟩
theorem sc6 : FnScope fi6.N fi6.ps (defScope st6) := ⟨rfl, rfl, rfl, by decide +kernel, rfl, by decide +kernel, by decide +kernel⟩
theorem sc7 : FnScope fi7.N fi7.ps (defScope st7) := ⟨rfl, rfl, rfl, by decide +kernel, rfl, by decide +kernel, by decide +kernel⟩
theorem sc8 : FnScope fi8.N fi8.ps (defScope st8) := ⟨rfl, rfl, rfl, by decide +kernel, rfl, by decide +kernel, by decide +kernel⟩
theorem sc9 : FnScope fi9.N fi9.ps (defScope st9) := ⟨rfl, rfl, rfl, by decide +kernel, rfl, by decide +kernel, by decide +kernel⟩
theorem sc10 : FnScope fi10.N fi10.ps (defScope st10) := ⟨rfl, rfl, rfl, by decide +kernel, rfl, by decide +kernel, by decide +kernel⟩
theorem all_mk {P : Program} {w : World} {K : PySem.W.Frag} {h : Heap} {mg : Str → Option Value} {fl : Addr} {kk : Nat} (X : K.In h) (G : h.Ns mainGlobals mg) (hfl : mg "law" = some (.ref fl))
    {f0 f1 f2 f3 f4 f5 f6 f7 f8 f9 f10 : Addr}
    {od0 an0 od1 an1 od2 an2 od3 an3 od4 an4 od5 an5 od6 an6 od7 an7 od8 an8 od9 an9 od10 an10 : Option Addr}
    {sl0 sl1 sl2 sl3 sl4 sl5 sl6 sl7 sl8 sl9 sl10 : Array (Option Value)}
    {oc0 kV0 dc0 pm0 cd0 ct0 oc1 kV1 dc1 pm1 cd1 ct1 oc2 kV2 dc2 pm2 cd2 ct2 oc3 kV3 dc3 pm3 cd3 ct3 oc4 kV4 dc4 pm4 cd4 ct4 oc5 kV5 dc5 pm5 cd5 ct5 oc6 kV6 dc6 pm6 cd6 ct6 oc7 kV7 dc7 pm7 cd7 ct7 oc8 kV8 dc8 pm8 cd8 ct8 oc9 kV9 dc9 pm9 cd9 ct9 oc10 kV10 dc10 pm10 cd10 ct10 : Value}
    {t1 : Tok}
    (a0 : PySem.W.nsIn K mainGlobals "is_word" = some (some (.ref f0)))
    (l0 : K.lookup f0 = some ⟨oc0, od0, .func (PySem.W.fnOf "is_word" "is_word" (defArgs st0) (defBody st0) (defScope st0) .none kV0 dc0 pm0 an0 cd0 ct0), sl0⟩)
    (c0 : PySem.W.codeIn K cd0 "is_word" = true)
    (k0 : PySem.W.keepIn K (.ref f0) = true)
    (a1 : PySem.W.nsIn K mainGlobals "_law_stock" = some (some (.ref f1)))
    (l1 : K.lookup f1 = some ⟨oc1, od1, .func (PySem.W.fnOf "_law_stock" "_law_stock" (defArgs st1) (defBody st1) (defScope st1) .none kV1 dc1 pm1 an1 cd1 ct1), sl1⟩)
    (c1 : PySem.W.codeIn K cd1 "_law_stock" = true)
    (k1 : PySem.W.keepIn K (.ref f1) = true)
    (a2 : PySem.W.nsIn K mainGlobals "_law_draw" = some (some (.ref f2)))
    (l2 : K.lookup f2 = some ⟨oc2, od2, .func (PySem.W.fnOf "_law_draw" "_law_draw" (defArgs st2) (defBody st2) (defScope st2) .none kV2 dc2 pm2 an2 cd2 ct2), sl2⟩)
    (c2 : PySem.W.codeIn K cd2 "_law_draw" = true)
    (k2 : PySem.W.keepIn K (.ref f2) = true)
    (a3 : PySem.W.nsIn K mainGlobals "_law_pick" = some (some (.ref f3)))
    (l3 : K.lookup f3 = some ⟨oc3, od3, .func (PySem.W.fnOf "_law_pick" "_law_pick" (defArgs st3) (defBody st3) (defScope st3) .none kV3 dc3 pm3 an3 cd3 ct3), sl3⟩)
    (c3 : PySem.W.codeIn K cd3 "_law_pick" = true)
    (k3 : PySem.W.keepIn K (.ref f3) = true)
    (a4 : PySem.W.nsIn K mainGlobals "_law_shuffled" = some (some (.ref f4)))
    (l4 : K.lookup f4 = some ⟨oc4, od4, .func (PySem.W.fnOf "_law_shuffled" "_law_shuffled" (defArgs st4) (defBody st4) (defScope st4) .none kV4 dc4 pm4 an4 cd4 ct4), sl4⟩)
    (c4 : PySem.W.codeIn K cd4 "_law_shuffled" = true)
    (k4 : PySem.W.keepIn K (.ref f4) = true)
    (a5 : PySem.W.nsIn K mainGlobals "_law_letter" = some (some (.ref f5)))
    (l5 : K.lookup f5 = some ⟨oc5, od5, .func (PySem.W.fnOf "_law_letter" "_law_letter" (defArgs st5) (defBody st5) (defScope st5) .none kV5 dc5 pm5 an5 cd5 ct5), sl5⟩)
    (c5 : PySem.W.codeIn K cd5 "_law_letter" = true)
    (k5 : PySem.W.keepIn K (.ref f5) = true)
    (a6 : PySem.W.nsIn K mainGlobals "_law_many_words" = some (some (.ref f6)))
    (l6 : K.lookup f6 = some ⟨oc6, od6, .func (PySem.W.fnOf "_law_many_words" "_law_many_words" (defArgs st6) (defBody st6) (defScope st6) .none kV6 dc6 pm6 an6 cd6 ct6), sl6⟩)
    (c6 : PySem.W.codeIn K cd6 "_law_many_words" = true)
    (k6 : PySem.W.keepIn K (.ref f6) = true)
    (a7 : PySem.W.nsIn K mainGlobals "_law_stretches_right" = some (some (.ref f7)))
    (l7 : K.lookup f7 = some ⟨oc7, od7, .func (PySem.W.fnOf "_law_stretches_right" "_law_stretches_right" (defArgs st7) (defBody st7) (defScope st7) .none kV7 dc7 pm7 an7 cd7 ct7), sl7⟩)
    (c7 : PySem.W.codeIn K cd7 "_law_stretches_right" = true)
    (k7 : PySem.W.keepIn K (.ref f7) = true)
    (a8 : PySem.W.nsIn K mainGlobals "_law_signs_right" = some (some (.ref f8)))
    (l8 : K.lookup f8 = some ⟨oc8, od8, .func (PySem.W.fnOf "_law_signs_right" "_law_signs_right" (defArgs st8) (defBody st8) (defScope st8) .none kV8 dc8 pm8 an8 cd8 ct8), sl8⟩)
    (c8 : PySem.W.codeIn K cd8 "_law_signs_right" = true)
    (k8 : PySem.W.keepIn K (.ref f8) = true)
    (a9 : PySem.W.nsIn K mainGlobals "_law_cell_right" = some (some (.ref f9)))
    (l9 : K.lookup f9 = some ⟨oc9, od9, .func (PySem.W.fnOf "_law_cell_right" "_law_cell_right" (defArgs st9) (defBody st9) (defScope st9) .none kV9 dc9 pm9 an9 cd9 ct9), sl9⟩)
    (c9 : PySem.W.codeIn K cd9 "_law_cell_right" = true)
    (k9 : PySem.W.keepIn K (.ref f9) = true)
    (a10 : PySem.W.nsIn K mainGlobals "law" = some (some (.ref f10)))
    (l10 : K.lookup f10 = some ⟨oc10, od10, .func (PySem.W.fnOf "law" "law" (defArgs st10) (defBody st10) (defScope st10) .none kV10 dc10 pm10 an10 cd10 ct10), sl10⟩)
    (c10 : PySem.W.codeIn K cd10 "law" = true)
    (k10 : PySem.W.keepIn K (.ref f10) = true)
    (C0 : PySem.W.nsIn K mainGlobals "MAX_LETTERS" = some (some (.int 8 t1)))
    (z0 : PySem.W.nsIn K mainGlobals "all" = some none)
    (z1 : PySem.W.nsIn K mainGlobals "len" = some none)
    (z2 : PySem.W.nsIn K mainGlobals "isinstance" = some none)
    (z3 : PySem.W.nsIn K mainGlobals "str" = some none)
    (z4 : PySem.W.nsIn K mainGlobals "int" = some none)
    (z5 : PySem.W.nsIn K mainGlobals "max" = some none)
    (z6 : PySem.W.nsIn K mainGlobals "abs" = some none)
    (z7 : PySem.W.nsIn K mainGlobals "range" = some none)
    (z8 : PySem.W.nsIn K mainGlobals "list" = some none)
    (z9 : PySem.W.nsIn K mainGlobals "repr" = some none)
    (z10 : PySem.W.nsIn K mainGlobals "min" = some none)
    : ∃ (fa : Nat → Addr) (fd : Nat → FuncData), fa 10 = fl ∧ Lnk K mg fa fd fis ∧ ∀ base, FnG P w K mg base fa fd fis kk := by
  have e : f10 = fl := Value.ref.inj (Option.some.inj ((PySem.W.mg_of X G a10).symm.trans hfl))
  subst e
  have F0 := fun_mk (st := st0) l0 c0 k0
  have F1 := fun_mk (st := st1) l1 c1 k1
  have F2 := fun_mk (st := st2) l2 c2 k2
  have F3 := fun_mk (st := st3) l3 c3 k3
  have F4 := fun_mk (st := st4) l4 c4 k4
  have F5 := fun_mk (st := st5) l5 c5 k5
  have F6 := fun_mk (st := st6) l6 c6 k6
  have F7 := fun_mk (st := st7) l7 c7 k7
  have F8 := fun_mk (st := st8) l8 c8 k8
  have F9 := fun_mk (st := st9) l9 c9 k9
  have F10 := fun_mk (st := st10) l10 c10 k10
  have L : Lnk K mg (fun i => [f0, f1, f2, f3, f4, f5, f6, f7, f8, f9, f10].getD i 0) (fun i => [PySem.W.fnOf "is_word" "is_word" (defArgs st0) (defBody st0) (defScope st0) .none kV0 dc0 pm0 an0 cd0 ct0, PySem.W.fnOf "_law_stock" "_law_stock" (defArgs st1) (defBody st1) (defScope st1) .none kV1 dc1 pm1 an1 cd1 ct1, PySem.W.fnOf "_law_draw" "_law_draw" (defArgs st2) (defBody st2) (defScope st2) .none kV2 dc2 pm2 an2 cd2 ct2, PySem.W.fnOf "_law_pick" "_law_pick" (defArgs st3) (defBody st3) (defScope st3) .none kV3 dc3 pm3 an3 cd3 ct3, PySem.W.fnOf "_law_shuffled" "_law_shuffled" (defArgs st4) (defBody st4) (defScope st4) .none kV4 dc4 pm4 an4 cd4 ct4, PySem.W.fnOf "_law_letter" "_law_letter" (defArgs st5) (defBody st5) (defScope st5) .none kV5 dc5 pm5 an5 cd5 ct5, PySem.W.fnOf "_law_many_words" "_law_many_words" (defArgs st6) (defBody st6) (defScope st6) .none kV6 dc6 pm6 an6 cd6 ct6, PySem.W.fnOf "_law_stretches_right" "_law_stretches_right" (defArgs st7) (defBody st7) (defScope st7) .none kV7 dc7 pm7 an7 cd7 ct7, PySem.W.fnOf "_law_signs_right" "_law_signs_right" (defArgs st8) (defBody st8) (defScope st8) .none kV8 dc8 pm8 an8 cd8 ct8, PySem.W.fnOf "_law_cell_right" "_law_cell_right" (defArgs st9) (defBody st9) (defScope st9) .none kV9 dc9 pm9 an9 cd9 ct9, PySem.W.fnOf "law" "law" (defArgs st10) (defBody st10) (defScope st10) .none kV10 dc10 pm10 an10 cd10 ct10].getD i (PySem.W.fnOf "law" "law" (defArgs st10) (defBody st10) (defScope st10) .none kV10 dc10 pm10 an10 cd10 ct10)) fis := FAll.lnk ⟨⟨F0, PySem.W.mg_of X G a0, sc0, F0.binds (ps := ["value"]) fun _ _ _ _ _ _ us hl => match us, hl with | [_], _ => rfl, rfl, rfl⟩, ⟨F1, PySem.W.mg_of X G a1, sc1, F1.binds (ps := ["_law_script", "_law_at"]) fun _ _ _ _ _ _ us hl => match us, hl with | [_, _], _ => rfl, rfl, rfl⟩, ⟨F2, PySem.W.mg_of X G a2, sc2, F2.binds (ps := ["_law_stock_here", "_law_total"]) fun _ _ _ _ _ _ us hl => match us, hl with | [_, _], _ => rfl, rfl, rfl⟩, ⟨F3, PySem.W.mg_of X G a3, sc3, F3.binds (ps := ["_law_stock_here", "_law_items"]) fun _ _ _ _ _ _ us hl => match us, hl with | [_, _], _ => rfl, rfl, rfl⟩, ⟨F4, PySem.W.mg_of X G a4, sc4, F4.binds (ps := ["_law_stock_here", "_law_items"]) fun _ _ _ _ _ _ us hl => match us, hl with | [_, _], _ => rfl, rfl, rfl⟩, ⟨F5, PySem.W.mg_of X G a5, sc5, F5.binds (ps := ["_law_stock_here"]) fun _ _ _ _ _ _ us hl => match us, hl with | [_], _ => rfl, rfl, rfl⟩, ⟨F6, PySem.W.mg_of X G a6, sc6, F6.binds (ps := ["_law_stock_here", "_law_much"]) fun _ _ _ _ _ _ us hl => match us, hl with | [_, _], _ => rfl, rfl, rfl⟩, ⟨F7, PySem.W.mg_of X G a7, sc7, F7.binds (ps := ["_law_word"]) fun _ _ _ _ _ _ us hl => match us, hl with | [_], _ => rfl, rfl, rfl⟩, ⟨F8, PySem.W.mg_of X G a8, sc8, F8.binds (ps := ["_law_word", "_law_place"]) fun _ _ _ _ _ _ us hl => match us, hl with | [_, _], _ => rfl, rfl, rfl⟩, ⟨F9, PySem.W.mg_of X G a9, sc9, F9.binds (ps := ["_law_stock_here"]) fun _ _ _ _ _ _ us hl => match us, hl with | [_], _ => rfl, rfl, rfl⟩, ⟨F10, PySem.W.mg_of X G a10, sc10, F10.binds (ps := ["_law_script"]) fun _ _ _ _ _ _ us hl => match us, hl with | [_], _ => rfl, rfl, rfl⟩, trivial⟩
  refine ⟨_, _, rfl, L, fun base => fnG_all (gc := gc) (gb := gb) L (CAll.get ⟨c_int X G C0, trivial⟩) (BAll.get ⟨PySem.W.mg_none_of X G z0, PySem.W.mg_none_of X G z1, PySem.W.mg_none_of X G z2, PySem.W.mg_none_of X G z3, PySem.W.mg_none_of X G z4, PySem.W.mg_none_of X G z5, PySem.W.mg_none_of X G z6, PySem.W.mg_none_of X G z7, PySem.W.mg_none_of X G z8, PySem.W.mg_none_of X G z9, PySem.W.mg_none_of X G z10, trivial⟩) bodied kk⟩
end K02

namespace K02
open DI
abbrev fns : List Fn := fnsOf fis
theorem up_all : ∀ c ∈ List.range 26, PySem.Unicode.upperOf (97 + c) = [65 + c] := by decide +kernel
theorem up_low {c : Nat} (h : lower c = true) : PySem.Unicode.upperOf c = [c - 32] := by
  have h' := of_decide_eq_true h
  have := up_all (c - 97) (List.mem_range.mpr (by omega))
  rw [show 97 + (c - 97) = c by omega, show 65 + (c - 97) = c - 32 by omega] at this
  exact this
theorem upper_word {cs : List Nat} (h : ∀ c ∈ cs, lower c = true) : (PySem.Txt.upper (sOf cs)).cps.toList = cs.map (· - 32) := by
  unfold PySem.Txt.upper
  rw [PyProof.Rows.placed_single (sOf cs) _ (· - 32) fun i c hc => up_low (h c ?_)]
  · simp [sOf]
  · rw [sOf_list] at hc
    exact List.mem_of_getElem? hc
/-- a word: one to eight small letters -/
def Wd (d : D) : Prop := ∃ cs : List Nat, d = .str cs ∧ 1 ≤ cs.length ∧ cs.length ≤ 8 ∧ ∀ c ∈ cs, lower c = true
theorem low_lt {c : Nat} (h : lower c = true) : c < 1000 := by have := of_decide_eq_true h; omega
theorem word_low {cs : List Nat} (h : ∀ c ∈ cs, lower c = true) : wordD (.str cs) = decide (1 ≤ cs.length ∧ cs.length ≤ 8) := by
  have : cs.all lower = true := List.all_eq_true.mpr h
  simp only [wordD, this, Bool.and_true]
theorem isw (k : Nat) (cs : List Nat) (h1 : cs.length ≤ 1000) (h2 : ∀ c ∈ cs, c < 1000) : callF fns (k + 1) 0 none [.str cs] = some (.val (.bl (wordD (.str cs))), none) := word_of rfl _ ⟨h1, h2⟩
theorem cut_two {cs : List Nat} {a b : Nat} (h1 : a ≤ b) (h2 : b ≤ cs.length) : (cutL cs (some (a : Int)) (some (b : Int))).length = b - a := by
  unfold cutL
  rw [HT.sIx_nat, HT.sIx_nat]
  simp
  omega
theorem stretches_ok (k : Nat) (d : D) (h : Wd d) : callF fns (k + 2) 7 none [d] = some (.val (.bl true), none) := by
  obtain ⟨cs, rfl, h1, h2, h3⟩ := h
  have key : wo (callF fns (k + 2) 7 none [.str cs]) fun p => p = (.val (.bl true), none) := by
    refine w_fn (fn := fi7.fn) rfl ⟨rfl, rfl, by decide⟩ ?_
    simp [fi7, bd7, start0, show cs.length ≤ 1000000 by omega]
    refine ⟨inW_small (by omega) (by omega), ?_⟩
    refine for_inv (P := fun ds e => ∃ z1 z2, e = [Sl.val (.str cs), z1, z2] ∧ freeS (some z1) = true ∧ freeS (some z2) = true ∧ ∀ d ∈ ds, ∃ i : Nat, d = .int i ∧ (i : Int) < cs.length + 1) _ ?_ ?_ _ _ ⟨.un, .un, rfl, rfl, rfl, fun d hd => mem_rng0 hd⟩
    · rintro d ds env ⟨z1, z2, rfl, hz1, hz2, hd⟩
      obtain ⟨i, rfl, hi⟩ := hd d (by simp)
      refine ⟨hz1, ?_⟩
      simp [show cs.length ≤ 1000000 by omega]
      refine ⟨inW_small (by omega) (by omega), inW_small (by omega) (by omega), ?_⟩
      refine for_inv (P := fun ds e => ∃ z2, e = [Sl.val (.str cs), .val (.int i), z2] ∧ freeS (some z2) = true ∧ ∀ d ∈ ds, ∃ j : Int, d = .int j ∧ (i : Int) ≤ j ∧ j < cs.length + 1) _ ?_ ?_ _ _ ⟨z2, rfl, hz2, fun d hd => mem_rng hd⟩
      · rintro d' ds' env ⟨z2, rfl, hz2, hd'⟩
        obtain ⟨j, rfl, hj, hj2⟩ := hd' d' (by simp)
        refine ⟨hz2, ?_⟩
        obtain ⟨m, rfl⟩ : ∃ m : Nat, j = (m : Int) := ⟨j.toNat, by omega⟩
        have hl := cut_two (cs := cs) (a := i) (b := m) (by omega) (by omega)
        have hw : wordD (.str (cutL cs (some (i : Int)) (some (m : Int)))) = decide ((i : Int) < m) := by
          rw [word_low fun c hc => h3 c (mem_cut hc), hl]
          exact decide_eq_decide.mpr (by omega)
        simp [show cs.length ≤ 1000000 by omega, isw k _ (by rw [hl]; omega) (fun c hc => low_lt (h3 c (mem_cut hc))), hw, okShow_bl]
        exact fun d hd => hd' d (by simp [hd])
      · rintro env ⟨z2, rfl, hz2, hd'⟩
        simp
        exact ⟨_, _, ⟨rfl, rfl⟩, rfl, hz2, fun d hd' => hd d (by simp [hd'])⟩
    · rintro env ⟨z1, z2, rfl, hz1, hz2, hd⟩
      have hr : wordD (.str cs.reverse) = true := by
        rw [word_low fun c hc => h3 c (List.mem_reverse.mp hc)]
        exact decide_eq_true (by rw [List.length_reverse]; omega)
      have hu : wordD (.str (cs.map (· - 32))) = false := by
        cases cs with
        | nil => simp at h1
        | cons c r =>
          have := of_decide_eq_true (h3 c (by simp))
          have hc : lower (c - 32) = false := decide_eq_false (by omega)
          simp [wordD, hc]
      simp [show cs.length ≤ 1000000 by omega, upper_word h3, isw k cs.reverse (by simp; omega) (fun c hc => low_lt (h3 c (List.mem_reverse.mp hc))), isw k (cs.map (· - 32)) (by simp; omega) (fun c hc => by
        obtain ⟨b, hb, rfl⟩ := List.mem_map.mp hc
        have := low_lt (h3 b hb)
        omega), hr, hu]
  obtain ⟨p, e1, rfl⟩ := key
  exact e1
end K02

namespace K02
open DI
theorem cut_to {cs : List Nat} {p : Nat} (h : p ≤ cs.length) : (cutL cs none (some (p : Int))).length = p := by
  unfold cutL
  rw [HT.sIx_nat]
  simp [HT.sIx_none]
  omega
theorem cut_from {cs : List Nat} {p : Nat} : (cutL cs (some (p : Int)) none).length = cs.length - p := by
  unfold cutL
  rw [HT.sIx_nat]
  simp [HT.sIx_none]
  omega
def alpha : List Nat := [97, 98, 99, 100, 101, 102, 103, 104, 105, 106, 107, 108, 109, 110, 111, 112, 113, 114, 115, 116, 117, 118, 119, 120, 121, 122]
def others : List Nat := [32, 33, 34, 35, 36, 38, 39, 40, 41, 42, 43, 44, 45, 46, 47, 48, 49, 50, 51, 52, 53, 54, 55, 56, 57, 58, 59, 60, 61, 62, 63, 64, 65, 66, 67, 68, 69, 70, 71, 72, 73, 74, 75, 76, 77, 78, 79, 80, 81, 82, 83, 84, 85, 86, 87, 88, 89, 90, 91, 92, 93, 94, 95, 96, 123, 124, 125, 126, 10]
def signs : List Nat := alpha ++ others
theorem in_alpha (c : Nat) : c ∈ alpha ↔ lower c = true := by
  unfold alpha lower
  simp
  omega
theorem signs_lt : ∀ c ∈ signs, c < 1000 := by decide
/-- a sign put into a word -/
theorem put_word {a b : List Nat} {c : Nat} (h1 : ∀ x ∈ a, lower x = true) (h2 : ∀ x ∈ b, lower x = true) : wordD (.str (a ++ c :: b)) = (lower c && decide (a.length + b.length < 8)) := by
  have e1 : a.all lower = true := List.all_eq_true.mpr h1
  have e2 : b.all lower = true := List.all_eq_true.mpr h2
  simp only [wordD, List.all_append, e1, e2, List.all_cons, Bool.and_true, Bool.true_and]
  rw [Bool.and_comm]
  congr 1
  exact decide_eq_decide.mpr (by simp; omega)
theorem signs_ok (k : Nat) (d : D) (p : Int) (h : Wd d) (hp : 0 ≤ p) (hp2 : ∀ cs, d = .str cs → p < cs.length + 1) : callF fns (k + 2) 8 none [d, .int p] = some (.val (.bl true), none) := by
  obtain ⟨cs, rfl, h1, h2, h3⟩ := h
  obtain ⟨p, rfl⟩ : ∃ m : Nat, p = (m : Int) := ⟨p.toNat, by omega⟩
  have hp3 := hp2 cs rfl
  have key : wo (callF fns (k + 2) 8 none [.str cs, .int p]) fun q => q = (.val (.bl true), none) := by
    refine w_fn (fn := fi8.fn) rfl ⟨rfl, rfl, by decide⟩ ?_
    simp [fi8, bd8, start0]
    refine for_inv (P := fun ds e => ∃ z3 z4 z5, e = [Sl.val (.str cs), .val (.int p), .val (.str (alpha)), z3, z4, z5] ∧ freeS (some z3) = true ∧ freeS (some z4) = true ∧ freeS (some z5) = true ∧ ∀ d ∈ ds, ∃ c, c ∈ signs ∧ d = .str [c]) _ ?_ ?_ _ _ ⟨.un, .un, .un, rfl, rfl, rfl, rfl, ?_⟩
    · rintro d ds env ⟨z3, z4, z5, rfl, hz3, hz4, hz5, hd⟩
      obtain ⟨c, hc, rfl⟩ := hd d (by simp)
      refine ⟨hz3, ?_⟩
      have c1 := len_cutTo cs (p : Int)
      have c2 := len_cutFrom cs (p : Int)
      have c3 := len_cutFrom cs ((p : Int) + 1)
      simp [show cs.length ≤ 1000000 by omega, hz4]
      refine ⟨by omega, by omega, by omega, ?_⟩
      refine for_inv (P := fun ds e => ∃ z5, e = [Sl.val (.str cs), .val (.int p), .val (.str alpha), .val (.str [c]), .val (.str (cutL cs none (some (p : Int)) ++ [c])), z5] ∧ freeS (some z5) = true ∧ ∀ d ∈ ds, ∃ a b : List Nat, d = .str (a ++ c :: b) ∧ a.length ≤ 100 ∧ b.length ≤ 100 ∧ (∀ x ∈ a, lower x = true) ∧ ∀ x ∈ b, lower x = true) _ ?_ ?_ _ _ ⟨z5, rfl, hz5, ?_⟩
      · rintro d' ds' env ⟨z5, rfl, hz5, hd'⟩
        obtain ⟨a, b, rfl, ha, hb, ha2, hb2⟩ := hd' d' (by simp)
        refine ⟨hz5, ?_⟩
        have hw := put_word (c := c) ha2 hb2
        have hi := isw k (a ++ c :: b) (by simp; omega) (fun x hx => by
          simp only [List.mem_append, List.mem_cons] at hx
          rcases hx with hx | rfl | hx
          · exact low_lt (ha2 x hx)
          · exact signs_lt x hc
          · exact low_lt (hb2 x hx))
        simp [hi, hw, okShow_bl, in_alpha, show a.length + (b.length + 1) ≤ 1000000 by omega]
        have rest : ∀ d ∈ ds', ∃ a b : List Nat, d = .str (a ++ c :: b) ∧ a.length ≤ 100 ∧ b.length ≤ 100 ∧ (∀ x ∈ a, lower x = true) ∧ ∀ x ∈ b, lower x = true := fun d hd => hd' d (by simp [hd])
        cases hl : lower c with
        | false => exact .inl ⟨rfl, by simp, rest⟩
        | true =>
          refine .inr ⟨rfl, ?_, rest⟩
          have e : decide (a.length + b.length < 8) = decide ((a.length : Int) + ((b.length : Int) + 1) < 9) := decide_eq_decide.mpr (by omega)
          rw [Bool.true_and, e]
      · rintro env ⟨z5, rfl, hz5, hd'⟩
        simp
        exact ⟨_, _, _, ⟨rfl, rfl, rfl⟩, rfl, rfl, hz5, fun d hd' => hd d (by simp [hd'])⟩
      · intro d hd
        simp only [List.mem_cons, List.not_mem_nil, or_false] at hd
        rcases hd with rfl | rfl
        · exact ⟨_, _, rfl, by omega, by omega, fun x hx => h3 x (mem_cut hx), fun x hx => h3 x (mem_cut hx)⟩
        · exact ⟨_, _, rfl, by omega, by omega, fun x hx => h3 x (mem_cut hx), fun x hx => h3 x (mem_cut hx)⟩
    · rintro env ⟨z3, z4, z5, rfl, hz3, hz4, hz5, hd⟩
      simp
    · intro d hd
      obtain ⟨c, hc, rfl⟩ := List.mem_map.mp (show d ∈ signs.map fun c => D.str [c] from hd)
      exact ⟨c, hc, rfl⟩
  obtain ⟨p, e1, rfl⟩ := key
  exact e1
end K02

namespace K02
open DI
theorem draw_ok (k : Nat) : DrawOk (callF fns (k + 1)) 2 := draw_of rfl
theorem low_texts : ∀ xs : List D, (∀ x ∈ xs, low x) → ∃ ts : List (List Nat), xs = ts.map D.str ∧ (∀ t ∈ ts, t.length = 1 ∧ ∀ c ∈ t, lower c = true)
  | [], _ => ⟨[], rfl, by simp⟩
  | x :: xs, h => by
    obtain ⟨ts, rfl, h2⟩ := low_texts xs fun y hy => h y (by simp [hy])
    obtain ⟨c, rfl, h3, h4⟩ := h x (by simp)
    exact ⟨[c] :: ts, rfl, by
      intro t ht
      rcases List.mem_cons.mp ht with rfl | ht
      · exact ⟨rfl, by simp; exact decide_eq_true ⟨h3, h4⟩⟩
      · exact h2 t ht⟩
theorem sum_ones : ∀ ts : List (List Nat), (∀ t ∈ ts, t.length = 1 ∧ ∀ c ∈ t, lower c = true) → (ts.map (·.length)).sum = ts.length ∧ ts.flatten.length = ts.length ∧ ∀ c ∈ ts.flatten, lower c = true
  | [], _ => by simp
  | t :: ts, h => by
    obtain ⟨a, b, c⟩ := sum_ones ts fun y hy => h y (by simp [hy])
    obtain ⟨d, e⟩ := h t (by simp)
    refine ⟨by simp [a, d]; omega, by simp [b, d]; omega, ?_⟩
    intro x hx
    simp only [List.flatten_cons, List.mem_append] at hx
    rcases hx with hx | hx
    · exact e x hx
    · exact c x hx
theorem add_W {ys : List D} {w : D} (h : ∀ y ∈ ys, Wd y) (hw : Wd w) : ∀ y ∈ ys ++ [w], Wd y := by
  intro y hy
  rcases List.mem_append.mp hy with hy | hy
  · exact h y hy
  · rw [List.mem_singleton.mp hy]; exact hw
theorem words_ok (k n : Nat) (xs : List D) (h : Stk n xs) (hn : n ≤ 1000) : wo (callF fns (k + 3) 6 (some xs) [.int 2]) fun p => ∃ ys zs, p = (.val (.lst ys), some zs) ∧ ys.length = 2 ∧ (∀ y ∈ ys, Wd y) ∧ Stk (n + 60) zs := by
  refine w_fn (fn := fi6.fn) rfl ⟨rfl, rfl, by decide⟩ ?_
  simp [fi6, bd6, start0]
  refine wo_mono (draw_ok (k + 1) n xs 8 h (by omega) (by omega) (by omega)) ?_
  rintro p ⟨r, st1, rfl, r1, r2, hs1⟩
  simp
  refine ⟨inW_small r1 (by omega), ?_⟩
  refine lc_invF (fun ds acc e => ∃ st z, e = [Sl.io st, .val (.int 2), .un, .un, .un, .un, .un, z] ∧ Stk (n + 1 + acc.length) st ∧ acc.length + ds.length = r.toNat ∧ ∀ x ∈ acc, low x) ?_ _ _
      ⟨st1, .un, rfl, by simpa using hs1, by simp [rng], by simp⟩ _ ?_
  · rintro d' ds' acc env ⟨st, z6, rfl, h1, h2, h3⟩
    simp only [List.length_cons] at h2
    simp
    refine wo_mono (letter_of (fns := fns) (f := 5) (dr := 2) (k := k + 1) rfl (draw_ok k) _ st h1 (by omega)) ?_
    rintro p ⟨y, st', rfl, g1, g2⟩
    simp
    refine ⟨by omega, ?_, by omega, ?_⟩
    · exact g2
    · rintro x (hx | rfl)
      · exact h3 x hx
      · exact g1
  rintro acc e2 ⟨st2, z6, rfl, hs2, hl, hlow⟩
  obtain ⟨ts, rfl, h1⟩ := low_texts acc hlow
  obtain ⟨s1, s2, s3⟩ := sum_ones ts h1
  simp only [List.length_map, List.length_nil] at hs2 hl
  simp only [o_join [] ts (by rw [s1, o_big]; simp; omega), joinL_nil]
  generalize ts.flatten = text at s2 s3
  simp
  refine wo_mono (draw_ok (k + 1) _ st2 2 hs2 (by omega) (by omega) (by omega)) ?_
  rintro p ⟨way, st3, rfl, w1, w2, hs3⟩
  simp [show text.length ≤ 1000000 by omega]
  refine wo_mono (draw_ok (k + 1) _ st3 (text.length + 1) hs3 (by omega) (by omega) (by omega)) ?_
  rintro p ⟨pl, st4, rfl, p1, p2, hs4⟩
  simp
  refine wo_mono (shuf_of (fns := fns) (f := 4) (dr := 2) (k := k + 1) rfl (draw_ok k) _ st4 (alpha.map fun c => D.str [c]) _ hs4 (by omega) (by decide) rfl rfl) ?_
  rintro p ⟨zs, st5, rfl, l1, l2, hs5⟩
  have l3 : zs.length = 26 := l1.trans (by decide)
  have l4 : (alpha.map fun c => D.str [c]).length = 26 := by decide
  rw [l4] at hs5
  simp
  have hc2 : cutL zs none (some 2) = zs.take 2 := by
    unfold cutL
    rw [l3]
    rfl
  rw [hc2]
  have hzs : ∀ z ∈ zs.take 2, ∃ c, z = .str [c] ∧ lower c = true := fun z hz => by
    obtain ⟨c, hc, rfl⟩ := List.mem_map.mp (l2 z (List.mem_of_mem_take hz))
    exact ⟨c, rfl, (in_alpha c).mp hc⟩
  have c1 := len_cutTo text pl
  have c2 := len_cutFrom text pl
  have cpl : (cutL text none (some pl)).length + (cutL text (some pl) none).length = text.length := by
    obtain ⟨m, rfl⟩ : ∃ m : Nat, pl = (m : Int) := ⟨pl.toNat, by omega⟩
    rw [cut_to (by omega), cut_from]
    omega
  refine for_inv (P := fun ds e => ∃ (st ys : List D) (z6 : Sl) (m : Nat), e = [Sl.io st, .val (.int 2), .val (.str text), .val (.int way), .own ys, .val (.int pl), z6, .un] ∧ freeS (some z6) = true ∧ Stk (n + 1 + ts.length + 1 + 1 + 26 + m) st ∧ m + ds.length = 2 ∧ ys.length = m ∧ (∀ y ∈ ys, Wd y) ∧ ∀ d ∈ ds, ∃ c, d = .str [c] ∧ lower c = true) _ ?_ ?_ _ _
    ⟨st5, [], .un, 0, rfl, rfl, by simpa using hs5, by simp [l3], rfl, by simp, hzs⟩
  · rintro d ds env ⟨st, ys, z6, m, rfl, hz6, hs, hm, hy, hW, hd⟩
    obtain ⟨c, rfl, hc⟩ := hd d (by simp)
    refine ⟨hz6, ?_⟩
    simp only [List.length_cons] at hm
    simp [show text.length ≤ 1000000 by omega]
    split
    · refine ⟨by omega, by omega, by omega, _, _, _, ⟨rfl, rfl, rfl⟩, rfl, m + 1, hs.mono (by omega), by omega, by simp [hy], add_W hW ?_, fun d hd' => hd d (List.mem_cons_of_mem _ hd')⟩
      refine ⟨_, rfl, by simp; omega, by simp; omega, ?_⟩
      intro x hx
      simp only [List.mem_append, List.mem_cons] at hx
      rcases hx with hx | rfl | hx
      · exact s3 x (mem_cut hx)
      · exact hc
      · exact s3 x (mem_cut hx)
    · refine wo_mono (draw_ok (k + 1) _ st (text.length + 1) hs (by omega) (by omega) (by omega)) ?_
      rintro p ⟨q, st6, rfl, q1, q2, hs6⟩
      have c3 := len_cutTo text q
      simp [show text.length ≤ 1000000 by omega]
      refine ⟨by omega, by omega, _, _, _, ⟨rfl, rfl, rfl⟩, rfl, m + 1, hs6, by omega, by simp [hy], add_W hW ?_, fun d hd' => hd d (List.mem_cons_of_mem _ hd')⟩
      refine ⟨_, rfl, by simp, by simp; omega, ?_⟩
      intro x hx
      simp only [List.mem_cons] at hx
      rcases hx with rfl | hx
      · exact hc
      · exact s3 x (mem_cut hx)
  · rintro env ⟨st, ys, z6, m, rfl, hz6, hs, hm, hy, hW, hd⟩
    simp
    exact ⟨_, _, ⟨rfl, rfl⟩, by simpa [hy] using hm, hW, hs.mono (by simp at hm; omega)⟩
/-- a text of small letters -/
def Lw (d : D) : Prop := ∃ cs : List Nat, d = .str cs ∧ 1 ≤ cs.length ∧ cs.length ≤ 100 ∧ ∀ c ∈ cs, lower c = true
theorem cell_ok (k : Nat) (xs : List D) (h : Stk 0 xs) : wo (callF fns (k + 4) 9 (some xs) []) fun p => p.1 = .val (.bl true) := by
  refine w_fn (fn := fi9.fn) rfl ⟨rfl, rfl, by decide⟩ ?_
  simp [fi9, bd9, start0]
  refine wo_mono (words_ok k 0 xs h (by omega)) ?_
  rintro p ⟨ys, st1, rfl, hl, hW, hs1⟩
  match ys, hl with
  | [y1, y2], _ =>
  have hW1 := hW y1 (by simp)
  have hW2 := hW y2 (by simp)
  simp
  refine wo_mono (pick_of (fns := fns) (f := 3) (dr := 2) (k := k + 2) rfl (draw_ok (k + 1)) _ st1 _ hs1 (by omega) (by simp) (by simp)) ?_
  rintro p ⟨o, st2, rfl, ho, hs2⟩
  have hWo := hW o ho
  obtain ⟨cs, rfl, a1, a2, a3⟩ := id hW1
  obtain ⟨os, rfl, b1, b2, b3⟩ := id hWo
  have c1 := len_cutTo os (8 - (cs.length : Int))
  simp [show cs.length ≤ 1000000 by omega, show os.length ≤ 1000000 by omega]
  refine ⟨by omega, by omega, by omega, by omega, ?_⟩
  refine for_inv (P := fun ds e => ∃ z, e = [Sl.io st2, .val (.lst [.str cs, y2]), .val (.str cs), .val (.str os), z] ∧ freeS (some z) = true ∧ ∀ d ∈ ds, Lw d) _ ?_ ?_ _ _ ⟨.un, rfl, rfl, ?_⟩
  · rintro d ds env ⟨z, rfl, hz, hd⟩
    refine ⟨hz, ?_⟩
    obtain ⟨ws, rfl, w1, w2, w3⟩ := hd d (by simp)
    have hi := isw (k + 2) ws (by omega) (fun c hc => low_lt (w3 c hc))
    have hw : wordD (.str ws) = decide ((ws.length : Int) ≤ 8) := by
      rw [word_low w3]
      exact decide_eq_decide.mpr (by omega)
    simp [hi, hw, okShow_bl, show ws.length ≤ 1000000 by omega]
    exact fun d hd' => hd d (by simp [hd'])
  · rintro env ⟨z, rfl, hz, hd⟩
    simp
    refine for_inv (P := fun ds e => ∃ st z m, e = [Sl.io st, .val (.lst [.str cs, y2]), .val (.str cs), .val (.str os), z] ∧ freeS (some z) = true ∧ Stk (61 + m) st ∧ m + ds.length = 2 ∧ ∀ d ∈ ds, Wd d) _ ?_ ?_ _ _ ⟨st2, z, 0, rfl, hz, by simpa using hs2, rfl, hW⟩
    · rintro d ds env ⟨st, z, m, rfl, hz, hs, hm, hd⟩
      refine ⟨hz, ?_⟩
      simp only [List.length_cons] at hm
      have hWd := hd d (by simp)
      obtain ⟨ws, rfl, w1, w2, w3⟩ := id hWd
      simp [stretches_ok (k + 1) (.str ws) hWd, show ws.length ≤ 1000000 by omega]
      refine wo_mono (draw_ok (k + 2) _ st (ws.length + 1) hs (by omega) (by omega) (by omega)) ?_
      rintro p ⟨q, st6, rfl, q1, q2, hs6⟩
      simp [signs_ok (k + 1) (.str ws) q hWd q1 (fun cs e => by cases e; exact q2)]
      exact ⟨_, _, ⟨rfl, rfl⟩, rfl, m + 1, hs6, by omega, fun d hd' => hd d (List.mem_cons_of_mem _ hd')⟩
    · rintro env ⟨st, z, m, rfl, hz, hs, hm, hd⟩
      simp
  · intro d hd
    simp only [List.mem_cons, List.not_mem_nil, or_false] at hd
    have two : ∀ {u v : List Nat}, 1 ≤ u.length → u.length ≤ 8 → v.length ≤ 8 → (∀ c ∈ u, lower c = true) → (∀ c ∈ v, lower c = true) → Lw (.str (u ++ v)) := fun {u v} p1 p2 p3 p4 p5 =>
      ⟨_, rfl, by simp; omega, by simp; omega, fun c hc => by
        rcases List.mem_append.mp hc with hc | hc
        · exact p4 c hc
        · exact p5 c hc⟩
    rcases hd with rfl | rfl | rfl | rfl
    · exact two a1 a2 b2 a3 b3
    · exact two a1 a2 a2 a3 a3
    · exact two b1 b2 a2 b3 a3
    · exact two a1 a2 (by omega) a3 fun c hc => b3 c (mem_cut hc)
def depth : Nat := 5
theorem right : ∀ ns : List Int, ns.length ≤ 63 → callF (fnsOf fis) depth 10 none [.scr (ns.map .int)] = some (.val (.bl true), none) := by
  intro ns hn
  have key : wo (callF fns 5 10 none [.scr (ns.map .int)]) fun p => p = (.val (.bl true), none) := by
    refine w_fn (fn := fi10.fn) rfl ⟨rfl, rfl, by decide⟩ ?_
    simp [fi10, bd10, start0]
    generalize hN : (if (1 : Int) < (if (ns.length : Int) < 6 then (ns.length : Int) else 6) then (if (ns.length : Int) < 6 then (ns.length : Int) else 6) else 1) = N
    have n1 : 0 ≤ N ∧ N ≤ 10 := by
      subst hN
      repeat' split
      all_goals omega
    refine ⟨inW_small n1.1 (by omega), ?_⟩
    refine for_inv (P := fun ds e => ∃ z, e = [Sl.val (.scr (ns.map .int)), z] ∧ freeS (some z) = true ∧ ∀ d ∈ ds, ∃ i : Nat, d = .int i ∧ (i : Int) < N) _ ?_ ?_ _ _ ⟨.un, rfl, rfl, fun d hd => mem_rng0 hd⟩
    · rintro d ds env ⟨z, rfl, hz, hd⟩
      obtain ⟨i, rfl, hi⟩ := hd d (by simp)
      refine ⟨hz, ?_⟩
      simp
      refine wo_mono (stock_of (fns := fns) (f := 1) rfl ns i (by omega)) ?_
      rintro p ⟨xs, rfl, hs⟩
      simp
      refine wo_mono (cell_ok 0 xs hs) ?_
      rintro p hp
      simp [hp]
      exact fun d' hd' => hd d' (List.mem_cons_of_mem _ hd')
    · rintro env ⟨z, rfl, hz, hd⟩
      simp
  obtain ⟨p, e, rfl⟩ := key
  exact e
end K02

open PySem PySem.W PyProof.Rows
set_option maxRecDepth 100000 in
set_option maxHeartbeats 0 in
theorem PySem.Challenge.cw_fallsback_k02_whole_parts_of_words_holds : PySem.Challenge.rw_fallsback_k02_whole_parts_of_words.Holds := by
  w_on; o_law; k_head; (case hw => w_witness2)
  k_fill
  refine DI.walk_G (l := PySem.Challenge.rw_fallsback_k02_whole_parts_of_words) (n := 63) (k := K02.depth) (fis := K02.fis) (f := 10) rfl (by decide) rfl ⟨rfl, by decide, by decide⟩ (fun w h Y => PySem.W.kIn_of Y) rfl ?F K02.right
  case F =>
    intro w mg fl h KX G hmg
    refine' K02.all_mk KX G hmg ?a0 ?l0 ?c0 ?k0 ?a1 ?l1 ?c1 ?k1 ?a2 ?l2 ?c2 ?k2 ?a3 ?l3 ?c3 ?k3 ?a4 ?l4 ?c4 ?k4 ?a5 ?l5 ?c5 ?k5 ?a6 ?l6 ?c6 ?k6 ?a7 ?l7 ?c7 ?k7 ?a8 ?l8 ?c8 ?k8 ?a9 ?l9 ?c9 ?k9 ?a10 ?l10 ?c10 ?k10 ?C0 ?z0 ?z1 ?z2 ?z3 ?z4 ?z5 ?z6 ?z7 ?z8 ?z9 ?z10
    (case a0 => k_is); (case l0 => k_is); (case c0 => k_is); (case k0 => k_is); (case a1 => k_is); (case l1 => k_is); (case c1 => k_is); (case k1 => k_is)
    (case a2 => k_is); (case l2 => k_is); (case c2 => k_is); (case k2 => k_is); (case a3 => k_is); (case l3 => k_is); (case c3 => k_is); (case k3 => k_is)
    (case a4 => k_is); (case l4 => k_is); (case c4 => k_is); (case k4 => k_is); (case a5 => k_is); (case l5 => k_is); (case c5 => k_is); (case k5 => k_is)
    (case a6 => k_is); (case l6 => k_is); (case c6 => k_is); (case k6 => k_is); (case a7 => k_is); (case l7 => k_is); (case c7 => k_is); (case k7 => k_is)
    (case a8 => k_is); (case l8 => k_is); (case c8 => k_is); (case k8 => k_is); (case a9 => k_is); (case l9 => k_is); (case c9 => k_is); (case k9 => k_is)
    (case a10 => k_is); (case l10 => k_is); (case c10 => k_is); (case k10 => k_is); (case C0 => k_is); (case z0 => k_is); (case z1 => k_is); (case z2 => k_is)
    (case z3 => k_is); (case z4 => k_is); (case z5 => k_is); (case z6 => k_is); (case z7 => k_is); (case z8 => k_is); (case z9 => k_is); (case z10 => k_is)
